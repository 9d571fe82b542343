import PyProof.Rows.All
import Wide.All
import OpenK.AllK
import Wide.FinOn
import HandS.ForMost
import HandS.ForExc
import HandS.More
import HandS.Walk
import HandS.Flow
import HandS.CallSlots
import HandS.HeadHook1
import HandS.ExcInit
import KE.KExcInit
import KE.KExcIs
import KE.KNestM
import KE.KIsAll
import HandS.Head0
import HandS.Head1
import HandS.Head2
import HandS.HeadEnd
import HandS.HeadHook2
import PySem.Challenge.RW_settlesfirst_k14_states_come_to_and_part
import KE.KStateDown
import HandS.Lambda
import HandS.ExcOwn
import HandS.Defaults
import HandS.IsInst
import HandS.Strs
import HandS.TupAny
import HandS.Style
import HandS.Call
import PyProof.ReprRoads
import PyProof.CallFns
import HandS.Iter
import HandS.Ends
import HandS.Exc
import HandS.ExcField
import KE.GoesMore
import HandS.Dict
import HandS.Property
import KE.KCallOwn
import HandS.DictComp
import HandS.SortInts
import HandS.Conv
import HandS.FStr
import HandS.EndTab
import PyProof.Rows.StrFin3
import PyProof.ReprLen
set_option Elab.async false
set_option linter.all false
set_option maxRecDepth 100000
set_option maxHeartbeats 0
set_option autoImplicit false
namespace Mi
open PySem
/-- the defs that make lambdas -/
def lamNames : List Str := []
end Mi

namespace Mi
open PySem PySem.Spec PyProof.Rows L2
abbrev tlOf (B : String) : List Value := [.type B, .type "Exception", .type "BaseException", .type "object"]
def xcB (K : PySem.W.Frag) (C : Addr) (newId : String) (bmB : List Value) : Bool :=
  PySem.W.excInitIn K C bmB newId && (PySem.W.excOver K C bmB && (PySem.W.hasDictIn K C && (PySem.W.keepIn K (.ref C) && (decide (PySem.W.findIn K (.ref C) "__setattr__" = some (some (.builtin "object.__setattr__"))) && (decide (PySem.W.subIn K (.ref C) (.type "BaseException") = some true) &&
  (decide (PySem.W.typeIn K (.ref C) = some (.type "type")) && (decide (PySem.W.findIn K (.ref C) "__getattribute__" = some (some (.builtin "BaseException.__getattribute__"))) && (decide (PySem.W.findIn K (.ref C) "__getattr__" = some none) && ((PySem.W.clsIn K C).isSome &&
  (decide (PySem.W.findIn K (.ref C) "__class__" = some (some (.builtin "object.__class__"))) && decide (PySem.W.mroIn K C (.type "object") = some true)))))))))))
def xinB (K : PySem.W.Frag) (bs : Addr) (initId : String) : Bool := PySem.W.readsIn K bs (.type "type") && (decide (PySem.W.specialIn K (.ref bs) "__getattribute__" = some (some (.builtin "type.__getattribute__"))) && (match PySem.W.findCls K (.ref bs) (.type "type") "__init__" with | some (.val v) => v == .builtin initId | _ => false))
def obsM (fa : List He.Fa) (fn : List He.DefD) (ck : PySem.W.Frag → Bool) (K : PySem.W.Frag) : Bool × He.AlD := (ck K, He.obsD fa fn K)
def frM (n : Nat) (g : Addr → Option Obj) : PySem.W.Frag := He.frG g (sysModules :: cStatics :: He.asD g n)
def obsMG (n : Nat) (fa : List He.Fa) (fn : List He.DefD) (ck : PySem.W.Frag → Bool) (g : Addr → Option Obj) : Bool × He.AlD := obsM fa fn ck (frM n g)
def SaysM (fa : List He.Fa) (fn : List He.DefD) (ck : PySem.W.Frag → Bool) (K : PySem.W.Frag) : Prop := ck K = true ∧ He.SaysD fa fn K
def hookM (n : Nat) (fa : List He.Fa) (fn : List He.DefD) (ck : PySem.W.Frag → Bool) : PySem.W.Hook where
  α := Bool × He.AlD
  obs := fun s => obsMG n fa fn ck s.heap.get?
  val := fun _ => (true, He.valD fn)
  says := fun _ h => ∃ K : PySem.W.Frag, K.In h ∧ SaysM fa fn ck K
  of := fun _ _ e => ⟨_, He.frG_in, congrArg Prod.fst e, congrArg Prod.snd e⟩
  keeps := fun _ _ _ ⟨K, hK, c⟩ k => ⟨K, PySem.W.Frag.In.keeps hK k, c⟩
theorem obsMG_eq {n : Nat} {fa : List He.Fa} {fn : List He.DefD} {ck : PySem.W.Frag → Bool} {g : Addr → Option Obj} {s : Shared} (h : ∀ a, g a = s.heap.get? a) : obsMG n fa fn ck g = (hookM n fa fn ck).obs s := by
  have e : g = s.heap.get? := funext h
  rw [e] <;> rfl
def sysB (K : PySem.W.Frag) : Bool := match K.lookup sysModules with
  | some o => o.cls == .type "dict"
  | none => false
def obcB (K : PySem.W.Frag) : Bool := decide (PySem.W.specialIn K (.builtin "object.__class__") "__get__" = some (some (.builtin "getset_descriptor.__get__"))) && decide (PySem.W.takesIn K (.builtin "object.__class__") = some true)
def xallB (K : PySem.W.Frag) (cs : List (Str × String)) : Bool := cs.all fun p => xcB K (He.ga K p.1) (p.2 ++ ".__new__") (tlOf p.2)
def nofB (K : PySem.W.Frag) (cs : List Str) (f : Str) : Bool := cs.all fun c => He.eqO (PySem.W.findIn K (.ref (He.ga K c)) f) (some none)
def kvOf (K : PySem.W.Frag) (t : Str ⊕ String) : Value := match t with
  | .inl x => .ref (He.ga K x)
  | .inr T => .type T
def isB (K : PySem.W.Frag) (t : Str ⊕ String) (tb : List (Str × Bool)) : Bool := tb.all fun p => decide (PySem.W.kitOne K (.ref (He.ga K p.1)) (kvOf K t) = some p.2)
def inB (K : PySem.W.Frag) (cs : List Str) : Bool := cs.all fun c => He.eqO (PySem.W.findIn K (.ref (He.ga K c)) "__init__") (some (some (.ref (He.ma K (He.ga K c) "__init__")))) && decide (PySem.W.typeIn K (.ref (He.ma K (He.ga K c) "__init__")) = some (.type "function"))
/-! ### tables of code objects: the defs that make lambdas -/
/-- the table of the def's code object, as the written part tells it -/
def codeOf (K : PySem.W.Frag) (x : Str) : Option (Addr × Addr) := match K.lookup (He.ga K x) with
  | some o => (match o.data with
    | .func fd => (match fd.code with
      | .ref c => (match K.lookup c with
        | some oc => (match oc.data with
          | .fields vs => (match (vs[11]? : Option Value) with
            | some (.ref P) => some (c, P)
            | _ => none)
          | _ => none)
        | none => none)
      | _ => none)
    | _ => none)
  | none => none
def lamT (K : PySem.W.Frag) : List (Addr × Str) := lamNames.filterMap fun x => (codeOf K x).map fun p => (p.2, (x ++ ".<locals>.") ++ "<lambda>")
/-- the code objects of the defs that make lambdas, with their tables -/
def lamCs (K : PySem.W.Frag) : List (Addr × Addr) := lamNames.filterMap (codeOf K)
/-- the tables are empty -/
def tabB (g : Addr → Option Obj) (K : PySem.W.Frag) : Bool := (lamCs K).all fun p => match g p.2 with
  | some ⟨.none, none, .fields vs, sl⟩ => vs.size == 0 && sl.size == 0
  | _ => false
def lamB (K : PySem.W.Frag) (xs : List Str) : Bool := (xs.all fun x => lamNames.contains x && (codeOf K x).isSome) && ((lamCs K).all fun p => PySem.W.codeHdIn K p.1 p.2 && (K.lookup p.2).isNone) && decide ((lamT K).map (·.1)).Nodup
/-- the tables left out -/
def frL (n : Nat) (g : Addr → Option Obj) : PySem.W.Frag := (frM n g).filter fun p => !((lamCs (frM n g)).any fun q => q.2 == p.1)
theorem look_filter (f : Addr → Bool) {a : Addr} {o : Obj} : ∀ {K : List (Addr × Obj)}, (K.filter fun p => f p.1).lookup a = some o → K.lookup a = some o
  | [], h => by simp at h
  | (b, x) :: K, h => by
    rw [List.filter_cons] at h
    rw [List.lookup_cons]
    cases hb : f b with
    | true =>
      rw [show f (b, x).1 = true from hb] at h
      simp only [if_true, List.lookup_cons] at h
      cases q : (a == b) with
      | true => rw [q] at h; exact h
      | false => rw [q] at h; exact look_filter f h
    | false =>
      rw [show f (b, x).1 = false from hb] at h
      simp only [Bool.false_eq_true, if_false] at h
      cases q : (a == b) with
      | true =>
        exfalso
        have e := beq_iff_eq.mp q
        subst e
        have : ∀ {K : List (Addr × Obj)}, (K.filter fun p => f p.1).lookup a ≠ some o := fun {K} => by
          induction K with
          | nil => simp
          | cons p K ih =>
            obtain ⟨b', x'⟩ := p
            rw [List.filter_cons]
            cases hp : f b' with
            | true =>
              simp only [if_true, List.lookup_cons]
              cases q2 : (a == b') with
              | true => rw [← beq_iff_eq.mp q2, hb] at hp; cases hp
              | false => exact ih
            | false =>
              simp only [Bool.false_eq_true, if_false]
              exact ih
        exact this h
      | false => exact look_filter f h
theorem frL_in {n : Nat} {h : Heap} : (frL n h.get?).In h := fun a o e => He.frG_in a o (look_filter (fun b => !((lamCs (frM n h.get?)).any fun q => q.2 == b)) e)
def obsL (n : Nat) (fa : List He.Fa) (fn : List He.DefD) (ck : PySem.W.Frag → Bool) (g : Addr → Option Obj) : Bool × He.AlD := (ck (frL n g) && tabB g (frL n g), He.obsD fa fn (frL n g))
def SaysL (fa : List He.Fa) (fn : List He.DefD) (ck : PySem.W.Frag → Bool) (K : PySem.W.Frag) (h : Heap) : Prop := (∀ p ∈ lamCs K, h.get? p.2 = some { cls := .none, data := .fields #[] }) ∧ SaysM fa fn ck K
theorem tabB_ok {g : Addr → Option Obj} {K : PySem.W.Frag} (h : tabB g K = true) : ∀ p ∈ lamCs K, g p.2 = some { cls := .none, data := .fields #[] } := fun p hp => by
  have z := List.all_eq_true.mp h p hp
  split at z
  · rename_i vs sl e
    simp only [Bool.and_eq_true, beq_iff_eq] at z
    rw [e, Array.eq_empty_of_size_eq_zero z.1, Array.eq_empty_of_size_eq_zero z.2]
  · cases z
def hookL (n : Nat) (fa : List He.Fa) (fn : List He.DefD) (ck : PySem.W.Frag → Bool) : PySem.W.Hook where
  α := Bool × He.AlD
  obs := fun s => obsL n fa fn ck s.heap.get?
  val := fun _ => (true, He.valD fn)
  says := fun _ h => ∃ K : PySem.W.Frag, K.In h ∧ SaysL fa fn ck K h
  of := fun _ _ e => ⟨_, frL_in, tabB_ok (Bool.and_eq_true_iff.mp (congrArg Prod.fst e)).2, (Bool.and_eq_true_iff.mp (congrArg Prod.fst e)).1, congrArg Prod.snd e⟩
  keeps := fun _ _ _ ⟨K, hK, t, c⟩ k => ⟨K, PySem.W.Frag.In.keeps hK k, fun p hp => k _ _ (t p hp), c⟩
theorem obsL_eq {n : Nat} {fa : List He.Fa} {fn : List He.DefD} {ck : PySem.W.Frag → Bool} {g : Addr → Option Obj} {s : Shared} (h : ∀ a, g a = s.heap.get? a) : obsL n fa fn ck g = (hookL n fa fn ck).obs s := by
  have e : g = s.heap.get? := funext h
  rw [e] <;> rfl
/-! ### classes of instances -/
def clB (K : PySem.W.Frag) (cs : List Str) : Bool := cs.all fun c => PySem.W.plainGet K (He.ga K c) Str.empty && PySem.W.hasDictIn K (He.ga K c) && PySem.W.plainOver K (He.ga K c) && He.eqO (PySem.W.findIn K (.ref (He.ga K c)) "__setattr__") (some (some (.builtin "object.__setattr__")))
def mkB (K : PySem.W.Frag) (cs : List Str) : Bool := cs.all fun c => PySem.W.makesIn K (He.ga K c) && He.eqO (PySem.W.findIn K (.ref (He.ga K c)) "__init__") (some (some (.ref (He.ma K (He.ga K c) "__init__")))) && PySem.W.isFn K (.ref (He.ma K (He.ga K c) "__init__")) && PySem.W.keepIn K (.ref (He.ga K c))
def cfB (K : PySem.W.Frag) (c : Str) : Bool := (["NoneType", "bool", "int", "str", "list", "tuple", "dict"].all fun t => decide (PySem.W.kitOne K (.type t) (.ref (He.ga K c)) = some false)) && decide (PySem.W.findIn K (.ref (He.ga K c)) "__class__" = some (some (.builtin "object.__class__"))) && decide (PySem.W.mroIn K (He.ga K c) (.type "object") = some true)
def exB (K : PySem.W.Frag) (t : Str) (tb : List (Str × Bool)) : Bool := tb.all fun p => decide (PySem.W.exmOne K (.ref (He.ga K p.1)) (.ref (He.ga K t)) = some p.2)
/-! ### properties: the getter stands in the property's record -/
def prAd (K : PySem.W.Frag) (p : Str × Option Str) : Addr := match PySem.W.recIn K (He.fAd K p) "property" with
  | some (.ref g :: _) => g
  | _ => 0
def fnAtW (K : PySem.W.Frag) (a : Addr) : He.FnW := match K.lookup a with
  | some ⟨_, _, .func fd, _⟩ => some (fd.name, fd.qualname, fd.params, fd.body, fd.scope, fd.globals, fd.closure, fd.builtins)
  | _ => none
def prOk (K : PySem.W.Frag) (d : He.DefD) : Bool := PySem.W.keepIn K (.ref (prAd K d.at_)) && (match K.lookup (prAd K d.at_) with
  | some ⟨_, _, .func fd, _⟩ => PySem.W.codeIn K fd.code d.qual && (He.dflB K fd.defaults [] && He.kwdB K fd.kwdefaults [])
  | _ => false)
def prB (K : PySem.W.Frag) (d : He.DefD) : Bool := prOk K d && (match d.at_.2 with
  | some m => He.eqO (PySem.W.findIn K (.ref (He.ga K d.at_.1)) m) (some (some (.ref (He.ma K (He.ga K d.at_.1) m))))
  | none => false) && decide (PySem.W.specialIn K (.ref (He.fAd K d.at_)) "__get__" = some (some (.builtin "property.__get__"))) && decide (PySem.W.takesIn K (.ref (He.fAd K d.at_)) = some true) && (match PySem.W.recIn K (He.fAd K d.at_) "property" with
  | some (.ref _ :: _) => true
  | _ => false)
theorem prOk_fun {K : PySem.W.Frag} {d : He.DefD} (e : fnAtW K (prAd K d.at_) = d.val) (c : prOk K d = true) : ∃ fd, FunD K d.name d.qual d.params d.body d.scope [] [] (prAd K d.at_) fd := by
  obtain ⟨kp, c2⟩ := He.ba c
  unfold fnAtW at e
  cases q : K.lookup (prAd K d.at_) with
  | none => rw [q] at c2; cases c2
  | some o =>
    obtain ⟨oc, od, dt, osl⟩ := o
    rw [q] at c2 e
    cases dt with
    | func fd =>
      obtain ⟨n1, n2, n3, n4, n5, n6, n7, n8, n9, n10, n11, n12, n13, n14, n15⟩ := fd
      have e : some (n1, n2, n3, n4, n5, n6, n7, n15) = d.val := e
      unfold He.DefD.val at e
      simp only [Option.some.injEq, Prod.mk.injEq] at e
      obtain ⟨h1, h2, h3, h4, h5, h6, h7, h8⟩ := e
      subst h1 h2 h3 h4 h5 h6 h7 h8
      obtain ⟨k1, k2⟩ := He.ba c2
      obtain ⟨k3, k4⟩ := He.ba k2
      exact ⟨_, ⟨oc, od, n8, n9, n10, n11, n12, n13, n14, osl, rfl, q, k1, He.dflB_ok k3, He.kwdB_ok k4⟩, kp⟩
    | _ => cases c2
def ckP (pr : List He.DefD) (ck : PySem.W.Frag → Bool) (K : PySem.W.Frag) : Bool := ck K && pr.all fun d => prB K d
def obsP (n : Nat) (fa : List He.Fa) (fn pr : List He.DefD) (ck : PySem.W.Frag → Bool) (g : Addr → Option Obj) : (Bool × He.AlD) × List He.FnW := (obsL n fa fn (ckP pr ck) g, pr.map fun d => fnAtW (frL n g) (prAd (frL n g) d.at_))
structure SaysP (fa : List He.Fa) (fn pr : List He.DefD) (ck : PySem.W.Frag → Bool) (K : PySem.W.Frag) : Prop where
  m : SaysM fa fn (ckP pr ck) K
  p : (pr.map fun d => fnAtW K (prAd K d.at_)) = pr.map He.DefD.val
def hookP (n : Nat) (fa : List He.Fa) (fn pr : List He.DefD) (ck : PySem.W.Frag → Bool) : PySem.W.Hook where
  α := (Bool × He.AlD) × List He.FnW
  obs := fun s => obsP n fa fn pr ck s.heap.get?
  val := fun _ => ((true, He.valD fn), pr.map He.DefD.val)
  says := fun _ h => ∃ K : PySem.W.Frag, K.In h ∧ (∀ p ∈ lamCs K, h.get? p.2 = some { cls := .none, data := .fields #[] }) ∧ SaysP fa fn pr ck K
  of := fun _ _ e => ⟨_, frL_in, tabB_ok (Bool.and_eq_true_iff.mp (congrArg Prod.fst (congrArg Prod.fst e))).2, ⟨⟨(Bool.and_eq_true_iff.mp (congrArg Prod.fst (congrArg Prod.fst e))).1, congrArg Prod.snd (congrArg Prod.fst e)⟩, congrArg Prod.snd e⟩⟩
  keeps := fun _ _ _ ⟨K, hK, t, c⟩ k => ⟨K, PySem.W.Frag.In.keeps hK k, fun p hp => k _ _ (t p hp), c⟩
theorem obsP_eq {n : Nat} {fa : List He.Fa} {fn pr : List He.DefD} {ck : PySem.W.Frag → Bool} {g : Addr → Option Obj} {s : Shared} (h : ∀ a, g a = s.heap.get? a) : obsP n fa fn pr ck g = (hookP n fa fn pr ck).obs s := by
  have e : g = s.heap.get? := funext h
  rw [e] <;> rfl
theorem SaysP.ck {fa : List He.Fa} {fn pr : List He.DefD} {ck : PySem.W.Frag → Bool} {K : PySem.W.Frag} (c : SaysP fa fn pr ck K) : ck K = true := (Bool.and_eq_true_iff.mp c.m.1).1
theorem SaysP.prop {fa : List He.Fa} {fn pr : List He.DefD} {ck : PySem.W.Frag → Bool} {K : PySem.W.Frag} (c : SaysP fa fn pr ck K) (i : Nat) {d : He.DefD} (h : pr[i]? = some d := by rfl) :
    prB K d = true ∧ ∃ fd, FunD K d.name d.qual d.params d.body d.scope [] [] (prAd K d.at_) fd := by
  have b := List.all_eq_true.mp (Bool.and_eq_true_iff.mp c.m.1).2 d (List.mem_of_getElem? h)
  have e2 : (pr.map fun d => fnAtW K (prAd K d.at_))[i]? = (pr.map He.DefD.val)[i]? := by rw [c.p]
  rw [List.getElem?_map, List.getElem?_map, h] at e2
  refine ⟨b, prOk_fun (Option.some.inj e2) ?_⟩
  unfold prB at b
  simp only [Bool.and_eq_true] at b
  exact b.1.1.1.1
/-- a method -/
def mtB (K : PySem.W.Frag) (c m : Str) : Bool := He.eqO (PySem.W.findIn K (.ref (He.ga K c)) m) (some (some (.ref (He.ma K (He.ga K c) m)))) && PySem.W.isFn K (.ref (He.ma K (He.ga K c) m)) && PySem.W.keepIn K (.ref (He.ma K (He.ga K c) m)) && PySem.W.fnIn K (He.ma K (He.ga K c) m)
/-- no __ne__ of its own -/
def neB (K : PySem.W.Frag) (c : Str) : Bool := He.eqO (PySem.W.findIn K (.ref (He.ga K c)) "__ne__") (some (some (.builtin "object.__ne__"))) && decide (PySem.W.mroIn K (He.ga K c) (.type "object") = some true)
end Mi

namespace Law
open PySem PySem.Spec PyProof.Rows L2 Mi
def top (i : Nat) : Stmt := PySem.Challenge.pw_settlesfirst_k14_states_come_to_and_part.main.body.getD i (.Pass ⟨0, 0, 0, 0⟩)
def cs : List Str := ["InvalidDeeds", "InvalidRows", "InvalidState", "InvalidDeed", "InvalidWord", "SharedDeed", "TooMany"]
def cs2 : List (Str × String) := cs.zip ["ValueError", "ValueError", "ValueError", "ValueError", "ValueError", "RuntimeError", "ArithmeticError"]
theorem cs_eq : cs2.map (·.1) = cs := rfl
def csI : List Str := ["Parts", "Thing"]
def tx_InvalidDeed : List (Str × Bool) := cs.zip [false, false, false, true, false, false, false]
def tx_InvalidWord : List (Str × Bool) := cs.zip [false, false, false, false, true, false, false]
end Law

namespace Law
open PySem PySem.Spec PyProof.Rows L2 Mi
def d3_0 : He.DefD := ⟨("InvalidDeeds", some "__init__"), "__init__", "InvalidDeeds.__init__", defArgs (inClass (top 3) 0), defBody (inClass (top 3) 0), defScope (inClass (top 3) 0), [], []⟩
def d4_0 : He.DefD := ⟨("InvalidRows", some "__init__"), "__init__", "InvalidRows.__init__", defArgs (inClass (top 4) 0), defBody (inClass (top 4) 0), defScope (inClass (top 4) 0), [], []⟩
def d5_0 : He.DefD := ⟨("InvalidState", some "__init__"), "__init__", "InvalidState.__init__", defArgs (inClass (top 5) 0), defBody (inClass (top 5) 0), defScope (inClass (top 5) 0), [], []⟩
def d6_0 : He.DefD := ⟨("InvalidDeed", some "__init__"), "__init__", "InvalidDeed.__init__", defArgs (inClass (top 6) 0), defBody (inClass (top 6) 0), defScope (inClass (top 6) 0), [], []⟩
def d7_0 : He.DefD := ⟨("InvalidWord", some "__init__"), "__init__", "InvalidWord.__init__", defArgs (inClass (top 7) 0), defBody (inClass (top 7) 0), defScope (inClass (top 7) 0), [], []⟩
def d11_0 : He.DefD := ⟨("TooMany", some "__init__"), "__init__", "TooMany.__init__", defArgs (inClass (top 11) 0), defBody (inClass (top 11) 0), defScope (inClass (top 11) 0), [], []⟩
def d18 : He.DefD := ⟨("is_integer", none), "is_integer", "is_integer", defArgs (top 18), defBody (top 18), defScope (top 18), [], []⟩
def d19 : He.DefD := ⟨("is_count", none), "is_count", "is_count", defArgs (top 19), defBody (top 19), defScope (top 19), [], []⟩
def d20 : He.DefD := ⟨("is_below", none), "is_below", "is_below", defArgs (top 20), defBody (top 20), defScope (top 20), [], []⟩
def d21 : He.DefD := ⟨("is_answer", none), "is_answer", "is_answer", defArgs (top 21), defBody (top 21), defScope (top 21), [], []⟩
def d22 : He.DefD := ⟨("is_name", none), "is_name", "is_name", defArgs (top 22), defBody (top 22), defScope (top 22), [], []⟩
def d23 : He.DefD := ⟨("is_list", none), "is_list", "is_list", defArgs (top 23), defBody (top 23), defScope (top 23), [], []⟩
def d24 : He.DefD := ⟨("is_entry", none), "is_entry", "is_entry", defArgs (top 24), defBody (top 24), defScope (top 24), [], []⟩
def d25 : He.DefD := ⟨("is_row", none), "is_row", "is_row", defArgs (top 25), defBody (top 25), defScope (top 25), [], []⟩
def d26 : He.DefD := ⟨("want_names_of_deeds", none), "want_names_of_deeds", "want_names_of_deeds", defArgs (top 26), defBody (top 26), defScope (top 26), [], []⟩
def d27 : He.DefD := ⟨("want_few_deeds", none), "want_few_deeds", "want_few_deeds", defArgs (top 27), defBody (top 27), defScope (top 27), [], []⟩
def d28 : He.DefD := ⟨("want_parts", none), "want_parts", "want_parts", defArgs (top 28), defBody (top 28), defScope (top 28), [], []⟩
def d29_0 : He.DefD := ⟨("Parts", some "__init__"), "__init__", "Parts.__init__", defArgs (inClass (top 29) 0), defBody (inClass (top 29) 0), defScope (inClass (top 29) 0), [], []⟩
def d30_0 : He.DefD := ⟨("Thing", some "__init__"), "__init__", "Thing.__init__", defArgs (inClass (top 30) 0), defBody (inClass (top 30) 0), defScope (inClass (top 30) 0), [], []⟩
def d30_3 : He.DefD := ⟨("Thing", some "rows"), "rows", "Thing.rows", defArgs (inClass (top 30) 3), defBody (inClass (top 30) 3), defScope (inClass (top 30) 3), [], []⟩
def d30_4 : He.DefD := ⟨("Thing", some "__call__"), "__call__", "Thing.__call__", defArgs (inClass (top 30) 4), defBody (inClass (top 30) 4), defScope (inClass (top 30) 4), [], []⟩
def d30_5 : He.DefD := ⟨("Thing", some "run"), "run", "Thing.run", defArgs (inClass (top 30) 5), defBody (inClass (top 30) 5), defScope (inClass (top 30) 5), [], []⟩
def d30_6 : He.DefD := ⟨("Thing", some "reached"), "reached", "Thing.reached", defArgs (inClass (top 30) 6), defBody (inClass (top 30) 6), defScope (inClass (top 30) 6), [], []⟩
def d30_7 : He.DefD := ⟨("Thing", some "part"), "part", "Thing.part", defArgs (inClass (top 30) 7), defBody (inClass (top 30) 7), defScope (inClass (top 30) 7), [], []⟩
def d30_12 : He.DefD := ⟨("Thing", some "__len__"), "__len__", "Thing.__len__", defArgs (inClass (top 30) 12), defBody (inClass (top 30) 12), defScope (inClass (top 30) 12), [], []⟩
def d30_13 : He.DefD := ⟨("Thing", some "__contains__"), "__contains__", "Thing.__contains__", defArgs (inClass (top 30) 13), defBody (inClass (top 30) 13), defScope (inClass (top 30) 13), [], []⟩
def d30_14 : He.DefD := ⟨("Thing", some "__eq__"), "__eq__", "Thing.__eq__", defArgs (inClass (top 30) 14), defBody (inClass (top 30) 14), defScope (inClass (top 30) 14), [], []⟩
def d30_15 : He.DefD := ⟨("Thing", some "__repr__"), "__repr__", "Thing.__repr__", defArgs (inClass (top 30) 15), defBody (inClass (top 30) 15), defScope (inClass (top 30) 15), [], []⟩
def d31 : He.DefD := ⟨("made_thing", none), "made_thing", "made_thing", defArgs (top 31), defBody (top 31), defScope (top 31), [], []⟩
def d32 : He.DefD := ⟨("is_state", none), "is_state", "is_state", defArgs (top 32), defBody (top 32), defScope (top 32), [], []⟩
def d33 : He.DefD := ⟨("is_deed", none), "is_deed", "is_deed", defArgs (top 33), defBody (top 33), defScope (top 33), [], []⟩
def d34 : He.DefD := ⟨("want_state", none), "want_state", "want_state", defArgs (top 34), defBody (top 34), defScope (top 34), [], []⟩
def d35 : He.DefD := ⟨("want_deed", none), "want_deed", "want_deed", defArgs (top 35), defBody (top 35), defScope (top 35), [], []⟩
def d36 : He.DefD := ⟨("place_of", none), "place_of", "place_of", defArgs (top 36), defBody (top 36), defScope (top 36), [], []⟩
def d37 : He.DefD := ⟨("step_at", none), "step_at", "step_at", defArgs (top 37), defBody (top 37), defScope (top 37), [], []⟩
def d38 : He.DefD := ⟨("run_of", none), "run_of", "run_of", defArgs (top 38), defBody (top 38), defScope (top 38), [], []⟩
def d39 : He.DefD := ⟨("states_met", none), "states_met", "states_met", defArgs (top 39), defBody (top 39), defScope (top 39), [], []⟩
def d40 : He.DefD := ⟨("with_states", none), "with_states", "with_states", defArgs (top 40), defBody (top 40), defScope (top 40), [], []⟩
def d43 : He.DefD := ⟨("_law_pot", none), "_law_pot", "_law_pot", defArgs (top 43), defBody (top 43), defScope (top 43), [], []⟩
def d44 : He.DefD := ⟨("_law_draw", none), "_law_draw", "_law_draw", defArgs (top 44), defBody (top 44), defScope (top 44), [], []⟩
def d45 : He.DefD := ⟨("_law_pick", none), "_law_pick", "_law_pick", defArgs (top 45), defBody (top 45), defScope (top 45), [], []⟩
def d46 : He.DefD := ⟨("_law_mixed", none), "_law_mixed", "_law_mixed", defArgs (top 46), defBody (top 46), defScope (top 46), [], []⟩
def d47 : He.DefD := ⟨("_law_names", none), "_law_names", "_law_names", defArgs (top 47), defBody (top 47), defScope (top 47), [], []⟩
def d48 : He.DefD := ⟨("_law_table", none), "_law_table", "_law_table", defArgs (top 48), defBody (top 48), defScope (top 48), [], []⟩
def d49 : He.DefD := ⟨("_law_model", none), "_law_model", "_law_model", defArgs (top 49), defBody (top 49), defScope (top 49), [], []⟩
def d50 : He.DefD := ⟨("_law_thing", none), "_law_thing", "_law_thing", defArgs (top 50), defBody (top 50), defScope (top 50), [], []⟩
def d51 : He.DefD := ⟨("_law_run", none), "_law_run", "_law_run", defArgs (top 51), defBody (top 51), defScope (top 51), [], []⟩
def d52 : He.DefD := ⟨("_law_word", none), "_law_word", "_law_word", defArgs (top 52), defBody (top 52), defScope (top 52), [], []⟩
def d53 : He.DefD := ⟨("_law_met", none), "_law_met", "_law_met", defArgs (top 53), defBody (top 53), defScope (top 53), [], []⟩
def d54 : He.DefD := ⟨("_law_part", none), "_law_part", "_law_part", defArgs (top 54), defBody (top 54), defScope (top 54), [], []⟩
def d55 : He.DefD := ⟨("_law_gone_right", none), "_law_gone_right", "_law_gone_right", defArgs (top 55), defBody (top 55), defScope (top 55), [], []⟩
def d56 : He.DefD := ⟨("_law_parts_right", none), "_law_parts_right", "_law_parts_right", defArgs (top 56), defBody (top 56), defScope (top 56), [], []⟩
def d57 : He.DefD := ⟨("_law_right", none), "_law_right", "_law_right", defArgs (top 57), defBody (top 57), defScope (top 57), [], []⟩
def d58 : He.DefD := ⟨("law", none), "law", "law", defArgs (top 58), defBody (top 58), defScope (top 58), [], []⟩
def d30_1 : He.DefD := ⟨("Thing", some "deeds"), "deeds", "Thing.deeds", defArgs (inClass (top 30) 1), defBody (inClass (top 30) 1), defScope (inClass (top 30) 1), [], []⟩
def fn : List He.DefD := [d3_0, d4_0, d5_0, d6_0, d7_0, d11_0, d18, d19, d20, d21, d22, d23, d24, d25, d26, d27, d28, d29_0, d30_0, d30_3, d30_4, d30_5, d30_6, d30_7, d30_12, d30_13, d30_14, d30_15, d31, d32, d33, d34, d35, d36, d37, d38, d39, d40, d43, d44, d45, d46, d47, d48, d49, d50, d51, d52, d53, d54, d55, d56, d57, d58]
def prs : List He.DefD := [d30_1]
def fa : List He.Fa := [.glo "SettleError", .glo "InvalidDeeds", .glo "InvalidRows", .glo "InvalidState", .glo "InvalidDeed", .glo "InvalidWord", .glo "LimitError", .glo "TooMany", .glo "is_integer", .glo "is_count", .glo "is_below", .glo "is_answer", .glo "is_name", .glo "is_list", .glo "is_entry", .glo "is_row", .glo "want_names_of_deeds", .glo "want_few_deeds", .glo "want_parts", .glo "Parts", .glo "Thing", .glo "made_thing", .glo "is_state", .glo "is_deed", .glo "want_state", .glo "want_deed", .glo "place_of", .glo "step_at", .glo "run_of", .glo "states_met"] ++ [.glo "with_states", .glo "_law_pot", .glo "_law_draw", .glo "_law_pick", .glo "_law_mixed", .glo "_law_names", .glo "_law_table", .glo "_law_model", .glo "_law_thing", .glo "_law_run", .glo "_law_word", .glo "_law_met", .glo "_law_part", .glo "_law_gone_right", .glo "_law_parts_right", .glo "_law_right", .glo "law", .free "abs", .free "all", .free "bool", .free "divmod", .free "enumerate", .free "int", .free "isinstance", .free "len", .free "list", .free "max", .free "min", .free "range", .free "repr"] ++ [.free "sorted", .free "str", .free "tuple", .str "LETTERS" "abcdefghijklmnopqrstuvwxyz", .int "LONGEST_NAME" 8, .int "GREATEST_ANSWER" 9, .int "MOST_DEEDS" 4, .int "MOST_STATES" 8]
def loose : List Str := (["_wall", "SettleError", "InvalidDeeds", "InvalidRows", "InvalidState", "InvalidDeed", "InvalidWord", "StateError", "SharedDeed", "LimitError", "TooMany", "LETTERS", "LONGEST_NAME", "GREATEST_ANSWER", "MOST_DEEDS", "MOST_STATES", "is_integer", "is_count", "is_below", "is_answer", "is_name", "is_list", "is_entry", "is_row", "want_names_of_deeds", "want_few_deeds", "want_parts", "Parts", "Thing", "made_thing"] : List Str) ++ (["is_state", "is_deed", "want_state", "want_deed", "place_of", "step_at", "run_of", "states_met", "with_states", "beside", "_law_pot", "_law_draw", "_law_pick", "_law_mixed", "_law_names", "_law_table", "_law_model", "_law_thing", "_law_run", "_law_word", "_law_met", "_law_part", "_law_gone_right", "_law_parts_right", "_law_right"] : List Str)
def cks0 (K : PySem.W.Frag) : List Bool := [sysB K, obcB K, xallB K cs2, inB K cs, nofB K cs "limit", nofB K cs "position", nofB K cs "value", nofB K cs "what", xinB K (He.ga K "LimitError") "ArithmeticError.__init__", xinB K (He.ga K "SettleError") "ValueError.__init__", exB K "InvalidDeed" tx_InvalidDeed, exB K "InvalidWord" tx_InvalidWord]
def cks1 (K : PySem.W.Frag) : List Bool := [clB K csI, mkB K csI, nofB K csI "own_deeds", nofB K csI "own_rows", cfB K "Parts", cfB K "Thing", lamB K [], neB K "Thing", mtB K "Thing" "rows", mtB K "Thing" "__call__", mtB K "Thing" "run", mtB K "Thing" "reached"]
def cks2 (K : PySem.W.Frag) : List Bool := [mtB K "Thing" "part", mtB K "Thing" "__len__", mtB K "Thing" "__contains__", mtB K "Thing" "__eq__", mtB K "Thing" "__repr__"]
def ck (K : PySem.W.Frag) : Bool := (cks0 K).all id && (cks1 K).all id && (cks2 K).all id
abbrev Rw : PySem.W.OpenRow := PySem.W.OpenLaw.row PySem.Challenge.rw_settlesfirst_k14_states_come_to_and_part
abbrev hk : PySem.W.Hook := hookP 5 fa fn prs ck
def ob (s : PySem.W.SharedT) : (Bool × He.AlD) × List He.FnW := obsP 5 fa fn prs ck (HandSHeadRun.getT s)
theorem ob_eq (s : PySem.W.SharedT) : ob s = hk.obs s.abs := obsP_eq (HandSHeadRun.getT_eq s)
theorem run (w : World) : HandSHeadRun.RunEq Rw (PySem.W.view Rw.prog [58]) hk ob 30000 loose w := by
  intro os
  kernel_rfl
end Law

namespace Mi
open PySem PySem.Spec PyProof.Rows L2
abbrev St := L2.St

/-! ### trees of data, and how the abstract heap bears them -/
inductive D where
  | non
  | bl (b : Bool)
  | int (i : Int)
  | str (x : Str)
  | lst (xs : List D)
  | rol (xs : List D)
  | tup (xs : List D)
  | dct (kvs : List (Key × D))
  | ins (C : Str) (fs : List (Str × D))
  | exc (C : Str) (fs : List (Str × D))
  | hx (a d : Addr) (C : Str) (fs : List (Str × D))
  | th (f c : Addr) (q : Str) (vs : List V) (ds : List D)
  | ptp (xs : List D)

/-- a tuple that is known to have no dict of its own -/
def PtO (o : Obj) : Prop := o.cls = .type "tuple" ∧ o.dict = none

mutual
inductive Rep (K : PySem.W.Frag) (F : Hp) : V → D → Prop
  | non : Rep K F .non .non
  | bl (b : Bool) : Rep K F (.bl b) (.bl b)
  | int (i : Int) : Rep K F (.int i) (.int i)
  | str (x : Str) : Rep K F (.str x) (.str x)
  | lst {a : Addr} {vs : List V} {ds : List D} : F a = some (.lst vs) → RepL K F vs ds → Rep K F (.ref a) (.lst ds)
  | rol {a : Addr} {vs : List V} {ds : List D} : SqL K F a vs → RepL K F vs ds → Rep K F (.ref a) (.rol ds)
  | tup {a : Addr} {vs : List V} {ds : List D} : SqT K F a vs → RepL K F vs ds → Rep K F (.ref a) (.tup ds)
  | dct {a : Addr} {kvs : List (Key × V)} {kds : List (Key × D)} : F a = some (.dK kvs) → RepK K F kvs kds → Rep K F (.ref a) (.dct kds)
  | ins {a dx : Addr} {C : Str} {fs : List (Str × V)} {gs : List (Str × D)} : F a = some (.ins (He.ga K C) dx fs) → RepF K F fs gs → Rep K F (.ref a) (.ins C gs)
  | exc {a dx : Addr} {C : Str} {fs : List (Str × V)} {gs : List (Str × D)} : F a = some (exo a (He.ga K C) (some dx)) → F dx = some (exd dx fs) → RepF K F fs gs → Rep K F (.ref a) (.exc C gs)
  | exn {a : Addr} {C : Str} : F a = some (exo a (He.ga K C) none) → Rep K F (.ref a) (.exc C [])
  | hx {a d : Addr} {C : Str} {fs : List (Str × V)} {gs : List (Str × D)} : F d = some (.xd fs) → RepF K F fs gs → Rep K F (.ref a) (.hx a d C gs)
  | th {f c : Addr} {q : Str} {vs : List V} {ds : List D} : F c = some (LamX.CodeO c q) → RepL K F vs ds → Rep K F (.ref f) (.th f c q vs ds)
  | ptp {a : Addr} {o : Obj} {vs : List V} {ds : List D} : F a = some (.frz o (.tup vs)) → PtO o → RepL K F vs ds → Rep K F (.ref a) (.ptp ds)
inductive RepL (K : PySem.W.Frag) (F : Hp) : List V → List D → Prop
  | nil : RepL K F [] []
  | cons {v : V} {vs : List V} {d : D} {ds : List D} : Rep K F v d → RepL K F vs ds → RepL K F (v :: vs) (d :: ds)
inductive RepK (K : PySem.W.Frag) (F : Hp) : List (Key × V) → List (Key × D) → Prop
  | nil : RepK K F [] []
  | cons {k : Key} {v : V} {vs : List (Key × V)} {d : D} {ds : List (Key × D)} : Rep K F v d → RepK K F vs ds → RepK K F ((k, v) :: vs) ((k, d) :: ds)
inductive RepF (K : PySem.W.Frag) (F : Hp) : List (Str × V) → List (Str × D) → Prop
  | nil : RepF K F [] []
  | cons {k : Str} {v : V} {vs : List (Str × V)} {d : D} {ds : List (Str × D)} : Rep K F v d → RepF K F vs ds → RepF K F ((k, v) :: vs) ((k, d) :: ds)
end

theorem sqL_up {K : PySem.W.Frag} {F F' : Hp} {a : Addr} {xs : List V} (s : Same F F') (h : SqL K F a xs) : SqL K F' a xs := Same.seq s h
theorem sqT_up {K : PySem.W.Frag} {F F' : Hp} {a : Addr} {xs : List V} (s : Same F F') (h : SqT K F a xs) : SqT K F' a xs := by
  rcases h with (z | ⟨o, z⟩) | z
  · exact .inl (.inl (s _ _ z))
  · exact .inl (.inr ⟨o, s _ _ z⟩)
  · exact .inr z

mutual
theorem Rep.up {K : PySem.W.Frag} {F F' : Hp} (s : Same F F') {v : V} {d : D} : Rep K F v d → Rep K F' v d
  | .non => .non
  | .bl b => .bl b
  | .int i => .int i
  | .str x => .str x
  | .lst h r => .lst (s _ _ h) (RepL.up s r)
  | .rol h r => .rol (sqL_up s h) (RepL.up s r)
  | .tup h r => .tup (sqT_up s h) (RepL.up s r)
  | .dct h r => .dct (s _ _ h) (RepK.up s r)
  | .ins h r => .ins (s _ _ h) (RepF.up s r)
  | .exc h e r => .exc (s _ _ h) (s _ _ e) (RepF.up s r)
  | .exn h => .exn (s _ _ h)
  | .hx h r => .hx (s _ _ h) (RepF.up s r)
  | .th h r => .th (s _ _ h) (RepL.up s r)
  | .ptp h o r => .ptp (s _ _ h) o (RepL.up s r)
theorem RepL.up {K : PySem.W.Frag} {F F' : Hp} (s : Same F F') {vs : List V} {ds : List D} : RepL K F vs ds → RepL K F' vs ds
  | .nil => .nil
  | .cons h r => .cons (Rep.up s h) (RepL.up s r)
theorem RepK.up {K : PySem.W.Frag} {F F' : Hp} (s : Same F F') {vs : List (Key × V)} {ds : List (Key × D)} : RepK K F vs ds → RepK K F' vs ds
  | .nil => .nil
  | .cons h r => .cons (Rep.up s h) (RepK.up s r)
theorem RepF.up {K : PySem.W.Frag} {F F' : Hp} (s : Same F F') {vs : List (Str × V)} {ds : List (Str × D)} : RepF K F vs ds → RepF K F' vs ds
  | .nil => .nil
  | .cons h r => .cons (Rep.up s h) (RepF.up s r)
end

section
variable {K : PySem.W.Frag} {F : Hp}
theorem RepL.len : ∀ {vs : List V} {ds : List D}, RepL K F vs ds → vs.length = ds.length
  | _, _, .nil => rfl
  | _, _, .cons _ r => by simp [RepL.len r]
theorem RepL.at : ∀ {vs : List V} {ds : List D} {i : Nat} {d : D}, RepL K F vs ds → ds[i]? = some d → ∃ v, vs[i]? = some v ∧ Rep K F v d
  | _, _, _, _, .nil, e => by simp at e
  | _, _, 0, _, .cons h _, e => by simp at e; subst e; exact ⟨_, rfl, h⟩
  | _, _, i + 1, d, .cons _ r, e => by
    obtain ⟨v, h1, h2⟩ := RepL.at (i := i) (d := d) r (by simpa using e)
    exact ⟨v, by simpa using h1, h2⟩
theorem RepL.of : ∀ {vs : List V} {ds : List D} {i : Nat} {v : V}, RepL K F vs ds → vs[i]? = some v → ∃ d, ds[i]? = some d ∧ Rep K F v d
  | _, _, _, _, .nil, e => by simp at e
  | _, _, 0, _, .cons h _, e => by simp at e; subst e; exact ⟨_, rfl, h⟩
  | _, _, i + 1, v, .cons _ r, e => by
    obtain ⟨d, h1, h2⟩ := RepL.of (i := i) (v := v) r (by simpa using e)
    exact ⟨d, by simpa using h1, h2⟩
theorem RepL.app : ∀ {vs us : List V} {ds es : List D}, RepL K F vs ds → RepL K F us es → RepL K F (vs ++ us) (ds ++ es)
  | _, _, _, _, .nil, q => q
  | _, _, _, _, .cons h r, q => .cons h (RepL.app r q)
theorem RepL.put {v : V} {d : D} (x : Rep K F v d) : ∀ {vs : List V} {ds : List D} (i : Nat), RepL K F vs ds → RepL K F (vs.set i v) (ds.set i d)
  | _, _, _, .nil => .nil
  | _, _, 0, .cons _ r => .cons x r
  | _, _, i + 1, .cons h r => .cons h (RepL.put x i r)
theorem RepL.taken : ∀ {vs : List V} {ds : List D} (n : Nat), RepL K F vs ds → RepL K F (vs.take n) (ds.take n)
  | _, _, 0, _ => .nil
  | _, _, _ + 1, .nil => .nil
  | _, _, n + 1, .cons h r => .cons h (RepL.taken n r)
theorem RepL.dropped : ∀ {vs : List V} {ds : List D} (n : Nat), RepL K F vs ds → RepL K F (vs.drop n) (ds.drop n)
  | _, _, 0, r => r
  | _, _, _ + 1, .nil => .nil
  | _, _, n + 1, .cons _ r => RepL.dropped n r
theorem RepF.look : ∀ {vs : List (Str × V)} {ds : List (Str × D)} {f : Str} {d : D}, RepF K F vs ds → ds.lookup f = some d → ∃ v, vs.lookup f = some v ∧ Rep K F v d
  | _, _, _, _, .nil, e => by simp at e
  | _, _, f, d, .cons (k := k) h r, e => by
    simp only [List.lookup_cons] at e ⊢
    cases q : (f == k) with
    | true => rw [q] at e; cases e; exact ⟨_, rfl, h⟩
    | false => rw [q] at e; exact RepF.look r e
theorem RepF.no : ∀ {vs : List (Str × V)} {ds : List (Str × D)} {f : Str}, RepF K F vs ds → ds.lookup f = none → vs.lookup f = none
  | _, _, _, .nil, _ => rfl
  | _, _, f, .cons (k := k) h r, e => by
    simp only [List.lookup_cons] at e ⊢
    cases q : (f == k) with
    | true => rw [q] at e; cases e
    | false => rw [q] at e; exact RepF.no r e
theorem RepF.len : ∀ {vs : List (Str × V)} {ds : List (Str × D)}, RepF K F vs ds → vs.length = ds.length
  | _, _, .nil => rfl
  | _, _, .cons _ r => by simp [RepF.len r]
theorem RepK.len : ∀ {vs : List (Key × V)} {ds : List (Key × D)}, RepK K F vs ds → vs.length = ds.length
  | _, _, .nil => rfl
  | _, _, .cons _ r => by simp [RepK.len r]
end

/-! ### slots: what a name holds; an object that is changed belongs to one slot alone -/
inductive Sl where
  | un
  | fz (d : D)
  | ow (d : D)
abbrev En := List Sl

def Top (K : PySem.W.Frag) (F : Hp) (o : HO) : D → Prop
  | .lst ds => ∃ vs, o = .lst vs ∧ RepL K F vs ds
  | .dct kds => ∃ kvs, o = .dK kvs ∧ RepK K F kvs kds
  | .ins C gs => ∃ dx fs, o = .ins (He.ga K C) dx fs ∧ RepF K F fs gs
  | _ => False
theorem Top.up {K : PySem.W.Frag} {F F' : Hp} (s : Same F F') {o : HO} {d : D} (h : Top K F o d) : Top K F' o d := by
  cases d with
  | lst ds => obtain ⟨vs, e, r⟩ := h; exact ⟨vs, e, r.up s⟩
  | dct kds => obtain ⟨vs, e, r⟩ := h; exact ⟨vs, e, r.up s⟩
  | ins C gs => obtain ⟨dx, fs, e, r⟩ := h; exact ⟨dx, fs, e, r.up s⟩
  | _ => exact h.elim
theorem Top.rep {K : PySem.W.Frag} {F : Hp} {a : Addr} {o : HO} {d : D} (e : F a = some o) (h : Top K F o d) : Rep K F (.ref a) d := by
  cases d with
  | lst ds => obtain ⟨vs, rfl, r⟩ := h; exact .lst e r
  | dct kds => obtain ⟨vs, rfl, r⟩ := h; exact .dct e r
  | ins C gs => obtain ⟨dx, fs, rfl, r⟩ := h; exact .ins e r
  | _ => exact h.elim

/-- a value of a slot -/
def RepS (K : PySem.W.Frag) (F H : Hp) (v : V) : Sl → Prop
  | .un => False
  | .fz d => Rep K F v d
  | .ow d => ∃ a o, v = .ref a ∧ F a = none ∧ H a = some o ∧ Top K F o d

/-- what a slot may own -/
def Own : HO → Prop
  | .lst _ => True
  | .dK _ => True
  | .ins _ _ _ => True
  | _ => False
theorem Top.own {K : PySem.W.Frag} {F : Hp} {o : HO} {d : D} (h : Top K F o d) : Own o := by
  cases d with
  | lst ds => obtain ⟨vs, rfl, _⟩ := h; trivial
  | dct kds => obtain ⟨vs, rfl, _⟩ := h; trivial
  | ins C gs => obtain ⟨dx, fs, rfl, _⟩ := h; trivial
  | _ => exact h.elim
structure EOk (K : PySem.W.Frag) (F H : Hp) (σ : St) (ε : En) : Prop where
  sub : Same F H
  len : σ.length = ε.length
  val : ∀ (i : Nat) (s : Sl), ε[i]? = some s → s ≠ .un → ∃ v, σ[i]? = some (some v) ∧ RepS K F H v s
  inj : ∀ (i j : Nat) (d e : D) (v : V), ε[i]? = some (.ow d) → ε[j]? = some (.ow e) → σ[i]? = some (some v) → σ[j]? = some (some v) → i = j
  tab : LamX.Tabs (lamT K) H
  ntb : ∀ b ps, F b ≠ some (.tbl ps)
/-- a table stays where an owned thing is changed -/
theorem Tabs.own {T : List (Addr × Str)} {H : Hp} {a : Addr} {o u : HO} (t : LamX.Tabs T H) (h : H a = some o) (k : Own o) : LamX.Tabs T (upd H a u) := fun p hp => by
  obtain ⟨ps, h1, h2, h3⟩ := t p hp
  have ne : p.1 ≠ a := fun z => by
    rw [z, h] at h1
    cases h1
    exact k
  refine ⟨ps, by rw [upd_ne ne]; exact h1, h2, fun pos cv hc => ?_⟩
  obtain ⟨c, e1, e2⟩ := h3 pos cv hc
  have ne2 : c ≠ a := fun z => by
    rw [z, h] at e2
    cases e2
    exact k
  exact ⟨c, e1, by rw [upd_ne ne2]; exact e2⟩

/-- no table is frozen -/
def NoTb (F : Hp) : Prop := ∀ b ps, F b ≠ some (.tbl ps)
theorem NoTb.upd {F : Hp} (n : NoTb F) {a : Addr} {o : HO} (h : ∀ ps, o ≠ .tbl ps) : NoTb (upd F a o) := fun b ps e => by
  by_cases hb : b = a
  · rw [hb, upd_same] at e
    exact h ps (Option.some.inj e)
  · rw [upd_ne hb] at e
    exact n b ps e
theorem Own.nt {o : HO} (h : Own o) (ps : Array Value) : o ≠ .tbl ps := fun z => by
  subst z
  exact h
/-- the frozen part grows, the owned things stay -/
structure Gr (F H F' H' : Hp) : Prop where
  fs : Same F F'
  sub : Same F' H'
  own : ∀ a o, F a = none → H a = some o → F' a = none ∧ H' a = some o
  nt : NoTb F → NoTb F'
theorem Gr.all {F H F' H' : Hp} (g : Gr F H F' H') (s : Same F H) : ∀ b o, H b = some o → H' b = some o := fun b o h => by
  cases q : F b with
  | none => exact (g.own b o q h).2
  | some u =>
    have e := s _ _ q
    rw [h] at e
    cases e
    exact g.sub _ _ (g.fs _ _ q)
theorem Gr.refl {F H : Hp} (s : Same F H) : Gr F H F H := ⟨.refl _, s, fun _ _ h1 h2 => ⟨h1, h2⟩, fun n => n⟩
theorem Gr.trans {F H F1 H1 F2 H2 : Hp} (a : Gr F H F1 H1) (b : Gr F1 H1 F2 H2) : Gr F H F2 H2 :=
  ⟨a.fs.trans b.fs, b.sub, fun x o h1 h2 => b.own x o (a.own x o h1 h2).1 (a.own x o h1 h2).2, fun n => b.nt (a.nt n)⟩
theorem same_upd2 {F H : Hp} (s : Same F H) (p : Addr) (o : HO) : Same (upd F p o) (upd H p o) := fun b u e => by
  by_cases hb : b = p
  · rw [hb, upd_same] at e ⊢; exact e
  · rw [upd_ne hb] at e ⊢; exact s _ _ e
theorem same_new {F : Hp} {p : Addr} {o : HO} (h : F p = none) : Same F (upd F p o) := fun b u e => by
  rw [upd_ne (ne_of_none e h)]; exact e
/-- a new thing, frozen at once -/
theorem Gr.new {F H : Hp} (s : Same F H) {p : Addr} {o : HO} (h : H p = none) (ho : ∀ ps, o ≠ .tbl ps := by intro ps z; cases z) : Gr F H (upd F p o) (upd H p o) :=
  ⟨same_new (s.free h), same_upd2 s p o, fun a u h1 h2 => by
    have ne : a ≠ p := ne_of_none h2 h
    rw [upd_ne ne, upd_ne ne]; exact ⟨h1, h2⟩, fun n => n.upd ho⟩
/-- a new thing, not frozen -/
theorem Gr.loose {F H : Hp} (s : Same F H) {p : Addr} {o : HO} (h : H p = none) : Gr F H F (upd H p o) :=
  ⟨.refl _, s.trans (same_new h), fun a u h1 h2 => ⟨h1, by rw [upd_ne (ne_of_none h2 h)]; exact h2⟩, fun n => n⟩

theorem RepS.grow {K : PySem.W.Frag} {F H F' H' : Hp} (g : Gr F H F' H') {v : V} {s : Sl} (r : RepS K F H v s) : RepS K F' H' v s := by
  cases s with
  | un => exact r
  | fz d => exact Rep.up g.fs r
  | ow d =>
    obtain ⟨a, o, e, h1, h2, t⟩ := r
    exact ⟨a, o, e, (g.own a o h1 h2).1, (g.own a o h1 h2).2, t.up g.fs⟩
theorem EOk.grow {K : PySem.W.Frag} {F H F' H' : Hp} {σ : St} {ε : En} (e : EOk K F H σ ε) (g : Gr F H F' H') : EOk K F' H' σ ε :=
  ⟨g.sub, e.len, fun i s h n => let ⟨v, h1, h2⟩ := e.val i s h n; ⟨v, h1, h2.grow g⟩, e.inj, e.tab.ext (g.all e.sub), g.nt e.ntb⟩

/-! ### results -/
inductive R (α : Type) where
  | v (a : α) (ε : En)
  | x (c : Str) (fs : List (Str × D)) (ε : En)
abbrev FE := En → Option (R Sl)
abbrev FA := En → Option (R (List Sl))
abbrev FB := En → Option (R Bool)
def bnd {α β : Type} (r : Option (R α)) (k : α → En → Option (R β)) : Option (R β) := match r with
  | some (.v a ε) => k a ε
  | some (.x c fs ε) => some (.x c fs ε)
  | none => none
@[simp] theorem bnd_v {α β : Type} (a : α) (ε : En) (k : α → En → Option (R β)) : bnd (some (.v a ε)) k = k a ε := rfl
@[simp] theorem bnd_x {α β : Type} (c : Str) (fs : List (Str × D)) (ε : En) (k : α → En → Option (R β)) : bnd (some (.x c fs ε)) k = some (.x c fs ε) := rfl
@[simp] theorem bnd_n {α β : Type} (k : α → En → Option (R β)) : bnd (none : Option (R α)) k = none := rfl

/-- no slot owns the value -/
def Apart (σ : St) (ε : En) (v : V) : Sl → Prop
  | .ow _ => ∀ (i : Nat) (d : D), ε[i]? = some (.ow d) → σ[i]? ≠ some (some v)
  | _ => True
/-- a thing that is neither frozen nor owned here: it belongs to others -/
structure Oth (σ : St) (ε : En) (F H : Hp) (a : Addr) (o : HO) : Prop where
  nf : F a = none
  at_ : H a = some o
  kd : Own o
  no : ∀ (i : Nat) (d : D), ε[i]? = some (.ow d) → σ[i]? ≠ some (some (.ref a))
/-- things of others stay theirs, as they are -/
def Frm (σ : St) (ε : En) (F H : Hp) (σ' : St) (ε' : En) (F' H' : Hp) : Prop := ∀ a o, Oth σ ε F H a o → Oth σ' ε' F' H' a o
theorem Frm.refl {σ : St} {ε : En} {F H : Hp} : Frm σ ε F H σ ε F H := fun _ _ h => h
theorem Frm.trans {σ σ1 σ2 : St} {ε ε1 ε2 : En} {F H F1 H1 F2 H2 : Hp} (a : Frm σ ε F H σ1 ε1 F1 H1) (b : Frm σ1 ε1 F1 H1 σ2 ε2 F2 H2) : Frm σ ε F H σ2 ε2 F2 H2 := fun c o h => b c o (a c o h)
theorem Gr.frm {σ : St} {ε : En} {F H F' H' : Hp} (g : Gr F H F' H') : Frm σ ε F H σ ε F' H' := fun a o h => ⟨(g.own a o h.nf h.at_).1, (g.own a o h.nf h.at_).2, h.kd, h.no⟩
/-- an owned value is no thing of others -/
def Mine (σ : St) (ε : En) (F H : Hp) (v : V) : Sl → Prop
  | .ow _ => ∀ a o, Oth σ ε F H a o → v ≠ .ref a
  | _ => True
structure Aft (K : PySem.W.Frag) (σ : St) (ε : En) (F H F' H' : Hp) (ε' : En) (v : V) (s : Sl) : Prop where
  fs : Same F F'
  eo : EOk K F' H' σ ε'
  rs : RepS K F' H' v s
  ap : Apart σ ε' v s
  fr : Frm σ ε F H σ ε' F' H'
  mi : Mine σ ε F H v s
theorem Aft.here {K : PySem.W.Frag} {σ : St} {ε : En} {F H : Hp} {v : V} {d : D} (e : EOk K F H σ ε) (r : Rep K F v d) : Aft K σ ε F H F H ε v (.fz d) := ⟨.refl F, e, r, trivial, .refl, trivial⟩
theorem Mine.pre {σ σ1 : St} {ε ε1 : En} {F H F1 H1 : Hp} {v : V} {s : Sl} (a : Frm σ ε F H σ1 ε1 F1 H1) (m : Mine σ1 ε1 F1 H1 v s) : Mine σ ε F H v s := by
  cases s with
  | ow d => exact fun b o h => m b o (a b o h)
  | _ => exact trivial
theorem Aft.then {K : PySem.W.Frag} {σ : St} {ε ε1 ε2 : En} {F H F1 H1 F2 H2 : Hp} {v : V} {s : Sl} (a : Aft K σ ε1 F1 H1 F2 H2 ε2 v s) (fs : Same F F1) (fr : Frm σ ε F H σ ε1 F1 H1) : Aft K σ ε F H F2 H2 ε2 v s :=
  ⟨fs.trans a.fs, a.eo, a.rs, a.ap, fr.trans a.fr, a.mi.pre fr⟩
/-- an exception of the class at c lies behind: its own dict at d -/
def XD (K : PySem.W.Frag) (σ : St) (ε : En) (F H F' H' : Hp) (d : Addr) (gs : List (Str × D)) : Prop := (∃ vs, H' d = some (.xd vs) ∧ RepF K F' vs gs) ∧ ∀ a o, Oth σ ε F H a o → a ≠ d
theorem XD.pre {K : PySem.W.Frag} {σ σ1 : St} {ε ε1 : En} {F H F1 H1 F' H' : Hp} {d : Addr} {gs : List (Str × D)} (fr : Frm σ ε F H σ1 ε1 F1 H1) (x : XD K σ1 ε1 F1 H1 F' H' d gs) : XD K σ ε F H F' H' d gs := ⟨x.1, fun a o h => x.2 a o (fr a o h)⟩
structure AftX (K : PySem.W.Frag) (σ : St) (ε : En) (F H F' H' : Hp) (ε' : En) (d : Addr) (gs : List (Str × D)) : Prop where
  fs : Same F F'
  eo : EOk K F' H' σ ε'
  xd : XD K σ ε F H F' H' d gs
  fr : Frm σ ε F H σ ε' F' H'
theorem AftX.then {K : PySem.W.Frag} {σ : St} {ε ε1 ε2 : En} {F H F1 H1 F2 H2 : Hp} {d : Addr} {gs : List (Str × D)} (a : AftX K σ ε1 F1 H1 F2 H2 ε2 d gs) (fs : Same F F1) (fr : Frm σ ε F H σ ε1 F1 H1) : AftX K σ ε F H F2 H2 ε2 d gs :=
  ⟨fs.trans a.fs, a.eo, a.xd.pre fr, fr.trans a.fr⟩
def Do (K : PySem.W.Frag) (W : WX) (σ : St) (ε : En) (F H : Hp) (r : Option (R Sl)) (Q : VK) : Prop := match r with
  | none => False
  | some (.v s ε') => ∀ v H' F', Aft K σ ε F H F' H' ε' v s → Q v H'
  | some (.x c fs ε') => ∀ d H' F', AftX K σ ε F H F' H' ε' d fs → W (.ref (He.ga K c)) (some d) σ H'
def tM (K : PySem.W.Frag) (W : WX) (f : FE) : TE := fun σ H Q => ∃ F ε, EOk K F H σ ε ∧ Do K W σ ε F H (f ε) Q
theorem Do.sub {K : PySem.W.Frag} {W : WX} {σ : St} {ε ε1 : En} {F H F1 H1 : Hp} {r : Option (R Sl)} {Q : VK} (h : Do K W σ ε F H r Q) (s : Same F F1) (fr : Frm σ ε F H σ ε1 F1 H1) : Do K W σ ε1 F1 H1 r Q := by
  cases r with
  | none => exact h
  | some q =>
    cases q with
    | v s2 ε2 => exact fun v2 H2 F2 a2 => h v2 H2 F2 (a2.then s fr)
    | x c fs ε2 => exact fun d H2 F2 a2 => h d H2 F2 (a2.then s fr)
theorem Do.bind {K : PySem.W.Frag} {W : WX} {σ : St} {ε : En} {F H : Hp} {r : Option (R Sl)} {k : Sl → En → Option (R Sl)} {Q G : VK} (h : Do K W σ ε F H (bnd r k) Q)
    (g : ∀ s ε1 v H1 F1, Aft K σ ε F H F1 H1 ε1 v s → Do K W σ ε1 F1 H1 (k s ε1) Q → G v H1) : Do K W σ ε F H r G := by
  cases r with
  | none => exact h
  | some r =>
    cases r with
    | x c fs ε1 => exact h
    | v s ε1 => exact fun v H1 F1 a => g s ε1 v H1 F1 a (Do.sub (show Do K W σ ε F H (k s ε1) Q from h) a.fs a.fr)

theorem PE.imp {X : Cx} {e : Expr} {t t' : TE} (h : PE X e t) (i : ∀ σ H Q, t' σ H Q → t σ H Q) : PE X e t' := ⟨fun pins s σ H Q I q => h.run pins s σ H Q I (i σ H Q q)⟩
theorem PT.imp {X : Cx} {e : Expr} {t t' : TT} (h : PT X e t) (i : ∀ σ H Q, t' σ H Q → t σ H Q) : PT X e t' := ⟨fun pins s σ H Q I q => h.run pins s σ H Q I (i σ H Q q)⟩
theorem PS.imp {X : Cx} {e : Stmt} {t t' : TS} (h : PS X e t) (i : ∀ D σ H, t' D σ H → t D σ H) : PS X e t' := ⟨fun pins s σ H D I q => h.run pins s σ H D I (i D σ H q)⟩
theorem PSs.imp {X : Cx} {e : List Stmt} {t t' : TS} (h : PSs X e t) (i : ∀ D σ H, t' D σ H → t D σ H) : PSs X e t' := ⟨fun pins s σ H D I q => h.run pins s σ H D I (i D σ H q)⟩

end Mi

namespace Mi
open PySem PySem.Spec PyProof.Rows L2

abbrev ME (X : Cx) (W : WX) (e : Expr) (f : FE) : Prop := PE X e (tM X.K W f)

/-! ### constants and names -/
def eC (d : D) : FE := fun ε => some (.v (.fz d) ε)
def eV (i : Nat) : FE := fun ε => match ε[i]? with
  | some (.fz d) => some (.v (.fz d) ε)
  | some (.ow d) => some (.v (.fz d) (ε.set i (.fz d)))
  | _ => none
/-- the name is given up -/
def eG (i : Nat) : FE := fun ε => match ε[i]? with
  | some (.fz d) => some (.v (.fz d) ε)
  | some (.ow d) => some (.v (.ow d) (ε.set i .un))
  | _ => none

section
variable {X : Cx} {W : WX}
theorem me_C {e : Expr} {v : V} {d : D} (h : PE X e (tC v)) (r : ∀ F, Rep X.K F v d) : ME X W e (eC d) :=
  PE.imp h fun _ H _ ⟨F, _, E0, k⟩ => k v H F (.here E0 (r F))
theorem me_int {i j pos} : ME X W (.Constant (.int i) j pos) (eC (.int i)) := me_C pe_int fun _ => .int i
theorem me_str {i j pos} : ME X W (.Constant (.str i) j pos) (eC (.str i)) := me_C pe_str fun _ => .str i
theorem me_bl {i j pos} : ME X W (.Constant (.bool i) j pos) (eC (.bl i)) := me_C pe_bl fun _ => .bl i
theorem me_non {j pos} : ME X W (.Constant .none j pos) (eC .non) := me_C pe_non fun _ => .non

theorem getset_ne {α : Type} {l : List α} {i j : Nat} {x : α} (h : i ≠ j) : (l.set i x)[j]? = l[j]? := List.getElem?_set_ne h
/-- a slot's thing is frozen -/
theorem EOk.freeze {K : PySem.W.Frag} {F H : Hp} {σ : St} {ε : En} {i : Nat} {d : D} {s : Sl} (e : EOk K F H σ ε) (h : ε[i]? = some (.ow d)) (hs : s = .fz d ∨ s = .un) :
    ∃ F' v, σ[i]? = some (some v) ∧ Same F F' ∧ EOk K F' H σ (ε.set i s) ∧ Rep K F' v d ∧ Frm σ ε F H σ (ε.set i s) F' H := by
  obtain ⟨v, hv, a, o, rfl, h1, h2, t⟩ := e.val i _ h (by simp)
  have sf : Same F (upd F a o) := same_new h1
  have rp : Rep K (upd F a o) (.ref a) d := Top.rep upd_same (t.up sf)
  have il : i < ε.length := (List.getElem?_eq_some_iff.mp h).1
  have ni : ∀ (j : Nat) (z : D), (ε.set i s)[j]? = some (.ow z) → j ≠ i ∧ ε[j]? = some (.ow z) := fun j z q => by
    by_cases hj : j = i
    · subst hj
      rw [List.getElem?_set_self il] at q
      rcases hs with rfl | rfl <;> cases q
    · rw [List.getElem?_set_ne (Ne.symm hj)] at q
      exact ⟨hj, q⟩
  refine ⟨upd F a o, .ref a, hv, sf, ⟨fun b u q => ?_, by rw [e.len]; simp, fun j s' q n => ?_, fun j k x y w q1 q2 q3 q4 => ?_, e.tab, NoTb.upd e.ntb t.own.nt⟩, rp, fun b u ob => ⟨?_, ob.at_, ob.kd, fun j z q => ob.no j z (ni j z q).2⟩⟩
  · by_cases hb : b = a
    · rw [hb, upd_same] at q; cases q; rw [hb]; exact h2
    · rw [upd_ne hb] at q; exact e.sub _ _ q
  · by_cases hj : j = i
    · subst hj
      rw [List.getElem?_set_self il] at q
      cases q
      rcases hs with rfl | rfl
      · exact ⟨_, hv, rp⟩
      · exact absurd rfl n
    · rw [List.getElem?_set_ne (Ne.symm hj)] at q
      obtain ⟨w, hw, r⟩ := e.val j s' q n
      refine ⟨w, hw, ?_⟩
      cases s' with
      | un => exact r
      | fz d' => exact Rep.up sf r
      | ow d' =>
        obtain ⟨b, u, rfl, k1, k2, t'⟩ := r
        have nb : b ≠ a := fun z => hj (e.inj j i d' d (.ref b) q h hw (by rw [z]; exact hv))
        exact ⟨b, u, rfl, by rw [upd_ne nb]; exact k1, k2, t'.up sf⟩
  · exact e.inj j k x y w (ni j x q1).2 (ni k y q2).2 q3 q4
  · rw [upd_ne (fun z => ob.no i d h (by rw [hv, z]))]; exact ob.nf
/-- the slot is given up: its thing is no one's -/
theorem EOk.give {K : PySem.W.Frag} {F H : Hp} {σ : St} {ε : En} {i : Nat} {d : D} (e : EOk K F H σ ε) (h : ε[i]? = some (.ow d)) :
    ∃ v, σ[i]? = some (some v) ∧ Aft K σ ε F H F H (ε.set i .un) v (.ow d) := by
  obtain ⟨v, hv, r⟩ := e.val i _ h (by simp)
  have il : i < ε.length := (List.getElem?_eq_some_iff.mp h).1
  have ni : ∀ (j : Nat) (s : Sl), (ε.set i .un)[j]? = some s → s ≠ .un → j ≠ i ∧ ε[j]? = some s := fun j s q n => by
    by_cases hj : j = i
    · subst hj
      rw [List.getElem?_set_self il] at q
      cases q
      exact absurd rfl n
    · rw [List.getElem?_set_ne (Ne.symm hj)] at q
      exact ⟨hj, q⟩
  refine ⟨v, hv, .refl F, ⟨e.sub, by rw [e.len]; simp, fun j s q n => e.val j s (ni j s q n).2 n, fun j k x y w q1 q2 q3 q4 => ?_, e.tab, e.ntb⟩, r, fun j x q z => ?_, fun b u ob => ⟨ob.nf, ob.at_, ob.kd, fun j z q => ob.no j z (ni j _ q (by simp)).2⟩, fun b u ob z => ob.no i d h (by rw [hv, z])⟩
  · exact e.inj j k x y w (ni j _ q1 (by simp)).2 (ni k _ q2 (by simp)).2 q3 q4
  · exact (ni j _ q (by simp)).1 (e.inj j i x d v (ni j _ q (by simp)).2 h z hv)

theorem me_V {i : Nat} {e : Expr} (h : PE X e (tVar i)) : ME X W e (eV i) := by
  refine PE.imp h fun σ H Q ⟨F, ε, E0, k⟩ => ?_
  unfold eV at k
  cases q : ε[i]? with
  | none => rw [q] at k; exact k.elim
  | some s =>
    rw [q] at k
    cases s with
    | un => exact k.elim
    | fz d =>
      obtain ⟨v, hv, r⟩ := E0.val i _ q (by simp)
      exact ⟨v, hv, k v H F (.here E0 r)⟩
    | ow d =>
      obtain ⟨F', v, hv, s1, E1, r, fr⟩ := E0.freeze q (.inl rfl)
      exact ⟨v, hv, k v H F' ⟨s1, E1, r, trivial, fr, trivial⟩⟩
theorem me_G {i : Nat} {e : Expr} (h : PE X e (tVar i)) : ME X W e (eG i) := by
  refine PE.imp h fun σ H Q ⟨F, ε, E0, k⟩ => ?_
  unfold eG at k
  cases q : ε[i]? with
  | none => rw [q] at k; exact k.elim
  | some s =>
    rw [q] at k
    cases s with
    | un => exact k.elim
    | fz d =>
      obtain ⟨v, hv, r⟩ := E0.val i _ q (by simp)
      exact ⟨v, hv, k v H F (.here E0 r)⟩
    | ow d =>
      obtain ⟨v, hv, a⟩ := E0.give q
      exact ⟨v, hv, k v H F a⟩
end

/-! ### a value that is wanted as data: it is frozen -/
/-- a tuple as any tuple -/
def wk : D → D
  | .ptp ds => .tup ds
  | d => d
@[simp] theorem wk_non : wk .non = .non := rfl
@[simp] theorem wk_bl (b : Bool) : wk (.bl b) = .bl b := rfl
@[simp] theorem wk_int (b : Int) : wk (.int b) = .int b := rfl
@[simp] theorem wk_str (b : Str) : wk (.str b) = .str b := rfl
@[simp] theorem wk_lst (b : List D) : wk (.lst b) = .lst b := rfl
@[simp] theorem wk_rol (b : List D) : wk (.rol b) = .rol b := rfl
@[simp] theorem wk_tup (b : List D) : wk (.tup b) = .tup b := rfl
@[simp] theorem wk_ptp (b : List D) : wk (.ptp b) = .tup b := rfl
@[simp] theorem wk_dct (b : List (Key × D)) : wk (.dct b) = .dct b := rfl
@[simp] theorem wk_ins (c : Str) (b : List (Str × D)) : wk (.ins c b) = .ins c b := rfl
@[simp] theorem wk_exc (c : Str) (b : List (Str × D)) : wk (.exc c b) = .exc c b := rfl
@[simp] theorem wk_hx (a d : Addr) (c : Str) (b : List (Str × D)) : wk (.hx a d c b) = .hx a d c b := rfl
@[simp] theorem wk_th (f c : Addr) (q : Str) (vs : List V) (ds : List D) : wk (.th f c q vs ds) = .th f c q vs ds := rfl
theorem Rep.wk {K : PySem.W.Frag} {F : Hp} {v : V} {d : D} (r : Rep K F v d) : Rep K F v (Mi.wk d) := by
  cases d with
  | ptp ds =>
    cases r with
    | ptp e _ r => exact .tup (.inl (.inr ⟨_, e⟩)) r
  | _ => exact r
def bf {β : Type} (r : Option (R Sl)) (k : D → En → Option (R β)) : Option (R β) := bnd r fun s ε => match s with
  | .fz d => k (wk d) ε
  | .ow d => k d ε
  | .un => none
/-- as it is -/
def bfR {β : Type} (r : Option (R Sl)) (k : D → En → Option (R β)) : Option (R β) := bnd r fun s ε => match s with
  | .fz d => k d ε
  | .ow d => k d ε
  | .un => none
@[simp] theorem bfR_fz {β : Type} (d : D) (ε : En) (k : D → En → Option (R β)) : bfR (some (.v (.fz d) ε)) k = k d ε := rfl
@[simp] theorem bfR_ow {β : Type} (d : D) (ε : En) (k : D → En → Option (R β)) : bfR (some (.v (.ow d) ε)) k = k d ε := rfl
@[simp] theorem bfR_un {β : Type} (ε : En) (k : D → En → Option (R β)) : bfR (some (.v .un ε)) k = none := rfl
@[simp] theorem bfR_x {β : Type} (c : Str) (fs : List (Str × D)) (ε : En) (k : D → En → Option (R β)) : bfR (some (.x c fs ε)) k = some (.x c fs ε) := rfl
@[simp] theorem bfR_n {β : Type} (k : D → En → Option (R β)) : bfR (none : Option (R Sl)) k = none := rfl
@[simp] theorem bf_fz {β : Type} (d : D) (ε : En) (k : D → En → Option (R β)) : bf (some (.v (.fz d) ε)) k = k (wk d) ε := rfl
@[simp] theorem bf_ow {β : Type} (d : D) (ε : En) (k : D → En → Option (R β)) : bf (some (.v (.ow d) ε)) k = k d ε := rfl
@[simp] theorem bf_x {β : Type} (c : Str) (fs : List (Str × D)) (ε : En) (k : D → En → Option (R β)) : bf (some (.x c fs ε)) k = some (.x c fs ε) := rfl
@[simp] theorem bf_n {β : Type} (k : D → En → Option (R β)) : bf (none : Option (R Sl)) k = none := rfl
structure AftD (K : PySem.W.Frag) (σ : St) (ε : En) (F H F' H' : Hp) (ε' : En) (v : V) (d : D) : Prop where
  fs : Same F F'
  eo : EOk K F' H' σ ε'
  rp : Rep K F' v d
  fr : Frm σ ε F H σ ε' F' H'
theorem AftD.wk {K : PySem.W.Frag} {σ : St} {ε : En} {F H F' H' : Hp} {ε' : En} {v : V} {d : D} (a : AftD K σ ε F H F' H' ε' v d) : AftD K σ ε F H F' H' ε' v (Mi.wk d) := ⟨a.fs, a.eo, a.rp.wk, a.fr⟩
/-- a thing that no slot owns is frozen -/
theorem Aft.data {K : PySem.W.Frag} {σ : St} {ε : En} {F H F' H' : Hp} {ε' : En} {v : V} {d : D} {s : Sl} (a : Aft K σ ε F H F' H' ε' v s) (h : s = .fz d ∨ s = .ow d) : ∃ F2, AftD K σ ε F H F2 H' ε' v d := by
  rcases h with rfl | rfl
  · exact ⟨F', a.fs, a.eo, a.rs, a.fr⟩
  · obtain ⟨fs, e, ⟨b, o, rfl, h1, h2, t⟩, ap, fr, mi⟩ := a
    have sf : Same F' (upd F' b o) := same_new h1
    refine ⟨upd F' b o, fs.trans sf, ⟨fun c u q => ?_, e.len, fun j s q n => ?_, e.inj, e.tab, NoTb.upd e.ntb t.own.nt⟩, Top.rep upd_same (t.up sf), fun c u oc => ?_⟩
    · by_cases hb : c = b
      · rw [hb, upd_same] at q; cases q; rw [hb]; exact h2
      · rw [upd_ne hb] at q; exact e.sub _ _ q
    · obtain ⟨w, hw, r⟩ := e.val j s q n
      refine ⟨w, hw, ?_⟩
      cases s with
      | un => exact r
      | fz d' => exact Rep.up sf r
      | ow d' =>
        obtain ⟨c, u, rfl, k1, k2, t'⟩ := r
        have nb : c ≠ b := fun z => ap j d' q (by rw [hw, z])
        exact ⟨c, u, rfl, by rw [upd_ne nb]; exact k1, k2, t'.up sf⟩
    · have nb : c ≠ b := fun z => mi c u oc (by rw [z])
      have := fr c u oc
      exact ⟨by rw [upd_ne nb]; exact this.nf, this.at_, this.kd, this.no⟩
theorem Do.bindF {K : PySem.W.Frag} {W : WX} {σ : St} {ε : En} {F H : Hp} {r : Option (R Sl)} {k : D → En → Option (R Sl)} {Q G : VK} (h : Do K W σ ε F H (bf r k) Q)
    (g : ∀ d ε1 v H1 F1, AftD K σ ε F H F1 H1 ε1 v d → Do K W σ ε1 F1 H1 (k d ε1) Q → G v H1) : Do K W σ ε F H r G := by
  cases r with
  | none => exact h
  | some r =>
    cases r with
    | x c fs ε1 => exact h
    | v s ε1 =>
      intro v H1 F1 a
      cases s with
      | un => exact a.rs.elim
      | fz d =>
        obtain ⟨F2, a2⟩ := a.data (.inl rfl)
        exact g (wk d) ε1 v H1 F2 a2.wk (Do.sub (show Do K W σ ε F H (k (wk d) ε1) Q from h) a2.fs a2.fr)
      | ow d =>
        obtain ⟨F2, a2⟩ := a.data (.inr rfl)
        exact g d ε1 v H1 F2 a2 (Do.sub (show Do K W σ ε F H (k d ε1) Q from h) a2.fs a2.fr)

theorem Do.bindFR {K : PySem.W.Frag} {W : WX} {σ : St} {ε : En} {F H : Hp} {r : Option (R Sl)} {k : D → En → Option (R Sl)} {Q G : VK} (h : Do K W σ ε F H (bfR r k) Q)
    (g : ∀ d ε1 v H1 F1, AftD K σ ε F H F1 H1 ε1 v d → Do K W σ ε1 F1 H1 (k d ε1) Q → G v H1) : Do K W σ ε F H r G := by
  cases r with
  | none => exact h
  | some r =>
    cases r with
    | x c fs ε1 => exact h
    | v s ε1 =>
      intro v H1 F1 a
      cases s with
      | un => exact a.rs.elim
      | fz d =>
        obtain ⟨F2, a2⟩ := a.data (.inl rfl)
        exact g d ε1 v H1 F2 a2 (Do.sub (show Do K W σ ε F H (k d ε1) Q from h) a2.fs a2.fr)
      | ow d =>
        obtain ⟨F2, a2⟩ := a.data (.inr rfl)
        exact g d ε1 v H1 F2 a2 (Do.sub (show Do K W σ ε F H (k d ε1) Q from h) a2.fs a2.fr)

/-! ### operations on data -/
def ret (o : Option Sl) (ε : En) : Option (R Sl) := match o with
  | some s => some (.v s ε)
  | none => none
@[simp] theorem ret_some (s : Sl) (ε : En) : ret (some s) ε = some (.v s ε) := rfl
@[simp] theorem ret_none (ε : En) : ret none ε = none := rfl
/-- a new thing -/
def New (H : Hp) (v : V) : Sl → Prop
  | .ow _ => ∀ a, v = .ref a → H a = none
  | _ => True
/-- what an operation on data promises: s, the frozen part grown -/
def Gives (K : PySem.W.Frag) (F H : Hp) (s : Sl) (Q : VK) : Prop := ∀ v F' H', Gr F H F' H' → RepS K F' H' v s → New H v s → Q v H'
theorem Do.gives {K : PySem.W.Frag} {W : WX} {σ : St} {F H : Hp} {ε : En} {s : Sl} {Q : VK} (e : EOk K F H σ ε) (h : Do K W σ ε F H (some (.v s ε)) Q) : Gives K F H s Q := fun v F' H' g r n => by
  refine h v H' F' ⟨g.fs, e.grow g, r, ?_, g.frm, ?_⟩
  · cases s with
    | ow d =>
      intro i x q z
      obtain ⟨w, hw, a, o, rfl, h1, h2, t⟩ := e.val i _ q (by simp)
      rw [hw] at z
      have z := Option.some.inj (Option.some.inj z)
      subst z
      have := n a rfl
      rw [h2] at this
      cases this
    | _ => exact trivial
  · cases s with
    | ow d => exact fun a o ob z => by have := n a z; rw [ob.at_] at this; cases this
    | _ => exact trivial
theorem Gives.same {K : PySem.W.Frag} {F H : Hp} {v : V} {d : D} {Q : VK} (h : Gives K F H (.fz d) Q) (s : Same F H) (r : Rep K F v d) : Q v H := h v F H (Gr.refl s) r trivial
theorem Gives.new {K : PySem.W.Frag} {F H : Hp} {p : Addr} {o : HO} {d : D} {Q : VK} (h : Gives K F H (.fz d) Q) (s : Same F H) (hp : H p = none) (r : ∀ F', Same F F' → F' p = some o → Rep K F' (.ref p) d) (ho : ∀ ps, o ≠ .tbl ps := by intro ps z; cases z) : Q (.ref p) (upd H p o) :=
  h (.ref p) (upd F p o) (upd H p o) (Gr.new s hp ho) (r _ (same_new (s.free hp)) upd_same) trivial
theorem Gives.newO {K : PySem.W.Frag} {F H : Hp} {p : Addr} {o : HO} {d : D} {Q : VK} (h : Gives K F H (.ow d) Q) (s : Same F H) (hp : H p = none) (t : Top K F o d) : Q (.ref p) (upd H p o) :=
  h (.ref p) F (upd H p o) (Gr.loose s hp) ⟨p, o, rfl, s.free hp, upd_same, t⟩ fun a e => by cases e; exact hp

/-- the value bears the data, frozen or owned by a slot: it is read, not handed on -/
def RepA (K : PySem.W.Frag) (F H : Hp) (v : V) (d : D) : Prop := Rep K F v d ∨ RepS K F H v (.ow d)
theorem Rep.a {K : PySem.W.Frag} {F H : Hp} {v : V} {d : D} (h : Rep K F v d) : RepA K F H v d := .inl h
/-- a list that is read -/
theorem RepA.lst {K : PySem.W.Frag} {F H : Hp} {v : V} {ds : List D} (s : Same F H) (h : RepA K F H v (.lst ds)) : ∃ a vs, v = .ref a ∧ H a = some (.lst vs) ∧ RepL K F vs ds := by
  rcases h with h | h
  · cases h with
    | lst e r => exact ⟨_, _, rfl, s _ _ e, r⟩
  · obtain ⟨a, o, e, h1, h2, vs, rfl, r⟩ := h
    exact ⟨a, vs, e, h2, r⟩
theorem RepA.dct {K : PySem.W.Frag} {F H : Hp} {v : V} {ds : List (Key × D)} (s : Same F H) (h : RepA K F H v (.dct ds)) : ∃ a vs, v = .ref a ∧ H a = some (.dK vs) ∧ RepK K F vs ds := by
  rcases h with h | h
  · cases h with
    | dct e r => exact ⟨_, _, rfl, s _ _ e, r⟩
  · obtain ⟨a, o, e, h1, h2, vs, rfl, r⟩ := h
    exact ⟨a, vs, e, h2, r⟩
theorem RepA.ins {K : PySem.W.Frag} {F H : Hp} {v : V} {C : Str} {ds : List (Str × D)} (s : Same F H) (h : RepA K F H v (.ins C ds)) : ∃ a dx vs, v = .ref a ∧ H a = some (.ins (He.ga K C) dx vs) ∧ RepF K F vs ds := by
  rcases h with h | h
  · cases h with
    | ins e r => exact ⟨_, _, _, rfl, s _ _ e, r⟩
  · obtain ⟨a, o, e, h1, h2, dx, vs, rfl, r⟩ := h
    exact ⟨a, dx, vs, e, h2, r⟩
theorem RepA.tup {K : PySem.W.Frag} {F H : Hp} {v : V} {ds : List D} (s : Same F H) (h : RepA K F H v (.tup ds)) : ∃ a vs, v = .ref a ∧ SqT K H a vs ∧ RepL K F vs ds := by
  rcases h with h | h
  · cases h with
    | tup e r => exact ⟨_, _, rfl, sqT_up s e, r⟩
  · obtain ⟨a, o, e, h1, h2, t⟩ := h
    exact t.elim
theorem RepA.rol {K : PySem.W.Frag} {F H : Hp} {v : V} {ds : List D} (s : Same F H) (h : RepA K F H v (.rol ds)) : ∃ a vs, v = .ref a ∧ SqL K H a vs ∧ RepL K F vs ds := by
  rcases h with h | h
  · cases h with
    | rol e r => exact ⟨_, _, rfl, sqL_up s e, r⟩
  · obtain ⟨a, o, e, h1, h2, t⟩ := h
    exact t.elim
theorem RepA.int {K : PySem.W.Frag} {F H : Hp} {v : V} {i : Int} (h : RepA K F H v (.int i)) : v = .int i := by
  rcases h with h | h
  · cases h; rfl
  · obtain ⟨a, o, e, h1, h2, t⟩ := h; exact t.elim
theorem RepA.str {K : PySem.W.Frag} {F H : Hp} {v : V} {i : Str} (h : RepA K F H v (.str i)) : v = .str i := by
  rcases h with h | h
  · cases h; rfl
  · obtain ⟨a, o, e, h1, h2, t⟩ := h; exact t.elim
theorem RepA.bl {K : PySem.W.Frag} {F H : Hp} {v : V} {i : Bool} (h : RepA K F H v (.bl i)) : v = .bl i := by
  rcases h with h | h
  · cases h; rfl
  · obtain ⟨a, o, e, h1, h2, t⟩ := h; exact t.elim
theorem RepA.non {K : PySem.W.Frag} {F H : Hp} {v : V} (h : RepA K F H v .non) : v = .non := by
  rcases h with h | h
  · cases h; rfl
  · obtain ⟨a, o, e, h1, h2, t⟩ := h; exact t.elim

/-- the data of a slot, looked at -/
def look (ε : En) (i : Nat) : Option D := match ε[i]? with
  | some (.fz d) => some (wk d)
  | some (.ow d) => some d
  | _ => none
theorem EOk.look {K : PySem.W.Frag} {F H : Hp} {σ : St} {ε : En} (e : EOk K F H σ ε) {i : Nat} {d : D} (h : look ε i = some d) : ∃ v, σ[i]? = some (some v) ∧ RepA K F H v d := by
  unfold Mi.look at h
  cases q : ε[i]? with
  | none => rw [q] at h; cases h
  | some s =>
    rw [q] at h
    cases s with
    | un => cases h
    | fz d' => cases h; obtain ⟨v, hv, r⟩ := e.val i _ q (by simp); exact ⟨v, hv, .inl (Rep.wk r)⟩
    | ow d' => cases h; obtain ⟨v, hv, r⟩ := e.val i _ q (by simp); exact ⟨v, hv, .inr r⟩

/-- a rule for two values, of data -/
def Prim2 (K : PySem.W.Frag) (r : R2) (op : D → D → Option Sl) : Prop := ∀ F H vx vy x y s Q, Same F H → RepA K F H vx x → RepA K F H vy y → op x y = some s → Gives K F H s Q → r vx vy H Q
def Prim1 (K : PySem.W.Frag) (r : V → Hp → VK → Prop) (op : D → Option Sl) : Prop := ∀ F H vx x s Q, Same F H → RepA K F H vx x → op x = some s → Gives K F H s Q → r vx H Q
/-- both operands are reckoned -/
def e2 (op : D → D → Option Sl) (fa fb : FE) : FE := fun ε => bf (fa ε) fun x ε1 => bf (fb ε1) fun y ε2 => ret (op x y) ε2
/-- the left one is a name, looked at behind the right one -/
def e2n (op : D → D → Option Sl) (i : Nat) (fb : FE) : FE := fun ε => match look ε i with
  | none => none
  | some _ => bf (fb ε) fun y ε2 => ret ((look ε2 i).bind fun x => op x y) ε2
/-- the right one is a name -/
def e2m (op : D → D → Option Sl) (fa : FE) (i : Nat) : FE := fun ε => bf (fa ε) fun x ε1 => ret ((look ε1 i).bind fun y => op x y) ε1
def e2nn (op : D → D → Option Sl) (i j : Nat) : FE := fun ε => ret ((look ε i).bind fun x => (look ε j).bind fun y => op x y) ε
def e1 (op : D → Option Sl) (fa : FE) : FE := fun ε => bf (fa ε) fun x ε1 => ret (op x) ε1
def e1n (op : D → Option Sl) (i : Nat) : FE := fun ε => ret ((look ε i).bind op) ε

theorem ret_do {K : PySem.W.Frag} {W : WX} {σ : St} {ε0 : En} {F H : Hp} {o : Option Sl} {ε : En} {Q : VK} (h : Do K W σ ε0 F H (ret o ε) Q) : ∃ s, o = some s ∧ Do K W σ ε0 F H (some (.v s ε)) Q := by
  cases o with
  | none => exact h.elim
  | some s => exact ⟨s, rfl, h⟩
section
variable {K : PySem.W.Frag} {W : WX} {r : R2} {op : D → D → Option Sl} {fa fb : FE} {i j : Nat} {σ : St} {H : Hp} {Q : VK}
theorem e2_ok (p : Prim2 K r op) (h : tM K W (e2 op fa fb) σ H Q) : tOp r (tM K W fa) (tM K W fb) σ H Q := by
  obtain ⟨F, ε, E0, h⟩ := h
  refine ⟨F, ε, E0, h.bindF fun x ε1 vx H1 F1 a1 h1 => ⟨F1, ε1, a1.eo, h1.bindF fun y ε2 vy H2 F2 a2 h2 => ?_⟩⟩
  obtain ⟨s, e, h2⟩ := ret_do h2
  exact p F2 H2 vx vy x y s Q a2.eo.sub (.inl (a1.rp.up a2.fs)) (.inl a2.rp) e (h2.gives a2.eo)
theorem e2n_ok (p : Prim2 K r op) (h : tM K W (e2n op i fb) σ H Q) : tOp r (tVar i) (tM K W fb) σ H Q := by
  obtain ⟨F, ε, E0, h⟩ := h
  unfold e2n at h
  cases q0 : look ε i with
  | none => rw [q0] at h; exact h.elim
  | some x0 =>
    rw [q0] at h
    obtain ⟨v, hv, _⟩ := E0.look q0
    refine ⟨v, hv, F, ε, E0, Do.bindF h fun y ε2 vy H2 F2 a2 h2 => ?_⟩
    obtain ⟨s, e, h2⟩ := ret_do h2
    cases q : look ε2 i with
    | none => rw [q] at e; cases e
    | some x =>
      rw [q] at e
      obtain ⟨w, hw, ra⟩ := a2.eo.look q
      rw [hv] at hw
      cases hw
      exact p F2 H2 v vy x y s Q a2.eo.sub ra (.inl a2.rp) e (h2.gives a2.eo)
theorem e2m_ok (p : Prim2 K r op) (h : tM K W (e2m op fa i) σ H Q) : tOp r (tM K W fa) (tVar i) σ H Q := by
  obtain ⟨F, ε, E0, h⟩ := h
  refine ⟨F, ε, E0, h.bindF fun x ε1 vx H1 F1 a1 h1 => ?_⟩
  obtain ⟨s, e, h2⟩ := ret_do h1
  cases q : look ε1 i with
  | none => rw [q] at e; cases e
  | some y =>
    rw [q] at e
    obtain ⟨w, hw, ra⟩ := a1.eo.look q
    exact ⟨w, hw, p F1 H1 vx w x y s Q a1.eo.sub (.inl a1.rp) ra e (h2.gives a1.eo)⟩
theorem e2nn_ok (p : Prim2 K r op) (h : tM K W (e2nn op i j) σ H Q) : tOp r (tVar i) (tVar j) σ H Q := by
  obtain ⟨F, ε, E0, h⟩ := h
  obtain ⟨s, e, h2⟩ := ret_do h
  cases q : look ε i with
  | none => rw [q] at e; cases e
  | some x =>
    cases q2 : look ε j with
    | none => rw [q, q2] at e; cases e
    | some y =>
      rw [q, q2] at e
      obtain ⟨w, hw, ra⟩ := E0.look q
      obtain ⟨u, hu, rb⟩ := E0.look q2
      exact ⟨w, hw, u, hu, p F H w u x y s Q E0.sub ra rb e (h2.gives E0)⟩
theorem e1_ok {r : V → Hp → VK → Prop} {op : D → Option Sl} (p : Prim1 K r op) (h : tM K W (e1 op fa) σ H Q) : tM K W fa σ H fun x H1 => r x H1 Q := by
  obtain ⟨F, ε, E0, h⟩ := h
  refine ⟨F, ε, E0, h.bindF fun x ε1 vx H1 F1 a1 h1 => ?_⟩
  obtain ⟨s, e, h2⟩ := ret_do h1
  exact p F1 H1 vx x s Q a1.eo.sub (.inl a1.rp) e (h2.gives a1.eo)
theorem e1n_ok {r : V → Hp → VK → Prop} {op : D → Option Sl} (p : Prim1 K r op) (h : tM K W (e1n op i) σ H Q) : tVar i σ H fun x H1 => r x H1 Q := by
  obtain ⟨F, ε, E0, h⟩ := h
  obtain ⟨s, e, h2⟩ := ret_do h
  cases q : look ε i with
  | none => rw [q] at e; cases e
  | some x =>
    rw [q] at e
    obtain ⟨w, hw, ra⟩ := E0.look q
    exact ⟨w, hw, p F H w x s Q E0.sub ra e (h2.gives E0)⟩
end

/-! ### operators -/
theorem OpR.or {X : Cx} {f : Value → Value → Sem Value} {r r' : R2} (h : OpR X f r) (h' : OpR X f r') : OpR X f (fun x y H Q => r x y H Q ∨ r' x y H Q) := by
  intro pins s σ H x y v u Q I rx ry q
  rcases q with q | q
  · exact h pins s σ H x y v u Q I rx ry q
  · exact h' pins s σ H x y v u Q I rx ry q
theorem CallR.or {X : Cx} {f : Value} {r r' : List V → Hp → VK → Prop} (h : CallR X f r) (h' : CallR X f r') : CallR X f (fun x H Q => r x H Q ∨ r' x H Q) := by
  intro pins s σ H x v Q I rx q
  rcases q with q | q
  · exact h pins s σ H x v Q I rx q
  · exact h' pins s σ H x v Q I rx q
theorem UnR.or {X : Cx} {f : Value → Sem Value} {r r' : V → Hp → VK → Prop} (h : UnR X f r) (h' : UnR X f r') : UnR X f (fun x H Q => r x H Q ∨ r' x H Q) := by
  intro pins s σ H x v Q I rx q
  rcases q with q | q
  · exact h pins s σ H x v Q I rx q
  · exact h' pins s σ H x v Q I rx q

def oAdd : D → D → Option Sl
  | .int i, .int j => some (.fz (.int (i + j)))
  | .str x, .str y => if x.length + y.length ≤ sizeLine then some (.fz (.str (x ++ y))) else none
  | .lst xs, .lst ys => if xs.length + ys.length ≤ sizeLine then some (.ow (.lst (xs ++ ys))) else none
  | .tup xs, .tup ys => if xs.length + ys.length ≤ sizeLine ∧ xs ≠ [] then some (.fz (.tup (xs ++ ys))) else none
  | _, _ => none
def oSub : D → D → Option Sl
  | .int i, .int j => some (.fz (.int (i - j)))
  | _, _ => none
def oMul : D → D → Option Sl
  | .int i, .int j => if (-(2 ^ 64) < i ∧ i < 2 ^ 64) ∨ (-(2 ^ 64) < j ∧ j < 2 ^ 64) then some (.fz (.int (i * j))) else none
  | .lst xs, .int k => if -(2 ^ 63) ≤ k ∧ k < 2 ^ 63 ∧ xs.length * k.toNat ≤ sizeLine then some (.ow (.lst (List.replicate k.toNat xs).flatten)) else none
  | _, _ => none
def oMod : D → D → Option Sl
  | .int i, .int j => if 0 < j then some (.fz (.int (i % j))) else none
  | _, _ => none
def oDiv : D → D → Option Sl
  | .int i, .int j => if 0 < j ∧ j < 1073741824 then some (.fz (.int (i / j))) else none
  | _, _ => none
def oPow : D → D → Option Sl
  | .int i, .int j => if 0 ≤ j ∧ j ≤ 1000000 ∧ i.natAbs < 2 ^ 64 then some (.fz (.int (i ^ j.toNat))) else none
  | _, _ => none
def oNeg : D → Option Sl
  | .int i => some (.fz (.int (-i)))
  | _ => none

section
variable {K : PySem.W.Frag}
theorem RepL.rep {F : Hp} {vs : List V} {ds : List D} (r : RepL K F vs ds) : ∀ n : Nat, RepL K F (List.replicate n vs).flatten (List.replicate n ds).flatten
  | 0 => .nil
  | n + 1 => by
    rw [List.replicate_succ, List.replicate_succ, List.flatten_cons, List.flatten_cons]
    exact r.app (RepL.rep r n)
theorem p_add : Prim2 K (fun x y H Q => rI0 (fun i j => .int (i + j)) x y H Q ∨ (∃ i j, x = .str i ∧ y = .str j ∧ i.length + j.length ≤ sizeLine ∧ Q (.str (i ++ j)) H) ∨ rCat x y H Q ∨ rCatT K x y H Q) oAdd := by
  intro F H vx vy x y s Q sm rx ry e g
  cases x with
  | int i =>
    cases y with
    | int j => cases e; exact .inl ⟨i, j, rx.int, ry.int, g.same sm (.int _)⟩
    | _ => cases e
  | str i =>
    cases y with
    | str j =>
      simp only [oAdd] at e
      split at e
      · cases e; exact .inr (.inl ⟨i, j, rx.str, ry.str, by assumption, g.same sm (.str _)⟩)
      · cases e
    | _ => cases e
  | lst xs =>
    cases y with
    | lst ys =>
      simp only [oAdd] at e
      split at e
      · rename_i hz
        cases e
        obtain ⟨a, vs, rfl, h1, r1⟩ := rx.lst sm
        obtain ⟨b, us, rfl, h2, r2⟩ := ry.lst sm
        exact .inr (.inr (.inl ⟨a, b, vs, us, rfl, rfl, h1, h2, by rw [r1.len, r2.len]; exact hz, fun p hp => g.newO sm hp ⟨_, rfl, r1.app r2⟩⟩))
      · cases e
    | _ => cases e
  | tup xs =>
    cases y with
    | tup ys =>
      simp only [oAdd] at e
      split at e
      · rename_i hz
        cases e
        obtain ⟨a, vs, rfl, h1, r1⟩ := rx.tup sm
        obtain ⟨b, us, rfl, h2, r2⟩ := ry.tup sm
        refine .inr (.inr (.inr ⟨a, b, vs, us, rfl, rfl, h1, h2, fun z => ?_, by rw [r1.len, r2.len]; exact hz.1, fun z => ?_, fun z p hp => g.new sm hp fun F' s' h' => .tup (SqT.of h') ((r1.app r2).up s')⟩))
        · subst z; cases r1; exact hz.2 rfl
        · subst z
          cases r2
          rw [List.append_nil] at g
          rcases rx with rx | rx
          · exact g.same sm rx
          · obtain ⟨_, _, _, _, _, t⟩ := rx; exact t.elim
      · cases e
    | _ => cases e
  | _ => cases e
theorem p_sub : Prim2 K (rI0 fun i j => .int (i - j)) oSub := by
  intro F H vx vy x y s Q sm rx ry e g
  cases x with
  | int i =>
    cases y with
    | int j => cases e; exact ⟨i, j, rx.int, ry.int, g.same sm (.int _)⟩
    | _ => cases e
  | _ => cases e
theorem p_mul : Prim2 K (fun x y H Q => rI CMul (fun i j => .int (i * j)) x y H Q ∨ rRep x y H Q) oMul := by
  intro F H vx vy x y s Q sm rx ry e g
  cases x with
  | int i =>
    cases y with
    | int j =>
      simp only [oMul] at e
      split at e
      · rename_i hz
        cases e
        exact .inl ⟨i, j, rx.int, ry.int, hz, g.same sm (.int _)⟩
      · cases e
    | _ => cases e
  | lst xs =>
    cases y with
    | int k =>
      simp only [oMul] at e
      split at e
      · rename_i hz
        cases e
        obtain ⟨a, vs, rfl, h1, r1⟩ := rx.lst sm
        exact .inr ⟨a, k, vs, rfl, ry.int, h1, hz.1, hz.2.1, by rw [r1.len]; exact hz.2.2, fun p hp => g.newO sm hp ⟨_, rfl, r1.rep _⟩⟩
      · cases e
    | _ => cases e
  | _ => cases e
theorem p_mod : Prim2 K (rI (fun _ j => 0 < j) fun i j => .int (i % j)) oMod := by
  intro F H vx vy x y s Q sm rx ry e g
  cases x with
  | int i =>
    cases y with
    | int j =>
      simp only [oMod] at e
      split at e
      · cases e; exact ⟨i, j, rx.int, ry.int, by assumption, g.same sm (.int _)⟩
      · cases e
    | _ => cases e
  | _ => cases e
theorem p_div : Prim2 K (rI CDiv fun i j => .int (i / j)) oDiv := by
  intro F H vx vy x y s Q sm rx ry e g
  cases x with
  | int i =>
    cases y with
    | int j =>
      simp only [oDiv] at e
      split at e
      · cases e; exact ⟨i, j, rx.int, ry.int, by assumption, g.same sm (.int _)⟩
      · cases e
    | _ => cases e
  | _ => cases e
theorem p_pow : Prim2 K (rI CPow fun i j => .int (i ^ j.toNat)) oPow := by
  intro F H vx vy x y s Q sm rx ry e g
  cases x with
  | int i =>
    cases y with
    | int j =>
      simp only [oPow] at e
      split at e
      · cases e; exact ⟨i, j, rx.int, ry.int, by assumption, g.same sm (.int _)⟩
      · cases e
    | _ => cases e
  | _ => cases e
theorem p_neg : Prim1 K (rU fun i => .int (-i)) oNeg := by
  intro F H vx x s Q sm rx e g
  cases x with
  | int i => cases e; exact ⟨i, rx.int, g.same sm (.int _)⟩
  | _ => cases e
end
end Mi

namespace Mi
open PySem PySem.Spec PyProof.Rows L2

inductive Fl where
  | nx (ε : En)
  | rt (s : Sl) (ε : En)
  | bk (ε : En)
  | ct (ε : En)
  | ex (c : Str) (gs : List (Str × D)) (ε : En)
abbrev FS := En → Option Fl
def KeepP (np : Nat) (σ σ' : St) : Prop := ∀ i : Nat, i < np → σ'[i]? = σ[i]?
theorem KeepP.refl {np : Nat} {σ : St} : KeepP np σ σ := fun _ _ => rfl
theorem KeepP.trans {np : Nat} {σ σ1 σ2 : St} (a : KeepP np σ σ1) (b : KeepP np σ1 σ2) : KeepP np σ σ2 := fun i h => (b i h).trans (a i h)
def DoS (K : PySem.W.Frag) (W : WX) (np : Nat) (σ : St) (ε : En) (F H : Hp) (r : Option Fl) (Z : Ends) : Prop := match r with
  | none => False
  | some (.nx ε') => ∀ σ' H' F', Same F F' → EOk K F' H' σ' ε' → KeepP np σ σ' → Frm σ ε F H σ' ε' F' H' → Z.nx σ' H'
  | some (.bk ε') => ∀ σ' H' F', Same F F' → EOk K F' H' σ' ε' → KeepP np σ σ' → Frm σ ε F H σ' ε' F' H' → Z.bk σ' H'
  | some (.ct ε') => ∀ σ' H' F', Same F F' → EOk K F' H' σ' ε' → KeepP np σ σ' → Frm σ ε F H σ' ε' F' H' → Z.ct σ' H'
  | some (.rt s ε') => ∀ v σ' H' F', Same F F' → EOk K F' H' σ' ε' → RepS K F' H' v s → Apart σ' ε' v s → KeepP np σ σ' → Frm σ ε F H σ' ε' F' H' → Mine σ ε F H v s → Z.rt v H'
  | some (.ex c gs ε') => ∀ d σ' H' F', Same F F' → EOk K F' H' σ' ε' → XD K σ ε F H F' H' d gs → KeepP np σ σ' → Frm σ ε F H σ' ε' F' H' → W (.ref (He.ga K c)) (some d) σ' H'
def sM (K : PySem.W.Frag) (W : WX) (np : Nat) (f : FS) : TS := fun Z σ H => ∃ F ε, EOk K F H σ ε ∧ DoS K W np σ ε F H (f ε) Z
abbrev MS (X : Cx) (W : WX) (np : Nat) (e : Stmt) (f : FS) : Prop := PS X e (sM X.K W np f)
abbrev MSs (X : Cx) (W : WX) (np : Nat) (e : List Stmt) (f : FS) : Prop := PSs X e (sM X.K W np f)

section
variable {K : PySem.W.Frag} {W : WX} {np : Nat} {σ : St} {ε0 : En} {F H : Hp} {Z : Ends}
theorem DoS.sub {F' H' : Hp} {σ' : St} {ε' : En} {r : Option Fl} (h : DoS K W np σ ε0 F H r Z) (s : Same F F') (k : KeepP np σ σ') (fr : Frm σ ε0 F H σ' ε' F' H') : DoS K W np σ' ε' F' H' r Z := by
  cases r with
  | none => exact h
  | some q =>
    cases q with
    | nx ε => exact fun σ2 H2 F2 a e b c => h σ2 H2 F2 (s.trans a) e (k.trans b) (fr.trans c)
    | bk ε => exact fun σ2 H2 F2 a e b c => h σ2 H2 F2 (s.trans a) e (k.trans b) (fr.trans c)
    | ct ε => exact fun σ2 H2 F2 a e b c => h σ2 H2 F2 (s.trans a) e (k.trans b) (fr.trans c)
    | rt t ε => exact fun v σ2 H2 F2 a e r ap b c m => h v σ2 H2 F2 (s.trans a) e r ap (k.trans b) (fr.trans c) (m.pre fr)
    | ex c gs ε => exact fun v σ2 H2 F2 a e r b c => h v σ2 H2 F2 (s.trans a) e (r.pre fr) (k.trans b) (fr.trans c)
end

/-- behind an expression -/
def bs (r : Option (R Sl)) (k : Sl → En → Option Fl) : Option Fl := match r with
  | some (.v s ε) => k s ε
  | some (.x c fs ε) => some (.ex c fs ε)
  | none => none
@[simp] theorem bs_v (s : Sl) (ε : En) (k : Sl → En → Option Fl) : bs (some (.v s ε)) k = k s ε := rfl
@[simp] theorem bs_x (c : Str) (fs : List (Str × D)) (ε : En) (k : Sl → En → Option Fl) : bs (some (.x c fs ε)) k = some (.ex c fs ε) := rfl
@[simp] theorem bs_n (k : Sl → En → Option Fl) : bs none k = none := rfl
theorem DoS.exx {K : PySem.W.Frag} {W : WX} {np : Nat} {σ : St} {ε ε1 : En} {F H : Hp} {Z : Ends} {c : Str} {gs : List (Str × D)} (h : DoS K W np σ ε F H (some (.ex c gs ε1)) Z) : ∀ d H' F', AftX K σ ε F H F' H' ε1 d gs → W (.ref (He.ga K c)) (some d) σ H' :=
  fun d H' F' a => h d σ H' F' a.fs a.eo a.xd .refl a.fr
theorem bs_do {K : PySem.W.Frag} {W : WX} {np : Nat} {σ : St} {ε : En} {F H : Hp} {Z : Ends} {r : Option (R Sl)} {k : Sl → En → Option Fl} {G : VK} (h : DoS K W np σ ε F H (bs r k) Z)
    (g : ∀ s ε1 v H1 F1, Aft K σ ε F H F1 H1 ε1 v s → DoS K W np σ ε F H (k s ε1) Z → G v H1) : Do K W σ ε F H r G := by
  cases r with
  | none => exact h
  | some r =>
    cases r with
    | x c fs ε1 => exact DoS.exx h
    | v s ε1 => exact fun v H1 F1 a => g s ε1 v H1 F1 a h

def sNext : FS := fun ε => some (.nx ε)
def sSeq (f g : FS) : FS := fun ε => match f ε with
  | some (.nx ε1) => g ε1
  | o => o
def sRet (f : FE) : FS := fun ε => bs (f ε) fun s ε1 => some (.rt s ε1)
def sRetN : FS := fun ε => some (.rt (.fz .non) ε)
def sExpr (f : FE) : FS := fun ε => bs (f ε) fun _ ε1 => some (.nx ε1)
def sSet (i : Nat) (f : FE) : FS := fun ε => bs (f ε) fun s ε1 => some (.nx (ε1.set i s))
def sBrk : FS := fun ε => some (.bk ε)
def sCnt : FS := fun ε => some (.ct ε)

theorem EOk.put {K : PySem.W.Frag} {F H : Hp} {σ : St} {ε : En} {i : Nat} {v : V} {s : Sl} (e : EOk K F H σ ε) (r : RepS K F H v s) (ap : Apart σ ε v s) : EOk K F H (σ.set i (some v)) (ε.set i s) := by
  have cse : ∀ (j : Nat) (x : Sl), (ε.set i s)[j]? = some x → (j = i ∧ x = s ∧ (σ.set i (some v))[j]? = some (some v)) ∨ (j ≠ i ∧ ε[j]? = some x ∧ (σ.set i (some v))[j]? = σ[j]?) := fun j x q => by
    by_cases hj : j = i
    · subst hj
      have jl : j < (ε.set j s).length := (List.getElem?_eq_some_iff.mp q).1
      rw [List.length_set] at jl
      rw [List.getElem?_set_self jl] at q
      cases q
      exact .inl ⟨rfl, rfl, List.getElem?_set_self (by rw [e.len]; exact jl)⟩
    · rw [List.getElem?_set_ne (Ne.symm hj)] at q
      exact .inr ⟨hj, q, List.getElem?_set_ne (Ne.symm hj)⟩
  refine ⟨e.sub, by rw [List.length_set, List.length_set]; exact e.len, fun j x q n => ?_, fun j k x y w q1 q2 q3 q4 => ?_, e.tab, e.ntb⟩
  · rcases cse j x q with ⟨_, rfl, h⟩ | ⟨_, h1, h2⟩
    · exact ⟨v, h, r⟩
    · rw [h2]; exact e.val j x h1 n
  · rcases cse j _ q1 with ⟨a1, b1, c1⟩ | ⟨a1, b1, c1⟩ <;> rcases cse k _ q2 with ⟨a2, b2, c2⟩ | ⟨a2, b2, c2⟩
    · rw [a1, a2]
    · subst b1
      rw [c1] at q3
      cases q3
      rw [c2] at q4
      exact absurd q4 (ap k y b2)
    · subst b2
      rw [c2] at q4
      cases q4
      rw [c1] at q3
      exact absurd q3 (ap j x b1)
    · rw [c1] at q3
      rw [c2] at q4
      exact e.inj j k x y w b1 b2 q3 q4
/-- a value stored into a slot: things of others stay -/
theorem Aft.frmPut {K : PySem.W.Frag} {σ : St} {ε : En} {F H F' H' : Hp} {ε' : En} {v : V} {s : Sl} {i : Nat} (a : Aft K σ ε F H F' H' ε' v s) : Frm σ ε F H (σ.set i (some v)) (ε'.set i s) F' H' := fun b o ob => by
  have q := a.fr b o ob
  refine ⟨q.nf, q.at_, q.kd, fun j d h z => ?_⟩
  by_cases hj : j = i
  · subst hj
    have jl : j < (ε'.set j s).length := (List.getElem?_eq_some_iff.mp h).1
    rw [List.length_set] at jl
    rw [List.getElem?_set_self jl] at h
    cases h
    rw [List.getElem?_set_self (by rw [a.eo.len]; exact jl)] at z
    exact a.mi b o ob (Option.some.inj (Option.some.inj z))
  · rw [List.getElem?_set_ne (Ne.symm hj)] at h z
    exact q.no j d h z
theorem keep_set {np i : Nat} {σ : St} {x : Option V} (h : np ≤ i) : KeepP np σ (σ.set i x) := fun j hj => List.getElem?_set_ne (by omega)

section
variable {X : Cx} {W : WX} {np : Nat}
theorem ms_expr {e : Expr} {f : FE} {pos : Pos} (h : ME X W e f) (hs : swapsWith e none pos.line X.env = pure false := by rfl) : MS X W np (.Expr e pos) (sExpr f) := by
  refine PS.imp (ps_expr h hs) fun Z σ H ⟨F, ε, E0, h⟩ => ⟨F, ε, E0, bs_do h fun s ε1 v H1 F1 a h1 => ?_⟩
  exact h1 σ H1 F1 a.fs a.eo .refl a.fr
theorem ms_ret {e : Expr} {f : FE} {pos : Pos} (h : ME X W e f) : MS X W np (.Return (some e) pos) (sRet f) := by
  refine PS.imp (ps_ret h) fun Z σ H ⟨F, ε, E0, h⟩ => ⟨F, ε, E0, bs_do h fun s ε1 v H1 F1 a h1 => ?_⟩
  exact h1 v σ H1 F1 a.fs a.eo a.rs a.ap .refl a.fr a.mi
theorem ms_retN {pos : Pos} : MS X W np (.Return none pos) sRetN :=
  PS.imp ps_retN fun Z σ H ⟨F, ε, E0, h⟩ => h .non σ H F (.refl _) E0 .non trivial .refl .refl trivial
theorem ms_pass {pos : Pos} : MS X W np (.Pass pos) sNext := PS.imp ps_pass fun Z σ H ⟨F, ε, E0, h⟩ => h σ H F (.refl _) E0 .refl .refl
theorem ms_brk {pos : Pos} : MS X W np (.Break pos) sBrk := PS.imp ps_break fun Z σ H ⟨F, ε, E0, h⟩ => h σ H F (.refl _) E0 .refl .refl
theorem ms_cnt {pos : Pos} : MS X W np (.Continue pos) sCnt := PS.imp ps_continue fun Z σ H ⟨F, ε, E0, h⟩ => h σ H F (.refl _) E0 .refl .refl
theorem mss_nil : MSs X W np [] sNext := PSs.imp pss_nil fun Z σ H ⟨F, ε, E0, h⟩ => h σ H F (.refl _) E0 .refl .refl
theorem mss_one {st : Stmt} {f : FS} (h : MS X W np st f) : MSs X W np [st] f := pss_one h
theorem mss_cons {st : Stmt} {rest : List Stmt} {f g : FS} (h : MS X W np st f) (h2 : MSs X W np rest g) : MSs X W np (st :: rest) (sSeq f g) := by
  refine PSs.imp (pss_cons h h2) fun Z σ H ⟨F, ε, E0, h⟩ => ⟨F, ε, E0, ?_⟩
  unfold sSeq at h
  cases q : f ε with
  | none => rw [q] at h; exact h
  | some r =>
    rw [q] at h
    cases r with
    | nx ε1 => exact fun σ1 H1 F1 s1 e1 k1 c1 => ⟨F1, ε1, e1, DoS.sub h s1 k1 c1⟩
    | bk ε1 => exact h
    | ct ε1 => exact h
    | rt s ε1 => exact h
    | ex c gs ε1 => exact h
theorem ms_set {i : Nat} {x : Str} {e : Expr} {f : FE} {pos pos' : Pos} (hN : X.N.Nodup) (hi : X.N[i]? = some x) (hx : Loc X.env.scope x) (h : ME X W e f) (hnp : np ≤ i := by decide) (hs : swapsWith e (some (.Name x pos')) pos.line X.env = pure false := by rfl)
    (hf : X.fn x = true ∨ X.env.scope.names.lookup x = some .local := by first | exact .inl rfl | exact .inr rfl | assumption) : MS X W np (.Assign [.Name x pos'] e pos) (sSet i f) := by
  refine PS.imp (ps_set (i := i) hN hi hx h hs hf) fun Z σ H ⟨F, ε, E0, h⟩ => ⟨F, ε, E0, bs_do h fun s ε1 v H1 F1 a h1 => ?_⟩
  exact h1 _ H1 F1 a.fs (a.eo.put a.rs a.ap) (keep_set hnp) (a.frmPut)
end

/-! ### tests -/
def DoT (K : PySem.W.Frag) (W : WX) (σ : St) (ε : En) (F H : Hp) (r : Option (R Bool)) (Q : Bool → Hp → Prop) : Prop := match r with
  | none => False
  | some (.v b ε') => ∀ H' F', Same F F' → EOk K F' H' σ ε' → Frm σ ε F H σ ε' F' H' → Q b H'
  | some (.x c fs ε') => ∀ d H' F', AftX K σ ε F H F' H' ε' d fs → W (.ref (He.ga K c)) (some d) σ H'
def tMT (K : PySem.W.Frag) (W : WX) (f : FB) : TT := fun σ H Q => ∃ F ε, EOk K F H σ ε ∧ DoT K W σ ε F H (f ε) Q
abbrev MT (X : Cx) (W : WX) (e : Expr) (f : FB) : Prop := PT X e (tMT X.K W f)
/-- a truth that is known -/
def bB (f : FE) : FB := fun ε => bf (f ε) fun d ε1 => match d with
  | .bl b => some (.v b ε1)
  | _ => none
theorem DoT.sub {K : PySem.W.Frag} {W : WX} {σ : St} {ε ε1 : En} {F H F' H' : Hp} {r : Option (R Bool)} {Q : Bool → Hp → Prop} (h : DoT K W σ ε F H r Q) (s : Same F F') (fr : Frm σ ε F H σ ε1 F' H') : DoT K W σ ε1 F' H' r Q := by
  cases r with
  | none => exact h
  | some q =>
    cases q with
    | v b ε2 => exact fun H2 F2 a2 e2 c => h H2 F2 (s.trans a2) e2 (fr.trans c)
    | x c fs ε2 => exact fun d H2 F2 a2 => h d H2 F2 (a2.then s fr)
theorem DoT.bindF {K : PySem.W.Frag} {W : WX} {σ : St} {ε : En} {F H : Hp} {r : Option (R Sl)} {k : D → En → Option (R Bool)} {Q : Bool → Hp → Prop} {G : VK} (h : DoT K W σ ε F H (bf r k) Q)
    (g : ∀ d ε1 v H1 F1, AftD K σ ε F H F1 H1 ε1 v d → DoT K W σ ε1 F1 H1 (k d ε1) Q → G v H1) : Do K W σ ε F H r G := by
  cases r with
  | none => exact h
  | some r =>
    cases r with
    | x c fs ε1 => exact h
    | v s ε1 =>
      intro v H1 F1 a
      cases s with
      | un => exact a.rs.elim
      | fz d =>
        obtain ⟨F2, a2⟩ := a.data (.inl rfl)
        exact g (wk d) ε1 v H1 F2 a2.wk (DoT.sub (show DoT K W σ ε F H (k (wk d) ε1) Q from h) a2.fs a2.fr)
      | ow d =>
        obtain ⟨F2, a2⟩ := a.data (.inr rfl)
        exact g d ε1 v H1 F2 a2 (DoT.sub (show DoT K W σ ε F H (k d ε1) Q from h) a2.fs a2.fr)
theorem bB_ok {K : PySem.W.Frag} {W : WX} {f : FE} {σ : St} {H : Hp} {Q : Bool → Hp → Prop} (h : tMT K W (bB f) σ H Q) : tM K W f σ H fun x H1 => ∃ c, x = .bl c ∧ Q c H1 := by
  obtain ⟨F, ε, E0, h⟩ := h
  refine ⟨F, ε, E0, DoT.bindF h fun d ε1 v H1 F1 a h1 => ?_⟩
  cases d with
  | bl b =>
    cases a.rp
    exact ⟨b, rfl, h1 H1 F1 (.refl _) a.eo .refl⟩
  | _ => exact h1.elim
def bnot (f : FB) : FB := fun ε => bnd (f ε) fun b ε1 => some (.v (!b) ε1)
def band (f g : FB) : FB := fun ε => bnd (f ε) fun b ε1 => if b then g ε1 else some (.v false ε1)
def bor (f g : FB) : FB := fun ε => bnd (f ε) fun b ε1 => if b then some (.v true ε1) else g ε1
section
variable {X : Cx} {W : WX} {np : Nat}
theorem mt_val {e : Expr} {f : FE} (h : ME X W e f) (he : ∀ whole, isTrue e X.env whole = (do let v ← whole; standAt e.pos; holding [v] (truthy v)) := by intro _; rfl) : MT X W e (bB f) :=
  PT.imp (pt_val h he) fun _ _ _ q => bB_ok q
theorem DoT.bind {K : PySem.W.Frag} {σ : St} {ε : En} {F H : Hp} {r : Option (R Bool)} {k : Bool → En → Option (R Bool)} {Q G : Bool → Hp → Prop} (h : DoT K W σ ε F H (bnd r k) Q)
    (g : ∀ b ε1 H1 F1, EOk K F1 H1 σ ε1 → DoT K W σ ε1 F1 H1 (k b ε1) Q → G b H1) : DoT K W σ ε F H r G := by
  cases r with
  | none => exact h
  | some r =>
    cases r with
    | x c fs ε1 => exact h
    | v b ε1 => exact fun H1 F1 s e fr => g b ε1 H1 F1 e (DoT.sub (show DoT K W σ ε F H (k b ε1) Q from h) s fr)
theorem mt_not {e : Expr} {f : FB} {pos : Pos} (h : MT X W e f) : MT X W (.UnaryOp .Not e pos) (bnot f) := by
  refine PT.imp (pt_not h) fun σ H Q ⟨F, ε, E0, h⟩ => ⟨F, ε, E0, DoT.bind h fun b ε1 H1 F1 e h1 => ?_⟩
  exact h1 H1 F1 (.refl _) e .refl
theorem mt_and1 {e : Expr} {f : FB} {pos : Pos} (h : MT X W e f) : PW X (.BoolOp .And [e] pos) (tMT X.K W f) := pw_and1 h
theorem mt_or1 {e : Expr} {f : FB} {pos : Pos} (h : MT X W e f) : PW X (.BoolOp .Or [e] pos) (tMT X.K W f) := pw_or1 h
theorem PW.imp {e : Expr} {t t' : TT} (h : PW X e t) (i : ∀ σ H Q, t' σ H Q → t σ H Q) : PW X e t' := ⟨fun wh pins s σ H Q I q => h.run wh pins s σ H Q I (i σ H Q q)⟩
theorem mt_and {a b : Expr} {rest : List Expr} {f g : FB} {pos : Pos} (h : MT X W a f) (h2 : PW X (.BoolOp .And (b :: rest) pos) (tMT X.K W g)) : PW X (.BoolOp .And (a :: b :: rest) pos) (tMT X.K W (band f g)) := by
  refine PW.imp (pw_and h h2) fun σ H Q ⟨F, ε, E0, h⟩ => ⟨F, ε, E0, DoT.bind h fun b ε1 H1 F1 e h1 => ?_⟩
  cases b with
  | true => exact iteT ⟨F1, ε1, e, h1⟩
  | false => exact iteF (h1 H1 F1 (.refl _) e .refl)
theorem mt_or {a b : Expr} {rest : List Expr} {f g : FB} {pos : Pos} (h : MT X W a f) (h2 : PW X (.BoolOp .Or (b :: rest) pos) (tMT X.K W g)) : PW X (.BoolOp .Or (a :: b :: rest) pos) (tMT X.K W (bor f g)) := by
  refine PW.imp (pw_or h h2) fun σ H Q ⟨F, ε, E0, h⟩ => ⟨F, ε, E0, DoT.bind h fun b ε1 H1 F1 e h1 => ?_⟩
  cases b with
  | true => exact iteT (h1 H1 F1 (.refl _) e .refl)
  | false => exact iteF ⟨F1, ε1, e, h1⟩

/-! ### truths as values: and, or, not, if-else -/
def eAnd (f g : FE) : FE := fun ε => bf (f ε) fun d ε1 => match d with
  | .bl true => g ε1
  | .bl false => some (.v (.fz (.bl false)) ε1)
  | _ => none
def eOr (f g : FE) : FE := fun ε => bf (f ε) fun d ε1 => match d with
  | .bl true => some (.v (.fz (.bl true)) ε1)
  | .bl false => g ε1
  | _ => none
def eNot (f : FE) : FE := e1 (fun d => match d with
  | .bl b => some (.fz (.bl (!b)))
  | _ => none) f
def eIf (c : FB) (f g : FE) : FE := fun ε => bnd (c ε) fun b ε1 => if b then f ε1 else g ε1
theorem me_one {op} {e : Expr} {f : FE} {pos : Pos} (h : ME X W e f) : ME X W (.BoolOp op [e] pos) f := pe_one h
theorem me_and {a b : Expr} {rest : List Expr} {f g : FE} {pos : Pos} (h : ME X W a f) (h2 : ME X W (.BoolOp .And (b :: rest) pos) g) : ME X W (.BoolOp .And (a :: b :: rest) pos) (eAnd f g) := by
  refine PE.imp (pe_and h h2) fun σ H Q ⟨F, ε, E0, h⟩ => ⟨F, ε, E0, Do.bindF h fun d ε1 v H1 F1 a h1 => ?_⟩
  cases d with
  | bl b =>
    cases a.rp
    cases b with
    | true => exact ⟨true, rfl, iteT ⟨F1, ε1, a.eo, h1⟩⟩
    | false => exact ⟨false, rfl, iteF (h1 _ H1 F1 (.here a.eo (.bl _)))⟩
  | _ => exact h1.elim
theorem me_or {a b : Expr} {rest : List Expr} {f g : FE} {pos : Pos} (h : ME X W a f) (h2 : ME X W (.BoolOp .Or (b :: rest) pos) g) : ME X W (.BoolOp .Or (a :: b :: rest) pos) (eOr f g) := by
  refine PE.imp (pe_or h h2) fun σ H Q ⟨F, ε, E0, h⟩ => ⟨F, ε, E0, Do.bindF h fun d ε1 v H1 F1 a h1 => ?_⟩
  cases d with
  | bl b =>
    cases a.rp
    cases b with
    | true => exact ⟨true, rfl, iteT (h1 _ H1 F1 (.here a.eo (.bl _)))⟩
    | false => exact ⟨false, rfl, iteF ⟨F1, ε1, a.eo, h1⟩⟩
  | _ => exact h1.elim
theorem p_not {K : PySem.W.Frag} : Prim1 K (fun x H Q => ∃ c, x = .bl c ∧ Q (.bl (!c)) H) (fun d => match d with
  | .bl b => some (.fz (.bl (!b)))
  | _ => none) := by
  intro F H vx x s Q sm rx e g
  cases x with
  | bl b => cases e; exact ⟨b, rx.bl, g.same sm (.bl _)⟩
  | _ => cases e
theorem me_not {e : Expr} {f : FE} {pos : Pos} (h : ME X W e f) : ME X W (.UnaryOp .Not e pos) (eNot f) := PE.imp (pe_not h) fun _ _ _ q => e1_ok p_not q
theorem me_if {c a b : Expr} {t : FB} {f g : FE} {pos : Pos} (hc : MT X W c t) (h : ME X W a f) (h2 : ME X W b g) : ME X W (.IfExp c a b pos) (eIf t f g) := by
  refine PE.imp (pe_ifExp hc h h2) fun σ H Q ⟨F, ε, E0, h⟩ => ⟨F, ε, E0, ?_⟩
  unfold eIf at h
  cases q : t ε with
  | none => rw [q] at h; exact h
  | some r =>
    rw [q] at h
    cases r with
    | x c gs ε1 => exact h
    | v b ε1 =>
      intro H1 F1 s1 e1 c1
      cases b with
      | true => exact iteT ⟨F1, ε1, e1, Do.sub h s1 c1⟩
      | false => exact iteF ⟨F1, ε1, e1, Do.sub h s1 c1⟩

/-! ### if -/
def sIf (c : FB) (f g : FS) : FS := fun ε => match c ε with
  | some (.v true ε1) => f ε1
  | some (.v false ε1) => g ε1
  | some (.x c fs ε1) => some (.ex c fs ε1)
  | none => none
theorem ms_if {c : Expr} {a b : List Stmt} {t : FB} {f g : FS} {pos : Pos} (hc : MT X W c t) (h : MSs X W np a f) (h2 : MSs X W np b g) : MS X W np (.If c a b pos) (sIf t f g) := by
  refine PS.imp (ps_if hc h h2) fun Z σ H ⟨F, ε, E0, h⟩ => ⟨F, ε, E0, ?_⟩
  unfold sIf at h
  cases q : t ε with
  | none => rw [q] at h; exact h
  | some r =>
    rw [q] at h
    cases r with
    | x c gs ε1 => exact DoS.exx h
    | v b ε1 =>
      intro H1 F1 s1 e1 c1
      cases b with
      | true => exact iteT ⟨F1, ε1, e1, DoS.sub h s1 .refl c1⟩
      | false => exact iteF ⟨F1, ε1, e1, DoS.sub h s1 .refl c1⟩
end
end Mi

namespace Mi
open PySem PySem.Spec PyProof.Rows L2

/-! ### a def's promise, where no text of a list is being made -/
structure FnG (P : Program) (w : World) (K : PySem.W.Frag) (mg : Str → Option Value) (base : Heap) (u : Bool) (n : Nat) (f : Addr) (fd : FuncData) (ps : List Str) (sp : Sp) : Prop where
  len : ∀ vs H Q E, sp vs H Q E → vs.length = ps.length
  run : ∀ (A : Around) (out : List Env) (st : Shared) (H : Hp) (ar : Args) (us : List Value) (vs : List V) (Q : VK) (E : XK), Room n A → (u = true → A.guards = some []) → Env0 P w K mg base A out st H →
    BindsTo st fd ar (ps.zip us) → Vals vs us → sp vs H Q E → codeAny (model P w) A (.call (.ref f) ar) (CR (L2.CX P w) out P w H st Q E) st
theorem FnG.mono {P : Program} {w : World} {K : PySem.W.Frag} {mg : Str → Option Value} {base : Heap} {u : Bool} {n m : Nat} {f : Addr} {fd : FuncData} {ps : List Str} {sp : Sp} (g : FnG P w K mg base u n f fd ps sp) (h : n ≤ m) : FnG P w K mg base u m f fd ps sp :=
  ⟨g.len, fun A out st H ar us vs Q E rm => g.run A out st H ar us vs Q E (rm.mono h)⟩

/-- a def in which no text of a list is asked for -/
theorem FnG.ok {P : Program} {w : World} {K : PySem.W.Frag} {mg : Str → Option Value} {base : Heap} {n : Nat} {f : Addr} {fd : FuncData} {ps : List Str} {sp : Sp} (g : FnG P w K mg base false n f fd ps sp) : FnOk P w K mg base (L2.CX P w) n f fd ps sp :=
  ⟨g.len, fun A out st H ar us vs Q E rm => g.run A out st H ar us vs Q E rm (fun z => Bool.noConfusion z)⟩
/-- a def by its body -/
theorem fnG_of {P : Program} {w : World} {K : PySem.W.Frag} {mg : Str → Option Value} {base : Heap} {u : Bool} {n : Nat} {f : Addr} {x q : Str} {pr : Arguments} {body : List Stmt} {sc : Scope} {fd : FuncData} {dvs : List V} {kws : List (Str × V)} {N ps : List Str} {sp : Sp}
    (D : FunD K x q pr body sc dvs kws f fd) (S : FnScope N ps sc) (ln : ∀ vs H Q E, sp vs H Q E → vs.length = ps.length)
    (hb : ∀ (cv : Value) (A : Around) (out : List Env) (st : Shared) (H : Hp) (vs : List V) (Q : VK) (E : XK), Room n (A.deeper (envOfC q sc st.heap.objs.size f cv)) → (u = true → A.guards = some []) → sp vs H Q E →
      ∃ t, PSs (cxOf (L2.CX P w) P w K mg base N q sc f cv A out st H E) body t ∧ t { nx := fun _ H' => Q .non H', rt := Q } (start N vs) H) : FnG P w K mg base u (n + 1) f fd ps sp := by
  obtain ⟨oc, od, dV, kV, dc, pm, an, cv, ct, sl, rfl, lk, hc, _, _⟩ := D.ex
  refine ⟨ln, fun A out st H ar us vs Q E rm gd e0 bd rv wish => ?_⟩
  have inn : K.In st.heap := e0.mod.kin.keeps fun b o z => (e0.bs b o z).1
  have nol : st.heap.NoLimit := e0.mod.nolimit.keeps fun b o z => (e0.bs b o z).1
  refine codeAny_call_function rm.depth (inn _ _ lk) rfl S.co S.gen rfl (PySem.W.codeRec_of inn hc) (bd _ _ _ _ ?_)
  have kinds : ∀ y ∈ ps.zip us, sc.names.lookup y.1 = some .local ∨ (sc.names.lookup y.1 = some .cell ∧ ((cellsFrom (st.heap.objs.size + 1) sc.names []).lookup y.1).isSome = true) := by
    rintro ⟨m, v⟩ hy
    rcases S.par m (List.of_mem_zip hy).1 with z | z
    · exact Or.inl z
    · exact Or.inr ⟨z, PySem.W.cellsFrom_some _ _ _ (.inl z)⟩
  refine wpAny_newFunctionEnv_cells S.kind kinds fun env he st1 ic => ?_
  subst he
  refine ⟨nol.keeps ic.toInCall.keep, codeAny_func ?_⟩
  obtain ⟨t, ht, hq⟩ := hb cv A out st H vs Q E (rm.deeper _) gd wish
  have J := inv_start (CX := L2.CX P w) (E := E) S rm.hd e0 (ln _ _ _ _ wish) rv ic
  refine wpAny_mono (ht.run [] st1 (start N vs) H _ J hq) (fun fl st2 z => ?_) fun e st2 z => z
  cases fl with
  | ret u =>
    obtain ⟨v, σ', H', I2, r2, q2⟩ := z
    exact ⟨v, H', I2.os, I2.bare, I2.base, I2.hok, r2, q2⟩
  | next =>
    obtain ⟨σ', H', I2, q2⟩ := z
    exact ⟨V.non, H', I2.os, I2.bare, I2.base, I2.hok, rfl, q2⟩
  | brk =>
    obtain ⟨_, _, _, q2⟩ := z
    exact q2.elim
  | cont =>
    obtain ⟨_, _, _, q2⟩ := z
    exact q2.elim

/-! ### a def as a function on slots -/
abbrev FD := List Sl → Option (R Sl)
abbrev WE0 (E : XK) : WX := fun c d _ H => E c d H
def spM (K : PySem.W.Frag) (np : Nat) (Fd : FD) : Sp := fun vs H Q E => vs.length = np ∧ ∃ F ss, EOk K F H (vs.map some) ss ∧ Do K (WE0 E) (vs.map some) ss F H (Fd ss) Q
/-- n slots, the body f -/
def runD (n : Nat) (f : FS) : FD := fun ss => match f (ss ++ List.replicate (n - ss.length) Sl.un) with
  | some (.nx ε) => some (.v (.fz .non) (ε.take ss.length))
  | some (.rt s ε) => some (.v s (ε.take ss.length))
  | some (.ex c gs ε) => some (.x c gs (ε.take ss.length))
  | _ => none

section
variable {K : PySem.W.Frag} {F H : Hp}
theorem EOk.start {N : List Str} {vs : List V} {ss : List Sl} (e : EOk K F H (vs.map some) ss) (hn : vs.length ≤ N.length) : EOk K F H (start N vs) (ss ++ List.replicate (N.length - ss.length) Sl.un) := by
  have ln : vs.length = ss.length := by have := e.len; simpa using this
  have at1 : ∀ (i : Nat) (s : Sl), (ss ++ List.replicate (N.length - ss.length) Sl.un)[i]? = some s → s ≠ .un → ss[i]? = some s ∧ (L2.start N vs)[i]? = (vs.map some)[i]? := fun i s q n => by
    by_cases hi : i < ss.length
    · rw [List.getElem?_append_left hi] at q
      refine ⟨q, ?_⟩
      unfold L2.start
      rw [List.getElem?_append_left (by simpa [ln] using hi)]
    · rw [List.getElem?_append_right (by omega), List.getElem?_replicate] at q
      split at q
      · cases q; exact absurd rfl n
      · cases q
  refine ⟨e.sub, ?_, fun i s q n => ?_, fun i j d d' v q1 q2 q3 q4 => ?_, e.tab, e.ntb⟩
  · unfold L2.start; simp; omega
  · obtain ⟨a, b⟩ := at1 i s q n
    rw [b]; exact e.val i s a n
  · obtain ⟨a, b⟩ := at1 i _ q1 (by simp)
    obtain ⟨a', b'⟩ := at1 j _ q2 (by simp)
    rw [b] at q3
    rw [b'] at q4
    exact e.inj i j d d' v a a' q3 q4
/-- the parameters' slots alone -/
theorem EOk.pars {N : List Str} {vs : List V} {σ' : St} {ε' : En} {np : Nat} (e : EOk K F H σ' ε') (hv : vs.length = np) (k : KeepP np (L2.start N vs) σ') : EOk K F H (vs.map some) (ε'.take np) ∧ (∀ (i : Nat) (s : Sl), (ε'.take np)[i]? = some s → ε'[i]? = some s ∧ σ'[i]? = (vs.map some)[i]?) := by
  have st : ∀ i : Nat, i < np → σ'[i]? = (vs.map some)[i]? := fun i hi => by
    rw [k i hi]
    unfold L2.start
    rw [List.getElem?_append_left (by simpa [hv] using hi)]
  have long : np ≤ ε'.length := by
    rw [← e.len]
    cases np with
    | zero => exact Nat.zero_le _
    | succ m =>
      have z := st m (Nat.lt_succ_self _)
      rw [List.getElem?_map, List.getElem?_eq_getElem (by omega : m < vs.length)] at z
      have := (List.getElem?_eq_some_iff.mp z).1
      omega
  have at2 : ∀ (i : Nat) (s : Sl), (ε'.take np)[i]? = some s → ε'[i]? = some s ∧ σ'[i]? = (vs.map some)[i]? := fun i s q => by
    have hi : i < np := by
      have := (List.getElem?_eq_some_iff.mp q).1
      rw [List.length_take] at this
      omega
    rw [List.getElem?_take_of_lt hi] at q
    exact ⟨q, st i hi⟩
  refine ⟨⟨e.sub, by simp; omega, fun i s q n => ?_, fun i j d d' v q1 q2 q3 q4 => ?_, e.tab, e.ntb⟩, at2⟩
  · obtain ⟨a, b⟩ := at2 i s q
    rw [← b]; exact e.val i s a n
  · obtain ⟨a, b⟩ := at2 i _ q1
    obtain ⟨a', b'⟩ := at2 j _ q2
    rw [← b] at q3
    rw [← b'] at q4
    exact e.inj i j d d' v a a' q3 q4
theorem frm_def {N : List Str} {vs : List V} {ss : List Sl} {σ' : St} {ε' : En} {F' H' : Hp} (e : EOk K F H (vs.map some) ss) (at2 : ∀ (i : Nat) (s : Sl), (ε'.take ss.length)[i]? = some s → ε'[i]? = some s ∧ σ'[i]? = (vs.map some)[i]?)
    (fr : Frm (L2.start N vs) (ss ++ List.replicate (N.length - ss.length) Sl.un) F H σ' ε' F' H') :
    (∀ a o, Oth (vs.map some) ss F H a o → Oth (L2.start N vs) (ss ++ List.replicate (N.length - ss.length) Sl.un) F H a o) ∧ Frm (vs.map some) ss F H (vs.map some) (ε'.take ss.length) F' H' := by
  have ln : vs.length = ss.length := by have := e.len; simpa using this
  have up : ∀ a o, Oth (vs.map some) ss F H a o → Oth (L2.start N vs) (ss ++ List.replicate (N.length - ss.length) Sl.un) F H a o := fun a o z => ⟨z.nf, z.at_, z.kd, fun i d q => by
    have hi : i < ss.length := by
      by_cases hi : i < ss.length
      · exact hi
      · rw [List.getElem?_append_right (by omega), List.getElem?_replicate] at q
        split at q <;> cases q
    rw [List.getElem?_append_left hi] at q
    unfold L2.start
    rw [List.getElem?_append_left (by simpa [ln] using hi)]
    exact z.no i d q⟩
  refine ⟨up, fun a o z => ?_⟩
  have z2 := fr a o (up a o z)
  refine ⟨z2.nf, z2.at_, z2.kd, fun i d q => ?_⟩
  obtain ⟨h1, h2⟩ := at2 i _ q
  rw [← h2]
  exact z2.no i d h1
end

theorem runD_ok {K : PySem.W.Frag} {N : List Str} {np : Nat} {f : FS} {vs : List V} {H : Hp} {Q : VK} {E : XK} (hn : np ≤ N.length) (h : spM K np (runD N.length f) vs H Q E) :
    sM K (WE0 E) np f { nx := fun _ H' => Q .non H', rt := Q } (start N vs) H := by
  obtain ⟨hv, F, ss, E0, h⟩ := h
  have ln : ss.length = np := by have := E0.len; simp at this; omega
  refine ⟨F, _, E0.start (N := N) (by omega), ?_⟩
  unfold runD at h
  have cv : ∀ {ε' : En} {σ' : St} {F' H' : Hp}, EOk K F' H' σ' ε' → KeepP np (L2.start N vs) σ' → Frm (L2.start N vs) (ss ++ List.replicate (N.length - ss.length) Sl.un) F H σ' ε' F' H' →
      EOk K F' H' (vs.map some) (ε'.take ss.length) ∧ Frm (vs.map some) ss F H (vs.map some) (ε'.take ss.length) F' H' ∧ (∀ (i : Nat) (s : Sl), (ε'.take ss.length)[i]? = some s → ε'[i]? = some s ∧ σ'[i]? = (vs.map some)[i]?) ∧
      (∀ a o, Oth (vs.map some) ss F H a o → Oth (L2.start N vs) (ss ++ List.replicate (N.length - ss.length) Sl.un) F H a o) := fun {ε' σ' F' H'} e k fr => by
    obtain ⟨e2, at2⟩ := e.pars hv k
    rw [← ln] at e2 at2
    obtain ⟨up, fr2⟩ := frm_def E0 at2 fr
    exact ⟨e2, fr2, at2, up⟩
  cases q : f (ss ++ List.replicate (N.length - ss.length) Sl.un) with
  | none => rw [q] at h; exact h
  | some r =>
    rw [q] at h
    cases r with
    | nx ε' =>
      intro σ' H' F' s e k fr
      obtain ⟨e2, fr2, _, _⟩ := cv e k fr
      exact h .non H' F' ⟨s, e2, .non, trivial, fr2, trivial⟩
    | bk ε' => exact h.elim
    | ct ε' => exact h.elim
    | rt s ε' =>
      intro v σ' H' F' sm e r ap k fr mi
      obtain ⟨e2, fr2, at2, up⟩ := cv e k fr
      refine h v H' F' ⟨sm, e2, r, ?_, fr2, ?_⟩
      · cases s with
        | ow d =>
          intro i x q
          obtain ⟨h1, h2⟩ := at2 i _ q
          rw [← h2]
          exact ap i x h1
        | _ => exact trivial
      · cases s with
        | ow d => exact fun a o z => mi a o (up a o z)
        | _ => exact trivial
    | ex c gs ε' =>
      intro d σ' H' F' sm e x k fr
      obtain ⟨e2, fr2, _, up⟩ := cv e k fr
      exact h d H' F' ⟨sm, e2, ⟨x.1, fun a o z => x.2 a o (up a o z)⟩, fr2⟩

/-! ### arguments -/
abbrev As := List (Option Nat × Sl)
abbrev FAr := En → Option (R As)
inductive ArgsOk (K : PySem.W.Frag) (σ : St) (ε : En) (F H : Hp) : List V → As → Prop
  | nil : ArgsOk K σ ε F H [] []
  | val {v : V} {d : D} {vs : List V} {ss : As} : Rep K F v d → ArgsOk K σ ε F H vs ss → ArgsOk K σ ε F H (v :: vs) ((none, .fz d) :: ss)
  | mu {v : V} {i : Nat} {s : Sl} {vs : List V} {ss : As} : σ[i]? = some (some v) → ε[i]? = some s → s ≠ .un → ArgsOk K σ ε F H vs ss → ArgsOk K σ ε F H (v :: vs) ((some i, s) :: ss)
  | tmp {v : V} {d : D} : RepS K F H v (.ow d) → Apart σ ε v (.ow d) → ArgsOk K σ ε F H [v] [(none, .ow d)]
structure AftA (K : PySem.W.Frag) (σ : St) (ε : En) (F H F' H' : Hp) (ε' : En) (vs : List V) (ss : As) : Prop where
  fs : Same F F'
  eo : EOk K F' H' σ ε'
  ok : ArgsOk K σ ε' F' H' vs ss
  fr : Frm σ ε F H σ ε' F' H'
  mi : ∀ (p : Nat) (v : V) (d : D), vs[p]? = some v → ss[p]? = some (none, .ow d) → Mine σ ε F H v (.ow d)
def DoA (K : PySem.W.Frag) (W : WX) (σ : St) (ε : En) (F H : Hp) (r : Option (R As)) (Q : List V → Hp → Prop) : Prop := match r with
  | none => False
  | some (.v ss ε') => ∀ vs H' F', AftA K σ ε F H F' H' ε' vs ss → Q vs H'
  | some (.x c gs ε') => ∀ d H' F', AftX K σ ε F H F' H' ε' d gs → W (.ref (He.ga K c)) (some d) σ H'
def tMA (K : PySem.W.Frag) (W : WX) (f : FAr) : TA := fun σ H Q => ∃ F ε, EOk K F H σ ε ∧ DoA K W σ ε F H (f ε) Q
abbrev MA (X : Cx) (W : WX) (es : List Expr) (f : FAr) : Prop := PA X es (tMA X.K W f)
theorem PA.imp {X : Cx} {e : List Expr} {t t' : TA} (h : PA X e t) (i : ∀ σ H Q, t' σ H Q → t σ H Q) : PA X e t' := ⟨fun p pins s σ H Q I q => h.run p pins s σ H Q I (i σ H Q q)⟩
def aNil : FAr := fun ε => some (.v [] ε)
def aCons (f : FE) (g : FAr) : FAr := fun ε => bfR (f ε) fun d ε1 => bnd (g ε1) fun ss ε2 => some (.v ((none, .fz d) :: ss) ε2)
/-- a name, handed on as it is -/
def aMu (i : Nat) (g : FAr) : FAr := fun ε => match look ε i with
  | none => none
  | some _ => bnd (g ε) fun ss ε2 => match ε2[i]? with
    | some .un => none
    | some s => some (.v ((some i, s) :: ss) ε2)
    | none => none
/-- the last one, with what it owns -/
def aTmp (f : FE) : FAr := fun ε => bnd (f ε) fun s ε1 => match s with
  | .un => none
  | s => some (.v [(none, s)] ε1)

theorem DoA.sub {K : PySem.W.Frag} {W : WX} {σ : St} {ε ε1 : En} {F H F1 H1 : Hp} {r : Option (R As)} {Q : List V → Hp → Prop} (h : DoA K W σ ε F H r Q) (s : Same F F1) (fr : Frm σ ε F H σ ε1 F1 H1) : DoA K W σ ε1 F1 H1 r Q := by
  cases r with
  | none => exact h
  | some q =>
    cases q with
    | v ss ε2 => exact fun vs H2 F2 a => h vs H2 F2 ⟨s.trans a.fs, a.eo, a.ok, fr.trans a.fr, fun p v d h1 h2 => (a.mi p v d h1 h2).pre fr⟩
    | x c gs ε2 => exact fun d H2 F2 a2 => h d H2 F2 (a2.then s fr)
section
variable {X : Cx} {W : WX} {es : List Expr} {e : Expr}
theorem ma_nil : MA X W [] aNil := PA.imp pa_nil fun σ H Q ⟨F, ε, E0, h⟩ => h [] H F ⟨.refl _, E0, .nil, .refl, fun p v d h1 _ => by simp at h1⟩
theorem DoA.bindF {K : PySem.W.Frag} {σ : St} {ε : En} {F H : Hp} {r : Option (R Sl)} {k : D → En → Option (R As)} {Q : List V → Hp → Prop} {G : VK} (h : DoA K W σ ε F H (bf r k) Q)
    (g : ∀ d ε1 v H1 F1, AftD K σ ε F H F1 H1 ε1 v d → DoA K W σ ε1 F1 H1 (k d ε1) Q → G v H1) : Do K W σ ε F H r G := by
  cases r with
  | none => exact h
  | some r =>
    cases r with
    | x c fs ε1 => exact h
    | v s ε1 =>
      intro v H1 F1 a
      cases s with
      | un => exact a.rs.elim
      | fz d =>
        obtain ⟨F2, a2⟩ := a.data (.inl rfl)
        exact g (wk d) ε1 v H1 F2 a2.wk (DoA.sub (show DoA K W σ ε F H (k (wk d) ε1) Q from h) a2.fs a2.fr)
      | ow d =>
        obtain ⟨F2, a2⟩ := a.data (.inr rfl)
        exact g d ε1 v H1 F2 a2 (DoA.sub (show DoA K W σ ε F H (k d ε1) Q from h) a2.fs a2.fr)
theorem DoA.bindFR {K : PySem.W.Frag} {σ : St} {ε : En} {F H : Hp} {r : Option (R Sl)} {k : D → En → Option (R As)} {Q : List V → Hp → Prop} {G : VK} (h : DoA K W σ ε F H (bfR r k) Q)
    (g : ∀ d ε1 v H1 F1, AftD K σ ε F H F1 H1 ε1 v d → DoA K W σ ε1 F1 H1 (k d ε1) Q → G v H1) : Do K W σ ε F H r G := by
  cases r with
  | none => exact h
  | some r =>
    cases r with
    | x c fs ε1 => exact h
    | v s ε1 =>
      intro v H1 F1 a
      cases s with
      | un => exact a.rs.elim
      | fz d =>
        obtain ⟨F2, a2⟩ := a.data (.inl rfl)
        exact g d ε1 v H1 F2 a2 (DoA.sub (show DoA K W σ ε F H (k d ε1) Q from h) a2.fs a2.fr)
      | ow d =>
        obtain ⟨F2, a2⟩ := a.data (.inr rfl)
        exact g d ε1 v H1 F2 a2 (DoA.sub (show DoA K W σ ε F H (k d ε1) Q from h) a2.fs a2.fr)
theorem DoA.bind {K : PySem.W.Frag} {σ : St} {ε : En} {F H : Hp} {r : Option (R As)} {k : As → En → Option (R As)} {Q G : List V → Hp → Prop} (h : DoA K W σ ε F H (bnd r k) Q)
    (g : ∀ ss ε1 vs H1 F1, AftA K σ ε F H F1 H1 ε1 vs ss → DoA K W σ ε F H (k ss ε1) Q → G vs H1) : DoA K W σ ε F H r G := by
  cases r with
  | none => exact h
  | some r =>
    cases r with
    | x c fs ε1 => exact h
    | v b ε1 => exact fun vs H1 F1 a => g b ε1 vs H1 F1 a h
theorem ma_cons {f : FE} {g : FAr} (h : ME X W e f) (h2 : MA X W es g) (hs : starEach (e :: es) X.env = (false, eval e X.env) :: starEach es X.env := by rfl) : MA X W (e :: es) (aCons f g) := by
  refine PA.imp (pa_cons h h2 hs) fun σ H Q ⟨F, ε, E0, h⟩ => ⟨F, ε, E0, DoA.bindFR h fun d ε1 v H1 F1 a h1 => ⟨F1, ε1, a.eo, DoA.bind h1 fun ss ε2 vs H2 F2 b h2 => ?_⟩⟩
  refine h2 (v :: vs) H2 F2 ⟨b.fs, b.eo, .val (a.rp.up b.fs) b.ok, b.fr, fun p u d' q1 q2 => ?_⟩
  cases p with
  | zero => simp at q2
  | succ p => exact b.mi p u d' (by simpa using q1) (by simpa using q2)
theorem ma_mu {i : Nat} {g : FAr} (h : PE X e (tVar i)) (h2 : MA X W es g) (hs : starEach (e :: es) X.env = (false, eval e X.env) :: starEach es X.env := by rfl) : MA X W (e :: es) (aMu i g) := by
  refine PA.imp (pa_cons h h2 hs) fun σ H Q ⟨F, ε, E0, h⟩ => ?_
  unfold aMu at h
  cases q0 : look ε i with
  | none => rw [q0] at h; exact h.elim
  | some x0 =>
    rw [q0] at h
    obtain ⟨v, hv, _⟩ := E0.look q0
    refine ⟨v, hv, F, ε, E0, DoA.bind h fun ss ε2 vs H2 F2 b h2 => ?_⟩
    cases q : ε2[i]? with
    | none => rw [q] at h2; exact h2.elim
    | some s =>
      rw [q] at h2
      cases s with
      | un => exact h2.elim
      | fz d =>
        refine h2 (v :: vs) H2 F2 ⟨b.fs, b.eo, .mu hv q (by simp) b.ok, b.fr, fun p u d' q1 q2 => ?_⟩
        cases p with
        | zero => simp at q2
        | succ p => exact b.mi p u d' (by simpa using q1) (by simpa using q2)
      | ow d =>
        refine h2 (v :: vs) H2 F2 ⟨b.fs, b.eo, .mu hv q (by simp) b.ok, b.fr, fun p u d' q1 q2 => ?_⟩
        cases p with
        | zero => simp at q2
        | succ p => exact b.mi p u d' (by simpa using q1) (by simpa using q2)
theorem DoA.bindS {K : PySem.W.Frag} {σ : St} {ε : En} {F H : Hp} {r : Option (R Sl)} {k : Sl → En → Option (R As)} {Q : List V → Hp → Prop} {G : VK} (h : DoA K W σ ε F H (bnd r k) Q)
    (g : ∀ s ε1 v H1 F1, Aft K σ ε F H F1 H1 ε1 v s → DoA K W σ ε F H (k s ε1) Q → G v H1) : Do K W σ ε F H r G := by
  cases r with
  | none => exact h
  | some r =>
    cases r with
    | x c fs ε1 => exact h
    | v s ε1 => exact fun v H1 F1 a => g s ε1 v H1 F1 a h
theorem ma_tmp {f : FE} (h : ME X W e f) (hs : starEach [e] X.env = (false, eval e X.env) :: starEach [] X.env := by rfl) : MA X W [e] (aTmp f) := by
  refine PA.imp (pa_cons h pa_nil hs) fun σ H Q ⟨F, ε, E0, h⟩ => ⟨F, ε, E0, DoA.bindS h fun s ε1 v H1 F1 a h1 => ?_⟩
  show Q [v] H1
  cases s with
  | un => exact h1.elim
  | fz d => exact h1 [v] H1 F1 ⟨a.fs, a.eo, .val a.rs .nil, a.fr, fun p u d' q1 q2 => by
      cases p with
      | zero => simp at q2
      | succ p => simp at q1⟩
  | ow d => exact h1 [v] H1 F1 ⟨a.fs, a.eo, .tmp a.rs a.ap, a.fr, fun p u d' q1 q2 => by
      cases p with
      | zero => simp at q1 q2; subst q1; subst q2; exact a.mi
      | succ p => simp at q1⟩
end
end Mi

namespace Mi
open PySem PySem.Spec PyProof.Rows L2

/-- what the callee left in the slots of names that were handed on -/
def wb : En → As → List Sl → En
  | ε, (some i, _) :: ss, s :: r => (wb ε ss r).set i s
  | ε, (none, _) :: ss, _ :: r => wb ε ss r
  | ε, _, _ => ε
def muOk (np : Nat) (ss : As) : Bool := decide (ss.filterMap (·.1)).Nodup && decide (ss.length = np)
theorem muOk_ok {np : Nat} {ss : As} (h : muOk np ss = true) : (ss.filterMap (·.1)).Nodup ∧ ss.length = np := by
  unfold muOk at h
  simpa using h
def eCall (np : Nat) (Fd : FD) (fa : FAr) : FE := fun ε => bnd (fa ε) fun ss ε1 => match muOk np ss with
  | true => (match Fd (ss.map (·.2)) with
    | some (.v s ss') => some (.v s (wb ε1 ss ss'))
    | some (.x c gs ss') => some (.x c gs (wb ε1 ss ss'))
    | none => none)
  | false => none

theorem wb_len : ∀ (ε : En) (ss : As) (r : List Sl), (wb ε ss r).length = ε.length
  | _, [], _ => by simp [wb]
  | _, (some i, _) :: ss, [] => by simp [wb]
  | _, (none, _) :: ss, [] => by simp [wb]
  | ε, (some i, _) :: ss, s :: r => by simp [wb, wb_len ε ss r]
  | ε, (none, _) :: ss, s :: r => by simp [wb, wb_len ε ss r]
/-- a slot behind the call: it was handed on at place p, or not at all -/
theorem wb_at : ∀ (ε : En) (ss : As) (r : List Sl) (j : Nat) (s : Sl), ss.length = r.length → (wb ε ss r)[j]? = some s →
    (∃ (p : Nat) (s0 : Sl), ss[p]? = some (some j, s0) ∧ r[p]? = some s) ∨ (ε[j]? = some s ∧ ∀ (p : Nat) (s0 : Sl), ss[p]? ≠ some (some j, s0))
  | _, [], [], j, s, _, h => .inr ⟨by simpa [wb] using h, by simp⟩
  | ε, (some i, s1) :: ss, t :: r, j, s, hl, h => by
    have h : ((wb ε ss r).set i t)[j]? = some s := h
    by_cases hj : i = j
    · subst hj
      have il : i < ((wb ε ss r).set i t).length := (List.getElem?_eq_some_iff.mp h).1
      rw [List.length_set] at il
      rw [List.getElem?_set_self il] at h
      cases h
      exact .inl ⟨0, s1, rfl, rfl⟩
    · rw [List.getElem?_set_ne hj] at h
      rcases wb_at ε ss r j s (by simpa using hl) h with ⟨p, s0, a, b⟩ | ⟨a, b⟩
      · exact .inl ⟨p + 1, s0, by simpa using a, by simpa using b⟩
      · refine .inr ⟨a, fun p s0 => ?_⟩
        cases p with
        | zero => simp [hj]
        | succ p => simpa using b p s0
  | ε, (none, s1) :: ss, t :: r, j, s, hl, h => by
    have h : (wb ε ss r)[j]? = some s := h
    rcases wb_at ε ss r j s (by simpa using hl) h with ⟨p, s0, a, b⟩ | ⟨a, b⟩
    · exact .inl ⟨p + 1, s0, by simpa using a, by simpa using b⟩
    · refine .inr ⟨a, fun p s0 => ?_⟩
      cases p with
      | zero => simp
      | succ p => simpa using b p s0

section
variable {K : PySem.W.Frag} {σ : St} {ε : En} {F H : Hp}
theorem ArgsOk.len : ∀ {vs : List V} {ss : As}, ArgsOk K σ ε F H vs ss → vs.length = ss.length
  | _, _, .nil => rfl
  | _, _, .val _ r => by simp [r.len]
  | _, _, .mu _ _ _ r => by simp [r.len]
  | _, _, .tmp _ _ => rfl
theorem ArgsOk.at : ∀ {vs : List V} {ss : As} {p : Nat} {o : Option Nat} {s : Sl}, ArgsOk K σ ε F H vs ss → ss[p]? = some (o, s) → ∃ v, vs[p]? = some v ∧
    ((∃ i, o = some i ∧ σ[i]? = some (some v) ∧ ε[i]? = some s ∧ s ≠ .un) ∨ (o = none ∧ ∃ d, s = .fz d ∧ Rep K F v d) ∨ (o = none ∧ ∃ d, s = .ow d ∧ RepS K F H v (.ow d) ∧ Apart σ ε v (.ow d) ∧ p + 1 = ss.length))
  | _, _, _, _, _, .nil, h => by simp at h
  | _, _, 0, _, _, .val (v := v) (d := d) r _, h => by
    simp at h
    obtain ⟨rfl, rfl⟩ := h
    exact ⟨v, rfl, .inr (.inl ⟨rfl, d, rfl, r⟩)⟩
  | _, _, p + 1, o, s, .val _ r, h => by
    obtain ⟨v, h1, h2⟩ := r.at (p := p) (by simpa using h)
    refine ⟨v, by simpa using h1, ?_⟩
    rcases h2 with h2 | h2 | ⟨e, d, h3, h4, h5, h6⟩
    · exact .inl h2
    · exact .inr (.inl h2)
    · exact .inr (.inr ⟨e, d, h3, h4, h5, by simp [h6]⟩)
  | _, _, 0, _, _, .mu (v := v) (i := i) a b c _, h => by
    simp at h
    obtain ⟨rfl, rfl⟩ := h
    exact ⟨v, rfl, .inl ⟨i, rfl, a, b, c⟩⟩
  | _, _, p + 1, o, s, .mu _ _ _ r, h => by
    obtain ⟨v, h1, h2⟩ := r.at (p := p) (by simpa using h)
    refine ⟨v, by simpa using h1, ?_⟩
    rcases h2 with h2 | h2 | ⟨e, d, h3, h4, h5, h6⟩
    · exact .inl h2
    · exact .inr (.inl h2)
    · exact .inr (.inr ⟨e, d, h3, h4, h5, by simp [h6]⟩)
  | _, _, 0, _, _, .tmp (v := v) (d := d) a b, h => by
    simp at h
    obtain ⟨rfl, rfl⟩ := h
    exact ⟨v, rfl, .inr (.inr ⟨rfl, d, rfl, a, b, rfl⟩)⟩
  | _, _, p + 1, _, _, .tmp _ _, h => by simp at h
theorem nodup_at {l : As} (h : (l.filterMap (·.1)).Nodup) : ∀ {p q : Nat} {i : Nat} {s t : Sl}, l[p]? = some (some i, s) → l[q]? = some (some i, t) → p = q := by
  induction l with
  | nil => intro p q i s t h1; simp at h1
  | cons a l ih =>
    intro p q i s t h1 h2
    have mem : ∀ {q : Nat} {t : Sl}, l[q]? = some (some i, t) → i ∈ l.filterMap (·.1) := fun {q t} z => List.mem_filterMap.mpr ⟨(some i, t), List.mem_of_getElem? z, rfl⟩
    obtain ⟨o, s0⟩ := a
    cases o with
    | none =>
      have h' : (l.filterMap (·.1)).Nodup := by simpa using h
      cases p with
      | zero => simp at h1
      | succ p =>
        cases q with
        | zero => simp at h2
        | succ q => rw [ih h' (p := p) (q := q) (by simpa using h1) (by simpa using h2)]
    | some k =>
      have h' : k ∉ l.filterMap (·.1) ∧ (l.filterMap (·.1)).Nodup := by simpa using h
      cases p with
      | zero =>
        cases q with
        | zero => rfl
        | succ q =>
          simp at h1
          obtain ⟨rfl, rfl⟩ := h1
          exact absurd (mem (q := q) (by simpa using h2)) h'.1
      | succ p =>
        cases q with
        | zero =>
          simp at h2
          obtain ⟨rfl, rfl⟩ := h2
          exact absurd (mem (q := p) (by simpa using h1)) h'.1
        | succ q => rw [ih h'.2 (p := p) (q := q) (by simpa using h1) (by simpa using h2)]

/-- the callee's slots -/
theorem ArgsOk.eok {vs : List V} {ss : As} (a : ArgsOk K σ ε F H vs ss) (e : EOk K F H σ ε) (hm : (ss.filterMap (·.1)).Nodup) : EOk K F H (vs.map some) (ss.map (·.2)) := by
  have pick : ∀ (p : Nat) (s : Sl), (ss.map (·.2))[p]? = some s → ∃ o, ss[p]? = some (o, s) := fun p s h => by
    rw [List.getElem?_map] at h
    cases q : ss[p]? with
    | none => rw [q] at h; cases h
    | some x =>
      rw [q] at h
      obtain ⟨o, s'⟩ := x
      cases h
      exact ⟨o, rfl⟩
  refine ⟨e.sub, by simp [a.len], fun p s h n => ?_, fun p q d d' v h1 h2 h3 h4 => ?_, e.tab, e.ntb⟩
  · obtain ⟨o, ho⟩ := pick p s h
    obtain ⟨v, hv, z⟩ := a.at ho
    refine ⟨v, by rw [List.getElem?_map, hv]; rfl, ?_⟩
    rcases z with ⟨i, _, hi, hs, _⟩ | ⟨_, d, rfl, r⟩ | ⟨_, d, rfl, r, _⟩
    · obtain ⟨w, hw, r⟩ := e.val i s hs n
      rw [hi] at hw
      cases hw
      exact r
    · exact r
    · exact r
  · obtain ⟨o1, k1⟩ := pick p _ h1
    obtain ⟨o2, k2⟩ := pick q _ h2
    obtain ⟨v1, e1, z1⟩ := a.at k1
    obtain ⟨v2, e2, z2⟩ := a.at k2
    rw [List.getElem?_map, e1] at h3
    rw [List.getElem?_map, e2] at h4
    have h3 : v1 = v := by simpa using h3
    have h4 : v2 = v := by simpa using h4
    subst h3
    subst h4
    rcases z1 with ⟨i, rfl, hi, hs, _⟩ | ⟨_, _, z, _⟩ | ⟨rfl, x, _, _, ap, lp⟩
    · rcases z2 with ⟨j, rfl, hj, ht, _⟩ | ⟨_, _, z, _⟩ | ⟨rfl, y, _, _, ap, lp⟩
      · have := e.inj i j d d' _ hs ht hi hj
        subst this
        exact nodup_at hm k1 k2
      · cases z
      · exact absurd hi (ap i d hs)
    · cases z
    · rcases z2 with ⟨j, rfl, hj, ht, _⟩ | ⟨_, _, z, _⟩ | ⟨rfl, y, _, _, ap2, lp2⟩
      · exact absurd hj (ap j d' ht)
      · cases z
      · omega
end

theorem ecall_ok {np : Nat} {K : PySem.W.Frag} {W : WX} {σ : St} {ε ε1 : En} {F H F1 H1 : Hp} {vs : List V} {ss : As} {Fd : FD} {Q : VK} (a : AftA K σ ε F H F1 H1 ε1 vs ss) (hm : muOk np ss = true)
    (h : Do K W σ ε F H (match Fd (ss.map (·.2)) with
      | some (.v s ss') => some (.v s (wb ε1 ss ss'))
      | some (.x c gs ss') => some (.x c gs (wb ε1 ss ss'))
      | none => none) Q) : Do K (WE0 fun c d H' => W c d σ H') (vs.map some) (ss.map (·.2)) F1 H1 (Fd (ss.map (·.2))) Q := by
  have nd : (ss.filterMap (·.1)).Nodup := (muOk_ok hm).1
  have ce := a.ok.eok a.eo nd
  have pick : ∀ (p : Nat) (s : Sl), (ss.map (·.2))[p]? = some s → ∃ o, ss[p]? = some (o, s) := fun p s h => by
    rw [List.getElem?_map] at h
    cases q : ss[p]? with
    | none => rw [q] at h; cases h
    | some x =>
      rw [q] at h
      obtain ⟨o, s'⟩ := x
      cases h
      exact ⟨o, rfl⟩
  -- a thing of others at the start is one of others for the callee
  have oth : ∀ b o, Oth σ ε F H b o → Oth (vs.map some) (ss.map (·.2)) F1 H1 b o := fun b o ob => by
    have q := a.fr b o ob
    refine ⟨q.nf, q.at_, q.kd, fun p d hp z => ?_⟩
    obtain ⟨oo, ho⟩ := pick p _ hp
    obtain ⟨v, hv, c⟩ := a.ok.at ho
    rw [List.getElem?_map, hv] at z
    have z : v = .ref b := by simpa using z
    rcases c with ⟨i, _, hi, hs, _⟩ | ⟨_, _, c, _⟩ | ⟨rfl, x, c, _⟩
    · exact q.no i d hs (by rw [hi, z])
    · cases c
    · cases c
      exact a.mi p v d hv ho b o ob z
  -- a slot that was not handed on owns a thing of others for the callee
  have kept : ∀ (j : Nat) (d : D) (v : V), ε1[j]? = some (.ow d) → (∀ (p : Nat) (s0 : Sl), ss[p]? ≠ some (some j, s0)) → σ[j]? = some (some v) → ∃ b o, v = .ref b ∧ Top K F1 o d ∧ Oth (vs.map some) (ss.map (·.2)) F1 H1 b o := fun j d v hj hno hv => by
    obtain ⟨w, hw, b, o, rfl, k1, k2, t⟩ := a.eo.val j _ hj (by simp)
    rw [hv] at hw
    cases hw
    refine ⟨b, o, rfl, t, k1, k2, t.own, fun p d' hp z => ?_⟩
    obtain ⟨oo, ho⟩ := pick p _ hp
    obtain ⟨u, hu, c⟩ := a.ok.at ho
    rw [List.getElem?_map, hu] at z
    have z : u = .ref b := by simpa using z
    subst z
    rcases c with ⟨i, rfl, hi, hs, _⟩ | ⟨_, _, c, _⟩ | ⟨rfl, x, c, _, ap, _⟩
    · have := a.eo.inj i j d' d _ hs hj hi hv
      subst this
      exact hno p _ ho
    · cases c
    · cases c
      exact ap j d hj hv
  have back : ∀ {ss' : List Sl} {F' H' : Hp}, EOk K F' H' (vs.map some) ss' → Same F1 F' → Frm (vs.map some) (ss.map (·.2)) F1 H1 (vs.map some) ss' F' H' →
      EOk K F' H' σ (wb ε1 ss ss') ∧ Frm σ ε F H σ (wb ε1 ss ss') F' H' ∧ (∀ (j : Nat) (d : D) (v : V), (wb ε1 ss ss')[j]? = some (.ow d) → σ[j]? = some (some v) → (∃ p : Nat, ss'[p]? = some (.ow d) ∧ (vs.map some)[p]? = some (some v)) ∨ ∃ b o, v = .ref b ∧ Oth (vs.map some) (ss.map (·.2)) F1 H1 b o) := by
    intro ss' F' H' e2 sm fr
    have ln : ss.length = ss'.length := by
      have := e2.len
      simp at this
      rw [← this, a.ok.len]
    have hand : ∀ (p j : Nat) (s0 : Sl), ss[p]? = some (some j, s0) → ∃ v, σ[j]? = some (some v) ∧ (vs.map some)[p]? = some (some v) := fun p j s0 ho => by
      obtain ⟨u, hu, c⟩ := a.ok.at ho
      rcases c with ⟨i, e, hi, _, _⟩ | ⟨e, _⟩ | ⟨e, _⟩
      · cases e; exact ⟨u, hi, by rw [List.getElem?_map, hu]; rfl⟩
      · cases e
      · cases e
    have own : ∀ (j : Nat) (d : D) (v : V), (wb ε1 ss ss')[j]? = some (.ow d) → σ[j]? = some (some v) →
        (∃ (p : Nat) (s0 : Sl), ss[p]? = some (some j, s0) ∧ ss'[p]? = some (.ow d) ∧ (vs.map some)[p]? = some (some v)) ∨ (ε1[j]? = some (.ow d) ∧ (∀ (p : Nat) (s0 : Sl), ss[p]? ≠ some (some j, s0))) := fun j d v h1 h2 => by
      rcases wb_at ε1 ss ss' j _ ln h1 with ⟨p, s0, k1, k2⟩ | ⟨k1, k2⟩
      · obtain ⟨w, w1, w2⟩ := hand p j s0 k1
        rw [h2] at w1
        cases w1
        exact .inl ⟨p, s0, k1, k2, w2⟩
      · exact .inr ⟨k1, k2⟩
    refine ⟨⟨e2.sub, by rw [wb_len]; exact a.eo.len, fun j s h n => ?_, fun j k d d' v h1 h2 h3 h4 => ?_, e2.tab, e2.ntb⟩, fun b o ob => ?_, fun j d v h1 h2 => ?_⟩
    · rcases wb_at ε1 ss ss' j s ln h with ⟨p, s0, k1, k2⟩ | ⟨k1, k2⟩
      · obtain ⟨w, w1, w2⟩ := hand p j s0 k1
        obtain ⟨u, hu, r⟩ := e2.val p s k2 n
        rw [w2] at hu
        cases hu
        exact ⟨w, w1, r⟩
      · obtain ⟨w, hw, r⟩ := a.eo.val j s k1 n
        refine ⟨w, hw, ?_⟩
        cases s with
        | un => exact r
        | fz d => exact Rep.up sm r
        | ow d =>
          obtain ⟨b, o, rfl, t, ob⟩ := kept j d w k1 k2 hw
          have z := fr b o ob
          exact ⟨b, o, rfl, z.nf, z.at_, t.up sm⟩
    · rcases own j d v h1 h3 with ⟨p, s0, k1, k2, k3⟩ | ⟨k1, k2⟩ <;> rcases own k d' v h2 h4 with ⟨q, t0, l1, l2, l3⟩ | ⟨l1, l2⟩
      · have := e2.inj p q d d' v k2 l2 k3 l3
        subst this
        rw [k1] at l1
        cases l1
        rfl
      · obtain ⟨b, o, rfl, t, ob⟩ := kept k d' v l1 l2 h4
        exact absurd k3 ((fr b o ob).no p d k2)
      · obtain ⟨b, o, rfl, t, ob⟩ := kept j d v k1 k2 h3
        exact absurd l3 ((fr b o ob).no q d' l2)
      · exact a.eo.inj j k d d' v k1 l1 h3 h4
    · have z := fr b o (oth b o ob)
      refine ⟨z.nf, z.at_, z.kd, fun j d h1 h2 => ?_⟩
      rcases own j d _ h1 h2 with ⟨p, s0, k1, k2, k3⟩ | ⟨k1, k2⟩
      · exact z.no p d k2 k3
      · exact (a.fr b o ob).no j d k1 h2
    · rcases own j d v h1 h2 with ⟨p, s0, k1, k2, k3⟩ | ⟨k1, k2⟩
      · exact .inl ⟨p, k2, k3⟩
      · obtain ⟨b, o, rfl, t, ob⟩ := kept j d v k1 k2 h2
        exact .inr ⟨b, o, rfl, ob⟩
  revert h
  cases Fd (ss.map (·.2)) with
  | none => exact fun h => h
  | some r =>
    cases r with
    | v s ss' =>
      intro h v H' F' b
      obtain ⟨e2, fr2, ow2⟩ := back b.eo b.fs b.fr
      refine h v H' F' ⟨a.fs.trans b.fs, e2, b.rs, ?_, fr2, ?_⟩
      · cases s with
        | ow d =>
          intro j x h1 h2
          rcases ow2 j x v h1 h2 with ⟨p, k1, k2⟩ | ⟨c, o, rfl, ob⟩
          · exact b.ap p x k1 k2
          · exact b.mi c o ob rfl
        | _ => exact trivial
      · cases s with
        | ow d => exact fun c o oc => b.mi c o (oth c o oc)
        | _ => exact trivial
    | x c gs ss' =>
      intro h d H' F' b
      obtain ⟨e2, fr2, ow2⟩ := back b.eo b.fs b.fr
      exact h d H' F' ⟨a.fs.trans b.fs, e2, ⟨b.xd.1, fun c o oc => b.xd.2 c o (oth c o oc)⟩, fr2⟩

/-! ### the call of a def -/
section
variable {X : Cx} {W : WX} {u : Bool} {n np : Nat} {f : Addr} {fd : FuncData} {ps : List Str} {Fd : FD} {x : Str} {p pos : Pos} {e : Expr} {es : List Expr} {fa : FAr}
/-- the callee runs -/
theorem run_g {pins : List (Addr × Obj)} {σ : St} {H : Hp} {st : Shared} {Q : VK} {us : List Value} {vs : List V} {sp : Sp} {E : XK} (G : FnG X.prog X.w X.K X.mg X.base u n f fd ps sp) (rm : Room n X.A) (gd : u = true → X.A.guards = some []) (bd : Binds X.K fd ps [])
    (hx : PassesAt (L2.CX X.prog X.w) X σ E) (I : Inv X pins σ H st) (r : Vals vs us) (h : sp vs H Q E) : wpAny (model X.prog X.w) X.A (call (.ref f) us) (EP X pins σ Q) X.xe st := by
  have ln : (us ++ []).length = ps.length := by rw [List.append_nil, ← r.length]; exact G.len _ _ _ _ h
  have b := bd st us I.kIn ln
  rw [List.append_nil] at b
  refine wpAny_call (codeAny_mono (G.run X.A X.stack st H ⟨us, []⟩ us vs Q E rm gd I.env0 b r h) fun rs st2 hq => ?_)
  cases rs with
  | error z => exact hx pins H st z st2 I hq
  | ok fl =>
    cases fl with
    | ret u => exact I.after hq
    | next => exact hq.elim
    | brk => exact hq.elim
    | cont => exact hq.elim
theorem tcall_ok {K : PySem.W.Frag} {σ : St} {H : Hp} {Q : VK} (h : tM K W (eCall np Fd fa) σ H Q) : tMA K W fa σ H fun vs H1 => spM K np Fd vs H1 Q fun c d H' => W c d σ H' := by
  obtain ⟨F, ε, E0, h⟩ := h
  refine ⟨F, ε, E0, ?_⟩
  unfold eCall at h
  cases q : fa ε with
  | none => rw [q] at h; exact h
  | some r =>
    rw [q] at h
    cases r with
    | x c gs ε1 => exact h
    | v ss ε1 =>
      intro vs H1 F1 a
      have h : Do K W σ ε F H (match muOk np ss with
        | true => (match Fd (ss.map (·.2)) with
          | some (.v s ss') => some (.v s (wb ε1 ss ss'))
          | some (.x c gs ss') => some (.x c gs (wb ε1 ss ss'))
          | none => none)
        | false => none) Q := h
      cases hm : muOk np ss with
      | false => rw [hm] at h; exact h.elim
      | true =>
        rw [hm] at h
        exact ⟨by rw [a.ok.len]; exact (muOk_ok hm).2, F1, ss.map (·.2), a.ok.eok a.eo (muOk_ok hm).1, ecall_ok a hm h⟩
theorem me_call (G : FnG X.prog X.w X.K X.mg X.base u n f fd ps (spM X.K np Fd)) (rm : Room n X.A) (gd : u = true → X.A.guards = some []) (hg : Gl X x) (hm : X.mg x = some (.ref f)) (kp : PySem.W.keepIn X.K (.ref f) = true) (bd : Binds X.K fd ps []) (tk : Takes X W)
    (ha : MA X W (e :: es) fa) (hdb : (x == ("__debug__" : Str)) = false := by decide) (he : starEach (e :: es) X.env = (false, eval e X.env) :: starEach es X.env := by rfl) (hpl : (backTo pos (starEach es X.env)).any (·.1) = false := by rfl) :
    ME X W (.Call (.Name x p) (e :: es) [] pos) (eCall np Fd fa) := by
  refine ⟨fun pins st σ H Q I h => ?_⟩
  refine wpAny_Call_Name_kw (ld_glob I hg hm ?_ hdb)
  refine PySem.W.callWith_K (h₀ := X.base) I.ok.mod.kin kp (thn (ha.run pos pins st σ H _ I (tcall_ok h)) fun us st1 ⟨vs, H1, I1, r, q⟩ => ⟨I1.kIn, ?_⟩) he hpl
  exact run_g G rm gd bd (passAt tk σ) I1 r q
end
end Mi

namespace Mi
open PySem PySem.Spec PyProof.Rows L2

/-! ### targets -/
abbrev FG := D → En → Option En
/-- but for the slots ts all are as they were -/
structure KeepT (ts : List Nat) (σ σ' : St) : Prop where
  len : σ'.length = σ.length
  at_ : ∀ i : Nat, i ∉ ts → σ'[i]? = σ[i]?
theorem KeepT.refl {ts : List Nat} {σ : St} : KeepT ts σ σ := ⟨rfl, fun _ _ => rfl⟩
theorem KeepT.trans {ts us : List Nat} {σ σ1 σ2 : St} (a : KeepT ts σ σ1) (b : KeepT us σ1 σ2) : KeepT (ts ++ us) σ σ2 :=
  ⟨b.len.trans a.len, fun i h => by
    simp only [List.mem_append, not_or] at h
    exact (b.at_ i h.2).trans (a.at_ i h.1)⟩
theorem KeepT.p {ts : List Nat} {np : Nat} {σ σ' : St} (a : KeepT ts σ σ') (h : ts.all (fun i => decide (np ≤ i)) = true) : KeepP np σ σ' := fun i hi => a.at_ i fun hm => by
  have := of_decide_eq_true (List.all_eq_true.mp h i hm)
  omega
theorem KeepT.wipe {ts vs : List Nat} {σ σ' : St} (a : KeepT ts (L2.wipe σ vs) σ') (h : ts.all (fun i => decide (i ∈ vs)) = true) : L2.wipe σ' vs = L2.wipe σ vs := by
  refine List.ext_getElem? fun i => ?_
  by_cases hi : i ∈ vs
  · have cl : ∀ (τ : St) (us : List Nat), i ∈ us → (L2.wipe τ us)[i]? = if i < τ.length then some none else none := by
      intro τ us
      induction us with
      | nil => intro z; simp at z
      | cons u us ih =>
        intro z
        show ((L2.wipe τ us).set u none)[i]? = _
        by_cases hu : u = i
        · subst hu
          by_cases hl : u < τ.length
          · rw [List.getElem?_set_self (by rw [wipe_length]; exact hl), if_pos hl]
          · rw [if_neg hl, List.getElem?_eq_none (by rw [List.length_set, wipe_length]; omega)]
        · rw [List.getElem?_set_ne hu]
          exact ih ((List.mem_cons.mp z).resolve_left fun q => hu q.symm)
    rw [cl _ _ hi, cl _ _ hi, a.len, wipe_length]
  · have o : ∀ (τ : St) (us : List Nat), i ∉ us → (L2.wipe τ us)[i]? = τ[i]? := by
      intro τ us
      induction us with
      | nil => intro _; rfl
      | cons u us ih =>
        intro z
        simp only [List.mem_cons, not_or] at z
        show ((L2.wipe τ us).set u none)[i]? = _
        rw [List.getElem?_set_ne (fun q => z.1 q.symm), ih z.2]
    rw [o _ _ hi, a.at_ i fun hm => hi (of_decide_eq_true (List.all_eq_true.mp h i hm))]
def tMG (K : PySem.W.Frag) (ts : List Nat) (g : FG) : TG := fun v σ H Q => ∃ F ε d ε', EOk K F H σ ε ∧ Rep K F v d ∧ g d ε = some ε' ∧
  ∀ σ' H' F', Same F F' → EOk K F' H' σ' ε' → KeepT ts σ σ' → Frm σ ε F H σ' ε' F' H' → Q σ' H'
abbrev MG (X : Cx) (ts : List Nat) (e : Expr) (g : FG) : Prop := PG X e (tMG X.K ts g)
theorem PG.imp {X : Cx} {e : Expr} {t t' : TG} (h : PG X e t) (i : ∀ v σ H Q, t' v σ H Q → t v σ H Q) : PG X e t' := ⟨fun pins s σ H v u Q I r q => h.run pins s σ H v u Q I r (i v σ H Q q)⟩
def gN (i : Nat) : FG := fun d ε => some (ε.set i (.fz d))
theorem mg_name {X : Cx} {i : Nat} {x : Str} {pos : Pos} (hN : X.N.Nodup) (hi : X.N[i]? = some x) (hx : Loc X.env.scope x) (hf : X.fn x = true ∨ X.env.scope.names.lookup x = some .local := by first | exact .inl rfl | exact .inr rfl | assumption) : MG X [i] (.Name x pos) (gN i) := by
  refine PG.imp (pg_name (i := i) hN hi hx hf) fun v σ H Q ⟨F, ε, d, ε', E0, r, e, k⟩ => ?_
  cases e
  exact k _ H F (.refl _) (E0.put (s := .fz d) r trivial) ⟨List.length_set, fun j hj => List.getElem?_set_ne (fun z => hj (by simp [z]))⟩ (Aft.frmPut (.here E0 r))
/-- several targets -/
abbrev FGs := List D → En → Option En
def tMGs (K : PySem.W.Frag) (ts : List Nat) (g : FGs) : TGs := fun vs σ H Q => ∃ F ε ds ε', EOk K F H σ ε ∧ RepL K F vs ds ∧ g ds ε = some ε' ∧
  ∀ σ' H' F', Same F F' → EOk K F' H' σ' ε' → KeepT ts σ σ' → Frm σ ε F H σ' ε' F' H' → Q σ' H'
theorem PGs.imp {X : Cx} {e : List Expr} {t t' : TGs} (h : PGs X e t) (i : ∀ v σ H Q, t' v σ H Q → t v σ H Q) : PGs X e t' := ⟨fun pins s σ H v u Q I r q => h.run pins s σ H v u Q I r (i v σ H Q q)⟩
def gNil : FGs := fun ds ε => match ds with
  | [] => some ε
  | _ => none
def gCons (g : FG) (r : FGs) : FGs := fun ds ε => match ds with
  | d :: ds => (g d ε).bind fun ε1 => r ds ε1
  | _ => none
def gT (n : Nat) (g : FGs) : FG := fun d ε => match d with
  | .tup ds => if ds.length = n then g ds ε else none
  | _ => none
section
variable {X : Cx} {ts us : List Nat}
theorem mgs_nil : PGs X [] (tMGs X.K [] gNil) := by
  refine PGs.imp pgs_nil fun vs σ H Q ⟨F, ε, ds, ε', E0, r, e, k⟩ => ?_
  cases r with
  | nil => cases e; exact ⟨rfl, k σ H F (.refl _) E0 .refl .refl⟩
  | cons => cases e
theorem mgs_cons {e : Expr} {es : List Expr} {g : FG} {r : FGs} (h : MG X ts e g) (h2 : PGs X es (tMGs X.K us r)) (hz : (assignEach (e :: es) X.env).map (·.2) = assign e X.env :: (assignEach es X.env).map (·.2) := by rfl) : PGs X (e :: es) (tMGs X.K (ts ++ us) (gCons g r)) := by
  refine PGs.imp (pgs_cons h h2 hz) fun vs σ H Q ⟨F, ε, ds, ε', E0, rr, e, k⟩ => ?_
  cases rr with
  | nil => cases e
  | @cons v vs d ds rv rr =>
    have e : (g d ε).bind (fun ε1 => r ds ε1) = some ε' := e
    cases q : g d ε with
    | none => rw [q] at e; cases e
    | some ε1 =>
      rw [q] at e
      exact ⟨v, vs, rfl, F, ε, d, ε1, E0, rv, q, fun σ1 H1 F1 s1 e1 k1 f1 => ⟨F1, ε1, ds, ε', e1, rr.up s1, e, fun σ2 H2 F2 s2 e2 k2 f2 => k σ2 H2 F2 (s1.trans s2) e2 (k1.trans k2) (f1.trans f2)⟩⟩
theorem mg_tup {es : List Expr} {kk : Nat} {pos : Pos} {g : FGs} {n : Nat} (hc : X.calm = true) (h : PGs X es (tMGs X.K ts g))
    (hn : (assignEach es X.env).length = n := by rfl) (hst : (assignEach es X.env).findIdx? (·.1) = none := by rfl) : MG X ts (.Tuple es kk pos) (gT n g) := by
  refine PG.imp (pg_tup hc h hn hst) fun v σ H Q ⟨F, ε, d, ε', E0, r, e, k⟩ => ?_
  cases d with
  | tup ds =>
    cases r with
    | tup hs rr =>
      unfold gT at e
      simp only at e
      split at e
      · rename_i hl
        exact ⟨_, _, rfl, sqT_up E0.sub hs, by rw [rr.len]; exact hl, F, ε, ds, ε', E0, rr, e, k⟩
      · cases e
  | _ => cases e
end

/-! ### what is walked -/
abbrev FI := En → Option (R (List D))
/-- a walk that yields these data, while the frozen part stands -/
def WalkD (K : PySem.W.Frag) (F : Hp) (J : It) (ds : List D) : Prop := ∃ G Y, Walk J ds.length G Y ∧ (∀ H', Same F H' → G H') ∧
  ∀ i H1 x H2 F1, i < ds.length → Y i H1 x H2 → Same F F1 → Same F1 H1 → ∃ F2 d, ds[i]? = some d ∧ Gr F1 H1 F2 H2 ∧ Rep K F2 x d
structure AftI (K : PySem.W.Frag) (σ : St) (ε : En) (F H F' H' : Hp) (ε' : En) (J : It) (ds : List D) : Prop where
  fs : Same F F'
  eo : EOk K F' H' σ ε'
  wk : WalkD K F' J ds
  fr : Frm σ ε F H σ ε' F' H'
def DoI (K : PySem.W.Frag) (W : WX) (σ : St) (ε : En) (F H : Hp) (r : Option (R (List D))) (Q : It → Hp → Prop) : Prop := match r with
  | none => False
  | some (.v ds ε') => ∀ J H' F', AftI K σ ε F H F' H' ε' J ds → Q J H'
  | some (.x c gs ε') => ∀ d H' F', AftX K σ ε F H F' H' ε' d gs → W (.ref (He.ga K c)) (some d) σ H'
def tMI (K : PySem.W.Frag) (W : WX) (f : FI) : TI := fun σ H Q => ∃ F ε, EOk K F H σ ε ∧ DoI K W σ ε F H (f ε) Q
abbrev MI (X : Cx) (W : WX) (tg e : Expr) (f : FI) : Prop := PI X tg e (tMI X.K W f)
theorem PI.imp {X : Cx} {tg e : Expr} {t t' : TI} (h : PI X tg e t) (i : ∀ σ H Q, t' σ H Q → t σ H Q) : PI X tg e t' := ⟨fun pins s σ H Q I q => h.run pins s σ H Q I (i σ H Q q)⟩
def signs (x : Str) : List D := x.cps.toList.map fun c => .str ⟨#[c]⟩
def items : D → Option (List D)
  | .lst ds => some ds
  | .rol ds => some ds
  | .tup ds => some ds
  | .str x => some (signs x)
  | _ => none
def iSeq (f : FE) : FI := fun ε => bf (f ε) fun d ε1 => (items d).bind fun ds => some (.v ds ε1)
theorem DoI.sub {K : PySem.W.Frag} {W : WX} {σ : St} {ε ε1 : En} {F H F1 H1 : Hp} {r : Option (R (List D))} {Q : It → Hp → Prop} (h : DoI K W σ ε F H r Q) (s : Same F F1) (fr : Frm σ ε F H σ ε1 F1 H1) : DoI K W σ ε1 F1 H1 r Q := by
  cases r with
  | none => exact h
  | some q =>
    cases q with
    | v ss ε2 => exact fun vs H2 F2 a => h vs H2 F2 ⟨s.trans a.fs, a.eo, a.wk, fr.trans a.fr⟩
    | x c gs ε2 => exact fun d H2 F2 a2 => h d H2 F2 (a2.then s fr)
theorem DoI.bindF {K : PySem.W.Frag} {W : WX} {σ : St} {ε : En} {F H : Hp} {r : Option (R Sl)} {k : D → En → Option (R (List D))} {Q : It → Hp → Prop} {G : VK} (h : DoI K W σ ε F H (bf r k) Q)
    (g : ∀ d ε1 v H1 F1, AftD K σ ε F H F1 H1 ε1 v d → DoI K W σ ε1 F1 H1 (k d ε1) Q → G v H1) : Do K W σ ε F H r G := by
  cases r with
  | none => exact h
  | some r =>
    cases r with
    | x c fs ε1 => exact h
    | v s ε1 =>
      intro v H1 F1 a
      cases s with
      | un => exact a.rs.elim
      | fz d =>
        obtain ⟨F2, a2⟩ := a.data (.inl rfl)
        exact g (wk d) ε1 v H1 F2 a2.wk (DoI.sub (show DoI K W σ ε F H (k (wk d) ε1) Q from h) a2.fs a2.fr)
      | ow d =>
        obtain ⟨F2, a2⟩ := a.data (.inr rfl)
        exact g d ε1 v H1 F2 a2 (DoI.sub (show DoI K W σ ε F H (k d ε1) Q from h) a2.fs a2.fr)

section
variable {K : PySem.W.Frag} {F : Hp}
theorem walkD_list {a : Addr} {vs : List V} {ds : List D} (h : SqL K F a vs) (r : RepL K F vs ds) : WalkD K F (Itl K a) ds := by
  refine ⟨_, _, r.len ▸ walk_list (xs := vs), fun H' s => sqL_up s h, fun i H1 x H2 F1 hi y s1 s2 => ?_⟩
  obtain ⟨rfl, e⟩ := y
  obtain ⟨d, hd, rd⟩ := r.of e
  exact ⟨F1, d, hd, Gr.refl s2, rd.up s1⟩
theorem walkD_tup {a : Addr} {vs : List V} {ds : List D} (h : SqT K F a vs) (r : RepL K F vs ds) : WalkD K F (Itt K a) ds := by
  refine ⟨_, _, r.len ▸ walk_tup (xs := vs), fun H' s => sqT_up s h, fun i H1 x H2 F1 hi y s1 s2 => ?_⟩
  obtain ⟨rfl, e⟩ := y
  obtain ⟨d, hd, rd⟩ := r.of e
  exact ⟨F1, d, hd, Gr.refl s2, rd.up s1⟩
theorem walkD_str {x : Str} : WalkD K F (Its x) (signs x) := by
  have hl : (signs x).length = x.cps.size := by simp [signs]
  refine ⟨_, _, hl ▸ walk_str (z := x), fun _ _ => trivial, fun i H1 v H2 F1 hi y s1 s2 => ?_⟩
  obtain ⟨rfl, c, e, rfl⟩ := y
  exact ⟨F1, .str ⟨#[c]⟩, by simp [signs, e], Gr.refl s2, .str _⟩
theorem walkD_range {n : Nat} {lo : Int} {ds : List D} (hd : ds = (List.range n).map fun i => .int (lo + (i : Nat))) : WalkD K F (Itr lo n) ds := by
  have hl : ds.length = n := by simp [hd]
  refine ⟨_, _, (show Walk (Itr lo n) ds.length _ _ by rw [hl]; exact walk_range (lo := lo) (n := n)), fun _ _ => trivial, fun i H1 v H2 F1 hi y s1 s2 => ?_⟩
  obtain ⟨rfl, rfl⟩ := y
  exact ⟨F1, .int (lo + (i : Nat)), by rw [hd, List.getElem?_map, List.getElem?_range (by omega)]; rfl, Gr.refl s2, .int _⟩
end

section
variable {X : Cx} {W : WX} {tg : Expr}
/-- a value that can be walked -/
theorem walk_val {pins : List (Addr × Obj)} {σ : St} {H F : Hp} {st : Shared} {v : V} {u : Value} {d : D} {ds : List D} {Q : It → Hp → Prop} {E : Value → Shared → Prop} (I : Inv X pins σ H st) (rv : RelV v u) (s : Same F H) (r : Rep X.K F v d) (hd : items d = some ds) (k : ∀ J, WalkD X.K F J ds → Q J H) :
    wpAny (model X.prog X.w) X.A (pyIter u) (PIE X pins σ tg Q) E st := by
  cases r with
  | lst h rl =>
    cases hd
    cases rv
    obtain ⟨its, ri, pl, _⟩ := I.list (SqL.of (K := X.K) (s _ _ h))
    refine wpAny_pyIter_list pl.isList ?_
    exact pi_one (tk := st.toks) I _ (turn_list _ _) ⟨_, Heap.get?_push_size _ rfl, rfl, rfl⟩ (k _ (walkD_list (SqL.of h) rl))
  | rol h rl =>
    cases hd
    cases rv
    obtain ⟨its, ri, pl, _⟩ := I.list (sqL_up s h)
    refine wpAny_pyIter_list pl.isList ?_
    exact pi_one (tk := st.toks) I _ (turn_list _ _) ⟨_, Heap.get?_push_size _ rfl, rfl, rfl⟩ (k _ (walkD_list h rl))
  | tup h rl =>
    cases hd
    cases rv
    obtain ⟨its, ri, pl, _⟩ := I.tuple (sqT_up s h)
    refine wpAny_pyIter_tuple (show st.heap.IsTuple _ its.toArray from pl) ?_
    exact pi_one (tk := st.toks) I _ (turn_tuple _ _) ⟨_, Heap.get?_push_size _ rfl, rfl, rfl⟩ (k _ (walkD_tup h rl))
  | str x =>
    cases hd
    obtain ⟨t, rfl⟩ := rv
    cases ha : x.cps.all (· < 128)
    · exact wpAny_pyIter_wide ha (pi_one (tk := st.toks) I _ (turn_str _ x t "str_iterator" (.inr rfl)) ⟨_, Heap.get?_push_size _ rfl, rfl, rfl⟩ (k _ walkD_str))
    · exact wpAny_pyIter_ascii ha (pi_one (tk := st.toks) I _ (turn_str _ x t "str_ascii_iterator" (.inl rfl)) ⟨_, Heap.get?_push_size _ rfl, rfl, rfl⟩ (k _ walkD_str))
  | _ => cases hd
theorem mi_seq {e : Expr} {f : FE} (h : ME X W e f) : MI X W tg e (iSeq f) := by
  refine ⟨fun pins st σ H Q I hq => ?_⟩
  have h2 : tM X.K W f σ H fun x H1 => ∃ F d ds, Same F H1 ∧ Rep X.K F x d ∧ items d = some ds ∧ ∀ J, WalkD X.K F J ds → Q J H1 := by
    obtain ⟨F, ε, E0, hq⟩ := hq
    refine ⟨F, ε, E0, DoI.bindF hq fun d ε1 v H1 F1 a h1 => ?_⟩
    cases hi : items d with
    | none => rw [hi] at h1; exact h1.elim
    | some ds =>
      rw [hi] at h1
      exact ⟨F1, d, ds, a.eo.sub, a.rp, hi, fun J w => h1 J H1 F1 ⟨.refl _, a.eo, w, .refl⟩⟩
  exact thn (h.run pins st σ H _ I h2) fun u s1 ⟨v, H1, I1, rv, F, d, ds, s, r, hi, k⟩ => walk_val I1 rv s r hi k
end

/-! ### for -/
def forL (g : FG) (b : FS) : List D → En → Option Fl
  | [], ε => some (.nx ε)
  | d :: ds, ε => match g d ε with
    | none => none
    | some ε1 => match b ε1 with
      | some (.nx ε2) => forL g b ds ε2
      | some (.ct ε2) => forL g b ds ε2
      | some (.bk ε2) => some (.nx ε2)
      | o => o
def sFor (fi : FI) (g : FG) (b : FS) : FS := fun ε => match fi ε with
  | some (.v ds ε1) => forL g b ds ε1
  | some (.x c gs ε1) => some (.ex c gs ε1)
  | none => none
section
variable {X : Cx} {W : WX} {np : Nat} {ts : List Nat}
theorem for_ok {K : PySem.W.Frag} {fi : FI} {g : FG} {b : FS} {Z : Ends} {σ : St} {H : Hp} (hts : ts.all (fun i => decide (np ≤ i)) = true) (h : sM K W np (sFor fi g b) Z σ H) : tFor (tMI K W fi) (tMG K ts g) (sM K W np b) Z σ H := by
  obtain ⟨F, ε, E0, h⟩ := h
  refine ⟨F, ε, E0, ?_⟩
  unfold sFor at h
  cases q : fi ε with
  | none => rw [q] at h; exact h
  | some r =>
    rw [q] at h
    cases r with
    | x c gs ε1 => exact DoS.exx h
    | v ds ε1 =>
      intro J H1 F1 a
      obtain ⟨G, Y, w, hG, hY⟩ := a.wk
      refine for_it w (Pv := fun i σ' H' => ∃ F' ε', EOk K F' H' σ' ε' ∧ Same F1 F' ∧ DoS K W np σ' ε' F' H' (forL g b (ds.drop i) ε') Z) ⟨F1, ε1, a.eo, .refl _, by rw [List.drop_zero]; exact DoS.sub h a.fs .refl a.fr⟩ ?_ ?_ ?_
      · rintro i σ' H' _ ⟨F', ε', e, s, _⟩
        exact hG H' (s.trans e.sub)
      · rintro i x σ' H' H2 hi ⟨F', ε', e, s, hd⟩ y
        obtain ⟨F2, d, hdd, gr, rp⟩ := hY i H' x H2 F' hi y s e.sub
        have hdr : ds.drop i = d :: ds.drop (i + 1) := by
          rw [List.drop_eq_getElem_cons hi]
          congr 1
          rw [List.getElem?_eq_getElem hi] at hdd
          exact Option.some.inj hdd
        rw [hdr] at hd
        have hd := DoS.sub hd gr.fs (.refl) gr.frm
        unfold forL at hd
        cases qg : g d ε' with
        | none => rw [qg] at hd; exact hd.elim
        | some ε2 =>
          rw [qg] at hd
          refine ⟨F2, ε', d, ε2, e.grow gr, rp, qg, fun σ3 H3 F3 s3 e3 k3 f3 => ⟨F3, ε2, e3, ?_⟩⟩
          have hd := DoS.sub hd s3 (k3.p hts) f3
          have st : ∀ {ε4 : En} {σ4 : St} {H4 F4 : Hp}, DoS K W np σ3 ε2 F3 H3 (forL g b (ds.drop (i + 1)) ε4) Z → Same F3 F4 → EOk K F4 H4 σ4 ε4 → KeepP np σ3 σ4 → Frm σ3 ε2 F3 H3 σ4 ε4 F4 H4 →
              ∃ F' ε', EOk K F' H4 σ4 ε' ∧ Same F1 F' ∧ DoS K W np σ4 ε' F' H4 (forL g b (ds.drop (i + 1)) ε') Z := fun hh s4 e4 k4 f4 => ⟨_, _, e4, ((s.trans gr.fs).trans s3).trans s4, DoS.sub hh s4 k4 f4⟩
          revert hd
          show DoS K W np σ3 ε2 F3 H3 (match b ε2 with
            | some (.nx ε2) => forL g b (ds.drop (i + 1)) ε2
            | some (.ct ε2) => forL g b (ds.drop (i + 1)) ε2
            | some (.bk ε2) => some (.nx ε2)
            | o => o) Z → DoS K W np σ3 ε2 F3 H3 (b ε2) _
          cases b ε2 with
          | none => exact fun hh => hh
          | some fl =>
            cases fl with
            | nx ε4 => exact fun hh σ4 H4 F4 s4 e4 k4 f4 => st hh s4 e4 k4 f4
            | ct ε4 => exact fun hh σ4 H4 F4 s4 e4 k4 f4 => st hh s4 e4 k4 f4
            | bk ε4 => exact fun hh => hh
            | rt s ε4 => exact fun hh => hh
            | ex c gs ε4 => exact fun hh => hh
      · rintro σ' H' ⟨F', ε', e, s, hd⟩
        rw [List.drop_length] at hd
        exact hd σ' H' F' (.refl _) e .refl .refl
theorem ms_for {tg iter : Expr} {body : List Stmt} {fi : FI} {g : FG} {b : FS} {pos : Pos} (hp : PassesOwn (model X.prog X.w) X.A X.env X.xe) (hc : X.calm = true) (hi : MI X W tg iter fi) (hg : MG X ts tg g) (hb : MSs X W np body b) (hts : ts.all (fun i => decide (np ≤ i)) = true := by rfl)
    (hs : ∀ x, foldedSetIterable iter X.env x = pure x := by intro _; rfl) : MS X W np (.For tg iter body [] pos) (sFor fi g b) :=
  PS.imp (ps_for hp hc hi hg hb hs) fun _ _ _ h => for_ok hts h
end
end Mi

namespace Mi
open PySem PySem.Spec PyProof.Rows L2

abbrev W0 : WX := fun _ _ _ _ => False
/-- the block's own slots are empty -/
def wipeE (ε : En) : List Nat → En
  | [] => ε
  | v :: vs => (wipeE ε vs).set v .un
/-- they hold again what they held -/
def backE (ε0 ε : En) : List Nat → En
  | [] => ε
  | v :: vs => match ε0[v]? with
    | some s => (backE ε0 ε vs).set v s
    | none => backE ε0 ε vs
theorem wipeE_len (ε : En) : ∀ vs : List Nat, (wipeE ε vs).length = ε.length
  | [] => rfl
  | v :: vs => by simp [wipeE, wipeE_len ε vs]
theorem wipeE_at {ε : En} {i : Nat} {s : Sl} : ∀ {vs : List Nat}, (wipeE ε vs)[i]? = some s → s ≠ .un → ε[i]? = some s ∧ i ∉ vs
  | [], h, _ => ⟨h, by simp⟩
  | v :: vs, h, n => by
    have h : ((wipeE ε vs).set v .un)[i]? = some s := h
    by_cases hi : v = i
    · subst hi
      have l := (List.getElem?_eq_some_iff.mp h).1
      rw [List.length_set] at l
      rw [List.getElem?_set_self l] at h
      cases h
      exact absurd rfl n
    · rw [List.getElem?_set_ne hi] at h
      obtain ⟨h1, h2⟩ := wipeE_at h n
      exact ⟨h1, by simp only [List.mem_cons, not_or]; exact ⟨fun z => hi z.symm, h2⟩⟩
theorem wipeE_out {ε : En} {i : Nat} : ∀ {vs : List Nat}, i ∉ vs → (wipeE ε vs)[i]? = ε[i]?
  | [], _ => rfl
  | v :: vs, h => by
    simp only [List.mem_cons, not_or] at h
    show ((wipeE ε vs).set v .un)[i]? = _
    rw [List.getElem?_set_ne (fun z => h.1 z.symm), wipeE_out h.2]
theorem wipe_out' {σ : St} {i : Nat} : ∀ {vs : List Nat}, i ∉ vs → (wipe σ vs)[i]? = σ[i]?
  | [], _ => rfl
  | v :: vs, h => by
    simp only [List.mem_cons, not_or] at h
    show ((wipe σ vs).set v none)[i]? = _
    rw [List.getElem?_set_ne (fun z => h.1 z.symm), wipe_out' h.2]
theorem backE_len (ε0 ε : En) : ∀ vs : List Nat, (backE ε0 ε vs).length = ε.length
  | [] => rfl
  | v :: vs => by
    unfold backE
    split
    · simp [backE_len ε0 ε vs]
    · exact backE_len ε0 ε vs
theorem backE_at {ε0 ε : En} {i : Nat} {s : Sl} (hl : ε0.length = ε.length) : ∀ {vs : List Nat}, (backE ε0 ε vs)[i]? = some s → (i ∈ vs ∧ ε0[i]? = some s) ∨ (i ∉ vs ∧ ε[i]? = some s)
  | [], h => .inr ⟨by simp, h⟩
  | v :: vs, h => by
    unfold backE at h
    cases q : ε0[v]? with
    | none =>
      rw [q] at h
      rcases backE_at hl h with ⟨a, b⟩ | ⟨a, b⟩
      · exact .inl ⟨List.mem_cons_of_mem _ a, b⟩
      · refine .inr ⟨?_, b⟩
        simp only [List.mem_cons, not_or]
        refine ⟨fun z => ?_, a⟩
        subst z
        have := (List.getElem?_eq_some_iff.mp b).1
        rw [List.getElem?_eq_none_iff] at q
        omega
    | some t =>
      rw [q] at h
      by_cases hi : v = i
      · subst hi
        have l := (List.getElem?_eq_some_iff.mp h).1
        rw [List.length_set] at l
        rw [List.getElem?_set_self l] at h
        cases h
        exact .inl ⟨List.mem_cons_self .., q⟩
      · rw [List.getElem?_set_ne hi] at h
        rcases backE_at hl h with ⟨a, b⟩ | ⟨a, b⟩
        · exact .inl ⟨List.mem_cons_of_mem _ a, b⟩
        · exact .inr ⟨by simp only [List.mem_cons, not_or]; exact ⟨fun z => hi z.symm, a⟩, b⟩
theorem EOk.wipe {K : PySem.W.Frag} {F H : Hp} {σ : St} {ε : En} (e : EOk K F H σ ε) (vs : List Nat) : EOk K F H (L2.wipe σ vs) (wipeE ε vs) := by
  refine ⟨e.sub, by rw [wipe_length, wipeE_len]; exact e.len, fun i s h n => ?_, fun i j d d' v h1 h2 h3 h4 => ?_, e.tab, e.ntb⟩
  · obtain ⟨a, b⟩ := wipeE_at h n
    rw [wipe_out' b]
    exact e.val i s a n
  · obtain ⟨a, b⟩ := wipeE_at h1 (by simp)
    obtain ⟨a', b'⟩ := wipeE_at h2 (by simp)
    rw [wipe_out' b] at h3
    rw [wipe_out' b'] at h4
    exact e.inj i j d d' v a a' h3 h4
theorem frm_wipe {F H : Hp} {σ : St} {ε : En} (vs : List Nat) : Frm σ ε F H (L2.wipe σ vs) (wipeE ε vs) F H := fun a o ob => ⟨ob.nf, ob.at_, ob.kd, fun i d h => by
  obtain ⟨a, b⟩ := wipeE_at h (by simp)
  rw [wipe_out' b]
  exact ob.no i d a⟩

/-! ### [elt for target in iter if test] -/
def lcL (g : FG) (t : FB) (e : FE) (vs : List Nat) : List D → En → List D → Option (List D × En)
  | [], ε, acc => some (acc, ε)
  | d :: ds, ε, acc => match g d ε with
    | none => none
    | some ε1 => match t ε1 with
      | some (.v false ε2) => lcL g t e vs ds (wipeE ε2 vs) acc
      | some (.v true ε2) => (match e ε2 with
        | some (.v (.fz y) ε3) => if acc.length < sizeLine then lcL g t e vs ds (wipeE ε3 vs) (acc ++ [y]) else none
        | some (.v (.ow y) ε3) => if acc.length < sizeLine then lcL g t e vs ds (wipeE ε3 vs) (acc ++ [y]) else none
        | _ => none)
      | _ => none
def eLc (fi : FI) (g : FG) (t : FB) (e : FE) (vs : List Nat) : FE := fun ε => match fi ε with
  | some (.v ds ε1) => (match lcL g t e vs ds (wipeE ε1 vs) [] with
    | some (ys, ε2) => some (.v (.ow (.lst ys)) (backE ε1 ε2 vs))
    | none => none)
  | some (.x c gs ε1) => some (.x c gs ε1)
  | none => none
def bTrue : FB := fun ε => some (.v true ε)


/-- between two turns: the list so far at D belongs to no slot -/
structure LcI (K : PySem.W.Frag) (σ : St) (vs : List Nat) (ε1 : En) (F1 H1 : Hp) (Da : Addr) (ε : En) (acc : List D) (F H : Hp) : Prop where
  eo : EOk K F H (L2.wipe σ vs) ε
  fs : Same F1 F
  fr : Frm (L2.wipe σ vs) (wipeE ε1 vs) F1 H1 (L2.wipe σ vs) ε F H
  ob : ∃ us, Oth (L2.wipe σ vs) ε F H Da (.lst us) ∧ RepL K F us acc

theorem lc_ok {K : PySem.W.Frag} {W : WX} {fi : FI} {g : FG} {t : FB} {e : FE} {vs ts : List Nat} {σ : St} {H : Hp} {Q : VK} (hts : ts.all (fun i => decide (i ∈ vs)) = true) (h : tM K W (eLc fi g t e vs) σ H Q) :
    tLc (tMI K W fi) (tMG K ts g) (tMT K W0 t) (tM K W0 e) vs σ H Q := by
  obtain ⟨F, ε, E0, h⟩ := h
  refine ⟨F, ε, E0, ?_⟩
  unfold eLc at h
  cases q : fi ε with
  | none => rw [q] at h; exact h
  | some r =>
    rw [q] at h
    cases r with
    | x c gs ε1 => exact h
    | v ds ε1 =>
      intro J H1 F1 a Da hDa
      obtain ⟨G, Y, w, hG, hY⟩ := a.wk
      have ew := a.eo.wipe vs
      have h : Do K W σ ε F H (match lcL g t e vs ds (wipeE ε1 vs) [] with
        | some (ys, ε2) => some (.v (.ow (.lst ys)) (backE ε1 ε2 vs))
        | none => none) Q := h
      generalize hR : lcL g t e vs ds (wipeE ε1 vs) [] = res at h
      refine lc_it w (Pv := fun i H' => ∃ F' ε' acc, LcI K σ vs ε1 F1 H1 Da ε' acc F' H' ∧ lcL g t e vs (ds.drop i) ε' acc = res) ?_ ?_ ?_ ?_
      · have gl : Gr F1 H1 F1 (upd H1 Da (.lst [])) := Gr.loose a.eo.sub hDa
        exact ⟨F1, wipeE ε1 vs, [], ⟨ew.grow gl, .refl _, gl.frm, [], ⟨a.eo.sub.free hDa, upd_same, trivial, fun i d hh z => by
          obtain ⟨v, hv, b, o, rfl, k1, k2, _⟩ := ew.val i _ hh (by simp)
          rw [hv] at z
          have z : b = Da := by simpa using z
          rw [z, hDa] at k2
          cases k2⟩, .nil⟩, by rw [List.drop_zero]; exact hR⟩
      · rintro i H' _ ⟨F', ε', acc, L, _⟩
        exact hG H' (L.fs.trans L.eo.sub)
      · rintro i x H' H2 hi ⟨F', ε', acc, L, hl⟩ y
        obtain ⟨F2, d, hdd, gr, rp⟩ := hY i H' x H2 F' hi y L.fs L.eo.sub
        have hdr : ds.drop i = d :: ds.drop (i + 1) := by
          rw [List.drop_eq_getElem_cons hi]
          congr 1
          rw [List.getElem?_eq_getElem hi] at hdd
          exact Option.some.inj hdd
        rw [hdr] at hl
        have nn : res ≠ none := fun z => by rw [z] at h; exact h
        unfold lcL at hl
        cases qg : g d ε' with
        | none => rw [qg] at hl; exact absurd hl.symm nn
        | some ε2 =>
          rw [qg] at hl
          refine ⟨F2, ε', d, ε2, L.eo.grow gr, rp, qg, fun σ3 H3 F3 s3 e3 k3 f3 => ⟨k3.wipe hts, F3, ε2, e3, ?_⟩⟩
          have hl : (match t ε2 with
            | some (.v false ε2) => lcL g t e vs (ds.drop (i + 1)) (wipeE ε2 vs) acc
            | some (.v true ε2) => (match e ε2 with
              | some (.v (.fz y) ε3) => if acc.length < sizeLine then lcL g t e vs (ds.drop (i + 1)) (wipeE ε3 vs) (acc ++ [y]) else none
              | some (.v (.ow y) ε3) => if acc.length < sizeLine then lcL g t e vs (ds.drop (i + 1)) (wipeE ε3 vs) (acc ++ [y]) else none
              | _ => none)
            | _ => none) = res := hl
          have fr3 : Frm (L2.wipe σ vs) ε' F' H' σ3 ε2 F3 H3 := gr.frm.trans f3
          cases qt : t ε2 with
          | none => rw [qt] at hl; exact absurd hl.symm nn
          | some rt =>
            rw [qt] at hl
            cases rt with
            | x c gs ε4 => exact absurd hl.symm nn
            | v b ε4 =>
              intro H4 F4 s4 e4 f4
              have fr4 : Frm (L2.wipe σ vs) ε' F' H' σ3 ε4 F4 H4 := fr3.trans f4
              have sw : L2.wipe σ3 vs = L2.wipe σ vs := k3.wipe hts
              -- back to the turn's start
              have turn : ∀ {ε5 : En} {F5 H5 : Hp} {acc' : List D}, EOk K F5 H5 σ3 ε5 → Same F' F5 → Frm (L2.wipe σ vs) ε' F' H' σ3 ε5 F5 H5 → (∃ us, Oth σ3 ε5 F5 H5 Da (.lst us) ∧ RepL K F5 us acc') → LcI K σ vs ε1 F1 H1 Da (wipeE ε5 vs) acc' F5 H5 := fun {ε5 F5 H5 acc'} e5 s5 f5 ob => by
                have ew5 := e5.wipe vs
                have fw := frm_wipe (F := F5) (H := H5) (σ := σ3) (ε := ε5) vs
                rw [sw] at ew5 fw
                obtain ⟨us, o1, o2⟩ := ob
                exact ⟨ew5, L.fs.trans s5, (L.fr.trans f5).trans fw, us, fw _ _ o1, o2⟩
              have s04 : Same F' F4 := (gr.fs.trans s3).trans s4
              obtain ⟨us, o1, o2⟩ := L.ob
              cases b with
              | false => exact iteF ⟨F4, _, acc, turn e4 s04 fr4 ⟨us, fr4 _ _ o1, o2.up s04⟩, hl⟩
              | true =>
                refine iteT ⟨F4, ε4, e4, ?_⟩
                have hl : (match e ε4 with
                  | some (.v (.fz y) ε3) => if acc.length < sizeLine then lcL g t e vs (ds.drop (i + 1)) (wipeE ε3 vs) (acc ++ [y]) else none
                  | some (.v (.ow y) ε3) => if acc.length < sizeLine then lcL g t e vs (ds.drop (i + 1)) (wipeE ε3 vs) (acc ++ [y]) else none
                  | _ => none) = res := hl
                cases qe : e ε4 with
                | none => rw [qe] at hl; exact absurd hl.symm nn
                | some re =>
                  rw [qe] at hl
                  cases re with
                  | x c gs ε5 => exact absurd hl.symm nn
                  | v s ε5 =>
                    intro y H5 F5 a5
                    have fin : ∀ (yd : D), (s = .fz yd ∨ s = .ow yd) → (if acc.length < sizeLine then lcL g t e vs (ds.drop (i + 1)) (wipeE ε5 vs) (acc ++ [yd]) else none) = res →
                        ∃ acc_1, H5 Da = some (.lst acc_1) ∧ acc_1.length < sizeLine ∧ ∃ F' ε' acc, LcI K σ vs ε1 F1 H1 Da ε' acc F' (upd H5 Da (.lst (acc_1 ++ [y]))) ∧ lcL g t e vs (ds.drop (i + 1)) ε' acc = res := by
                      intro yd hs hl
                      by_cases hz : acc.length < sizeLine
                      · rw [if_pos hz] at hl
                        obtain ⟨F6, a6⟩ := a5.data hs
                        have fr6 : Frm (L2.wipe σ vs) ε' F' H' σ3 ε5 F6 H5 := fr4.trans a6.fr
                        have s6 : Same F' F6 := s04.trans a6.fs
                        have o6 := fr6 _ _ o1
                        refine ⟨us, o6.at_, by rw [o2.len]; exact hz, F6, wipeE ε5 vs, acc ++ [yd], ?_, hl⟩
                        have rr : RepL K F6 (us ++ [y]) (acc ++ [yd]) := (o2.up s6).app (.cons a6.rp .nil)
                        have nD : ∀ (j : Nat) (dd : D), ε5[j]? = some (.ow dd) → σ3[j]? ≠ some (some (.ref Da)) := o6.no
                        have sm7 : Same F6 (upd H5 Da (.lst (us ++ [y]))) := fun b o hb => by
                          rw [upd_ne (fun z => by rw [z, o6.nf] at hb; cases hb)]
                          exact a6.eo.sub b o hb
                        have eo7 : EOk K F6 (upd H5 Da (.lst (us ++ [y]))) σ3 ε5 := by
                          refine ⟨sm7, a6.eo.len, fun j s' hj n => ?_, a6.eo.inj, Tabs.own a6.eo.tab o6.at_ o6.kd, a6.eo.ntb⟩
                          obtain ⟨w', hw', r'⟩ := a6.eo.val j s' hj n
                          refine ⟨w', hw', ?_⟩
                          cases s' with
                          | un => exact r'
                          | fz d' => exact r'
                          | ow d' =>
                            obtain ⟨b, o, rfl, k1, k2, t'⟩ := r'
                            have nb : b ≠ Da := fun z => nD j d' hj (by rw [hw', z])
                            exact ⟨b, o, rfl, k1, by rw [upd_ne nb]; exact k2, t'⟩
                        have ew7 := eo7.wipe vs
                        have ow7 : Oth σ3 ε5 F6 (upd H5 Da (.lst (us ++ [y]))) Da (.lst (us ++ [y])) := ⟨o6.nf, upd_same, trivial, nD⟩
                        have fw := frm_wipe (F := F6) (H := upd H5 Da (.lst (us ++ [y]))) (σ := σ3) (ε := ε5) vs
                        rw [sw] at ew7 fw
                        refine ⟨ew7, L.fs.trans s6, fun b o hb => ?_, us ++ [y], fw _ _ ow7, rr⟩
                        have z1 := L.fr b o hb
                        have nb : b ≠ Da := fun z => by
                          have := hb.at_
                          rw [z, hDa] at this
                          cases this
                        have z2 := fr6 b o z1
                        exact fw b o ⟨z2.nf, by rw [upd_ne nb]; exact z2.at_, z2.kd, z2.no⟩
                      · rw [if_neg hz] at hl
                        exact absurd hl.symm nn
                    cases s with
                    | un => exact a5.rs.elim
                    | fz yd => exact fin yd (.inl rfl) hl
                    | ow yd => exact fin yd (.inr rfl) hl
      · rintro H' ⟨F', ε', acc, L, hl⟩
        rw [List.drop_length] at hl
        have hl : some (acc, ε') = res := hl
        rw [← hl] at h
        obtain ⟨us, o1, o2⟩ := L.ob
        have ll : ε1.length = ε'.length := by
          have := L.eo.len
          rw [wipe_length, a.eo.len] at this
          exact this
        -- a thing of others, or of a slot of the block's own, stays
        have own : ∀ (i : Nat) (d : D) (v : V), i ∈ vs → ε1[i]? = some (.ow d) → σ[i]? = some (some v) → ∃ b o, v = .ref b ∧ Top K F1 o d ∧ Oth (L2.wipe σ vs) ε' F' H' b o := fun i d v hi h1 h2 => by
          obtain ⟨w', hw', b, o, rfl, k1, k2, tt⟩ := a.eo.val i _ h1 (by simp)
          rw [h2] at hw'
          cases hw'
          refine ⟨b, o, rfl, tt, L.fr b o ⟨k1, k2, tt.own, fun j d' hj z => ?_⟩⟩
          obtain ⟨hj1, hj2⟩ := wipeE_at hj (by simp)
          rw [wipe_out' hj2] at z
          have := a.eo.inj i j d d' _ h1 hj1 h2 z
          subst this
          exact hj2 hi
        have slot : ∀ (i : Nat) (d : D) (v : V), (backE ε1 ε' vs)[i]? = some (.ow d) → σ[i]? = some (some v) →
            (∃ b o, v = .ref b ∧ Oth (L2.wipe σ vs) ε' F' H' b o ∧ i ∈ vs ∧ ε1[i]? = some (.ow d)) ∨ (ε'[i]? = some (.ow d) ∧ (L2.wipe σ vs)[i]? = some (some v)) := fun i d v h1 h2 => by
          rcases backE_at ll h1 with ⟨m1, m2⟩ | ⟨m1, m2⟩
          · obtain ⟨b, o, e1, _, ob⟩ := own i d v m1 m2 h2
            exact .inl ⟨b, o, e1, ob, m1, m2⟩
          · exact .inr ⟨m2, by rw [wipe_out' m1]; exact h2⟩
        refine h (.ref Da) H' F' ⟨a.fs.trans L.fs, ⟨L.eo.sub, by rw [backE_len, ← ll]; exact a.eo.len, fun i s hh n => ?_, fun i j d d' v h1 h2 h3 h4 => ?_, L.eo.tab, L.eo.ntb⟩, ⟨Da, _, rfl, o1.nf, o1.at_, us, rfl, o2⟩, fun i d hh z => ?_, fun b o hb => ?_, fun b o hb z => ?_⟩
        · rcases backE_at ll hh with ⟨m1, m2⟩ | ⟨m1, m2⟩
          · obtain ⟨v, hv, r⟩ := a.eo.val i s m2 n
            refine ⟨v, hv, ?_⟩
            cases s with
            | un => exact r
            | fz d => exact Rep.up L.fs r
            | ow d =>
              obtain ⟨b, o, rfl, tt, ob⟩ := own i d v m1 m2 hv
              exact ⟨b, o, rfl, ob.nf, ob.at_, tt.up L.fs⟩
          · obtain ⟨v, hv, r⟩ := L.eo.val i s m2 n
            rw [wipe_out' m1] at hv
            exact ⟨v, hv, r⟩
        · rcases slot i d v h1 h3 with ⟨b, o, e1, ob, m1, m2⟩ | ⟨m1, m2⟩ <;> rcases slot j d' v h2 h4 with ⟨b', o', e1', ob', m1', m2'⟩ | ⟨m1', m2'⟩
          · exact a.eo.inj i j d d' v m2 m2' h3 h4
          · rw [e1] at m2'
            exact absurd m2' (ob.no j d' m1')
          · rw [e1'] at m2
            exact absurd m2 (ob'.no i d m1)
          · exact L.eo.inj i j d d' v m1 m1' m2 m2'
        · rcases slot i d _ hh z with ⟨b, o, e1, ob, m1, m2⟩ | ⟨m1, m2⟩
          · cases e1
            obtain ⟨w', hw', b, o, rfl, k1, k2, tt⟩ := a.eo.val i _ m2 (by simp)
            rw [z] at hw'
            cases hw'
            rw [hDa] at k2
            cases k2
          · exact o1.no i d m1 m2
        · have z1 := a.fr b o hb
          have z2 : Oth (L2.wipe σ vs) (wipeE ε1 vs) F1 H1 b o := frm_wipe vs b o z1
          have z3 := L.fr b o z2
          refine ⟨z3.nf, z3.at_, z3.kd, fun i d hh z => ?_⟩
          rcases slot i d _ hh z with ⟨b', o', e1, ob, m1, m2⟩ | ⟨m1, m2⟩
          · exact z1.no i d m2 z
          · exact z3.no i d m1 m2
        · cases z
          have := (a.fr _ o hb).at_
          rw [hDa] at this
          cases this

section
variable {X : Cx} {W : WX} {np : Nat} {elt tg iter : Expr} {scope : Scope} {own : List (Str × Nat)} {pos : Pos} {fi : FI} {g : FG} {t : FB} {e : FE} {ts : List Nat}
/-- no test -/
theorem mts_nil {X : Cx} : PTs X [] (tMT X.K W0 bTrue) := ⟨fun pins s σ H Q I ⟨F, ε, E0, h⟩ => pts_nil.run pins s σ H Q I (h H F (.refl _) E0 .refl)⟩
theorem mts_one {X : Cx} {c : Expr} (h : MT X W0 c t) : PTs X [c] (tMT X.K W0 t) := pts_one h
theorem me_lc {ifs : List Expr} (hc : X.calm = true) (hN : X.N.Nodup) (hi : MI X W tg iter fi) (ok : BlkOk X.N X.env.scope scope own)
    (hg : ∀ (s : Shared) (H : Hp) (C : Addr) (cl : List (Str × Addr)) (fp : List Addr), MG (X.blk s H scope (compEnvC scope cl C X.env) fp) ts tg g)
    (ht : ∀ (s : Shared) (H : Hp) (C : Addr) (cl : List (Str × Addr)) (fp : List Addr), PTs (X.blk s H scope (compEnvC scope cl C X.env) fp) ifs (tMT X.K W0 t))
    (he : ∀ (s : Shared) (H : Hp) (C : Addr) (cl : List (Str × Addr)) (fp : List Addr), ME (X.blk s H scope (compEnvC scope cl C X.env) fp) W0 elt e)
    (hts : ts.all (fun i => decide (i ∈ own.map (·.2))) = true := by rfl) (hs : ∀ x, foldedSetIterable iter X.env x = pure x := by intro _; rfl) :
    ME X W (.ListComp elt [⟨tg, iter, ifs, 0⟩] scope pos) (eLc fi g t e (own.map (·.2))) :=
  PE.imp (pe_lc hc hN hi ok hg ht he hs) fun _ _ _ h => lc_ok hts h
/-- y = [..] -/
theorem ms_setLc {i : Nat} {y : Str} {py spos : Pos} {ifs : List Expr} (hc : X.calm = true) (hN : X.N.Nodup) (hy : X.N[i]? = some y) (hyl : X.env.scope.names.lookup y = some .local)
    (hsw : swapsWith (.ListComp elt [⟨tg, iter, ifs, 0⟩] scope pos) (some (.Name y py)) spos.line X.env = pure true) (hi : MI X W tg iter fi) (ok : BlkOk X.N X.env.scope scope own)
    (hg : ∀ (s : Shared) (H : Hp) (C : Addr) (cl : List (Str × Addr)) (fp : List Addr), MG (X.blk s H scope (compEnvC scope cl C X.env) fp) ts tg g)
    (ht : ∀ (s : Shared) (H : Hp) (C : Addr) (cl : List (Str × Addr)) (fp : List Addr), PTs (X.blk s H scope (compEnvC scope cl C X.env) fp) ifs (tMT X.K W0 t))
    (he : ∀ (s : Shared) (H : Hp) (C : Addr) (cl : List (Str × Addr)) (fp : List Addr), ME (X.blk s H scope (compEnvC scope cl C X.env) fp) W0 elt e)
    (hnp : np ≤ i := by decide) (hts : ts.all (fun i => decide (i ∈ own.map (·.2))) = true := by rfl) (hs : ∀ x, foldedSetIterable iter X.env x = pure x := by intro _; rfl) :
    MS X W np (.Assign [.Name y py] (.ListComp elt [⟨tg, iter, ifs, 0⟩] scope pos) spos) (sSet i (eLc fi g t e (own.map (·.2)))) := by
  refine PS.imp (ps_setLc (g := tMG X.K ts g) (tt := tMT X.K W0 t) (te := tM X.K W0 e) hc hN hy hyl hsw hi ok hg ht he hs) fun Z σ H h => ?_
  refine lc_ok hts ?_
  obtain ⟨F, ε, E0, h⟩ := h
  refine ⟨F, ε, E0, bs_do h fun s ε1 v H1 F1 a h1 => ?_⟩
  exact h1 _ H1 F1 a.fs (a.eo.put a.rs a.ap) (keep_set hnp) (a.frmPut)
end
end Mi

namespace Mi
open PySem PySem.Spec PyProof.Rows L2

/-! ### displays -/
def asD : As → Option (List D)
  | [] => some []
  | (none, .fz d) :: ss => (asD ss).map (d :: ·)
  | _ => none
def eLst (fa : FAr) : FE := fun ε => bnd (fa ε) fun ss ε1 => match asD ss with
  | some ds => if ds.length ≤ sizeLine then some (.v (.ow (.lst ds)) ε1) else none
  | none => none
def eTup (fa : FAr) : FE := fun ε => bnd (fa ε) fun ss ε1 => match asD ss with
  | some ds => if ds.length ≤ sizeLine then some (.v (.fz (.tup ds)) ε1) else none
  | none => none
theorem ArgsOk.rep {K : PySem.W.Frag} {σ : St} {ε : En} {F H : Hp} : ∀ {vs : List V} {ss : As} {ds : List D}, ArgsOk K σ ε F H vs ss → asD ss = some ds → RepL K F vs ds
  | _, _, _, .nil, h => by cases h; exact .nil
  | _, _, _, .val (d := d) (ss := ss) r a, h => by
    simp only [asD] at h
    cases q : asD ss with
    | none => rw [q] at h; cases h
    | some es => rw [q] at h; cases h; exact .cons r (a.rep q)
  | _, _, _, .mu (s := s) _ _ _ a, h => by cases s <;> cases h
  | _, _, _, .tmp _ _, h => by cases h
theorem DoA.bindE {K : PySem.W.Frag} {W : WX} {σ : St} {ε : En} {F H : Hp} {r : Option (R As)} {k : As → En → Option (R Sl)} {Q : VK} {G : List V → Hp → Prop} (h : Do K W σ ε F H (bnd r k) Q)
    (g : ∀ ss ε1 vs H1 F1, AftA K σ ε F H F1 H1 ε1 vs ss → Do K W σ ε1 F1 H1 (k ss ε1) Q → G vs H1) : DoA K W σ ε F H r G := by
  cases r with
  | none => exact h
  | some r =>
    cases r with
    | x c fs ε1 => exact h
    | v b ε1 => exact fun vs H1 F1 a => g b ε1 vs H1 F1 a (Do.sub (show Do K W σ ε F H (k b ε1) Q from h) a.fs a.fr)
section
variable {X : Cx} {W : WX} {es : List Expr} {fa : FAr} {pos : Pos}
theorem me_lst (h : MA X W es fa) : ME X W (.List es pos) (eLst fa) := by
  refine PE.imp (pe_lst h) fun σ H Q ⟨F, ε, E0, h⟩ => ⟨F, ε, E0, DoA.bindE h fun ss ε1 vs H1 F1 a h1 => ?_⟩
  cases q : asD ss with
  | none => rw [q] at h1; exact h1.elim
  | some ds =>
    rw [q] at h1
    simp only at h1
    split at h1
    · rename_i hz
      have rl := a.ok.rep q
      exact ⟨by rw [rl.len]; exact hz, fun p hp => (h1.gives a.eo).newO a.eo.sub hp ⟨vs, rfl, rl⟩⟩
    · exact h1.elim
theorem me_tup {k : Nat} (h : MA X W es fa) : ME X W (.Tuple es k pos) (eTup fa) := by
  refine PE.imp (pe_tup h) fun σ H Q ⟨F, ε, E0, h⟩ => ⟨F, ε, E0, DoA.bindE h fun ss ε1 vs H1 F1 a h1 => ?_⟩
  cases q : asD ss with
  | none => rw [q] at h1; exact h1.elim
  | some ds =>
    rw [q] at h1
    simp only at h1
    split at h1
    · rename_i hz
      have rl := a.ok.rep q
      exact ⟨by rw [rl.len]; exact hz, fun p hp => (h1.gives a.eo).new a.eo.sub hp fun F' s' h' => .tup (SqT.of h') (rl.up s')⟩
    · exact h1.elim
end

/-! ### operators -/
section
variable {X : Cx} {W : WX} {a b : Expr} {fa fb : FE} {pos : Pos} {i j : Nat}
theorem me_bin {bo : Operator} {r : R2} {op : D → D → Option Sl} (ho : OpR X (binaryOp bo) r) (p : Prim2 X.K r op) (ha : ME X W a fa) (hb : ME X W b fb) : ME X W (.BinOp a bo b pos) (e2 op fa fb) :=
  PE.imp (pe_op ho ha hb) fun _ _ _ h => e2_ok p h
theorem me_add (ha : ME X W a fa) (hb : ME X W b fb) : ME X W (.BinOp a .Add b pos) (e2 oAdd fa fb) := me_bin (OpR.or op_add (OpR.or op_add_str (OpR.or op_cat op_catT))) p_add ha hb
theorem me_sub (ha : ME X W a fa) (hb : ME X W b fb) : ME X W (.BinOp a .Sub b pos) (e2 oSub fa fb) := me_bin op_sub p_sub ha hb
theorem me_mul (ha : ME X W a fa) (hb : ME X W b fb) : ME X W (.BinOp a .Mult b pos) (e2 oMul fa fb) := me_bin (OpR.or op_mul op_rep) p_mul ha hb
theorem me_mod (ha : ME X W a fa) (hb : ME X W b fb) : ME X W (.BinOp a .Mod b pos) (e2 oMod fa fb) := me_bin op_mod p_mod ha hb
theorem me_div (ha : ME X W a fa) (hb : ME X W b fb) : ME X W (.BinOp a .FloorDiv b pos) (e2 oDiv fa fb) := me_bin op_fdiv p_div ha hb
theorem me_pow (ha : ME X W a fa) (hb : ME X W b fb) : ME X W (.BinOp a .Pow b pos) (e2 oPow fa fb) := me_bin op_pow p_pow ha hb
theorem me_neg (ha : ME X W a fa) : ME X W (.UnaryOp .USub a pos) (e1 oNeg fa) := PE.imp (pe_un un_neg ha) fun _ _ _ h => e1_ok p_neg h

/-! ### comparisons -/
theorem me_cmp {co : CmpOp} {r : R2} {op : D → D → Option Sl} (ho : OpR X (compareOp co) r) (p : Prim2 X.K r op) (ha : ME X W a fa) (hb : ME X W b fb) (hm : behindInMarks co b = false) : ME X W (.Compare a [co] [b] pos) (e2 op fa fb) :=
  PE.imp (pe_cmpR ho ha hb hm) fun _ _ _ h => e2_ok p h
/-- the right one is a name -/
theorem me_cmpN {co : CmpOp} {r : R2} {op : D → D → Option Sl} (ho : OpR X (compareOp co) r) (p : Prim2 X.K r op) (ha : ME X W a fa) (hb : PE X b (tVar j)) (hm : behindInMarks co b = false) : ME X W (.Compare a [co] [b] pos) (e2m op fa j) :=
  PE.imp (pe_cmpR ho ha hb hm) fun _ _ _ h => e2m_ok p h
end
def oInt (p : Int → Int → Bool) : D → D → Option Sl
  | .int i, .int j => some (.fz (.bl (p i j)))
  | _, _ => none
theorem p_int {K : PySem.W.Frag} (p : Int → Int → Bool) : Prim2 K (rI0 fun i j => .bl (p i j)) (oInt p) := by
  intro F H vx vy x y s Q sm rx ry e g
  cases x with
  | int i =>
    cases y with
    | int j => cases e; exact ⟨i, j, rx.int, ry.int, g.same sm (.bl _)⟩
    | _ => cases e
  | _ => cases e
abbrev oLt := oInt fun i j => decide (i < j)
abbrev oLe := oInt fun i j => decide (i ≤ j)
abbrev oGt := oInt fun i j => decide (j < i)
abbrev oGe := oInt fun i j => decide (j ≤ i)

mutual
def toPy : D → Option PyData
  | .non => some .none
  | .bl b => some (.bool b)
  | .int i => some (.int i)
  | .str x => some (.str x)
  | .lst xs => (toPyL xs).map .list
  | .rol xs => (toPyL xs).map .list
  | .tup xs => (toPyL xs).map .tuple
  | .dct _ => none
  | .ins _ _ => none
  | .exc _ _ => none
  | .hx _ _ _ _ => none
  | .th _ _ _ _ _ => none
  | .ptp xs => (toPyL xs).map .tuple
def toPyL : List D → Option (List PyData)
  | [] => some []
  | d :: ds => (toPy d).bind fun p => (toPyL ds).map (p :: ·)
end
mutual
theorem Rep.dp {K : PySem.W.Frag} {F H : Hp} (s : Same F H) : ∀ {v : V} {d : D} {p : PyData}, Rep K F v d → toPy d = some p → Dp K H v p
  | _, _, _, .non, h => by cases h; exact .non
  | _, _, _, .bl b, h => by cases h; exact .bl b
  | _, _, _, .int i, h => by cases h; exact .int i
  | _, _, _, .str x, h => by cases h; exact .str x
  | _, _, _, .lst (ds := ds) e r, h => by
    simp only [toPy, Option.map_eq_some_iff] at h
    obtain ⟨ps, h1, rfl⟩ := h
    exact .lst (SqL.of (s _ _ e)) (RepL.dp s r h1)
  | _, _, _, .rol (ds := ds) e r, h => by
    simp only [toPy, Option.map_eq_some_iff] at h
    obtain ⟨ps, h1, rfl⟩ := h
    exact .lst (sqL_up s e) (RepL.dp s r h1)
  | _, _, _, .tup (ds := ds) e r, h => by
    simp only [toPy, Option.map_eq_some_iff] at h
    obtain ⟨ps, h1, rfl⟩ := h
    exact .tup (sqT_up s e) (RepL.dp s r h1)
  | _, _, _, .dct e r, h => by cases h
  | _, _, _, .ins e r, h => by cases h
  | _, _, _, .exc e1 e2 r, h => by cases h
  | _, _, _, .exn e, h => by cases h
  | _, _, _, .hx e r, h => by cases h
  | _, _, _, .th e r, h => by cases h
  | _, _, _, .ptp e _ r, h => by
    simp only [toPy, Option.map_eq_some_iff] at h
    obtain ⟨ps, h1, rfl⟩ := h
    exact .tup (sqT_up s (.inl (.inr ⟨_, e⟩))) (RepL.dp s r h1)
theorem RepL.dp {K : PySem.W.Frag} {F H : Hp} (s : Same F H) : ∀ {vs : List V} {ds : List D} {ps : List PyData}, RepL K F vs ds → toPyL ds = some ps → DpAll K H vs ps
  | _, _, _, .nil, h => by cases h; exact .nil
  | _, _, _, .cons (d := d) (ds := ds) r rr, h => by
    simp only [toPyL, Option.bind_eq_some_iff, Option.map_eq_some_iff] at h
    obtain ⟨p, h1, ps, h2, rfl⟩ := h
    exact .cons (Rep.dp s r h1) (RepL.dp s rr h2)
end
theorem RepA.dp {K : PySem.W.Frag} {F H : Hp} (s : Same F H) {v : V} {d : D} {p : PyData} (r : RepA K F H v d) (h : toPy d = some p) : Dp K H v p := by
  rcases r with r | ⟨a, o, rfl, h1, h2, t⟩
  · exact r.dp s h
  · cases d with
    | lst ds =>
      obtain ⟨vs, rfl, rl⟩ := t
      simp only [toPy, Option.map_eq_some_iff] at h
      obtain ⟨ps, h1, rfl⟩ := h
      exact .lst (SqL.of h2) (rl.dp s h1)
    | dct _ => cases h
    | ins _ _ => cases h
    | _ => exact t.elim
def eqP (x y : D) : Option Bool := (toPy x).bind fun p => (toPy y).bind fun q => if SeqAt.shaped p = true ∧ SeqAt.shaped q = true then some (PyData.eqv p q) else none
def eqQ : D → D → Option Bool
  | .str a, .str b => some (decide (a = b))
  | x, y => eqP x y
def oEq : D → D → Option Sl := fun x y => (eqQ x y).map fun b => .fz (.bl b)
def oNe : D → D → Option Sl := fun x y => (eqQ x y).map fun b => .fz (.bl (!b))
theorem eqQ_ok {x y : D} {b : Bool} (h : eqQ x y = some b) : (∃ c d, x = .str c ∧ y = .str d ∧ b = decide (c = d)) ∨ eqP x y = some b := by
  unfold eqQ at h
  split at h
  · cases h; exact .inl ⟨_, _, rfl, rfl, rfl⟩
  · exact .inr h
theorem eqP_ok {x y : D} {b : Bool} (h : eqP x y = some b) : ∃ p q, toPy x = some p ∧ toPy y = some q ∧ SeqAt.shaped p = true ∧ SeqAt.shaped q = true ∧ b = PyData.eqv p q := by
  unfold eqP at h
  cases h1 : toPy x with
  | none => rw [h1] at h; cases h
  | some p =>
    cases h2 : toPy y with
    | none => rw [h1, h2] at h; cases h
    | some q =>
      rw [h1, h2] at h
      simp only [Option.bind_some] at h
      split at h
      · rename_i z
        cases h
        exact ⟨p, q, rfl, rfl, z.1, z.2, rfl⟩
      · cases h
theorem p_eq {K : PySem.W.Frag} : Prim2 K (fun x y H Q => rEqD K x y H Q ∨ rEq x y H Q) oEq := by
  intro F H vx vy x y s Q sm rx ry e g
  unfold oEq at e
  simp only [Option.map_eq_some_iff] at e
  obtain ⟨b, h, rfl⟩ := e
  rcases eqQ_ok h with ⟨c, d, rfl, rfl, rfl⟩ | h
  · rw [rx.str, ry.str]
    have e : (decide (V.str c = V.str d)) = decide (c = d) := by simp
    exact .inr ⟨rfl, by rw [e]; exact g.same sm (.bl _)⟩
  · obtain ⟨p, q, h1, h2, s1, s2, rfl⟩ := eqP_ok h
    exact .inl ⟨p, q, rx.dp sm h1, ry.dp sm h2, s1, s2, g.same sm (.bl _)⟩
theorem p_ne {K : PySem.W.Frag} : Prim2 K (fun x y H Q => rNeD K x y H Q ∨ rNe x y H Q) oNe := by
  intro F H vx vy x y s Q sm rx ry e g
  unfold oNe at e
  simp only [Option.map_eq_some_iff] at e
  obtain ⟨b, h, rfl⟩ := e
  rcases eqQ_ok h with ⟨c, d, rfl, rfl, rfl⟩ | h
  · rw [rx.str, ry.str]
    have e : (decide (V.str c = V.str d)) = decide (c = d) := by simp
    exact .inr ⟨rfl, by rw [e]; exact g.same sm (.bl _)⟩
  · obtain ⟨p, q, h1, h2, s1, s2, rfl⟩ := eqP_ok h
    exact .inl ⟨p, q, rx.dp sm h1, ry.dp sm h2, s1, s2, g.same sm (.bl _)⟩

/-! ### in -/
def toV : D → Option V
  | .non => some .non
  | .bl b => some (.bl b)
  | .int i => some (.int i)
  | .str x => some (.str x)
  | _ => none
def toVs : List D → Option (List V)
  | [] => some []
  | d :: ds => (toV d).bind fun v => (toVs ds).map (v :: ·)
theorem toV_ok {K : PySem.W.Frag} {F H : Hp} {v w : V} {d : D} (r : RepA K F H v d) (h : toV d = some w) : v = w ∧ flatV w = true := by
  cases d with
  | non => cases h; exact ⟨r.non, rfl⟩
  | bl b => cases h; exact ⟨r.bl, rfl⟩
  | int b => cases h; exact ⟨r.int, rfl⟩
  | str b => cases h; exact ⟨r.str, rfl⟩
  | _ => cases h
theorem toVs_ok {K : PySem.W.Frag} {F : Hp} : ∀ {vs ws : List V} {ds : List D}, RepL K F vs ds → toVs ds = some ws → vs = ws ∧ ws.all flatV = true
  | _, _, _, .nil, h => by cases h; exact ⟨rfl, rfl⟩
  | _, _, _, .cons (d := d) (ds := ds) r rr, h => by
    simp only [toVs, Option.bind_eq_some_iff, Option.map_eq_some_iff] at h
    obtain ⟨w, h1, ws, h2, rfl⟩ := h
    obtain ⟨rfl, f1⟩ := toV_ok (H := F) (.inl r) h1
    obtain ⟨rfl, f2⟩ := toVs_ok rr h2
    exact ⟨rfl, by simp [f1, f2]⟩
/-- a dict's value, a dict with one put in -/
def valD {κ : Type} [DecidableEq κ] (kds : List (κ × D)) (k : κ) : Option D := (kds.find? fun kv => decide (kv.1 = k)).map (·.2)
def putD {κ : Type} [DecidableEq κ] (kds : List (κ × D)) (k : κ) (d : D) : List (κ × D) :=
  if (kds.any fun kv => decide (kv.1 = k)) = true then kds.map (fun kv => if kv.1 = k then (kv.1, d) else kv) else kds ++ [(k, d)]
def keyD : D → Option Key
  | .int i => some (.inl i)
  | .str x => some (.inr x)
  | _ => none
/-- is it in -/
def inD : D → D → Option Bool
  | x, .lst ds => (toV x).bind fun v => (toVs ds).map fun vs => inV v vs
  | x, .tup ds => (toV x).bind fun v => (toVs ds).map fun vs => inV v vs
  | .str x, .str y => match x.cps.toList with
    | [c] => some (decide (c ∈ y.cps.toList))
    | _ => none
  | x, .dct kds => (keyD x).map fun k => (valD kds k).isSome
  | _, _ => none
def oIn : D → D → Option Sl := fun x y => (inD x y).map fun b => .fz (.bl b)
def oNin : D → D → Option Sl := fun x y => (inD x y).map fun b => .fz (.bl (!b))
def rInA (K : PySem.W.Frag) (neg : Bool) : R2 := fun x y H Q => rIn K neg x y H Q ∨ (∃ (c : Nat) (z : Str), x = .str ⟨#[c]⟩ ∧ y = .str z ∧ Q (.bl (if neg then !decide (c ∈ z.cps.toList) else decide (c ∈ z.cps.toList))) H) ∨
  (∃ a o, y = .ref a ∧ DGet H a x o ∧ Q (.bl (if neg then !o.isSome else o.isSome)) H)
theorem keyD_ok {K : PySem.W.Frag} {F H : Hp} {v : V} {d : D} {k : Key} (r : RepA K F H v d) (h : keyD d = some k) : v = kV k := by
  cases d with
  | int i => cases h; exact r.int
  | str x => cases h; exact r.str
  | _ => cases h
theorem valV_rep {K : PySem.W.Frag} {F : Hp} : ∀ {kvs : List (Key × V)} {kds : List (Key × D)} (k : Key), RepK K F kvs kds → (valV kvs k = none ∧ valD kds k = none) ∨ ∃ v d, valV kvs k = some v ∧ valD kds k = some d ∧ Rep K F v d
  | _, _, _, .nil => .inl ⟨rfl, rfl⟩
  | _, _, k, .cons (k := k') (v := v) (d := d) (vs := vs) (ds := ds) r rr => by
    by_cases e : k' = k
    · exact .inr ⟨v, d, valV_pos e, by simp [valD, List.find?_cons, e], r⟩
    · have e1 : valV ((k', v) :: vs) k = valV vs k := valV_neg e
      have e2 : valD ((k', d) :: ds) k = valD ds k := by simp [valD, List.find?_cons, e]
      rw [e1, e2]
      exact valV_rep k rr
section
variable {X : Cx}
theorem op_inA (hu : X.A.units + 1 < cLine) : OpR X (compareOp .In) (rInA X.K false) := by
  intro pins s σ H x y v u Q I rx ry h
  rcases h with h | h | ⟨a, o, rfl, g, q⟩
  · exact op_in_seq pins s σ H x y v u Q I rx ry h
  · exact op_in_sign pins s σ H x y v u Q I rx ry h
  · cases ry
    exact d_in hu I g rx fun s3 I3 => ⟨.bl o.isSome, H, I3, rfl, q⟩
theorem op_ninA (hu : X.A.units + 1 < cLine) : OpR X (compareOp .NotIn) (rInA X.K true) := by
  intro pins s σ H x y v u Q I rx ry h
  rcases h with h | h | ⟨a, o, rfl, g, q⟩
  · exact op_notIn_seq pins s σ H x y v u Q I rx ry h
  · exact op_notIn_sign pins s σ H x y v u Q I rx ry h
  · cases ry
    exact d_notIn hu I g rx fun s3 I3 => ⟨.bl (!o.isSome), H, I3, rfl, q⟩
end

theorem p_inA {K : PySem.W.Frag} (neg : Bool) : Prim2 K (rInA K neg) (fun x y => (inD x y).map fun b => .fz (.bl (if neg then !b else b))) := by
  intro F H vx vy x y s Q sm rx ry e g
  simp only [Option.map_eq_some_iff] at e
  obtain ⟨b, h, rfl⟩ := e
  have seq : ∀ (p : Addr) (vs : List V) (ds : List D), vy = .ref p → (SqL K H p vs ∨ SqT K H p vs) → RepL K F vs ds → ((toV x).bind fun v => (toVs ds).map fun vs => inV v vs) = some b → rInA K neg vx vy H Q := fun p vs ds e1 hq rl hh => by
    simp only [Option.bind_eq_some_iff, Option.map_eq_some_iff] at hh
    obtain ⟨w, h1, ws, h2, rfl⟩ := hh
    obtain ⟨rfl, f1⟩ := toV_ok rx h1
    obtain ⟨rfl, f2⟩ := toVs_ok rl h2
    exact .inl ⟨p, vs, e1, hq, f1, f2, g.same sm (.bl _)⟩
  cases y with
  | lst ds =>
    obtain ⟨p, vs, e1, h1, rl⟩ := ry.lst sm
    exact seq p vs ds e1 (.inl (SqL.of h1)) rl (by cases x <;> exact h)
  | tup ds =>
    obtain ⟨p, vs, e1, h1, rl⟩ := ry.tup sm
    exact seq p vs ds e1 (.inr h1) rl (by cases x <;> exact h)
  | str z =>
    cases x with
    | str z' =>
      have h : (match z'.cps.toList with
        | [c] => some (decide (c ∈ z.cps.toList))
        | _ => none) = some b := h
      split at h
      · rename_i c hc
        cases h
        have e1 : z' = ⟨#[c]⟩ := by
          cases z' with
          | mk cps =>
            have : cps = #[c] := by
              apply Array.toList_inj.mp
              simpa using hc
            rw [this]
        exact .inr (.inl ⟨c, z, by rw [rx.str, e1], ry.str, g.same sm (.bl _)⟩)
      · cases h
    | _ => cases h
  | dct kds =>
    have h : ((keyD x).map fun k => (valD kds k).isSome) = some b := by cases x <;> exact h
    simp only [Option.map_eq_some_iff] at h
    obtain ⟨k, h1, rfl⟩ := h
    obtain ⟨p, kvs, e1, h2, rk⟩ := ry.dct sm
    have e2 := keyD_ok rx h1
    refine .inr (.inr ⟨p, valV kvs k, e1, by rw [e2]; exact DGet.k h2, ?_⟩)
    have : (valD kds k).isSome = (valV kvs k).isSome := by
      rcases valV_rep k rk with ⟨a, b⟩ | ⟨v, d, a, b, _⟩ <;> rw [a, b] <;> rfl
    rw [this] at g
    exact g.same sm (.bl _)
  | _ => cases x <;> cases h
section
variable {X : Cx} {W : WX} {a b : Expr} {fa fb : FE} {pos : Pos} {i j : Nat}
theorem me_lt (ha : ME X W a fa) (hb : ME X W b fb) : ME X W (.Compare a [.Lt] [b] pos) (e2 oLt fa fb) := me_cmp op_lt (p_int _) ha hb (nomark _)
theorem me_le (ha : ME X W a fa) (hb : ME X W b fb) : ME X W (.Compare a [.LtE] [b] pos) (e2 oLe fa fb) := me_cmp op_le (p_int _) ha hb (nomark _)
theorem me_gt (ha : ME X W a fa) (hb : ME X W b fb) : ME X W (.Compare a [.Gt] [b] pos) (e2 oGt fa fb) := me_cmp op_gt (p_int _) ha hb (nomark _)
theorem me_ge (ha : ME X W a fa) (hb : ME X W b fb) : ME X W (.Compare a [.GtE] [b] pos) (e2 oGe fa fb) := me_cmp op_ge (p_int _) ha hb (nomark _)
theorem me_eq (hu : X.A.units + 64 < cLine) (ha : ME X W a fa) (hb : ME X W b fb) : ME X W (.Compare a [.Eq] [b] pos) (e2 oEq fa fb) := me_cmp (OpR.or (op_eqD hu) op_eq) p_eq ha hb (nomark _)
theorem me_ne (hu : X.A.units + 64 < cLine) (ha : ME X W a fa) (hb : ME X W b fb) : ME X W (.Compare a [.NotEq] [b] pos) (e2 oNe fa fb) := me_cmp (OpR.or (op_neD hu) op_ne) p_ne ha hb (nomark _)
theorem me_in (hu : X.A.units + 1 < cLine) (ha : ME X W a fa) (hb : ME X W b fb) (hm : behindInMarks .In b = false := by rfl) : ME X W (.Compare a [.In] [b] pos) (e2 oIn fa fb) := me_cmp (op_inA hu) (p_inA false) ha hb hm
theorem me_nin (hu : X.A.units + 1 < cLine) (ha : ME X W a fa) (hb : ME X W b fb) (hm : behindInMarks .NotIn b = false := by rfl) : ME X W (.Compare a [.NotIn] [b] pos) (e2 oNin fa fb) := me_cmp (op_ninA hu) (p_inA true) ha hb hm
/-- in a name's list, which may be owned -/
theorem me_inN (hu : X.A.units + 1 < cLine) (ha : ME X W a fa) (hb : PE X b (tVar j)) (hm : behindInMarks .In b = false := by rfl) : ME X W (.Compare a [.In] [b] pos) (e2m oIn fa j) := me_cmpN (op_inA hu) (p_inA false) ha hb hm
theorem me_ninN (hu : X.A.units + 1 < cLine) (ha : ME X W a fa) (hb : PE X b (tVar j)) (hm : behindInMarks .NotIn b = false := by rfl) : ME X W (.Compare a [.NotIn] [b] pos) (e2m oNin fa j) := me_cmpN (op_ninA hu) (p_inA true) ha hb hm
end

/-! ### a < b < c -/
def e3 (p p' : D → D → Option Sl) (fa fb fc : FE) : FE := fun ε => bf (fa ε) fun x ε1 => bf (fb ε1) fun y ε2 => match p x y with
  | some (.fz (.bl true)) => bf (fc ε2) fun z ε3 => ret (p' y z) ε3
  | some (.fz (.bl false)) => some (.v (.fz (.bl false)) ε2)
  | _ => none
theorem me_chain {X : Cx} {W : WX} {a b c : Expr} {fa fb fc : FE} {pos : Pos} {o o' : CmpOp} {r r' : R2} {p p' : D → D → Option Sl} (ho : OpR X (compareOp o) r) (ho' : OpR X (compareOp o') r') (hp : Prim2 X.K r p) (hp' : Prim2 X.K r' p')
    (ha : ME X W a fa) (hb : ME X W b fb) (hc : ME X W c fc) (hm : lastMarks [o, o'] [b, c] = false := by with_unfolding_all rfl) : ME X W (.Compare a [o, o'] [b, c] pos) (e3 p p' fa fb fc) := by
  refine PE.imp (pe_chain ho ho' ha hb hc hm) fun σ H Q ⟨F, ε, E0, h⟩ => ⟨F, ε, E0, Do.bindF h fun x ε1 vx H1 F1 a1 h1 => ⟨F1, ε1, a1.eo, Do.bindF h1 fun y ε2 vy H2 F2 a2 h2 => ?_⟩⟩
  cases q : p x y with
  | none => rw [q] at h2; exact h2.elim
  | some s =>
    rw [q] at h2
    refine hp F2 H2 vx vy x y s _ a2.eo.sub (.inl (a1.rp.up a2.fs)) (.inl a2.rp) q fun v F3 H3 gr rs nw => ?_
    cases s with
    | un => exact rs.elim
    | ow d => exact h2.elim
    | fz d =>
      cases d with
      | bl k =>
        cases rs
        have e3 := a2.eo.grow gr
        cases k with
        | true =>
          refine ⟨true, rfl, iteT ⟨F3, ε2, e3, Do.bindF (Do.sub h2 gr.fs gr.frm) fun z ε4 vz H4 F4 a4 h4 => ?_⟩⟩
          obtain ⟨s, e, h5⟩ := ret_do h4
          exact hp' F4 H4 vy vz y z s Q a4.eo.sub (.inl (a2.rp.up (gr.fs.trans a4.fs))) (.inl a4.rp) e (h5.gives a4.eo)
        | false => exact ⟨false, rfl, iteF (h2 _ H3 F3 ⟨gr.fs, e3, .bl _, trivial, gr.frm, trivial⟩)⟩
      | _ => exact h2.elim

/-! ### subscripts -/
def ixD : D → D → Option D
  | .lst ds, .int i => atI ds i
  | .rol ds, .int i => atI ds i
  | .tup ds, .int i => atI ds i
  | .str x, .int i => if x.length ≤ sizeLine then (atI x.cps.toList i).map fun c => .str ⟨#[c]⟩ else none
  | .dct kds, y => (keyD y).bind fun k => valD kds k
  | _, _ => none
def oIx : D → D → Option Sl := fun x y => (ixD x y).map .fz
theorem RepL.atI {K : PySem.W.Frag} {F : Hp} {vs : List V} {ds : List D} {i : Int} {d : D} (r : RepL K F vs ds) (h : L2.atI ds i = some d) : ∃ v, L2.atI vs i = some v ∧ Rep K F v d := by
  unfold L2.atI at h ⊢
  rw [r.len]
  cases q : ixN ds.length i with
  | none => rw [q] at h; cases h
  | some j =>
    rw [q] at h
    simp only [Option.bind_some] at h ⊢
    exact r.at h
def rIxA (K : PySem.W.Frag) : R2 := fun x y H Q => rIx K x y H Q ∨ ∃ a v, x = .ref a ∧ DGet H a y (some v) ∧ Q v H
theorem ix_all {X : Cx} (hu : X.A.units + 1 < cLine) : IxR X (rIxA X.K) := by
  refine ix_seq.or ?_
  intro value slice pins s σ H x y v u Q I rx ry h hs
  obtain ⟨a, w, rfl, g, q⟩ := h
  cases rx
  exact tail_any (dict_typeIs I g) PySem.F.slot_dict_getitem.lookup (d_getItem hu I g ry fun w' s3 I3 rw' => ⟨w, H, I3, rw', q⟩) hs
theorem p_ix {K : PySem.W.Frag} : Prim2 K (rIxA K) oIx := by
  intro F H vx vy x y s Q sm rx ry e g
  unfold oIx at e
  simp only [Option.map_eq_some_iff] at e
  obtain ⟨d, h, rfl⟩ := e
  cases x with
  | lst ds =>
    cases y with
    | int i =>
      obtain ⟨p, vs, e1, h1, rl⟩ := rx.lst sm
      obtain ⟨v, h2, r2⟩ := rl.atI h
      exact .inl (.inl ⟨p, vs, i, v, e1, ry.int, SqL.of h1, h2, g.same sm r2⟩)
    | _ => cases h
  | rol ds =>
    cases y with
    | int i =>
      obtain ⟨p, vs, e1, h1, rl⟩ := rx.rol sm
      obtain ⟨v, h2, r2⟩ := rl.atI h
      exact .inl (.inl ⟨p, vs, i, v, e1, ry.int, h1, h2, g.same sm r2⟩)
    | _ => cases h
  | tup ds =>
    cases y with
    | int i =>
      obtain ⟨p, vs, e1, h1, rl⟩ := rx.tup sm
      obtain ⟨v, h2, r2⟩ := rl.atI h
      exact .inl (.inr (.inl ⟨p, vs, i, v, e1, ry.int, h1, h2, g.same sm r2⟩))
    | _ => cases h
  | str z =>
    cases y with
    | int i =>
      simp only [ixD] at h
      split at h
      · rename_i hz
        simp only [Option.map_eq_some_iff] at h
        obtain ⟨c, h1, rfl⟩ := h
        exact .inl (.inr (.inr ⟨z, i, c, rx.str, ry.int, hz, h1, g.same sm (.str _)⟩))
      · cases h
    | _ => cases h
  | dct kds =>
    have h : ((keyD y).bind fun k => valD kds k) = some d := by cases y <;> exact h
    simp only [Option.bind_eq_some_iff] at h
    obtain ⟨k, h1, h2⟩ := h
    obtain ⟨p, kvs, e1, h3, rk⟩ := rx.dct sm
    have e2 := keyD_ok ry h1
    rcases valV_rep k rk with ⟨a, b⟩ | ⟨v, d', a, b, r⟩
    · rw [b] at h2; cases h2
    · rw [b] at h2
      cases h2
      refine .inr ⟨p, v, e1, ?_, g.same sm r⟩
      rw [e2, ← a]
      exact DGet.k h3
  | _ => cases y <;> cases h
section
variable {X : Cx} {W : WX} {a b : Expr} {fa fb : FE} {pos : Pos} {i j : Nat}
theorem me_ix (hu : X.A.units + 1 < cLine) (ha : ME X W a fa) (hb : ME X W b fb) (hs : PlainIx b := by exact fun _ _ => rfl) : ME X W (.Subscript a b pos) (e2 oIx fa fb) :=
  PE.imp (pe_ix (ix_all hu) ha hb hs) fun _ _ _ h => e2_ok p_ix h
/-- of a name -/
theorem me_ixN (hu : X.A.units + 1 < cLine) (ha : PE X a (tVar i)) (hb : ME X W b fb) (hs : PlainIx b := by exact fun _ _ => rfl) : ME X W (.Subscript a b pos) (e2n oIx i fb) :=
  PE.imp (pe_ix (ix_all hu) ha hb hs) fun _ _ _ h => e2n_ok p_ix h
end

/-! ### built-ins of one value -/
def e1c (op : D → Option Sl) (fa : FE) : FE := e1 op fa
section
variable {X : Cx} {W : WX} {a : Expr} {fa : FE} {p pos : Pos} {i : Nat} {x : Str} {id : String} {r : List V → Hp → VK → Prop} {op : D → Option Sl}
/-- a rule for a call of one value -/
abbrev PrimC (K : PySem.W.Frag) (r : List V → Hp → VK → Prop) (op : D → Option Sl) : Prop := Prim1 K (fun v H Q => r [v] H Q) op
theorem me_b1 (hc : CallR X (.builtin id) r) (pr : PrimC X.K r op) (hg : Gl X x) (hm : X.mg x = none) (hv : bootBuiltins x = some (.builtin id)) (ha : ME X W a fa) (hn : x ≠ "__name__" := by decide) (hdb : (x == ("__debug__" : Str)) = false := by decide)
    (he : starEach [a] X.env = (false, eval a X.env) :: starEach [] X.env := by rfl) (hpl : (backTo pos (starEach [] X.env)).any (·.1) = false := by rfl) : ME X W (.Call (.Name x p) [a] [] pos) (e1 op fa) :=
  PE.imp (pe_callB hc hg hm hv (pa_cons ha pa_nil he) hn hdb he hpl) fun _ _ _ h => e1_ok pr h
theorem me_b1N (hc : CallR X (.builtin id) r) (pr : PrimC X.K r op) (hg : Gl X x) (hm : X.mg x = none) (hv : bootBuiltins x = some (.builtin id)) (ha : PE X a (tVar i)) (hn : x ≠ "__name__" := by decide) (hdb : (x == ("__debug__" : Str)) = false := by decide)
    (he : starEach [a] X.env = (false, eval a X.env) :: starEach [] X.env := by rfl) (hpl : (backTo pos (starEach [] X.env)).any (·.1) = false := by rfl) : ME X W (.Call (.Name x p) [a] [] pos) (e1n op i) :=
  PE.imp (pe_callB hc hg hm hv (pa_cons ha pa_nil he) hn hdb he hpl) fun _ _ _ h => e1n_ok pr h
theorem me_t1 (hc : CallR X (.type id) r) (pr : PrimC X.K r op) (hg : Gl X x) (hm : X.mg x = none) (hv : bootBuiltins x = some (.type id)) (ha : ME X W a fa) (hn : x ≠ "__name__" := by decide) (hdb : (x == ("__debug__" : Str)) = false := by decide)
    (he : starEach [a] X.env = (false, eval a X.env) :: starEach [] X.env := by rfl) (hpl : (backTo pos (starEach [] X.env)).any (·.1) = false := by rfl) : ME X W (.Call (.Name x p) [a] [] pos) (e1 op fa) :=
  PE.imp (pe_callTy hc hg hm hv (pa_cons ha pa_nil he) hn hdb he hpl) fun _ _ _ h => e1_ok pr h
end
def oLen : D → Option Sl
  | .lst ds => some (.fz (.int ds.length))
  | .rol ds => some (.fz (.int ds.length))
  | .tup ds => some (.fz (.int ds.length))
  | .str x => if x.length ≤ sizeLine then some (.fz (.int x.length)) else none
  | _ => none
def oAbs : D → Option Sl
  | .int i => some (.fz (.int (if i < 0 then -i else i)))
  | _ => none
def oToInt : D → Option Sl
  | .int i => some (.fz (.int i))
  | .bl k => some (.fz (.int (if k then 1 else 0)))
  | _ => none
def oToList : D → Option Sl
  | .lst ds => some (.ow (.lst ds))
  | .rol ds => some (.ow (.lst ds))
  | .tup ds => some (.ow (.lst ds))
  | _ => none
def oToTup : D → Option Sl
  | .lst ds => some (.fz (.tup ds))
  | .rol ds => some (.fz (.tup ds))
  | .tup ds => some (.fz (.tup ds))
  | _ => none
def bools : List D → Option (List Bool)
  | [] => some []
  | .bl b :: ds => (bools ds).map (b :: ·)
  | _ => none
def oAll : D → Option Sl
  | .lst ds => (bools ds).map fun bs => .fz (.bl (bs.all id))
  | _ => none
def oAny : D → Option Sl
  | .lst ds => (bools ds).map fun bs => .fz (.bl (bs.any id))
  | _ => none
theorem bools_ok {K : PySem.W.Frag} {F : Hp} : ∀ {vs : List V} {ds : List D} {bs : List Bool}, RepL K F vs ds → bools ds = some bs → vs = bs.map V.bl
  | _, _, _, .nil, h => by cases h; rfl
  | _, _, _, .cons (d := d) (ds := ds) r rr, h => by
    cases d with
    | bl b =>
      simp only [bools, Option.map_eq_some_iff] at h
      obtain ⟨bs, h1, rfl⟩ := h
      cases r
      rw [bools_ok rr h1]
      rfl
    | _ => cases h
section
variable {K : PySem.W.Frag}
theorem p_len : PrimC K (fun xs H Q => ∃ x n, xs = [x] ∧ LenV K x H n ∧ Q (.int n) H) oLen := by
  intro F H v d s Q sm rx e g
  cases d with
  | lst ds =>
    cases e
    obtain ⟨p, vs, rfl, h1, rl⟩ := rx.lst sm
    exact ⟨_, ds.length, rfl, .inl ⟨vs, SqL.of h1, rl.len.symm⟩, g.same sm (.int _)⟩
  | rol ds =>
    cases e
    obtain ⟨p, vs, rfl, h1, rl⟩ := rx.rol sm
    exact ⟨_, ds.length, rfl, .inl ⟨vs, h1, rl.len.symm⟩, g.same sm (.int _)⟩
  | tup ds =>
    cases e
    obtain ⟨p, vs, rfl, h1, rl⟩ := rx.tup sm
    exact ⟨_, ds.length, rfl, .inr ⟨vs, h1, rl.len.symm⟩, g.same sm (.int _)⟩
  | str x =>
    simp only [oLen] at e
    split at e
    · rename_i hz
      cases e
      cases rx.str
      exact ⟨_, x.length, rfl, ⟨hz, rfl⟩, g.same sm (.int _)⟩
    · cases e
  | _ => cases e
theorem p_abs : PrimC K (fun xs H Q => ∃ i, xs = [.int i] ∧ Q (.int (if i < 0 then -i else i)) H) oAbs := by
  intro F H v d s Q sm rx e g
  cases d with
  | int i => cases e; cases rx.int; exact ⟨i, rfl, g.same sm (.int _)⟩
  | _ => cases e
theorem p_toInt : PrimC K (fun xs H Q => (∃ i, xs = [.int i] ∧ Q (.int i) H) ∨ ∃ k, xs = [.bl k] ∧ Q (.int (if k then 1 else 0)) H) oToInt := by
  intro F H v d s Q sm rx e g
  cases d with
  | int i => cases e; cases rx.int; exact .inl ⟨i, rfl, g.same sm (.int _)⟩
  | bl i => cases e; cases rx.bl; exact .inr ⟨i, rfl, g.same sm (.int _)⟩
  | _ => cases e
theorem p_toList : PrimC K (fun xs H Q => ∃ p ys, xs = [.ref p] ∧ (SqL K H p ys ∨ SqT K H p ys) ∧ ∀ l, H l = none → Q (.ref l) (upd H l (.lst ys))) oToList := by
  intro F H v d s Q sm rx e g
  cases d with
  | lst ds =>
    cases e
    obtain ⟨p, vs, rfl, h1, rl⟩ := rx.lst sm
    exact ⟨p, vs, rfl, .inl (SqL.of h1), fun l hl => g.newO sm hl ⟨vs, rfl, rl⟩⟩
  | rol ds =>
    cases e
    obtain ⟨p, vs, rfl, h1, rl⟩ := rx.rol sm
    exact ⟨p, vs, rfl, .inl h1, fun l hl => g.newO sm hl ⟨vs, rfl, rl⟩⟩
  | tup ds =>
    cases e
    obtain ⟨p, vs, rfl, h1, rl⟩ := rx.tup sm
    exact ⟨p, vs, rfl, .inr h1, fun l hl => g.newO sm hl ⟨vs, rfl, rl⟩⟩
  | _ => cases e
theorem p_toTup : PrimC K (fun xs H Q => ∃ p ys, xs = [.ref p] ∧ ((SqL K H p ys ∧ ∀ l, H l = none → Q (.ref l) (upd H l (.tup ys))) ∨ (SqT K H p ys ∧ Q (.ref p) H))) oToTup := by
  intro F H v d s Q sm rx e g
  cases d with
  | lst ds =>
    cases e
    obtain ⟨p, vs, rfl, h1, rl⟩ := rx.lst sm
    exact ⟨p, vs, rfl, .inl ⟨SqL.of h1, fun l hl => g.new sm hl fun F' s' h' => .tup (SqT.of h') (rl.up s')⟩⟩
  | rol ds =>
    cases e
    obtain ⟨p, vs, rfl, h1, rl⟩ := rx.rol sm
    exact ⟨p, vs, rfl, .inl ⟨h1, fun l hl => g.new sm hl fun F' s' h' => .tup (SqT.of h') (rl.up s')⟩⟩
  | tup ds =>
    cases e
    rcases rx with rx | ⟨_, _, _, _, _, t⟩
    · cases rx with
      | tup h1 rl => exact ⟨_, _, rfl, .inr ⟨sqT_up sm h1, g.same sm (.tup h1 rl)⟩⟩
    · exact t.elim
  | _ => cases e
theorem p_all : PrimC K (rAll K) oAll := by
  intro F H v d s Q sm rx e g
  cases d with
  | lst ds =>
    simp only [oAll, Option.map_eq_some_iff] at e
    obtain ⟨bs, h, rfl⟩ := e
    obtain ⟨p, vs, rfl, h1, rl⟩ := rx.lst sm
    have := bools_ok rl h
    subst this
    exact ⟨p, bs, rfl, SqL.of h1, g.same sm (.bl _)⟩
  | _ => cases e
theorem p_any : PrimC K (rAny K) oAny := by
  intro F H v d s Q sm rx e g
  cases d with
  | lst ds =>
    simp only [oAny, Option.map_eq_some_iff] at e
    obtain ⟨bs, h, rfl⟩ := e
    obtain ⟨p, vs, rfl, h1, rl⟩ := rx.lst sm
    have := bools_ok rl h
    subst this
    exact ⟨p, bs, rfl, SqL.of h1, g.same sm (.bl _)⟩
  | _ => cases e
end

/-! ### built-ins of two values -/
section
variable {X : Cx} {W : WX} {a b : Expr} {fa fb : FE} {p pos : Pos} {x : Str} {id : String} {r : List V → Hp → VK → Prop} {op : D → D → Option Sl}
abbrev PrimC2 (K : PySem.W.Frag) (r : List V → Hp → VK → Prop) (op : D → D → Option Sl) : Prop := Prim2 K (fun v u H Q => r [v, u] H Q) op
theorem me_b2 (hc : CallR X (.builtin id) r) (pr : PrimC2 X.K r op) (hg : Gl X x) (hm : X.mg x = none) (hv : bootBuiltins x = some (.builtin id)) (ha : ME X W a fa) (hb : ME X W b fb) (hn : x ≠ "__name__" := by decide) (hdb : (x == ("__debug__" : Str)) = false := by decide)
    (he : starEach [a, b] X.env = (false, eval a X.env) :: starEach [b] X.env := by rfl) (he2 : starEach [b] X.env = (false, eval b X.env) :: starEach [] X.env := by rfl) (hpl : (backTo pos (starEach [b] X.env)).any (·.1) = false := by rfl) : ME X W (.Call (.Name x p) [a, b] [] pos) (e2 op fa fb) :=
  PE.imp (pe_callB hc hg hm hv (pa_cons ha (pa_cons hb pa_nil he2) he) hn hdb he hpl) fun _ _ _ h => e2_ok pr h
end
def oMax : D → D → Option Sl
  | .int i, .int j => some (.fz (.int (if j > i then j else i)))
  | _, _ => none
def oMin : D → D → Option Sl
  | .int i, .int j => some (.fz (.int (if j < i then j else i)))
  | _, _ => none
def oDivmod : D → D → Option Sl
  | .int i, .int j => if 0 < j ∧ j < 1073741824 then some (.fz (.tup [.int (i / j), .int (i % j)])) else none
  | _, _ => none
section
variable {K : PySem.W.Frag}
theorem p_max : PrimC2 K (fun xs H Q => ∃ i j, xs = [.int i, .int j] ∧ Q (.int (if j > i then j else i)) H) oMax := by
  intro F H vx vy x y s Q sm rx ry e g
  cases x with
  | int i =>
    cases y with
    | int j => cases e; cases rx.int; cases ry.int; exact ⟨i, j, rfl, g.same sm (.int _)⟩
    | _ => cases e
  | _ => cases e
theorem p_min : PrimC2 K (fun xs H Q => ∃ i j, xs = [.int i, .int j] ∧ Q (.int (if j < i then j else i)) H) oMin := by
  intro F H vx vy x y s Q sm rx ry e g
  cases x with
  | int i =>
    cases y with
    | int j => cases e; cases rx.int; cases ry.int; exact ⟨i, j, rfl, g.same sm (.int _)⟩
    | _ => cases e
  | _ => cases e
theorem p_divmod : PrimC2 K (fun xs H Q => ∃ i j, xs = [.int i, .int j] ∧ CDiv i j ∧ ∀ p, H p = none → Q (.ref p) (upd H p (.tup [.int (i / j), .int (i % j)]))) oDivmod := by
  intro F H vx vy x y s Q sm rx ry e g
  cases x with
  | int i =>
    cases y with
    | int j =>
      simp only [oDivmod] at e
      split at e
      · rename_i hz
        cases e
        cases rx.int
        cases ry.int
        exact ⟨i, j, rfl, hz, fun p hp => g.new sm hp fun F' s' h' => .tup (SqT.of h') (.cons (.int _) (.cons (.int _) .nil))⟩
      · cases e
    | _ => cases e
  | _ => cases e
end

/-! ### ranges -/
def iRng1 (f : FE) : FI := fun ε => bf (f ε) fun d ε1 => match d with
  | .int j => if -(2 ^ 62) ≤ j ∧ j < 2 ^ 62 then some (.v ((List.range j.toNat).map fun i => D.int (0 + (i : Nat))) ε1) else none
  | _ => none
def iRng2 (f g : FE) : FI := fun ε => bf (f ε) fun d ε1 => bf (g ε1) fun d2 ε2 => match d, d2 with
  | .int i, .int j => if (-(2 ^ 62) ≤ i ∧ i < 2 ^ 62) ∧ -(2 ^ 62) ≤ j ∧ j < 2 ^ 62 then some (.v ((List.range (j - i).toNat).map fun k => D.int (i + (k : Nat))) ε2) else none
  | _, _ => none
section
variable {X : Cx} {W : WX} {tg a b : Expr} {fa fb : FE} {p pos : Pos}
theorem mi_rng1 (hg : Gl X "range") (hm : X.mg "range" = none) (ha : ME X W a fa) (hs : starEach [a] X.env = [(false, eval a X.env)] := by rfl) : MI X W tg (.Call (.Name "range" p) [a] [] pos) (iRng1 fa) := by
  refine PI.imp (pi_range1 hg hm (pa_cons ha pa_nil hs) hs) fun σ H Q ⟨F, ε, E0, h⟩ => ⟨F, ε, E0, DoI.bindF h fun d ε1 v H1 F1 a1 h1 => ?_⟩
  cases d with
  | int j =>
    cases a1.rp
    simp only at h1
    split at h1
    · rename_i hz
      exact ⟨j, rfl, hz.1, hz.2, h1 _ H1 F1 ⟨.refl _, a1.eo, walkD_range rfl, .refl⟩⟩
    · exact h1.elim
  | _ => exact h1.elim
theorem mi_rng2 (hg : Gl X "range") (hm : X.mg "range" = none) (ha : ME X W a fa) (hb : ME X W b fb) (hs : starEach [a, b] X.env = [(false, eval a X.env), (false, eval b X.env)] := by rfl) (hs2 : starEach [b] X.env = [(false, eval b X.env)] := by rfl) : MI X W tg (.Call (.Name "range" p) [a, b] [] pos) (iRng2 fa fb) := by
  refine PI.imp (pi_range2 hg hm (pa_cons ha (pa_cons hb pa_nil hs2) (by rw [hs, hs2])) hs hs2) fun σ H Q ⟨F, ε, E0, h⟩ => ⟨F, ε, E0, DoI.bindF h fun d ε1 v H1 F1 a1 h1 => ⟨F1, ε1, a1.eo, DoI.bindF h1 fun d2 ε2 v2 H2 F2 a2 h2 => ?_⟩⟩
  cases d with
  | int i =>
    cases d2 with
    | int j =>
      cases a1.rp
      cases a2.rp
      simp only at h2
      split at h2
      · rename_i hz
        exact ⟨i, j, rfl, ⟨hz.1.1, hz.1.2, hz.2.1, hz.2.2⟩, h2 _ H2 F2 ⟨.refl _, a2.eo, walkD_range rfl, .refl⟩⟩
      · exact h2.elim
    | _ => exact h2.elim
  | _ => exact h2.elim
end
end Mi

namespace Mi
open PySem PySem.Spec PyProof.Rows L2

/-! ### an owned thing is changed -/
theorem EOk.write {K : PySem.W.Frag} {F H : Hp} {σ : St} {ε : En} {i : Nat} {d d' : D} {a : Addr} {o : HO} (e : EOk K F H σ ε) (h : ε[i]? = some (.ow d)) (hv : σ[i]? = some (some (.ref a))) (t : Top K F o d') :
    EOk K F (upd H a o) σ (ε.set i (.ow d')) ∧ Frm σ ε F H σ (ε.set i (.ow d')) F (upd H a o) := by
  obtain ⟨w, hw, b, u, rfl, h1, h2, t0⟩ := e.val i _ h (by simp)
  rw [hv] at hw
  cases hw
  have il : i < ε.length := (List.getElem?_eq_some_iff.mp h).1
  have cse : ∀ (j : Nat) (s : Sl), (ε.set i (.ow d'))[j]? = some s → (j = i ∧ s = .ow d') ∨ (j ≠ i ∧ ε[j]? = some s) := fun j s q => by
    by_cases hj : j = i
    · subst hj
      rw [List.getElem?_set_self il] at q
      cases q
      exact .inl ⟨rfl, rfl⟩
    · rw [List.getElem?_set_ne (Ne.symm hj)] at q
      exact .inr ⟨hj, q⟩
  have old : ∀ (j : Nat) (x : D), (ε.set i (.ow d'))[j]? = some (.ow x) → ∃ y, ε[j]? = some (.ow y) := fun j x q => by
    rcases cse j _ q with ⟨rfl, _⟩ | ⟨_, q⟩
    · exact ⟨d, h⟩
    · exact ⟨x, q⟩
  refine ⟨⟨fun c z q => ?_, by rw [e.len]; simp, fun j s q n => ?_, fun j k x y v q1 q2 q3 q4 => ?_, Tabs.own e.tab h2 t0.own, e.ntb⟩, fun c z ob => ?_⟩
  · rw [upd_ne (fun q' => by rw [q', h1] at q; cases q)]
    exact e.sub c z q
  · rcases cse j s q with ⟨rfl, rfl⟩ | ⟨hj, q⟩
    · exact ⟨_, hv, a, o, rfl, h1, upd_same, t⟩
    · obtain ⟨v, hv2, r⟩ := e.val j s q n
      refine ⟨v, hv2, ?_⟩
      cases s with
      | un => exact r
      | fz x => exact r
      | ow x =>
        obtain ⟨c, z, rfl, k1, k2, t2⟩ := r
        have nc : c ≠ a := fun q' => hj (e.inj j i x d _ q h hv2 (by rw [q']; exact hv))
        exact ⟨c, z, rfl, k1, by rw [upd_ne nc]; exact k2, t2⟩
  · obtain ⟨x', q1'⟩ := old j x q1
    obtain ⟨y', q2'⟩ := old k y q2
    exact e.inj j k x' y' v q1' q2' q3 q4
  · have nc : c ≠ a := fun q => ob.no i d h (by rw [hv, q])
    refine ⟨ob.nf, by rw [upd_ne nc]; exact ob.at_, ob.kd, fun j x q => ?_⟩
    obtain ⟨y, q⟩ := old j x q
    exact ob.no j y q

/-- a method of an owned list, with data: what it gives, what the list becomes -/
def eMut (op : List D → List D → Option (D × List D)) (i : Nat) (fa : FAr) : FE := fun ε => match ε[i]? with
  | some (.ow (.lst _)) => bnd (fa ε) fun ss ε1 => (match ε1[i]?, asD ss with
    | some (.ow (.lst xs)), some ds => (match op xs ds with
      | some r => some (.v (.fz r.1) (ε1.set i (.ow (.lst r.2))))
      | none => none)
    | _, _ => none)
  | _ => none
/-- what such a method's rule is of data -/
def PrimM (K : PySem.W.Frag) (r : V → List V → Hp → VK → Prop) (op : List D → List D → Option (D × List D)) : Prop := ∀ F H a vs us xs ds d ys Q, Same F H → H a = some (.lst vs) → RepL K F vs xs → RepL K F us ds → op xs ds = some (d, ys) →
  (∀ v ws, Rep K F v d → RepL K F ws ys → Q v (upd H a (.lst ws))) → r (.ref a) us H Q
section
variable {X : Cx} {W : WX} {o e : Expr} {es : List Expr} {i : Nat} {fa : FAr} {name : Str} {apos cpos : Pos} {id : String} {r : V → List V → Hp → VK → Prop} {op : List D → List D → Option (D × List D)}
theorem mut_core {σ : St} {H : Hp} {Q : VK} (p : PrimM X.K r op) (h : tM X.K W (eMut op i fa) σ H Q) : ∃ v, σ[i]? = some (some v) ∧ tyV X.K "list" v H ∧ tMA X.K W fa σ H fun vs H2 => r v vs H2 Q := by
  obtain ⟨F, ε, E0, h⟩ := h
  unfold eMut at h
  split at h
  · rename_i xs0 q0
    obtain ⟨v, hv, a, o, rfl, k1, k2, us, rfl, _⟩ := E0.val i _ q0 (by simp)
    refine ⟨_, hv, .inl ⟨rfl, us, SqL.of k2⟩, F, ε, E0, DoA.bindE h fun ss ε1 vs H1 F1 b h1 => ?_⟩
    split at h1
    · rename_i xs ds q1 q2
      obtain ⟨w, hw, a', o', rfl, l1, l2, us', rfl, rl⟩ := b.eo.val i _ q1 (by simp)
      rw [hv] at hw
      cases hw
      cases qo : op xs ds with
      | none => rw [qo] at h1; exact h1.elim
      | some rr =>
        obtain ⟨d, ys⟩ := rr
        rw [qo] at h1
        refine p F1 H1 a us' vs xs ds d ys Q b.eo.sub l2 rl (b.ok.rep q2) qo fun v ws rv rw' => ?_
        obtain ⟨e2, f2⟩ := b.eo.write (o := .lst ws) (d' := .lst ys) q1 hv ⟨ws, rfl, rw'⟩
        exact h1 v _ F1 ⟨.refl _, e2, rv, trivial, f2, trivial⟩
    · exact h1.elim
  · exact h.elim
theorem me_mut (slot : Slot "list" name id) (hty : typeOf (.builtin id) = pure (.type "method_descriptor")) (hm : MtM X id r) (p : PrimM X.K r op) (ho : PE X o (tVar i)) (ha : MA X W (e :: es) fa)
    (hbase : attributeBase o name X.env (eval o X.env) = eval o X.env := by rfl)
    (hfew : ((backTo cpos (starEach (e :: es) X.env)).all (fun x => !x.1) && (backToKw cpos (keywordEach [] X.env)).all (fun x => x.1.isSome) && decide ((e :: es).length + ([] : List Keyword).length + (if ([] : List Keyword).isEmpty then 0 else 1) < 30)) = true := by rfl)
    (hline : (apos.endLine == cpos.line) = true := by rfl) (hs : starEach (e :: es) X.env = (false, eval e X.env) :: starEach es X.env := by rfl) (hplain : (backTo cpos (starEach es X.env)).any (·.1) = false := by rfl) :
    ME X W (.Call (.Attribute o name apos) (e :: es) [] cpos) (eMut op i fa) :=
  PE.imp (pe_bm PySem.F.plainAttrs_list slot hty hm ho ha hbase hfew hline hs hplain) fun _ _ _ h => by
    obtain ⟨v, h1, h2, h3⟩ := mut_core p h
    exact ⟨v, h1, h2, h3⟩
theorem me_mut0 (slot : Slot "list" name id) (hty : typeOf (.builtin id) = pure (.type "method_descriptor")) (hm : MtM X id r) (p : PrimM X.K r op) (ho : PE X o (tVar i))
    (hbase : attributeBase o name X.env (eval o X.env) = eval o X.env := by rfl) (hline : (apos.endLine == cpos.line) = true := by rfl) :
    ME X W (.Call (.Attribute o name apos) [] [] cpos) (eMut op i aNil) :=
  PE.imp (pe_bm0 PySem.F.plainAttrs_list slot hty hm ho hbase hline) fun _ _ _ h => by
    obtain ⟨v, h1, h2, F, ε, E0, h3⟩ := mut_core p h
    exact ⟨v, h1, h2, h3 [] _ F ⟨.refl _, E0, .nil, .refl, fun p v d z _ => by simp at z⟩⟩
end
def mAppend : List D → List D → Option (D × List D)
  | xs, [d] => if xs.length < sizeLine then some (.non, xs ++ [d]) else none
  | _, _ => none
def mPop0 : List D → List D → Option (D × List D)
  | xs, [] => (xs[xs.length - 1]?).map fun d => (d, xs.dropLast)
  | _, _ => none
def mPop : List D → List D → Option (D × List D)
  | xs, [.int i] => if -(2 ^ 63) ≤ i ∧ i < 2 ^ 63 then (seqIndex? i xs.length).bind fun k => (xs[k]?).map fun d => (d, xs.eraseIdx k) else none
  | _, _ => none
def mReverse : List D → List D → Option (D × List D)
  | xs, [] => some (.non, xs.reverse)
  | _, _ => none
def mClear : List D → List D → Option (D × List D)
  | _, [] => some (.non, [])
  | _, _ => none
theorem RepL.rev {K : PySem.W.Frag} {F : Hp} : ∀ {vs : List V} {ds : List D}, RepL K F vs ds → RepL K F vs.reverse ds.reverse
  | _, _, .nil => .nil
  | _, _, .cons h r => by
    rw [List.reverse_cons, List.reverse_cons]
    exact (RepL.rev r).app (.cons h .nil)
theorem RepL.erase {K : PySem.W.Frag} {F : Hp} : ∀ {vs : List V} {ds : List D} (k : Nat), RepL K F vs ds → RepL K F (vs.eraseIdx k) (ds.eraseIdx k)
  | _, _, _, .nil => .nil
  | _, _, 0, .cons _ r => r
  | _, _, k + 1, .cons h r => .cons h (RepL.erase k r)
theorem RepL.dlast {K : PySem.W.Frag} {F : Hp} {vs : List V} {ds : List D} (r : RepL K F vs ds) : RepL K F vs.dropLast ds.dropLast := by
  rw [List.dropLast_eq_take, List.dropLast_eq_take, r.len]
  exact r.taken _
section
variable {K : PySem.W.Frag}
theorem p_append : PrimM K rAppend mAppend := by
  intro F H a vs us xs ds d ys Q sm h1 rl ru e k
  cases ru with
  | nil => cases e
  | @cons u us' d0 ds' r0 rr =>
    cases rr with
    | cons => cases e
    | nil =>
      simp only [mAppend] at e
      split at e
      · rename_i hz
        cases e
        exact ⟨a, vs, u, rfl, rfl, h1, by rw [rl.len]; exact hz, k _ _ .non (rl.app (.cons r0 .nil))⟩
      · cases e
theorem p_pop0 : PrimM K rPop mPop0 := by
  intro F H a vs us xs ds d ys Q sm h1 rl ru e k
  cases ru with
  | nil =>
    simp only [mPop0, Option.map_eq_some_iff] at e
    obtain ⟨d0, e1, e2⟩ := e
    cases e2
    rw [← rl.len] at e1
    obtain ⟨v, hv, rv⟩ := rl.at e1
    exact ⟨a, vs, v, rfl, rfl, h1, hv, k _ _ rv rl.dlast⟩
  | cons => cases e
theorem p_pop : PrimM K rPopAt mPop := by
  intro F H a vs us xs ds d ys Q sm h1 rl ru e k
  cases ru with
  | nil => cases e
  | @cons u us' d0 ds' r0 rr =>
    cases rr with
    | cons => cases d0 <;> cases e
    | nil =>
      cases d0 with
      | int i =>
        simp only [mPop] at e
        split at e
        · rename_i hz
          simp only [Option.bind_eq_some_iff, Option.map_eq_some_iff] at e
          obtain ⟨j, e1, d1, e2, e3⟩ := e
          cases e3
          cases r0
          obtain ⟨v, hv, rv⟩ := rl.at e2
          exact ⟨a, vs, i, j, v, rfl, rfl, h1, hz.1, hz.2, by rw [rl.len]; exact e1, hv, k _ _ rv (rl.erase j)⟩
        · cases e
      | _ => cases e
theorem p_reverse : PrimM K rReverse mReverse := by
  intro F H a vs us xs ds d ys Q sm h1 rl ru e k
  cases ru with
  | nil => cases e; exact ⟨a, vs, rfl, rfl, h1, k _ _ .non rl.rev⟩
  | cons => cases e
theorem p_clear : PrimM K rClear mClear := by
  intro F H a vs us xs ds d ys Q sm h1 rl ru e k
  cases ru with
  | nil => cases e; exact ⟨a, vs, rfl, rfl, h1, k _ _ .non .nil⟩
  | cons => cases e
end

/-! ### x[k] = v, x an owned list -/
def gIx (i : Nat) (fk : FE) : FG := fun d ε => match ε[i]? with
  | some (.ow (.lst _)) => (match fk ε with
    | some (.v (.fz (.int k)) ε1) => (match ε1[i]? with
      | some (.ow (.lst xs)) => (match ixN xs.length k with
        | some j => some (ε1.set i (.ow (.lst (xs.set j d))))
        | none => none)
      | _ => none)
    | _ => none)
  | _ => none
theorem mg_ix {X : Cx} {o k : Expr} {i : Nat} {fk : FE} {pos : Pos} (ho : PE X o (tVar i)) (hk : ME X W0 k fk)
    (ha : ∀ v, assign (.Subscript o k pos) X.env v = (do
      let ov ← holding [v] (eval o X.env)
      let iv ← holding [v, ov] (eval k X.env)
      standAt pos
      holding [v, ov, iv] (setItem ov iv v)
      release [v, ov, iv] []) := by intro _; rfl) : MG X [] (.Subscript o k pos) (gIx i fk) := by
  refine PG.imp (pg_sub ho hk set_list ha) fun v σ H Q ⟨F, ε, d, ε', E0, r, e, kk⟩ => ?_
  unfold gIx at e
  split at e
  · rename_i xs0 q0
    obtain ⟨w, hw, _⟩ := E0.val i _ q0 (by simp)
    refine ⟨w, hw, F, ε, E0, ?_⟩
    split at e
    · rename_i n ε1 qf
      rw [qf]
      intro vi H1 F1 a1
      split at e
      · rename_i xs q1
        split at e
        · rename_i j hj
          cases e
          obtain ⟨w', hw', a, o, rfl, l1, l2, us, rfl, rl⟩ := a1.eo.val i _ q1 (by simp)
          cases a1.rs
          rw [hw'] at hw
          cases hw
          obtain ⟨e2, f2⟩ := a1.eo.write (o := .lst (us.set j v)) (d' := .lst (xs.set j d)) q1 hw' ⟨_, rfl, rl.put (r.up a1.fs) j⟩
          exact ⟨a, us, n, j, rfl, rfl, l2, by rw [rl.len]; exact hj, kk σ _ F1 a1.fs e2 .refl (a1.fr.trans f2)⟩
        · cases e
      · cases e
    · cases e
  · cases e

/-! ### target = value, any target -/
def sAsg (g : FG) (f : FE) : FS := fun ε => match f ε with
  | some (.v (.fz d) ε1) => (match g d ε1 with
    | some ε2 => some (.nx ε2)
    | none => none)
  | some (.v (.ow d) ε1) => (match g d ε1 with
    | some ε2 => some (.nx ε2)
    | none => none)
  | some (.x c gs ε1) => some (.ex c gs ε1)
  | _ => none
theorem ms_asg {X : Cx} {W : WX} {np : Nat} {ts : List Nat} {tg e : Expr} {g : FG} {f : FE} {pos : Pos} (h : ME X W e f) (hg : MG X ts tg g) (hts : ts.all (fun i => decide (np ≤ i)) = true := by rfl) (hs : swapsWithSole [tg] e pos.line X.env = pure false := by rfl) (hw : swappedStores [tg] e X.env = pure none := by rfl)
    (h1 : (assignEach [tg] X.env).map (·.2) = [assign tg X.env] := by rfl) : MS X W np (.Assign [tg] e pos) (sAsg g f) := by
  refine PS.imp (ps_asg h hg hs hw h1) fun Z σ H ⟨F, ε, E0, h⟩ => ⟨F, ε, E0, ?_⟩
  unfold sAsg at h
  cases q : f ε with
  | none => rw [q] at h; exact h.elim
  | some r =>
    rw [q] at h
    cases r with
    | x c gs ε1 => exact DoS.exx h
    | v s ε1 =>
      intro v H1 F1 a
      have fin : ∀ d, (s = .fz d ∨ s = .ow d) → DoS X.K W np σ ε F H (match g d ε1 with
        | some ε2 => some (.nx ε2)
        | none => none) Z → tMG X.K ts g v σ H1 Z.nx := fun d hd h => by
        obtain ⟨F2, a2⟩ := a.data hd
        cases qg : g d ε1 with
        | none => rw [qg] at h; exact h.elim
        | some ε2 =>
          rw [qg] at h
          exact ⟨F2, ε1, d, ε2, a2.eo, a2.rp, qg, fun σ3 H3 F3 s3 e3 k3 f3 => h σ3 H3 F3 (a2.fs.trans s3) e3 (k3.p hts) (a2.fr.trans f3)⟩
      cases s with
      | un => exact h.elim
      | fz d => exact fin d (.inl rfl) h
      | ow d => exact fin d (.inr rfl) h

/-! ### a, b, .. = e1, e2, .. : values that keep what they own -/
abbrev FK := En → Option (R (List Sl))
/-- values that no slot owns, and no two the same -/
inductive Tmps (K : PySem.W.Frag) (σ : St) (ε : En) (F H : Hp) : List V → List Sl → Prop
  | nil : Tmps K σ ε F H [] []
  | cons {v : V} {s : Sl} {vs : List V} {ss : List Sl} : RepS K F H v s → Apart σ ε v s → (∀ (d d' : D) (p : Nat), s = .ow d → vs[p]? = some v → ss[p]? ≠ some (.ow d')) → Tmps K σ ε F H vs ss → Tmps K σ ε F H (v :: vs) (s :: ss)
structure AftK (K : PySem.W.Frag) (σ : St) (ε : En) (F H F' H' : Hp) (ε' : En) (vs : List V) (ss : List Sl) : Prop where
  fs : Same F F'
  eo : EOk K F' H' σ ε'
  tm : Tmps K σ ε' F' H' vs ss
  fr : Frm σ ε F H σ ε' F' H'
  mi : ∀ (p : Nat) (v : V) (s : Sl), vs[p]? = some v → ss[p]? = some s → Mine σ ε F H v s
def DoK (K : PySem.W.Frag) (W : WX) (σ : St) (ε : En) (F H : Hp) (r : Option (R (List Sl))) (Q : List V → Hp → Prop) : Prop := match r with
  | none => False
  | some (.v ss ε') => ∀ vs H' F', AftK K σ ε F H F' H' ε' vs ss → Q vs H'
  | some (.x c gs ε') => ∀ d H' F', AftX K σ ε F H F' H' ε' d gs → W (.ref (He.ga K c)) (some d) σ H'
def tMK (K : PySem.W.Frag) (W : WX) (f : FK) : TA := fun σ H Q => ∃ F ε, EOk K F H σ ε ∧ DoK K W σ ε F H (f ε) Q
abbrev MK (X : Cx) (W : WX) (es : List Expr) (f : FK) : Prop := PA X es (tMK X.K W f)
def kNil : FK := fun ε => some (.v [] ε)
def kCons (f : FE) (g : FK) : FK := fun ε => bnd (f ε) fun s ε1 => bnd (g ε1) fun ss ε2 => some (.v (s :: ss) ε2)
theorem DoK.sub {K : PySem.W.Frag} {W : WX} {σ : St} {ε ε1 : En} {F H F1 H1 : Hp} {r : Option (R (List Sl))} {Q : List V → Hp → Prop} (h : DoK K W σ ε F H r Q) (s : Same F F1) (fr : Frm σ ε F H σ ε1 F1 H1) : DoK K W σ ε1 F1 H1 r Q := by
  cases r with
  | none => exact h
  | some q =>
    cases q with
    | v ss ε2 => exact fun vs H2 F2 a => h vs H2 F2 ⟨s.trans a.fs, a.eo, a.tm, fr.trans a.fr, fun p v d h1 h2 => (a.mi p v d h1 h2).pre fr⟩
    | x c gs ε2 => exact fun d H2 F2 a2 => h d H2 F2 (a2.then s fr)
section
variable {X : Cx} {W : WX} {es : List Expr} {e : Expr}
theorem mk_nil : MK X W [] kNil := PA.imp pa_nil fun σ H Q ⟨F, ε, E0, h⟩ => h [] H F ⟨.refl _, E0, .nil, .refl, fun p v d h1 _ => by simp at h1⟩
theorem DoK.bindS {K : PySem.W.Frag} {σ : St} {ε : En} {F H : Hp} {r : Option (R Sl)} {k : Sl → En → Option (R (List Sl))} {Q : List V → Hp → Prop} {G : VK} (h : DoK K W σ ε F H (bnd r k) Q)
    (g : ∀ s ε1 v H1 F1, Aft K σ ε F H F1 H1 ε1 v s → DoK K W σ ε F H (k s ε1) Q → G v H1) : Do K W σ ε F H r G := by
  cases r with
  | none => exact h
  | some r =>
    cases r with
    | x c fs ε1 => exact h
    | v s ε1 => exact fun v H1 F1 a => g s ε1 v H1 F1 a h
theorem DoK.bind {K : PySem.W.Frag} {σ : St} {ε ε1 : En} {F H F1 H1 : Hp} {r : Option (R (List Sl))} {k : List Sl → En → Option (R (List Sl))} {Q G : List V → Hp → Prop} (h : DoK K W σ ε F H (bnd r k) Q) (s : Same F F1) (fr : Frm σ ε F H σ ε1 F1 H1)
    (g : ∀ ss ε2 vs H2 F2, AftK K σ ε1 F1 H1 F2 H2 ε2 vs ss → DoK K W σ ε F H (k ss ε2) Q → G vs H2) : DoK K W σ ε1 F1 H1 r G := by
  cases r with
  | none => exact h
  | some r =>
    cases r with
    | x c fs ε1 => exact fun d H2 F2 a => h d H2 F2 (a.then s fr)
    | v b ε1 => exact fun vs H1 F1 a => g b ε1 vs H1 F1 a h
/-- an owned value behind another reckoning -/
theorem Aft.oth {K : PySem.W.Frag} {σ : St} {ε : En} {F H F' H' : Hp} {ε' : En} {v : V} {d : D} (a : Aft K σ ε F H F' H' ε' v (.ow d)) : ∃ b o, v = .ref b ∧ Oth σ ε' F' H' b o ∧ Top K F' o d := by
  obtain ⟨b, o, rfl, h1, h2, t⟩ := a.rs
  exact ⟨b, o, rfl, ⟨h1, h2, t.own, fun i x q => a.ap i x q⟩, t⟩
theorem mk_cons {f : FE} {g : FK} (h : ME X W e f) (h2 : MK X W es g) (hs : starEach (e :: es) X.env = (false, eval e X.env) :: starEach es X.env := by rfl) : MK X W (e :: es) (kCons f g) := by
  refine PA.imp (pa_cons h h2 hs) fun σ H Q ⟨F, ε, E0, h⟩ => ⟨F, ε, E0, DoK.bindS h fun s ε1 v H1 F1 a h1 => ⟨F1, ε1, a.eo, DoK.bind h1 a.fs a.fr fun ss ε2 vs H2 F2 b h2 => ?_⟩⟩
  have key : RepS X.K F2 H2 v s ∧ Apart σ ε2 v s ∧ ∀ (d d' : D) (p : Nat), s = .ow d → vs[p]? = some v → ss[p]? ≠ some (.ow d') := by
    cases s with
    | un => exact a.rs.elim
    | fz d => exact ⟨Rep.up b.fs a.rs, trivial, fun _ _ _ z => by cases z⟩
    | ow d =>
      obtain ⟨c, o, rfl, oc, t⟩ := a.oth
      have z := b.fr c o oc
      exact ⟨⟨c, o, rfl, z.nf, z.at_, t.up b.fs⟩, fun i x q => z.no i x q, fun _ d' p _ q1 q2 => b.mi p _ _ q1 q2 c o oc rfl⟩
  refine h2 (v :: vs) H2 F2 ⟨a.fs.trans b.fs, b.eo, .cons key.1 key.2.1 key.2.2 b.tm, a.fr.trans b.fr, fun p u s' q1 q2 => ?_⟩
  cases p with
  | zero => simp at q1 q2; subst q1; subst q2; exact a.mi
  | succ p => exact (b.mi p u s' (by simpa using q1) (by simpa using q2)).pre a.fr
end
def setE : En → List Nat → List Sl → En
  | ε, i :: is, s :: ss => setE (ε.set i s) is ss
  | ε, _, _ => ε
def setS : St → List Nat → List V → St
  | σ, i :: is, v :: vs => setS (σ.set i (some v)) is vs
  | σ, _, _ => σ
/-- all are stored -/
theorem Tmps.put {K : PySem.W.Frag} {F H : Hp} : ∀ {is : List Nat} {vs : List V} {ss : List Sl} {σ : St} {ε : En}, EOk K F H σ ε → Tmps K σ ε F H vs ss → EOk K F H (setS σ is vs) (setE ε is ss)
  | [], _, _, _, _, e, _ => by cases ‹Tmps ..› <;> exact e
  | _ :: _, _, _, _, _, e, .nil => e
  | i :: is, _, _, σ, ε, e, .cons (v := v) (s := s) r ap df t => by
    have e2 := e.put (i := i) r ap
    refine Tmps.put (is := is) e2 ?_
    clear r
    have step : ∀ {ws : List V} {ts : List Sl}, Tmps K σ ε F H ws ts → (∀ (d d' : D) (p : Nat), s = .ow d → ws[p]? = some v → ts[p]? ≠ some (.ow d')) → Tmps K (σ.set i (some v)) (ε.set i s) F H ws ts := by
      intro ws ts tt
      induction tt with
      | nil => exact fun _ => .nil
      | @cons w u ws ts r' ap' df' tt ih =>
        intro dd
        refine .cons r' ?_ df' (ih fun d d' p e1 e2 => by simpa using dd d d' (p + 1) e1 (by simpa using e2))
        cases u with
        | ow x =>
          intro j y hj hv
          by_cases hji : j = i
          · subst hji
            have l := (List.getElem?_eq_some_iff.mp hj).1
            rw [List.length_set] at l
            rw [List.getElem?_set_self l] at hj
            rw [List.getElem?_set_self (by rw [e.len]; exact l)] at hv
            have hv := Option.some.inj (Option.some.inj hv)
            subst hv
            exact dd y x 0 (Option.some.inj hj) rfl rfl
          · rw [List.getElem?_set_ne (Ne.symm hji)] at hj hv
            exact ap' j y hj hv
        | _ => exact trivial
    exact step t df
theorem setS_keep {np : Nat} : ∀ {is : List Nat} {vs : List V} {σ : St}, is.all (fun i => decide (np ≤ i)) = true → KeepP np σ (setS σ is vs)
  | [], _, _, _ => .refl
  | _ :: _, [], _, _ => .refl
  | i :: is, v :: vs, σ, h => by
    simp only [List.all_cons, Bool.and_eq_true, decide_eq_true_eq] at h
    exact (keep_set h.1).trans (setS_keep (is := is) (by simpa using h.2))
theorem Tmps.len {K : PySem.W.Frag} {σ : St} {ε : En} {F H : Hp} : ∀ {vs : List V} {ss : List Sl}, Tmps K σ ε F H vs ss → vs.length = ss.length
  | _, _, .nil => rfl
  | _, _, .cons _ _ _ t => by simp [t.len]
theorem frm_put {F0 H0 F H : Hp} {σ0 : St} {ε0 : En} : ∀ {is : List Nat} {vs : List V} {ss : List Sl} {σ : St} {ε : En}, vs.length = ss.length → σ.length = ε.length → (∀ (p : Nat) (v : V) (s : Sl), vs[p]? = some v → ss[p]? = some s → Mine σ0 ε0 F0 H0 v s) → Frm σ0 ε0 F0 H0 σ ε F H → Frm σ0 ε0 F0 H0 (setS σ is vs) (setE ε is ss) F H
  | [], _, [], _, _, _, _, _, f => f
  | [], _, _ :: _, _, _, _, _, _, f => f
  | _ :: _, [], [], _, _, _, _, _, f => f
  | i :: is, v :: vs, s :: ss, σ, ε, ll, hl, mi, f => by
    refine frm_put (is := is) (by simpa using ll) (by simp [hl]) (fun p u s' h1 h2 => mi (p + 1) u s' (by simpa using h1) (by simpa using h2)) fun c o oc => ?_
    have z := f c o oc
    refine ⟨z.nf, z.at_, z.kd, fun j d hj hv => ?_⟩
    by_cases hji : j = i
    · subst hji
      have l := (List.getElem?_eq_some_iff.mp hj).1
      rw [List.length_set] at l
      rw [List.getElem?_set_self l] at hj
      cases hj
      rw [List.getElem?_set_self (by rw [hl]; exact l)] at hv
      exact mi 0 v _ rfl rfl c o oc (Option.some.inj (Option.some.inj hv))
    · rw [List.getElem?_set_ne (Ne.symm hji)] at hj hv
      exact z.no j d hj hv
def sPar (is : List Nat) (f : FK) : FS := fun ε => match f ε with
  | some (.v ss ε1) => if ss.length = is.length then some (.nx (setE ε1 is ss)) else none
  | some (.x c gs ε1) => some (.ex c gs ε1)
  | none => none
/-- behind the values: the slots hold them, whatever loose thing was laid -/
theorem par_core {K : PySem.W.Frag} {W : WX} {np : Nat} {is : List Nat} {f : FK} {Z : Ends} {σ : St} {H : Hp} (hn : is.all (fun i => decide (np ≤ i)) = true) (h : sM K W np (sPar is f) Z σ H) :
    tMK K W f σ H fun vs H1 => vs.length = is.length ∧ Z.nx (setS σ is vs) H1 ∧ ∀ p o, H1 p = none → Z.nx (setS σ is vs) (upd H1 p o) := by
  obtain ⟨F, ε, E0, h⟩ := h
  refine ⟨F, ε, E0, ?_⟩
  unfold sPar at h
  cases q : f ε with
  | none => rw [q] at h; exact h
  | some r =>
    rw [q] at h
    cases r with
    | x c gs ε1 => exact DoS.exx h
    | v ss ε1 =>
      intro vs H1 F1 a
      have h : DoS K W np σ ε F H (if ss.length = is.length then some (.nx (setE ε1 is ss)) else none) Z := h
      split at h
      · rename_i hl
        refine ⟨by rw [a.tm.len]; exact hl, h _ H1 F1 a.fs (a.tm.put a.eo) (setS_keep hn) (frm_put a.tm.len a.eo.len a.mi a.fr), fun p o hp => ?_⟩
        have g : Gr F1 H1 F1 (upd H1 p o) := Gr.loose a.eo.sub hp
        exact h _ _ F1 a.fs ((a.tm.put a.eo).grow g) (setS_keep hn) ((frm_put a.tm.len a.eo.len a.mi a.fr).trans g.frm)
      · exact h.elim
section
variable {X : Cx} {W : WX} {np : Nat} {i j l : Nat} {x y z : Str} {a b c : Expr} {f : FK} {px py pz pt pos : Pos} {kt k2 : Nat} {pt2 : Pos}
theorem ms_par (hc : X.calm = true) (hN : X.N.Nodup) (hi : X.N[i]? = some x) (hj : X.N[j]? = some y) (hij : i ≠ j) (hx : X.env.scope.names.lookup x = some .local) (hy : X.env.scope.names.lookup y = some .local) (ha : MK X W [a, b] f)
    (hw : swappedStores [.Tuple [.Name x px, .Name y py] kt pt] (.Tuple [a, b] k2 pt2) X.env = pure (some [x, y])) (hnp : [i, j].all (fun i => decide (np ≤ i)) = true := by rfl)
    (hs : swapsWithSole [.Tuple [.Name x px, .Name y py] kt pt] (.Tuple [a, b] k2 pt2) pos.line X.env = pure false := by rfl) :
    MS X W np (.Assign [.Tuple [.Name x px, .Name y py] kt pt] (.Tuple [a, b] k2 pt2) pos) (sPar [i, j] f) := by
  refine PS.imp (ps_par hc hN hi hj hij hx hy ha hw hs) fun Z σ H h => ?_
  obtain ⟨F, ε, E0, h⟩ := par_core hnp h
  refine ⟨F, ε, E0, ?_⟩
  revert h
  cases f ε with
  | none => exact fun h => h
  | some r =>
    cases r with
    | x c gs ε1 => exact fun h => h
    | v ss ε1 =>
      intro h vs H1 F1 a
      obtain ⟨h1, h2, _⟩ := h vs H1 F1 a
      match vs, h1, h2 with
      | [v, w], _, h2 => exact ⟨v, w, rfl, h2⟩
theorem ms_par3 (hc : X.calm = true) (hN : X.N.Nodup) (hi : X.N[i]? = some x) (hj : X.N[j]? = some y) (hl : X.N[l]? = some z) (hij : i ≠ j) (hil : i ≠ l) (hjl : j ≠ l) (hx : X.env.scope.names.lookup x = some .local) (hy : X.env.scope.names.lookup y = some .local) (hz : X.env.scope.names.lookup z = some .local)
    (ha : MK X W [a, b, c] f) (hw : swappedStores [.Tuple [.Name x px, .Name y py, .Name z pz] kt pt] (.Tuple [a, b, c] k2 pt2) X.env = pure (some [x, y, z])) (hnp : [i, j, l].all (fun i => decide (np ≤ i)) = true := by rfl)
    (hs : swapsWithSole [.Tuple [.Name x px, .Name y py, .Name z pz] kt pt] (.Tuple [a, b, c] k2 pt2) pos.line X.env = pure false := by rfl) :
    MS X W np (.Assign [.Tuple [.Name x px, .Name y py, .Name z pz] kt pt] (.Tuple [a, b, c] k2 pt2) pos) (sPar [i, j, l] f) := by
  refine PS.imp (ps_par3 hc hN hi hj hl hij hil hjl hx hy hz ha hw hs) fun Z σ H h => ?_
  obtain ⟨F, ε, E0, h⟩ := par_core hnp h
  refine ⟨F, ε, E0, ?_⟩
  revert h
  cases f ε with
  | none => exact fun h => h
  | some r =>
    cases r with
    | x c gs ε1 => exact fun h => h
    | v ss ε1 =>
      intro h vs H1 F1 a
      obtain ⟨h1, h2, _⟩ := h vs H1 F1 a
      match vs, h1, h2 with
      | [u, v, w], _, h2 => exact ⟨u, v, w, rfl, h2⟩
/-- names, each where it stands -/
inductive Nms (X : Cx) : List Expr → List Nat → Prop
  | nil : Nms X [] []
  | cons {e : Expr} {es : List Expr} {i : Nat} {is : List Nat} : PG X e (L2.gName i) → (assignEach (e :: es) X.env).map (·.2) = assign e X.env :: (assignEach es X.env).map (·.2) → Nms X es is → Nms X (e :: es) (i :: is)
def gNms (is : List Nat) : TGs := fun vs σ H Q => vs.length = is.length ∧ Q (setS σ is vs) H
theorem Nms.pgs : ∀ {es : List Expr} {is : List Nat}, Nms X es is → PGs X es (gNms is)
  | _, _, .nil => PGs.imp pgs_nil fun vs σ H Q h => by
    obtain ⟨h1, h2⟩ := h
    match vs, h1, h2 with
    | [], _, h2 => exact ⟨rfl, h2⟩
  | _, _, .cons hp hz r => PGs.imp (pgs_cons hp r.pgs hz) fun vs σ H Q h => by
    obtain ⟨h1, h2⟩ := h
    match vs, h1, h2 with
    | v :: vs, h1, h2 => exact ⟨v, vs, rfl, by simpa using h1, h2⟩
/-- through a tuple (some name is a cell) -/
theorem ms_parT {es fs : List Expr} {is : List Nat} (hc : X.calm = true) (ha : MK X W fs f) (hg : Nms X es is) (hn : (assignEach es X.env).length = is.length := by rfl) (hst : (assignEach es X.env).findIdx? (·.1) = none := by rfl) (hz : is.length ≤ sizeLine := by decide)
    (hnp : is.all (fun i => decide (np ≤ i)) = true := by rfl) (hs : swapsWithSole [.Tuple es kt pt] (.Tuple fs k2 pt2) pos.line X.env = pure false := by rfl) (hw : swappedStores [.Tuple es kt pt] (.Tuple fs k2 pt2) X.env = pure none := by rfl)
    (h1 : (assignEach [.Tuple es kt pt] X.env).map (·.2) = [assign (.Tuple es kt pt) X.env] := by rfl) : MS X W np (.Assign [.Tuple es kt pt] (.Tuple fs k2 pt2) pos) (sPar is f) := by
  refine PS.imp (ps_asg (pe_tup ha) (pg_tup hc hg.pgs hn hst) hs hw h1) fun Z σ H h => ?_
  obtain ⟨F, ε, E0, h⟩ := par_core hnp h
  refine ⟨F, ε, E0, ?_⟩
  revert h
  cases f ε with
  | none => exact fun h => h
  | some r =>
    cases r with
    | x c gs ε1 => exact fun h => h
    | v ss ε1 =>
      intro h vs H1 F1 a
      obtain ⟨h1, _, h3⟩ := h vs H1 F1 a
      exact ⟨by rw [h1]; exact hz, fun p hp => ⟨p, vs, rfl, SqT.of upd_same, h1, h1, h3 p _ hp⟩⟩
end
end Mi

namespace Mi
open PySem PySem.Spec PyProof.Rows L2

/-! ### slices -/
def cutD {α : Type} (xs : List α) (lo hi : Option Int) : List α := (xs.drop (HT.sIx xs.length 0 lo)).take (HT.sIx xs.length xs.length hi - HT.sIx xs.length 0 lo)
theorem RepL.cut {K : PySem.W.Frag} {F : Hp} {vs : List V} {ds : List D} (r : RepL K F vs ds) (lo hi : Option Int) : RepL K F (cutV vs lo hi) (cutD ds lo hi) := by
  unfold cutV cutD
  rw [r.len]
  exact (r.dropped _).taken _
theorem cutD_whole {α : Type} {xs : List α} {lo hi : Option Int} (h : HT.sIx xs.length 0 lo = 0 ∧ HT.sIx xs.length xs.length hi = xs.length) : cutD xs lo hi = xs := by
  unfold cutD
  rw [h.1, h.2]
  simp
def oSl (x : D) (lo hi : Option Int) : Option Sl := match x with
  | .lst ds => some (.ow (.lst (cutD ds lo hi)))
  | .tup ds => some (.fz (.tup (cutD ds lo hi)))
  | .str z => if z.length ≤ sizeLine then some (.fz (.str (cutS z lo hi))) else none
  | _ => none
/-- a part that is left out, or an int -/
abbrev FO := En → Option (R (Option Int))
def fNo : FO := fun ε => some (.v none ε)
def fPart (f : FE) : FO := fun ε => bf (f ε) fun d ε1 => match d with
  | .int i => some (.v (some i) ε1)
  | _ => none
def DoO (K : PySem.W.Frag) (W : WX) (σ : St) (ε : En) (F H : Hp) (r : Option (R (Option Int))) (Q : Option Int → Hp → Prop) : Prop := match r with
  | none => False
  | some (.v o ε') => ∀ H' F', Same F F' → EOk K F' H' σ ε' → Frm σ ε F H σ ε' F' H' → Q o H'
  | some (.x c gs ε') => ∀ d H' F', AftX K σ ε F H F' H' ε' d gs → W (.ref (He.ga K c)) (some d) σ H'
def tMO (K : PySem.W.Frag) (W : WX) (f : FO) : TO := fun σ H Q => ∃ F ε, EOk K F H σ ε ∧ DoO K W σ ε F H (f ε) Q
theorem DoO.sub {K : PySem.W.Frag} {W : WX} {σ : St} {ε ε1 : En} {F H F1 H1 : Hp} {r : Option (R (Option Int))} {Q : Option Int → Hp → Prop} (h : DoO K W σ ε F H r Q) (s : Same F F1) (fr : Frm σ ε F H σ ε1 F1 H1) : DoO K W σ ε1 F1 H1 r Q := by
  cases r with
  | none => exact h
  | some q =>
    cases q with
    | v b ε2 => exact fun H2 F2 a2 e2 c => h H2 F2 (s.trans a2) e2 (fr.trans c)
    | x c gs ε2 => exact fun d H2 F2 a2 => h d H2 F2 (a2.then s fr)
theorem PO.imp {X : Cx} {e : Option Expr} {t t' : TO} (h : PO X e t) (i : ∀ σ H Q, t' σ H Q → t σ H Q) : PO X e t' := ⟨fun pins s σ H Q I q => h.run pins s σ H Q I (i σ H Q q)⟩
section
variable {X : Cx} {W : WX} {e : Expr}
theorem mo_no : PO X none (tMO X.K W fNo) := PO.imp po_none fun σ H Q ⟨F, ε, E0, h⟩ => h H F (.refl _) E0 .refl
theorem DoO.bindF {K : PySem.W.Frag} {σ : St} {ε : En} {F H : Hp} {r : Option (R Sl)} {k : D → En → Option (R (Option Int))} {Q : Option Int → Hp → Prop} {G : VK} (h : DoO K W σ ε F H (bf r k) Q)
    (g : ∀ d ε1 v H1 F1, AftD K σ ε F H F1 H1 ε1 v d → DoO K W σ ε1 F1 H1 (k d ε1) Q → G v H1) : Do K W σ ε F H r G := by
  cases r with
  | none => exact h
  | some r =>
    cases r with
    | x c fs ε1 => exact h
    | v s ε1 =>
      intro v H1 F1 a
      cases s with
      | un => exact a.rs.elim
      | fz d =>
        obtain ⟨F2, a2⟩ := a.data (.inl rfl)
        exact g (wk d) ε1 v H1 F2 a2.wk (DoO.sub (show DoO K W σ ε F H (k (wk d) ε1) Q from h) a2.fs a2.fr)
      | ow d =>
        obtain ⟨F2, a2⟩ := a.data (.inr rfl)
        exact g d ε1 v H1 F2 a2 (DoO.sub (show DoO K W σ ε F H (k d ε1) Q from h) a2.fs a2.fr)
theorem mo_part {f : FE} (h : ME X W e f) : PO X (some e) (tMO X.K W (fPart f)) := by
  refine PO.imp (po_some h) fun σ H Q ⟨F, ε, E0, h⟩ => ⟨F, ε, E0, DoO.bindF h fun d ε1 v H1 F1 a h1 => ?_⟩
  cases d with
  | int i => cases a.rp; exact ⟨i, rfl, h1 H1 F1 (.refl _) a.eo .refl⟩
  | _ => exact h1.elim
end
def eSl (fa : FE) (fl fh : FO) : FE := fun ε => bf (fa ε) fun x ε1 => bnd (fl ε1) fun lo ε2 => bnd (fh ε2) fun hi ε3 => ret (oSl x lo hi) ε3
theorem DoO.bindE {K : PySem.W.Frag} {W : WX} {σ : St} {ε : En} {F H : Hp} {r : Option (R (Option Int))} {k : Option Int → En → Option (R Sl)} {Q : VK} {G : Option Int → Hp → Prop} (h : Do K W σ ε F H (bnd r k) Q)
    (g : ∀ o ε1 H1 F1, Same F F1 → EOk K F1 H1 σ ε1 → Do K W σ ε1 F1 H1 (k o ε1) Q → G o H1) : DoO K W σ ε F H r G := by
  cases r with
  | none => exact h
  | some r =>
    cases r with
    | x c fs ε1 => exact h
    | v b ε1 => exact fun H1 F1 s e fr => g b ε1 H1 F1 s e (Do.sub (show Do K W σ ε F H (k b ε1) Q from h) s fr)
def rSlAll (K : PySem.W.Frag) : V → Option Int → Option Int → Hp → VK → Prop := fun x lo hi H Q => rSlL K x lo hi H Q ∨ rSlA K x lo hi H Q ∨ rSlS x lo hi H Q
theorem me_sl {X : Cx} {W : WX} {e : Expr} {lo hi : Option Expr} {fa : FE} {fl fh : FO} {p2 pos : Pos} (he : ME X W e fa) (hl : PO X lo (tMO X.K W fl)) (hu : PO X hi (tMO X.K W fh)) : ME X W (.Subscript e (.Slice lo hi none p2) pos) (eSl fa fl fh) := by
  refine PE.imp (pe_slice (r := rSlAll X.K) (sl_list.or (sl_tupA.or sl_str)) he hl hu) fun σ H Q ⟨F, ε, E0, h⟩ => ⟨F, ε, E0, Do.bindF h fun x ε1 v H1 F1 a h1 => ⟨F1, ε1, a.eo, DoO.bindE h1 fun lo ε2 H2 F2 s2 e2 h2 => ⟨F2, ε2, e2, DoO.bindE h2 fun hi ε3 H3 F3 s3 e3 h3 => ?_⟩⟩⟩
  obtain ⟨s, e, h4⟩ := ret_do h3
  have g := h4.gives e3
  have rp := (a.rp.up s2).up s3
  cases x with
  | lst ds =>
    cases e
    cases rp with
    | lst k1 rl => exact .inl ⟨_, _, rfl, SqL.of (e3.sub _ _ k1), fun p hp => g.newO e3.sub hp ⟨_, rfl, rl.cut lo hi⟩⟩
  | tup ds =>
    cases e
    cases rp with
    | tup k1 rl =>
      refine .inr (.inl ⟨_, _, rfl, sqT_up e3.sub k1, fun hw => ?_, fun hw p hp => g.new e3.sub hp fun F' s' h' => .tup (SqT.of h') ((rl.cut lo hi).up s')⟩)
      rw [rl.len] at hw
      rw [cutD_whole hw] at g
      exact g.same e3.sub (.tup k1 rl)
  | str z =>
    simp only [oSl] at e
    split at e
    · rename_i hz
      cases e
      cases rp
      exact .inr (.inr ⟨z, rfl, hz, g.same e3.sub (.str _)⟩)
    · cases e
  | _ => cases e

/-! ### sep.join(xs) -/
def txts : List D → Option (List Str)
  | [] => some []
  | .str x :: ds => (txts ds).map (x :: ·)
  | _ => none
theorem txts_ok {K : PySem.W.Frag} {F : Hp} : ∀ {vs : List V} {ds : List D} {xs : List Str}, RepL K F vs ds → txts ds = some xs → vs = xs.map V.str
  | _, _, _, .nil, h => by cases h; rfl
  | _, _, _, .cons (d := d) (ds := ds) r rr, h => by
    cases d with
    | str b =>
      simp only [txts, Option.map_eq_some_iff] at h
      obtain ⟨bs, h1, rfl⟩ := h
      cases r
      rw [txts_ok rr h1]
      rfl
    | _ => cases h
def joinD (a : Str) (ds : List D) : Option Sl := (txts ds).bind fun ys => if (ys.map (·.length)).sum + ys.length * a.length ≤ 16777216 then some (.fz (.str (Txt.join a ys))) else none
def oJoin : D → D → Option Sl
  | .str a, .lst ds => joinD a ds
  | .str a, .tup ds => joinD a ds
  | _, _ => none
def eStr1 (op : D → D → Option Sl) (fa fb : FE) : FE := fun ε => bf (fa ε) fun x ε1 => match x with
  | .str a => bf (fb ε1) fun y ε2 => ret (op (.str a) y) ε2
  | _ => none
theorem me_join {X : Cx} {W : WX} {o e : Expr} {fo fe : FE} {apos pos : Pos} (ho : ME X W o fo) (he : ME X W e fe) (hs : starEach [e] X.env = [(false, eval e X.env)] := by rfl) (hbase : attributeBase o "join" X.env (eval o X.env) = eval o X.env := by rfl) (hline : (apos.endLine == pos.line) = true := by rfl) :
    ME X W (.Call (.Attribute o "join" apos) [e] [] pos) (eStr1 oJoin fo fe) := by
  refine PE.imp (pe_join ho he hs hbase hline) fun σ H Q ⟨F, ε, E0, h⟩ => ⟨F, ε, E0, Do.bindF h fun x ε1 v H1 F1 a h1 => ?_⟩
  cases x with
  | str a0 =>
    cases a.rp
    refine ⟨⟨a0, rfl⟩, F1, ε1, a.eo, Do.bindF h1 fun y ε2 u H2 F2 b h2 => ?_⟩
    obtain ⟨s, e, h3⟩ := ret_do h2
    have g := h3.gives b.eo
    have fin : ∀ (ds : List D) (p : Addr) (vs : List V), u = .ref p → (SqL X.K H2 p vs ∨ SqT X.K H2 p vs) → RepL X.K F2 vs ds → joinD a0 ds = some s → ∃ a p, ∃ ys : List Str, V.str a0 = .str a ∧ [u] = [.ref p] ∧ (SqL X.K H2 p (ys.map V.str) ∨ SqT X.K H2 p (ys.map V.str)) ∧ (ys.map (·.length)).sum + ys.length * a.length ≤ 16777216 ∧ Q (.str (Txt.join a ys)) H2 := by
      intro ds p vs e1 hq rl hj
      simp only [joinD, Option.bind_eq_some_iff] at hj
      obtain ⟨ys, hy, hj⟩ := hj
      split at hj
      · rename_i hz
        cases hj
        have := txts_ok rl hy
        subst this
        exact ⟨a0, p, ys, rfl, by rw [e1], hq, hz, g.same b.eo.sub (.str _)⟩
      · cases hj
    cases y with
    | lst ds =>
      cases b.rp with
      | lst k1 rl => exact fin ds _ _ rfl (.inl (SqL.of (b.eo.sub _ _ k1))) rl e
    | tup ds =>
      cases b.rp with
      | tup k1 rl => exact fin ds _ _ rfl (.inr (sqT_up b.eo.sub k1)) rl e
    | _ => cases e
  | _ => exact h1.elim

/-! ### {k: v, ..} -/
abbrev FP := En → Option (R (List (D × D)))
def pNil : FP := fun ε => some (.v [] ε)
def pCons (f g : FE) (r : FP) : FP := fun ε => bf (f ε) fun k ε1 => bf (g ε1) fun v ε2 => bnd (r ε2) fun ps ε3 => some (.v ((k, v) :: ps) ε3)
inductive RepP (K : PySem.W.Frag) (F : Hp) : List (V × V) → List (D × D) → Prop
  | nil : RepP K F [] []
  | cons {x y : V} {k d : D} {ps : List (V × V)} {ds : List (D × D)} : Rep K F x k → Rep K F y d → RepP K F ps ds → RepP K F ((x, y) :: ps) ((k, d) :: ds)
structure AftP (K : PySem.W.Frag) (σ : St) (ε : En) (F H F' H' : Hp) (ε' : En) (ps : List (V × V)) (ds : List (D × D)) : Prop where
  fs : Same F F'
  eo : EOk K F' H' σ ε'
  rp : RepP K F' ps ds
  fr : Frm σ ε F H σ ε' F' H'
def DoP (K : PySem.W.Frag) (W : WX) (σ : St) (ε : En) (F H : Hp) (r : Option (R (List (D × D)))) (Q : List (V × V) → Hp → Prop) : Prop := match r with
  | none => False
  | some (.v ds ε') => ∀ ps H' F', AftP K σ ε F H F' H' ε' ps ds → Q ps H'
  | some (.x c gs ε') => ∀ d H' F', AftX K σ ε F H F' H' ε' d gs → W (.ref (He.ga K c)) (some d) σ H'
def tMP (K : PySem.W.Frag) (W : WX) (f : FP) : St → Hp → (List (V × V) → Hp → Prop) → Prop := fun σ H Q => ∃ F ε, EOk K F H σ ε ∧ DoP K W σ ε F H (f ε) Q
structure MP (X : Cx) (W : WX) (pos : Pos) (ks : List (Option Expr)) (vs : List Expr) (f : FP) : Prop where
  ex : ∃ trs, PPs X pos ks vs trs ∧ ∀ σ H Q, tMP X.K W f σ H Q → tPairs trs σ H Q
theorem DoP.sub {K : PySem.W.Frag} {W : WX} {σ : St} {ε ε1 : En} {F H F1 H1 : Hp} {r : Option (R (List (D × D)))} {Q : List (V × V) → Hp → Prop} (h : DoP K W σ ε F H r Q) (s : Same F F1) (fr : Frm σ ε F H σ ε1 F1 H1) : DoP K W σ ε1 F1 H1 r Q := by
  cases r with
  | none => exact h
  | some q =>
    cases q with
    | v b ε2 => exact fun ps H2 F2 a => h ps H2 F2 ⟨s.trans a.fs, a.eo, a.rp, fr.trans a.fr⟩
    | x c gs ε2 => exact fun d H2 F2 a2 => h d H2 F2 (a2.then s fr)
theorem DoP.bindF {K : PySem.W.Frag} {W : WX} {σ : St} {ε : En} {F H : Hp} {r : Option (R Sl)} {k : D → En → Option (R (List (D × D)))} {Q : List (V × V) → Hp → Prop} {G : VK} (h : DoP K W σ ε F H (bf r k) Q)
    (g : ∀ d ε1 v H1 F1, AftD K σ ε F H F1 H1 ε1 v d → DoP K W σ ε1 F1 H1 (k d ε1) Q → G v H1) : Do K W σ ε F H r G := by
  cases r with
  | none => exact h
  | some r =>
    cases r with
    | x c fs ε1 => exact h
    | v s ε1 =>
      intro v H1 F1 a
      cases s with
      | un => exact a.rs.elim
      | fz d =>
        obtain ⟨F2, a2⟩ := a.data (.inl rfl)
        exact g (wk d) ε1 v H1 F2 a2.wk (DoP.sub (show DoP K W σ ε F H (k (wk d) ε1) Q from h) a2.fs a2.fr)
      | ow d =>
        obtain ⟨F2, a2⟩ := a.data (.inr rfl)
        exact g d ε1 v H1 F2 a2 (DoP.sub (show DoP K W σ ε F H (k d ε1) Q from h) a2.fs a2.fr)
section
variable {X : Cx} {W : WX} {pos : Pos} {k v : Expr} {ks : List (Option Expr)} {vs : List Expr} {fk fv : FE} {r : FP}
theorem mp_nil : MP X W pos [] [] pNil := ⟨[], pps_nil, fun σ H Q ⟨F, ε, E0, h⟩ => h [] H F ⟨.refl _, E0, .nil, .refl⟩⟩
theorem mp_cons (hk : ME X W k fk) (hv : ME X W v fv) (hr : MP X W pos ks vs r) : MP X W pos (some k :: ks) (v :: vs) (pCons fk fv r) := by
  obtain ⟨trs, h1, h2⟩ := hr.ex
  refine ⟨_, pps_cons hk hv h1, fun σ H Q ⟨F, ε, E0, h⟩ => ⟨F, ε, E0, DoP.bindF h fun d ε1 v H1 F1 a q1 => ⟨F1, ε1, a.eo, DoP.bindF q1 fun d2 ε2 v2 H2 F2 b q2 => h2 σ H2 _ ⟨F2, ε2, b.eo, ?_⟩⟩⟩⟩
  revert q2
  cases r ε2 with
  | none => exact fun q => q
  | some rr =>
    cases rr with
    | x c gs ε3 => exact fun q => q
    | v ds ε3 => exact fun q ps H3 F3 c => q ((v, v2) :: ps) H3 F3 ⟨c.fs, c.eo, .cons ((a.rp.up b.fs).up c.fs) (b.rp.up c.fs) c.rp, c.fr⟩
end
def keysD : List (D × D) → Option (List (Key × D))
  | [] => some []
  | (k, d) :: r => (keyD k).bind fun k' => (keysD r).map ((k', d) :: ·)
def mergeD (kds more : List (Key × D)) : List (Key × D) := more.foldl (fun acc kv => putD acc kv.1 kv.2) kds
def eDict (f : FP) : FE := fun ε => bnd (f ε) fun ps ε1 => match keysD ps with
  | some kds => if kds.length ≤ 15 then some (.v (.ow (.dct (mergeD [] kds))) ε1) else none
  | none => none
theorem RepK.anyK {K : PySem.W.Frag} {F : Hp} (k : Key) : ∀ {kvs : List (Key × V)} {kds : List (Key × D)}, RepK K F kvs kds → (kvs.any fun kv => decide (kv.1 = k)) = (kds.any fun kv => decide (kv.1 = k))
  | _, _, .nil => rfl
  | _, _, .cons _ r => by simp only [List.any_cons, RepK.anyK k r]
theorem RepK.mapK {K : PySem.W.Frag} {F : Hp} {k : Key} {v : V} {d : D} (x : Rep K F v d) : ∀ {kvs : List (Key × V)} {kds : List (Key × D)}, RepK K F kvs kds → RepK K F (kvs.map fun kv => if kv.1 = k then (kv.1, v) else kv) (kds.map fun kv => if kv.1 = k then (kv.1, d) else kv)
  | _, _, .nil => .nil
  | _, _, .cons (k := k') h r => by
    simp only [List.map_cons]
    by_cases e : k' = k
    · rw [if_pos e, if_pos e]; exact .cons x (RepK.mapK x r)
    · rw [if_neg e, if_neg e]; exact .cons h (RepK.mapK x r)
theorem RepK.snoc {K : PySem.W.Frag} {F : Hp} {k : Key} {v : V} {d : D} (x : Rep K F v d) : ∀ {kvs : List (Key × V)} {kds : List (Key × D)}, RepK K F kvs kds → RepK K F (kvs ++ [(k, v)]) (kds ++ [(k, d)])
  | _, _, .nil => .cons x .nil
  | _, _, .cons h r => .cons h (RepK.snoc x r)
theorem RepK.put {K : PySem.W.Frag} {F : Hp} {k : Key} {v : V} {d : D} (x : Rep K F v d) {kvs : List (Key × V)} {kds : List (Key × D)} (r : RepK K F kvs kds) : RepK K F (putK kvs k v) (putD kds k d) := by
  unfold putK putD
  rw [r.anyK]
  split
  · exact r.mapK x
  · exact r.snoc x
theorem RepK.merge {K : PySem.W.Frag} {F : Hp} : ∀ {more : List (Key × V)} {moreD : List (Key × D)} {kvs : List (Key × V)} {kds : List (Key × D)}, RepK K F more moreD → RepK K F kvs kds → RepK K F (mergeK kvs more) (mergeD kds moreD)
  | _, _, _, _, .nil, r => r
  | _, _, kvs, kds, .cons (k := k) (v := v) (vs := vs) (d := d) (ds := ds) x m, r => show RepK K F (mergeK (putK kvs k v) vs) (mergeD (putD kds k d) ds) from RepK.merge m (r.put x)
theorem RepP.keys {K : PySem.W.Frag} {F H : Hp} (s : Same F H) : ∀ {ps : List (V × V)} {ds : List (D × D)} {kds : List (Key × D)}, RepP K F ps ds → keysD ds = some kds → ∃ kvs, ps = kvs.map (fun kv => (kV kv.1, kv.2)) ∧ RepK K F kvs kds
  | _, _, _, .nil, h => by cases h; exact ⟨[], rfl, .nil⟩
  | _, _, _, .cons (y := y) (d := d) (ds := ds) r1 r2 r, h => by
    simp only [keysD, Option.bind_eq_some_iff, Option.map_eq_some_iff] at h
    obtain ⟨k, h1, kds, h2, rfl⟩ := h
    obtain ⟨kvs, rfl, rk⟩ := r.keys s h2
    have e := keyD_ok (H := H) (.inl r1) h1
    exact ⟨(k, y) :: kvs, by rw [e]; rfl, .cons r2 rk⟩
theorem me_dict {X : Cx} {W : WX} {pos : Pos} {ks : List (Option Expr)} {vs : List Expr} {f : FP} (h : MP X W pos ks vs f) (hall : ks.all (·.isSome) = true := by rfl) (hl : ks.length = vs.length := by rfl) (h0 : ks ≠ [] := by (intro z; cases z)) (h15 : ks.length ≤ 15 := by decide) : ME X W (.Dict ks vs pos) (eDict f) := by
  obtain ⟨trs, h1, h2⟩ := h.ex
  refine PE.imp (pe_disp h1 hall hl h0 h15) fun σ H Q ⟨F, ε, E0, h⟩ p hp => ?_
  have gl : Gr F H F (upd H p (.dK [])) := Gr.loose E0.sub hp
  have ob : Oth σ ε F (upd H p (.dK [])) p (.dK []) := ⟨E0.sub.free hp, upd_same, trivial, fun i d q z => by
    obtain ⟨v, hv, b, o, rfl, k1, k2, _⟩ := E0.val i _ q (by simp)
    rw [hv] at z
    have z : b = p := by simpa using z
    rw [z, hp] at k2
    cases k2⟩
  refine h2 σ _ _ ⟨F, ε, E0.grow gl, ?_⟩
  unfold eDict at h
  cases qf : f ε with
  | none => rw [qf] at h; exact h
  | some r =>
    rw [qf] at h
    cases r with
    | x c gs ε1 => exact fun d H' F' a => h d H' F' ⟨a.fs, a.eo, a.xd.pre gl.frm, gl.frm.trans a.fr⟩
    | v ds ε1 =>
      intro ps H1 F1 a
      have o1 := a.fr p _ ob
      have h : Do X.K W σ ε F H (match keysD ds with
        | some kds => if kds.length ≤ 15 then some (.v (.ow (.dct (mergeD [] kds))) ε1) else none
        | none => none) Q := h
      refine ⟨o1.at_, ?_⟩
      cases qk : keysD ds with
      | none => rw [qk] at h; exact h.elim
      | some kds =>
        rw [qk] at h
        obtain ⟨kvs, e1, rk⟩ := a.rp.keys a.eo.sub qk
        simp only at h
        split at h
        · rename_i hz
          refine ⟨kvs, e1, by rw [rk.len]; exact hz, ?_⟩
          have sm : Same F1 (upd H1 p (.dK (mergeK [] kvs))) := fun b o hb => by
            rw [upd_ne (fun z => by rw [z, o1.nf] at hb; cases hb)]
            exact a.eo.sub b o hb
          have eo2 : EOk X.K F1 (upd H1 p (.dK (mergeK [] kvs))) σ ε1 := by
            refine ⟨sm, a.eo.len, fun j s' hj n => ?_, a.eo.inj, Tabs.own a.eo.tab o1.at_ o1.kd, a.eo.ntb⟩
            obtain ⟨w', hw', r'⟩ := a.eo.val j s' hj n
            refine ⟨w', hw', ?_⟩
            cases s' with
            | un => exact r'
            | fz d' => exact r'
            | ow d' =>
              obtain ⟨b, o, rfl, k1, k2, t'⟩ := r'
              have nb : b ≠ p := fun z => o1.no j d' hj (by rw [hw', z])
              exact ⟨b, o, rfl, k1, by rw [upd_ne nb]; exact k2, t'⟩
          refine h (.ref p) _ F1 ⟨a.fs, eo2, ⟨p, _, rfl, o1.nf, upd_same, _, rfl, rk.merge .nil⟩, fun i d q => o1.no i d q, fun c o oc => ?_, fun c o oc z => ?_⟩
          · have z := a.fr c o (gl.frm c o oc)
            have nc : c ≠ p := fun q => by
              have := oc.at_
              rw [q, hp] at this
              cases this
            exact ⟨z.nf, by rw [upd_ne nc]; exact z.at_, z.kd, z.no⟩
          · cases z
            have := oc.at_
            rw [hp] at this
            cases this
        · exact h.elim
end Mi

namespace Mi
open PySem PySem.Spec PyProof.Rows L2
/-! ### defs by name -/
structure Fnn (P : Program) (w : World) (K : PySem.W.Frag) (mg : Str → Option Value) (base : Heap) (u : Bool) (n : Nat) (x : Str) (np : Nat) (Fd : FD) : Prop where
  ex : ∃ f fd ps, mg x = some (.ref f) ∧ PySem.W.keepIn K (.ref f) = true ∧ Binds K fd ps [] ∧ FnG P w K mg base u n f fd ps (spM K np Fd)
theorem me_fn {X : Cx} {W : WX} {u : Bool} {n m np : Nat} {x : Str} {Fd : FD} {p pos : Pos} {e : Expr} {es : List Expr} {fa : FAr} (G : Fnn X.prog X.w X.K X.mg X.base u n x np Fd) (rm : Room m X.A) (gd : u = true → X.A.guards = some []) (tk : Takes X W) (hg : Gl X x) (ha : MA X W (e :: es) fa) (hnm : n ≤ m := by decide)
    (hdb : (x == ("__debug__" : Str)) = false := by decide) (he : starEach (e :: es) X.env = (false, eval e X.env) :: starEach es X.env := by rfl) (hpl : (backTo pos (starEach es X.env)).any (·.1) = false := by rfl) :
    ME X W (.Call (.Name x p) (e :: es) [] pos) (eCall np Fd fa) := by
  obtain ⟨f, fd, ps, h1, h2, h3, h4⟩ := G.ex
  exact me_call h4 (rm.mono hnm) gd hg h1 h2 h3 tk ha hdb he hpl
theorem takesD {P : Program} {w : World} {K : PySem.W.Frag} {mg : Str → Option Value} {base : Heap} {N : List Str} {q : Str} {sc : Scope} {f : Addr} {cv : Value} {A : Around} {out : List Env} {st : Shared} {H : Hp} {E : XK} :
    Takes (cxOf (L2.CX P w) P w K mg base N q sc f cv A out st H E) (WE0 E) := takes_of rfl rfl rfl rfl
theorem passD {P : Program} {w : World} {K : PySem.W.Frag} {mg : Str → Option Value} {base : Heap} {N : List Str} {q : Str} {sc : Scope} {f : Addr} {cv : Value} {A : Around} {out : List Env} {st : Shared} {H : Hp} {E : XK} :
    PassesOwn (model P w) (cxOf (L2.CX P w) P w K mg base N q sc f cv A out st H E).A (cxOf (L2.CX P w) P w K mg base N q sc f cv A out st H E).env (cxOf (L2.CX P w) P w K mg base N q sc f cv A out st H E).xe := passes_of rfl
/-- a def keeps its promise -/
theorem fnn_of {P : Program} {w : World} {K : PySem.W.Frag} {mg : Str → Option Value} {base : Heap} {u : Bool} {n : Nat} {f : Addr} {x q : Str} {pr : Arguments} {body : List Stmt} {sc : Scope} {fd : FuncData} {N ps : List Str} {b : FS}
    (D : FunD K x q pr body sc [] [] f fd) (hm : mg x = some (.ref f)) (S : FnScope N ps sc) (bd : Binds K fd ps []) (hl : ps.length ≤ N.length)
    (hb : ∀ (cv : Value) (A : Around) (out : List Env) (st : Shared) (H : Hp) (E : XK), Room n (A.deeper (envOfC q sc st.heap.objs.size f cv)) → (u = true → A.guards = some []) → MSs (cxOf (L2.CX P w) P w K mg base N q sc f cv A out st H E) (WE0 E) ps.length body b) :
    Fnn P w K mg base u (n + 1) x ps.length (runD N.length b) :=
  ⟨f, fd, ps, hm, D.kp, bd, fnG_of D S (fun _ _ _ _ h => h.1) fun cv A out st H vs Q E rm gd h => ⟨_, hb cv A out st H E rm gd, runD_ok hl h⟩⟩
end Mi

namespace Mi
open PySem PySem.Spec PyProof.Rows L2
/-! ### comparisons as tests -/
section
variable {X : Cx} {W : WX} {a b c : Expr} {fa fb fc : FE} {pos : Pos} {j : Nat}
theorem mt_cmp {co : CmpOp} {r : R2} {op : D → D → Option Sl} (ho : OpR X (compareOp co) r) (p : Prim2 X.K r op) (ha : ME X W a fa) (hb : ME X W b fb) (hm : behindInMarks co b = false) : MT X W (.Compare a [co] [b] pos) (bB (e2 op fa fb)) :=
  PT.imp (pt_cmpR ho ha hb hm) fun _ _ _ h => e2_ok p (bB_ok h)
theorem mt_cmpN {co : CmpOp} {r : R2} {op : D → D → Option Sl} (ho : OpR X (compareOp co) r) (p : Prim2 X.K r op) (ha : ME X W a fa) (hb : PE X b (tVar j)) (hm : behindInMarks co b = false) : MT X W (.Compare a [co] [b] pos) (bB (e2m op fa j)) :=
  PT.imp (pt_cmpR ho ha hb hm) fun _ _ _ h => e2m_ok p (bB_ok h)
theorem mt_lt (ha : ME X W a fa) (hb : ME X W b fb) : MT X W (.Compare a [.Lt] [b] pos) (bB (e2 oLt fa fb)) := mt_cmp op_lt (p_int _) ha hb (nomark _)
theorem mt_le (ha : ME X W a fa) (hb : ME X W b fb) : MT X W (.Compare a [.LtE] [b] pos) (bB (e2 oLe fa fb)) := mt_cmp op_le (p_int _) ha hb (nomark _)
theorem mt_gt (ha : ME X W a fa) (hb : ME X W b fb) : MT X W (.Compare a [.Gt] [b] pos) (bB (e2 oGt fa fb)) := mt_cmp op_gt (p_int _) ha hb (nomark _)
theorem mt_ge (ha : ME X W a fa) (hb : ME X W b fb) : MT X W (.Compare a [.GtE] [b] pos) (bB (e2 oGe fa fb)) := mt_cmp op_ge (p_int _) ha hb (nomark _)
theorem mt_eq (hu : X.A.units + 64 < cLine) (ha : ME X W a fa) (hb : ME X W b fb) : MT X W (.Compare a [.Eq] [b] pos) (bB (e2 oEq fa fb)) := mt_cmp (OpR.or (op_eqD hu) op_eq) p_eq ha hb (nomark _)
theorem mt_ne (hu : X.A.units + 64 < cLine) (ha : ME X W a fa) (hb : ME X W b fb) : MT X W (.Compare a [.NotEq] [b] pos) (bB (e2 oNe fa fb)) := mt_cmp (OpR.or (op_neD hu) op_ne) p_ne ha hb (nomark _)
theorem mt_in (hu : X.A.units + 1 < cLine) (ha : ME X W a fa) (hb : ME X W b fb) (hm : behindInMarks .In b = false := by rfl) : MT X W (.Compare a [.In] [b] pos) (bB (e2 oIn fa fb)) := mt_cmp (op_inA hu) (p_inA false) ha hb hm
theorem mt_nin (hu : X.A.units + 1 < cLine) (ha : ME X W a fa) (hb : ME X W b fb) (hm : behindInMarks .NotIn b = false := by rfl) : MT X W (.Compare a [.NotIn] [b] pos) (bB (e2 oNin fa fb)) := mt_cmp (op_ninA hu) (p_inA true) ha hb hm
theorem mt_inN (hu : X.A.units + 1 < cLine) (ha : ME X W a fa) (hb : PE X b (tVar j)) (hm : behindInMarks .In b = false := by rfl) : MT X W (.Compare a [.In] [b] pos) (bB (e2m oIn fa j)) := mt_cmpN (op_inA hu) (p_inA false) ha hb hm
theorem mt_ninN (hu : X.A.units + 1 < cLine) (ha : ME X W a fa) (hb : PE X b (tVar j)) (hm : behindInMarks .NotIn b = false := by rfl) : MT X W (.Compare a [.NotIn] [b] pos) (bB (e2m oNin fa j)) := mt_cmpN (op_ninA hu) (p_inA true) ha hb hm
end
end Mi

/-! own exceptions made by a call, keywords too: over the heap -/
namespace MiX
open PySem PySem.HandSPX PySem.W
section
variable {M : Model} {A : Around} {E : Value → Shared → Prop} {h : Heap} {g : Array GenState} {d : Drawn} {t : Nat} {os : OsState}
variable {nm q : Str} {C N : Addr} {bs bm bmB : List Value} {hdct : Bool} {sn : List Str} {sub : List Value} {ab : Bool} {col : Option Bool} {dd : Option Addr} {k0 k1 k2 k3 k5 : Option Value} {B newId initId : String} {kw : List (Str × Value)} {rest : List Value}
theorem chk_new (F : ExcBaseFacts B newId initId bmB) (hT : ∀ Y : String, bm.contains (.type Y) = bmB.contains (.type Y)) {Q : Unit → Shared → Prop}
    (hC : h.get? C = some (excClassObj nm q C N bs bm hdct sn sub ab col dd k0 k1 k2 k3 k5 newId)) (z : Q () ⟨h, g, d, t, os⟩) : wpAny M A (checkBuiltinCall newId ⟨.ref C :: rest, kw⟩) Q E ⟨h, g, d, t, os⟩ := by
  have c1 : (Value.ref C :: bm).contains (.type B) = true := by
    simp only [List.contains_cons, hT, F.hasB, Bool.or_true]
  have c2 := F.noStar
  simp only [checkBuiltinCall, F.newKind, F.newSplit, F.newRow]
  repeat (first
    | refine wpAny_loadPart_at hC ?_
    | (refine wpAny_isSubtype_exc hC ?_; rw [c1])
    | refine wpAny_staticBase_exc hC ?_
    | refine wpAny_madeBy_exc hC ?_
    | simp only [bne_self_eq_false, Bool.false_eq_true, if_false]
    | wp_step)
  exact z
end
section
variable {prog : Program} {w : World} {A : Around} {E : Value → Shared → Prop} {R : Result → Shared → Prop} {h : Heap} {g : Array GenState} {d : Drawn} {t : Nat} {os : OsState}
variable {nm q : Str} {C N : Addr} {bs bm bmB : List Value} {hdct : Bool} {sn : List Str} {sub : List Value} {ab : Bool} {col : Option Bool} {dd : Option Addr} {k0 k1 k2 k3 k5 : Option Value} {B newId initId : String} {kw : List (Str × Value)} {rest : List Value}
theorem new_kw (F : ExcBaseFacts B newId initId bmB) (hT : ∀ Y : String, bm.contains (.type Y) = bmB.contains (.type Y))
    (hC : h.get? C = some (excClassObj nm q C N bs bm hdct sn sub ab col dd k0 k1 k2 k3 k5 newId)) (hl : rest.length ≤ sizeLine)
    (z : R (.ok (.ret (.ref (h.objs.size + 1)))) ⟨(h.push (kdv_tup rest)).push (excO C h.objs.size), g, d, t, os⟩) :
    codeAny (model prog w) A (.builtin newId ⟨.ref C :: rest, kw⟩) R ⟨h, g, d, t, os⟩ := by
  have e0 := F.ends
  have c1 : (Value.ref C :: bm).contains (.type B) = true := by simp only [List.contains_cons, hT, F.hasB, Bool.or_true]
  have c2 : (Value.ref C :: bm).contains (.type "AttributeError") = false := by simp only [List.contains_cons, hT, F.noAttr]; rfl
  have c3 : (Value.ref C :: bm).contains (.type "NameError") = false := by simp only [List.contains_cons, hT, F.noName]; rfl
  refine codeAny_builtinAt F.entry ?_
  unfold Builtin.«BaseException.__new__»
  refine wpAt_bind ?_
  show wpAt _ _ _ (stack >>= _) _ _ _
  refine wpAt_bind (wpAt_stack fun p below => wpAt_of_wpAny ?_)
  wp_walk
  refine wpAt_of_wpAny ?_
  rw [F.owner]
  repeat (first
    | with_reducible refine wpAny_madeHere_exc F.canon hC ?_
    | with_reducible refine wpAny_loadPart_at hC ?_
    | (with_reducible refine wpAny_isSubtype_exc hC ?_; first | rw [c1] | rw [c2] | rw [c3])
    | wp_step)
  show R _ _
  rw [Heap.size_push]
  exact z
theorem chk_call {Q : Unit → Shared → Prop} (hC : h.get? C = some (excClassObj nm q C N bs bm hdct sn sub ab col dd k0 k1 k2 k3 k5 newId))
    (z : Q () ⟨h, g, d, t, os⟩) : wpAny (model prog w) A (checkBuiltinCall "type.__call__" ⟨.ref C :: rest, kw⟩) Q E ⟨h, g, d, t, os⟩ := by
  have f3 := tc_sub
  have ty : (⟨h, g, d, t, os⟩ : Shared).TypeIs (.ref C) "type" := ⟨_, hC, rfl⟩
  simp only [checkBuiltinCall, tc_kind, tc_split]
  repeat (any_goals (first
    | assumption
    | with_reducible refine wpAny_loadPart_at hC ?_
    | with_reducible refine wpAny_onRaise ?_
    | with_reducible refine wpAny_map ?_
    | wp_step))
theorem tc_kw (F : ExcBaseFacts B newId initId bmB) (hT : ∀ Y : String, bm.contains (.type Y) = bmB.contains (.type Y)) {fI : Addr} {Q : Fin → Shared → Prop}
    (hC : h.get? C = some (excClassObj nm q C N bs bm hdct sn sub ab col dd k0 k1 k2 k3 k5 newId))
    (hi : Looks (model prog w) h (typeLookup (.ref C) "__init__") (some (.ref fI))) (hb : ∀ self, Looks (model prog w) h (bindSpecial (.ref fI) self) (.ref fI, [self])) (hl : rest.length ≤ sizeLine)
    (z : codeAny (model prog w) A (.call (.ref fI) ⟨.ref (h.objs.size + 1) :: rest, kw⟩)
      (fun r s' => match r with | .ok (.ret v) => v = .none ∧ Q (.done (.ret (.ref (h.objs.size + 1)))) s' | .ok _ => False | .error e => E e s')
      ⟨(h.push (kdv_tup rest)).push (excO C h.objs.size), g, d, t, os⟩) :
    wpAny (model prog w) A (Builtin.«type.__call__» ⟨.ref C :: rest, kw⟩) Q E ⟨h, g, d, t, os⟩ := by
  repeat (first
    | with_reducible refine wpAny_loadPart_at hC ?_
    | with_reducible refine wpAny_madeBy_exc hC ?_
    | wp_step)
  refine codeAny_call_builtin_code (Code.quiet_builtin _ F.quiet) (chk_new F hT hC ?_)
  refine new_kw F hT hC hl ?_
  show wpAny _ _ _ _ _ _
  have kp : ∀ b o, h.get? b = some o → ((h.push (kdv_tup rest)).push (excO C h.objs.size)).get? b = some o := fun b o e =>
    Heap.get?_push_of_some _ (Heap.get?_push_of_some _ e)
  have hC2 := kp _ _ hC
  have hx : ((h.push (kdv_tup rest)).push (excO C h.objs.size)).get? (h.objs.size + 1) = some (excO C h.objs.size) := by heap_get
  have cc : (Value.ref C :: bm).contains (.ref C) = true := by simp
  have i1 := hi.keeps kp
  have b1 := (hb (.ref (h.objs.size + 1))).keeps kp
  unfold isInstance
  repeat (first
    | with_reducible refine wpAny_loadPart_at hx ?_
    | (with_reducible refine wpAny_isSubtype_exc hC2 ?_; rw [cc])
    | wp_step)
  show wpAny _ _ (typeLookup (.ref C) _) _ _ _
  refine i1.at (wpAny_holding (wpAny_bind (b1.at (wpAny_bind (wpAny_call (codeAny_mono z fun r s' y => ?_))))))
  rcases r with e | (v | _ | _ | _) <;> first | exact y | exact y.elim | skip
  obtain ⟨rfl, y⟩ := y
  first
    | exact wpAny_pure (wpAny_pure y)
    | (wp_walk; exact y)
theorem call_kw (F : ExcBaseFacts B newId initId bmB) (hT : ∀ Y : String, bm.contains (.type Y) = bmB.contains (.type Y)) {fI : Addr}
    (hC : h.get? C = some (excClassObj nm q C N bs bm hdct sn sub ab col dd k0 k1 k2 k3 k5 newId))
    (hi : Looks (model prog w) h (typeLookup (.ref C) "__init__") (some (.ref fI))) (hb : ∀ self, Looks (model prog w) h (bindSpecial (.ref fI) self) (.ref fI, [self])) (hl : rest.length ≤ sizeLine)
    (z : codeAny (model prog w) (A.under (.builtin "type.__call__" ⟨.ref C :: rest, kw⟩)) (.call (.ref fI) ⟨.ref (h.objs.size + 1) :: rest, kw⟩) (InitBack (h.objs.size + 1) R)
      ⟨(h.push (kdv_tup rest)).push (excO C h.objs.size), g, d, t, os⟩) :
    codeAny (model prog w) A (.call (.ref C) ⟨rest, kw⟩) R ⟨h, g, d, t, os⟩ := by
  have f1 := tc_lookup
  have f2 := tc_bind (.ref C)
  have ty : (⟨h, g, d, t, os⟩ : Shared).TypeIs (.ref C) "type" := ⟨_, hC, rfl⟩
  refine codeAny_of_tree ?_
  show wpAny _ _ (callAny (.ref C) _) _ _ _
  repeat (any_goals (first
    | assumption
    | with_reducible refine wpAny_loadPart_at hC ?_
    | wp_step))
  refine ⟨rfl, ?_⟩
  refine codeAny_call_builtin_at (Code.quiet_builtin _ (by decide +kernel)) entry_typeCall (chk_call hC (tc_kw F hT hC hi hb hl ?_))
  refine codeAny_mono z fun r s' y => ?_
  rcases r with e | (v | _ | _ | _) <;> exact y
end
end MiX

namespace Mi
open PySem PySem.Spec PyProof.Rows L2 Builtin Builtin.ObjectAttr

/-- a built-in class of errors: made, stored into -/
structure XBase (B newId initId : String) (bmB : List Value) : Prop where
  F : ExcBaseFacts B newId initId bmB
  S : StoreFacts B bmB "object.__setattr__" "object"
theorem xb_VE : XBase "ValueError" "ValueError.__new__" "ValueError.__init__" (tlOf "ValueError") := ⟨F.excBase_ValueError, F.store_ValueError⟩
theorem xb_LE : XBase "LookupError" "LookupError.__new__" "LookupError.__init__" (tlOf "LookupError") := ⟨F.excBase_LookupError, F.store_LookupError⟩
theorem xb_RE : XBase "RuntimeError" "RuntimeError.__new__" "RuntimeError.__init__" (tlOf "RuntimeError") := ⟨F.excBase_RuntimeError, F.store_RuntimeError⟩
theorem xb_AE : XBase "ArithmeticError" "ArithmeticError.__new__" "ArithmeticError.__init__" (tlOf "ArithmeticError") := ⟨F.excBase_ArithmeticError, F.store_ArithmeticError⟩

/-- what the written part says of an own class of errors -/
structure XC (K : PySem.W.Frag) (C : Addr) (newId : String) (bmB : List Value) : Prop where
  ini : PySem.W.excInitIn K C bmB newId = true
  ov : PySem.W.excOver K C bmB = true
  hd : PySem.W.hasDictIn K C = true
  kC : PySem.W.keepIn K (.ref C) = true
  sa : PySem.W.findIn K (.ref C) "__setattr__" = some (some (.builtin "object.__setattr__"))
  exC : PySem.W.subIn K (.ref C) (.type "BaseException") = some true
  tyC : PySem.W.typeIn K (.ref C) = some (.type "type")
  ga : PySem.W.findIn K (.ref C) "__getattribute__" = some (some (.builtin "BaseException.__getattribute__"))
  gg : PySem.W.findIn K (.ref C) "__getattr__" = some none
  cl : (PySem.W.clsIn K C).isSome = true
  cc : PySem.W.findIn K (.ref C) "__class__" = some (some (.builtin "object.__class__"))
  ob : PySem.W.mroIn K C (.type "object") = some true
theorem xcB_ok {K : PySem.W.Frag} {C : Addr} {newId : String} {bmB : List Value} (h : xcB K C newId bmB = true) : XC K C newId bmB := by
  unfold xcB at h
  simp only [Bool.and_eq_true, decide_eq_true_eq] at h
  obtain ⟨h1, h2, h3, h4, h5, h6, h7, h8, h9, h10, h11, h12⟩ := h
  exact ⟨h1, h2, h3, h4, h5, h6, h7, h8, h9, h10, h11, h12⟩

/-- facts that every written part has: class of an object is asked for -/
structure ObC (K : PySem.W.Frag) : Prop where
  sp : PySem.W.specialIn K (.builtin "object.__class__") "__get__" = some (some (.builtin "getset_descriptor.__get__"))
  tk : PySem.W.takesIn K (.builtin "object.__class__") = some true

section
variable {X : Cx} {pins : List (Addr × Obj)} {σ : St} {H : Hp} {s : Shared} {a C dx : Addr} {f : Str} {y : V} {u : Value} {fs : List (Str × V)} {E : Value → Shared → Prop} {A : Around} {B newId initId : String} {bmB : List Value}
theorem xst_new {Q : Unit → Shared → Prop} (XB : XBase B newId initId bmB) (T : XC X.K C newId bmB) (I : Inv X pins σ H s) (e : H a = some (exo a C none)) (hno : PySem.W.findIn X.K (.ref C) f = some none) (ry : RelV y u)
    (h : ∀ dx s', H dx = none → dx ≠ a → Inv X pins σ (upd (upd H dx (exd dx [(f, y)])) a (exo a C (some dx))) s' → Q () s') : wpAny (model X.prog X.w) A (setAttr (.ref a) f u) Q E s := by
  obtain ⟨t1, ho⟩ := exo_at I.hok e
  obtain ⟨hp, g, d, t, os⟩ := s
  refine PySem.W.set_plain I.kIn (ox := { cls := .ref C, dict := none, data := .fields #[.ref t1, .none, .none, .none, .bool false, .none] }) (od := none) ⟨ho, rfl, rfl, trivial⟩ T.sa ?_
  obtain ⟨cd, hc, hd'⟩ := PySem.W.any_some T.hd
  refine PySem.W.osa_openX (od := none) (r := none) XB.S I.kIn ⟨ho, rfl, rfl, trivial⟩ T.ov (by unfold PySem.W.takerIn; rw [hno]; rfl) fun b => ?_
  have hxs : a ≠ hp.objs.size := Nat.ne_of_lt (Heap.lt_size ho)
  have hcls : PySem.W.Looks (model X.prog X.w) hp (classData C) cd := PySem.W.looks_clsIn I.kIn hc
  have fin : ∀ h' tk' dx, (∀ b o, b ≠ a → hp.get? b = some o → h'.get? b = some o) → hp.objs.size ≤ dx → dx ≠ a → h'.get? a = some { cls := .ref C, dict := some dx, data := .fields #[.ref t1, .none, .none, .none, .bool false, .none] } →
      h'.Ns1 dx (fun z => if z = f then some u else none) → Q () ⟨h', g, d, tk', os⟩ := fun h' tk' dx k dn dne hx hn => by
    have hnd : H dx = none := I.hok.fresh dn
    have nd : ∀ {b : Addr} {o : Obj}, hp.get? b = some o → b ≠ dx := fun {b o} q => Nat.ne_of_lt (Nat.lt_of_lt_of_le (Heap.lt_size q) dn)
    have na : ∀ {b : Addr}, H b = none → b ≠ a := fun {b} n z => by
      rw [z, e] at n
      cases n
    have U1 : Un X.fs [] H (upd (upd H dx (exd dx [(f, y)])) a (exo a C (some dx))) hp h' :=
      ⟨fun b o q n _ _ => k b o (na n) q, fun b o q n _ _ => ⟨o.slots, k b o (na n) q⟩, fun b o q n _ => by rw [upd_ne (na n), upd_ne (nd q)]; exact n,
       fun b o q _ => by
        by_cases hb : b = a
        · exact ⟨_, by rw [hb]; exact hx⟩
        · exact ⟨o, k b o hb q⟩,
       fun b xs q => by rw [upd_ne (at_ne e q exo_tup), upd_ne (ne_of_none q hnd)]; exact q,
       fun b o v q => by rw [upd_ne (at_ne e q exo_frz), upd_ne (ne_of_none q hnd)]; exact q,
       fun b ps q => ⟨#[], by rw [upd_ne (at_ne e q exo_tbl), upd_ne (ne_of_none q hnd), q]; simp⟩⟩
    refine h dx _ hnd dne (I.un (t' := tk') U1 fun b o q => ?_)
    by_cases hb : b = a
    · subst hb
      rw [upd_same] at q
      cases q
      exact exo_ok hx
    · rw [upd_ne hb] at q
      by_cases hd : b = dx
      · subst hd
        rw [upd_same] at q
        cases q
        exact exd_ok hn (relO_put (fs := []) ry fun g => True.intro)
      · rw [upd_ne hd] at q
        refine (I.hok b o q).stay (fun c v hc z => k c v ?_ z) (fun c hc => ?_) (fun c xs hc => ?_)
        · rcases hc with hc | hc
          · rw [hc]; exact hb
          · exact at_ne e hc exo_own
        · rw [upd_ne (at_ne e hc exo_own), upd_ne (ne_of_none hc hnd)]; exact hc
        · rw [upd_ne (at_ne e hc exo_tup), upd_ne (ne_of_none hc hnd)]; exact hc
  show wpAny _ _ (storeInOwnDict (.ref a) (.ref C) (.str f _) f u b) _ _ _
  obtain ⟨nm, bs, mro, ns, qn, hd2, sn, sb, ab, col, del⟩ := cd
  dsimp only at hd'
  subst hd'
  unfold storeInOwnDict ownDictForStores
  repeat (first | with_reducible refine HandSPX.store_in_new ?_ ?_ | with_reducible refine wpAny_loadPart_at ho ?_ | with_reducible refine hcls.at ?_ | wp_step)
  · exact ⟨_, #[], _, (Heap.get?_update_ne _ _ _ _ hxs.symm).trans (Heap.get?_push_at rfl rfl), rfl, fun e he => absurd he (by simp), fun _ => rfl⟩
  · intro h' tk' hn' hs
    have hx1 := Heap.get?_push_of_some { cls := .type "dict", data := .dict #[] } ho
    refine fin h' tk' hp.objs.size (fun b o hb ho => ?_) (Nat.le_refl _) hxs.symm ?_ hn'
    · exact (hs.2 b (Nat.ne_of_lt (Heap.lt_size ho))).trans ((Heap.get?_update_ne _ _ _ _ hb).trans (Heap.get?_push_of_some _ ho))
    · exact (hs.2 a hxs).trans (Heap.get?_update_self _ hx1 rfl)
theorem xst_old {Q : Unit → Shared → Prop} (XB : XBase B newId initId bmB) (T : XC X.K C newId bmB) (I : Inv X pins σ H s) (e : H a = some (exo a C (some dx))) (ed : H dx = some (exd dx fs)) (hl : fs.length ≤ 900) (hno : PySem.W.findIn X.K (.ref C) f = some none) (ry : RelV y u)
    (h : ∀ s', Inv X pins σ (upd H dx (exd dx ((f, y) :: fs))) s' → Q () s') : wpAny (model X.prog X.w) A (setAttr (.ref a) f u) Q E s := by
  obtain ⟨t1, ho⟩ := exo_at I.hok e
  obtain ⟨mA, hns, rel⟩ := exd_at I.hok ed
  have hw := within_of rel
  obtain ⟨hp, g, d, t, os⟩ := s
  obtain ⟨oD, _, _, hoD, _, _⟩ := hns.count hw
  refine PySem.W.set_plain I.kIn (ox := { cls := .ref C, dict := some dx, data := .fields #[.ref t1, .none, .none, .none, .bool false, .none] }) (od := some oD) ⟨ho, rfl, rfl, hoD⟩ T.sa ?_
  obtain ⟨cd, hc, hd'⟩ := PySem.W.any_some T.hd
  refine PySem.W.osa_openX (od := some oD) (r := none) XB.S I.kIn ⟨ho, rfl, rfl, hoD⟩ T.ov (by unfold PySem.W.takerIn; rw [hno]; rfl) fun b => ?_
  have hcls : PySem.W.Looks (model X.prog X.w) hp (classData C) cd := PySem.W.looks_clsIn I.kIn hc
  show wpAny _ _ (storeInOwnDict (.ref a) (.ref C) (.str f _) f u b) _ _ _
  obtain ⟨nm, bs, mro, ns, qn, hd2, sn, sb, ab, col, del⟩ := cd
  dsimp only at hd'
  subst hd'
  unfold storeInOwnDict ownDictForStores
  repeat (first | with_reducible refine PySem.OEX.store_in_old hns hw (by rw [List.length_map]; omega) ?_ | with_reducible refine wpAny_loadPart_at ho ?_ | with_reducible refine hcls.at ?_ | wp_step)
  intro h' tk' hn' hs
  have hd : ∃ o, h'.get? dx = some o := by
    obtain ⟨o, _, _, e', _⟩ := hn'
    exact ⟨o, e'⟩
  exact h _ (I.write (t' := tk') (x := dx) (e := dx) (o := exd dx ((f, y) :: fs)) (by rw [ed]; exact True.intro) (.inl rfl) (fun b o hb ho => (hs.2 b hb).trans ho) hd (exd_ok hn' (relO_put ry rel)))
/-- B.__init__(self, ..): nothing of it is told -/
theorem xinit_ok {us : List Value} {Q : Value → Shared → Prop} (XB : XBase B newId initId bmB) (T : XC X.K C newId bmB) (I : Inv X pins σ H s) (e : H a = some (exo a C none)) (hl : us.length ≤ sizeLine) (h : ∀ s', Inv X pins σ H s' → Q .none s') :
    wpAny (model X.prog X.w) A (call (.builtin initId) (.ref a :: us)) Q E s := by
  obtain ⟨nm, N, q, bs, bm, hd, sn, sub, ab, col, dd, k0, k1, k2, k3, k5, hC, hT⟩ := PySem.W.excInit_of I.kIn T.ini
  obtain ⟨t1, ho⟩ := exo_at I.hok e
  obtain ⟨hp, g, d, t, os⟩ := s
  refine wpAny_call (PySem.HandSPX.init_base XB.F hT hC ho hl fun h' t2 k hx => ?_)
  have J := I.write (t' := t) (x := a) (e := a) (o := exo a C none) (by rw [e]; exact True.intro) (.inl rfl) k ⟨_, hx⟩ (exo_ok hx)
  have eu : upd H a (exo a C none) = H := funext fun b => by
    by_cases hb : b = a
    · rw [hb, upd_same, e]
    · rw [upd_ne hb]
  rw [eu] at J
  exact h _ J
end

/-! ### the body of an __init__ -/
/-- the class bs (own, its __init__ that of the built-in one) -/
structure XIn (K : PySem.W.Frag) (bs : Addr) (initId : String) : Prop where
  rd : PySem.W.readsIn K bs (.type "type") = true
  ga : PySem.W.specialIn K (.ref bs) "__getattribute__" = some (some (.builtin "type.__getattribute__"))
  at_ : PySem.W.findCls K (.ref bs) (.type "type") "__init__" = some (.val (.builtin initId))
theorem xinB_ok {K : PySem.W.Frag} {bs : Addr} {initId : String} (h : xinB K bs initId = true) : XIn K bs initId := by
  unfold xinB at h
  simp only [Bool.and_eq_true, decide_eq_true_eq] at h
  obtain ⟨h1, h2, h3⟩ := h
  refine ⟨h1, h2, ?_⟩
  split at h3
  · rename_i v e
    rw [e, beq_iff_eq.mp h3]
  · cases h3
/-- B.__init__(self, ..) -/
def tBI (C : Addr) (ta : TA) : TE := fun σ H Q => ta σ H fun vs H1 => ∃ (a : Addr) (ws : List V), vs = .ref a :: ws ∧ ws.length ≤ 1000 ∧ H1 a = some (exo a C none) ∧ Q .non H1
/-- self.f = e -/
def tXs (C : Addr) (f : Str) (to te : TE) : TS := fun D σ H => te σ H fun y H1 => to σ H1 fun x H2 => ∃ a : Addr, x = .ref a ∧
  ((H2 a = some (exo a C none) ∧ ∀ dx, H2 dx = none → dx ≠ a → D.nx σ (upd (upd H2 dx (exd dx [(f, y)])) a (exo a C (some dx)))) ∨
    ∃ (dx : Addr) (fs : List (Str × V)), H2 a = some (exo a C (some dx)) ∧ H2 dx = some (exd dx fs) ∧ fs.length ≤ 900 ∧ D.nx σ (upd H2 dx (exd dx ((f, y) :: fs))))
section
variable {X : Cx} {o e : Expr} {es : List Expr} {to te : TE} {ta : TA} {f bn : Str} {p p' p1 p2 pos : Pos} {C bs : Addr} {B newId initId : String} {bmB : List Value}
theorem pe_binit {pl : Sem Bool} (XB : XBase B newId initId bmB) (T : XC X.K C newId bmB) (J : XIn X.K bs initId) (hg : Gl X bn) (hm : X.mg bn = some (.ref bs)) (hh : PySem.W.handedIn (.builtin initId) = true) (ha : PA X (e :: es) ta) (hdb : (bn == ("__debug__" : Str)) = false := by decide)
    (hc : eval (.Call (.Attribute (.Name bn p1) "__init__" p2) (e :: es) [] pos) X.env = (do
      let ov ← eval (.Name bn p1) X.env
      standAt p2.atName
      let (f, first) ← holding [ov] (getMethod ov "__init__" pl)
      callWith pos f first (backTo pos (starEach (e :: es) X.env)) (backToKw pos (keywordEach [] X.env))) := by rfl)
    (he : starEach (e :: es) X.env = (false, eval e X.env) :: starEach es X.env := by rfl) (hpl : (backTo pos (starEach es X.env)).any (·.1) = false := by rfl) :
    PE X (.Call (.Attribute (.Name bn p1) "__init__" p2) (e :: es) [] pos) (tBI C ta) := by
  refine ⟨fun pins s σ H Q I h => ?_⟩
  refine PySem.W.methodCall_KW (ld_glob I hg hm ?_ hdb) hc
  refine PySem.W.method_cls I.kIn J.ga (PySem.W.cls_value I.kIn J.rd J.at_ hh ?_)
  show wpAny _ _ (callWith pos (Value.builtin initId) [] (backTo pos (starEach (e :: es) X.env)) []) _ _ _
  refine PyProof.Rows.callWith_method1 (thn (ha.run pos pins _ σ H _ (I.tok _) h) fun us s1 ⟨vs, H1, I1, r1, a, ws, ev, hl, ea, q⟩ => ?_) he hpl
  subst ev
  cases r1 with
  | @cons _ u0 _ ur ra rw' =>
    obtain rfl : u0 = Value.ref a := ra
    refine xinit_ok XB T I1 ea ?_ fun s' J => ⟨.non, H1, J, rfl, q⟩
    rw [← Paired.length rw', sizeLine_eq]
    omega
theorem ps_xst (XB : XBase B newId initId bmB) (T : XC X.K C newId bmB) (hno : PySem.W.findIn X.K (.ref C) f = some none) (ho : PE X o to) (he : PE X e te) (hs : swapsWith e (some (.Attribute o f p')) pos.line X.env = pure false := by rfl) : PS X (.Assign [.Attribute o f p'] e pos) (tXs C f to te) := by
  refine ⟨fun pins s σ H D I h => ?_⟩
  refine plainObj_wpAny_Assign_Attribute (thn (he.run pins s σ H _ I h) fun v s1 ⟨y, H1, I1, r1, q1⟩ => thn (ho.run pins s1 σ H1 _ I1 q1) fun u s2 ⟨x, H2, I2, r2, a, ex, q⟩ => ?_) hs
  subst ex
  obtain rfl : u = Value.ref a := r2
  rcases q with ⟨ea, q⟩ | ⟨dx, fs, ea, ed, hl, q⟩
  · exact xst_new XB T I2 ea hno r1 fun dx s' n ne J => ⟨σ, _, J, q dx n ne⟩
  · exact xst_old XB T I2 ea ed hl hno r1 fun s' J => ⟨σ, _, J, q⟩
end

/-! ### what an __init__ promises -/
/-- the exception at a, with these fields, is laid in the heap -/
def Made (C : Addr) (H : Hp) (a : Addr) (fs : List (Str × V)) (Q : Hp → Prop) : Prop :=
  (fs = [] ∧ Q (upd H a (exo a C none))) ∨ (fs ≠ [] ∧ ∀ dx, H dx = none → dx ≠ a → Q (upd (upd H dx (exd dx fs)) a (exo a C (some dx))))
/-- self, then the fields' values -/
def spI (C : Addr) (ks : List Str) : Sp := fun vs H Q _ => ∃ (a : Addr) (xs : List V), vs = .ref a :: xs ∧ xs.length = ks.length ∧ ∃ H0, H0 a = none ∧ H = upd H0 a (exo a C none) ∧ Made C H0 a (ks.zip xs).reverse (Q .non)
theorem spI_len {C : Addr} {ks : List Str} {n : Nat} (h : n = ks.length + 1) : ∀ vs H Q E, spI C ks vs H Q E → vs.length = n := by
  rintro vs H Q E ⟨a, xs, rfl, hl, _⟩
  rw [List.length_cons, hl, h]
theorem upd_twice {H : Hp} {a : Addr} {o o' : HO} : upd (upd H a o) a o' = upd H a o' := funext fun b => by
  by_cases hb : b = a
  · rw [hb, upd_same, upd_same]
  · rw [upd_ne hb, upd_ne hb, upd_ne hb]
theorem upd_swap {H : Hp} {a b : Addr} {o o' : HO} (n : a ≠ b) : upd (upd H a o) b o' = upd (upd H b o') a o := funext fun c => by
  by_cases h1 : c = a
  · rw [h1, upd_same, upd_ne n, upd_same]
  · by_cases h2 : c = b
    · rw [h2, upd_same, upd_ne (Ne.symm n), upd_same]
    · rw [upd_ne h1, upd_ne h2, upd_ne h2, upd_ne h1]
end Mi

namespace Mi
open PySem PySem.Spec PyProof.Rows L2

abbrev tI0 (C : Addr) (txt : Str) : TS := tDrop (tBI C (tCons (tVar 0) (tCons (tC (.str txt)) tNil)))
section
variable {C : Addr} {txt f f' : Str} {vs : List V} {H : Hp} {Q : VK} {E : XK} {N : List Str}
theorem init_pf0 (h : spI C [] vs H Q E) : tI0 C txt { nx := fun _ H' => Q .non H', rt := Q } (start N vs) H := by
  obtain ⟨a, xs, rfl, hl, H0, h0, rfl, m⟩ := h
  refine ⟨.ref a, by simp [L2.start], a, [.str txt], rfl, (Nat.le_of_ble_eq_true rfl), upd_same, ?_⟩
  rcases m with ⟨_, m⟩ | ⟨n, _⟩
  · exact m
  · exact absurd (by simp) n
theorem init_pf1 (h : spI C [f] vs H Q E) : tSeq (tI0 C txt) (tXs C f (tVar 0) (tVar 1)) { nx := fun _ H' => Q .non H', rt := Q } (start N vs) H := by
  obtain ⟨a, xs, rfl, hl, H0, h0, rfl, m⟩ := h
  match xs, hl with
  | [x], _ =>
    refine ⟨.ref a, by simp [L2.start], a, [.str txt], rfl, (Nat.le_of_ble_eq_true rfl), upd_same, ?_⟩
    refine ⟨x, by simp [L2.start], .ref a, by simp [L2.start], a, rfl, .inl ⟨upd_same, fun dx hd hn => ?_⟩⟩
    rw [upd_ne hn] at hd
    rcases m with ⟨n, _⟩ | ⟨_, m⟩
    · exact absurd n (by simp)
    · have e : upd (upd (upd H0 a (exo a C none)) dx (exd dx [(f, x)])) a (exo a C (some dx)) = upd (upd H0 dx (exd dx [(f, x)])) a (exo a C (some dx)) := by
        rw [upd_swap (Ne.symm hn), upd_twice]
      show Q .non _
      rw [e]
      exact m dx hd hn
theorem init_pf2 (h : spI C [f, f'] vs H Q E) : tSeq (tI0 C txt) (tSeq (tXs C f (tVar 0) (tVar 1)) (tXs C f' (tVar 0) (tVar 2))) { nx := fun _ H' => Q .non H', rt := Q } (start N vs) H := by
  obtain ⟨a, xs, rfl, hl, H0, h0, rfl, m⟩ := h
  match xs, hl with
  | [x, y], _ =>
    refine ⟨.ref a, by simp [L2.start], a, [.str txt], rfl, (Nat.le_of_ble_eq_true rfl), upd_same, ?_⟩
    refine ⟨x, by simp [L2.start], .ref a, by simp [L2.start], a, rfl, .inl ⟨upd_same, fun dx hd hn => ?_⟩⟩
    rw [upd_ne hn] at hd
    rcases m with ⟨n, _⟩ | ⟨_, m⟩
    · exact absurd n (by simp)
    · refine ⟨y, by simp [L2.start], .ref a, by simp [L2.start], a, rfl, .inr ⟨dx, [(f, x)], upd_same, by rw [upd_ne hn, upd_same], (Nat.le_of_ble_eq_true rfl), ?_⟩⟩
      have e : upd (upd (upd (upd H0 a (exo a C none)) dx (exd dx [(f, x)])) a (exo a C (some dx))) dx (exd dx [(f', y), (f, x)]) = upd (upd H0 dx (exd dx [(f', y), (f, x)])) a (exo a C (some dx)) := by
        rw [upd_swap (H := H0) (Ne.symm hn), upd_twice, upd_swap (H := upd H0 dx _) (Ne.symm hn), upd_twice]
      show Q .non _
      rw [e]
      exact m dx hd hn
end

/-! ### the exception is made -/
section
variable {X : Cx} {W : WX} {n : Nat} {C fI : Addr} {fd : FuncData} {ps ks : List Str} {B newId initId : String} {bmB : List Value}
theorem run_mkx {pins : List (Addr × Obj)} {σ : St} {H : Hp} {s : Shared} {Q : VK} {us zs : List Value} {kz : List (Str × Value)} {xs : List V} {E : XK} (XB : XBase B newId initId bmB) (T : XC X.K C newId bmB) (iC : PySem.W.findIn X.K (.ref C) "__init__" = some (some (.ref fI)))
    (tI : PySem.W.typeIn X.K (.ref fI) = some (.type "function")) (G : FnG X.prog X.w X.K X.mg X.base false n fI fd ps (spI C ks)) (rm : Room (n + 1) X.A) (hx : PassesAt (L2.CX X.prog X.w) X σ E) (I : Inv X pins σ H s) (r : Vals xs zs) (hl : xs.length = ks.length) (hus : us.length ≤ 1000)
    (bd : ∀ (a : Addr) (s : Shared), X.K.In s.heap → BindsTo s fd ⟨.ref a :: us, kz⟩ (ps.zip (.ref a :: zs)))
    (h : ∀ a, H a = none → Made C H a (ks.zip xs).reverse fun H' => Q (.ref a) H') :
    wpAny (model X.prog X.w) X.A (call (.ref C) us kz) (EP X pins σ Q) X.xe s := by
  obtain ⟨nm, N, q, bs, bm, hd, sn, sub, ab, col, dd, k0, k1, k2, k3, k5, hC, hT⟩ := PySem.W.excInit_of I.kIn T.ini
  obtain ⟨hp, g, dr, tk, os⟩ := s
  have hsz : hp.objs.size ≤ hp.objs.size + 1 := Nat.le_succ _
  have hn : H (hp.objs.size + 1) = none := I.hok.fresh hsz
  have kk : ∀ b o, hp.get? b = some o → ((hp.push (PySem.W.kdv_tup us)).push (PySem.HandSPX.excO C hp.objs.size)).get? b = some o := fun b o e => Heap.get?_push_of_some _ (Heap.get?_push_of_some _ e)
  have hget : ((hp.push (PySem.W.kdv_tup us)).push (PySem.HandSPX.excO C hp.objs.size)).get? (hp.objs.size + 1) = some (PySem.HandSPX.excO C hp.objs.size) := by heap_get
  have I2 := I.laid (t' := tk) (a := hp.objs.size + 1) (o := exo (hp.objs.size + 1) C none) (h' := (hp.push (PySem.W.kdv_tup us)).push (PySem.HandSPX.excO C hp.objs.size)) kk hsz (exo_ok hget)
  have hq : spI C ks (V.ref (hp.objs.size + 1) :: xs) (upd H (hp.objs.size + 1) (exo (hp.objs.size + 1) C none)) (fun v H2 => v = .non ∧ Q (.ref (hp.objs.size + 1)) H2) E := by
    refine ⟨_, xs, rfl, hl, H, hn, rfl, ?_⟩
    rcases h _ hn with ⟨e, m⟩ | ⟨e, m⟩
    · exact .inl ⟨e, rfl, m⟩
    · exact .inr ⟨e, fun dx h1 h2 => ⟨rfl, m dx h1 h2⟩⟩
  have r2 : Vals (V.ref (hp.objs.size + 1) :: xs) (Value.ref (hp.objs.size + 1) :: zs) := .cons rfl r
  refine wpAny_call (MiX.call_kw XB.F hT hC (PySem.W.looks_findIn I.kIn iC) (fun self => PySem.W.bind_fn I.kIn self tI) (by rw [sizeLine_eq]; omega)
    (codeAny_mono (G.run _ X.stack _ _ ⟨Value.ref (hp.objs.size + 1) :: us, kz⟩ (Value.ref (hp.objs.size + 1) :: zs) _ _ E (rm.make C us kz) (fun z => Bool.noConfusion z) (I2.env0.make C us kz) (bd _ _ I2.kIn) r2 hq) fun r s' hq' => ?_))
  cases r with
  | error er => exact hx pins _ _ er s' I2 hq'
  | ok fl =>
    cases fl with
    | ret u =>
      obtain ⟨v, H', I3, rv, ev, q3⟩ := I2.after hq'
      subst ev
      exact ⟨rv, ⟨V.ref (hp.objs.size + 1), H', I3, rfl, q3⟩⟩
    | next => exact False.elim hq'
    | brk => exact False.elim hq'
    | cont => exact False.elim hq'
end

theorem vals_back : ∀ {vs : List V} {us : List Value}, Vals vs us → Vals vs.reverse us.reverse
  | _, _, .nil => .nil
  | _, _, .cons h r => by
    rw [List.reverse_cons, List.reverse_cons]
    exact (vals_back r).append (.cons h .nil)
/-! ### as a value -/
def eMk (c : Str) (ks : List Str) (rv : Bool) (fa : FAr) : FE := fun ε => bnd (fa ε) fun ss ε1 => match asD ss with
  | some ds => if ds.length = ks.length then some (.v (.fz (.exc c (ks.zip (if rv then ds.reverse else ds)).reverse)) ε1) else none
  | none => none
theorem RepL.back {K : PySem.W.Frag} {F : Hp} : ∀ {vs : List V} {ds : List D}, RepL K F vs ds → RepL K F vs.reverse ds.reverse
  | _, _, .nil => .nil
  | _, _, .cons h r => by
    rw [List.reverse_cons, List.reverse_cons]
    exact (RepL.back r).app (.cons h .nil)
theorem RepF.app {K : PySem.W.Frag} {F : Hp} : ∀ {vs us : List (Str × V)} {ds es : List (Str × D)}, RepF K F vs ds → RepF K F us es → RepF K F (vs ++ us) (ds ++ es)
  | _, _, _, _, .nil, q => q
  | _, _, _, _, .cons h r, q => .cons h (RepF.app r q)
theorem RepF.back {K : PySem.W.Frag} {F : Hp} : ∀ {vs : List (Str × V)} {ds : List (Str × D)}, RepF K F vs ds → RepF K F vs.reverse ds.reverse
  | _, _, .nil => .nil
  | _, _, .cons h r => by
    rw [List.reverse_cons, List.reverse_cons]
    exact (RepF.back r).app (.cons h .nil)
theorem RepL.zip {K : PySem.W.Frag} {F : Hp} : ∀ {ks : List Str} {vs : List V} {ds : List D}, RepL K F vs ds → RepF K F (ks.zip vs) (ks.zip ds)
  | [], _, _, _ => .nil
  | _ :: _, _, _, .nil => .nil
  | _ :: _, _, _, .cons h r => .cons h (RepL.zip r)
theorem Gives.exc {K : PySem.W.Frag} {F H : Hp} {c : Str} {a : Addr} {fs : List (Str × V)} {gs : List (Str × D)} {Q : VK} (g : Gives K F H (.fz (.exc c gs)) Q) (sm : Same F H) (hp : H a = none) (r : RepF K F fs gs) : Made (He.ga K c) H a fs fun H' => Q (.ref a) H' := by
  have fa := sm.free hp
  cases fs with
  | nil =>
    cases r
    exact .inl ⟨rfl, g (.ref a) _ _ (Gr.new sm hp fun _ => exo_tbl) (.exn upd_same) trivial⟩
  | cons p fs =>
    refine .inr ⟨by simp, fun dx hd hn => ?_⟩
    have fd := sm.free hd
    have g1 : Gr F H (upd F dx (exd dx (p :: fs))) (upd H dx (exd dx (p :: fs))) := Gr.new sm hd fun ps z => by
      have z' : HO.ext _ = HO.tbl ps := z
      cases z'
    have g2 : Gr F H (upd (upd F dx (exd dx (p :: fs))) a (exo a (He.ga K c) (some dx))) (upd (upd H dx (exd dx (p :: fs))) a (exo a (He.ga K c) (some dx))) :=
      g1.trans (Gr.new g1.sub (by rw [upd_ne (Ne.symm hn)]; exact hp) fun _ => exo_tbl)
    refine g (.ref a) _ _ g2 (.exc upd_same (by rw [upd_ne hn, upd_same]) (r.up g2.fs)) trivial
section
variable {X : Cx} {W : WX} {n : Nat} {c : Str} {fI : Addr} {fd : FuncData} {ps ks : List Str} {B newId initId : String} {bmB : List Value} {p pos : Pos} {e : Expr} {es : List Expr} {kws : List Keyword} {fa : FAr}
theorem mkx_do {σ : St} {H : Hp} {Q : VK} {rv : Bool} (h : tM X.K W (eMk c ks rv fa) σ H Q) :
    tMA X.K W fa σ H fun vs H1 => vs.length = ks.length ∧ ∀ a, H1 a = none → Made (He.ga X.K c) H1 a (ks.zip (if rv then vs.reverse else vs)).reverse fun H' => Q (.ref a) H' := by
  obtain ⟨F, ε, E0, h⟩ := h
  refine ⟨F, ε, E0, DoA.bindE h fun ss ε1 vs H1 F1 a h1 => ?_⟩
  cases q : asD ss with
  | none => rw [q] at h1; exact h1.elim
  | some ds =>
    rw [q] at h1
    simp only at h1
    split at h1
    · rename_i hz
      have rl := a.ok.rep q
      refine ⟨by rw [rl.len]; exact hz, fun b hb => Gives.exc (h1.gives a.eo) a.eo.sub hb ?_⟩
      cases rv
      · exact rl.zip.back
      · exact rl.back.zip.back
    · exact h1.elim
/-- the class and its __init__, as the written part has them -/
structure XM (P : Program) (w : World) (K : PySem.W.Frag) (mg : Str → Option Value) (base : Heap) (n : Nat) (c : Str) (ks : List Str) : Prop where
  ex : ∃ (B newId initId : String) (bmB : List Value) (fI : Addr) (fd : FuncData) (ps : List Str), XBase B newId initId bmB ∧ XC K (He.ga K c) newId bmB ∧ mg c = some (.ref (He.ga K c)) ∧ PySem.W.findIn K (.ref (He.ga K c)) "__init__" = some (some (.ref fI)) ∧
    PySem.W.typeIn K (.ref fI) = some (.type "function") ∧ FnG P w K mg base false n fI fd ps (spI (He.ga K c) ks) ∧
    (∀ (a : Addr) (s : Shared) (us : List Value), us.length = ks.length → K.In s.heap → BindsTo s fd ⟨.ref a :: us, []⟩ (ps.zip (.ref a :: us))) ∧
    (∀ (a : Addr) (s : Shared) (us : List Value), us.length = ks.length → K.In s.heap → BindsTo s fd ⟨[.ref a], ks.zip us⟩ (ps.zip (.ref a :: us))) ∧
    (∀ (a : Addr) (s : Shared) (us : List Value), us.length = ks.length → K.In s.heap → BindsTo s fd ⟨[.ref a], ks.reverse.zip us⟩ (ps.zip (.ref a :: us.reverse)))
/-- C(e, ..) -/
theorem me_mkx (M : XM X.prog X.w X.K X.mg X.base n c ks) (rm : Room (n + 1) X.A) (tk : Takes X W) (hg : Gl X c) (hk : ks.length ≤ 1000) (ha : MA X W (e :: es) fa) (hdb : (c == ("__debug__" : Str)) = false := by decide)
    (he : starEach (e :: es) X.env = (false, eval e X.env) :: starEach es X.env := by rfl) (hpl : (backTo pos (starEach es X.env)).any (·.1) = false := by rfl) :
    ME X W (.Call (.Name c p) (e :: es) [] pos) (eMk c ks false fa) := by
  obtain ⟨B, newId, initId, bmB, fI, fd, ps, XB, T, hm, iC, tI, G, b1, b2, b3⟩ := M.ex
  refine ⟨fun pins st σ H Q I h => ?_⟩
  refine wpAny_Call_Name_kw (ld_glob I hg hm ?_ hdb)
  refine PySem.W.callWith_K (h₀ := X.base) I.ok.mod.kin T.kC (thn (ha.run pos pins st σ H _ I (mkx_do h)) fun us st1 ⟨vs, H1, I1, r, hl, q⟩ => ⟨I1.kIn, ?_⟩) he hpl
  have lu : us.length = ks.length := by rw [← r.length]; exact hl
  exact run_mkx XB T iC tI G rm (passAt tk σ) I1 r hl (by simpa using (by omega : us.length ≤ 1000)) (fun a s k => b1 a s us lu k) q
/-- C() -/
theorem me_mkx0 (M : XM X.prog X.w X.K X.mg X.base n c []) (rm : Room (n + 1) X.A) (tk : Takes X W) (hg : Gl X c) (hdb : (c == ("__debug__" : Str)) = false := by decide) :
    ME X W (.Call (.Name c p) [] [] pos) (eMk c [] false aNil) := by
  obtain ⟨B, newId, initId, bmB, fI, fd, ps, XB, T, hm, iC, tI, G, b1, b2, b3⟩ := M.ex
  refine ⟨fun pins st σ H Q I h => ?_⟩
  refine wpAny_Call_Name_kw (ld_glob I hg hm ?_ hdb)
  obtain ⟨F, ε, E0, h⟩ := mkx_do h
  have z := h [] H F ⟨.refl _, E0, .nil, .refl, fun p v d h1 _ => by simp at h1⟩
  exact PySem.W.callWith_K0 I.kIn T.kC <| run_mkx (us := []) XB T iC tI G rm (passAt tk σ) I .nil z.1 (by simp) (fun a s k => b1 a s [] rfl k) z.2
/-- C(k = v, ..), the parameters in their sequence, or in the contrary one -/
theorem me_mkxK {rv : Bool} (M : XM X.prog X.w X.K X.mg X.base n c ks) (rm : Room (n + 1) X.A) (tk : Takes X W) (hg : Gl X c) (hkw : PK X kws (tMA X.K W fa)) (hall : (backToKw pos (keywordEach kws X.env)).all (·.1.isSome) = true := by rfl)
    (hks : (backToKw pos (keywordEach kws X.env)).filterMap (·.1) = (if rv then ks.reverse else ks) := by rfl) (hdb : (c == ("__debug__" : Str)) = false := by decide)
    (hpl : ((backTo pos (starEach [] X.env)).any (·.1) || (backToKw pos (keywordEach kws X.env)).any (·.1.isNone)) = false := by rfl) :
    ME X W (.Call (.Name c p) [] kws pos) (eMk c ks rv fa) := by
  obtain ⟨B, newId, initId, bmB, fI, fd, ps, XB, T, hm, iC, tI, G, b1, b2, b3⟩ := M.ex
  refine ⟨fun pins st σ H Q I h => ?_⟩
  refine wpAny_Call_Name_kw (ld_glob I hg hm ?_ hdb)
  refine PySem.W.callWith_KW0 (h₀ := X.base) I.ok.mod.kin T.kC hall ?_ hpl
  refine thn (hkw.run pos pins st σ H _ I (mkx_do h)) fun us st1 ⟨vs, H1, I1, r, hl, q⟩ => ⟨I1.kIn, ?_⟩
  have lu : us.length = ks.length := by rw [← r.length]; exact hl
  rw [hks]
  cases rv with
  | false => exact run_mkx (us := []) XB T iC tI G rm (passAt tk σ) I1 r hl (by simp) (fun a s k => b2 a s us lu k) q
  | true =>
    have rr : Vals vs.reverse us.reverse := vals_back r
    exact run_mkx (us := []) XB T iC tI G rm (passAt tk σ) I1 rr (by simpa using hl) (by simp) (fun a s k => b3 a s us lu k) q
def kCons1 (f : FE) (g : FAr) : FAr := aCons f g
theorem pk_one {nm : Option Str} {kpos : Pos} {f : FE} {g : FAr} (h : ME X W e f) (h2 : PK X kws (tMA X.K W g)) : PK X (⟨nm, e, kpos⟩ :: kws) (tMA X.K W (aCons f g)) := by
  have z := pk_cons (nm := nm) (kpos := kpos) h h2
  refine ⟨fun ps pins s σ H Q I q => z.run ps pins s σ H Q I ?_⟩
  obtain ⟨F, ε, E0, h⟩ := q
  refine ⟨F, ε, E0, DoA.bindFR h fun d ε1 v H1 F1 a h1 => ⟨F1, ε1, a.eo, DoA.bind h1 fun ss ε2 vs H2 F2 b h2 => ?_⟩⟩
  refine h2 (v :: vs) H2 F2 ⟨b.fs, b.eo, .val (a.rp.up b.fs) b.ok, b.fr, fun p u d' q1 q2 => ?_⟩
  cases p with
  | zero => simp at q2
  | succ p => exact b.mi p u d' (by simpa using q1) (by simpa using q2)
theorem pk_none : PK X [] (tMA X.K W aNil) := ⟨fun ps pins s σ H Q I q => pk_nil.run ps pins s σ H Q I (by
  obtain ⟨F, ε, E0, h⟩ := q
  exact h [] H F ⟨.refl _, E0, .nil, .refl, fun p v d h1 _ => by simp at h1⟩)⟩
end
end Mi

namespace Mi
open PySem PySem.Spec PyProof.Rows L2

/-! ### texts of data -/
def keyP : Key → PyData
  | .inl i => .int i
  | .inr x => .str x
mutual
def toTx : D → Option PyData
  | .non => some .none
  | .bl b => some (.bool b)
  | .int i => some (.int i)
  | .str x => some (.str x)
  | .lst xs => (toTxL xs).map .list
  | .rol xs => (toTxL xs).map .list
  | .tup xs => (toTxL xs).map .tuple
  | .dct kvs => (toTxK kvs).map .dict
  | .ins _ _ => none
  | .exc _ _ => none
  | .hx _ _ _ _ => none
  | .th _ _ _ _ _ => none
  | .ptp xs => (toTxL xs).map .tuple
def toTxL : List D → Option (List PyData)
  | [] => some []
  | d :: ds => (toTx d).bind fun p => (toTxL ds).map (p :: ·)
def toTxK : List (Key × D) → Option (List (PyData × PyData))
  | [] => some []
  | (k, d) :: ds => (toTx d).bind fun p => (toTxK ds).map ((keyP k, p) :: ·)
end
/-- the written part has the dict of modules -/
def SysIn (K : PySem.W.Frag) : Prop := ∃ o, K.lookup sysModules = some o ∧ o.cls = .type "dict"
theorem reads_key {h : Heap} {k : Key} {u : Value} (e : keyIs k u = true) : Reads h u (keyP k) [] := by
  rcases keyIs_shape e with ⟨i, t, rfl, rfl⟩ | ⟨x, t, rfl, rfl⟩
  · exact .int i t
  · exact .str x t
section
variable {X : Cx} {pins : List (Addr × Obj)} {σ : St} {H : Hp} {s : Shared}
theorem sys_ne (sy : SysIn X.K) (I : Inv X pins σ H s) {a : Addr} {o : Obj} (h : s.heap.get? a = some o) (c : o.cls ≠ .type "dict") : sysModules ≠ a := fun z => by
  obtain ⟨o', h1, h2⟩ := sy
  have h3 := I.kIn _ _ h1
  rw [z, h] at h3
  cases h3
  exact c h2
mutual
theorem Rep.rd (sy : SysIn X.K) (I : Inv X pins σ H s) : ∀ {v : V} {d : D} {p : PyData} {u : Value}, Rep X.K H v d → toTx d = some p → RelV v u → ∃ as, Reads s.heap u p as ∧ sysModules ∉ as
  | _, _, _, _, .non, h, r => by cases h; cases r; exact ⟨_, .none, by simp⟩
  | _, _, _, _, .bl b, h, r => by cases h; cases r; exact ⟨_, .bool b, by simp⟩
  | _, _, _, _, .int i, h, r => by cases h; obtain ⟨t, rfl⟩ := r; exact ⟨_, .int i t, by simp⟩
  | _, _, _, _, .str x, h, r => by cases h; obtain ⟨t, rfl⟩ := r; exact ⟨_, .str x t, by simp⟩
  | _, _, _, _, .lst e rr, h, r => by
    simp only [toTx, Option.map_eq_some_iff] at h
    obtain ⟨ps, h1, rfl⟩ := h
    cases r
    obtain ⟨its, rv, ⟨o, n, ho, hc, _, hd⟩, _⟩ := I.list (SqL.of e)
    obtain ⟨as, hr, hn⟩ := RepL.rd sy I rr h1 rv
    exact ⟨_, .list ho hc hd hr, by simp [hn]; exact sys_ne sy I ho (by rw [hc]; decide)⟩
  | _, _, _, _, .rol e rr, h, r => by
    simp only [toTx, Option.map_eq_some_iff] at h
    obtain ⟨ps, h1, rfl⟩ := h
    cases r
    obtain ⟨its, rv, ⟨o, n, ho, hc, _, hd⟩, _⟩ := I.list e
    obtain ⟨as, hr, hn⟩ := RepL.rd sy I rr h1 rv
    exact ⟨_, .list ho hc hd hr, by simp [hn]; exact sys_ne sy I ho (by rw [hc]; decide)⟩
  | _, _, _, _, .tup e rr, h, r => by
    simp only [toTx, Option.map_eq_some_iff] at h
    obtain ⟨ps, h1, rfl⟩ := h
    cases r
    obtain ⟨its, rv, ⟨o, ho, hc, n, hd⟩, _⟩ := I.tuple e
    obtain ⟨as, hr, hn⟩ := RepL.rd sy I rr h1 rv
    exact ⟨_, .tuple ho hc hd hr, hn⟩
  | _, _, _, _, .dct (a := a) e rr, h, r => by
    simp only [toTx, Option.map_eq_some_iff] at h
    obtain ⟨ps, h1, rfl⟩ := h
    cases r
    obtain ⟨_, hs, vs, kv, o, es, ep, ho, hx, hd, _, pr, _⟩ := dk_of I.hok e
    obtain ⟨as, bs, h2, h3, n1, n2⟩ := RepK.rd sy I rr h1 kv pr
    refine ⟨_, .dict ho hx.1 hd h2 h3, ?_⟩
    simp [n1, n2]
    exact fun z => by rw [← z] at hs; simp at hs
  | _, _, _, _, .ins e r, h, _ => by cases h
  | _, _, _, _, .exc e1 e2 r, h, _ => by cases h
  | _, _, _, _, .exn e, h, _ => by cases h
  | _, _, _, _, .hx e rr, h, _ => by cases h
  | _, _, _, _, .th e rr, h, _ => by cases h
  | _, _, _, _, .ptp (vs := vs) (a := a) e _ rr, h, r => by
    simp only [toTx, Option.map_eq_some_iff] at h
    obtain ⟨ps, h1, rfl⟩ := h
    cases r
    have e' : SqT X.K H a vs := .inl (.inr ⟨_, e⟩)
    obtain ⟨its, rv, ⟨o, ho, hc, n, hd⟩, _⟩ := I.tuple e'
    obtain ⟨as, hr, hn⟩ := RepL.rd sy I rr h1 rv
    exact ⟨_, .tuple ho hc hd hr, hn⟩
theorem RepL.rd (sy : SysIn X.K) (I : Inv X pins σ H s) : ∀ {vs : List V} {ds : List D} {ps : List PyData} {us : List Value}, RepL X.K H vs ds → toTxL ds = some ps → Vals vs us → ∃ as, ReadsAll s.heap us ps as ∧ sysModules ∉ as
  | _, _, _, _, .nil, h, r => by cases h; cases r; exact ⟨_, .nil, by simp⟩
  | _, _, _, _, .cons h1 rr, h, r => by
    simp only [toTxL, Option.bind_eq_some_iff, Option.map_eq_some_iff] at h
    obtain ⟨p, e1, ps, e2, rfl⟩ := h
    cases r with
    | cons r1 r2 =>
      obtain ⟨as, q1, n1⟩ := Rep.rd sy I h1 e1 r1
      obtain ⟨bs, q2, n2⟩ := RepL.rd sy I rr e2 r2
      exact ⟨_, .cons q1 q2, by simp [n1, n2]⟩
theorem RepK.rd (sy : SysIn X.K) (I : Inv X pins σ H s) : ∀ {vs : List (Key × V)} {ds : List (Key × D)} {ps : List (PyData × PyData)} {us : List (Key × Value)} {es : List DictEntry}, RepK X.K H vs ds → toTxK ds = some ps → KV vs us → Pairs (mixKind X.prog X.w) es us →
    ∃ as bs, ReadsAll s.heap (es.map (·.key)) (ps.map (·.1)) as ∧ ReadsAll s.heap (es.map (·.val)) (ps.map (·.2)) bs ∧ sysModules ∉ as ∧ sysModules ∉ bs
  | _, _, _, _, _, .nil, h, r, pr => by cases h; cases r; cases pr; exact ⟨_, _, .nil, .nil, by simp, by simp⟩
  | _, _, _, _, _, .cons h1 rr, h, r, pr => by
    simp only [toTxK, Option.bind_eq_some_iff, Option.map_eq_some_iff] at h
    obtain ⟨p, e1, ps, e2, rfl⟩ := h
    cases r with
    | cons r1 r2 =>
      cases pr with
      | cons k1 k2 k3 =>
        obtain ⟨rk, rv⟩ := r1
        dsimp only at rk rv
        subst rk
        obtain ⟨as, q1, n1⟩ := Rep.rd sy I h1 e1 rv
        obtain ⟨bs, cs, q2, q3, n2, n3⟩ := RepK.rd sy I rr e2 r2 k3
        refine ⟨_, _, .cons (reads_key k1) q2, .cons (k2 ▸ q1) q3, by simp [n2], by simp [n1, n3]⟩
end
end
def oRepr (d : D) : Option Sl := (toTx d).bind fun p => if p.showable = true ∧ p.shown.length ≤ sizeLine ∧ p.depth ≤ 60 then some (.fz (.str p.shown)) else none
def rRepr (K : PySem.W.Frag) : List V → Hp → VK → Prop := fun xs H Q => ∃ v d p, xs = [v] ∧ Rep K H v d ∧ toTx d = some p ∧ p.showable = true ∧ p.shown.length ≤ sizeLine ∧ p.depth ≤ 60 ∧ Q (.str p.shown) H
theorem cr_repr {X : Cx} (sy : SysIn X.K) (gd : X.A.guards = some []) (hu : X.A.units + 64 < cLine) : CallR X (.builtin "repr") (rRepr X.K) := by
  intro pins s σ H xs us Q I r h
  obtain ⟨v, d, p, rfl, rp, e, h1, h2, h3, q⟩ := h
  cases r with
  | cons r0 rr =>
    cases rr
    obtain ⟨as, rd, nm⟩ := rp.rd sy I e r0
    cases rd with
    | none => exact PySem.P.repr_of_none ⟨.str "None", H, I.tok _, ⟨_, rfl⟩, q⟩
    | bool b => exact PySem.P.repr_of_bool ⟨.str _, H, I.tok _, ⟨_, rfl⟩, q⟩
    | int i t => exact PySem.P.repr_of_int (by simpa [PyData.showable] using h1) ⟨.str _, H, I.tok _, ⟨_, rfl⟩, q⟩
    | str x t => exact PySem.P.repr_of_str ⟨.str _, H, I.tok _, ⟨_, rfl⟩, q⟩ h2
    | list a1 a2 a3 a4 => exact repr_of_reads' (.list a1 a2 a3 a4) h1 (fun _ => nm) gd (by omega) (fun _ _ e => e) (fun h' u tk hk => ⟨.str _, H, I.kept (t' := tk) hk, ⟨_, rfl⟩, q⟩) h2
    | tuple a1 a2 a3 a4 => exact repr_of_reads' (.tuple a1 a2 a3 a4) h1 (fun _ => nm) gd (by omega) (fun _ _ e => e) (fun h' u tk hk => ⟨.str _, H, I.kept (t' := tk) hk, ⟨_, rfl⟩, q⟩) h2
    | dict a1 a2 a3 a4 a5 => exact repr_of_reads' (.dict a1 a2 a3 a4 a5) h1 (fun _ => nm) gd (by omega) (fun _ _ e => e) (fun h' u tk hk => ⟨.str _, H, I.kept (t' := tk) hk, ⟨_, rfl⟩, q⟩) h2
theorem RepA.full {K : PySem.W.Frag} {F H : Hp} {v : V} {d : D} (s : Same F H) (r : RepA K F H v d) : Rep K H v d := by
  rcases r with r | ⟨a, o, rfl, h1, h2, t⟩
  · exact r.up s
  · exact (t.up s).rep h2
theorem p_repr {K : PySem.W.Frag} : PrimC K (rRepr K) oRepr := by
  intro F H vx x s Q sm rx e g
  unfold oRepr at e
  simp only [Option.bind_eq_some_iff] at e
  obtain ⟨p, e1, e2⟩ := e
  split at e2
  · rename_i z
    cases e2
    exact ⟨vx, x, p, rfl, rx.full sm, e1, z.1, z.2.1, z.2.2, g.same sm (.str _)⟩
  · cases e2
end Mi

namespace Mi
open PySem PySem.Spec PyProof.Rows L2

/-! ### enumerate -/
def enumD : Nat → List D → List D
  | _, [] => []
  | n, d :: ds => .tup [.int (n : Nat), d] :: enumD (n + 1) ds
theorem enumD_len : ∀ (n : Nat) (ds : List D), (enumD n ds).length = ds.length
  | _, [] => rfl
  | n, _ :: ds => by simp [enumD, enumD_len (n + 1) ds]
theorem enumD_at : ∀ (n : Nat) (ds : List D) (i : Nat) (d : D), ds[i]? = some d → (enumD n ds)[i]? = some (.tup [.int ((n + i : Nat)), d])
  | _, [], _, _, h => by simp at h
  | n, _ :: ds, 0, d, h => by simp at h; subst h; rfl
  | n, _ :: ds, i + 1, d, h => by
    have z := enumD_at (n + 1) ds i d (by simpa using h)
    simp only [enumD, List.getElem?_cons_succ, z]
    congr 4
    omega
def itemsL : D → Option (List D)
  | .lst ds => some ds
  | .rol ds => some ds
  | _ => none
def iEnumF (f : FE) : FI := fun ε => bf (f ε) fun d ε1 => (itemsL d).bind fun ds => some (.v (enumD 0 ds) ε1)
theorem walkD_enum {K : PySem.W.Frag} {F : Hp} {a : Addr} {vs : List V} {ds : List D} (h : SqL K F a vs) (r : RepL K F vs ds) : WalkD K F (Ite K a) (enumD 0 ds) := by
  refine ⟨fun H => SqL K H a vs, fun i H v H' => ∃ T x, v = .ref T ∧ H T = none ∧ H' = upd H T (.tup [.int (i : Nat), x]) ∧ vs[i]? = some x, ?_, fun H' s => sqL_up s h, fun i H1 x H2 F1 hi y s1 s2 => ?_⟩
  · rw [enumD_len, ← r.len]
    refine ⟨fun i H hi g => ⟨vs, vs[i], g, List.getElem?_eq_getElem hi⟩, fun H g => ⟨vs, g, Nat.le_refl _⟩, fun i H x H' hi g y => ?_⟩
    obtain ⟨T, z, e1, e2, e3, e4⟩ := y
    exact ⟨T, z, e1, e2, e3, e4 vs g⟩
  · obtain ⟨T, z, rfl, e2, rfl, e4⟩ := y
    obtain ⟨d, hd, rd⟩ := r.of e4
    refine ⟨upd F1 T (.tup [.int (i : Nat), z]), _, enumD_at 0 ds i d hd, Gr.new s2 e2, ?_⟩
    rw [Nat.zero_add]
    exact .tup (SqT.of upd_same) (.cons (.int _) (.cons ((rd.up s1).up (same_new (s2.free e2))) .nil))
theorem mi_enum {X : Cx} {W : WX} {e : Expr} {f : FE} {p pos tpos : Pos} {elts : List Expr} {kk : Nat} (hg : Gl X "enumerate") (hm : X.mg "enumerate" = none) (h : ME X W e f) (hs : starEach [e] X.env = [(false, eval e X.env)] := by rfl) :
    MI X W (.Tuple elts kk tpos) (.Call (.Name "enumerate" p) [e] [] pos) (iEnumF f) := by
  refine PI.imp (pi_enum hg hm (pa_cons h pa_nil hs) hs) fun σ H Q ⟨F, ε, E0, hq⟩ => ⟨F, ε, E0, DoI.bindF hq fun d ε1 v H1 F1 a h1 => ?_⟩
  cases hi : itemsL d with
  | none => rw [hi] at h1; exact h1.elim
  | some ds =>
    rw [hi] at h1
    have rp := a.rp
    cases rp with
    | lst e1 rl =>
      cases hi
      exact ⟨_, _, rfl, SqL.of (a.eo.sub _ _ e1), h1 _ H1 F1 ⟨.refl _, a.eo, walkD_enum (SqL.of e1) rl, .refl⟩⟩
    | rol e1 rl =>
      cases hi
      exact ⟨_, _, rfl, sqL_up a.eo.sub e1, h1 _ H1 F1 ⟨.refl _, a.eo, walkD_enum e1 rl, .refl⟩⟩
    | _ => cases hi

/-! ### exceptions: what is asked of them -/
/-- the classes cs are own classes of errors -/
def XAll (K : PySem.W.Frag) (cs : List Str) : Prop := ∀ c ∈ cs, ∃ newId bmB, XC K (He.ga K c) newId bmB
def oXf (cs : List Str) (f : Str) : D → Option Sl
  | .exc c gs => if c ∈ cs then (gs.lookup f).map .fz else none
  | _ => none
def rXf (K : PySem.W.Frag) (cs : List Str) (f : Str) : V → Hp → VK → Prop := fun x H Q => ∃ (a : Addr) (c : Str) (dx : Addr) (fs : List (Str × V)) (v : V), x = .ref a ∧ c ∈ cs ∧ H a = some (exo a (He.ga K c) (some dx)) ∧ H dx = some (exd dx fs) ∧ fs.lookup f = some v ∧ Q v H
theorem p_xf {K : PySem.W.Frag} {cs : List Str} {f : Str} : Prim1 K (rXf K cs f) (oXf cs f) := by
  intro F H vx x s Q sm rx e g
  have r := rx
  rcases r with r | ⟨a, o, rfl, h1, h2, t⟩
  · cases r with
    | exc e1 e2 rf =>
      simp only [oXf] at e
      split at e
      · rename_i hc
        simp only [Option.map_eq_some_iff] at e
        obtain ⟨d, e3, rfl⟩ := e
        obtain ⟨v, hv, rv⟩ := rf.look e3
        exact ⟨_, _, _, _, v, rfl, hc, sm _ _ e1, sm _ _ e2, hv, g.same sm rv⟩
      · cases e
    | exn e1 =>
      simp only [oXf] at e
      split at e
      · simp at e
      · cases e
    | _ => cases e
  · cases x with
    | exc c gs => exact t.elim
    | _ => cases e
theorem me_xf {X : Cx} {W : WX} {cs : List Str} {f : Str} {e : Expr} {fe : FE} {pos : Pos} (T : XAll X.K cs) (hno : ∀ c ∈ cs, PySem.W.findIn X.K (.ref (He.ga X.K c)) f = some none) (he : ME X W e fe) (hb : attributeBase e f X.env (eval e X.env) = eval e X.env := by rfl) :
    ME X W (.Attribute e f pos) (e1 (oXf cs f) fe) := by
  refine ⟨fun pins s σ H Q I h => ?_⟩
  refine attr_of hb (thn (he.run pins s σ H _ I (e1_ok p_xf h)) fun u s1 hh => ?_)
  obtain ⟨x, H1, I1, rx, a, c, dx, fs, v, ex, hc, ea, ed, l, q⟩ := hh
  subst ex
  obtain rfl : u = Value.ref a := rx
  obtain ⟨newId, bmB, C⟩ := T c hc
  obtain ⟨t1, ho⟩ := exo_at I1.hok ea
  obtain ⟨mA, hns, hr⟩ := exd_at I1.hok ed
  obtain ⟨od, hod, hl⟩ := lookIn_ns hns
  obtain ⟨u, hu, ru⟩ := RelO.some_of (v := v) (o := mA f) (by rw [← l]; exact hr f)
  have J : PySem.W.InstAt s1.heap a _ (He.ga X.K c) (some od) := ⟨ho, rfl, rfl, hod⟩
  exact HandSPX.exc_get I1.kIn J C.ga C.gg C.exC (PySem.W.findObj_own C.hd (hno c hc) rfl (by rw [hl, hu])) (handed_of ru) ⟨v, H1, I1.tok _, ru, q⟩
/-- isinstance(e, c), e an exception -/
def oIsx (tb : List (Str × Bool)) : D → Option Sl
  | .exc c _ => (tb.lookup c).map fun b => .fz (.bl b)
  | _ => none
def rIsx (K : PySem.W.Frag) (tb : List (Str × Bool)) (k : V) : List V → Hp → VK → Prop := fun xs H Q => ∃ (a : Addr) (c : Str) (b : Bool), xs = [.ref a, k] ∧ tb.lookup c = some b ∧ (H a = some (exo a (He.ga K c) none) ∨ ∃ dx fs, H a = some (exo a (He.ga K c) (some dx)) ∧ H dx = some (exd dx fs)) ∧ Q (.bl b) H
theorem cr_isx {X : Cx} {tb : List (Str × Bool)} {k : V} {kv : Value} (hk : ClsV k kv) (O : ObC X.K) (T : ∀ c b, tb.lookup c = some b → (∃ newId bmB, XC X.K (He.ga X.K c) newId bmB) ∧ PySem.W.kitOne X.K (.ref (He.ga X.K c)) kv = some b) :
    CallR X (.builtin "isinstance") (rIsx X.K tb k) := by
  intro pins s σ H xs us Q I r h
  obtain ⟨a, c, b, rfl, hb, ho, q⟩ := h
  obtain ⟨⟨newId, bmB, C⟩, kt⟩ := T c b hb
  obtain ⟨u1, u2, rfl, r1, r2⟩ := vals2 r
  have e2 := hk.eq r2
  subst e2
  cases r1
  obtain ⟨ox, od, J⟩ : ∃ ox od, PySem.W.InstAt s.heap a ox (He.ga X.K c) od := by
    rcases ho with ho | ⟨dx, fs, ho, hd⟩
    · obtain ⟨t1, z⟩ := exo_at I.hok ho
      exact ⟨_, none, z, rfl, rfl, trivial⟩
    · obtain ⟨t1, z⟩ := exo_at I.hok ho
      obtain ⟨mA, hns, hr⟩ := exd_at I.hok hd
      obtain ⟨oD, hoD, hl⟩ := lookIn_ns hns
      exact ⟨_, some oD, z, rfl, rfl, hoD⟩
  exact PySem.W.kia_one (PySem.W.kitx_exc (ox := ox) (od := od) C.cl C.ga C.gg C.exC C.cc O.sp O.tk C.ob) I.kIn J kt (fun z => nomatch z) fun tk => ⟨.bl b, H, I.kept (t' := tk) fun _ _ z => z, rfl, q⟩
theorem p_isx {K : PySem.W.Frag} {tb : List (Str × Bool)} {k : V} : Prim1 K (fun x H Q => rIsx K tb k [x, k] H Q) (oIsx tb) := by
  intro F H vx x s Q sm rx e g
  have r := rx
  rcases r with r | ⟨a, o, rfl, h1, h2, t⟩
  · cases r with
    | exc e1 e2 rf =>
      simp only [oIsx, Option.map_eq_some_iff] at e
      obtain ⟨b, hb, rfl⟩ := e
      exact ⟨_, _, b, rfl, hb, .inr ⟨_, _, sm _ _ e1, sm _ _ e2⟩, g.same sm (.bl b)⟩
    | exn e1 =>
      simp only [oIsx, Option.map_eq_some_iff] at e
      obtain ⟨b, hb, rfl⟩ := e
      exact ⟨_, _, b, rfl, hb, .inl (sm _ _ e1), g.same sm (.bl b)⟩
    | _ => cases e
  · cases x with
    | exc c gs => exact t.elim
    | _ => cases e
theorem me_isx {X : Cx} {W : WX} {tb : List (Str × Bool)} {k : V} {kv : Value} {e ce : Expr} {fe : FE} {p pos : Pos} (hk : ClsV k kv) (O : ObC X.K) (T : ∀ c b, tb.lookup c = some b → (∃ newId bmB, XC X.K (He.ga X.K c) newId bmB) ∧ PySem.W.kitOne X.K (.ref (He.ga X.K c)) kv = some b)
    (hg : Gl X "isinstance") (hm : X.mg "isinstance" = none) (he : ME X W e fe) (hc : PE X ce (tC k)) (hs : starEach [e, ce] X.env = (false, eval e X.env) :: starEach [ce] X.env := by rfl) (hs2 : starEach [ce] X.env = (false, eval ce X.env) :: starEach [] X.env := by rfl)
    (hpl : (backTo pos (starEach [ce] X.env)).any (·.1) = false := by rfl) : ME X W (.Call (.Name "isinstance" p) [e, ce] [] pos) (e1 (oIsx tb) fe) :=
  PE.imp (pe_callB (cr_isx hk O T) hg hm (by decide +kernel) (pa_cons he (pa_cons hc pa_nil hs2) hs) (by decide) (by decide) hs hpl) fun _ _ _ h => e1_ok p_isx h
end Mi

namespace Mi
open PySem PySem.Spec PyProof.Rows L2
/-! ### a Hook with a further test of the written part, the dict of modules among it -/
theorem sysB_ok {K : PySem.W.Frag} (h : sysB K = true) : SysIn K := by
  unfold sysB at h
  split at h
  · rename_i o e
    exact ⟨o, e, beq_iff_eq.mp h⟩
  · cases h
theorem obcB_ok {K : PySem.W.Frag} (h : obcB K = true) : ObC K := by
  unfold obcB at h
  simp only [Bool.and_eq_true, decide_eq_true_eq] at h
  exact ⟨h.1, h.2⟩
/-- the classes with their built-in bases -/
theorem xallB_at {K : PySem.W.Frag} {cs : List (Str × String)} (h : xallB K cs = true) {p : Str × String} (m : p ∈ cs) : XC K (He.ga K p.1) (p.2 ++ ".__new__") (tlOf p.2) := xcB_ok (List.all_eq_true.mp h p m)
theorem xallB_ok {K : PySem.W.Frag} {cs : List (Str × String)} (h : xallB K cs = true) : XAll K (cs.map (·.1)) := fun c hc => by
  obtain ⟨p, m, rfl⟩ := List.mem_map.mp hc
  exact ⟨_, _, xallB_at h m⟩
theorem nofB_ok {K : PySem.W.Frag} {cs : List Str} {f : Str} (h : nofB K cs f = true) : ∀ c ∈ cs, PySem.W.findIn K (.ref (He.ga K c)) f = some none := fun c hc => He.eqO_ok (List.all_eq_true.mp h c hc)
/-- which of the classes are under the class that a name, or a built-in type, tells -/
theorem lookup_mem {tb : List (Str × Bool)} {c : Str} {b : Bool} (h : tb.lookup c = some b) : (c, b) ∈ tb := by
  induction tb with
  | nil => simp at h
  | cons p tb ih =>
    obtain ⟨k, v⟩ := p
    rw [List.lookup_cons] at h
    cases q : (c == k) with
    | true =>
      rw [q] at h
      cases h
      rw [beq_iff_eq.mp q]
      exact List.mem_cons_self ..
    | false =>
      rw [q] at h
      exact List.mem_cons_of_mem _ (ih h)
theorem isB_ok {K : PySem.W.Frag} {t : Str ⊕ String} {tb : List (Str × Bool)} {cs : List (Str × String)} (h : isB K t tb = true) (x : xallB K cs = true) (s : (tb.all fun p => (cs.map (·.1)).contains p.1) = true) :
    ∀ c b, tb.lookup c = some b → (∃ newId bmB, XC K (He.ga K c) newId bmB) ∧ PySem.W.kitOne K (.ref (He.ga K c)) (kvOf K t) = some b := fun c b e => by
  have m := lookup_mem e
  refine ⟨xallB_ok x c (by simpa using List.all_eq_true.mp s _ m), of_decide_eq_true (List.all_eq_true.mp h _ m)⟩
/-- an __init__ of such a class -/
theorem inB_ok {K : PySem.W.Frag} {cs : List Str} (h : inB K cs = true) {c : Str} (m : c ∈ cs) : PySem.W.findIn K (.ref (He.ga K c)) "__init__" = some (some (.ref (He.fAd K (c, some "__init__")))) ∧ PySem.W.typeIn K (.ref (He.fAd K (c, some "__init__"))) = some (.type "function") := by
  have z := List.all_eq_true.mp h c m
  simp only [Bool.and_eq_true, decide_eq_true_eq] at z
  exact ⟨He.eqO_ok z.1, z.2⟩
theorem FunD.kb {K : PySem.W.Frag} {x qual : Str} {params : Arguments} {body : List Stmt} {scope : Scope} {kws : List (Str × V)} {f : Addr} {fd : FuncData} (F : FunD K x qual params body scope [] kws f fd) {ar : Args} {bs : List (Str × Value)}
    (h : ∀ (kV doc pm : Value) (an : Option Addr) (cdv ct : Value), bindArgs (PySem.W.fnOf x qual params body scope .none kV doc pm an cdv ct) ar = pure bs) (s : Shared) : BindsTo s fd ar bs := by
  obtain ⟨oc, od, dV, kV, doc, pm, an, cdv, ct, osl, rfl, lk, hcd, hD, hK⟩ := F.ex
  rcases hD with ⟨_, rfl⟩ | ⟨e, _⟩
  · exact .of_eq (h kV doc pm an cdv ct)
  · exact absurd rfl e
end Mi

namespace Mi
open PySem PySem.Spec PyProof.Rows L2
section
variable {P : Program} {w : World} {K : PySem.W.Frag} {mg mb : Str → Option Value} {u : Bool} {k : Nat} {fa a : Addr} {fd : FuncData} {x : Str} {sp : Sp} {st : Shared} {vs : List Value} {ns : List Int}
/-- what the law's def promises, at its caller, where nothing but the script is tracked -/
theorem call_from {H : Hp} (KX : K.In st.heap) (n1 : st.heap.Ns mainGlobals mg) (n2 : st.heap.Ns builtinsNs mb) (n3 : ∀ y : Str, y ≠ "__name__" → mb y = bootBuiltins y) (n4 : st.heap.NoLimit) (n5 : st.gens = #[])
    (ha : st.heap.get? a = some { cls := .type "list", data := .seq vs.toArray }) (hr : Room k callerA) (F : ∀ base : Heap, K.In base → base.Ns mainGlobals mg → FnG P w K mg base u k fa fd [x] sp)
    (bd : ∀ (s : Shared) (v : Value), BindsTo s fd ⟨[v], []⟩ [(x, v)]) (only : Only H) (hok : HOk P w H st.heap) (hA : ∀ b, H b ≠ none → b = a) (hK : H a ≠ none → K.lookup a = none)
    (wish : sp [.ref a] H (fun v _ => v = .bl true) fun _ _ _ => False) :
    codeAny (model P w) callerA (.call (.ref fa) ⟨[.ref a], []⟩) (fun r s' => r = .ok (.ret (.bool true)) ∧ OldK st.heap s'.heap ∧ s'.os = st.os ∧ AllBare s'.gens) st := by
  have seen : ∀ {b : Addr} {o : Obj}, st.heap.get? b = some o → H b = none → (hidT st.heap H).get? b = some o := fun e n => hidT_get e n
  have at_ : ∀ {b : Addr} {v : HO}, H b = some v → b = a := fun {b v} q => hA b (by rw [q]; simp)
  have dicts : ∀ {b : Addr} {o : Obj} {es : Array DictEntry} {ep : Nat}, st.heap.get? b = some o → o.data = .dict es ep → H b = none := fun {b o es ep} e d => by
    cases q : H b with
    | none => rfl
    | some v =>
      have z := at_ q
      subst z
      rw [ha] at e
      cases e
      have z : Data.seq vs.toArray _ = Data.dict es ep := d
      cases z
  have spaces : ∀ {b : Addr} {m : Str → Option Value}, st.heap.Ns b m → (hidT st.heap H).Ns b m := fun {b m} ⟨o, es, ep, e, d, r⟩ => ⟨o, es, ep, seen e (dicts e d), d, r⟩
  have inB : K.In (hidT st.heap H) := fun b o e => seen (KX b o e) (by
    cases q : H b with
    | none => rfl
    | some v =>
      have z := at_ q
      subst z
      rw [hK (by rw [q]; simp)] at e
      cases e)
  have md : Mod K mg (hidT st.heap H) := ⟨inB, spaces n1, ⟨mb, spaces n2, n3⟩, let ⟨mc, h1, h2⟩ := n4; ⟨mc, spaces h1, h2⟩⟩
  have ev : Env0 P w K mg (hidT st.heap H) callerA [] st H :=
    ⟨rfl, md, fun b o e => of_hidT e, Nat.le_of_eq (hidT_size _ _), trivial, fun b hb => absurd (show b ∈ ([] : List Addr) from hb) (by simp), hok, .of_eq n5⟩
  refine codeAny_mono ((F _ inB (spaces n1)).run callerA [] st H ⟨[.ref a], []⟩ [.ref a] [.ref a] _ _ hr (fun _ => rfl) ev (bd st (.ref a)) (.cons rfl .nil) wish) fun r s' h => ?_
  cases r with
  | error e =>
    have z : L2.CX P w [] H st (fun _ _ _ => False) e s' := h
    obtain ⟨_, _, _, _, _, _, _, _, _, _, _, _, y⟩ := z
    first | exact y.elim | simp at y
  | ok fl =>
    cases fl with
    | ret v' =>
      obtain ⟨v, H', os, bare, un, hok', rv, q⟩ := h
      have q : v = .bl true := q
      subst q
      have rv : v' = Value.bool true := rv
      subst rv
      refine ⟨rfl, OldK.of_keep fun b o e => ?_, os, bare⟩
      cases q : H b with
      | none => exact un.keep b o e q (fun z => absurd (show b ∈ ([] : List Addr) from z) (by simp)) (by simp)
      | some t =>
        rcases only b with z | ⟨ob, xs, z⟩
        · rw [q] at z
          cases z
        · obtain ⟨e1, _⟩ := hok b _ z
          obtain ⟨e2, _⟩ := hok' b _ (un.frzs b ob _ z)
          rw [e] at e1
          cases e1
          exact e2
    | next => exact h.elim
    | brk => exact h.elim
    | cont => exact h.elim
theorem call_law (KX : K.In st.heap) (n1 : st.heap.Ns mainGlobals mg) (n2 : st.heap.Ns builtinsNs mb) (n3 : ∀ y : Str, y ≠ "__name__" → mb y = bootBuiltins y) (n4 : st.heap.NoLimit) (n5 : st.gens = #[])
    (ha : st.heap.get? a = some { cls := .type "list", data := .seq vs.toArray }) (hi : IntsAre vs ns) (hl : ns.length ≤ sizeLine) (hr : Room k callerA) (F : ∀ base : Heap, K.In base → base.Ns mainGlobals mg → FnG P w K mg base u k fa fd [x] sp)
    (bd : ∀ (s : Shared) (v : Value), BindsTo s fd ⟨[v], []⟩ [(x, v)]) (wish : ∀ H : Hp, Only H → SqL K H a (ns.map V.int) → sp [.ref a] H (fun v _ => v = .bl true) fun _ _ _ => False) :
    codeAny (model P w) callerA (.call (.ref fa) ⟨[.ref a], []⟩) (fun r s' => r = .ok (.ret (.bool true)) ∧ OldK st.heap s'.heap ∧ s'.os = st.os ∧ AllBare s'.gens) st := by
  have rv := vals_ints hi
  have lv := hi.length
  cases hk : K.lookup a with
  | some o =>
    have e := KX a o hk
    rw [ha] at e
    cases e
    have o0 : Only (fun _ => none) := fun _ => .inl rfl
    refine call_from (H := fun _ => none) KX n1 n2 n3 n4 n5 ha hr F bd o0 (fun b v z => by have z : (none : Option HO) = some v := z; cases z) (fun b z => absurd rfl z) (fun z => absurd rfl z) (wish _ o0 ?_)
    exact .inr ⟨_, vs.toArray, _, hk, rfl, rfl, rfl, by rw [List.size_toArray, lv]; exact hl, by simpa using rv⟩
  | none =>
    have o0 : Only (fun b => if b = a then some (.frz { cls := .type "list", data := .seq vs.toArray } (.lst (ns.map V.int))) else none) := fun b => by
      by_cases hb : b = a
      · exact .inr ⟨_, _, if_pos hb⟩
      · exact .inl (if_neg hb)
    refine call_from KX n1 n2 n3 n4 n5 ha hr F bd o0 (fun b v z => ?_) (fun b z => ?_) (fun _ => hk) (wish _ o0 (.inl (.inr ⟨{ cls := .type "list", data := .seq vs.toArray }, if_pos rfl⟩)))
    · by_cases hb : b = a
      · have y := (if_pos hb).symm.trans z
        cases y
        subst hb
        exact ⟨ha, by rw [List.length_map]; exact hl, vs, _, rv, ha⟩
      · have y := (if_neg hb).symm.trans z
        cases y
    · by_cases hb : b = a
      · exact hb
      · exact absurd (if_neg hb) z
end
/-- the goal behind the head, by the promise of the law's def -/
theorem walk_law {l : PySem.W.OpenLaw} {n k : Nat} {q : Program} {loose : List Str} {XP : (Str → Option Value) → Heap → Prop} {YP : World → Heap → Prop} {d : DefRec} {u : Bool} {x : Str} (hn : l.most = some n) (hn2 : n ≤ sizeLine) (hdf : d.params.defaults = []) (hr : Room k callerA)
    (F : ∀ (w : World) (mg : Str → Option Value) (fa : Addr) (h : Heap), YP w h → h.Ns mainGlobals mg → mg d.name = some (.ref fa) →
      ∃ (K : PySem.W.Frag) (fd : FuncData) (sp : Sp), K.In h ∧ (∀ (s : Shared) (v : Value), BindsTo s fd ⟨[v], []⟩ [(x, v)]) ∧
        (∀ (H : Hp) (a : Addr) (ns : List Int), ns.length ≤ n → Only H → SqL K H a (ns.map V.int) → sp [.ref a] H (fun v _ => v = .bl true) fun _ _ _ => False) ∧
        ∀ base : Heap, K.In base → base.Ns mainGlobals mg → FnG l.prog w K mg base u k fa fd [x] sp) : PySem.W.WalkO q loose XP YP l.row.toRowW d [] (fun f vs => PySem.call f vs) := by
  refine Att.attach_call hn hdf fun w s0 s1 mg mb fa o pm cd doc a vs ns G Y ho hd hcd hmg hobj hints hlen hg => ?_
  obtain ⟨K, fd, sp, KX, hb, hsp, hF⟩ := F w mg fa _ Y G.T.g hmg
  exact call_law KX G.T.g G.T.b G.T.builtins G.T.nolimit hg hobj hints (Nat.le_trans hlen hn2) hr hF hb fun H hO hS => hsp H a ns hlen hO hS
end Mi

namespace Mi
open PySem PySem.Spec PyProof.Rows L2

/-! ### raise C(e, ..) -/
theorem del_made {H : Hp} {a d : Addr} {o : HO} {fs : List (Str × V)} {u : HO} (ha : H a = none) (hd : d ≠ a) : upd (L2.del (upd (upd H d o) a u) a) d (.xd fs) = upd H d (.xd fs) := funext fun b => by
  by_cases hb : b = d
  · rw [hb, upd_same, upd_same]
  · rw [upd_ne hb, upd_ne hb]
    by_cases hba : b = a
    · rw [hba, del_same, ha]
    · rw [del_ne hba, upd_ne hba, upd_ne hb]
section
variable {X : Cx} {W : WX} {n : Nat} {C fI : Addr} {fd : FuncData} {ps ks : List Str} {B newId initId : String} {bmB : List Value}
theorem run_rzx {pins : List (Addr × Obj)} {σ : St} {H : Hp} {s : Shared} {Q : XK} {us zs : List Value} {kz : List (Str × Value)} {xs : List V} {E : XK} (XB : XBase B newId initId bmB) (T : XC X.K C newId bmB) (iC : PySem.W.findIn X.K (.ref C) "__init__" = some (some (.ref fI)))
    (tI : PySem.W.typeIn X.K (.ref fI) = some (.type "function")) (G : FnG X.prog X.w X.K X.mg X.base false n fI fd ps (spI C ks)) (rm : Room (n + 1) X.A) (hx : PassesAt (L2.CX X.prog X.w) X σ E) (I : Inv X pins σ H s) (r : Vals xs zs) (hl : xs.length = ks.length) (h0 : ks ≠ []) (hus : us.length ≤ 1000)
    (bd : ∀ (a : Addr) (s : Shared), X.K.In s.heap → BindsTo s fd ⟨.ref a :: us, kz⟩ (ps.zip (.ref a :: zs)))
    (h : ∀ d, H d = none → Q (.ref C) (some d) (upd H d (.xd (ks.zip xs).reverse))) :
    wpAny (model X.prog X.w) X.A (call (.ref C) us kz) (MkP X pins σ Q) X.xe s := by
  obtain ⟨nm, N, q, bs, bm, hd, sn, sub, ab, col, dd, k0, k1, k2, k3, k5, hC, hT⟩ := PySem.W.excInit_of I.kIn T.ini
  obtain ⟨hp, g, dr, tk, os⟩ := s
  have hsz : hp.objs.size ≤ hp.objs.size + 1 := Nat.le_succ _
  have hn : H (hp.objs.size + 1) = none := I.hok.fresh hsz
  have kk : ∀ b o, hp.get? b = some o → ((hp.push (PySem.W.kdv_tup us)).push (PySem.HandSPX.excO C hp.objs.size)).get? b = some o := fun b o e => Heap.get?_push_of_some _ (Heap.get?_push_of_some _ e)
  have hget : ((hp.push (PySem.W.kdv_tup us)).push (PySem.HandSPX.excO C hp.objs.size)).get? (hp.objs.size + 1) = some (PySem.HandSPX.excO C hp.objs.size) := by heap_get
  have I2 := I.laid (t' := tk) (a := hp.objs.size + 1) (o := exo (hp.objs.size + 1) C none) (h' := (hp.push (PySem.W.kdv_tup us)).push (PySem.HandSPX.excO C hp.objs.size)) kk hsz (exo_ok hget)
  have hne : (ks.zip xs).reverse ≠ [] := by
    cases ks with
    | nil => exact absurd rfl h0
    | cons k ks =>
      cases xs with
      | nil => simp at hl
      | cons x xs => simp
  have hq : spI C ks (V.ref (hp.objs.size + 1) :: xs) (upd H (hp.objs.size + 1) (exo (hp.objs.size + 1) C none)) (fun v H2 => v = .non ∧ ∃ (d : Addr) (fs : List (Str × V)), H2 (hp.objs.size + 1) = some (exo (hp.objs.size + 1) C (some d)) ∧ H2 d = some (exd d fs) ∧ H d = none ∧
      Q (.ref C) (some d) (upd (L2.del H2 (hp.objs.size + 1)) d (.xd fs))) E := by
    refine ⟨_, xs, rfl, hl, H, hn, rfl, .inr ⟨hne, fun dx h1 h2 => ⟨rfl, dx, _, upd_same, by rw [upd_ne h2, upd_same], h1, ?_⟩⟩⟩
    rw [del_made hn h2]
    exact h dx h1
  have r2 : Vals (V.ref (hp.objs.size + 1) :: xs) (Value.ref (hp.objs.size + 1) :: zs) := .cons rfl r
  refine wpAny_call (MiX.call_kw XB.F hT hC (PySem.W.looks_findIn I.kIn iC) (fun self => PySem.W.bind_fn I.kIn self tI) (by rw [sizeLine_eq]; omega)
    (codeAny_mono (G.run _ X.stack _ _ ⟨Value.ref (hp.objs.size + 1) :: us, kz⟩ (Value.ref (hp.objs.size + 1) :: zs) _ _ E (rm.make C us kz) (fun z => Bool.noConfusion z) (I2.env0.make C us kz) (bd _ _ I2.kIn) r2 hq) fun r s' hq' => ?_))
  cases r with
  | error er => exact hx pins _ _ er s' I2 hq'
  | ok fl =>
    cases fl with
    | ret u =>
      obtain ⟨v, H2, os2, bare2, un2, hok2, rv, ev, d, fs, ea, ed, hd1, q2⟩ := hq'
      subst ev
      obtain ⟨h2, g2, d2, t2, os'⟩ := s'
      exact ⟨rv, mk_end (raises_own T.exC T.tyC) I hsz kk un2 hok2 os2 bare2 ea ed hd1 q2⟩
    | next => exact False.elim hq'
    | brk => exact False.elim hq'
    | cont => exact False.elim hq'
end
def sRz (c : Str) (ks : List Str) (fa : FAr) : FS := fun ε => match fa ε with
  | some (.v ss ε1) => (match asD ss with
    | some ds => if ds.length = ks.length ∧ ks ≠ [] then some (.ex c (ks.zip ds).reverse ε1) else none
    | none => none)
  | some (.x c gs ε1) => some (.ex c gs ε1)
  | none => none
section
variable {X : Cx} {W : WX} {n np : Nat} {c : Str} {ks : List Str} {p pos pos' : Pos} {e : Expr} {es : List Expr} {fa : FAr}
theorem rz_do {σ : St} {H : Hp} {Z : Ends} (h : sM X.K W np (sRz c ks fa) Z σ H) :
    tMA X.K W fa σ H fun vs H1 => vs.length = ks.length ∧ ks ≠ [] ∧ ∀ d, H1 d = none → W (.ref (He.ga X.K c)) (some d) σ (upd H1 d (.xd (ks.zip vs).reverse)) := by
  obtain ⟨F, ε, E0, h⟩ := h
  refine ⟨F, ε, E0, ?_⟩
  unfold sRz at h
  cases q : fa ε with
  | none => rw [q] at h; exact h
  | some r =>
    rw [q] at h
    cases r with
    | x c' gs ε1 => exact DoS.exx h
    | v ss ε1 =>
      intro vs H1 F1 a
      simp only at h
      cases q2 : asD ss with
      | none => rw [q2] at h; exact h.elim
      | some ds =>
        rw [q2] at h
        simp only at h
        split at h
        · rename_i hz
          have rl := a.ok.rep q2
          refine ⟨by rw [rl.len]; exact hz.1, hz.2, fun d hd => ?_⟩
          have gr : Gr F1 H1 F1 (upd H1 d (.xd (ks.zip vs).reverse)) := Gr.loose a.eo.sub hd
          refine h d σ _ F1 a.fs (a.eo.grow gr) ⟨⟨_, upd_same, rl.zip.back⟩, fun b o ob z => ?_⟩ .refl (a.fr.trans gr.frm)
          have := (a.fr b o ob).at_
          rw [z, hd] at this
          cases this
        · exact h.elim
theorem ms_raise (hc : X.calm = true) (M : XM X.prog X.w X.K X.mg X.base n c ks) (rm : Room (n + 1) X.A) (tk : Takes X W) (hg : Gl X c) (hk : ks.length ≤ 1000) (ha : MA X W (e :: es) fa) (hdb : (c == ("__debug__" : Str)) = false := by decide)
    (he : starEach (e :: es) X.env = (false, eval e X.env) :: starEach es X.env := by rfl) (hpl : (backTo pos (starEach es X.env)).any (·.1) = false := by rfl) :
    MS X W np (.Raise (some (.Call (.Name c p) (e :: es) [] pos)) none pos') (sRz c ks fa) := by
  obtain ⟨B, newId, initId, bmB, fI, fd, ps, XB, T, hm, iC, tI, G, b1, b2, b3⟩ := M.ex
  have mk : PMk X (.Call (.Name c p) (e :: es) [] pos) (fun σ H Q => tMA X.K W fa σ H fun vs H1 => vs.length = ks.length ∧ ks ≠ [] ∧ ∀ d, H1 d = none → Q (.ref (He.ga X.K c)) (some d) (upd H1 d (.xd (ks.zip vs).reverse))) := by
    intro pins st σ H Q I h
    refine wpAny_Call_Name_kw (ld_glob I hg hm ?_ hdb)
    refine PySem.W.callWith_K (h₀ := X.base) I.ok.mod.kin T.kC (thn (ha.run pos pins st σ H _ I h) fun us st1 ⟨vs, H1, I1, r, hl, h0, q⟩ => ⟨I1.kIn, ?_⟩) he hpl
    have lu : us.length = ks.length := by rw [← r.length]; exact hl
    exact run_rzx XB T iC tI G rm (passAt tk σ) I1 r hl h0 (by simpa using (by omega : us.length ≤ 1000)) (fun a s k => b1 a s us lu k) q
  exact PS.imp (ps_raise hc tk mk) fun Z σ H h => rz_do h
end
end Mi

namespace Mi
open PySem PySem.Spec PyProof.Rows L2

/-! ### several except clauses that name what they catch -/
abbrev Su := Addr → Value → Option Addr → TS
def endsA (i : Nat) (D : Ends) : Ends := { nx := fun σ' H' => D.nx (σ'.set i none) H', rt := D.rt, bk := fun σ' H' => D.bk (σ'.set i none) H', ct := fun σ' H' => D.ct (σ'.set i none) H' }
def wManyA (K : PySem.W.Frag) (i : Nat) (Wout : WX) (D : Ends) : List (Value × Su) → WX
  | [] => Wout
  | (c, ts) :: r => fun cls d σ H => ∃ b, PySem.W.exmOne K cls c = some b ∧ (b = true → ∀ a, H a = none → ts a cls d (endsA i D) (σ.set i (some (.ref a))) H) ∧ (b = false → wManyA K i Wout D r cls d σ H)
inductive HdsA (X : Cx) (n : Str) : List ExceptHandler → List (Value × Su) → Prop
  | nil : HdsA X n [] []
  | cons {x : Str} {c : Value} {ts : Su} {b₀ : Stmt} {suite : List Stmt} {np pos' : Pos} {hds : List ExceptHandler} {l : List (Value × Su)} (hc : Names X x c)
      (hsu : ∀ (a : Addr) (oe : Obj) (cls : Value) (d : Option Addr) (pn : List (Addr × Obj)), Zc cls d oe → (∃ vs, oe.data = .fields vs) → PSs (X.suite a ((a, oe) :: pn)) (b₀ :: suite) (ts a cls d)) (r : HdsA X n hds l) :
      HdsA X n (.ExceptHandler (some (.Name x np)) (some n) (b₀ :: suite) pos' :: hds) ((c, ts) :: l)
section
variable {X : Cx} {body : List Stmt} {h₀ : ExceptHandler} {hds : List ExceptHandler} {l : List (Value × Su)} {pos : Pos} {tb : WX → TS} {Wout : WX} {i : Nat} {n : Str}
theorem ps_try_manyA (hs : X.stack = X.env :: X.outer) (hf : X.env.frame = some X.env.locals) (hN : X.N.Nodup) (hi : X.N[i]? = some n) (hln : X.env.kindOf n = some .local) (tk : Takes X Wout)
    (hb : ∀ (W : WX) (pn : List (Addr × Obj)) (xe : Value → Shared → Prop), Takes (X.tr pn xe) W → PassesOwn (model X.prog X.w) X.A X.env xe → PSs (X.tr pn xe) body (tb W))
    (hh : HdsA X n (h₀ :: hds) l) : PS X (.Try body (h₀ :: hds) [] [] pos) (fun D σ H => tb (wManyA X.K i Wout D l) D σ H) := by
  refine ⟨fun pins s σ H D I h => ?_⟩
  have ok := I.ok
  have hfr : X.A.frames = some (X.env :: X.outer) := by rw [ok.frames, hs]
  have hloc : Loc X.env.scope n := .inl hln
  refine wpAny_Try_except ?_
  refine wpAny_mono ((hb (wManyA X.K i Wout D l) (X.pn ++ pins) (fun e s₁ => wpAny (model X.prog X.w) X.A (noteFrame e X.env) (fun _ s₂ => wpAny (model X.prog X.w) X.A (setFlight e none) (fun _ s₃ =>
    wpAny (model X.prog X.w) X.A (handleBy e X.env (h₀ :: hds)) (SP X pins D) X.xe s₃) X.xe s₂) X.xe s₁) (fun u s' xx => ?_) PassesOwn.looking).run [] s σ H D (I.toTry _) h) (fun f s1 hsp => ?_) (fun e s1 he => he)
  · obtain ⟨a, B, sI, pins', σ', H', cls, d, rfl, J', nb, up, sky, na, os, ag, w⟩ := xx
    have J : Inv X pins σ' H' sI := J'.ofTry ok
    have sky' : Sky B (X.env :: X.outer) a (Zc cls d) X.env.locals s'.heap := by rw [← hs]; exact sky
    show wpAny (model X.prog X.w) X.A (noteFrame (.ref a) X.env) _ _ _
    refine Sky.land Zc.steady hfr hf sky' fun h3 fl3 up3 => ?_
    have J3 : Inv X pins σ' H' { s' with heap := h3 } := J.landed nb fl3.1 (up.trans up3) os ag
    obtain ⟨oe3, vs3, he3, hz3, hd3⟩ := fl3.there
    have notFr : ∀ {h : Heap} {o : Obj} {vs : Array Value}, h.FunFrames B (X.env :: X.outer) → h.get? a = some o → o.data = .fields vs → a ∉ frs (X.env :: X.outer) := fun {h o vs} ff e dd hm => by
      obtain ⟨_, o', e', hnf⟩ := ff.mem hm
      rw [e] at e'; cases e'
      exact hnf _ dd
    have nfr := notFr fl3.2.2.1 he3 hd3
    have nL : a ≠ X.env.locals := fun z => nfr (List.mem_filterMap.mpr ⟨X.env, List.mem_cons_self, by rw [hf, z]⟩)
    have nF : a ∉ X.fs := fun hm => by
      obtain ⟨e, he, q⟩ := List.mem_filterMap.mp hm
      exact nfr (List.mem_filterMap.mpr ⟨e, List.mem_cons_of_mem _ he, q⟩)
    have S3 := J3.suite he3 hd3 na nL nF
    have go : ∀ {hds' : List ExceptHandler} {l' : List (Value × Su)}, HdsA X n hds' l' → wManyA X.K i Wout D l' cls d σ' H' →
        wpAny (model X.prog X.w) X.A (handleBy (.ref a) X.env hds') (SP X pins D) X.xe { s' with heap := h3 } := by
      intro hds' l' hk
      induction hk with
      | nil =>
        intro w
        refine wpAny_handleBy_nil ?_
        obtain ⟨k1, k2, k3, oe, vs, T, oT, ts', he, hz, hd, h1, hr⟩ := id fl3
        unfold PySem.passOn
        refine wpAny_bind (wpAny_field he hd h1 ?_)
        rw [if_neg (show ¬ ((Value.ref T == Value.none) = true) from by simp)]
        have fin : wpAny (model X.prog X.w) X.A (setFlight (.ref a) X.env.frame) (fun _ s4 => wpAny (model X.prog X.w) X.A (throw (.ref a) : Sem Flow) (SP X pins D) X.xe s4) X.xe { s' with heap := h3 } := by
          rw [hf]
          refine HandSPX.setFlight_upZ fl3 fun h4 hh4 up4 => wpAny_throw (tk _ _ ?_)
          exact ⟨a, B, sI, pins, σ', H', cls, d, rfl, J, nb, (up.trans up3).trans up4, .inr (.inr (by rw [hs]; exact hh4)), na, os, ag, w⟩
        first
          | exact wpAny_bind (wpAny_pure (wpAny_bind fin))
          | exact wpAny_bind fin
      | @cons x c ts b₀ suite np pos' hds2 l2 hc hsu r ih =>
        intro w
        obtain ⟨b, hb1, hyes, hno⟩ := w
        refine wpAny_handleBy_cons (codeAny_handlers_test ?_) (by intro q; cases q)
        have LT : PySem.W.Looks (model X.prog X.w) h3 (typeOf (.ref a)) cls := fun A Q E s k q => wpAny_typeOf_ref (k _ _ he3) (by rw [hz3.1]; exact q)
        have LM := PySem.W.exm_one (M := model X.prog X.w) (J3.kIn) LT hb1
        have test : ∀ {Q : Value → Shared → Prop} {E : Value → Shared → Prop}, Q c { s' with heap := h3 } → wpAny (model X.prog X.w) (X.A.mark (some (.ref a))) (eval (.Name x np) X.env) Q E { s' with heap := h3 } := fun {Q E} q => by
          obtain ⟨hg, hdbg, hm | ⟨hm, hv, hnn⟩⟩ := hc
          · exact ld_glob (X := X.suite a ((a, oe3) :: (X.pn ++ pins))) S3 hg hm q hdbg
          · exact ld_blt (X := X.suite a ((a, oe3) :: (X.pn ++ pins))) S3 hg hm hv q hnn hdbg
        refine test (LM.here ?_)
        cases b with
        | true =>
          refine codeAny_handlers_suite_as ?_
          refine HandSPX.lands_againZ fl3 fun h4 fl4 up4 => ?_
          have J4 : Inv X pins σ' H' { s' with heap := h4 } := J.landed nb fl4.1 ((up.trans up3).trans up4) os ag
          obtain ⟨oe4, vs4, he4, hz4, hd4⟩ := fl4.there
          have S4 := J4.suite he4 hd4 na nL nF
          refine store_ok (X := X.suite a ((a, oe4) :: (X.pn ++ pins))) (v := .ref a) S4 hN hi hloc rfl (fun s5 S5 => ?_) (.inr hln)
          refine wpAny_mono ((hsu a oe4 cls d (X.pn ++ pins) hz4 ⟨_, hd4⟩).run [] s5 _ H' _ S5 (hyes rfl a na)) (fun f s6 hsp => ?_) (fun _ _ z => False.elim z)
          have end_ : ∀ {σ6 : St} {H6 : Hp} {Q : Shared → Prop}, Inv (X.suite a ((a, oe4) :: (X.pn ++ pins))) [] σ6 H6 s6 → (∀ s7, Inv X pins (σ6.set i none) H6 s7 → Q s7) →
              wpAny (model X.prog X.w) X.A (do bindName X.env n .none; unbindBehindTheSuite X.env n pos') (fun _ s7 => Q s7) X.xe s6 := fun {σ6 H6 Q} S6 hq => gone_ok (S6.unsuite ok) hN hi hln hq
          cases f with
          | next =>
            obtain ⟨σ6, H6, S6, q6⟩ := hsp
            exact end_ S6 fun s7 J7 => ⟨_, _, J7, q6⟩
          | brk =>
            obtain ⟨σ6, H6, S6, q6⟩ := hsp
            exact end_ S6 fun s7 J7 => ⟨_, _, J7, q6⟩
          | cont =>
            obtain ⟨σ6, H6, S6, q6⟩ := hsp
            exact end_ S6 fun s7 J7 => ⟨_, _, J7, q6⟩
          | ret u =>
            obtain ⟨v6, σ6, H6, S6, r6, q6⟩ := hsp
            exact end_ S6 fun s7 J7 => ⟨_, _, _, J7, r6, q6⟩
        | false =>
          show wpAny _ X.A (handleBy (.ref a) X.env hds2) _ _ _
          exact ih (hno rfl)
    exact go hh w
  · cases f with
    | next =>
      obtain ⟨σ', H', J', q⟩ := hsp
      exact wpAny_execs_nil ⟨σ', H', J'.ofTry ok, q⟩
    | brk =>
      obtain ⟨σ', H', J', q⟩ := hsp
      exact ⟨σ', H', J'.ofTry ok, q⟩
    | cont =>
      obtain ⟨σ', H', J', q⟩ := hsp
      exact ⟨σ', H', J'.ofTry ok, q⟩
    | ret u =>
      obtain ⟨v, σ', H', J', r, q⟩ := hsp
      exact ⟨v, σ', H', J'.ofTry ok, r, q⟩
end

/-! ### try as a function on slots -/
/-- the slot of the name is gone behind the suite -/
def unset (i : Nat) : Option Fl → Option Fl
  | some (.nx ε) => some (.nx (ε.set i .un))
  | some (.rt s ε) => some (.rt s (ε.set i .un))
  | some (.bk ε) => some (.bk (ε.set i .un))
  | some (.ct ε) => some (.ct (ε.set i .un))
  | some (.ex c gs ε) => none
  | none => none
abbrev Sf := Addr → Addr → Str → FS
def hand (i n : Nat) : List (List (Str × Bool) × Sf) → Str → List (Str × D) → En → Option Fl
  | [], c, gs, ε => some (.ex c gs ε)
  | (tb, f) :: r, c, gs, ε => match tb.lookup c with
    | none => none
    | some true => if ε.length = n then unset i (f 0 0 c (ε.set i (.fz (.hx 0 0 c gs)))) else none
    | some false => hand i n r c gs ε
def sTryA (i n : Nat) (hs : List (List (Str × Bool) × Sf)) (fb : FS) : FS := fun ε => match fb ε with
  | some (.ex c gs ε1) => hand i n hs c gs ε1
  | o => o
/-- the suite tells nothing of where the exception lies -/
def Ind (i n : Nat) (f : Sf) : Prop := ∀ (a d : Addr) (c : Str) (gs : List (Str × D)) (ε : En), ε.length = n → unset i (f a d c (ε.set i (.fz (.hx a d c gs)))) = unset i (f 0 0 c (ε.set i (.fz (.hx 0 0 c gs))))
theorem EOk.unset {K : PySem.W.Frag} {F H : Hp} {σ : St} {ε : En} {i : Nat} (e : EOk K F H σ ε) (σ' : St) (h : ∀ j, j ≠ i → σ'[j]? = σ[j]?) (hl : σ'.length = σ.length) : EOk K F H σ' (ε.set i .un) := by
  have ni : ∀ (j : Nat) (s : Sl), (ε.set i .un)[j]? = some s → s ≠ .un → j ≠ i ∧ ε[j]? = some s := fun j s q n => by
    by_cases hj : j = i
    · subst hj
      have jl : j < (ε.set j .un).length := (List.getElem?_eq_some_iff.mp q).1
      rw [List.length_set] at jl
      rw [List.getElem?_set_self jl] at q
      cases q
      exact absurd rfl n
    · rw [List.getElem?_set_ne (Ne.symm hj)] at q
      exact ⟨hj, q⟩
  refine ⟨e.sub, by rw [hl, e.len]; simp, fun j s q n => ?_, fun j k x y w q1 q2 q3 q4 => ?_, e.tab, e.ntb⟩
  · obtain ⟨h1, h2⟩ := ni j s q n
    rw [h j h1]
    exact e.val j s h2 n
  · obtain ⟨h1, h2⟩ := ni j _ q1 (by simp)
    obtain ⟨h3, h4⟩ := ni k _ q2 (by simp)
    rw [h j h1] at q3
    rw [h k h3] at q4
    exact e.inj j k x y w h2 h4 q3 q4
theorem frm_unset {F H : Hp} {σ : St} {ε : En} {i : Nat} (σ' : St) (h : ∀ j, j ≠ i → σ'[j]? = σ[j]?) : Frm σ ε F H σ' (ε.set i .un) F H := fun b o ob => ⟨ob.nf, ob.at_, ob.kd, fun j d q => by
  by_cases hj : j = i
  · subst hj
    have jl : j < (ε.set j .un).length := (List.getElem?_eq_some_iff.mp q).1
    rw [List.length_set] at jl
    rw [List.getElem?_set_self jl] at q
    cases q
  · rw [List.getElem?_set_ne (Ne.symm hj)] at q
    rw [h j hj]
    exact ob.no j d q⟩
/-- the exception's dict is frozen -/
theorem EOk.frzX {K : PySem.W.Frag} {F H : Hp} {σ : St} {ε : En} {d : Addr} {vs : List (Str × V)} (e : EOk K F H σ ε) (hd : H d = some (.xd vs)) : Same F (upd F d (.xd vs)) ∧ EOk K (upd F d (.xd vs)) H σ ε ∧ Frm σ ε F H σ ε (upd F d (.xd vs)) H := by
  have sf : Same F (upd F d (.xd vs)) := fun b o q => by
    by_cases hb : b = d
    · have := e.sub _ _ q
      rw [hb, hd] at this
      cases this
      rw [hb, upd_same]
    · rw [upd_ne hb]; exact q
  refine ⟨sf, ⟨fun b o q => ?_, e.len, fun j s q n => ?_, e.inj, e.tab, NoTb.upd e.ntb fun ps z => by cases z⟩, fun b o ob => ⟨?_, ob.at_, ob.kd, ob.no⟩⟩
  · by_cases hb : b = d
    · rw [hb, upd_same] at q; cases q; rw [hb]; exact hd
    · rw [upd_ne hb] at q; exact e.sub _ _ q
  · obtain ⟨w, hw, r⟩ := e.val j s q n
    refine ⟨w, hw, ?_⟩
    cases s with
    | un => exact r
    | fz d' => exact Rep.up sf r
    | ow d' =>
      obtain ⟨b, u, rfl, k1, k2, t'⟩ := r
      have nb : b ≠ d := fun z => by
        rw [z, hd] at k2
        cases k2
        exact t'.own
      exact ⟨b, u, rfl, by rw [upd_ne nb]; exact k1, k2, t'.up sf⟩
  · have nb : b ≠ d := fun z => by
      have := ob.at_
      rw [z, hd] at this
      cases this
      exact ob.kd
    rw [upd_ne nb]
    exact ob.nf
section
variable {X : Cx} {Wout : WX} {np i n : Nat}
/-- a suite: it runs for the caught exception -/
def tSu (K : PySem.W.Frag) (W : WX) (np : Nat) (tb : List (Str × Bool)) (f : Sf) : Su := fun a cls d Z σ H => ∃ (c : Str) (dd : Addr), cls = .ref (He.ga K c) ∧ d = some dd ∧ tb.lookup c = some true ∧ sM K W np (f a dd c) Z σ H
inductive HM (X : Cx) (W : WX) (np : Nat) (nm : Str) (i n : Nat) : List ExceptHandler → List (List (Str × Bool) × Sf) → List (Value × Su) → Prop
  | nil : HM X W np nm i n [] [] []
  | cons {x : Str} {cv : Value} {tb : List (Str × Bool)} {f : Sf} {b₀ : Stmt} {suite : List Stmt} {p pos' : Pos} {hds : List ExceptHandler} {hs : List (List (Str × Bool) × Sf)} {l : List (Value × Su)} (hc : Names X x cv)
      (ht : ∀ c b, tb.lookup c = some b → PySem.W.exmOne X.K (.ref (He.ga X.K c)) cv = some b) (hi : Ind i n f)
      (hsu : ∀ (a : Addr) (oe : Obj) (c : Str) (d : Addr) (pn : List (Addr × Obj)), Zc (.ref (He.ga X.K c)) (some d) oe → (∃ vs, oe.data = .fields vs) → tb.lookup c = some true → MSs (X.suite a ((a, oe) :: pn)) W np (b₀ :: suite) (f a d c)) (r : HM X W np nm i n hds hs l) :
      HM X W np nm i n (.ExceptHandler (some (.Name x p)) (some nm) (b₀ :: suite) pos' :: hds) ((tb, f) :: hs) ((cv, tSu X.K W np tb f) :: l)
theorem HM.hds {W : WX} {nm : Str} {hds : List ExceptHandler} {hs : List (List (Str × Bool) × Sf)} {l : List (Value × Su)} (h : HM X W np nm i n hds hs l) : HdsA X nm hds l := by
  induction h with
  | nil => exact .nil
  | cons hc ht hi hsu r ih =>
    refine .cons hc (fun a oe cls d pn hz hf => ⟨fun pins s σ H Z I q => ?_⟩) ih
    obtain ⟨c, dd, rfl, rfl, q1, q2⟩ := q
    exact (hsu a oe c dd pn hz hf q1).run pins s σ H Z I q2
theorem HM.wish {W : WX} {nm : Str} {hds : List ExceptHandler} {hs : List (List (Str × Bool) × Sf)} {l : List (Value × Su)} (h : HM X W np nm i n hds hs l) (hnp : np ≤ i) {Z : Ends} {σ : St} {ε : En} {F H : Hp} {c : Str} {gs : List (Str × D)} {ε1 : En}
    (q : DoS X.K Wout np σ ε F H (hand i n hs c gs ε1) Z) : ∀ d σ' H' F', Same F F' → EOk X.K F' H' σ' ε1 → XD X.K σ ε F H F' H' d gs → KeepP np σ σ' → Frm σ ε F H σ' ε1 F' H' → wManyA X.K i Wout Z l (.ref (He.ga X.K c)) (some d) σ' H' := by
  induction h with
  | nil => exact q
  | @cons x cv tb f b₀ suite p pos' hds hs l hc ht hi hsu r ih =>
    intro d σ' H' F' sm eo xd kp fr
    unfold hand at q
    cases hl : tb.lookup c with
    | none => rw [hl] at q; exact q.elim
    | some b =>
      rw [hl] at q
      cases b with
      | false => exact ⟨false, ht c false hl, fun z => Bool.noConfusion z, fun _ => ih q d σ' H' F' sm eo xd kp fr⟩
      | true =>
        refine ⟨true, ht c true hl, fun _ a ha => ⟨c, d, rfl, rfl, hl, ?_⟩, fun z => Bool.noConfusion z⟩
        simp only at q
        split at q
        · rename_i hn
          rw [← hi a d c gs ε1 hn] at q
          obtain ⟨⟨vs, hd, rf⟩, xo⟩ := xd
          obtain ⟨s2, e2, fr2⟩ := eo.frzX hd
          have rp : RepS X.K (upd F' d (.xd vs)) H' (.ref a) (.fz (.hx a d c gs)) := Rep.hx upd_same (rf.up s2)
          have e3 := e2.put (i := i) (v := .ref a) rp trivial
          have fr3 : Frm σ ε F H (σ'.set i (some (.ref a))) (ε1.set i (.fz (.hx a d c gs))) (upd F' d (.xd vs)) H' := fr.trans (fr2.trans (Aft.frmPut (i := i) (⟨.refl _, e2, rp, trivial, .refl, trivial⟩ : Aft X.K σ' ε1 (upd F' d (.xd vs)) H' (upd F' d (.xd vs)) H' ε1 (.ref a) (.fz (.hx a d c gs)))))
          have k3 : KeepP np σ (σ'.set i (some (.ref a))) := kp.trans (keep_set hnp)
          refine ⟨_, _, e3, ?_⟩
          have q3 := DoS.sub q (sm.trans s2) k3 fr3
          have un1 : ∀ (σ6 : St) (j : Nat), j ≠ i → (σ6.set i none)[j]? = σ6[j]? := fun σ6 j hj => List.getElem?_set_ne (Ne.symm hj)
          cases hr : f a d c (ε1.set i (.fz (.hx a d c gs))) with
          | none => rw [hr] at q3; exact q3
          | some r =>
            rw [hr] at q3
            cases r with
            | nx ε6 => exact fun σ6 H6 F6 s6 e6 k6 f6 => q3 (σ6.set i none) H6 F6 s6 (e6.unset _ (un1 σ6) (by simp)) (k6.trans (keep_set hnp)) (f6.trans (frm_unset _ (un1 σ6)))
            | bk ε6 => exact fun σ6 H6 F6 s6 e6 k6 f6 => q3 (σ6.set i none) H6 F6 s6 (e6.unset _ (un1 σ6) (by simp)) (k6.trans (keep_set hnp)) (f6.trans (frm_unset _ (un1 σ6)))
            | ct ε6 => exact fun σ6 H6 F6 s6 e6 k6 f6 => q3 (σ6.set i none) H6 F6 s6 (e6.unset _ (un1 σ6) (by simp)) (k6.trans (keep_set hnp)) (f6.trans (frm_unset _ (un1 σ6)))
            | rt s ε6 =>
              intro v σ6 H6 F6 s6 e6 r6 a6 k6 f6 m6
              refine q3 v σ6 H6 F6 s6 (e6.unset σ6 (fun _ _ => rfl) rfl) r6 ?_ k6 (f6.trans (frm_unset σ6 (fun _ _ => rfl))) m6
              cases s with
              | ow dd =>
                intro j x hj
                by_cases hji : j = i
                · subst hji
                  have jl : j < (ε6.set j .un).length := (List.getElem?_eq_some_iff.mp hj).1
                  rw [List.length_set] at jl
                  rw [List.getElem?_set_self jl] at hj
                  cases hj
                · rw [List.getElem?_set_ne (Ne.symm hji)] at hj
                  exact a6 j x hj
              | _ => exact trivial
            | ex c' gs' ε6 => exact q3.elim
        · exact q.elim
theorem ms_tryA {W : WX} {body : List Stmt} {h₀ : ExceptHandler} {hds : List ExceptHandler} {hs : List (List (Str × Bool) × Sf)} {l : List (Value × Su)} {pos : Pos} {fb : FS} {nm : Str} (h1 : X.stack = X.env :: X.outer) (h2 : X.env.frame = some X.env.locals) (hN : X.N.Nodup) (hi : X.N[i]? = some nm) (hln : X.env.kindOf nm = some .local) (hnp : np ≤ i) (tk : Takes X Wout)
    (hb : ∀ (W : WX) (pn : List (Addr × Obj)) (xe : Value → Shared → Prop), Takes (X.tr pn xe) W → PSs (X.tr pn xe) body (sM X.K W np fb))
    (hh : HM X W np nm i n (h₀ :: hds) hs l) : MS X Wout np (.Try body (h₀ :: hds) [] [] pos) (sTryA i n hs fb) := by
  refine PS.imp (ps_try_manyA h1 h2 hN hi hln tk (fun W pn xe tk _ => hb W pn xe tk) hh.hds) fun Z σ H ⟨F, ε, E0, q⟩ => ⟨F, ε, E0, ?_⟩
  unfold sTryA at q
  cases hr : fb ε with
  | none => rw [hr] at q; exact q
  | some r =>
    rw [hr] at q
    cases r with
    | nx ε1 => exact q
    | bk ε1 => exact q
    | ct ε1 => exact q
    | rt s ε1 => exact q
    | ex c gs ε1 => exact hh.wish hnp q
end
end Mi

namespace Mi
open PySem PySem.Spec PyProof.Rows L2

/-! ### what a suite asks of the exception that it caught -/
def oHxF (a d : Addr) (c f : Str) : D → Option Sl
  | .hx a' d' c' gs => if a' = a ∧ d' = d ∧ c' = c then (gs.lookup f).map .fz else none
  | _ => none
def oHxI (a d : Addr) (c : Str) (tb : List (Str × Bool)) : D → Option Sl
  | .hx a' d' c' _ => if a' = a ∧ d' = d ∧ c' = c then (tb.lookup c).map fun b => .fz (.bl b) else none
  | _ => none
def rHxF (a d : Addr) (f : Str) : V → Hp → VK → Prop := fun x H Q => x = .ref a ∧ ∃ (fs : List (Str × V)) (v : V), H d = some (.xd fs) ∧ fs.lookup f = some v ∧ Q v H
theorem p_hxf {K : PySem.W.Frag} {a d : Addr} {c f : Str} : Prim1 K (rHxF a d f) (oHxF a d c f) := by
  intro F H vx x s Q sm rx e g
  have r := rx
  rcases r with r | ⟨b, o, rfl, h1, h2, t⟩
  · cases r with
    | hx e1 rf =>
      simp only [oHxF] at e
      split at e
      · rename_i hh
        obtain ⟨rfl, rfl, rfl⟩ := hh
        simp only [Option.map_eq_some_iff] at e
        obtain ⟨dd, e3, rfl⟩ := e
        obtain ⟨v, hv, rv⟩ := rf.look e3
        exact ⟨rfl, _, v, sm _ _ e1, hv, g.same sm rv⟩
      · cases e
    | _ => cases e
  · cases x with
    | hx a' d' c' gs => exact t.elim
    | _ => cases e
def rHxI (a d : Addr) (b : Bool) : V → Hp → VK → Prop := fun x H Q => x = .ref a ∧ (∃ fs, H d = some (.xd fs)) ∧ Q (.bl b) H
theorem p_hxi {K : PySem.W.Frag} {a d : Addr} {c : Str} {tb : List (Str × Bool)} {b : Bool} (hb : ∀ b', tb.lookup c = some b' → b' = b) : Prim1 K (rHxI a d b) (oHxI a d c tb) := by
  intro F H vx x s Q sm rx e g
  have r := rx
  rcases r with r | ⟨b, o, rfl, h1, h2, t⟩
  · cases r with
    | hx e1 rf =>
      simp only [oHxI] at e
      split at e
      · rename_i hh
        obtain ⟨rfl, rfl, rfl⟩ := hh
        simp only [Option.map_eq_some_iff] at e
        obtain ⟨b', e3, rfl⟩ := e
        obtain rfl := hb b' e3
        exact ⟨rfl, ⟨_, sm _ _ e1⟩, g.same sm (.bl _)⟩
      · cases e
    | _ => cases e
  · cases x with
    | hx a' d' c' gs => exact t.elim
    | _ => cases e
theorem XC.xf {K : PySem.W.Frag} {C : Addr} {newId : String} {bmB : List Value} (T : XC K C newId bmB) : XfC K C := ⟨T.ga, T.gg, T.exC, T.hd⟩
theorem tM.mono {K : PySem.W.Frag} {W : WX} {f : FE} {σ : St} {H : Hp} {Q Q' : VK} (h : tM K W f σ H Q) (i : ∀ v H, Q v H → Q' v H) : tM K W f σ H Q' := by
  obtain ⟨F, ε, E0, z⟩ := h
  refine ⟨F, ε, E0, ?_⟩
  revert z
  cases f ε with
  | none => exact fun z => z
  | some r =>
    cases r with
    | x c' gs ε1 => exact fun z => z
    | v s ε1 => exact fun z v H' F' a' => i _ _ (z v H' F' a')
section
variable {X : Cx} {W : WX} {a d : Addr} {c f : Str} {oe : Obj} {pn : List (Addr × Obj)} {e : Expr} {fe : FE} {pos : Pos}
theorem me_hxf (T : ∃ newId bmB, XC X.K (He.ga X.K c) newId bmB) (hno : PySem.W.findIn X.K (.ref (He.ga X.K c)) f = some none) (hz : Zc (.ref (He.ga X.K c)) (some d) oe) (hf : ∃ vs, oe.data = .fields vs) (he : ME (X.suite a ((a, oe) :: pn)) W e fe)
    (hb : attributeBase e f X.env (eval e X.env) = eval e X.env := by rfl) : ME (X.suite a ((a, oe) :: pn)) W (.Attribute e f pos) (e1 (oHxF a d c f) fe) := by
  obtain ⟨newId, bmB, T⟩ := T
  refine PE.imp (pe_xf T.xf hno hz hf he hb) fun σ H Q h => ?_
  exact tM.mono (e1_ok p_hxf h) fun v H ⟨h1, fs, v', h2, h3, h4⟩ => ⟨h1, rfl, d, fs, v', rfl, h2, h3, h4⟩
theorem cr_hxi {k : V} {kv : Value} {b : Bool} (hk : ClsV k kv) (O : ObC X.K) (T : ∃ newId bmB, XC X.K (He.ga X.K c) newId bmB) (kt : PySem.W.kitOne X.K (.ref (He.ga X.K c)) kv = some b) (hz : Zc (.ref (He.ga X.K c)) (some d) oe) (hf : ∃ vs, oe.data = .fields vs) :
    CallR (X.suite a ((a, oe) :: pn)) (.builtin "isinstance") (fun xs H Q => ∃ x, xs = [x, k] ∧ rHxI a d b x H Q) := by
  intro pins s σ H xs us Q I r h
  obtain ⟨x, rfl, rfl, ⟨fs, hd⟩, q⟩ := h
  obtain ⟨newId, bmB, C⟩ := T
  obtain ⟨u1, u2, rfl, r1, r2⟩ := vals2 r
  have e2 := hk.eq r2
  subst e2
  cases r1
  obtain ⟨ha, _⟩ := I.pin (a, oe) (List.mem_append_left _ List.mem_cons_self)
  obtain ⟨vs, hdat⟩ := hf
  have hx : ObjOk X.prog X.w H s.heap d (.xd fs) := I.hok d _ hd
  obtain ⟨mA, hns, hr⟩ := hx
  obtain ⟨od, ho, hl⟩ := lookIn_ns hns
  have J : PySem.W.InstAt s.heap a oe (He.ga X.K c) (some od) := ⟨ha, hz.1, by unfold PySem.W.notCls; rw [hdat] <;> rfl, by rw [hz.2]; exact ho⟩
  exact PySem.W.kia_one (PySem.W.kitx_exc (ox := oe) (od := some od) C.cl C.ga C.gg C.exC C.cc O.sp O.tk C.ob) I.kIn J kt (fun z => nomatch z) fun tk => ⟨.bl b, H, I.kept (t' := tk) fun _ _ z => z, rfl, q⟩
theorem me_hxi {tb : List (Str × Bool)} {k : V} {kv : Value} {ce : Expr} {p : Pos} (hk : ClsV k kv) (O : ObC X.K) (T : ∀ c b, tb.lookup c = some b → (∃ newId bmB, XC X.K (He.ga X.K c) newId bmB) ∧ PySem.W.kitOne X.K (.ref (He.ga X.K c)) kv = some b)
    (hz : Zc (.ref (He.ga X.K c)) (some d) oe) (hf : ∃ vs, oe.data = .fields vs) (ht : (tb.lookup c).isSome = true)
    (hg : Gl (X.suite a ((a, oe) :: pn)) "isinstance") (hm : X.mg "isinstance" = none) (he : ME (X.suite a ((a, oe) :: pn)) W e fe) (hc : PE (X.suite a ((a, oe) :: pn)) ce (tC k)) (hs : starEach [e, ce] X.env = (false, eval e X.env) :: starEach [ce] X.env := by rfl) (hs2 : starEach [ce] X.env = (false, eval ce X.env) :: starEach [] X.env := by rfl)
    (hpl : (backTo pos (starEach [ce] X.env)).any (·.1) = false := by rfl) : ME (X.suite a ((a, oe) :: pn)) W (.Call (.Name "isinstance" p) [e, ce] [] pos) (e1 (oHxI a d c tb) fe) := by
  cases hl : tb.lookup c with
  | none => rw [hl] at ht; cases ht
  | some b =>
    obtain ⟨t1, t2⟩ := T c b hl
    refine PE.imp (pe_callB (X := X.suite a ((a, oe) :: pn)) (cr_hxi hk O t1 t2 hz hf) hg hm (by decide +kernel) (pa_cons he (pa_cons hc pa_nil hs2) hs) (by decide) (by decide) hs hpl) fun σ H Q h => ?_
    exact tM.mono (e1_ok (p_hxi (b := b) fun b' e => by rw [hl] at e; cases e; rfl) h) fun v H z => ⟨_, rfl, z⟩
end
end Mi

namespace Mi
open PySem PySem.Spec PyProof.Rows L2 LamX

/-! ### a lambda without parameters, handed to a def that calls it once in a try -/
section
variable {X : Cx} {pins : List (Addr × Obj)} {σ : L2.St} {H : Hp} {s : Shared}
/-- a(), in the def that got the lambda: what is raised is wished for at that def's slots -/
theorem pe_actS {CXg : CXT} {Eg : XK} {Ng : List Str} {qg : Str} {sg : Scope} {g f c' : Addr} {cdg pm ctv : Value} {params : Arguments} {body : Expr} {scope : Scope} {k i : Nat} {a : Str} {pn : List (Addr × Obj)} {xe : Value → Shared → Prop} {W : WX} {tb : XK → TE} {p1 p2 : Pos}
    (I : Inv X pins σ H s) (L : LamS X.env.scope scope) (hf : s.heap.get? f = some (PySem.W.kla_obj "<lambda>" (X.env.qual ++ "<lambda>") params body scope (cloFrom X.env.cells scope.names []) pm c' ctv)) (hfn : H f = none) (hfr : f ∉ frs X.stack)
    (hbind : bindArgs (PySem.W.kla_fn "<lambda>" (X.env.qual ++ "<lambda>") params body scope (cloFrom X.env.cells scope.names []) pm (.ref c') ctv) ⟨[], []⟩ = pure [])
    (tk : Takes ((cxOf CXg X.prog X.w X.K X.mg X.base Ng qg sg g cdg X.A X.stack s H Eg).tr pn xe) W) (hr : Room (k + 1) (X.A.deeper (envOfC qg sg s.heap.objs.size g cdg)))
    (hbody : ∀ (A : Around) (outer : List Env) (s : Shared) (H : Hp) (E : XK), Room k (A.deeper (lamEnv X scope s.heap.objs.size f c')) → A.guards = X.A.guards → PE (lamCx X A outer s H E scope f c') body (tb E))
    (hN : Ng[i]? = some a) (hv : Vis sg a) (hd : (a == ("__debug__" : Str)) = false := by decide) (hcd : (a == ("__classdict__" : Str)) = false := by decide) :
    PE ((cxOf CXg X.prog X.w X.K X.mg X.base Ng qg sg g cdg X.A X.stack s H Eg).tr pn xe) (.Call (.Name a p1) [] [] p2)
      (fun σZ HZ Q => σZ[i]? = some (some (.ref f)) ∧ HZ c' = some (CodeO c' (X.env.qual ++ "<lambda>")) ∧ tb (fun c d H' => W c d σZ H') σ HZ Q) := by
  refine ⟨fun pinsZ sZ σZ HZ Q IZ h => ?_⟩
  obtain ⟨hs, hc, ht⟩ := h
  refine wpAny_Call_Name_kw (thn ((pe_var (pos := p1) (i := i) hN hv hd hcd).run pinsZ sZ σZ HZ (fun v H1 => v = .ref f ∧ H1 = HZ) IZ ⟨.ref f, hs, rfl, rfl⟩) fun u s1 ⟨v, H1, I1, r1, q1⟩ => ?_)
  obtain ⟨ev, eH⟩ := q1
  subst ev
  rw [eH] at I1
  obtain rfl : u = Value.ref f := r1
  have of1 : s1.heap.get? f = some (PySem.W.kla_obj "<lambda>" (X.env.qual ++ "<lambda>") params body scope (cloFrom X.env.cells scope.names []) pm c' ctv) := I1.base.keep f _ hf hfn hfr (fun z => nomatch (show f ∈ ([] : List Addr) from z))
  refine PySem.W.callWith_F0 ⟨_, _, _, _, of1⟩ ?_
  have un : Un (frs X.stack) [] H HZ s.heap s1.heap := I1.base
  obtain ⟨⟨oc, vs, t, hoc, hdc, hvc⟩, _, _⟩ := I1.hok c' _ hc
  have rc : codeAny (model X.prog X.w) (X.A.deeper (envOfC qg sg s.heap.objs.size g cdg)) (.call (.ref f) ⟨[], []⟩) (CR (L2.CX X.prog X.w) (envOfC qg sg s.heap.objs.size g cdg :: X.stack) X.prog X.w HZ s1 Q (fun c d H' => W c d σZ H')) s1 := by
    refine PySem.W.kla_callFunE hr.depth of1 rfl L.co L.gen rfl ⟨c', oc, vs, t, rfl, hoc, hdc, hvc⟩ ?_
    rw [hbind]
    refine wpAny_pure (wpAny_newFunctionEnv (fun y hy => (L.own y hy).2) (fun y hy => absurd hy (by simp)) (fun h₁ hns hsb => ⟨I1.nolimit.fresh _ hsb, ?_⟩) L.kind)
    show codeAny _ _ (.expr body (lamEnv X scope s1.heap.objs.size f c')) _ _
    have kp : ∀ b o, s1.heap.get? b = some o → h₁.get? b = some o := fun b o e => hsb.extBut b o (Nat.ne_of_lt (Heap.lt_size e)) (Heap.get?_push_of_some _ e)
    have J := lam_start2 (A := X.A.deeper (envOfC qg sg s.heap.objs.size g cdg)) (E := fun c d H' => W c d σZ H') (f := f) (c' := c') (tk := s1.toks + ([] : List (Str × Value)).length) I L I1.env0 hr.hd un hns kp
    refine PySem.W.kla_codeExpr (wpAny_mono ((hbody _ _ s1 HZ _ (hr.deeper _) rfl).run [] _ _ HZ Q J ht) (fun v s' hq => ?_) fun e s' hq => hq)
    obtain ⟨w', H', J', rv, q⟩ := hq
    exact ⟨w', H', J'.os, J'.bare, J'.base, J'.hok, rv, q⟩
  have hx := passAt tk σZ
  refine wpAny_call (codeAny_mono rc fun r s' hq => ?_)
  cases r with
  | error e => exact hx pinsZ HZ s1 e s' I1 hq
  | ok fl =>
    cases fl with
    | ret u => exact I1.after hq
    | next => exact False.elim hq
    | brk => exact False.elim hq
    | cont => exact False.elim hq
end
/-- the def that calls what it got, once; TT: what it makes of the lambda's reading -/
def GivesS (X : Cx) (Ng : List Str) (x : Str) (sg : Scope) (g : Addr) (cdg : Value) (bg : List Stmt) (a : Str) (q : Str) (TT : (XK → Hp → VK → Prop) → Hp → VK → Prop) : Prop :=
  ∀ (f c' : Addr) (s : Shared) (H : Hp) (Q : VK) (tl : XK → Hp → VK → Prop),
    (∀ (W : WX) (pn : List (Addr × Obj)) (xe : Value → Shared → Prop) (p1 p2 : Pos), Takes ((cxOf C8.CX0 X.prog X.w X.K X.mg X.base Ng x sg g cdg X.A X.stack s H C8.E0).tr pn xe) W →
      PE ((cxOf C8.CX0 X.prog X.w X.K X.mg X.base Ng x sg g cdg X.A X.stack s H C8.E0).tr pn xe) (.Call (.Name a p1) [] [] p2) (fun σZ HZ Q => σZ[0]? = some (some (.ref f)) ∧ HZ c' = some (CodeO c' q) ∧ tl (fun c d H' => W c d σZ H') HZ Q)) →
    H c' = some (CodeO c' q) → TT tl H Q →
    ∃ t, PSs (cxOf C8.CX0 X.prog X.w X.K X.mg X.base Ng x sg g cdg X.A X.stack s H C8.E0).nox bg t ∧ t { nx := fun _ H' => Q .non H', rt := Q } (L2.start Ng [.ref f]) H
section
variable {X : Cx}
/-- x(lambda: body) -/
theorem pe_lamS {T : List (Addr × Str)} {TT : (XK → Hp → VK → Prop) → Hp → VK → Prop} {x a : Str} {g c P : Addr} {k : Nat} {pg : Arguments} {bg : List Stmt} {sg : Scope} {dV kV doc pm cdv ct oc : Value} {an od : Option Addr} {osl : Array (Option Value)} {Ng : List Str}
    {params : Arguments} {body : Expr} {scope : Scope} {t : XK → TE} {p lpos pos : Pos} (hg : Gl X x) (hm : X.mg x = some (.ref g)) (hk : PySem.W.keepIn X.K (.ref g) = true)
    (lk : X.K.lookup g = some ⟨oc, od, .func (PySem.W.fnOf x x pg bg sg dV kV doc pm an cdv ct), osl⟩) (hcg : PySem.W.codeIn X.K cdv x = true) (hb : L2.Binds X.K (PySem.W.fnOf x x pg bg sg dV kV doc pm an cdv ct) [a] []) (Sg : FnScope Ng [a] sg) (hNg : Ng[0]? = some a) (hva : Vis sg a)
    (hG : GivesS X Ng x sg g cdv bg a (X.env.qual ++ "<lambda>") TT)
    (TB : TabB X.base X.mg c P) (hcode : X.env.code = .ref c) (hmT : (P, X.env.qual ++ "<lambda>") ∈ T) (hu : ∀ p ∈ T, p.1 = P → p.2 = X.env.qual ++ "<lambda>") (hr : Room (k + 2) X.A) (L : LamS X.env.scope scope) (hdef : defaultsOf params X.env = ([], []))
    (hbind : ∀ (q : Str) (cl : List (Str × Addr)) (pm cv ctv : Value), bindArgs (PySem.W.kla_fn "<lambda>" q params body scope cl pm cv ctv) ⟨[], []⟩ = pure [])
    (hbody : ∀ (A : Around) (outer : List Env) (s : Shared) (H : Hp) (E : XK) (f c' : Addr), Room k (A.deeper (lamEnv X scope s.heap.objs.size f c')) → A.guards = X.A.guards → PE (lamCx X A outer s H E scope f c') body (t E))
    (hdb : (x == ("__debug__" : Str)) = false := by decide) (hd : (a == ("__debug__" : Str)) = false := by decide) (hcd : (a == ("__classdict__" : Str)) = false := by decide) :
    PE X (.Call (.Name x p) [.Lambda params body scope lpos] [] pos) (tLam T TT t) := by
  refine ⟨fun pins s σ H Q I h => ?_⟩
  obtain ⟨hT, h⟩ := h
  refine wpAny_Call_Name_kw (ld_glob I hg hm ?_ hdb)
  refine PySem.W.callWith_K (h₀ := X.base) I.ok.mod.kin hk ?_ (by rfl) (by rfl)
  show wpAny _ _ (spliced ((false, eval (.Lambda params body scope lpos) X.env) :: backTo pos (starEach [] X.env))) _ _ s
  refine Calls.spliced_cons (lam_make2 I TB hcode hmT hu hT hdef (L.has I.ok) fun f c' pm' ctv H1 s' I1 eN T1 hf hfn hfr hco => ?_)
  refine Calls.spliced_nil ⟨I1.kIn, ?_⟩
  have rc : codeAny (model X.prog X.w) X.A (.call (.ref g) ⟨[.ref f], []⟩) (CR C8.CX0 X.stack X.prog X.w H1 s' Q C8.E0) s' := by
    refine run_ofS (N := Ng) (ps := [a]) (us := [.ref f]) (vs := [.ref f]) lk hcg Sg hr I1.env0 (hb s' [.ref f] I1.kIn rfl) (.cons rfl .nil) rfl fun hr' => ?_
    obtain ⟨t', ht', hq'⟩ := hG f c' s' H1 Q (fun E H' Q' => t E σ H' Q') (fun W pn xe p1 p2 tk => pe_actS (i := 0) I1 L hf hfn hfr (hbind _ _ _ _ _) tk hr' (fun A outer s H E hr2 gd => hbody A outer s H E f c' hr2 gd) hNg hva hd hcd) hco (h H1 eN T1)
    exact ⟨t', ht'.nox, hq'⟩
  refine wpAny_call (codeAny_mono rc fun r s2 hq => ?_)
  cases r with
  | error e => exact (show False from hq).elim
  | ok fl =>
    cases fl with
    | ret u => exact I1.after hq
    | next => exact False.elim hq
    | brk => exact False.elim hq
    | cont => exact False.elim hq
end
end Mi

namespace Mi
open PySem PySem.Spec PyProof.Rows L2 LamX

/-! ### the lambda's call as a function on slots -/
/-- the slots that the lambda captures are frozen -/
def frzA : List Nat → En → En
  | [], ε => ε
  | i :: r, ε => frzA r (match ε[i]? with
    | some (.ow d) => ε.set i (.fz d)
    | _ => ε)
def hideS : Sl → Sl
  | .ow _ => .un
  | s => s
def hide (ε : En) : En := ε.map hideS
/-- what the lambda's call comes to, in the frame of the def that calls it -/
def thk (r : Option (R Sl)) (ε : En) : Option (R Sl) := match r with
  | some (.v (.fz d) _) => some (.v (.fz d) ε)
  | some (.v (.ow d) _) => some (.v (.fz d) ε)
  | some (.v .un _) => none
  | some (.x c gs _) => some (.x c gs ε)
  | none => none
open Classical in
noncomputable def eThk (t : D) (r : Option (R Sl)) : FE := fun ε => if ε[0]? = some (.fz t) then thk r ε else none
def eLam (caps : List Nat) (fth : FE) (hd : Option (R Sl) → Option D) : FE := fun ε => match hd (fth (hide (frzA caps ε))) with
  | some d => some (.v (.fz d) (frzA caps ε))
  | none => none
section
variable {K : PySem.W.Frag} {F H : Hp} {σ : St} {ε : En}
theorem EOk.frzA : ∀ (caps : List Nat) {F : Hp} {ε : En}, EOk K F H σ ε → ∃ F', Same F F' ∧ EOk K F' H σ (Mi.frzA caps ε) ∧ Frm σ ε F H σ (Mi.frzA caps ε) F' H
  | [], F, ε, e => ⟨F, .refl _, e, .refl⟩
  | i :: r, F, ε, e => by
    unfold Mi.frzA
    cases q : ε[i]? with
    | none => exact EOk.frzA r e
    | some s =>
      cases s with
      | un => exact EOk.frzA r e
      | fz d => exact EOk.frzA r e
      | ow d =>
        obtain ⟨F1, v, hv, s1, E1, r1, fr1⟩ := e.freeze q (.inl rfl)
        obtain ⟨F2, s2, E2, fr2⟩ := EOk.frzA r E1
        exact ⟨F2, s1.trans s2, E2, fr1.trans fr2⟩
theorem EOk.extN {H1 : Hp} (e : EOk K F H σ ε) (x : ExtN H H1) (t : Tabs (lamT K) H1) : EOk K F H1 σ ε ∧ Frm σ ε F H σ ε F H1 := by
  refine ⟨⟨fun b o q => x b o (e.sub b o q) (fun ps z => e.ntb b ps (by rw [← z]; exact q)), e.len, fun j s q n => ?_, e.inj, t, e.ntb⟩, fun b o ob => ⟨ob.nf, x b o ob.at_ ob.kd.nt, ob.kd, ob.no⟩⟩
  obtain ⟨v, hv, r⟩ := e.val j s q n
  refine ⟨v, hv, ?_⟩
  cases s with
  | un => exact r
  | fz d => exact r
  | ow d =>
    obtain ⟨b, o, rfl, k1, k2, t⟩ := r
    exact ⟨b, o, rfl, k1, x b o k2 t.own.nt, t⟩
/-- a thing that is never owned is frozen -/
theorem EOk.frzO {d : Addr} {u : HO} (e : EOk K F H σ ε) (hd : H d = some u) (no : ¬ Own u) (nt : ∀ ps, u ≠ .tbl ps) : Same F (upd F d u) ∧ EOk K (upd F d u) H σ ε ∧ Frm σ ε F H σ ε (upd F d u) H := by
  have sf : Same F (upd F d u) := fun b o q => by
    by_cases hb : b = d
    · have := e.sub _ _ q
      rw [hb, hd] at this
      cases this
      rw [hb, upd_same]
    · rw [upd_ne hb]; exact q
  refine ⟨sf, ⟨fun b o q => ?_, e.len, fun j s q n => ?_, e.inj, e.tab, NoTb.upd e.ntb nt⟩, fun b o ob => ⟨?_, ob.at_, ob.kd, ob.no⟩⟩
  · by_cases hb : b = d
    · rw [hb, upd_same] at q; cases q; rw [hb]; exact hd
    · rw [upd_ne hb] at q; exact e.sub _ _ q
  · obtain ⟨w, hw, r⟩ := e.val j s q n
    refine ⟨w, hw, ?_⟩
    cases s with
    | un => exact r
    | fz d' => exact Rep.up sf r
    | ow d' =>
      obtain ⟨b, o, rfl, k1, k2, t'⟩ := r
      have nb : b ≠ d := fun z => by
        rw [z, hd] at k2
        cases k2
        exact no t'.own
      exact ⟨b, o, rfl, by rw [upd_ne nb]; exact k1, k2, t'.up sf⟩
  · have nb : b ≠ d := fun z => by
      have := ob.at_
      rw [z, hd] at this
      cases this
      exact no ob.kd
    rw [upd_ne nb]
    exact ob.nf
theorem codeO_own {c : Addr} {q : Str} : ¬ Own (CodeO c q) := fun z => by
  unfold CodeO at z
  exact z
/-- the frozen values -/
def caps2 (σ : St) (ε : En) : List (V × D) := (σ.zip ε).filterMap fun p => match p with
  | (some v, .fz d) => some (v, d)
  | _ => none
theorem caps2_mem {i : Nat} {v : V} {d : D} (h1 : σ[i]? = some (some v)) (h2 : ε[i]? = some (.fz d)) : (v, d) ∈ caps2 σ ε := by
  refine List.mem_filterMap.mpr ⟨(some v, .fz d), ?_, rfl⟩
  exact List.mem_of_getElem? (i := i) ((List.getElem?_zip_eq_some (z := (some v, Sl.fz d))).mpr ⟨h1, h2⟩)
theorem caps2_of {p : V × D} (h : p ∈ caps2 σ ε) : ∃ i : Nat, σ[i]? = some (some p.1) ∧ ε[i]? = some (.fz p.2) := by
  obtain ⟨⟨a, b⟩, hm, e⟩ := List.mem_filterMap.mp h
  obtain ⟨i, hi⟩ := List.getElem?_of_mem hm
  obtain ⟨h1, h2⟩ := List.getElem?_zip_eq_some.mp hi
  cases a with
  | none => cases e
  | some v =>
    cases b with
    | fz d => cases e; exact ⟨i, h1, h2⟩
    | _ => cases e
theorem repL_of {l : List (V × D)} (h : ∀ p ∈ l, Rep K F p.1 p.2) : RepL K F (l.map (·.1)) (l.map (·.2)) := by
  induction l with
  | nil => exact .nil
  | cons p l ih => exact .cons (h p (List.mem_cons_self ..)) (ih fun q hq => h q (List.mem_cons_of_mem _ hq))
theorem repL_mem : ∀ {l : List (V × D)}, RepL K F (l.map (·.1)) (l.map (·.2)) → ∀ p ∈ l, Rep K F p.1 p.2
  | [], _, p, hp => by cases hp
  | q :: l, .cons h r, p, hp => by
    rcases List.mem_cons.mp hp with rfl | hp
    · exact h
    · exact repL_mem r p hp
theorem hide_at {i : Nat} {s : Sl} (h : (hide ε)[i]? = some s) : (∃ d, s = .fz d ∧ ε[i]? = some (.fz d)) ∨ s = .un := by
  unfold hide at h
  rw [List.getElem?_map] at h
  cases q : ε[i]? with
  | none => rw [q] at h; cases h
  | some t =>
    rw [q] at h
    cases t with
    | un => cases h; exact .inr rfl
    | fz d => cases h; exact .inl ⟨d, rfl, rfl⟩
    | ow d => cases h; exact .inr rfl
theorem EOk.hide {F' H' : Hp} (e : EOk K F H σ ε) (sb : Same F' H') (tb : Tabs (lamT K) H') (nt : ∀ b ps, F' b ≠ some (.tbl ps)) (r : RepL K F' ((caps2 σ (Mi.hide ε)).map (·.1)) ((caps2 σ (Mi.hide ε)).map (·.2))) : EOk K F' H' σ (Mi.hide ε) := by
  refine ⟨sb, by rw [e.len]; unfold Mi.hide; simp, fun i s h n => ?_, fun i j d d' v h1 => ?_, tb, nt⟩
  · rcases hide_at h with ⟨d, rfl, h2⟩ | rfl
    · obtain ⟨v, hv, _⟩ := e.val i _ h2 (by simp)
      exact ⟨v, hv, repL_mem r _ (caps2_mem hv h)⟩
    · exact absurd rfl n
  · rcases hide_at h1 with ⟨d, h2, _⟩ | h2 <;> cases h2
theorem oth_hide {a : Addr} {o : HO} (h1 : F a = none) (h2 : H a = some o) (h3 : Own o) : Oth σ (Mi.hide ε) F H a o := ⟨h1, h2, h3, fun i d q => by
  rcases hide_at q with ⟨d, h2, _⟩ | h2 <;> cases h2⟩
/-- another frame's slots, behind what leaves its things alone -/
theorem EOk.other {σ2 : St} {ε2 : En} {F' H' : Hp} (e : EOk K F H σ ε) (fs : Same F F') (e2 : EOk K F' H' σ2 ε2) (k : ∀ b o, F b = none → H b = some o → Own o → F' b = none ∧ H' b = some o) : EOk K F' H' σ ε ∧ Frm σ ε F H σ ε F' H' := by
  refine ⟨⟨e2.sub, e.len, fun j s q n => ?_, e.inj, e2.tab, e2.ntb⟩, fun b o ob => ⟨(k b o ob.nf ob.at_ ob.kd).1, (k b o ob.nf ob.at_ ob.kd).2, ob.kd, ob.no⟩⟩
  obtain ⟨v, hv, r⟩ := e.val j s q n
  refine ⟨v, hv, ?_⟩
  cases s with
  | un => exact r
  | fz d => exact Rep.up fs r
  | ow d =>
    obtain ⟨b, o, rfl, k1, k2, t⟩ := r
    exact ⟨b, o, rfl, (k b o k1 k2 t.own).1, (k b o k1 k2 t.own).2, t.up fs⟩
end
/-- what the def makes of the lambda's call -/
def TT0 (K : PySem.W.Frag) (fth : FE) (hd : Option (R Sl) → Option D) : (XK → Hp → VK → Prop) → Hp → VK → Prop := fun tl H Q =>
  ∃ (σ : St) (F : Hp) (ε : En) (d : D), EOk K F H σ ε ∧ (∀ E H' Q', tM K (WE0 E) fth σ H' Q' → tl E H' Q') ∧ hd (fth (hide ε)) = some d ∧ ∀ v H' F', Aft K σ ε F H F' H' ε v (.fz d) → Q v H'
abbrev WF : WX := WE0 fun _ _ _ => False
section
variable {X : Cx} {Ng : List Str} {x a q : Str} {sg : Scope} {g : Addr} {cdg : Value} {bg : List Stmt} {fth : FE} {hd : Option (R Sl) → Option D} {bF : D → Option (R Sl) → FS}
abbrev cxG (X : Cx) (Ng : List Str) (x : Str) (sg : Scope) (g : Addr) (cdg : Value) (s : Shared) (H : Hp) : Cx := cxOf C8.CX0 X.prog X.w X.K X.mg X.base Ng x sg g cdg X.A X.stack s H C8.E0
theorem gives_hd (hn : 1 ≤ Ng.length)
    (hB : ∀ (s : Shared) (H : Hp) (t : D) (r : Option (R Sl)), (∀ (W : WX) (pn : List (Addr × Obj)) (xe : Value → Shared → Prop) (p1 p2 : Pos), Takes ((cxG X Ng x sg g cdg s H).tr pn xe) W → ME ((cxG X Ng x sg g cdg s H).tr pn xe) W (.Call (.Name a p1) [] [] p2) (eThk t r)) → MSs (cxG X Ng x sg g cdg s H).nox WF 1 bg (bF t r))
    (hV : ∀ t r d, hd r = some d → ∃ s ε', runD Ng.length (bF t r) [.fz t] = some (.v s ε') ∧ (s = .fz d ∨ s = .ow d)) : GivesS X Ng x sg g cdg bg a q (TT0 X.K fth hd) := by
  intro f c' s H Q tl act hco ⟨σ, F, ε, d, E0, tlOk, hhd, hq⟩
  obtain ⟨s1, E1, fr1⟩ := E0.frzO hco codeO_own codeO_ne
  have rl : RepL X.K (upd F c' (CodeO c' q)) ((caps2 σ (hide ε)).map (·.1)) ((caps2 σ (hide ε)).map (·.2)) := repL_of fun p hp => by
    obtain ⟨i, h1, h2⟩ := caps2_of hp
    rcases hide_at h2 with ⟨d, h3, h4⟩ | h3
    · cases h3
      obtain ⟨v, hv, r⟩ := E1.val i _ h4 (by simp)
      rw [h1] at hv
      cases hv
      exact r
    · cases h3
  have rt : Rep X.K (upd F c' (CodeO c' q)) (.ref f) (.th f c' q ((caps2 σ (hide ε)).map (·.1)) ((caps2 σ (hide ε)).map (·.2))) := .th upd_same rl
  refine ⟨_, hB s H (.th f c' q ((caps2 σ (hide ε)).map (·.1)) ((caps2 σ (hide ε)).map (·.2))) (fth (hide ε)) (fun W pn xe p1 p2 tk => ?_), ?_⟩
  · refine PE.imp (act W pn xe p1 p2 tk) fun σZ HZ QZ ⟨FZ, εZ, EZ, hZ⟩ => ?_
    unfold eThk at hZ
    split at hZ
    · rename_i h0
      obtain ⟨v0, hv0, r0⟩ := EZ.val 0 _ h0 (by simp)
      cases r0 with
      | th e1 rl0 =>
        refine ⟨hv0, EZ.sub _ _ e1, tlOk _ _ _ ⟨FZ, hide ε, E0.hide EZ.sub EZ.tab EZ.ntb rl0, ?_⟩⟩
        cases hr : fth (hide ε) with
        | none => rw [hr] at hZ; exact hZ.elim
        | some r =>
          rw [hr] at hZ
          cases r with
          | x c gs εr =>
            intro dd H' F' ax
            obtain ⟨e3, fr3⟩ := EZ.other ax.fs ax.eo fun b o k1 k2 k3 => ⟨(ax.fr b o (oth_hide k1 k2 k3)).nf, (ax.fr b o (oth_hide k1 k2 k3)).at_⟩
            exact hZ dd H' F' ⟨ax.fs, e3, ⟨ax.xd.1, fun b o ob => ax.xd.2 b o (oth_hide ob.nf ob.at_ ob.kd)⟩, fr3⟩
          | v sr εr =>
            intro v H' F' av
            cases sr with
            | un => exact av.rs.elim
            | fz dd =>
              obtain ⟨F2, a2⟩ := av.data (.inl rfl)
              obtain ⟨e3, fr3⟩ := EZ.other a2.fs a2.eo fun b o k1 k2 k3 => ⟨(a2.fr b o (oth_hide k1 k2 k3)).nf, (a2.fr b o (oth_hide k1 k2 k3)).at_⟩
              exact hZ v H' F2 ⟨a2.fs, e3, a2.rp, trivial, fr3, trivial⟩
            | ow dd =>
              obtain ⟨F2, a2⟩ := av.data (.inr rfl)
              obtain ⟨e3, fr3⟩ := EZ.other a2.fs a2.eo fun b o k1 k2 k3 => ⟨(a2.fr b o (oth_hide k1 k2 k3)).nf, (a2.fr b o (oth_hide k1 k2 k3)).at_⟩
              exact hZ v H' F2 ⟨a2.fs, e3, a2.rp, trivial, fr3, trivial⟩
    · exact hZ.elim
  · obtain ⟨sv, ε', hrun, hs⟩ := hV (.th f c' q ((caps2 σ (hide ε)).map (·.1)) ((caps2 σ (hide ε)).map (·.2))) (fth (hide ε)) d hhd
    refine runD_ok (np := 1) (E := fun _ _ _ => False) hn ⟨rfl, upd F c' (CodeO c' q), [.fz (.th f c' q ((caps2 σ (hide ε)).map (·.1)) ((caps2 σ (hide ε)).map (·.2)))], ⟨E1.sub, rfl, fun i s h n => ?_, fun i j d d' v h1 => ?_, E1.tab, E1.ntb⟩, ?_⟩
    · cases i with
      | zero => cases h; exact ⟨.ref f, rfl, rt⟩
      | succ i => simp at h
    · cases i with
      | zero => cases h1
      | succ i => simp at h1
    · rw [hrun]
      intro v H' F' av
      obtain ⟨F2, a2⟩ := av.data hs
      have oth0 : ∀ b o, F b = none → H b = some o → Own o → Oth [some (V.ref f)] [Sl.fz (.th f c' q ((caps2 σ (hide ε)).map (·.1)) ((caps2 σ (hide ε)).map (·.2)))] (upd F c' (CodeO c' q)) H b o := fun b o k1 k2 k3 => by
        refine ⟨?_, k2, k3, fun i d h => ?_⟩
        · rw [upd_ne (fun z => by rw [z, hco] at k2; cases k2; exact codeO_own k3)]
          exact k1
        · cases i with
          | zero => cases h
          | succ i => simp at h
      obtain ⟨e3, fr3⟩ := E0.other (s1.trans a2.fs) a2.eo fun b o k1 k2 k3 => ⟨(a2.fr b o (oth0 b o k1 k2 k3)).nf, (a2.fr b o (oth0 b o k1 k2 k3)).at_⟩
      exact hq v H' F2 ⟨s1.trans a2.fs, e3, a2.rp, trivial, fr3, trivial⟩
theorem lam_do {W : WX} {caps : List Nat} {σ : St} {H : Hp} {Q : VK} (h : tM X.K W (eLam caps fth hd) σ H Q) : tLam (lamT X.K) (TT0 X.K fth hd) (fun E => tM X.K (WE0 E) fth) σ H Q := by
  obtain ⟨F, ε, E0, h⟩ := h
  refine ⟨E0.tab, fun H1 x t => ?_⟩
  unfold eLam at h
  cases hh : hd (fth (hide (frzA caps ε))) with
  | none => rw [hh] at h; exact h.elim
  | some d =>
    rw [hh] at h
    obtain ⟨F2, s2, E2, fr2⟩ := EOk.frzA caps E0
    obtain ⟨E3, fr3⟩ := E2.extN x t
    exact ⟨σ, F2, frzA caps ε, d, E3, fun _ _ _ z => z, hh, fun v H' F' a => h v H' F' (a.then s2 (fr2.trans fr3))⟩
end
end Mi

namespace Mi
open PySem PySem.Spec PyProof.Rows L2

/-! ### an instance is made -/
def eMake (c : Str) (np : Nat) (Fd : FD) (rv : Bool) (fa : FAr) : FE := fun ε => bnd (fa ε) fun ss ε1 => match asD ss with
  | some ds => if ds.length + 1 = np then (match Fd (.ow (.ins c []) :: (if rv then ds.reverse else ds).map .fz) with
    | some (.v (.fz .non) (.ow d :: _)) => some (.v (.ow d) ε1)
    | some (.x k gs _) => some (.x k gs ε1)
    | _ => none) else none
  | none => none
section
variable {X : Cx} {W : WX} {u : Bool} {n np : Nat} {c : Str} {f : Addr} {fd : FuncData} {ps : List Str} {Fd : FD}
theorem run_mk {pins : List (Addr × Obj)} {σ : St} {H : Hp} {s : Shared} {Q : VK} {us zs : List Value} {kz : List (Str × Value)} {vs : List V} {sp : Sp} {E : XK} {C : Addr} (M : Mk X.K C f) (G : FnG X.prog X.w X.K X.mg X.base u n f fd ps sp) (hr : Room (n + 1) X.A) (gd : u = true → X.A.guards = some [])
    (bd : ∀ (a : Addr) (s : Shared), X.K.In s.heap → BindsTo s fd ⟨.ref a :: us, kz⟩ (ps.zip (.ref a :: zs))) (hx : PassesAt (L2.CX X.prog X.w) X σ E) (I : Inv X pins σ H s) (r : Vals vs zs)
    (h : ∀ x dx, H x = none → H dx = none → dx ≠ x → sp (.ref x :: vs) (upd (upd H dx (.own x)) x (.ins C dx [])) (fun v H2 => v = .non ∧ Q (.ref x) H2) E) :
    wpAny (model X.prog X.w) X.A (call (.ref C) us kz) (EP X pins σ Q) X.xe s := by
  have hq := h (s.heap.objs.size + 1) s.heap.objs.size (I.hok.fresh (Nat.le_succ _)) (I.hok.fresh (Nat.le_refl _)) (Nat.ne_of_lt (Nat.lt_succ_self _))
  have I2 := Inv.made (C := C) I
  have r2 : Vals (V.ref (s.heap.objs.size + 1) :: vs) (Value.ref (s.heap.objs.size + 1) :: zs) := .cons rfl r
  refine wpAny_call (make_map (f := f) I.kIn M.makes M.init (beq_iff_eq.mp M.fn) (codeAny_mono (G.run _ X.stack _ _ ⟨Value.ref (s.heap.objs.size + 1) :: us, kz⟩ (Value.ref (s.heap.objs.size + 1) :: zs) _ _ E (hr.make C us kz)
    (fun z => gd z) (I2.env0.make C us kz) (bd _ _ I2.kIn) r2 hq) fun r s' hq' => ?_))
  cases r with
  | error e => exact hx pins _ _ e s' I2 hq'
  | ok fl =>
    cases fl with
    | ret u =>
      obtain ⟨v, H', I3, rv, ev, q3⟩ := I2.after hq'
      subst ev
      exact ⟨rv, ⟨V.ref (s.heap.objs.size + 1), H', I3, rfl, q3⟩⟩
    | next => exact False.elim hq'
    | brk => exact False.elim hq'
    | cont => exact False.elim hq'
theorem RepL.rv {K : PySem.W.Frag} {F : Hp} {vs : List V} {ds : List D} (rv : Bool) (h : RepL K F vs ds) : RepL K F (if rv then vs.reverse else vs) (if rv then ds.reverse else ds) := by
  cases rv with
  | false => exact h
  | true => exact h.back
theorem mk_do {σ : St} {H : Hp} {Q : VK} {rv : Bool} {fa : FAr} (h : tM X.K W (eMake c np Fd rv fa) σ H Q) :
    tMA X.K W fa σ H fun vs H1 => vs.length + 1 = np ∧ ∀ x dx, H1 x = none → H1 dx = none → dx ≠ x → spM X.K np Fd (.ref x :: (if rv then vs.reverse else vs)) (upd (upd H1 dx (.own x)) x (.ins (He.ga X.K c) dx [])) (fun v H2 => v = .non ∧ Q (.ref x) H2) (fun k d H' => W k d σ H') := by
  obtain ⟨F, ε, E0, h⟩ := h
  refine ⟨F, ε, E0, ?_⟩
  unfold eMake at h
  cases q : fa ε with
  | none => rw [q] at h; exact h
  | some r =>
    rw [q] at h
    cases r with
    | x k gs ε1 => exact h
    | v ss ε1 =>
      intro vs H1 F1 a
      simp only [bnd_v] at h
      cases q2 : asD ss with
      | none => rw [q2] at h; exact h.elim
      | some ds =>
        rw [q2] at h
        simp only at h
        split at h
        · rename_i hz
          have rl := a.ok.rep q2
          refine ⟨by rw [rl.len]; exact hz, fun x dx hx hd hn => ?_⟩
          have rl2 := rl.rv rv
          have fx : F1 x = none := a.eo.sub.free hx
          have sm2 : Same F1 (upd (upd H1 dx (.own x)) x (.ins (He.ga X.K c) dx [])) := fun b o e => by
            have e2 := a.eo.sub b o e
            rw [upd_ne (ne_of_none e2 hx), upd_ne (ne_of_none e2 hd)]
            exact e2
          have all2 : ∀ b o, H1 b = some o → upd (upd H1 dx (.own x)) x (.ins (He.ga X.K c) dx []) b = some o := fun b o e => by
            rw [upd_ne (ne_of_none e hx), upd_ne (ne_of_none e hd)]
            exact e
          have ln : (if rv then vs.reverse else vs).length = vs.length := by cases rv <;> simp
          have at_ : ∀ (i : Nat) (s : Sl), (Sl.ow (.ins c []) :: (if rv then ds.reverse else ds).map Sl.fz)[i]? = some s → (i = 0 ∧ s = .ow (.ins c [])) ∨ ∃ j d, i = j + 1 ∧ s = .fz d ∧ (if rv then ds.reverse else ds)[j]? = some d := fun i s e => by
            cases i with
            | zero => cases e; exact .inl ⟨rfl, rfl⟩
            | succ j =>
              rw [List.getElem?_cons_succ, List.getElem?_map, Option.map_eq_some_iff] at e
              obtain ⟨d, e1, rfl⟩ := e
              exact .inr ⟨j, d, rfl, rfl, e1⟩
          have eo2 : EOk X.K F1 (upd (upd H1 dx (.own x)) x (.ins (He.ga X.K c) dx [])) ((V.ref x :: (if rv then vs.reverse else vs)).map some) (Sl.ow (.ins c []) :: (if rv then ds.reverse else ds).map Sl.fz) := by
            refine ⟨sm2, ?_, fun i s e n => ?_, fun i j d d' v h1 h2 h3 h4 => ?_, a.eo.tab.ext all2, a.eo.ntb⟩
            · simp only [List.length_map, List.length_cons]
              rw [rl2.len]
            · rcases at_ i s e with ⟨rfl, rfl⟩ | ⟨j, d, rfl, rfl, e1⟩
              · exact ⟨.ref x, rfl, x, _, rfl, fx, upd_same, dx, [], rfl, .nil⟩
              · obtain ⟨v, hv, rp⟩ := rl2.at e1
                exact ⟨v, by rw [List.map_cons, List.getElem?_cons_succ, List.getElem?_map, hv]; rfl, rp⟩
            · rcases at_ i _ h1 with ⟨rfl, _⟩ | ⟨_, _, _, z, _⟩
              · rcases at_ j _ h2 with ⟨rfl, _⟩ | ⟨_, _, _, z, _⟩
                · rfl
                · cases z
              · cases z
          refine ⟨by rw [List.length_cons, ln, rl.len]; exact hz, F1, _, eo2, ?_⟩
          have oth0 : ∀ b o, F1 b = none → H1 b = some o → Own o → Oth ((V.ref x :: (if rv then vs.reverse else vs)).map some) (Sl.ow (.ins c []) :: (if rv then ds.reverse else ds).map Sl.fz) F1 (upd (upd H1 dx (.own x)) x (.ins (He.ga X.K c) dx [])) b o := fun b o k1 k2 k3 => by
            refine ⟨k1, all2 b o k2, k3, fun i d e z => ?_⟩
            rcases at_ i _ e with ⟨rfl, _⟩ | ⟨_, _, _, z2, _⟩
            · have z3 : x = b := by simpa using z
              subst z3
              rw [hx] at k2
              cases k2
            · cases z2
          cases hr : Fd (Sl.ow (.ins c []) :: (if rv then ds.reverse else ds).map Sl.fz) with
          | none => rw [hr] at h; exact h.elim
          | some r =>
            rw [hr] at h
            cases r with
            | x k gs ε2 =>
              intro d H' F' ax
              obtain ⟨e3, fr3⟩ := a.eo.other ax.fs ax.eo fun b o k1 k2 k3 => ⟨(ax.fr b o (oth0 b o k1 k2 k3)).nf, (ax.fr b o (oth0 b o k1 k2 k3)).at_⟩
              refine h d H' F' ⟨a.fs.trans ax.fs, e3, ⟨ax.xd.1, fun b o ob => ?_⟩, a.fr.trans fr3⟩
              have ob1 := a.fr b o ob
              exact ax.xd.2 b o (oth0 b o ob1.nf ob1.at_ ob1.kd)
            | v sv ε2 =>
              cases sv with
              | un => exact h.elim
              | ow _ => exact h.elim
              | fz dv =>
                cases dv with
                | non =>
                  cases ε2 with
                  | nil => exact h.elim
                  | cons s0 ε3 =>
                    cases s0 with
                    | un => exact h.elim
                    | fz _ => exact h.elim
                    | ow d0 =>
                      intro v H' F' av
                      have rv' := av.rs
                      cases rv'
                      refine ⟨rfl, ?_⟩
                      obtain ⟨e3, fr3⟩ := a.eo.other av.fs av.eo fun b o k1 k2 k3 => ⟨(av.fr b o (oth0 b o k1 k2 k3)).nf, (av.fr b o (oth0 b o k1 k2 k3)).at_⟩
                      obtain ⟨v0, hv0, r0⟩ := av.eo.val 0 (.ow d0) rfl (by simp)
                      cases hv0
                      refine h (.ref x) H' F' ⟨a.fs.trans av.fs, e3, r0, fun i d' e z => ?_, a.fr.trans fr3, fun b o ob z => ?_⟩
                      · obtain ⟨w, hw, b, o, rfl, k1, k2, _⟩ := a.eo.val i _ e (by simp)
                        rw [hw] at z
                        cases z
                        rw [hx] at k2
                        cases k2
                      · have := (a.fr b o ob).at_
                        cases z
                        rw [hx] at this
                        cases this
                | _ => exact h.elim
        · exact h.elim
/-- the class and its __init__ -/
structure CM (P : Program) (w : World) (K : PySem.W.Frag) (mg : Str → Option Value) (base : Heap) (u : Bool) (n : Nat) (c : Str) (ks : List Str) (Fd : FD) : Prop where
  ex : ∃ (f : Addr) (fd : FuncData) (ps : List Str), Mk K (He.ga K c) f ∧ mg c = some (.ref (He.ga K c)) ∧ FnG P w K mg base u n f fd ps (spM K (ks.length + 1) Fd) ∧
    (∀ (a : Addr) (s : Shared) (us : List Value), us.length = ks.length → K.In s.heap → BindsTo s fd ⟨.ref a :: us, []⟩ (ps.zip (.ref a :: us))) ∧
    (∀ (a : Addr) (s : Shared) (us : List Value), us.length = ks.length → K.In s.heap → BindsTo s fd ⟨[.ref a], ks.zip us⟩ (ps.zip (.ref a :: us))) ∧
    (∀ (a : Addr) (s : Shared) (us : List Value), us.length = ks.length → K.In s.heap → BindsTo s fd ⟨[.ref a], ks.reverse.zip us⟩ (ps.zip (.ref a :: us.reverse)))
variable {ks : List Str} {p pos : Pos} {e : Expr} {es : List Expr} {kws : List Keyword} {fa : FAr}
theorem me_make (M : CM X.prog X.w X.K X.mg X.base u n c ks Fd) (rm : Room (n + 1) X.A) (gd : u = true → X.A.guards = some []) (tk : Takes X W) (hg : Gl X c) (ha : MA X W (e :: es) fa) (hdb : (c == ("__debug__" : Str)) = false := by decide)
    (he : starEach (e :: es) X.env = (false, eval e X.env) :: starEach es X.env := by rfl) (hpl : (backTo pos (starEach es X.env)).any (·.1) = false := by rfl) :
    ME X W (.Call (.Name c p) (e :: es) [] pos) (eMake c (ks.length + 1) Fd false fa) := by
  obtain ⟨f, fd, ps, Mk0, hm, G, b1, b2, b3⟩ := M.ex
  refine ⟨fun pins st σ H Q I h => ?_⟩
  refine wpAny_Call_Name_kw (ld_glob I hg hm ?_ hdb)
  refine PySem.W.callWith_K (h₀ := X.base) I.ok.mod.kin Mk0.kp (thn (ha.run pos pins st σ H _ I (mk_do h)) fun us st1 ⟨vs, H1, I1, r, hl, q⟩ => ⟨I1.kIn, ?_⟩) he hpl
  have lu : us.length = ks.length := by rw [← r.length]; omega
  exact run_mk Mk0 G rm gd (fun a s k => b1 a s us lu k) (passAt tk σ) I1 r q
theorem me_makeK {rv : Bool} (M : CM X.prog X.w X.K X.mg X.base u n c ks Fd) (rm : Room (n + 1) X.A) (gd : u = true → X.A.guards = some []) (tk : Takes X W) (hg : Gl X c) (hkw : PK X kws (tMA X.K W fa)) (hall : (backToKw pos (keywordEach kws X.env)).all (·.1.isSome) = true := by rfl)
    (hks : (backToKw pos (keywordEach kws X.env)).filterMap (·.1) = (if rv then ks.reverse else ks) := by rfl) (hdb : (c == ("__debug__" : Str)) = false := by decide)
    (hpl : ((backTo pos (starEach [] X.env)).any (·.1) || (backToKw pos (keywordEach kws X.env)).any (·.1.isNone)) = false := by rfl) :
    ME X W (.Call (.Name c p) [] kws pos) (eMake c (ks.length + 1) Fd rv fa) := by
  obtain ⟨f, fd, ps, Mk0, hm, G, b1, b2, b3⟩ := M.ex
  refine ⟨fun pins st σ H Q I h => ?_⟩
  refine wpAny_Call_Name_kw (ld_glob I hg hm ?_ hdb)
  refine PySem.W.callWith_KW0 (h₀ := X.base) I.ok.mod.kin Mk0.kp hall ?_ hpl
  refine thn (hkw.run pos pins st σ H _ I (mk_do h)) fun us st1 ⟨vs, H1, I1, r, hl, q⟩ => ⟨I1.kIn, ?_⟩
  have lu : us.length = ks.length := by rw [← r.length]; omega
  rw [hks]
  cases rv with
  | false => exact run_mk (us := []) Mk0 G rm gd (fun a s k => b2 a s us lu k) (passAt tk σ) I1 r q
  | true =>
    have rr : Vals vs.reverse us.reverse := vals_back r
    exact run_mk (us := []) Mk0 G rm gd (fun a s k => b3 a s us lu k) (passAt tk σ) I1 rr q
end

/-! ### fields -/
def putG (f : Str) (d : D) : List (Str × D) → List (Str × D)
  | [] => [(f, d)]
  | (k, x) :: r => if k = f then (k, d) :: r else (k, x) :: putG f d r
theorem RepF.putG {K : PySem.W.Frag} {F : Hp} {f : Str} {v : V} {d : D} (av : Rep K F v d) : ∀ {fs : List (Str × V)} {gs : List (Str × D)}, RepF K F fs gs → RepF K F (putF f v fs) (Mi.putG f d gs)
  | _, _, .nil => .cons av .nil
  | _, _, .cons (k := k) r0 rr => by
    unfold putF Mi.putG
    by_cases hk : k = f
    · rw [if_pos hk, if_pos hk]; exact .cons av rr
    · rw [if_neg hk, if_neg hk]; exact .cons r0 (RepF.putG av rr)
def CAll (K : PySem.W.Frag) (cs : List Str) : Prop := ∀ c ∈ cs, Cls K (He.ga K c)
def oFld (cs : List Str) (f : Str) : D → Option Sl
  | .ins c gs => if c ∈ cs then (gs.lookup f).map .fz else none
  | _ => none
def rFld (K : PySem.W.Frag) (cs : List Str) (f : Str) : V → Hp → VK → Prop := fun x H Q => ∃ (a : Addr) (c : Str) (dx : Addr) (fs : List (Str × V)) (v : V), x = .ref a ∧ c ∈ cs ∧ H a = some (.ins (He.ga K c) dx fs) ∧ fs.lookup f = some v ∧ Q v H
theorem p_fld {K : PySem.W.Frag} {cs : List Str} {f : Str} : Prim1 K (rFld K cs f) (oFld cs f) := by
  intro F H vx x s Q sm rx e g
  cases x with
  | ins c gs =>
    simp only [oFld] at e
    split at e
    · rename_i hc
      simp only [Option.map_eq_some_iff] at e
      obtain ⟨d, e3, rfl⟩ := e
      obtain ⟨a, dx, vs, rfl, h1, rf⟩ := rx.ins sm
      obtain ⟨v, hv, rv⟩ := rf.look e3
      exact ⟨a, c, dx, vs, v, rfl, hc, h1, hv, g.same sm rv⟩
    · cases e
  | _ => cases e
theorem me_fld {X : Cx} {W : WX} {cs : List Str} {f : Str} {e : Expr} {fe : FE} {pos : Pos} (T : CAll X.K cs) (hno : ∀ c ∈ cs, PySem.W.findIn X.K (.ref (He.ga X.K c)) f = some none) (he : ME X W e fe) (hb : attributeBase e f X.env (eval e X.env) = eval e X.env := by rfl) :
    ME X W (.Attribute e f pos) (e1 (oFld cs f) fe) := by
  refine PE.imp (pe_fld he hb) fun σ H Q h => tM.mono (e1_ok p_fld h) fun v H1 z => ?_
  obtain ⟨a, c, dx, fs, v, e1, e2, e3, e4, e5⟩ := z
  exact ⟨a, _, dx, fs, v, e1, e3, T c e2, hno c e2, e4, e5⟩
/-- self.f = e, self owned -/
def sFst (cs : List Str) (f : Str) (i : Nat) (fe : FE) : FS := fun ε => bs (fe ε) fun s ε1 => match s, ε1[i]? with
  | .fz d, some (.ow (.ins c gs)) => if c ∈ cs ∧ gs.length < 900 then some (.nx (ε1.set i (.ow (.ins c (putG f d gs))))) else none
  | _, _ => none
theorem ms_fst {X : Cx} {W : WX} {np i : Nat} {cs : List Str} {f : Str} {o e : Expr} {fe : FE} {pos pos' : Pos} (T : CAll X.K cs) (hno : ∀ c ∈ cs, PySem.W.findIn X.K (.ref (He.ga X.K c)) f = some none) (ho : PE X o (tVar i)) (he : ME X W e fe) (hs : swapsWith e (some (.Attribute o f pos')) pos.line X.env = pure false := by rfl) :
    MS X W np (.Assign [.Attribute o f pos'] e pos) (sFst cs f i fe) := by
  refine PS.imp (ps_fld ho he hs) fun Z σ H ⟨F, ε, E0, h⟩ => ⟨F, ε, E0, bs_do h fun s ε1 v H1 F1 a h1 => ?_⟩
  cases s with
  | fz d =>
    cases q : ε1[i]? with
    | none => rw [q] at h1; exact h1.elim
    | some s1 =>
      rw [q] at h1
      cases s1 with
      | ow d1 =>
        cases d1 with
        | ins c gs =>
          simp only at h1
          split at h1
          · rename_i hc
            obtain ⟨w, hw, b, o, rfl, k1, k2, dx, fs, rfl, rf⟩ := a.eo.val i _ q (by simp)
            refine ⟨.ref b, hw, b, _, dx, fs, rfl, k2, T c hc.1, hno c hc.1, by rw [rf.len]; omega, ?_⟩
            have rp : RepF X.K F1 (putF f v fs) (putG f d gs) := RepF.putG a.rs rf
            obtain ⟨e2, fr2⟩ := a.eo.write q hw (d' := .ins c (putG f d gs)) (o := .ins (He.ga X.K c) dx (putF f v fs)) ⟨dx, _, rfl, rp⟩
            exact h1 σ _ F1 a.fs e2 .refl (a.fr.trans fr2)
          · exact h1.elim
        | _ => exact h1.elim
      | _ => exact h1.elim
  | _ => exact h1.elim
end Mi

namespace PySem
open Sem (wp)
open AutoSeq1 (wpAny_loadPart')
theorem mi_enum_newT (l : Addr) (items : Array Value) (n : Nat) (dct : Option Addr) (sl : Array (Option Value)) :
    Meets (Builtin.«enumerate.__new__» ⟨[.type "enumerate", .ref l], []⟩) (fun _ R s => s.heap.get? l = some { cls := .type "tuple", dict := dct, data := .seq items n, slots := sl } ∧
      R (.ok (.ret (.ref (s.heap.push { cls := .type "tuple_iterator", data := .fields #[.ref l, .int 0 0] }).objs.size)))
        { s with heap := (s.heap.push { cls := .type "tuple_iterator", data := .fields #[.ref l, .int 0 0] }).push { cls := .type "enumerate", data := .fields #[.none, .bool false, .ref s.heap.objs.size, rawInt 0, .none, .none] } }) :=
  .of_wp fun prog w A R s h => by
    obtain ⟨hp, g, d, tk, os⟩ := s; obtain ⟨hl, h⟩ := h
    have hsub := sub_enumerate
    have hL : Heap.IsTuple (Shared.heap ⟨hp, g, d, tk, os⟩) l items := ⟨_, hl, rfl, n, rfl⟩
    wp_walk using wpAny_loadPart' hl
    refine wpAny_stack_any fun st => wpAny_pure ?_
    split
    · rename_i c _ _ _ _ _
      cases (c == Value.type "enumerate")
      · wp_walk using wpAny_loadPart' hl, wpAny_pyIter_tuple hL
        exact ⟨_, rfl, h⟩
      · wp_walk using wpAny_loadPart' hl, wpAny_pyIter_tuple hL
        exact ⟨_, rfl, h⟩
    · wp_walk using wpAny_loadPart' hl, wpAny_pyIter_tuple hL
      exact ⟨_, rfl, h⟩
theorem mi_enum_callT {prog : Program} {w : World} {A : Around} {E : Value → Shared → Prop} {s : Shared} {l : Addr} {items : Array Value} {Q : Value → Shared → Prop} (hL : s.heap.IsTuple l items)
    (h : ∀ h', IsEnum h' (s.heap.objs.size + 1) s.heap.objs.size 0 .none → h'.IsTupleIter s.heap.objs.size l 0 → h'.objs.size = s.heap.objs.size + 2 →
      (∀ b o, s.heap.get? b = some o → h'.get? b = some o) → Q (.ref (s.heap.objs.size + 1)) { s with heap := h' }) :
    wpAny (model prog w) A (call (.type "enumerate") [.ref l]) Q E s := by
  obtain ⟨⟨c, dct, dt, sl⟩, hl, hc, n, hd⟩ := hL
  replace hc : c = .type "tuple" := hc
  replace hd : dt = .seq items n := hd
  subst hc hd
  refine callType_new F.called_enumerate (by decide) (F.typeCall_enumerate_1 _) (F.newCall_enumerate_1 _) (fun obj => F.args_object_init_2 obj _) F.entry_enumerate_new
    (mi_enum_newT l items n dct sl) ⟨hl, ?_⟩
  have hz : (s.heap.push { cls := .type "tuple_iterator", data := .fields #[.ref l, .int 0 0] }).objs.size = s.heap.objs.size + 1 := Heap.size_push ..
  show _ ∧ _
  rw [hz]
  have he : IsEnum ((s.heap.push { cls := .type "tuple_iterator", data := .fields #[.ref l, .int 0 0] }).push
      { cls := .type "enumerate", data := .fields #[.none, .bool false, .ref s.heap.objs.size, rawInt 0, .none, .none] }) (s.heap.objs.size + 1) s.heap.objs.size 0 .none := by
    have := Heap.get?_push_size (s.heap.push { cls := .type "tuple_iterator", data := .fields #[.ref l, .int 0 0] })
      (o := { cls := .type "enumerate", data := .fields #[.none, .bool false, .ref s.heap.objs.size, rawInt 0, .none, .none] }) rfl
    rw [hz] at this; exact this
  refine ⟨⟨_, he, rfl⟩, h _ he ⟨_, Heap.get?_push_of_some _ (Heap.get?_push_size _ rfl), rfl, rfl⟩ (by rw [Heap.size_push, hz]) fun b o x => Heap.get?_push_of_some _ (Heap.get?_push_of_some _ x)⟩
end PySem
namespace Mi
open PySem PySem.Spec PyProof.Rows L2
def IteT (K : PySem.W.Frag) (a : Addr) : It :=
  ⟨fun i H => ∃ (xs : List V) (x : V), SqT K H a xs ∧ xs[i]? = some x, fun i H v H' => ∃ T x, v = .ref T ∧ H T = none ∧ H' = upd H T (.tup [.int (i : Nat), x]) ∧ ∀ xs, SqT K H a xs → xs[i]? = some x, fun i H => ∃ xs : List V, SqT K H a xs ∧ xs.length ≤ i⟩
theorem turn_enumT {P : Program} {w : World} {K : PySem.W.Frag} {elts : List Expr} {kk : Nat} {tpos : Pos} (a e it : Addr) :
    Turn P w K (.Tuple elts kk tpos) (IteT K a) [e, it] e (fun i h => (∃ old, IsEnum h e it ((i : Nat) : Int) old) ∧ h.IsTupleIter it a i ∧ e ≠ it) where
  mem := by simp
  obj := fun i h st b hb => by
    obtain ⟨⟨old, he⟩, ⟨o, ho, hc, hd⟩, _⟩ := st
    have e' : b = e ∨ b = it := by simpa using hb
    rcases e' with z | z
    · rw [z]; exact ⟨_, he, fun v q => nomatch q⟩
    · rw [z]; exact ⟨o, ho, fun v q => by rw [hd] at q; cases q⟩
  keep := fun i h h' st k => let ⟨⟨old, he⟩, hi, hne⟩ := st; ⟨⟨old, k e (by simp) _ he⟩, hi.at fun o q => k it (by simp) o q, hne⟩
  item := by
    intro X hP hw hK hc i pins s σ H E I hf st hg
    subst hP hw hK
    obtain ⟨⟨old, he⟩, hit, hne⟩ := st
    obtain ⟨xs, x, hq, hx⟩ := hg
    obtain ⟨its, rv, p, hz⟩ := I.tuple hq
    obtain ⟨u, hu, ru⟩ := rv.get hx
    have hel : e < s.heap.objs.size := Heap.lt_size he
    have hil : it < s.heap.objs.size := by obtain ⟨_, q, _⟩ := hit; exact Heap.lt_size q
    have hai : a ≠ it := fun z => by
      obtain ⟨o, ho, hoc, _⟩ := p
      obtain ⟨o2, ho2, hoc2, _⟩ := hit
      rw [z, ho2] at ho
      cases ho
      rw [hoc2] at hoc
      simp at hoc
    have hae : e ≠ a := fun z => by
      obtain ⟨o, ho, hoc, _⟩ := p
      rw [← z] at ho
      have he2 : s.heap.get? e = _ := he
      rw [he2] at ho
      cases ho
      simp at hoc
    have hi : i < its.toArray.size := by
      have := (List.getElem?_eq_some_iff.mp hu).1
      simpa using this
    refine wpAny_pyNext_enum_itemD (Draws.tuple (A := X.A.in1) (I.ok.hd hc) it a hai its.toArray) he ⟨hit, p⟩ hi hne (by simp [hne, hae]) fun y h' tk hy ho hst hT hsz hk => ?_
    have hyu : y = u := by
      have h1 : its.toArray[i]? = some y := hy
      have h2 : its.toArray[i]? = some u := by simpa using hu
      rw [h1] at h2
      exact Option.some.inj h2
    subst hyu
    obtain ⟨hit', _⟩ := hst
    refine ⟨_, rfl, wpAny_letOwnedTupleGo_enum (s := { s with heap := h', toks := tk + 1 }) ho fun h'' he' sb => ?_⟩
    have hT2 : h''.get? s.heap.objs.size = some { cls := .type "tuple", data := .seq #[.int i tk, y] } := (sb.2 _ (Nat.ne_of_gt hel)).trans hT
    have new : ObjOk X.prog X.w (upd H s.heap.objs.size (.tup [.int (i : Nat), x])) h'' s.heap.objs.size (.tup [.int (i : Nat), x]) :=
      ⟨by show 2 ≤ sizeLine; decide, [.int i tk, y], .cons ⟨_, rfl⟩ (.cons ru .nil), ⟨_, hT2, rfl, _, rfl⟩⟩
    have I1 : Inv X pins σ (upd H s.heap.objs.size (.tup [.int (i : Nat), x])) { s with heap := h'', toks := tk + 1 } :=
      I.turnedNew (ch := [e, it]) (fun b ob hb q => (sb.2 b (fun z => hb (by simp [z]))).trans (hk b ob (fun z => hb (by simp [z])) (fun z => hb (by simp [z])) q)) hf (Nat.le_refl _) new
    refine ⟨.ref s.heap.objs.size, _, I1, rfl, ⟨_, x, rfl, I.hok.fresh (Nat.le_refl _), rfl, fun ys hy => by rw [I.tuple_inj hy hq]; exact hx⟩, ⟨⟨y, ?_⟩, hit'.at fun o q => (sb.2 it (Ne.symm hne)).trans q, hne⟩, fun b hb => ?_⟩
    · have e1 : ((i + 1 : Nat) : Int) = (i : Int) + 1 := by omega
      rw [e1]; exact he'
    · have hb' : b < s.heap.objs.size := by
        have e' : b = e ∨ b = it := by simpa using hb
        rcases e' with z | z
        · rw [z]; exact hel
        · rw [z]; exact hil
      rw [upd_ne (Nat.ne_of_lt hb')]
      exact (hf b hb).1
  done := by
    intro X hP hw hK hc i pins s σ H E I hf st hg
    subst hP hw hK
    obtain ⟨⟨old, he⟩, hit, hne⟩ := st
    obtain ⟨xs, hq, hx⟩ := hg
    obtain ⟨its, rv, p, hz⟩ := I.tuple hq
    obtain ⟨f0, f1, f2, f3, f4, f5⟩ := hf it (by simp)
    have hl := rv.length
    have hT : s.TypeIs (.ref e) "enumerate" := ⟨_, he, rfl⟩
    unfold pyNext
    refine wpAny_bind (wpAny_attempt (wpAny_callSpecial?_slot (name := Str.ofString "__next__") hT F.slot_enumerate_next
      (wpAny_call_entry F.slot_enumerate_next hT F.entry_enumerate_next ?_ (F.args_enumerate_next_1 _))))
    show wpAny _ _ (field (.ref e) 2 >>= _) _ _ _
    refine wpAny_bind (wpAny_field he rfl (x := .ref it) rfl ?_)
    refine wpAny_bind (wpAny_nextOf_tuple_end (A := X.A.in1) (I.ok.hd hc) hit p (by simp; omega) fun h' x he' hx' => ?_)
    obtain ⟨o, ho, hc'⟩ := hx'
    refine wpAny_bind (wpAny_isInstance (T := "StopIteration") (b := true) ⟨o, ho, hc'⟩ isSubtype_stop ?_)
    exact wpAny_pure ⟨rfl, I.turned (t' := s.toks) (fun b o hb q => he' b o hb q) f0 f1 f3 f4 f5⟩
  self := fun A i s Q E st h => let ⟨⟨_, he⟩, _⟩ := st; wpAny_pyIter_enum he h
def iEnum2 (K : PySem.W.Frag) (ta : TA) : TI := fun σ H R => ta σ H fun vs H1 => ∃ a, vs = [.ref a] ∧ ((∃ xs, SqL K H1 a xs ∧ R (Ite K a) H1) ∨ ∃ xs, SqT K H1 a xs ∧ R (IteT K a) H1)
theorem pi_enum2 {X : Cx} {e : Expr} {ta : TA} {p pos tpos : Pos} {elts : List Expr} {kk : Nat} (hg : Gl X "enumerate") (hm : X.mg "enumerate" = none) (ha : PA X [e] ta) (hs : starEach [e] X.env = [(false, eval e X.env)] := by rfl) :
    PI X (.Tuple elts kk tpos) (.Call (.Name "enumerate" p) [e] [] pos) (iEnum2 X.K ta) := by
  refine ⟨fun pins s σ H R I h => ?_⟩
  refine Call_ (ld_blt I hg hm boot_enumerate (PyProof.Rows.callWith_type1 (thn (ha.run pos pins s σ H _ I h) fun us s1 ⟨vs, H1, I1, r1, q1⟩ => ?_) hs rfl))
  obtain ⟨a, ex, hq⟩ := q1
  subst ex
  cases r1 with
  | cons r rr =>
    cases rr
    cases r
    have fin : ∀ b : Addr, b = s1.heap.objs.size + 1 ∨ b = s1.heap.objs.size → s1.heap.objs.size ≤ b := fun b e' => by
      rcases e' with z | z
      · rw [z]; exact Nat.le_add_right _ _
      · rw [z]; exact Nat.le_refl _
    rcases hq with ⟨xs, hq, q⟩ | ⟨xs, hq, q⟩
    · obtain ⟨its, rv, p', hz⟩ := I1.list hq
      refine call_enumerate_list p'.isList fun h' he hit hsz hk => wpAny_pyIter_enum he ?_
      have I2 : Inv X pins σ H1 { s1 with heap := h' } := I1.kept (t' := s1.toks) hk
      refine ⟨s1.heap.objs.size + 1, [s1.heap.objs.size + 1, s1.heap.objs.size], _, _, H1, rfl, I2, turn_enum a (s1.heap.objs.size + 1) s1.heap.objs.size, ⟨⟨.none, he⟩, hit, Nat.succ_ne_self _⟩, fun b hb => ?_, q⟩
      have hle := fin b (by simpa using hb)
      exact I1.fpOk hle (I1.hok.fresh hle)
    · obtain ⟨its, rv, p', hz⟩ := I1.tuple hq
      refine mi_enum_callT p' fun h' he hit hsz hk => wpAny_pyIter_enum he ?_
      have I2 : Inv X pins σ H1 { s1 with heap := h' } := I1.kept (t' := s1.toks) hk
      refine ⟨s1.heap.objs.size + 1, [s1.heap.objs.size + 1, s1.heap.objs.size], _, _, H1, rfl, I2, turn_enumT a (s1.heap.objs.size + 1) s1.heap.objs.size, ⟨⟨.none, he⟩, hit, Nat.succ_ne_self _⟩, fun b hb => ?_, q⟩
      have hle := fin b (by simpa using hb)
      exact I1.fpOk hle (I1.hok.fresh hle)
def itemsT : D → Option (List D)
  | .lst ds => some ds
  | .rol ds => some ds
  | .tup ds => some ds
  | _ => none
def iEnumT (f : FE) : FI := fun ε => bf (f ε) fun d ε1 => (itemsT d).bind fun ds => some (.v (enumD 0 ds) ε1)
theorem walkD_enumT {K : PySem.W.Frag} {F : Hp} {a : Addr} {vs : List V} {ds : List D} (h : SqT K F a vs) (r : RepL K F vs ds) : WalkD K F (IteT K a) (enumD 0 ds) := by
  refine ⟨fun H => SqT K H a vs, fun i H v H' => ∃ T x, v = .ref T ∧ H T = none ∧ H' = upd H T (.tup [.int (i : Nat), x]) ∧ vs[i]? = some x, ?_, fun H' s => sqT_up s h, fun i H1 x H2 F1 hi y s1 s2 => ?_⟩
  · rw [enumD_len, ← r.len]
    refine ⟨fun i H hi g => ⟨vs, vs[i], g, List.getElem?_eq_getElem hi⟩, fun H g => ⟨vs, g, Nat.le_refl _⟩, fun i H x H' hi g y => ?_⟩
    obtain ⟨T, z, e1, e2, e3, e4⟩ := y
    exact ⟨T, z, e1, e2, e3, e4 vs g⟩
  · obtain ⟨T, z, rfl, e2, rfl, e4⟩ := y
    obtain ⟨d, hd, rd⟩ := r.of e4
    refine ⟨upd F1 T (.tup [.int (i : Nat), z]), _, enumD_at 0 ds i d hd, Gr.new s2 e2, ?_⟩
    rw [Nat.zero_add]
    exact .tup (SqT.of upd_same) (.cons (.int _) (.cons ((rd.up s1).up (same_new (s2.free e2))) .nil))
theorem mi_enumT {X : Cx} {W : WX} {e : Expr} {f : FE} {p pos tpos : Pos} {elts : List Expr} {kk : Nat} (hg : Gl X "enumerate") (hm : X.mg "enumerate" = none) (h : ME X W e f) (hs : starEach [e] X.env = [(false, eval e X.env)] := by rfl) :
    MI X W (.Tuple elts kk tpos) (.Call (.Name "enumerate" p) [e] [] pos) (iEnumT f) := by
  refine PI.imp (pi_enum2 hg hm (pa_cons h pa_nil hs) hs) fun σ H Q ⟨F, ε, E0, hq⟩ => ⟨F, ε, E0, DoI.bindF hq fun d ε1 v H1 F1 a h1 => ?_⟩
  cases hi : itemsT d with
  | none => rw [hi] at h1; exact h1.elim
  | some ds =>
    rw [hi] at h1
    have rp := a.rp
    cases rp with
    | lst e1 rl =>
      cases hi
      exact ⟨_, rfl, .inl ⟨_, SqL.of (a.eo.sub _ _ e1), h1 _ H1 F1 ⟨.refl _, a.eo, walkD_enum (SqL.of e1) rl, .refl⟩⟩⟩
    | rol e1 rl =>
      cases hi
      exact ⟨_, rfl, .inl ⟨_, sqL_up a.eo.sub e1, h1 _ H1 F1 ⟨.refl _, a.eo, walkD_enum e1 rl, .refl⟩⟩⟩
    | tup e1 rl =>
      cases hi
      exact ⟨_, rfl, .inr ⟨_, sqT_up a.eo.sub e1, h1 _ H1 F1 ⟨.refl _, a.eo, walkD_enumT e1 rl, .refl⟩⟩⟩
    | _ => cases hi
end Mi

namespace Mi
open PySem PySem.Spec PyProof.Rows L2

/-! ### isinstance of data -/
/-- the built-in type of plain data -/
def tyN : D → Option String
  | .non => some "NoneType"
  | .bl _ => some "bool"
  | .int _ => some "int"
  | .str _ => some "str"
  | .lst _ => some "list"
  | .rol _ => some "list"
  | .tup _ => some "tuple"
  | .dct _ => some "dict"
  | _ => none
theorem tyX_of {K : PySem.W.Frag} {F H : Hp} {v : V} {d : D} {t : String} (s : Same F H) (r : RepA K F H v d) (h : tyN d = some t) : TyX K H v (.type t) := by
  cases d with
  | non => cases h; rw [r.non]; exact .base .non
  | bl b => cases h; rw [r.bl]; exact .base (.bl b)
  | int i => cases h; rw [r.int]; exact .base (.int i)
  | str x => cases h; rw [r.str]; exact .base (.str x)
  | lst ds =>
    cases h
    obtain ⟨a, vs, rfl, e, _⟩ := r.lst s
    exact .base (.lst e)
  | rol ds =>
    cases h
    obtain ⟨a, vs, rfl, e, _⟩ := r.rol s
    rcases e with (e | ⟨o, e⟩) | ⟨o, its, n, e, c, _⟩
    · exact .base (.lst e)
    · exact .base (.frz e)
    · exact .kList e c
  | tup ds =>
    cases h
    obtain ⟨a, vs, rfl, e, _⟩ := r.tup s
    rcases e with (e | ⟨o, e⟩) | ⟨o, its, n, e, c, _⟩
    · exact .base (.tup e)
    · exact .fTuple e
    · exact .kTuple e c
  | dct ds =>
    cases h
    obtain ⟨a, vs, rfl, e, _⟩ := r.dct s
    exact .base (.dK e)
  | _ => cases h
def qInt : D → Option Bool
  | .int _ => some true
  | .bl _ => some true
  | d => (tyN d).map fun _ => false
def qBool : D → Option Bool
  | .bl _ => some true
  | d => (tyN d).map fun _ => false
def qStr : D → Option Bool
  | .str _ => some true
  | d => (tyN d).map fun _ => false
def qList : D → Option Bool
  | .lst _ => some true
  | .rol _ => some true
  | d => (tyN d).map fun _ => false
def qTup : D → Option Bool
  | .tup _ => some true
  | d => (tyN d).map fun _ => false
def qDict : D → Option Bool
  | .dct _ => some true
  | d => (tyN d).map fun _ => false
def qSeq : D → Option Bool
  | .lst _ => some true
  | .rol _ => some true
  | .tup _ => some true
  | d => (tyN d).map fun _ => false
/-- the answer of isinstance(x, T) -/
def QT (T : String) (q : D → Option Bool) : Prop := ∀ d b, q d = some b → ∃ t, tyN d = some t ∧ kitB t T = some b
theorem qInt_ok : QT "int" qInt := fun d b h => by cases d <;> simp only [qInt, tyN, Option.map, reduceCtorEq, Option.some.injEq] at h <;> subst h <;> exact ⟨_, rfl, by decide +kernel⟩
theorem qBool_ok : QT "bool" qBool := fun d b h => by cases d <;> simp only [qBool, tyN, Option.map, reduceCtorEq, Option.some.injEq] at h <;> subst h <;> exact ⟨_, rfl, by decide +kernel⟩
theorem qStr_ok : QT "str" qStr := fun d b h => by cases d <;> simp only [qStr, tyN, Option.map, reduceCtorEq, Option.some.injEq] at h <;> subst h <;> exact ⟨_, rfl, by decide +kernel⟩
theorem qList_ok : QT "list" qList := fun d b h => by cases d <;> simp only [qList, tyN, Option.map, reduceCtorEq, Option.some.injEq] at h <;> subst h <;> exact ⟨_, rfl, by decide +kernel⟩
theorem qTup_ok : QT "tuple" qTup := fun d b h => by cases d <;> simp only [qTup, tyN, Option.map, reduceCtorEq, Option.some.injEq] at h <;> subst h <;> exact ⟨_, rfl, by decide +kernel⟩
theorem qDict_ok : QT "dict" qDict := fun d b h => by cases d <;> simp only [qDict, tyN, Option.map, reduceCtorEq, Option.some.injEq] at h <;> subst h <;> exact ⟨_, rfl, by decide +kernel⟩
def oIsT (q : D → Option Bool) : D → Option Sl := fun d => (q d).map fun b => .fz (.bl b)
section
variable {X : Cx} {W : WX} {e ce c1 c2 : Expr} {fe : FE} {p pos : Pos} {q : D → Option Bool}
theorem p_isT {K : PySem.W.Frag} {T : String} (hq : QT T q) : Prim1 K (fun x H Q => rIsi K [x, .ty T] H Q) (oIsT q) := by
  intro F H vx x s Q sm rx e g
  simp only [oIsT, Option.map_eq_some_iff] at e
  obtain ⟨b, hb, rfl⟩ := e
  obtain ⟨t, h1, h2⟩ := hq x b hb
  exact ⟨vx, .ty T, .type t, .type T, b, rfl, .ty T, tyX_of sm rx h1, kit_ty h2, g.same sm (.bl b)⟩
theorem me_isT {T : String} (hq : QT T q) (hg : Gl X "isinstance") (hm : X.mg "isinstance" = none) (he : ME X W e fe) (hc : PE X ce (tC (.ty T))) (hs : starEach [e, ce] X.env = (false, eval e X.env) :: starEach [ce] X.env := by rfl) (hs2 : starEach [ce] X.env = (false, eval ce X.env) :: starEach [] X.env := by rfl)
    (hpl : (backTo pos (starEach [ce] X.env)).any (·.1) = false := by rfl) : ME X W (.Call (.Name "isinstance" p) [e, ce] [] pos) (e1 (oIsT q) fe) :=
  PE.imp (pe_callB call_isi hg hm (by decide +kernel) (pa_cons he (pa_cons hc pa_nil hs2) hs) (by decide) (by decide) hs hpl) fun _ _ _ h => e1_ok (p_isT hq) h
/-- isinstance(x, (list, tuple)) -/
theorem qSeq_ok {K : PySem.W.Frag} {d : D} {b : Bool} (h : qSeq d = some b) : ∃ t, tyN d = some t ∧ PySem.W.kitAny K (.type t) [.type "list", .type "tuple"] = some b := by
  have k : ∀ (t : String) (b1 b2 : Bool), kitB t "list" = some b1 → kitB t "tuple" = some b2 → (b1 || b2) = b → PySem.W.kitAny K (.type t) [.type "list", .type "tuple"] = some b := fun t b1 b2 h1 h2 h3 => by
    refine kitAny_cons (kit_ty h1) (fun z => kitAny_cons (kit_ty h2) (fun z2 => ?_) fun z2 => ?_) fun z => ?_
    · rw [kitAny_nil, ← h3, z, z2]; rfl
    · rw [← h3, z, z2]; rfl
    · rw [← h3, z]; rfl
  cases d <;> simp only [qSeq, tyN, Option.map, reduceCtorEq, Option.some.injEq] at h <;> subst h <;>
    first
    | exact ⟨_, rfl, k _ false false (by decide +kernel) (by decide +kernel) rfl⟩
    | exact ⟨_, rfl, k _ true false (by decide +kernel) (by decide +kernel) rfl⟩
    | exact ⟨_, rfl, k _ false true (by decide +kernel) (by decide +kernel) rfl⟩
theorem me_isSeq {k : Nat} {tpos : Pos} (hg : Gl X "isinstance") (hm : X.mg "isinstance" = none) (he : ME X W e fe) (hc1 : PE X c1 (tC (.ty "list"))) (hc2 : PE X c2 (tC (.ty "tuple")))
    (hs : starEach [e, .Tuple [c1, c2] k tpos] X.env = (false, eval e X.env) :: starEach [.Tuple [c1, c2] k tpos] X.env := by rfl) (hs2 : starEach [.Tuple [c1, c2] k tpos] X.env = (false, eval (.Tuple [c1, c2] k tpos) X.env) :: starEach [] X.env := by rfl)
    (hs3 : starEach [c1, c2] X.env = (false, eval c1 X.env) :: starEach [c2] X.env := by rfl) (hs4 : starEach [c2] X.env = (false, eval c2 X.env) :: starEach [] X.env := by rfl)
    (hpl : (backTo pos (starEach [.Tuple [c1, c2] k tpos] X.env)).any (·.1) = false := by rfl) : ME X W (.Call (.Name "isinstance" p) [e, .Tuple [c1, c2] k tpos] [] pos) (e1 (oIsT qSeq) fe) := by
  refine PE.imp (pe_callB call_isiT hg hm (by decide +kernel) (pa_cons he (pa_cons (pe_tup (pa_cons hc1 (pa_cons hc2 pa_nil hs4) hs3)) pa_nil hs2) hs) (by decide) (by decide) hs hpl) fun σ H Q ⟨F, ε, E0, h⟩ => ⟨F, ε, E0, ?_⟩
  unfold e1 at h
  refine Do.bindF h fun d ε1 v H1 F1 a h1 => ?_
  cases hq : qSeq d with
  | none => simp [oIsT, hq] at h1; exact h1.elim
  | some b =>
    simp only [oIsT, hq, Option.map, ret_some] at h1
    show 2 ≤ sizeLine ∧ ∀ tp, H1 tp = none → _
    refine ⟨by decide, fun tp htp => ?_⟩
    obtain ⟨t, h2, h3⟩ := qSeq_ok (K := X.K) hq
    have gl : Gr F1 H1 F1 (upd H1 tp (.tup [.ty "list", .ty "tuple"])) := Gr.loose a.eo.sub htp
    refine ⟨v, tp, [.ty "list", .ty "tuple"], .type t, [.type "list", .type "tuple"], b, rfl, upd_same, .cons (.ty _) (.cons (.ty _) .nil), tyX_of gl.sub (.inl a.rp) h2, h3, ?_⟩
    exact h1.gives a.eo _ _ _ gl (.bl b) trivial
/-- isinstance(x, C), C an own class, x plain data or an instance of it -/
def qCls (c : Str) : D → Option Bool
  | .ins c' _ => if c' = c then some true else none
  | d => (tyN d).map fun _ => false
structure ClF (K : PySem.W.Frag) (c : Str) : Prop where
  no : ∀ t ∈ ["NoneType", "bool", "int", "str", "list", "tuple", "dict"], PySem.W.kitOne K (.type t) (.ref (He.ga K c)) = some false
  cl : Cls K (He.ga K c)
  cc : PySem.W.findIn K (.ref (He.ga K c)) "__class__" = some (some (.builtin "object.__class__"))
  ob : PySem.W.mroIn K (He.ga K c) (.type "object") = some true
theorem p_isC {K : PySem.W.Frag} {c : Str} (O : ObC K) (T : ClF K c) : Prim1 K (fun x H Q => rIsi K [x, .ref (He.ga K c)] H Q) (oIsT (qCls c)) := by
  intro F H vx x s Q sm rx e g
  simp only [oIsT, Option.map_eq_some_iff] at e
  obtain ⟨b, hb, rfl⟩ := e
  have pl : ∀ t, tyN x = some t → b = false → rIsi K [vx, .ref (He.ga K c)] H Q := fun t h1 h2 => by
    subst h2
    refine ⟨vx, .ref (He.ga K c), .type t, .ref (He.ga K c), false, rfl, .own _, tyX_of sm rx h1, T.no t ?_, g.same sm (.bl _)⟩
    cases x <;> simp only [tyN, Option.some.injEq, reduceCtorEq] at h1 <;> subst h1 <;> decide
  cases x with
  | ins c' gs =>
    simp only [qCls] at hb
    split at hb
    · rename_i hc
      subst hc
      cases hb
      obtain ⟨a, dx, vs, rfl, h1, _⟩ := rx.ins sm
      exact ⟨_, .ref (He.ga K c'), .ref (He.ga K c'), .ref (He.ga K c'), true, rfl, .own _, .base (.ins h1 T.cl T.cc O.sp O.tk T.ob), by unfold PySem.W.kitOne; rw [if_pos (by simp)], g.same sm (.bl _)⟩
    · cases hb
  | non => cases hb; exact pl _ rfl rfl
  | bl _ => cases hb; exact pl _ rfl rfl
  | int _ => cases hb; exact pl _ rfl rfl
  | str _ => cases hb; exact pl _ rfl rfl
  | lst _ => cases hb; exact pl _ rfl rfl
  | rol _ => cases hb; exact pl _ rfl rfl
  | tup _ => cases hb; exact pl _ rfl rfl
  | dct _ => cases hb; exact pl _ rfl rfl
  | _ => cases hb
theorem me_isC {c : Str} (O : ObC X.K) (T : ClF X.K c) (hg : Gl X "isinstance") (hm : X.mg "isinstance" = none) (he : ME X W e fe) (hc : PE X ce (tC (.ref (He.ga X.K c)))) (hs : starEach [e, ce] X.env = (false, eval e X.env) :: starEach [ce] X.env := by rfl) (hs2 : starEach [ce] X.env = (false, eval ce X.env) :: starEach [] X.env := by rfl)
    (hpl : (backTo pos (starEach [ce] X.env)).any (·.1) = false := by rfl) : ME X W (.Call (.Name "isinstance" p) [e, ce] [] pos) (e1 (oIsT (qCls c)) fe) :=
  PE.imp (pe_callB call_isi hg hm (by decide +kernel) (pa_cons he (pa_cons hc pa_nil hs2) hs) (by decide) (by decide) hs hpl) fun _ _ _ h => e1_ok (p_isC O T) h
/-- {} -/
def eDict0 : FE := fun ε => some (.v (.ow (.dct [])) ε)
theorem me_dict0 : ME X W (.Dict [] [] pos) eDict0 :=
  PE.imp pe_dnewK fun σ H Q ⟨F, ε, E0, h⟩ p hp => (h.gives E0).newO E0.sub hp ⟨[], rfl, .nil⟩
/-- a constant of the module -/
theorem me_glob {x : Str} {v : V} {u : Value} {d : D} (hg : Gl X x) (hm : X.mg x = some u) (r : RelV v u) (rp : ∀ F, Rep X.K F v d) (hd : (x == ("__debug__" : Str)) = false := by decide) : ME X W (.Name x pos) (eC d) := me_C (pe_glob hg hm r hd) rp
end
end Mi

namespace Mi
open PySem PySem.Spec PyProof.Rows L2 LamX

theorem code_is {K : PySem.W.Frag} {x q : Str} {pr : Arguments} {body : List Stmt} {sc : Scope} {oc dV kV doc pm cv ct : Value} {an od : Option Addr} {osl : Array (Option Value)} {c P : Addr}
    (lk : K.lookup (He.ga K x) = some ⟨oc, od, .func (PySem.W.fnOf x q pr body sc dV kV doc pm an cv ct), osl⟩) (h : codeOf K x = some (c, P)) : cv = .ref c := by
  unfold codeOf at h
  rw [lk] at h
  simp only [PySem.W.fnOf] at h
  cases cv with
  | ref c' =>
    simp only at h
    split at h
    · split at h
      · split at h
        · cases h; rfl
        · cases h
      · cases h
    · cases h
  | _ => cases h
theorem lamT_mem {K : PySem.W.Frag} {x : Str} {c P : Addr} (hx : x ∈ lamNames) (h : codeOf K x = some (c, P)) : (P, (x ++ ".<locals>.") ++ "<lambda>") ∈ lamT K := List.mem_filterMap.mpr ⟨x, hx, by rw [h]; rfl⟩
theorem lamCs_mem {K : PySem.W.Frag} {x : Str} {c P : Addr} (hx : x ∈ lamNames) (h : codeOf K x = some (c, P)) : (c, P) ∈ lamCs K := List.mem_filterMap.mpr ⟨x, hx, h⟩
theorem nodup_fst {l : List (Addr × Str)} (h : (l.map (·.1)).Nodup) {p q : Addr × Str} (hp : p ∈ l) (hq : q ∈ l) (e : p.1 = q.1) : p = q := by
  induction l with
  | nil => cases hp
  | cons a l ih =>
    simp only [List.map_cons, List.nodup_cons] at h
    rcases List.mem_cons.mp hp with hp1 | hp1 <;> rcases List.mem_cons.mp hq with hq1 | hq1
    · rw [hp1, hq1]
    · exact absurd (List.mem_map.mpr ⟨q, hq1, by rw [← e, hp1]⟩ : a.1 ∈ List.map (·.1) l) h.1
    · exact absurd (List.mem_map.mpr ⟨p, hp1, by rw [e, hq1]⟩ : a.1 ∈ List.map (·.1) l) h.1
    · exact ih h.2 hp1 hq1
/-- a def that makes lambdas -/
structure LmF (K : PySem.W.Frag) (mg : Str → Option Value) (base : Heap) (x : Str) (c P : Addr) : Prop where
  mem : x ∈ lamNames
  at_ : codeOf K x = some (c, P)
  tb : TabB base mg c P
  nd : ((lamT K).map (·.1)).Nodup
theorem fnnL_of {P : Program} {w : World} {K : PySem.W.Frag} {mg : Str → Option Value} {base : Heap} {u : Bool} {n : Nat} {f : Addr} {x q : Str} {pr : Arguments} {body : List Stmt} {sc : Scope} {fd : FuncData} {N ps : List Str} {b : FS} {c T : Addr}
    (D : FunD K x q pr body sc [] [] f fd) (hf : f = He.ga K x) (hc : codeOf K x = some (c, T)) (hm : mg x = some (.ref f)) (S : FnScope N ps sc) (bd : Binds K fd ps []) (hl : ps.length ≤ N.length)
    (hb : ∀ (A : Around) (out : List Env) (st : Shared) (H : Hp) (E : XK), Room n (A.deeper (envOfC q sc st.heap.objs.size f (.ref c))) → (u = true → A.guards = some []) → MSs (cxOf (L2.CX P w) P w K mg base N q sc f (.ref c) A out st H E) (WE0 E) ps.length body b) :
    Fnn P w K mg base u (n + 1) x ps.length (runD N.length b) := by
  refine ⟨f, fd, ps, hm, D.kp, bd, ?_⟩
  obtain ⟨oc, od, dV, kV, dc, pm, an, cv, ct, sl, efd, lk, hcc, hD, hK⟩ := D.ex
  subst efd
  have ecv : cv = .ref c := code_is (by rw [← hf]; exact lk) hc
  refine ⟨fun _ _ _ _ h => h.1, fun A out st H ar us vs Q E rm gd e0 b r wish => ?_⟩
  subst ecv
  refine run_ofS lk hcc S rm e0 b r wish.1 fun rm' => ⟨_, hb A out st H E rm' gd, runD_ok hl wish⟩
/-- the def that hears what a lambda does -/
structure Hear (P : Program) (w : World) (K : PySem.W.Frag) (mg : Str → Option Value) (base : Heap) (x a : Str) (hd : Option (R Sl) → Option D) : Prop where
  ex : ∃ (g : Addr) (Ng : List Str) (pg : Arguments) (bg : List Stmt) (sg : Scope) (dV kV doc pm cdv ct oc : Value) (an od : Option Addr) (osl : Array (Option Value)) (bF : D → Option (R Sl) → FS),
    mg x = some (.ref g) ∧ PySem.W.keepIn K (.ref g) = true ∧ K.lookup g = some ⟨oc, od, .func (PySem.W.fnOf x x pg bg sg dV kV doc pm an cdv ct), osl⟩ ∧ PySem.W.codeIn K cdv x = true ∧ L2.Binds K (PySem.W.fnOf x x pg bg sg dV kV doc pm an cdv ct) [a] [] ∧
    FnScope Ng [a] sg ∧ Ng[0]? = some a ∧ Vis sg a ∧ 1 ≤ Ng.length ∧
    (∀ (A : Around) (stk : List Env) (s : Shared) (H : Hp) (t : D) (r : Option (R Sl)), Room 1 (A.deeper (envOfC x sg s.heap.objs.size g cdv)) → A.guards = some [] →
      (∀ (W : WX) (pn : List (Addr × Obj)) (xe : Value → Shared → Prop) (p1 p2 : Pos), Takes ((cxOf C8.CX0 P w K mg base Ng x sg g cdv A stk s H C8.E0).tr pn xe) W → ME ((cxOf C8.CX0 P w K mg base Ng x sg g cdv A stk s H C8.E0).tr pn xe) W (.Call (.Name a p1) [] [] p2) (eThk t r)) →
      MSs (cxOf C8.CX0 P w K mg base Ng x sg g cdv A stk s H C8.E0).nox WF 1 bg (bF t r)) ∧
    (∀ t r d, hd r = some d → ∃ s ε', runD Ng.length (bF t r) [.fz t] = some (.v s ε') ∧ (s = .fz d ∨ s = .ow d))
theorem me_lam {X : Cx} {W : WX} {x0 x a : Str} {k m : Nat} {c T : Addr} {hd : Option (R Sl) → Option D} {params : Arguments} {body : Expr} {scope : Scope} {p lpos pos : Pos} {fth : FE} {caps : List Nat}
    (Hh : Hear X.prog X.w X.K X.mg X.base x a hd) (hg : Gl X x) (rm : Room m X.A) (hk : k + 2 ≤ m) (gd : X.A.guards = some []) (LF : LmF X.K X.mg X.base x0 c T) (hcode : X.env.code = .ref c) (hq : X.env.qual = x0 ++ ".<locals>.") (L : LamS X.env.scope scope) (hdef : defaultsOf params X.env = ([], []))
    (hbind : ∀ (q : Str) (cl : List (Str × Addr)) (pm cv ctv : Value), bindArgs (PySem.W.kla_fn "<lambda>" q params body scope cl pm cv ctv) ⟨[], []⟩ = pure [])
    (hbody : ∀ (A : Around) (outer : List Env) (s : Shared) (H : Hp) (E : XK) (f c' : Addr), Room k (A.deeper (lamEnv X scope s.heap.objs.size f c')) → A.guards = some [] → ME (lamCx X A outer s H E scope f c') (WE0 E) body fth)
    (hdb : (x == ("__debug__" : Str)) = false := by decide) (hd1 : (a == ("__debug__" : Str)) = false := by decide) (hcd : (a == ("__classdict__" : Str)) = false := by decide) :
    ME X W (.Call (.Name x p) [.Lambda params body scope lpos] [] pos) (eLam caps fth hd) := by
  obtain ⟨g, Ng, pg, bg, sg, dV, kV, doc, pm, cdv, ct, oc, an, od, osl, bF, hm, hkp, lk, hcg, hb, Sg, hNg, hva, hn, hB, hV⟩ := Hh.ex
  have eq : X.env.qual ++ "<lambda>" = (x0 ++ ".<locals>.") ++ "<lambda>" := by rw [hq]
  have rm2 : Room (k + 2) X.A := rm.mono hk
  refine PE.imp (pe_lamS (T := lamT X.K) (TT := TT0 X.K fth hd) (t := fun E => tM X.K (WE0 E) fth) (k := k) hg hm hkp lk hcg hb Sg hNg hva
    (gives_hd hn (fun s H t r th => hB X.A X.stack s H t r ((rm2.mono (by omega : 2 ≤ k + 2)).deeper _) gd th) hV) LF.tb hcode (by rw [eq]; exact lamT_mem LF.mem LF.at_) (fun q hq' e => by
      rw [eq]
      exact congrArg Prod.snd (nodup_fst LF.nd hq' (lamT_mem LF.mem LF.at_) e)) rm2 L hdef hbind (fun A outer s H E f c' r2 g2 => hbody A outer s H E f c' r2 (by rw [g2]; exact gd)) hdb hd1 hcd) fun σ H Q h => lam_do h
end Mi
namespace Mi
open PySem PySem.Spec PyProof.Rows L2
theorem me_gstr {X : Cx} {W : WX} {x z : Str} {pos : Pos} (hg : Gl X x) (h : ∃ t, X.mg x = some (.str z t)) (hd : (x == ("__debug__" : Str)) = false := by decide) : ME X W (.Name x pos) (eC (.str z)) := by
  obtain ⟨t, h⟩ := h
  exact me_glob (v := .str z) hg h ⟨t, rfl⟩ (fun _ => .str z) hd
theorem me_gint {X : Cx} {W : WX} {x : Str} {i : Int} {pos : Pos} (hg : Gl X x) (h : ∃ t, X.mg x = some (.int i t)) (hd : (x == ("__debug__" : Str)) = false := by decide) : ME X W (.Name x pos) (eC (.int i)) := by
  obtain ⟨t, h⟩ := h
  exact me_glob (v := .int i) hg h ⟨t, rfl⟩ (fun _ => .int i) hd
theorem zip_mem {cs : List Str} {bs : List Bool} {c : Str} {b : Bool} (h : (cs.zip bs).lookup c = some b) : c ∈ cs := by
  induction cs generalizing bs with
  | nil => simp at h
  | cons k cs ih =>
    cases bs with
    | nil => simp at h
    | cons x bs =>
      rw [List.zip_cons_cons, List.lookup_cons] at h
      cases q : (c == k) with
      | true => rw [beq_iff_eq.mp q]; exact List.mem_cons_self ..
      | false => rw [q] at h; exact List.mem_cons_of_mem _ (ih h)
theorem zip_some {cs : List Str} {bs : List Bool} {c : Str} (h : c ∈ cs) (hl : cs.length = bs.length) : ((cs.zip bs).lookup c).isSome = true := by
  induction cs generalizing bs with
  | nil => cases h
  | cons k cs ih =>
    cases bs with
    | nil => simp at hl
    | cons x bs =>
      rw [List.zip_cons_cons, List.lookup_cons]
      cases q : (c == k) with
      | true => rfl
      | false =>
        rcases List.mem_cons.mp h with rfl | h
        · simp at q
        · exact ih h (by simpa using hl)
end Mi
namespace Mi
open PySem PySem.Spec PyProof.Rows L2
@[simp] theorem bf_un {β : Type} (ε : En) (k : D → En → Option (R β)) : bf (some (.v .un ε)) k = none := rfl
theorem mt_chain {X : Cx} {W : WX} {a b c : Expr} {fa fb fc : FE} {pos : Pos} {o o' : CmpOp} {r r' : R2} {p p' : D → D → Option Sl} (ho : OpR X (compareOp o) r) (ho' : OpR X (compareOp o') r') (hp : Prim2 X.K r p) (hp' : Prim2 X.K r' p')
    (ha : ME X W a fa) (hb : ME X W b fb) (hc : ME X W c fc) (hm : lastMarks [o, o'] [b, c] = false := by with_unfolding_all rfl) : MT X W (.Compare a [o, o'] [b, c] pos) (bB (e3 p p' fa fb fc)) := by
  refine PT.imp (pt_chain ho ho' ha hb hc hm) fun σ H Q hq => ?_
  obtain ⟨F, ε, E0, h⟩ := bB_ok hq
  refine ⟨F, ε, E0, Do.bindF h fun x ε1 vx H1 F1 a1 h1 => ⟨F1, ε1, a1.eo, Do.bindF h1 fun y ε2 vy H2 F2 a2 h2 => ?_⟩⟩
  cases q : p x y with
  | none => rw [q] at h2; exact h2.elim
  | some s =>
    rw [q] at h2
    refine hp F2 H2 vx vy x y s _ a2.eo.sub (.inl (a1.rp.up a2.fs)) (.inl a2.rp) q fun v F3 H3 gr rs nw => ?_
    cases s with
    | un => exact rs.elim
    | ow d => exact h2.elim
    | fz d =>
      cases d with
      | bl k =>
        cases rs
        have e3 := a2.eo.grow gr
        cases k with
        | true =>
          refine ⟨true, rfl, iteT ⟨F3, ε2, e3, Do.bindF (Do.sub h2 gr.fs gr.frm) fun z ε4 vz H4 F4 a4 h4 => ?_⟩⟩
          obtain ⟨s, e, h5⟩ := ret_do h4
          exact hp' F4 H4 vy vz y z s _ a4.eo.sub (.inl (a2.rp.up (gr.fs.trans a4.fs))) (.inl a4.rp) e (h5.gives a4.eo)
        | false => exact ⟨false, rfl, iteF (h2 _ H3 F3 ⟨gr.fs, e3, .bl _, trivial, gr.frm, trivial⟩)⟩
      | _ => exact h2.elim
end Mi

namespace Mi
open PySem PySem.Spec PyProof.Rows L2

/-! ### methods of own classes -/
/-- the receiver, then the arguments; rv: they were told in the contrary sequence -/
def aRecv (c m : Str) (rv : Bool) (fo : FE) (fa : FAr) : FAr := fun ε => bf (fo ε) fun d ε1 => match d with
  | .ins c' gs => if c' = c ∧ gs.lookup m = none then bnd (fa ε1) fun ss ε2 => (asD ss).bind fun ds => some (.v ((none, .fz (.ins c' gs)) :: (if rv then ds.reverse else ds).map fun d => (none, .fz d)) ε2) else none
  | _ => none
def eMeth (c m : Str) (np : Nat) (Fd : FD) (rv : Bool) (fo : FE) (fa : FAr) : FE := eCall np Fd (aRecv c m rv fo fa)
theorem ArgsOk.vals {K : PySem.W.Frag} {σ : St} {ε : En} {F H : Hp} : ∀ {vs : List V} {ds : List D}, RepL K F vs ds → ArgsOk K σ ε F H vs (ds.map fun d => (none, .fz d))
  | _, _, .nil => .nil
  | _, _, .cons h r => .val h (ArgsOk.vals r)
theorem map_none_fz {ds : List D} {p : Nat} {d' : D} (h : (ds.map fun d => ((none : Option Nat), Sl.fz d))[p]? = some (none, .ow d')) : False := by
  rw [List.getElem?_map, Option.map_eq_some_iff] at h
  obtain ⟨x, _, e⟩ := h
  cases e
section
variable {X : Cx} {W : WX} {u : Bool} {n np : Nat} {c m : Str} {f : Addr} {fd : FuncData} {ps ks : List Str} {Fd : FD} {o e : Expr} {es : List Expr} {fo : FE} {fa : FAr} {apos pos : Pos} {kws : List Keyword}
/-- what the reading of a method's call gives -/
theorem recv_do {σ : St} {H : Hp} {Q : VK} {rv : Bool} (h : tM X.K W (eMeth c m np Fd rv fo fa) σ H Q) :
    tM X.K W fo σ H fun x H1 => ∃ a dx fs, x = .ref a ∧ H1 a = some (.ins (He.ga X.K c) dx fs) ∧ fs.lookup m = none ∧
      tMA X.K W fa σ H1 fun vs H2 => (vs.length + 1 = np ∧ ∃ dx2 fs2, H2 a = some (.ins (He.ga X.K c) dx2 fs2)) ∧ spM X.K np Fd (.ref a :: (if rv then vs.reverse else vs)) H2 Q fun k d H' => W k d σ H' := by
  obtain ⟨F, ε, E0, h⟩ := tcall_ok h
  refine ⟨F, ε, E0, DoA.bindF h fun d ε1 v H1 F1 a h1 => ?_⟩
  cases d with
  | ins c' gs =>
    simp only at h1
    by_cases hc : c' = c ∧ gs.lookup m = none
    · rw [if_pos hc] at h1
      obtain ⟨rfl, hl⟩ := hc
      have rp := a.rp
      cases rp with
      | ins e1 rf =>
        rename_i ad dx fs
        refine ⟨ad, dx, fs, rfl, a.eo.sub _ _ e1, rf.no hl, F1, ε1, a.eo, DoA.bind h1 fun ss ε2 vs H2 F2 b h2 => ?_⟩
        cases q : asD ss with
        | none => rw [q] at h2; exact h2.elim
        | some ds =>
          rw [q] at h2
          have rl := b.ok.rep q
          have rl2 := rl.rv rv
          have e2 := b.fs _ _ e1
          have hsp := h2 (.ref ad :: (if rv then vs.reverse else vs)) H2 F2 ⟨b.fs, b.eo, .val (Rep.ins e2 (rf.up b.fs)) (ArgsOk.vals rl2), b.fr, fun p v d' q1 q2 => by
            cases p with
            | zero => simp at q2
            | succ p =>
              rw [List.getElem?_cons_succ] at q2
              exact (map_none_fz q2).elim⟩
          have ln : (if rv then vs.reverse else vs).length = vs.length := by cases rv <;> simp
          have l1 := hsp.1
          rw [List.length_cons, ln] at l1
          exact ⟨⟨l1, dx, fs, b.eo.sub _ _ e2⟩, hsp⟩
    · rw [if_neg hc] at h1
      exact h1.elim
  | _ => exact h1.elim
/-- a method and the ways in which its parameters are told -/
structure Mt (P : Program) (w : World) (K : PySem.W.Frag) (mg : Str → Option Value) (base : Heap) (u : Bool) (n : Nat) (c m : Str) (ks : List Str) (Fd : FD) : Prop where
  ex : ∃ (f : Addr) (fd : FuncData) (ps : List Str), Cls K (He.ga K c) ∧ Meth K (He.ga K c) m f ∧ FnG P w K mg base u n f fd ps (spM K (ks.length + 1) Fd) ∧
    (∀ (a : Addr) (s : Shared) (us : List Value), us.length = ks.length → K.In s.heap → BindsTo s fd ⟨.ref a :: us, []⟩ (ps.zip (.ref a :: us))) ∧
    (∀ (a : Addr) (s : Shared) (us : List Value), us.length = ks.length → K.In s.heap → BindsTo s fd ⟨[.ref a], ks.zip us⟩ (ps.zip (.ref a :: us))) ∧
    (∀ (a : Addr) (s : Shared) (us : List Value), us.length = ks.length → K.In s.heap → BindsTo s fd ⟨[.ref a], ks.reverse.zip us⟩ (ps.zip (.ref a :: us.reverse))) ∧ PySem.W.fnIn K f = true
/-- the callee runs, at any place around -/
theorem run_mt {pins : List (Addr × Obj)} {σ : St} {H : Hp} {st : Shared} {Q : VK} {A : Around} {E' : Value → Shared → Prop} {ar : Args} {us : List Value} {vs : List V} {sp : Sp} {E : XK} (G : FnG X.prog X.w X.K X.mg X.base u n f fd ps sp) (rm : Room n A) (gd : u = true → A.guards = some [])
    (e0 : Env0 X.prog X.w X.K X.mg X.base A X.stack st H) (bd : BindsTo st fd ar (ps.zip us)) (hx : ∀ z st2, L2.CX X.prog X.w X.stack H st E z st2 → E' z st2) (I : Inv X pins σ H st) (r : Vals vs us) (h : sp vs H Q E) :
    codeAny (model X.prog X.w) A (.call (.ref f) ar) (wants (EP X pins σ Q) E') st := by
  refine codeAny_mono (G.run A X.stack st H ar us vs Q E rm gd e0 bd r h) fun rs st2 hq => ?_
  cases rs with
  | error z => exact hx z st2 hq
  | ok fl =>
    cases fl with
    | ret u => exact I.after hq
    | next => exact hq.elim
    | brk => exact hq.elim
    | cont => exact hq.elim

theorem me_meth {pl : Sem Bool} (M : Mt X.prog X.w X.K X.mg X.base u n c m ks Fd) (rm : Room n X.A) (gd : u = true → X.A.guards = some []) (tk : Takes X W) (ho : ME X W o fo) (ha : MA X W (e :: es) fa)
    (hst : starEach (e :: es) X.env = (false, eval e X.env) :: starEach es X.env := by rfl) (hpl : (backTo pos (starEach es X.env)).any (·.1) = false := by rfl)
    (ht : eval (.Call (.Attribute o m apos) (e :: es) [] pos) X.env = (do
      let ov ← eval o X.env
      standAt apos.atName
      let (f, first) ← holding [ov] (getMethod ov m pl)
      callWith pos f first (backTo pos (starEach (e :: es) X.env)) (backToKw pos (keywordEach [] X.env))) := by rfl) :
    ME X W (.Call (.Attribute o m apos) (e :: es) [] pos) (eMeth c m (ks.length + 1) Fd false fo fa) := by
  obtain ⟨f, fd, ps, hc, hm, G, b1, b2, b3, _⟩ := M.ex
  refine ⟨fun pins st σ H Q I h => ?_⟩
  refine PySem.W.methodCall_KW (pl := pl) (thn (ho.run pins st σ H _ I (recv_do h)) fun uo s1 ⟨x, H1, I1, rx, a, dx, fs, ex, ea, l, q⟩ => ?_) ht
  subst ex
  obtain rfl : uo = Value.ref a := rx
  refine getmeth_ok I1 ea hc hm l ?_
  refine PySem.W.callWith_K (first := [.ref a]) (h₀ := X.base) I.ok.mod.kin hm.kp (thn (ha.run pos pins s1 σ H1 _ I1 q) fun us s2 ⟨vs, H2, I2, r, ⟨hl, _⟩, q2⟩ => ⟨I2.kIn, ?_⟩) hst hpl
  have lu : us.length = ks.length := by rw [← r.length]; omega
  exact wpAny_call (run_mt (ar := ⟨.ref a :: us, []⟩) (us := .ref a :: us) (vs := .ref a :: vs) G rm gd I2.env0 (b1 a s2 us lu I2.kIn) (fun z st2 hq => passAt tk σ pins H2 s2 z st2 I2 hq) I2 (.cons rfl r) q2)
theorem me_meth0 {pl : Sem Bool} (M : Mt X.prog X.w X.K X.mg X.base u n c m [] Fd) (rm : Room n X.A) (gd : u = true → X.A.guards = some []) (tk : Takes X W) (ho : ME X W o fo)
    (ht : eval (.Call (.Attribute o m apos) [] [] pos) X.env = (do
      let ov ← eval o X.env
      standAt apos.atName
      let (f, first) ← holding [ov] (getMethod ov m pl)
      callWith pos f first (backTo pos (starEach [] X.env)) (backToKw pos (keywordEach [] X.env))) := by rfl) :
    ME X W (.Call (.Attribute o m apos) [] [] pos) (eMeth c m 1 Fd false fo aNil) := by
  obtain ⟨f, fd, ps, hc, hm, G, b1, b2, b3, _⟩ := M.ex
  refine ⟨fun pins st σ H Q I h => ?_⟩
  refine PySem.W.methodCall_KW (pl := pl) (thn (ho.run pins st σ H _ I (recv_do h)) fun uo s1 ⟨x, H1, I1, rx, a, dx, fs, ex, ea, l, q⟩ => ?_) ht
  subst ex
  obtain rfl : uo = Value.ref a := rx
  refine getmeth_ok I1 ea hc hm l ?_
  obtain ⟨F, ε, E0, q⟩ := q
  obtain ⟨_, q2⟩ := q [] H1 F ⟨.refl _, E0, .nil, .refl, fun p v d h1 _ => by simp at h1⟩
  exact PySem.W.callWith_K0 (first := [.ref a]) I1.kIn hm.kp (wpAny_call (run_mt (ar := ⟨[.ref a], []⟩) (us := [.ref a]) (vs := [.ref a]) G rm gd I1.env0 (b1 a s1 [] rfl I1.kIn) (fun z st2 hq => passAt tk σ pins H1 s1 z st2 I1 hq) I1 (.cons rfl .nil) q2))
theorem me_methK {pl : Sem Bool} {rv : Bool} (M : Mt X.prog X.w X.K X.mg X.base u n c m ks Fd) (rm : Room n X.A) (gd : u = true → X.A.guards = some []) (tk : Takes X W) (ho : ME X W o fo) (hkw : PK X kws (tMA X.K W fa))
    (hall : (backToKw pos (keywordEach kws X.env)).all (·.1.isSome) = true := by rfl)
    (hks : (backToKw pos (keywordEach kws X.env)).filterMap (·.1) = (if rv then ks.reverse else ks) := by rfl)
    (hpl : ((backTo pos (starEach [] X.env)).any (·.1) || (backToKw pos (keywordEach kws X.env)).any (·.1.isNone)) = false := by rfl)
    (ht : eval (.Call (.Attribute o m apos) [] kws pos) X.env = (do
      let ov ← eval o X.env
      standAt apos.atName
      let (f, first) ← holding [ov] (getMethod ov m pl)
      callWith pos f first (backTo pos (starEach [] X.env)) (backToKw pos (keywordEach kws X.env))) := by rfl) :
    ME X W (.Call (.Attribute o m apos) [] kws pos) (eMeth c m (ks.length + 1) Fd rv fo fa) := by
  obtain ⟨f, fd, ps, hc, hm, G, b1, b2, b3, _⟩ := M.ex
  refine ⟨fun pins st σ H Q I h => ?_⟩
  refine PySem.W.methodCall_KW (pl := pl) (thn (ho.run pins st σ H _ I (recv_do h)) fun uo s1 ⟨x, H1, I1, rx, a, dx, fs, ex, ea, l, q⟩ => ?_) ht
  subst ex
  obtain rfl : uo = Value.ref a := rx
  refine getmeth_ok I1 ea hc hm l ?_
  refine PySem.W.callWith_KW0 (first := [.ref a]) (h₀ := X.base) I.ok.mod.kin hm.kp hall ?_ hpl
  refine thn (hkw.run pos pins s1 σ H1 _ I1 q) fun us s2 ⟨vs, H2, I2, r, ⟨hl, _⟩, q2⟩ => ⟨I2.kIn, ?_⟩
  have lu : us.length = ks.length := by rw [← r.length]; omega
  rw [hks]
  cases rv with
  | false => exact wpAny_call (run_mt (us := .ref a :: us) (vs := .ref a :: vs) G rm gd I2.env0 (b2 a s2 us lu I2.kIn) (fun z st2 hq => passAt tk σ pins H2 s2 z st2 I2 hq) I2 (.cons rfl r) q2)
  | true => exact wpAny_call (run_mt (us := .ref a :: us.reverse) (vs := .ref a :: vs.reverse) G rm gd I2.env0 (b3 a s2 us lu I2.kIn) (fun z st2 hq => passAt tk σ pins H2 s2 z st2 I2 hq) I2 (.cons rfl (vals_back r)) q2)
end
end Mi

namespace Mi
open PySem PySem.Spec PyProof.Rows L2

/-! ### calls by the machine of own special methods: all is frozen -/
def callD (Fd : FD) (ds : List D) (ε : En) : Option (R Sl) := match Fd (ds.map .fz) with
  | some (.v s _) => some (.v s ε)
  | some (.x c gs _) => some (.x c gs ε)
  | none => none
theorem map2 (ds : List D) : (ds.map fun d => ((none : Option Nat), Sl.fz d)).map (·.2) = ds.map .fz := by
  rw [List.map_map]
  rfl
theorem wb_none (ε : En) : ∀ (ds : List D) (r : List Sl), wb ε (ds.map fun d => ((none : Option Nat), Sl.fz d)) r = ε
  | [], _ => by simp [wb]
  | _ :: ds, [] => by simp [wb]
  | _ :: ds, _ :: r => by simp [wb, wb_none ε ds r]
theorem muOk_none (ds : List D) : muOk ds.length (ds.map fun d => ((none : Option Nat), Sl.fz d)) = true := by
  unfold muOk
  have e : (ds.map fun d => ((none : Option Nat), Sl.fz d)).filterMap (·.1) = [] := by
    induction ds with
    | nil => rfl
    | cons d r ih => simp
  rw [e]
  simp
theorem callD_ok {K : PySem.W.Frag} {W : WX} {σ : St} {ε : En} {F H : Hp} {vs : List V} {ds : List D} {Fd : FD} {Q : VK} (e : EOk K F H σ ε) (r : RepL K F vs ds) (h : Do K W σ ε F H (callD Fd ds ε) Q) :
    spM K ds.length Fd vs H Q fun c d H' => W c d σ H' := by
  refine ⟨r.len, F, ds.map .fz, ?_, ?_⟩
  · have q := (ArgsOk.vals (σ := σ) (ε := ε) (H := H) r).eok e (muOk_ok (muOk_none ds)).1
    rwa [map2] at q
  · have a : AftA K σ ε F H F H ε vs (ds.map fun d => ((none : Option Nat), Sl.fz d)) := ⟨.refl _, e, ArgsOk.vals r, .refl, fun p v d q1 q2 => (map_none_fz q2).elim⟩
    have q := ecall_ok (Fd := Fd) (Q := Q) (W := W) a (muOk_none ds) (by
      rw [map2]
      unfold callD at h
      cases z : Fd (ds.map .fz) with
      | none => rw [z] at h; exact h
      | some y =>
        rw [z] at h
        cases y with
        | v s ss => simpa only [wb_none] using h
        | x c gs ss => simpa only [wb_none] using h)
    rwa [map2] at q
/-- without an exception -/
def noX (r : Option (R Sl)) : Option (R Sl) := match r with
  | some (.v s ε) => some (.v s ε)
  | _ => none
theorem noX_do {K : PySem.W.Frag} {W W' : WX} {σ : St} {ε : En} {F H : Hp} {r : Option (R Sl)} {Q : VK} (h : Do K W σ ε F H (noX r) Q) : Do K W' σ ε F H r Q := by
  cases r with
  | none => exact h
  | some q =>
    cases q with
    | v s ε1 => exact h
    | x c gs ε1 => exact h.elim
/-- the answer is a truth -/
def isBl (r : Option (R Sl)) : Option (R Sl) := match r with
  | some (.v (.fz (.bl b)) ε) => some (.v (.fz (.bl b)) ε)
  | _ => none
theorem isBl_do {K : PySem.W.Frag} {W W' : WX} {σ : St} {ε : En} {F H : Hp} {r : Option (R Sl)} {Q : VK} (h : Do K W σ ε F H (isBl r) Q) : Do K W' σ ε F H r fun v H' => ∃ b, v = .bl b ∧ Q (.bl (id b)) H' := by
  cases r with
  | none => exact h
  | some q =>
    cases q with
    | v s ε1 =>
      cases s with
      | fz d =>
        cases d with
        | bl b => exact fun v H' F' a => ⟨b, by have := a.rs; cases this; rfl, h (.bl b) H' F' (by have := a.rs; cases this; exact a)⟩
        | _ => exact h.elim
      | _ => exact h.elim
    | x c gs ε1 => exact h.elim
def isNb (r : Option (R Sl)) : Option (R Sl) := match r with
  | some (.v (.fz (.bl b)) ε) => some (.v (.fz (.bl (!b))) ε)
  | _ => none
theorem isNb_do {K : PySem.W.Frag} {W W' : WX} {σ : St} {ε : En} {F H : Hp} {r : Option (R Sl)} {Q : VK} (h : Do K W σ ε F H (isNb r) Q) : Do K W' σ ε F H r fun v H' => ∃ b, v = .bl b ∧ Q (.bl (!b)) H' := by
  cases r with
  | none => exact h
  | some q =>
    cases q with
    | v s ε1 =>
      cases s with
      | fz d =>
        cases d with
        | bl b => exact fun v H' F' a => ⟨b, by have := a.rs; cases this; rfl, h (.bl (!b)) H' F' ⟨a.fs, a.eo, .bl _, trivial, a.fr, trivial⟩⟩
        | _ => exact h.elim
      | _ => exact h.elim
    | x c gs ε1 => exact h.elim
def isSt (r : Option (R Sl)) : Option (R Sl) := match r with
  | some (.v (.fz (.str b)) ε) => some (.v (.fz (.str b)) ε)
  | _ => none
theorem isSt_do {K : PySem.W.Frag} {W W' : WX} {σ : St} {ε : En} {F H : Hp} {r : Option (R Sl)} {Q : VK} (h : Do K W σ ε F H (isSt r) Q) : Do K W' σ ε F H r fun v H' => ∃ b, v = .str b ∧ Q v H' := by
  cases r with
  | none => exact h
  | some q =>
    cases q with
    | v s ε1 =>
      cases s with
      | fz d =>
        cases d with
        | str b => exact fun v H' F' a => ⟨b, by have := a.rs; cases this; rfl, h v H' F' a⟩
        | _ => exact h.elim
      | _ => exact h.elim
    | x c gs ε1 => exact h.elim
def isLn (r : Option (R Sl)) : Option (R Sl) := match r with
  | some (.v (.fz (.int b)) ε) => if 0 ≤ b ∧ b < 2 ^ 63 then some (.v (.fz (.int b)) ε) else none
  | _ => none
theorem isLn_do {K : PySem.W.Frag} {W W' : WX} {σ : St} {ε : En} {F H : Hp} {r : Option (R Sl)} {Q : VK} (h : Do K W σ ε F H (isLn r) Q) : Do K W' σ ε F H r fun v H' => ∃ b, v = .int b ∧ (0 ≤ b ∧ b < 2 ^ 63) ∧ Q v H' := by
  cases r with
  | none => exact h
  | some q =>
    cases q with
    | v s ε1 =>
      cases s with
      | fz d =>
        cases d with
        | int b =>
          unfold isLn at h
          simp only at h
          split at h
          · rename_i hb
            exact fun v H' F' a => ⟨b, by have := a.rs; cases this; rfl, hb, h v H' F' a⟩
          · exact h.elim
        | _ => exact h.elim
      | _ => exact h.elim
    | x c gs ε1 => exact h.elim
def isI (c : Str) : D → Bool
  | .ins c' _ => decide (c' = c)
  | _ => false
theorem isI_ok {K : PySem.W.Frag} {F : Hp} {c : Str} {d : D} {v : V} (h : isI c d = true) (r : Rep K F v d) : ∃ a dx fs, v = .ref a ∧ F a = some (.ins (He.ga K c) dx fs) := by
  cases d with
  | ins c' gs =>
    have hc : c' = c := of_decide_eq_true h
    subst hc
    cases r with
    | ins e _ => exact ⟨_, _, _, rfl, e⟩
  | _ => exact (Bool.noConfusion (show false = true from h))
abbrev F0 : XK := fun _ _ _ => False
theorem cx_false {P : Program} {w : World} {out : List Env} {H : Hp} {s : Shared} {e : Value} {s' : Shared} (h : L2.CX P w out H s F0 e s') : False := by
  obtain ⟨_, _, _, _, _, _, _, _, _, _, _, _, z⟩ := h
  exact z
/-- two instances of a class, compared by its own __eq__ -/
def e2o (c : Str) (Fd : FD) (g : Option (R Sl) → Option (R Sl)) (fa fb : FE) : FE := fun ε => bf (fa ε) fun x ε1 => bf (fb ε1) fun y ε2 => if isI c x && isI c y then g (callD Fd [x, y] ε2) else none
def r2o (K : PySem.W.Frag) (c : Str) (Fd : FD) (g : Bool → Bool) : R2 := fun x y H Q => ∃ a dx fs b dy gs, x = .ref a ∧ y = .ref b ∧ H a = some (.ins (He.ga K c) dx fs) ∧ H b = some (.ins (He.ga K c) dy gs) ∧
  spM K 2 Fd [x, y] H (fun v H' => ∃ k, v = .bl k ∧ Q (.bl (g k)) H') F0
theorem e2o_ok {K : PySem.W.Frag} {W : WX} {c : Str} {Fd : FD} {g : Option (R Sl) → Option (R Sl)} {gb : Bool → Bool} (hg : ∀ {W W' : WX} {σ : St} {ε : En} {F H : Hp} {r : Option (R Sl)} {Q : VK}, Do K W σ ε F H (g r) Q → Do K W' σ ε F H r fun v H' => ∃ b, v = .bl b ∧ Q (.bl (gb b)) H')
    {fa fb : FE} {σ : St} {H : Hp} {Q : VK} (h : tM K W (e2o c Fd g fa fb) σ H Q) : tOp (r2o K c Fd gb) (tM K W fa) (tM K W fb) σ H Q := by
  obtain ⟨F, ε, E0, h⟩ := h
  refine ⟨F, ε, E0, Do.bindF h fun x ε1 vx H1 F1 a h1 => ⟨F1, ε1, a.eo, Do.bindF h1 fun y ε2 vy H2 F2 b h2 => ?_⟩⟩
  by_cases hc : (isI c x && isI c y) = true
  · rw [if_pos hc] at h2
    obtain ⟨c1, c2⟩ := Bool.and_eq_true_iff.mp hc
    have rx := a.rp.up b.fs
    obtain ⟨ad, dx, fs, e1, k1⟩ := isI_ok c1 rx
    obtain ⟨bd, dy, gs, e2, k2⟩ := isI_ok c2 b.rp
    exact ⟨ad, dx, fs, bd, dy, gs, e1, e2, b.eo.sub _ _ k1, b.eo.sub _ _ k2, callD_ok (ds := [x, y]) b.eo (.cons rx (.cons b.rp .nil)) (hg (W' := fun _ _ _ _ => False) h2)⟩
  · rw [if_neg hc] at h2
    exact h2.elim
section
variable {X : Cx} {W : WX} {u : Bool} {n : Nat} {c m : Str} {Fd : FD} {a b e : Expr} {fa fb fo : FE} {pos p : Pos}
theorem inst_at {pins : List (Addr × Obj)} {σ : St} {H : Hp} {s : Shared} {x C dx : Addr} {fs : List (Str × V)} (I : Inv X pins σ H s) (h : H x = some (.ins C dx fs)) : ∃ od, PySem.W.InstAt s.heap x (PySem.W.instObj C dx) C (some od) := by
  obtain ⟨mA, J, _⟩ := ins_get I.hok h
  obtain ⟨od, J, _⟩ := J.look
  exact ⟨od, J⟩
theorem op_eqO {k1 : Str} (M : Mt X.prog X.w X.K X.mg X.base u n c "__eq__" [k1] Fd) (rm : Room n X.A) (gd : u = true → X.A.guards = some []) : OpR X (compareOp .Eq) (r2o X.K c Fd id) := by
  obtain ⟨f, fd, ps, hc, hm, G, b1, _, _, _⟩ := M.ex
  intro pins s σ H x y v w Q I rx ry ⟨ad, dx, fs, bd, dy, gs, e1, e2, k1, k2, sp⟩
  subst e1 e2
  cases rx
  cases ry
  obtain ⟨od, J⟩ := inst_at I k1
  obtain ⟨od', J'⟩ := inst_at I k2
  obtain ⟨mm, hF⟩ := I.fr
  refine PySem.W.cmp_K (op := .Eq) (tb := .ref (He.ga X.K c)) (by have := rm.un; omega) hF I.ok.mod.kin J J'.type (by simp [PySem.W.notFirst]) hm.at_ hm.fn ?_
  refine wpAny_mono (wpAny_call (run_mt (ar := ⟨[.ref ad, .ref bd], []⟩) (us := [.ref ad, .ref bd]) (vs := [.ref ad, .ref bd]) (E' := X.xe) G rm gd I.env0 (b1 ad s [.ref bd] rfl I.kIn) (fun z st2 hq => (cx_false hq).elim) I (.cons rfl (.cons rfl .nil)) sp)) (fun r s' hq => ?_) fun _ _ z => z
  obtain ⟨v, H', I', rv, k, ev, q⟩ := hq
  subst ev
  cases rv
  exact ⟨.bl k, H', I', rfl, q⟩
theorem me_eqO {k1 : Str} (M : Mt X.prog X.w X.K X.mg X.base u n c "__eq__" [k1] Fd) (rm : Room n X.A) (gd : u = true → X.A.guards = some []) (ha : ME X W a fa) (hb : ME X W b fb) : ME X W (.Compare a [.Eq] [b] pos) (e2o c Fd isBl fa fb) :=
  PE.imp (pe_cmpR (op_eqO M rm gd) ha hb (nomark _)) fun _ _ _ h => e2o_ok (gb := id) isBl_do h
theorem mt_eqO {k1 : Str} (M : Mt X.prog X.w X.K X.mg X.base u n c "__eq__" [k1] Fd) (rm : Room n X.A) (gd : u = true → X.A.guards = some []) (ha : ME X W a fa) (hb : ME X W b fb) : MT X W (.Compare a [.Eq] [b] pos) (bB (e2o c Fd isBl fa fb)) :=
  PT.imp (pt_cmpR (op_eqO M rm gd) ha hb (nomark _)) fun _ _ _ h => e2o_ok (gb := id) isBl_do (bB_ok h)
/-- != of a class with an own __eq__ and no __ne__ -/
structure NeF (K : PySem.W.Frag) (c : Str) : Prop where
  mro : PySem.W.mroIn K (He.ga K c) (.type "object") = some true
  ne : PySem.W.findIn K (.ref (He.ga K c)) "__ne__" = some (some (.builtin "object.__ne__"))
theorem ifBound_objNe {M : Model} {A : Around} {E : Value → Shared → Prop} {s : Shared} {K : PySem.W.Frag} {x C : Addr} {ox : Obj} {od : Option Obj} {args : List Value} {Q : Option Value → Shared → Prop} (X : K.In s.heap) (I : PySem.W.InstAt s.heap x ox C od) (hs : PySem.W.findIn K (.ref C) "__ne__" = some (some (.builtin "object.__ne__")))
    (h : wpAny M A (call (.builtin "object.__ne__") (.ref x :: args)) (fun v => Q (some v)) E s) : wpAny M A (callSpecialIfBound? (.ref x) "__ne__" args) Q E s := by
  simp only [callSpecialIfBound?, bindSpecialIfBound?]
  refine wpAny_holding (wpAny_bind (wpAny_bind (wpAny_bind (I.type.here ((PySem.W.looks_findIn X hs).here ?_)))))
  refine wpAny_bind (wpAny_askSetting (wpAny_ite ?_))
  have fin : wpAny M A (call (.builtin "object.__ne__") ([.ref x] ++ args) >>= fun v => pure (some v)) Q E s := wpAny_bind (wpAny_mono h (fun v s' h' => wpAny_pure h') fun _ _ h' => h')
  split
  · exact wpAny_bind (wpAny_of_eq (F.cmp_object.ne.bind _) (wpAny_pure (by exact fin)))
  · exact wpAny_tryCatch (wpAny_bind (wpAny_of_eq (F.cmp_object.ne.bind _) (wpAny_pure (by exact fin))))
theorem objNe_entry {prog : Program} {w : World} {A : Around} {E : Value → Shared → Prop} {s : Shared} {K : PySem.W.Frag} {x C f : Addr} {ox : Obj} {od : Option Obj} {y : Value} {Q : Fin → Shared → Prop} (hu : A.units < cLine) (X : K.In s.heap) (I : PySem.W.InstAt s.heap x ox C od)
    (hs : PySem.W.findIn K (.ref C) "__eq__" = some (some (.ref f))) (hf : PySem.W.isFn K (.ref f) = true)
    (h : wpAny (model prog w) A (call (.ref f) [.ref x, y]) (fun v s' => ∃ b, v = .bool b ∧ Q (.done (.ret (.bool (!b)))) s') E s) : wpAny (model prog w) A (Builtin.«object.__ne__» ⟨[.ref x, y], []⟩) Q E s := by
  unfold Builtin.«object.__ne__»
  repeat (first
    | with_reducible refine wpAny_cRoomFor hu ?_
    | (refine wpAny_bind (m := callSpecialIfBound? (.ref x) (Str.ofString "__eq__") [y])
        (PySem.W.ifBound_K X I hs hf (wpAny_mono h (fun r s' hr => by
          obtain ⟨b, rfl, hq⟩ := hr
          repeat (first | exact hq | exact wpAny_pure hq | exact wpAny_truthy_bool hq | (refine wpAny_bind (m := truthy (.bool _)) (wpAny_truthy_bool ?_)) | wp_step)) fun _ _ e => e)))
    | wp_step)
theorem rc_ne {prog : Program} {w : World} {A : Around} {E : Value → Shared → Prop} {s : Shared} {K : PySem.W.Frag} {x C f : Addr} {ox : Obj} {od : Option Obj} {b tb : Value} {Q : Value → Shared → Prop} (hu : A.units + 1 < cLine) (X : K.In s.heap) (I : PySem.W.InstAt s.heap x ox C od)
    (hb : PySem.W.Looks (model prog w) s.heap (typeOf b) tb) (hn : PySem.W.notFirst K C tb = true) (hmr : PySem.W.mroIn K C (.type "object") = some true) (hne : PySem.W.findIn K (.ref C) "__ne__" = some (some (.builtin "object.__ne__")))
    (hs : PySem.W.findIn K (.ref C) "__eq__" = some (some (.ref f))) (hf : PySem.W.isFn K (.ref f) = true)
    (h : wpAny (model prog w) A.in1 (call (.ref f) [.ref x, b]) (fun v s' => ∃ k, v = .bool k ∧ Q (.bool (!k)) s') E s) : wpAny (model prog w) A (richCompare .NotEq (.ref x) b) Q E s := by
  have one : wpAny (model prog w) A (tryCompare (.ref x) (cmpInfo .NotEq).2.1 b) (fun r s' => ∃ v, r = some v ∧ Q v s') E s := by
    unfold tryCompare
    refine wpAny_bind (ifBound_objNe X I hne (wpAny_call (codeAny_call_builtin F.cmp_object.ne.plain F.cmpEntry_ne
      (PySem.W.check_slot F.cmpKind_ne F.cmpSplit_ne (I.type.andThen (PySem.W.looks_mroIn X hmr)) (F.cmpArgs_ne _ _) (objNe_entry (A := A.in1) hu X I hs hf (wpAny_mono h (fun v s' hv => ?_) fun _ _ e => e))))))
    obtain ⟨k, rfl, hq⟩ := hv
    first | exact ⟨k, rfl, wpAny_pure ⟨_, rfl, hq⟩⟩ | exact ⟨k, rfl, _, rfl, hq⟩
  unfold richCompare
  simp only [oneThing_ref]
  refine wpAny_holding (wpAny_bind (wpAny_cRoomFor (Nat.lt_of_succ_lt hu) ?_))
  refine wpAny_bind (I.type.here (wpAny_bind (hb.here ?_)))
  split
  · rename_i q
    have e : PySem.W.subIn K tb (.ref C) = some false := by
      rcases Bool.or_eq_true_iff.mp hn with e | e
      · rw [beq_iff_eq.mp e] at q; simp at q
      · exact beq_iff_eq.mp e
    refine wpAny_bind ((PySem.W.looks_subIn X e).here ?_)
    simp only [Bool.false_eq_true, if_false]
    refine wpAny_bind (wpAny_mono one (fun r s' z => ?_) fun _ _ e => e)
    obtain ⟨v, rfl, hq⟩ := z
    exact wpAny_pure hq
  · refine wpAny_bind (wpAny_pure ?_)
    simp only [Bool.false_eq_true, if_false]
    refine wpAny_bind (wpAny_mono one (fun r s' z => ?_) fun _ _ e => e)
    obtain ⟨v, rfl, hq⟩ := z
    exact wpAny_pure hq
theorem op_neO {k1 : Str} (M : Mt X.prog X.w X.K X.mg X.base u n c "__eq__" [k1] Fd) (N : NeF X.K c) (rm : Room (n + 1) X.A) (gd : u = true → X.A.guards = some []) : OpR X (compareOp .NotEq) (r2o X.K c Fd not) := by
  obtain ⟨f, fd, ps, hc, hm, G, b1, _, _, _⟩ := M.ex
  intro pins s σ H x y v w Q I rx ry ⟨ad, dx, fs, bd, dy, gs, e1, e2, k1, k2, sp⟩
  subst e1 e2
  cases rx
  cases ry
  obtain ⟨od, J⟩ := inst_at I k1
  obtain ⟨od', J'⟩ := inst_at I k2
  refine rc_ne (tb := .ref (He.ga X.K c)) (by have := rm.un; omega) I.kIn J J'.type (by simp [PySem.W.notFirst]) N.mro N.ne hm.at_ hm.fn ?_
  refine wpAny_mono (wpAny_call (run_mt (ar := ⟨[.ref ad, .ref bd], []⟩) (us := [.ref ad, .ref bd]) (vs := [.ref ad, .ref bd]) (E' := X.xe) G rm.in1 gd I.env0.in1 (b1 ad s [.ref bd] rfl I.kIn) (fun z st2 hq => (cx_false hq).elim) I (.cons rfl (.cons rfl .nil)) sp)) (fun r s' hq => ?_) fun _ _ z => z
  obtain ⟨v, H', I', rv, k, ev, q⟩ := hq
  subst ev
  cases rv
  exact ⟨k, rfl, .bl (!k), H', I', rfl, q⟩
theorem me_neO {k1 : Str} (M : Mt X.prog X.w X.K X.mg X.base u n c "__eq__" [k1] Fd) (N : NeF X.K c) (rm : Room (n + 1) X.A) (gd : u = true → X.A.guards = some []) (ha : ME X W a fa) (hb : ME X W b fb) : ME X W (.Compare a [.NotEq] [b] pos) (e2o c Fd isNb fa fb) :=
  PE.imp (pe_cmpR (op_neO M N rm gd) ha hb (nomark _)) fun _ _ _ h => e2o_ok (gb := not) isNb_do h
theorem mt_neO {k1 : Str} (M : Mt X.prog X.w X.K X.mg X.base u n c "__eq__" [k1] Fd) (N : NeF X.K c) (rm : Room (n + 1) X.A) (gd : u = true → X.A.guards = some []) (ha : ME X W a fa) (hb : ME X W b fb) : MT X W (.Compare a [.NotEq] [b] pos) (bB (e2o c Fd isNb fa fb)) :=
  PT.imp (pt_cmpR (op_neO M N rm gd) ha hb (nomark _)) fun _ _ _ h => e2o_ok (gb := not) isNb_do (bB_ok h)
end
end Mi

namespace Mi
open PySem PySem.Spec PyProof.Rows L2
section
variable {X : Cx} {W : WX} {u : Bool} {n : Nat} {c m : Str} {Fd : FD} {a b e o : Expr} {es : List Expr} {fa fb fo : FE} {far : FAr} {pos p apos : Pos} {ks : List Str} {kws : List Keyword} {i : Nat} {x : Str}
/-! ### x in o -/
def e2in (c : Str) (Fd : FD) (g : Option (R Sl) → Option (R Sl)) (fa fb : FE) : FE := fun ε => bf (fa ε) fun x ε1 => bf (fb ε1) fun y ε2 => if isI c y then g (callD Fd [y, x] ε2) else none
def r2in (K : PySem.W.Frag) (c : Str) (Fd : FD) (g : Bool → Bool) : R2 := fun x y H Q => ∃ b dy gs, y = .ref b ∧ H b = some (.ins (He.ga K c) dy gs) ∧ spM K 2 Fd [y, x] H (fun v H' => ∃ k, v = .bl k ∧ Q (.bl (g k)) H') F0
theorem e2in_ok {K : PySem.W.Frag} {g : Option (R Sl) → Option (R Sl)} {gb : Bool → Bool} (hg : ∀ {W W' : WX} {σ : St} {ε : En} {F H : Hp} {r : Option (R Sl)} {Q : VK}, Do K W σ ε F H (g r) Q → Do K W' σ ε F H r fun v H' => ∃ b, v = .bl b ∧ Q (.bl (gb b)) H')
    {σ : St} {H : Hp} {Q : VK} (h : tM K W (e2in c Fd g fa fb) σ H Q) : tOp (r2in K c Fd gb) (tM K W fa) (tM K W fb) σ H Q := by
  obtain ⟨F, ε, E0, h⟩ := h
  refine ⟨F, ε, E0, Do.bindF h fun x ε1 vx H1 F1 a h1 => ⟨F1, ε1, a.eo, Do.bindF h1 fun y ε2 vy H2 F2 b h2 => ?_⟩⟩
  by_cases hc : isI c y = true
  · rw [if_pos hc] at h2
    obtain ⟨bd, dy, gs, e2, k2⟩ := isI_ok hc b.rp
    exact ⟨bd, dy, gs, e2, b.eo.sub _ _ k2, callD_ok (ds := [y, x]) b.eo (.cons b.rp (.cons (a.rp.up b.fs) .nil)) (hg (W' := fun _ _ _ _ => False) h2)⟩
  · rw [if_neg hc] at h2
    exact h2.elim
theorem op_inO {k1 : Str} (M : Mt X.prog X.w X.K X.mg X.base u n c "__contains__" [k1] Fd) (rm : Room n X.A) (gd : u = true → X.A.guards = some []) : OpR X (compareOp .In) (r2in X.K c Fd id) := by
  obtain ⟨f, fd, ps, hc, hm, G, b1, _, _, _⟩ := M.ex
  intro pins s σ H x y v w Q I rx ry ⟨bd, dy, gs, e2, k2, sp⟩
  subst e2
  cases ry
  obtain ⟨od, J⟩ := inst_at I k2
  obtain ⟨mm, hF⟩ := I.fr
  refine PySem.W.in_K hF I.ok.mod.kin J hm.at_ hm.fn ?_
  refine wpAny_mono (wpAny_call (run_mt (ar := ⟨[.ref bd, v], []⟩) (us := [.ref bd, v]) (vs := [.ref bd, x]) (E' := X.xe) G rm gd I.env0 (b1 bd s [v] rfl I.kIn) (fun z st2 hq => (cx_false hq).elim) I (.cons rfl (.cons rx .nil)) sp)) (fun r s' hq => ?_) fun _ _ z => z
  obtain ⟨v, H', I', rv, k, ev, q⟩ := hq
  subst ev
  cases rv
  exact wpAny_truthy_bool ⟨.bl k, H', I', rfl, q⟩
theorem op_ninO {k1 : Str} (M : Mt X.prog X.w X.K X.mg X.base u n c "__contains__" [k1] Fd) (rm : Room n X.A) (gd : u = true → X.A.guards = some []) : OpR X (compareOp .NotIn) (r2in X.K c Fd not) := by
  obtain ⟨f, fd, ps, hc, hm, G, b1, _, _, _⟩ := M.ex
  intro pins s σ H x y v w Q I rx ry ⟨bd, dy, gs, e2, k2, sp⟩
  subst e2
  cases ry
  obtain ⟨od, J⟩ := inst_at I k2
  obtain ⟨mm, hF⟩ := I.fr
  refine PySem.W.notIn_K hF I.ok.mod.kin J hm.at_ hm.fn ?_
  refine wpAny_mono (wpAny_call (run_mt (ar := ⟨[.ref bd, v], []⟩) (us := [.ref bd, v]) (vs := [.ref bd, x]) (E' := X.xe) G rm gd I.env0 (b1 bd s [v] rfl I.kIn) (fun z st2 hq => (cx_false hq).elim) I (.cons rfl (.cons rx .nil)) sp)) (fun r s' hq => ?_) fun _ _ z => z
  obtain ⟨v, H', I', rv, k, ev, q⟩ := hq
  subst ev
  cases rv
  exact wpAny_truthy_bool ⟨.bl (!k), H', I', rfl, q⟩
theorem me_inO {k1 : Str} (M : Mt X.prog X.w X.K X.mg X.base u n c "__contains__" [k1] Fd) (rm : Room n X.A) (gd : u = true → X.A.guards = some []) (ha : ME X W a fa) (hb : ME X W b fb) (hm : behindInMarks .In b = false := by rfl) : ME X W (.Compare a [.In] [b] pos) (e2in c Fd isBl fa fb) :=
  PE.imp (pe_cmpR (op_inO M rm gd) ha hb hm) fun _ _ _ h => e2in_ok (gb := id) isBl_do h
theorem mt_inO {k1 : Str} (M : Mt X.prog X.w X.K X.mg X.base u n c "__contains__" [k1] Fd) (rm : Room n X.A) (gd : u = true → X.A.guards = some []) (ha : ME X W a fa) (hb : ME X W b fb) (hm : behindInMarks .In b = false := by rfl) : MT X W (.Compare a [.In] [b] pos) (bB (e2in c Fd isBl fa fb)) :=
  PT.imp (pt_cmpR (op_inO M rm gd) ha hb hm) fun _ _ _ h => e2in_ok (gb := id) isBl_do (bB_ok h)
theorem me_ninO {k1 : Str} (M : Mt X.prog X.w X.K X.mg X.base u n c "__contains__" [k1] Fd) (rm : Room n X.A) (gd : u = true → X.A.guards = some []) (ha : ME X W a fa) (hb : ME X W b fb) (hm : behindInMarks .NotIn b = false := by rfl) : ME X W (.Compare a [.NotIn] [b] pos) (e2in c Fd isNb fa fb) :=
  PE.imp (pe_cmpR (op_ninO M rm gd) ha hb hm) fun _ _ _ h => e2in_ok (gb := not) isNb_do h
theorem mt_ninO {k1 : Str} (M : Mt X.prog X.w X.K X.mg X.base u n c "__contains__" [k1] Fd) (rm : Room n X.A) (gd : u = true → X.A.guards = some []) (ha : ME X W a fa) (hb : ME X W b fb) (hm : behindInMarks .NotIn b = false := by rfl) : MT X W (.Compare a [.NotIn] [b] pos) (bB (e2in c Fd isNb fa fb)) :=
  PT.imp (pt_cmpR (op_ninO M rm gd) ha hb hm) fun _ _ _ h => e2in_ok (gb := not) isNb_do (bB_ok h)

/-! ### len(o), repr(o) -/
def e1o (c : Str) (Fd : FD) (g : Option (R Sl) → Option (R Sl)) (fa : FE) : FE := fun ε => bf (fa ε) fun x ε1 => if isI c x then g (callD Fd [x] ε1) else none
theorem e1o_ok {K : PySem.W.Frag} {g : Option (R Sl) → Option (R Sl)} {G : VK → VK} (hg : ∀ {W W' : WX} {σ : St} {ε : En} {F H : Hp} {r : Option (R Sl)} {Q : VK}, Do K W σ ε F H (g r) Q → Do K W' σ ε F H r (G Q))
    {σ : St} {H : Hp} {Q : VK} (h : tM K W (e1o c Fd g fa) σ H Q) : tM K W fa σ H fun x H1 => ∃ a dx fs, x = .ref a ∧ H1 a = some (.ins (He.ga K c) dx fs) ∧ spM K 1 Fd [x] H1 (G Q) F0 := by
  obtain ⟨F, ε, E0, h⟩ := h
  refine ⟨F, ε, E0, Do.bindF h fun x ε1 vx H1 F1 a h1 => ?_⟩
  by_cases hc : isI c x = true
  · rw [if_pos hc] at h1
    obtain ⟨bd, dy, gs, e2, k2⟩ := isI_ok hc a.rp
    exact ⟨bd, dy, gs, e2, a.eo.sub _ _ k2, callD_ok (ds := [x]) a.eo (.cons a.rp .nil) (hg (W' := fun _ _ _ _ => False) h1)⟩
  · rw [if_neg hc] at h1
    exact h1.elim
theorem cr_lenO (M : Mt X.prog X.w X.K X.mg X.base u n c "__len__" [] Fd) (rm : Room (n + 1) X.A) (gd : u = true → X.A.guards = some []) :
    CallR X (.builtin "len") (fun xs H Q => ∃ a dx fs, xs = [.ref a] ∧ H a = some (.ins (He.ga X.K c) dx fs) ∧ spM X.K 1 Fd [.ref a] H (fun v H' => ∃ k, v = .int k ∧ (0 ≤ k ∧ k < 2 ^ 63) ∧ Q v H') F0) := by
  obtain ⟨f, fd, ps, hc, hm, G, b1, _, _, _⟩ := M.ex
  intro pins s σ H xs us Q I r ⟨ad, dx, fs, e1, k1, sp⟩
  subst e1
  cases r with
  | cons r0 r1 =>
    cases r0
    cases r1
    obtain ⟨od, J⟩ := inst_at I k1
    obtain ⟨mm, hF⟩ := I.fr
    refine PySem.W.len_K hF I.ok.mod.kin J hm.at_ hm.fn ?_
    refine wpAny_mono (wpAny_call (run_mt (ar := ⟨[.ref ad], []⟩) (us := [.ref ad]) (vs := [.ref ad]) (E' := X.xe) G rm.in1 gd I.env0.in1 (b1 ad s [] rfl I.kIn) (fun z st2 hq => (cx_false hq).elim) I (.cons rfl .nil) sp)) (fun r s' hq => ?_) fun _ _ z => z
    obtain ⟨v, H', I', rv, k, ev, hk, q⟩ := hq
    subst ev
    obtain ⟨t, rfl⟩ := rv
    exact ⟨hk, .int k, H', I'.tok _, ⟨_, rfl⟩, q⟩
theorem cr_reprO (M : Mt X.prog X.w X.K X.mg X.base u n c "__repr__" [] Fd) (rm : Room (n + 1) X.A) (gd : u = true → X.A.guards = some []) :
    CallR X (.builtin "repr") (fun xs H Q => ∃ a dx fs, xs = [.ref a] ∧ H a = some (.ins (He.ga X.K c) dx fs) ∧ spM X.K 1 Fd [.ref a] H (fun v H' => ∃ k, v = .str k ∧ Q v H') F0) := by
  obtain ⟨f, fd, ps, hc, hm, G, b1, _, _, _⟩ := M.ex
  intro pins s σ H xs us Q I r ⟨ad, dx, fs, e1, k1, sp⟩
  subst e1
  cases r with
  | cons r0 r1 =>
    cases r0
    cases r1
    obtain ⟨od, J⟩ := inst_at I k1
    obtain ⟨mm, hF⟩ := I.fr
    refine PySem.W.repr_K (by show X.A.units + 1 < _; have := rm.un; omega) hF I.ok.mod.kin J hm.at_ hm.fn ?_
    refine wpAny_mono (wpAny_call (run_mt (ar := ⟨[.ref ad], []⟩) (us := [.ref ad]) (vs := [.ref ad]) (E' := X.xe) G rm.in1 gd I.env0.in1 (b1 ad s [] rfl I.kIn) (fun z st2 hq => (cx_false hq).elim) I (.cons rfl .nil) sp)) (fun r s' hq => ?_) fun _ _ z => z
    obtain ⟨v, H', I', rv, k, ev, q⟩ := hq
    subst ev
    obtain ⟨t, rfl⟩ := rv
    exact ⟨.str k, H', I', ⟨_, rfl⟩, q⟩
theorem me_lenO (M : Mt X.prog X.w X.K X.mg X.base u n c "__len__" [] Fd) (rm : Room (n + 1) X.A) (gd : u = true → X.A.guards = some []) (hg : Gl X "len") (hm : X.mg "len" = none) (ha : ME X W a fa) (hs : starEach [a] X.env = (false, eval a X.env) :: starEach [] X.env := by rfl) :
    ME X W (.Call (.Name "len" p) [a] [] pos) (e1o c Fd isLn fa) := by
  refine PE.imp (pe_callB (cr_lenO M rm gd) hg hm (by decide +kernel) (pa_cons ha pa_nil hs) (he := hs)) fun σ H Q h => tM.mono (e1o_ok (G := fun Q v H' => ∃ k, v = .int k ∧ (0 ≤ k ∧ k < 2 ^ 63) ∧ Q v H') isLn_do h) fun x H1 ⟨ad, dx, fs, e1, k1, sp⟩ => ?_
  subst e1
  exact ⟨ad, dx, fs, rfl, k1, sp⟩
theorem me_reprO (M : Mt X.prog X.w X.K X.mg X.base u n c "__repr__" [] Fd) (rm : Room (n + 1) X.A) (gd : u = true → X.A.guards = some []) (hg : Gl X "repr") (hm : X.mg "repr" = none) (ha : ME X W a fa) (hs : starEach [a] X.env = (false, eval a X.env) :: starEach [] X.env := by rfl) :
    ME X W (.Call (.Name "repr" p) [a] [] pos) (e1o c Fd isSt fa) := by
  refine PE.imp (pe_callB (cr_reprO M rm gd) hg hm (by decide +kernel) (pa_cons ha pa_nil hs) (he := hs)) fun σ H Q h => tM.mono (e1o_ok (G := fun Q v H' => ∃ k, v = .str k ∧ Q v H') isSt_do h) fun x H1 ⟨ad, dx, fs, e1, k1, sp⟩ => ?_
  subst e1
  exact ⟨ad, dx, fs, rfl, k1, sp⟩

/-! ### a property -/
structure Pr (P : Program) (w : World) (K : PySem.W.Frag) (mg : Str → Option Value) (base : Heap) (u : Bool) (n : Nat) (c m : Str) (Fd : FD) : Prop where
  ex : ∃ (p f : Addr) (fd : FuncData) (ps : List Str), Cls K (He.ga K c) ∧ PropOf K (He.ga K c) m p f ∧ FnG P w K mg base u n f fd ps (spM K 1 Fd) ∧
    (∀ (a : Addr) (s : Shared), K.In s.heap → BindsTo s fd ⟨[.ref a], []⟩ (ps.zip [.ref a]))
/-- any result, exceptions stay out -/
def e1p (c : Str) (Fd : FD) (fa : FE) : FE := e1o c Fd noX fa
theorem me_prop (M : Pr X.prog X.w X.K X.mg X.base u n c m Fd) (rm : Room (n + 1) X.A) (gd : u = true → X.A.guards = some []) (ha : ME X W a fa) (hab : attributeBase a m X.env (eval a X.env) = eval a X.env := by rfl) :
    ME X W (.Attribute a m pos) (e1p c Fd fa) := by
  obtain ⟨pp, g, fd, ps, c0, hp, G, b1⟩ := M.ex
  refine ⟨fun pins s σ H Q I h => ?_⟩
  refine attr_of hab (thn (ha.run pins s σ H _ I (e1o_ok (G := fun Q => Q) noX_do h)) fun u0 s1 ⟨x, H1, I1, rx, ad, dx, fs, ex, ea, q⟩ => ?_)
  subst ex
  obtain rfl : u0 = Value.ref ad := rx
  obtain ⟨mA, O, _, _, _, _⟩ := ins_get I1.hok ea
  obtain ⟨od, J, _⟩ := O.look
  obtain ⟨rest, hrec⟩ := hp.rec_
  have I2 := I1.tok (s1.toks + 1)
  have hc : (PySem.W.clsIn X.K (He.ga X.K c)).isSome = true := by
    obtain ⟨cd, hc, _⟩ := PySem.W.any_some c0.hd
    rw [hc]
    rfl
  refine PySem.W.get_bind I1.kIn J (PySem.W.plainGet_of (c0.get m)).1 (PySem.W.findObj_data hc hp.at_ hp.get hp.tak) (PySem.W.plainGet_of (c0.get m)).2 (wpAny_call (PySem.W.prop_get (s := { s1 with toks := s1.toks + 1 }) I1.kIn hrec ?_))
  refine codeAny_mono (run_mt (ar := ⟨[.ref ad], []⟩) (us := [.ref ad]) (vs := [.ref ad]) (E' := fun _ _ => False) G rm.in1 gd I2.env0.in1 (b1 ad _ I2.kIn) (fun z st2 hq => (cx_false hq).elim) I2 (.cons rfl .nil) q) fun r s' hq => ?_
  cases r with
  | error er => exact hq.elim
  | ok fl =>
    cases fl with
    | ret uu =>
      obtain ⟨v, H', I3, rv, q3⟩ := hq
      show wpAny _ _ (handedOut uu) _ _ _
      rw [PySem.W.handedOut_of (handed_of rv)]
      exact wpAny_pure ⟨v, H', I3, rv, q3⟩
    | next => exact False.elim hq
    | brk => exact False.elim hq
    | cont => exact False.elim hq

/-! ### o(..) -/
theorem callWith_ins {M : Model} {A : Around} {E : Value → Shared → Prop} {s : Shared} {x : Addr} {first : List Value} {Q : Value → Shared → Prop} {args : List (Bool × Sem Value)} {keywords : List (Option Str × Sem Value)} (hplain : (args.any (·.1) || keywords.any (·.1.isNone)) = false)
    (h : wpAny M A (evalArgs (.ref x) true args keywords) (fun a s₁ => (∃ ox C od, PySem.W.InstAt s₁.heap x ox C od ∧ ox.data = .plain) ∧ wpAny M A (call (.ref x) (first ++ a.pos) a.kw) Q E s₁) E s) : wpAny M A (callWith pos (.ref x) first args keywords) Q E s := by
  unfold callWith
  refine wpAny_bind (wpAny_holding (wpAny_mono h (fun a s₁ h₁ => wpAny_bind (wpAny_standAt ?_)) fun _ _ y => y))
  obtain ⟨⟨ox, C, od, J, hd⟩, h₁⟩ := h₁
  have L := PySem.W.kco_keeper (M := M) J hd
  simp only [hplain]
  refine wpAny_bind (L.here ?_)
  have tail : ∀ {t : Sem Value}, wpAny M A t Q E s₁ → wpAny M A (t >>= fun r => holding [r] point >>= fun _ => pure r) Q E s₁ :=
    fun ht => wpAny_bind (wpAny_mono ht (fun r s₂ hr => wpAny_bind (wpAny_holding (wpAny_point (wpAny_pure hr)))) fun _ _ y => y)
  exact tail (wpAny_operateT h₁)
theorem me_ocall (M : Mt X.prog X.w X.K X.mg X.base u n c "__call__" ks Fd) (rm : Room (n + 1) X.A) (gd : u = true → X.A.guards = some []) (tk : Takes X W) (ho : ME X W (.Name x p) fo) (ha : MA X W (e :: es) far)
    (hst : starEach (e :: es) X.env = (false, eval e X.env) :: starEach es X.env := by rfl) (hpl : (backTo pos (starEach es X.env)).any (·.1) = false := by rfl) :
    ME X W (.Call (.Name x p) (e :: es) [] pos) (eMeth c "__call__" (ks.length + 1) Fd false fo far) := by
  obtain ⟨f, fd, ps, hc, hm, G, b1, b2, b3, hfn⟩ := M.ex
  refine ⟨fun pins st σ H Q I h => ?_⟩
  refine wpAny_Call_Name_kw (thn (ho.run pins st σ H _ I (recv_do h)) fun uo s1 ⟨x, H1, I1, rx, a, dx, fs, ex, ea, l, q⟩ => ?_)
  subst ex
  obtain rfl : uo = Value.ref a := rx
  have run := ha.run pos pins s1 σ H1 _ I1 q
  rw [hst] at run ⊢
  refine callWith_ins (first := []) (by show ((false || (backTo pos (starEach es X.env)).any (·.1)) || false) = false; rw [hpl]; rfl) (Calls.evalArgs_plain (thn run fun us s2 ⟨vs, H2, I2, r, ⟨hl, dx2, fs2, ea2⟩, q2⟩ => ?_))
  obtain ⟨od2, J2⟩ := inst_at I2 ea2
  have lu : us.length = ks.length := by rw [← r.length]; omega
  refine ⟨⟨_, _, _, J2, rfl⟩, wpAny_call (PySem.W.kco_code I2.kIn J2 rfl hm.at_ hm.fn hfn ?_)⟩
  exact run_mt (ar := ⟨.ref a :: us, []⟩) (us := .ref a :: us) (vs := .ref a :: vs) G (rm.mono (Nat.le_succ _)) gd I2.env0 (b1 a s2 us lu I2.kIn) (fun z st2 hq => passAt tk σ pins H2 s2 z st2 I2 hq) I2 (.cons rfl r) q2
theorem me_ocallK {rv : Bool} (M : Mt X.prog X.w X.K X.mg X.base u n c "__call__" ks Fd) (rm : Room (n + 1) X.A) (gd : u = true → X.A.guards = some []) (tk : Takes X W) (ho : ME X W (.Name x p) fo) (hkw : PK X kws (tMA X.K W far))
    (hall : (backToKw pos (keywordEach kws X.env)).all (·.1.isSome) = true := by rfl)
    (hks : (backToKw pos (keywordEach kws X.env)).filterMap (·.1) = (if rv then ks.reverse else ks) := by rfl)
    (hpl : ((backTo pos (starEach [] X.env)).any (·.1) || (backToKw pos (keywordEach kws X.env)).any (·.1.isNone)) = false := by rfl) :
    ME X W (.Call (.Name x p) [] kws pos) (eMeth c "__call__" (ks.length + 1) Fd rv fo far) := by
  obtain ⟨f, fd, ps, hc, hm, G, b1, b2, b3, hfn⟩ := M.ex
  refine ⟨fun pins st σ H Q I h => ?_⟩
  refine wpAny_Call_Name_kw (thn (ho.run pins st σ H _ I (recv_do h)) fun uo s1 ⟨x, H1, I1, rx, a, dx, fs, ex, ea, l, q⟩ => ?_)
  subst ex
  obtain rfl : uo = Value.ref a := rx
  refine callWith_ins (first := []) hpl (PyProof.Rows.evalArgs_kw2_nil hall (thn (hkw.run pos pins s1 σ H1 _ I1 q) fun us s2 ⟨vs, H2, I2, r, ⟨hl, dx2, fs2, ea2⟩, q2⟩ => ?_))
  obtain ⟨od2, J2⟩ := inst_at I2 ea2
  have lu : us.length = ks.length := by rw [← r.length]; omega
  rw [hks]
  refine ⟨⟨_, _, _, J2, rfl⟩, wpAny_call (PySem.W.kco_code I2.kIn J2 rfl hm.at_ hm.fn hfn ?_)⟩
  cases rv with
  | false => exact run_mt (us := .ref a :: us) (vs := .ref a :: vs) G (rm.mono (Nat.le_succ _)) gd I2.env0 (b2 a s2 us lu I2.kIn) (fun z st2 hq => passAt tk σ pins H2 s2 z st2 I2 hq) I2 (.cons rfl r) q2
  | true => exact run_mt (us := .ref a :: us.reverse) (vs := .ref a :: vs.reverse) G (rm.mono (Nat.le_succ _)) gd I2.env0 (b3 a s2 us lu I2.kIn) (fun z st2 hq => passAt tk σ pins H2 s2 z st2 I2 hq) I2 (.cons rfl (vals_back r)) q2
end
end Mi

namespace Mi
open PySem PySem.Spec PyProof.Rows L2
theorem dc_it {J : It} {n : Nat} {G : Hp → Prop} {Y : Nat → Hp → V → Hp → Prop} (w : Walk J n G Y) {g : TG} {tt : TT} {tk tv : TE} {vs : List Nat} {σ : St} {H1 : Hp} {D : Addr} {Qd : Hp → Prop} (Pv : Nat → Hp → Prop) (h0 : Pv 0 (upd H1 D (.dK []))) (hG : ∀ i H, i ≤ n → Pv i H → G H)
    (hs : ∀ i x H H', i < n → Pv i H → Y i H x H' → g x (wipe σ vs) H' fun σ2 H2 => wipe σ2 vs = wipe σ vs ∧ tt σ2 H2 fun b H3 =>
      if b = true then tk σ2 H3 fun y H4 => tv σ2 H4 fun z H5 => ∃ kvs k, y = kV k ∧ H5 D = some (.dK kvs) ∧ kvs.length < sizeLine ∧ Pv (i + 1) (upd H5 D (.dK (putK kvs k z))) else Pv (i + 1) H3) (hd : ∀ H, Pv n H → Qd H) :
    ∃ W : Nat → Nat → Hp → Prop, (∃ m, W 0 m (upd H1 D (.dK []))) ∧ ∀ i m H, W i m H →
      (J.stop i H ∧ Qd H) ∨ (J.go i H ∧ ∃ Nx : Hp → Prop, (∀ H', Nx H' → ∃ m', m' < m ∧ W (i + 1) m' H') ∧ ∀ x H', J.yld i H x H' → g x (wipe σ vs) H' fun σ2 H2 => wipe σ2 vs = wipe σ vs ∧ tt σ2 H2 fun b H3 =>
        if b = true then tk σ2 H3 fun y H4 => tv σ2 H4 fun z H5 => ∃ kvs k, y = kV k ∧ H5 D = some (.dK kvs) ∧ kvs.length < sizeLine ∧ Nx (upd H5 D (.dK (putK kvs k z))) else Nx H3) := by
  refine ⟨fun i m H => m = n - i ∧ i ≤ n ∧ Pv i H, ⟨n, by simp, Nat.zero_le _, h0⟩, ?_⟩
  rintro i m H ⟨rfl, hi, p⟩
  have q := hG i H hi p
  by_cases hlt : i < n
  · refine .inr ⟨w.goes i H hlt q, Pv (i + 1), fun H' p' => ⟨n - (i + 1), by omega, rfl, hlt, p'⟩, fun x H' y => hs i x H H' hlt p (w.yields i H x H' hlt q y)⟩
  · have e : i = n := by omega
    subst e
    exact .inl ⟨w.stops H q, hd H p⟩
/-! ### {k: v for target in iter if test} -/
abbrev DcR := Option (List (Key × D) × En)
/-- the value -/
def dcV (ev : FE) (ε : En) (acc : List (Key × D)) (yd : D) (k : En → List (Key × D) → DcR) : DcR := match keyD yd with
  | none => none
  | some key => match ev ε with
    | some (.v (.fz z) ε3) => if acc.length < sizeLine then k ε3 (putD acc key z) else none
    | some (.v (.ow z) ε3) => if acc.length < sizeLine then k ε3 (putD acc key z) else none
    | _ => none
/-- the key, then the value -/
def dcE (ek ev : FE) (ε : En) (acc : List (Key × D)) (k : En → List (Key × D) → DcR) : DcR := match ek ε with
  | some (.v (.fz y) ε2) => dcV ev ε2 acc y k
  | some (.v (.ow y) ε2) => dcV ev ε2 acc y k
  | _ => none
def dcL (g : FG) (t : FB) (ek ev : FE) (vs : List Nat) : List D → En → List (Key × D) → DcR
  | [], ε, acc => some (acc, ε)
  | d :: ds, ε, acc => match g d ε with
    | none => none
    | some ε1 => match t ε1 with
      | some (.v false ε2) => dcL g t ek ev vs ds (wipeE ε2 vs) acc
      | some (.v true ε2) => dcE ek ev ε2 acc fun ε3 acc' => dcL g t ek ev vs ds (wipeE ε3 vs) acc'
      | _ => none
def eDc (fi : FI) (g : FG) (t : FB) (ek ev : FE) (vs : List Nat) : FE := fun ε => match fi ε with
  | some (.v ds ε1) => (match dcL g t ek ev vs ds (wipeE ε1 vs) [] with
    | some (ys, ε2) => some (.v (.ow (.dct ys)) (backE ε1 ε2 vs))
    | none => none)
  | some (.x c gs ε1) => some (.x c gs ε1)
  | none => none

/-- between two turns: the dict so far at D belongs to no slot -/
structure DcI (K : PySem.W.Frag) (σ : St) (vs : List Nat) (ε1 : En) (F1 H1 : Hp) (Da : Addr) (ε : En) (acc : List (Key × D)) (F H : Hp) : Prop where
  eo : EOk K F H (L2.wipe σ vs) ε
  fs : Same F1 F
  fr : Frm (L2.wipe σ vs) (wipeE ε1 vs) F1 H1 (L2.wipe σ vs) ε F H
  ob : ∃ us, Oth (L2.wipe σ vs) ε F H Da (.dK us) ∧ RepK K F us acc

theorem dc_ok {K : PySem.W.Frag} {W : WX} {fi : FI} {g : FG} {t : FB} {ek ev : FE} {vs ts : List Nat} {σ : St} {H : Hp} {Q : VK} (hts : ts.all (fun i => decide (i ∈ vs)) = true) (h : tM K W (eDc fi g t ek ev vs) σ H Q) :
    tDc (tMI K W fi) (tMG K ts g) (tMT K W0 t) (tM K W0 ek) (tM K W0 ev) vs σ H Q := by
  obtain ⟨F, ε, E0, h⟩ := h
  refine ⟨F, ε, E0, ?_⟩
  unfold eDc at h
  cases q : fi ε with
  | none => rw [q] at h; exact h
  | some r =>
    rw [q] at h
    cases r with
    | x c gs ε1 => exact h
    | v ds ε1 =>
      intro J H1 F1 a Da hDa
      obtain ⟨G, Y, w, hG, hY⟩ := a.wk
      have ew := a.eo.wipe vs
      have h : Do K W σ ε F H (match dcL g t ek ev vs ds (wipeE ε1 vs) [] with
        | some (ys, ε2) => some (.v (.ow (.dct ys)) (backE ε1 ε2 vs))
        | none => none) Q := h
      generalize hR : dcL g t ek ev vs ds (wipeE ε1 vs) [] = res at h
      refine dc_it w (Pv := fun i H' => ∃ F' ε' acc, DcI K σ vs ε1 F1 H1 Da ε' acc F' H' ∧ dcL g t ek ev vs (ds.drop i) ε' acc = res) ?_ ?_ ?_ ?_
      · have gl : Gr F1 H1 F1 (upd H1 Da (.dK [])) := Gr.loose a.eo.sub hDa
        exact ⟨F1, wipeE ε1 vs, [], ⟨ew.grow gl, .refl _, gl.frm, [], ⟨a.eo.sub.free hDa, upd_same, trivial, fun i d hh z => by
          obtain ⟨v, hv, b, o, rfl, k1, k2, _⟩ := ew.val i _ hh (by simp)
          rw [hv] at z
          have z : b = Da := by simpa using z
          rw [z, hDa] at k2
          cases k2⟩, .nil⟩, by rw [List.drop_zero]; exact hR⟩
      · rintro i H' _ ⟨F', ε', acc, L, _⟩
        exact hG H' (L.fs.trans L.eo.sub)
      · rintro i x H' H2 hi ⟨F', ε', acc, L, hl⟩ y
        obtain ⟨F2, d, hdd, gr, rp⟩ := hY i H' x H2 F' hi y L.fs L.eo.sub
        have hdr : ds.drop i = d :: ds.drop (i + 1) := by
          rw [List.drop_eq_getElem_cons hi]
          congr 1
          rw [List.getElem?_eq_getElem hi] at hdd
          exact Option.some.inj hdd
        rw [hdr] at hl
        have nn : res ≠ none := fun z => by rw [z] at h; exact h
        unfold dcL at hl
        cases qg : g d ε' with
        | none => rw [qg] at hl; exact absurd hl.symm nn
        | some ε2 =>
          rw [qg] at hl
          refine ⟨F2, ε', d, ε2, L.eo.grow gr, rp, qg, fun σ3 H3 F3 s3 e3 k3 f3 => ⟨k3.wipe hts, F3, ε2, e3, ?_⟩⟩
          have hl : (match t ε2 with
            | some (.v false ε2) => dcL g t ek ev vs (ds.drop (i + 1)) (wipeE ε2 vs) acc
            | some (.v true ε2) => dcE ek ev ε2 acc (fun ε3 acc' => dcL g t ek ev vs (ds.drop (i + 1)) (wipeE ε3 vs) acc')
            | _ => none) = res := hl
          have fr3 : Frm (L2.wipe σ vs) ε' F' H' σ3 ε2 F3 H3 := gr.frm.trans f3
          cases qt : t ε2 with
          | none => rw [qt] at hl; exact absurd hl.symm nn
          | some rt =>
            rw [qt] at hl
            cases rt with
            | x c gs ε4 => exact absurd hl.symm nn
            | v b ε4 =>
              intro H4 F4 s4 e4 f4
              have fr4 : Frm (L2.wipe σ vs) ε' F' H' σ3 ε4 F4 H4 := fr3.trans f4
              have sw : L2.wipe σ3 vs = L2.wipe σ vs := k3.wipe hts
              -- back to the turn's start
              have turn : ∀ {ε5 : En} {F5 H5 : Hp} {acc' : List (Key × D)}, EOk K F5 H5 σ3 ε5 → Same F' F5 → Frm (L2.wipe σ vs) ε' F' H' σ3 ε5 F5 H5 → (∃ us, Oth σ3 ε5 F5 H5 Da (.dK us) ∧ RepK K F5 us acc') → DcI K σ vs ε1 F1 H1 Da (wipeE ε5 vs) acc' F5 H5 := fun {ε5 F5 H5 acc'} e5 s5 f5 ob => by
                have ew5 := e5.wipe vs
                have fw := frm_wipe (F := F5) (H := H5) (σ := σ3) (ε := ε5) vs
                rw [sw] at ew5 fw
                obtain ⟨us, o1, o2⟩ := ob
                exact ⟨ew5, L.fs.trans s5, (L.fr.trans f5).trans fw, us, fw _ _ o1, o2⟩
              have s04 : Same F' F4 := (gr.fs.trans s3).trans s4
              obtain ⟨us, o1, o2⟩ := L.ob
              cases b with
              | false => exact iteF ⟨F4, _, acc, turn e4 s04 fr4 ⟨us, fr4 _ _ o1, o2.up s04⟩, hl⟩
              | true =>
                refine iteT ⟨F4, ε4, e4, ?_⟩
                have hl : dcE ek ev ε4 acc (fun ε3 acc' => dcL g t ek ev vs (ds.drop (i + 1)) (wipeE ε3 vs) acc') = res := hl
                unfold dcE at hl
                cases qk : ek ε4 with
                | none => rw [qk] at hl; exact absurd hl.symm nn
                | some rk =>
                  rw [qk] at hl
                  cases rk with
                  | x c gs ε5 => exact absurd hl.symm nn
                  | v sk ε5 =>
                    intro y H5 F5 a5
                    have fk : ∀ (yd : D), (sk = .fz yd ∨ sk = .ow yd) → dcV ev ε5 acc yd (fun ε3 acc' => dcL g t ek ev vs (ds.drop (i + 1)) (wipeE ε3 vs) acc') = res →
                        tM K W0 ev σ3 H5 fun z H6 => ∃ kvs k, y = kV k ∧ H6 Da = some (.dK kvs) ∧ kvs.length < sizeLine ∧ ∃ F' ε' acc, DcI K σ vs ε1 F1 H1 Da ε' acc F' (upd H6 Da (.dK (putK kvs k z))) ∧ dcL g t ek ev vs (ds.drop (i + 1)) ε' acc = res := by
                      intro yd hs hl
                      obtain ⟨F6, a6⟩ := a5.data hs
                      unfold dcV at hl
                      cases qy : keyD yd with
                      | none => rw [qy] at hl; exact absurd hl.symm nn
                      | some k =>
                        rw [qy] at hl
                        have ek' : y = kV k := keyD_ok (H := H5) (Rep.a a6.rp) qy
                        refine ⟨F6, ε5, a6.eo, ?_⟩
                        cases qe : ev ε5 with
                        | none => rw [qe] at hl; exact absurd hl.symm nn
                        | some re =>
                          rw [qe] at hl
                          cases re with
                          | x c gs ε7 => exact absurd hl.symm nn
                          | v s ε7 =>
                            intro z H7 F7 a7
                            have fin : ∀ (zd : D), (s = .fz zd ∨ s = .ow zd) → (if acc.length < sizeLine then dcL g t ek ev vs (ds.drop (i + 1)) (wipeE ε7 vs) (putD acc k zd) else none) = res →
                                ∃ kvs k, y = kV k ∧ H7 Da = some (.dK kvs) ∧ kvs.length < sizeLine ∧ ∃ F' ε' acc, DcI K σ vs ε1 F1 H1 Da ε' acc F' (upd H7 Da (.dK (putK kvs k z))) ∧ dcL g t ek ev vs (ds.drop (i + 1)) ε' acc = res := by
                              intro zd hs hl
                              by_cases hz : acc.length < sizeLine
                              · rw [if_pos hz] at hl
                                obtain ⟨F8, a8⟩ := a7.data hs
                                have fr8 : Frm (L2.wipe σ vs) ε' F' H' σ3 ε7 F8 H7 := (fr4.trans a6.fr).trans a8.fr
                                have s8 : Same F' F8 := (s04.trans a6.fs).trans a8.fs
                                have o8 := fr8 _ _ o1
                                refine ⟨us, k, ek', o8.at_, by rw [o2.len]; exact hz, F8, wipeE ε7 vs, putD acc k zd, ?_, hl⟩
                                have rr : RepK K F8 (putK us k z) (putD acc k zd) := RepK.put a8.rp (o2.up s8)
                                have nD : ∀ (j : Nat) (dd : D), ε7[j]? = some (.ow dd) → σ3[j]? ≠ some (some (.ref Da)) := o8.no
                                have sm7 : Same F8 (upd H7 Da (.dK (putK us k z))) := fun b o hb => by
                                  rw [upd_ne (fun z => by rw [z, o8.nf] at hb; cases hb)]
                                  exact a8.eo.sub b o hb
                                have eo7 : EOk K F8 (upd H7 Da (.dK (putK us k z))) σ3 ε7 := by
                                  refine ⟨sm7, a8.eo.len, fun j s' hj n => ?_, a8.eo.inj, Tabs.own a8.eo.tab o8.at_ o8.kd, a8.eo.ntb⟩
                                  obtain ⟨w', hw', r'⟩ := a8.eo.val j s' hj n
                                  refine ⟨w', hw', ?_⟩
                                  cases s' with
                                  | un => exact r'
                                  | fz d' => exact r'
                                  | ow d' =>
                                    obtain ⟨b, o, rfl, k1, k2, t'⟩ := r'
                                    have nb : b ≠ Da := fun z => nD j d' hj (by rw [hw', z])
                                    exact ⟨b, o, rfl, k1, by rw [upd_ne nb]; exact k2, t'⟩
                                have ew7 := eo7.wipe vs
                                have ow7 : Oth σ3 ε7 F8 (upd H7 Da (.dK (putK us k z))) Da (.dK (putK us k z)) := ⟨o8.nf, upd_same, trivial, nD⟩
                                have fw := frm_wipe (F := F8) (H := upd H7 Da (.dK (putK us k z))) (σ := σ3) (ε := ε7) vs
                                rw [sw] at ew7 fw
                                refine ⟨ew7, L.fs.trans s8, fun b o hb => ?_, putK us k z, fw _ _ ow7, rr⟩
                                have z1 := L.fr b o hb
                                have nb : b ≠ Da := fun z => by
                                  have := hb.at_
                                  rw [z, hDa] at this
                                  cases this
                                have z2 := fr8 b o z1
                                exact fw b o ⟨z2.nf, by rw [upd_ne nb]; exact z2.at_, z2.kd, z2.no⟩
                              · rw [if_neg hz] at hl
                                exact absurd hl.symm nn
                            cases s with
                            | un => exact a7.rs.elim
                            | fz zd => exact fin zd (.inl rfl) hl
                            | ow zd => exact fin zd (.inr rfl) hl
                    cases sk with
                    | un => exact a5.rs.elim
                    | fz yd => exact fk yd (.inl rfl) hl
                    | ow yd => exact fk yd (.inr rfl) hl
      · rintro H' ⟨F', ε', acc, L, hl⟩
        rw [List.drop_length] at hl
        have hl : some (acc, ε') = res := hl
        rw [← hl] at h
        obtain ⟨us, o1, o2⟩ := L.ob
        have ll : ε1.length = ε'.length := by
          have := L.eo.len
          rw [wipe_length, a.eo.len] at this
          exact this
        -- a thing of others, or of a slot of the block's own, stays
        have own : ∀ (i : Nat) (d : D) (v : V), i ∈ vs → ε1[i]? = some (.ow d) → σ[i]? = some (some v) → ∃ b o, v = .ref b ∧ Top K F1 o d ∧ Oth (L2.wipe σ vs) ε' F' H' b o := fun i d v hi h1 h2 => by
          obtain ⟨w', hw', b, o, rfl, k1, k2, tt⟩ := a.eo.val i _ h1 (by simp)
          rw [h2] at hw'
          cases hw'
          refine ⟨b, o, rfl, tt, L.fr b o ⟨k1, k2, tt.own, fun j d' hj z => ?_⟩⟩
          obtain ⟨hj1, hj2⟩ := wipeE_at hj (by simp)
          rw [wipe_out' hj2] at z
          have := a.eo.inj i j d d' _ h1 hj1 h2 z
          subst this
          exact hj2 hi
        have slot : ∀ (i : Nat) (d : D) (v : V), (backE ε1 ε' vs)[i]? = some (.ow d) → σ[i]? = some (some v) →
            (∃ b o, v = .ref b ∧ Oth (L2.wipe σ vs) ε' F' H' b o ∧ i ∈ vs ∧ ε1[i]? = some (.ow d)) ∨ (ε'[i]? = some (.ow d) ∧ (L2.wipe σ vs)[i]? = some (some v)) := fun i d v h1 h2 => by
          rcases backE_at ll h1 with ⟨m1, m2⟩ | ⟨m1, m2⟩
          · obtain ⟨b, o, e1, _, ob⟩ := own i d v m1 m2 h2
            exact .inl ⟨b, o, e1, ob, m1, m2⟩
          · exact .inr ⟨m2, by rw [wipe_out' m1]; exact h2⟩
        refine h (.ref Da) H' F' ⟨a.fs.trans L.fs, ⟨L.eo.sub, by rw [backE_len, ← ll]; exact a.eo.len, fun i s hh n => ?_, fun i j d d' v h1 h2 h3 h4 => ?_, L.eo.tab, L.eo.ntb⟩, ⟨Da, _, rfl, o1.nf, o1.at_, us, rfl, o2⟩, fun i d hh z => ?_, fun b o hb => ?_, fun b o hb z => ?_⟩
        · rcases backE_at ll hh with ⟨m1, m2⟩ | ⟨m1, m2⟩
          · obtain ⟨v, hv, r⟩ := a.eo.val i s m2 n
            refine ⟨v, hv, ?_⟩
            cases s with
            | un => exact r
            | fz d => exact Rep.up L.fs r
            | ow d =>
              obtain ⟨b, o, rfl, tt, ob⟩ := own i d v m1 m2 hv
              exact ⟨b, o, rfl, ob.nf, ob.at_, tt.up L.fs⟩
          · obtain ⟨v, hv, r⟩ := L.eo.val i s m2 n
            rw [wipe_out' m1] at hv
            exact ⟨v, hv, r⟩
        · rcases slot i d v h1 h3 with ⟨b, o, e1, ob, m1, m2⟩ | ⟨m1, m2⟩ <;> rcases slot j d' v h2 h4 with ⟨b', o', e1', ob', m1', m2'⟩ | ⟨m1', m2'⟩
          · exact a.eo.inj i j d d' v m2 m2' h3 h4
          · rw [e1] at m2'
            exact absurd m2' (ob.no j d' m1')
          · rw [e1'] at m2
            exact absurd m2 (ob'.no i d m1)
          · exact L.eo.inj i j d d' v m1 m1' m2 m2'
        · rcases slot i d _ hh z with ⟨b, o, e1, ob, m1, m2⟩ | ⟨m1, m2⟩
          · cases e1
            obtain ⟨w', hw', b, o, rfl, k1, k2, tt⟩ := a.eo.val i _ m2 (by simp)
            rw [z] at hw'
            cases hw'
            rw [hDa] at k2
            cases k2
          · exact o1.no i d m1 m2
        · have z1 := a.fr b o hb
          have z2 : Oth (L2.wipe σ vs) (wipeE ε1 vs) F1 H1 b o := frm_wipe vs b o z1
          have z3 := L.fr b o z2
          refine ⟨z3.nf, z3.at_, z3.kd, fun i d hh z => ?_⟩
          rcases slot i d _ hh z with ⟨b', o', e1, ob, m1, m2⟩ | ⟨m1, m2⟩
          · exact z1.no i d m2 z
          · exact z3.no i d m1 m2
        · cases z
          have := (a.fr _ o hb).at_
          rw [hDa] at this
          cases this

section
variable {X : Cx} {W : WX} {np : Nat} {kx vx tg iter : Expr} {scope : Scope} {own : List (Str × Nat)} {pos : Pos} {fi : FI} {g : FG} {t : FB} {ek ev : FE} {ts : List Nat}
theorem me_dc {ifs : List Expr} (hc : X.calm = true) (hN : X.N.Nodup) (hi : MI X W tg iter fi) (ok : BlkOk X.N X.env.scope scope own)
    (hg : ∀ (s : Shared) (H : Hp) (C : Addr) (cl : List (Str × Addr)) (fp : List Addr), MG (X.blk s H scope (compEnvC scope cl C X.env) fp) ts tg g)
    (ht : ∀ (s : Shared) (H : Hp) (C : Addr) (cl : List (Str × Addr)) (fp : List Addr), PTs (X.blk s H scope (compEnvC scope cl C X.env) fp) ifs (tMT X.K W0 t))
    (hk : ∀ (s : Shared) (H : Hp) (C : Addr) (cl : List (Str × Addr)) (fp : List Addr), ME (X.blk s H scope (compEnvC scope cl C X.env) fp) W0 kx ek)
    (he : ∀ (s : Shared) (H : Hp) (C : Addr) (cl : List (Str × Addr)) (fp : List Addr), ME (X.blk s H scope (compEnvC scope cl C X.env) fp) W0 vx ev)
    (hts : ts.all (fun i => decide (i ∈ own.map (·.2))) = true := by rfl) (hs : ∀ x, foldedSetIterable iter X.env x = pure x := by intro _; rfl) :
    ME X W (.DictComp kx vx [⟨tg, iter, ifs, 0⟩] scope pos) (eDc fi g t ek ev (own.map (·.2))) :=
  PE.imp (pe_dc hc hN hi ok hg ht hk he hs) fun _ _ _ h => dc_ok hts h
end
end Mi

namespace Mi
open PySem PySem.Spec PyProof.Rows L2

/-! ### a thing that is lent: what comes back holds no list and no dict, so it is still its slot's own -/
mutual
def nol : D → Bool
  | .non => true
  | .bl _ => true
  | .int _ => true
  | .str _ => true
  | .lst _ => false
  | .rol _ => false
  | .tup xs => nolL xs
  | .dct _ => false
  | .ins _ fs => nolF fs
  | .exc _ fs => nolF fs
  | .hx _ _ _ fs => nolF fs
  | .th _ _ _ _ _ => false
  | .ptp xs => nolL xs
def nolL : List D → Bool
  | [] => true
  | d :: r => nol d && nolL r
def nolF : List (Str × D) → Bool
  | [] => true
  | (_, d) :: r => nol d && nolF r
def nolK : List (Key × D) → Bool
  | [] => true
  | (_, d) :: r => nol d && nolK r
end
def rm (F : Hp) (a : Addr) : Hp := fun b => if b = a then none else F b
theorem rm_same {F : Hp} {a : Addr} : rm F a a = none := by unfold rm; rw [if_pos rfl]
theorem rm_ne {F : Hp} {a b : Addr} (h : b ≠ a) : rm F a b = F b := by unfold rm; rw [if_neg h]
def Lent : HO → Prop
  | .lst _ => True
  | .dK _ => True
  | _ => False
theorem lent_ne {F : Hp} {a b : Addr} {o u : HO} (h : F a = some o) (l : Lent o) (h2 : F b = some u) (n : ¬ Lent u) : b ≠ a := fun z => by
  rw [z, h] at h2
  cases h2
  exact n l
theorem sqT_rm {K : PySem.W.Frag} {F : Hp} {a b : Addr} {o : HO} {xs : List V} (h : F a = some o) (l : Lent o) (s : SqT K F b xs) : SqT K (rm F a) b xs := by
  rcases s with (z | ⟨u, z⟩) | z
  · exact .inl (.inl (by rw [rm_ne (lent_ne h l z (fun q => q))]; exact z))
  · exact .inl (.inr ⟨u, by rw [rm_ne (lent_ne h l z (fun q => q))]; exact z⟩)
  · exact .inr z
mutual
theorem Rep.less {K : PySem.W.Frag} {F : Hp} {a : Addr} {o : HO} (h : F a = some o) (l : Lent o) {v : V} {d : D} : Rep K F v d → nol d = true → Rep K (rm F a) v d
  | .non, _ => .non
  | .bl b, _ => .bl b
  | .int i, _ => .int i
  | .str x, _ => .str x
  | .lst e r, n => nomatch n
  | .rol e r, n => nomatch n
  | .tup e r, n => .tup (sqT_rm h l e) (RepL.less h l r n)
  | .dct e r, n => nomatch n
  | .ins e r, n => .ins (by rw [rm_ne (lent_ne h l e (fun q => q))]; exact e) (RepF.less h l r n)
  | .exc e e2 r, n => .exc (by rw [rm_ne (lent_ne h l e (fun q => q))]; exact e) (by rw [rm_ne (lent_ne h l e2 (fun q => q))]; exact e2) (RepF.less h l r n)
  | .exn e, n => .exn (by rw [rm_ne (lent_ne h l e (fun q => q))]; exact e)
  | .hx e r, n => .hx (by rw [rm_ne (lent_ne h l e (fun q => q))]; exact e) (RepF.less h l r n)
  | .th e r, n => nomatch n
  | .ptp e q r, n => .ptp (by rw [rm_ne (lent_ne h l e (fun q => q))]; exact e) q (RepL.less h l r n)
theorem RepL.less {K : PySem.W.Frag} {F : Hp} {a : Addr} {o : HO} (h : F a = some o) (l : Lent o) {vs : List V} {ds : List D} : RepL K F vs ds → nolL ds = true → RepL K (rm F a) vs ds
  | .nil, _ => .nil
  | .cons e r, n => .cons (Rep.less h l e (Bool.and_eq_true_iff.mp n).1) (RepL.less h l r (Bool.and_eq_true_iff.mp n).2)
theorem RepF.less {K : PySem.W.Frag} {F : Hp} {a : Addr} {o : HO} (h : F a = some o) (l : Lent o) {vs : List (Str × V)} {ds : List (Str × D)} : RepF K F vs ds → nolF ds = true → RepF K (rm F a) vs ds
  | .nil, _ => .nil
  | .cons e r, n => .cons (Rep.less h l e (Bool.and_eq_true_iff.mp n).1) (RepF.less h l r (Bool.and_eq_true_iff.mp n).2)
end
theorem RepK.less {K : PySem.W.Frag} {F : Hp} {a : Addr} {o : HO} (h : F a = some o) (l : Lent o) {vs : List (Key × V)} {ds : List (Key × D)} : RepK K F vs ds → nolK ds = true → RepK K (rm F a) vs ds
  | .nil, _ => .nil
  | .cons e r, n => .cons (Rep.less h l e (Bool.and_eq_true_iff.mp n).1) (RepK.less h l r (Bool.and_eq_true_iff.mp n).2)
/-- what a slot may hold behind it -/
def nolS : Sl → Bool
  | .un => true
  | .fz d => nol d
  | .ow (.lst ds) => nolL ds
  | .ow (.dct ds) => nolK ds
  | .ow (.ins _ fs) => nolF fs
  | .ow _ => false
theorem Top.less {K : PySem.W.Frag} {F : Hp} {a : Addr} {o u : HO} (h : F a = some o) (l : Lent o) {d : D} (t : Top K F u d) (n : nolS (.ow d) = true) : Top K (rm F a) u d := by
  cases d with
  | lst ds => obtain ⟨vs, e, r⟩ := t; exact ⟨vs, e, r.less h l n⟩
  | dct ds => obtain ⟨vs, e, r⟩ := t; exact ⟨vs, e, r.less h l n⟩
  | ins C gs => obtain ⟨dx, fs, e, r⟩ := t; exact ⟨dx, fs, e, r.less h l n⟩
  | _ => exact t.elim
theorem RepS.less {K : PySem.W.Frag} {F H : Hp} {a : Addr} {o : HO} (h : F a = some o) (l : Lent o) {v : V} {s : Sl} (r : RepS K F H v s) (n : nolS s = true) : RepS K (rm F a) H v s := by
  cases s with
  | un => exact r
  | fz d => exact Rep.less h l r n
  | ow d =>
    obtain ⟨b, u, e, h1, h2, t⟩ := r
    refine ⟨b, u, e, ?_, h2, t.less h l n⟩
    unfold rm
    split
    · rfl
    · exact h1
/-- what is not lent and not plain is out of sight meanwhile -/
def maskS : Sl → Sl
  | .ow d => if nolS (.ow d) then .ow d else .un
  | s => s
def maskB (ε : En) : En := ε.map maskS
theorem mask_at {ε : En} {j : Nat} {s : Sl} (h : (maskB ε)[j]? = some s) (n : s ≠ .un) : ε[j]? = some s ∧ ∀ d, s = .ow d → nolS (.ow d) = true := by
  unfold maskB at h
  rw [List.getElem?_map, Option.map_eq_some_iff] at h
  obtain ⟨t, h1, h2⟩ := h
  cases t with
  | un => exact absurd h2.symm n
  | fz d => cases h2; exact ⟨h1, fun d z => by cases z⟩
  | ow d =>
    unfold maskS at h2
    simp only at h2
    split at h2
    · rename_i hd
      cases h2
      exact ⟨h1, fun d' z => by cases z; exact hd⟩
    · exact absurd h2.symm n
/-- the slots behind it: those that were frozen, or out of sight, are as they were -/
def unB : List Sl → List Sl → Option (List Sl)
  | [], [] => some []
  | .ow d :: r, s :: q => if nolS (.ow d) then (if nolS s then (unB r q).map (s :: ·) else none) else (unB r q).map (.ow d :: ·)
  | t :: r, _ :: q => (unB r q).map (t :: ·)
  | _, _ => none
theorem unB_at : ∀ {ε ε' ε2 : List Sl}, unB ε ε' = some ε2 → ε2.length = ε.length ∧ ∀ (j : Nat) (s : Sl), ε2[j]? = some s → (ε[j]? = some s ∧ ∀ d, s ≠ .ow d) ∨ ((∃ d, ε[j]? = some (.ow d)) ∧ ε'[j]? = some s ∧ nolS s = true) ∨ ∃ d, s = .ow d ∧ ε[j]? = some (.ow d) ∧ nolS (.ow d) = false
  | [], [], _, h => by
    cases h
    exact ⟨rfl, fun j s e => by simp at e⟩
  | .ow d :: r, s :: q, ε2, h => by
    unfold unB at h
    by_cases hd : nolS (.ow d) = true
    · rw [if_pos hd] at h
      by_cases hs : nolS s = true
      · rw [if_pos hs, Option.map_eq_some_iff] at h
        obtain ⟨z, hz, rfl⟩ := h
        obtain ⟨l, f⟩ := unB_at hz
        refine ⟨by simp [l], fun j t e => ?_⟩
        cases j with
        | zero => cases e; exact .inr (.inl ⟨⟨d, rfl⟩, rfl, hs⟩)
        | succ j => exact f j t e
      · rw [if_neg hs] at h
        cases h
    · rw [if_neg hd, Option.map_eq_some_iff] at h
      obtain ⟨z, hz, rfl⟩ := h
      obtain ⟨l, f⟩ := unB_at hz
      refine ⟨by simp [l], fun j t e => ?_⟩
      cases j with
      | zero => cases e; exact .inr (.inr ⟨d, rfl, rfl, by simpa using hd⟩)
      | succ j => exact f j t e
  | .un :: r, s :: q, ε2, h => by
    unfold unB at h
    rw [Option.map_eq_some_iff] at h
    obtain ⟨z, hz, rfl⟩ := h
    obtain ⟨l, f⟩ := unB_at hz
    refine ⟨by simp [l], fun j t e => ?_⟩
    cases j with
    | zero => cases e; exact .inl ⟨rfl, fun d z => by cases z⟩
    | succ j => exact f j t e
  | .fz d :: r, s :: q, ε2, h => by
    unfold unB at h
    rw [Option.map_eq_some_iff] at h
    obtain ⟨z, hz, rfl⟩ := h
    obtain ⟨l, f⟩ := unB_at hz
    refine ⟨by simp [l], fun j t e => ?_⟩
    cases j with
    | zero => cases e; exact .inl ⟨rfl, fun d z => by cases z⟩
    | succ j => exact f j t e
  | [], _ :: _, _, h => by simp [unB] at h
  | .ow _ :: _, [], _, h => by simp [unB] at h
  | .un :: _, [], _, h => by simp [unB] at h
  | .fz _ :: _, [], _, h => by simp [unB] at h
def lentD : D → Bool
  | .lst _ => true
  | .dct _ => true
  | _ => false
/-- slot i is lent while f is asked -/
def eBor (i : Nat) (f : FE) : FE := fun ε => match ε[i]? with
  | some (.ow d) => if lentD d then (match f ((maskB ε).set i (.fz d)) with
    | some (.v s ε1) => if nolS s then (unB (ε.set i .un) ε1).map fun ε2 => .v s (ε2.set i (.ow d)) else none
    | some (.x c gs ε1) => if nolF gs then (unB (ε.set i .un) ε1).map fun ε2 => .x c gs (ε2.set i (.ow d)) else none
    | none => none) else none
  | _ => f ε
section
variable {K : PySem.W.Frag} {W : WX} {σ : St} {ε ε1 ε2 : En} {F H F' H' : Hp} {i : Nat} {a : Addr} {o : HO} {d : D}
/-- an owned slot behind it: the lent one, one that was in sight, one that was not -/
def OwnB (σ : St) (ε ε1 ε2 : En) (i : Nat) (d : D) : Prop := ∀ (j : Nat) (d' : D), (ε2.set i (.ow d))[j]? = some (.ow d') → (j = i ∧ d' = d) ∨ (j ≠ i ∧ ε1[j]? = some (.ow d')) ∨ (j ≠ i ∧ ε[j]? = some (.ow d') ∧ nolS (.ow d') = false)
theorem bor_eok (E0 : EOk K F H σ ε) (hi : ε[i]? = some (.ow d)) (hv : σ[i]? = some (some (.ref a))) (h1 : F a = none) (h2 : H a = some o) (t : Top K F o d) (l : Lent o) (fs : Same (upd F a o) F') (e1 : EOk K F' H' σ ε1) (hu : unB (ε.set i .un) ε1 = some ε2)
    (hid : ∀ (j : Nat) (d' : D) (b : Addr) (u : HO), j ≠ i → ε[j]? = some (.ow d') → nolS (.ow d') = false → σ[j]? = some (some (.ref b)) → H b = some u → Own u → F b = none → Oth σ ε1 F' H' b u) :
    Same F (rm F' a) ∧ EOk K (rm F' a) H' σ (ε2.set i (.ow d)) ∧ OwnB σ ε ε1 ε2 i d := by
  have fa : F' a = some o := fs _ _ upd_same
  have ha : H' a = some o := e1.sub _ _ fa
  have sm : Same F (rm F' a) := fun b u e => by
    have nb : b ≠ a := ne_of_none e h1
    rw [rm_ne nb]
    exact fs _ _ (by rw [upd_ne nb]; exact e)
  have il : i < ε.length := (List.getElem?_eq_some_iff.mp hi).1
  obtain ⟨lu, fu0⟩ := unB_at hu
  rw [List.length_set] at lu
  have fu : ∀ (j : Nat) (s : Sl), j ≠ i → ε2[j]? = some s → (ε[j]? = some s ∧ ∀ d, s ≠ .ow d) ∨ ((∃ d, ε[j]? = some (.ow d)) ∧ ε1[j]? = some s ∧ nolS s = true) ∨ ∃ d, s = .ow d ∧ ε[j]? = some (.ow d) ∧ nolS (.ow d) = false := fun j s hj e => by
    have := fu0 j s e
    rwa [List.getElem?_set_ne (Ne.symm hj)] at this
  have il2 : i < ε2.length := by rw [lu]; exact il
  have at_ : ∀ (j : Nat) (s : Sl), (ε2.set i (.ow d))[j]? = some s → (j = i ∧ s = .ow d) ∨ (j ≠ i ∧ ((ε[j]? = some s ∧ ∀ d, s ≠ .ow d) ∨ ((∃ d, ε[j]? = some (.ow d)) ∧ ε1[j]? = some s ∧ nolS s = true) ∨ ∃ d, s = .ow d ∧ ε[j]? = some (.ow d) ∧ nolS (.ow d) = false)) := fun j s e => by
    by_cases hj : j = i
    · subst hj
      rw [List.getElem?_set_self il2] at e
      exact .inl ⟨rfl, (Option.some.inj e).symm⟩
    · rw [List.getElem?_set_ne (Ne.symm hj)] at e
      exact .inr ⟨hj, fu j s hj e⟩
  have own : OwnB σ ε ε1 ε2 i d := fun j d' e => by
    rcases at_ j _ e with ⟨z1, z2⟩ | ⟨z1, ⟨_, z2⟩ | ⟨_, z2, _⟩ | ⟨dd, z2, z3, z4⟩⟩
    · exact .inl ⟨z1, by injection z2⟩
    · exact absurd rfl (z2 d')
    · exact .inr (.inl ⟨z1, z2⟩)
    · cases z2
      exact .inr (.inr ⟨z1, z3, z4⟩)
  have cr : ∀ (j : Nat) (x : D), ε1[j]? = some (.ow x) → σ[j]? ≠ some (some (.ref a)) := fun j x e z => by
    obtain ⟨w, hw, b, u, rfl, k1, _⟩ := e1.val j _ e (by simp)
    rw [hw] at z
    cases z
    rw [fa] at k1
    cases k1
  -- one out of sight: nobody else's
  have hd2 : ∀ (j : Nat) (x : D), j ≠ i → ε[j]? = some (.ow x) → nolS (.ow x) = false → ∃ b u, σ[j]? = some (some (.ref b)) ∧ Top K F u x ∧ Oth σ ε1 F' H' b u ∧ b ≠ a := fun j x hj e n => by
    obtain ⟨w, hw, b, u, rfl, k1, k2, tt⟩ := E0.val j _ e (by simp)
    refine ⟨b, u, hw, tt, hid j x b u hj e n hw k2 tt.own k1, fun z => hj (E0.inj j i x d (.ref b) e hi hw (by rw [z]; exact hv))⟩
  refine ⟨sm, ⟨fun b u e => ?_, ?_, fun j s e n => ?_, fun j k x y v q1 q2 q3 q4 => ?_, e1.tab, fun b ps e => ?_⟩, own⟩
  · have nb : b ≠ a := fun z => by rw [z, rm_same] at e; cases e
    rw [rm_ne nb] at e
    exact e1.sub _ _ e
  · rw [List.length_set, lu]; exact E0.len
  · rcases at_ j s e with ⟨rfl, rfl⟩ | ⟨z1, ⟨z2, z3⟩ | ⟨_, z2, z3⟩ | ⟨dd, rfl, z3, z4⟩⟩
    · exact ⟨_, hv, a, o, rfl, rm_same, ha, t.up sm⟩
    · obtain ⟨v, hv', r⟩ := E0.val j s z2 n
      refine ⟨v, hv', ?_⟩
      cases s with
      | un => exact r
      | fz d' => exact Rep.up sm r
      | ow d' => exact absurd rfl (z3 d')
    · obtain ⟨v, hv', r⟩ := e1.val j s z2 n
      exact ⟨v, hv', r.less fa l z3⟩
    · obtain ⟨b, u, hw, tt, ob, nb⟩ := hd2 j dd z1 z3 z4
      exact ⟨_, hw, b, u, rfl, by rw [rm_ne nb]; exact ob.nf, ob.at_, tt.up sm⟩
  · rcases own j x q1 with ⟨rfl, rfl⟩ | ⟨_, z1⟩ | ⟨n1, z1, w1⟩ <;> rcases own k y q2 with ⟨rfl, rfl⟩ | ⟨_, z2⟩ | ⟨n2, z2, w2⟩
    · rfl
    · rw [hv] at q3
      cases q3
      exact absurd q4 (cr k y z2)
    · exact E0.inj _ k x y v hi z2 q3 q4
    · rw [hv] at q4
      cases q4
      exact absurd q3 (cr j x z1)
    · exact e1.inj j k x y v z1 z2 q3 q4
    · obtain ⟨b, u, hw, _, ob, _⟩ := hd2 k y n2 z2 w2
      rw [hw] at q4
      cases q4
      exact absurd q3 (ob.no j x z1)
    · exact E0.inj j _ x y v z1 hi q3 q4
    · obtain ⟨b, u, hw, _, ob, _⟩ := hd2 j x n1 z1 w1
      rw [hw] at q3
      cases q3
      exact absurd q4 (ob.no k y z2)
    · exact E0.inj j k x y v z1 z2 q3 q4
  · by_cases hb : b = a
    · rw [hb, rm_same] at e; cases e
    · rw [rm_ne hb] at e; exact e1.ntb b ps e
theorem bor_do {f : FE} {Q : VK} (h : tM K W (eBor i f) σ H Q) : tM K W f σ H Q := by
  obtain ⟨F, ε, E0, h⟩ := h
  unfold eBor at h
  cases hi : ε[i]? with
  | none => rw [hi] at h; exact ⟨F, ε, E0, h⟩
  | some s0 =>
    rw [hi] at h
    cases s0 with
    | un => exact ⟨F, ε, E0, h⟩
    | fz _ => exact ⟨F, ε, E0, h⟩
    | ow d =>
      simp only at h
      by_cases hl : lentD d = true
      · rw [if_pos hl] at h
        obtain ⟨v, hv, a, o, rfl, h1, h2, t⟩ := E0.val i _ hi (by simp)
        have l : Lent o := by
          cases d with
          | lst ds => obtain ⟨vs, rfl, _⟩ := t; trivial
          | dct ds => obtain ⟨vs, rfl, _⟩ := t; trivial
          | _ => exact (Bool.noConfusion hl)
        have sf : Same F (upd F a o) := same_new h1
        have il : i < ε.length := (List.getElem?_eq_some_iff.mp hi).1
        have il' : i < (maskB ε).length := by unfold maskB; simpa using il
        have ni : ∀ (j : Nat) (z : D), ((maskB ε).set i (.fz d))[j]? = some (.ow z) → j ≠ i ∧ ε[j]? = some (.ow z) ∧ nolS (.ow z) = true := fun j z q => by
          by_cases hj : j = i
          · subst hj
            rw [List.getElem?_set_self il'] at q
            cases q
          · rw [List.getElem?_set_ne (Ne.symm hj)] at q
            obtain ⟨q1, q2⟩ := mask_at q (by simp)
            exact ⟨hj, q1, q2 z rfl⟩
        have E1 : EOk K (upd F a o) H σ ((maskB ε).set i (.fz d)) := by
          refine ⟨fun b u q => ?_, by rw [E0.len, List.length_set]; unfold maskB; simp, fun j s' q n => ?_, fun j k x y w q1 q2 q3 q4 => E0.inj j k x y w (ni j x q1).2.1 (ni k y q2).2.1 q3 q4, E0.tab, NoTb.upd E0.ntb t.own.nt⟩
          · by_cases hb : b = a
            · rw [hb, upd_same] at q; cases q; rw [hb]; exact h2
            · rw [upd_ne hb] at q; exact E0.sub _ _ q
          · by_cases hj : j = i
            · subst hj
              rw [List.getElem?_set_self il'] at q
              cases q
              exact ⟨_, hv, Top.rep upd_same (t.up sf)⟩
            · rw [List.getElem?_set_ne (Ne.symm hj)] at q
              obtain ⟨q, _⟩ := mask_at q n
              obtain ⟨w, hw, r⟩ := E0.val j s' q n
              refine ⟨w, hw, ?_⟩
              cases s' with
              | un => exact r
              | fz d' => exact Rep.up sf r
              | ow d' =>
                obtain ⟨b, u, rfl, k1, k2, t'⟩ := r
                have nb : b ≠ a := fun z => hj (E0.inj j i d' d (.ref b) q hi hw (by rw [z]; exact hv))
                exact ⟨b, u, rfl, by rw [upd_ne nb]; exact k1, k2, t'.up sf⟩
        have fr1 : Frm σ ε F H σ ((maskB ε).set i (.fz d)) (upd F a o) H := fun b u ob => ⟨by
          rw [upd_ne (fun z => ob.no i d hi (by rw [hv, z]))]; exact ob.nf, ob.at_, ob.kd, fun j z q => ob.no j z (ni j z q).2.1⟩
        -- what is out of sight belongs to others meanwhile
        have hid0 : ∀ (j : Nat) (d' : D) (b : Addr) (u : HO), j ≠ i → ε[j]? = some (.ow d') → nolS (.ow d') = false → σ[j]? = some (some (.ref b)) → H b = some u → Own u → F b = none → Oth σ ((maskB ε).set i (.fz d)) (upd F a o) H b u := fun j d' b u hj e n hw hb ko fb => by
          have nb : b ≠ a := fun z => hj (E0.inj j i d' d (.ref b) e hi hw (by rw [z]; exact hv))
          refine ⟨by rw [upd_ne nb]; exact fb, hb, ko, fun k z q y => ?_⟩
          obtain ⟨_, q1, q2⟩ := ni k z q
          have := E0.inj j k d' z (.ref b) e q1 hw y
          subst this
          rw [e] at q1
          cases q1
          rw [n] at q2
          cases q2
        refine ⟨upd F a o, (maskB ε).set i (.fz d), E1, ?_⟩
        have frm : ∀ {ε1 ε2 : En} {F' H' : Hp}, OwnB σ ε ε1 ε2 i d → Frm σ ((maskB ε).set i (.fz d)) (upd F a o) H σ ε1 F' H' → Frm σ ε F H σ (ε2.set i (.ow d)) (rm F' a) H' := fun {ε1 ε2 F' H'} own fr b u ob => by
          have nb : b ≠ a := fun z => ob.no i d hi (by rw [hv, z])
          have q := fr b u (fr1 b u ob)
          refine ⟨by rw [rm_ne nb]; exact q.nf, q.at_, q.kd, fun j z e y => ?_⟩
          rcases own j z e with ⟨rfl, _⟩ | ⟨_, e1⟩ | ⟨_, e1, _⟩
          · rw [hv] at y; cases y; exact nb rfl
          · exact q.no j z e1 y
          · exact ob.no j z e1 y
        cases hf : f ((maskB ε).set i (.fz d)) with
        | none => rw [hf] at h; exact h
        | some r =>
          rw [hf] at h
          cases r with
          | x c gs ε1 =>
            intro dd H' F' ax
            simp only at h
            by_cases hn : nolF gs = true
            · rw [if_pos hn] at h
              cases hu : unB (ε.set i .un) ε1 with
              | none => rw [hu] at h; exact h.elim
              | some ε2 =>
                rw [hu] at h
                obtain ⟨sm, eo, own⟩ := bor_eok E0 hi hv h1 h2 t l ax.fs ax.eo hu fun j d' b u k1 k2 k3 k4 k5 k6 k7 => ax.fr b u (hid0 j d' b u k1 k2 k3 k4 k5 k6 k7)
                obtain ⟨⟨vs, x1, x2⟩, x3⟩ := ax.xd
                exact h dd H' (rm F' a) ⟨sm, eo, ⟨⟨vs, x1, x2.less (ax.fs _ _ upd_same) l hn⟩, fun b u ob => x3 b u (fr1 b u ob)⟩, frm own ax.fr⟩
            · rw [if_neg hn] at h
              exact h.elim
          | v s ε1 =>
            intro v H' F' av
            simp only at h
            by_cases hn : nolS s = true
            · rw [if_pos hn] at h
              cases hu : unB (ε.set i .un) ε1 with
              | none => rw [hu] at h; exact h.elim
              | some ε2 =>
                rw [hu] at h
                obtain ⟨sm, eo, own⟩ := bor_eok E0 hi hv h1 h2 t l av.fs av.eo hu fun j d' b u k1 k2 k3 k4 k5 k6 k7 => av.fr b u (hid0 j d' b u k1 k2 k3 k4 k5 k6 k7)
                have fa : F' a = some o := av.fs _ _ upd_same
                refine h v H' (rm F' a) ⟨sm, eo, av.rs.less fa l hn, ?_, frm own av.fr, ?_⟩
                · cases s with
                  | un => trivial
                  | fz _ => trivial
                  | ow ds =>
                    intro j z e y
                    rcases own j z e with ⟨rfl, _⟩ | ⟨_, e1⟩ | ⟨n1, e1, w1⟩
                    · obtain ⟨b, u, rfl, k1, _⟩ := av.rs
                      rw [hv] at y
                      cases y
                      rw [fa] at k1
                      cases k1
                    · exact av.ap j z e1 y
                    · obtain ⟨w, hw, b, u, rfl, k1, k2, tt⟩ := E0.val j _ e1 (by simp)
                      rw [hw] at y
                      cases y
                      exact av.mi b u (hid0 j z b u n1 e1 w1 hw k2 tt.own k1) rfl
                · cases s with
                  | un => trivial
                  | fz _ => trivial
                  | ow ds => exact fun b u ob => av.mi b u (fr1 b u ob)
            · rw [if_neg hn] at h
              exact h.elim
      · rw [if_neg hl] at h
        exact h.elim
end
theorem me_bor {X : Cx} {W : WX} {e : Expr} {f : FE} (i : Nat) (h : ME X W e f) : ME X W e (eBor i f) := PE.imp h fun _ _ _ q => bor_do q
end Mi

namespace Mi
open PySem PySem.Spec PyProof.Rows L2

/-! ### while -/
def whileL (c : FB) (b : FS) : Nat → En → Option Fl
  | 0, _ => none
  | n + 1, ε => match c ε with
    | none => none
    | some (.x k gs ε1) => some (.ex k gs ε1)
    | some (.v false ε1) => some (.nx ε1)
    | some (.v true ε1) => match b ε1 with
      | some (.nx ε2) => whileL c b n ε2
      | some (.ct ε2) => whileL c b n ε2
      | some (.bk ε2) => some (.nx ε2)
      | o => o
theorem whileL_more {c : FB} {b : FS} : ∀ {n m : Nat} {ε : En} {r : Fl}, whileL c b n ε = some r → n ≤ m → whileL c b m ε = some r
  | 0, _, _, _, h, _ => by cases h
  | n + 1, 0, _, _, _, l => by omega
  | n + 1, m + 1, ε, r, h, l => by
    unfold whileL at h ⊢
    revert h
    cases c ε with
    | none => exact fun h => h
    | some q =>
      cases q with
      | x k gs ε1 => exact fun h => h
      | v bb ε1 =>
        cases bb with
        | false => exact fun h => h
        | true =>
          show (match b ε1 with
            | some (.nx ε2) => whileL c b n ε2
            | some (.ct ε2) => whileL c b n ε2
            | some (.bk ε2) => some (.nx ε2)
            | o => o) = some r → (match b ε1 with
            | some (.nx ε2) => whileL c b m ε2
            | some (.ct ε2) => whileL c b m ε2
            | some (.bk ε2) => some (.nx ε2)
            | o => o) = some r
          cases b ε1 with
          | none => exact fun h => h
          | some fl =>
            cases fl with
            | nx ε2 => exact fun h => whileL_more h (by omega)
            | ct ε2 => exact fun h => whileL_more h (by omega)
            | bk ε2 => exact fun h => h
            | rt s ε2 => exact fun h => h
            | ex k gs ε2 => exact fun h => h
open Classical in
noncomputable def sWhile (c : FB) (b : FS) : FS := fun ε => if h : ∃ n r, whileL c b n ε = some r then some (Classical.choose (Classical.choose_spec h)) else none
theorem sWhile_eq {c : FB} {b : FS} {n : Nat} {ε : En} {r : Fl} (h : whileL c b n ε = some r) : sWhile c b ε = some r := by
  have e : ∃ n r, whileL c b n ε = some r := ⟨n, r, h⟩
  unfold sWhile
  rw [dif_pos e]
  have q := Classical.choose_spec (Classical.choose_spec e)
  have h1 := whileL_more h (Nat.le_max_left n (Classical.choose e))
  have h2 := whileL_more q (Nat.le_max_right n (Classical.choose e))
  rw [h1] at h2
  exact h2.symm
theorem sWhile_of {c : FB} {b : FS} {ε : En} {r : Fl} (h : sWhile c b ε = some r) : ∃ n, whileL c b n ε = some r := by
  unfold sWhile at h
  by_cases e : ∃ n r, whileL c b n ε = some r
  · rw [dif_pos e] at h
    have q := Classical.choose_spec (Classical.choose_spec e)
    exact ⟨_, by rw [q]; exact h⟩
  · rw [dif_neg e] at h
    cases h
theorem while_ok {K : PySem.W.Frag} {W : WX} {np : Nat} {c : FB} {b : FS} {Z : Ends} {σ : St} {H : Hp} (h : sM K W np (sWhile c b) Z σ H) : tWhile (tMT K W c) (sM K W np b) Z σ H := by
  obtain ⟨F, ε, E0, h⟩ := h
  cases q : sWhile c b ε with
  | none => rw [q] at h; exact h.elim
  | some r =>
    rw [q] at h
    obtain ⟨n, hn⟩ := sWhile_of q
    refine ⟨fun m σ' H' => ∃ F' ε', EOk K F' H' σ' ε' ∧ whileL c b m ε' = some r ∧ DoS K W np σ' ε' F' H' (some r) Z, ⟨n, F, ε, E0, hn, h⟩, ?_⟩
    rintro m σ' H' ⟨F', ε', e, hw, hd⟩
    refine ⟨F', ε', e, ?_⟩
    cases m with
    | zero => cases hw
    | succ m =>
      unfold whileL at hw
      revert hw
      cases c ε' with
      | none => intro hw; cases hw
      | some cq =>
        cases cq with
        | x k gs ε1 =>
          intro hw
          cases hw
          exact DoS.exx hd
        | v bb ε1 =>
          cases bb with
          | false =>
            intro hw
            cases hw
            intro H1 F1 s1 e1 f1
            rw [if_neg (by simp)]
            exact hd σ' H1 F1 s1 e1 .refl f1
          | true =>
            intro hw H1 F1 s1 e1 f1
            rw [if_pos rfl]
            refine ⟨fun σ2 H2 => ∃ F2 ε2, EOk K F2 H2 σ2 ε2 ∧ whileL c b m ε2 = some r ∧ DoS K W np σ2 ε2 F2 H2 (some r) Z, fun σ2 H2 z => ⟨m, Nat.lt_succ_self m, z⟩, F1, ε1, e1, ?_⟩
            have hd := DoS.sub hd s1 .refl f1
            have hw : (match b ε1 with
              | some (.nx ε2) => whileL c b m ε2
              | some (.ct ε2) => whileL c b m ε2
              | some (.bk ε2) => some (.nx ε2)
              | o => o) = some r := hw
            revert hw
            cases b ε1 with
            | none => intro hw; cases hw
            | some fl =>
              cases fl with
              | nx ε2 => exact fun hw σ2 H2 F2 s2 e2 k2 f2 => ⟨F2, ε2, e2, hw, DoS.sub hd s2 k2 f2⟩
              | ct ε2 => exact fun hw σ2 H2 F2 s2 e2 k2 f2 => ⟨F2, ε2, e2, hw, DoS.sub hd s2 k2 f2⟩
              | bk ε2 => intro hw; cases hw; exact hd
              | rt s ε2 => intro hw; cases hw; exact hd
              | ex k gs ε2 => intro hw; cases hw; exact hd
section
variable {X : Cx} {W : WX} {np : Nat} {e o a b : Expr} {f fo fa fb : FE} {pos p apos : Pos}
theorem ms_while {c : Expr} {body : List Stmt} {tc : FB} {tb : FS} (hp : PassesOwn (model X.prog X.w) X.A X.env X.xe) (hc : MT X W c tc) (hb : MSs X W np body tb) : MS X W np (.While c body [] pos) (sWhile tc tb) :=
  PS.imp (ps_while hp hc hb) fun _ _ _ h => while_ok h

/-! ### x += e, ints -/
def sAug (g : Int → Int → Int) (i : Nat) (f : FE) : FS := fun ε => match ε[i]? with
  | some (.fz (.int x)) => bs (f ε) fun s ε1 => match s with
    | .fz (.int y) => some (.nx (ε1.set i (.fz (.int (g x y)))))
    | _ => none
  | _ => none
theorem aug_ok {K : PySem.W.Frag} {g : Int → Int → Int} {i : Nat} {Z : Ends} {σ : St} {H : Hp} (hnp : np ≤ i) (h : sM K W np (sAug g i f) Z σ H) : tAug i (tM K W f) (ipI g) Z σ H := by
  obtain ⟨F, ε, E0, h⟩ := h
  unfold sAug at h
  cases q : ε[i]? with
  | none => rw [q] at h; exact h.elim
  | some s =>
    rw [q] at h
    cases s with
    | un => exact h.elim
    | ow _ => exact h.elim
    | fz d =>
      cases d with
      | int x =>
        obtain ⟨v, hv, r⟩ := E0.val i _ q (by simp)
        cases r
        refine ⟨.int x, hv, F, ε, E0, bs_do h fun s ε1 v H1 F1 a h1 => ?_⟩
        cases s with
        | un => exact h1.elim
        | ow _ => exact h1.elim
        | fz d =>
          cases d with
          | int y =>
            have rs := a.rs
            cases rs
            refine ⟨x, y, rfl, rfl, ?_⟩
            have a2 : Aft K σ ε F H F1 H1 ε1 (.int (g x y)) (.fz (.int (g x y))) := ⟨a.fs, a.eo, .int _, trivial, a.fr, trivial⟩
            exact h1 _ H1 F1 a2.fs (a2.eo.put a2.rs a2.ap) (keep_set hnp) a2.frmPut
          | _ => exact h1.elim
      | _ => exact h.elim
theorem ms_aug {i : Nat} {x : Str} {pos' : Pos} (hN : X.N.Nodup) (hi : X.N[i]? = some x) (hx : Loc X.env.scope x) (h : ME X W e f) (hnp : np ≤ i := by decide) (hf : X.fn x = true ∨ X.env.scope.names.lookup x = some .local := by first | exact .inl rfl | exact .inr rfl | assumption) :
    MS X W np (.AugAssign (.Name x pos') .Add e pos) (sAug (fun i j => i + j) i f) := PS.imp (ps_aug hN hi hx h ip_add hf) fun _ _ _ q => aug_ok hnp q

/-! ### sorted(xs), ints -/
def toInts : List D → Option (List Int)
  | [] => some []
  | .int i :: r => (toInts r).map (i :: ·)
  | _ :: _ => none
theorem toInts_ok {K : PySem.W.Frag} {F : Hp} : ∀ {vs : List V} {ds : List D} {ns : List Int}, RepL K F vs ds → toInts ds = some ns → vs = ns.map V.int
  | _, _, _, .nil, h => by cases h; rfl
  | _, _, ns, .cons (d := d) r0 rr, h => by
    cases d with
    | int i =>
      unfold toInts at h
      rw [Option.map_eq_some_iff] at h
      obtain ⟨z, hz, rfl⟩ := h
      cases r0
      rw [List.map_cons, ← toInts_ok rr hz]
    | _ => simp [toInts] at h
def sortI (ns : List Int) : List Int := ns.mergeSort fun i j => decide (i ≤ j)
theorem sortI_is {ns ns' : List Int} (p : ns'.Perm ns) (s : ns'.Pairwise (· ≤ ·)) : ns' = sortI ns := by
  refine List.Perm.eq_of_pairwise (le := (· ≤ ·)) (fun a b _ _ h1 h2 => Int.le_antisymm h1 h2) s ?_ (p.trans (List.mergeSort_perm ns _).symm)
  have q := List.pairwise_mergeSort (le := fun i j : Int => decide (i ≤ j)) (fun a b c h1 h2 => by simp at *; omega) (fun a b => by simp; omega) ns
  exact q.imp fun h => by simpa using h
def oSorted : D → Option Sl
  | .lst ds => (toInts ds).map fun ns => .ow (.lst ((sortI ns).map .int))
  | .rol ds => (toInts ds).map fun ns => .ow (.lst ((sortI ns).map .int))
  | _ => none
theorem rep_ints2 {K : PySem.W.Frag} {F : Hp} : ∀ ns : List Int, RepL K F (ns.map V.int) (ns.map D.int)
  | [] => .nil
  | n :: r => .cons (.int n) (rep_ints2 r)
theorem p_sorted {K : PySem.W.Frag} : PrimC K (rSortedI K) oSorted := by
  intro F H vx x s Q sm rx e g
  have fin : ∀ (a : Addr) (vs : List V) (ds : List D), vx = .ref a → SqL K H a vs → RepL K F vs ds → (toInts ds).map (fun ns => Sl.ow (.lst ((sortI ns).map .int))) = some s → rSortedI K [vx] H Q := fun a vs ds h1 h2 h3 h4 => by
    subst h1
    rw [Option.map_eq_some_iff] at h4
    obtain ⟨ns, hn, rfl⟩ := h4
    have ev := toInts_ok h3 hn
    subst ev
    refine ⟨a, ns, rfl, h2, fun ns' p pm so hp => ?_⟩
    have e2 := sortI_is pm so
    subst e2
    exact g.newO sm hp ⟨_, rfl, rep_ints2 _⟩
  cases x with
  | lst ds =>
    obtain ⟨a, vs, h1, h2, h3⟩ := rx.lst sm
    exact fin a vs ds h1 (.inl (.inl h2)) h3 e
  | rol ds =>
    obtain ⟨a, vs, h1, h2, h3⟩ := rx.rol sm
    exact fin a vs ds h1 h2 h3 e
  | _ => cases e

/-! ### list(range(n)) -/
def eLrg (f : FE) : FE := fun ε => bf (f ε) fun d ε1 => match d with
  | .int n => if 0 ≤ n ∧ n ≤ 16777216 then some (.v (.ow (.lst ((List.range n.toNat).map fun i => .int (i : Nat)))) ε1) else none
  | _ => none
theorem rep_rg {K : PySem.W.Frag} {F : Hp} : ∀ l : List Nat, RepL K F (l.map fun i => V.int (0 + (i : Nat))) (l.map fun i => D.int (i : Nat))
  | [] => .nil
  | i :: r => by
    have e : (0 : Int) + (i : Nat) = (i : Nat) := by omega
    simp only [List.map_cons]
    rw [e]
    exact .cons (.int _) (rep_rg r)
theorem me_lrg {q : Pos} (hc : X.calm = true) (hg : Gl X "list") (hm : X.mg "list" = none) (hg2 : Gl X "range") (hm2 : X.mg "range" = none) (ha : ME X W a fa) (na : starEach [a] X.env = (false, eval a X.env) :: starEach [] X.env := by rfl)
    (na2 : starEach [.Call (.Name "range" q) [a] [] apos] X.env = (false, eval (.Call (.Name "range" q) [a] [] apos) X.env) :: starEach [] X.env := by rfl) :
    ME X W (.Call (.Name "list" p) [.Call (.Name "range" q) [a] [] apos] [] pos) (eLrg fa) := by
  refine PE.imp (pe_listRg hc hg hm (prg_1 hg2 hm2 ha na) na2) fun σ H Q ⟨F, ε, E0, h⟩ => ?_
  show tM X.K W fa σ H _
  refine ⟨F, ε, E0, Do.bindF h fun d ε1 v H1 F1 a h1 => ?_⟩
  cases d with
  | int n =>
    have rp := a.rp
    cases rp
    simp only at h1
    split at h1
    · rename_i hn
      refine ⟨n, rfl, RgOk.of_le (by omega) hn.2 (by omega) hn.1, fun q hq => ?_⟩
      have gv := Do.gives a.eo h1
      refine gv.newO a.eo.sub hq ⟨_, rfl, ?_⟩
      have e : rgV 0 n = (List.range n.toNat).map fun i => V.int (0 + (i : Nat)) := by unfold rgV; rw [Int.sub_zero]
      rw [e]
      exact rep_rg _
    · exact h1.elim
  | _ => exact h1.elim
end
end Mi

namespace Mi
open PySem PySem.Spec PyProof.Rows L2
section
variable {X : Cx} {W : WX} {np : Nat} {e o a b : Expr} {f fo fa fb : FE} {pos p apos : Pos}
/-! ### f-strings -/
theorem me_fmtR (sy : SysIn X.K) (gd : X.A.guards = some []) (hu : X.A.units + 64 < cLine) (he : ME X W e f) : ME X W (.FormattedValue e 114 none pos) (e1 oRepr f) := by
  refine ⟨fun pins s σ H Q I h => ?_⟩
  refine wpAny_FormattedValue_repr (thn (he.run pins s σ H _ I (e1_ok p_repr h)) fun v s1 ⟨x, H1, I1, r1, q⟩ => ?_)
  obtain ⟨v0, d, pd, e0, rp, et, h1, h2, h3, q⟩ := q
  cases e0
  obtain ⟨as, rd, nm⟩ := rp.rd sy I1 et r1
  cases rd with
  | none => exact pyReprObj_none (wpAny_formatField_str ⟨.str "None", H1, I1.tok _, ⟨_, rfl⟩, q⟩ ⟨.str "None", H1, I1.tok _, ⟨_, rfl⟩, q⟩ h2)
  | bool b => exact pyReprObj_bool (wpAny_formatField_str ⟨.str _, H1, I1.tok _, ⟨_, rfl⟩, q⟩ ⟨.str _, H1, I1.tok _, ⟨_, rfl⟩, q⟩ h2)
  | int i t => exact pyReprObj_int (by simpa [PyData.showable] using h1) (wpAny_formatField_str ⟨.str _, H1, I1.tok _, ⟨_, rfl⟩, q⟩ ⟨.str _, H1, I1.tok _, ⟨_, rfl⟩, q⟩ h2)
  | str x t => exact pyReprObj_str (wpAny_formatField_str ⟨.str _, H1, I1.tok _, ⟨_, rfl⟩, q⟩ ⟨.str _, H1, I1.tok _, ⟨_, rfl⟩, q⟩ h2) h2
  | list a1 a2 a3 a4 => exact pyReprObj_of_reads (.list a1 a2 a3 a4) h1 (fun _ => nm) gd (by omega) (fun _ _ e => e) (fun h' u tk hk => wpAny_formatField_str ⟨.str _, H1, I1.kept (t' := tk) hk, ⟨_, rfl⟩, q⟩ ⟨.str _, H1, I1.kept (t' := tk + 1) hk, ⟨_, rfl⟩, q⟩ h2) h2
  | tuple a1 a2 a3 a4 => exact pyReprObj_of_reads (.tuple a1 a2 a3 a4) h1 (fun _ => nm) gd (by omega) (fun _ _ e => e) (fun h' u tk hk => wpAny_formatField_str ⟨.str _, H1, I1.kept (t' := tk) hk, ⟨_, rfl⟩, q⟩ ⟨.str _, H1, I1.kept (t' := tk + 1) hk, ⟨_, rfl⟩, q⟩ h2) h2
  | dict a1 a2 a3 a4 a5 => exact pyReprObj_of_reads (.dict a1 a2 a3 a4 a5) h1 (fun _ => nm) gd (by omega) (fun _ _ e => e) (fun h' u tk hk => wpAny_formatField_str ⟨.str _, H1, I1.kept (t' := tk) hk, ⟨_, rfl⟩, q⟩ ⟨.str _, H1, I1.kept (t' := tk + 1) hk, ⟨_, rfl⟩, q⟩ h2) h2
inductive FJ (X : Cx) (W : WX) : List Expr → List FE → Prop
  | nil : FJ X W [] []
  | cons {e : Expr} {f : FE} {es : List Expr} {fs : List FE} (h : ME X W e f) (r : FJ X W es fs) : FJ X W (e :: es) (f :: fs)
theorem FJ.pj {es : List Expr} {fs : List FE} (h : FJ X W es fs) : PJ X es (fs.map (tM X.K W)) := by
  induction h with
  | nil => exact .nil
  | cons h _ ih => exact .cons h ih
def fsL : List FE → Str → En → Option (R Sl)
  | [], acc, ε => some (.v (.fz (.str acc)) ε)
  | f :: fs, acc, ε => bf (f ε) fun d ε1 => match d with
    | .str y => if (acc ++ y).length ≤ sizeLine then fsL fs (acc ++ y) ε1 else none
    | _ => none
def eFs (fs : List FE) : FE := fsL fs Str.empty
theorem fs_ok {K : PySem.W.Frag} : ∀ (fs : List FE) (acc : Str) {σ : St} {H F : Hp} {ε : En} {Q : VK}, EOk K F H σ ε → Do K W σ ε F H (fsL fs acc ε) Q → tJs (fs.map (tM K W)) acc σ H fun out H1 => Q (.str out) H1
  | [], acc, σ, H, F, ε, Q, E0, h => h (.str acc) H F ⟨.refl _, E0, .str _, trivial, .refl, trivial⟩
  | f :: fs, acc, σ, H, F, ε, Q, E0, h => ⟨F, ε, E0, Do.bindF h fun d ε1 v H1 F1 a h1 => by
    cases d with
    | str y =>
      have rp := a.rp
      cases rp
      simp only at h1
      split at h1
      · rename_i hy
        exact ⟨y, rfl, hy, fs_ok fs (acc ++ y) a.eo h1⟩
      · exact h1.elim
    | _ => exact h1.elim⟩
theorem me_fs {v1 v2 : Expr} {rest : List Expr} {fs : List FE} (h : FJ X W (v1 :: v2 :: rest) fs) : ME X W (.JoinedStr (v1 :: v2 :: rest) pos) (eFs fs) :=
  PE.imp (pe_joined h.pj) fun σ H Q ⟨F, ε, E0, q⟩ => fs_ok fs Str.empty E0 q

/-! ### xs.index(y), a list of flat things -/
def idxV (y : V) : List V → Nat → Option Nat
  | [], _ => none
  | z :: r, n => if eqV z y then some n else idxV y r (n + 1)
theorem idxV_ok {y : V} : ∀ {zs : List V} {n j : Nat}, idxV y zs n = some j → ∃ k z, j = n + k ∧ zs[k]? = some z ∧ eqV z y = true ∧ ∀ (m : Nat) (z' : V), m < k → zs[m]? = some z' → eqV z' y = false
  | [], n, j, h => by cases h
  | z :: r, n, j, h => by
    unfold idxV at h
    by_cases q : eqV z y = true
    · rw [if_pos q] at h
      cases h
      exact ⟨0, z, rfl, rfl, q, fun m z' hm => by omega⟩
    · rw [if_neg q] at h
      obtain ⟨k, z', e, h1, h2, h3⟩ := idxV_ok h
      refine ⟨k + 1, z', by omega, h1, h2, fun m w hm hw => ?_⟩
      cases m with
      | zero => cases hw; simpa using q
      | succ m => exact h3 m w (by omega) hw
def lsts : D → Option (List D)
  | .lst ds => some ds
  | .rol ds => some ds
  | _ => none
def eIdx (fo fa : FE) : FE := fun ε => bf (fo ε) fun x ε1 => match lsts x with
  | none => none
  | some ds => bf (fa ε1) fun y ε2 => match toVs ds, toV y with
    | some vs, some w => (match idxV w vs 0 with
      | some j => some (.v (.fz (.int (j : Nat))) ε2)
      | none => none)
    | _, _ => none
theorem lsts_ok {K : PySem.W.Frag} {F : Hp} {x : D} {ds : List D} {v : V} (h : lsts x = some ds) (r : Rep K F v x) : ∃ a vs, v = .ref a ∧ SqL K F a vs ∧ RepL K F vs ds := by
  cases r with
  | lst e r => cases h; exact ⟨_, _, rfl, .inl (.inl e), r⟩
  | rol e r => cases h; exact ⟨_, _, rfl, e, r⟩
  | _ => cases h
theorem me_idx (ho : ME X W o fo) (ha : ME X W a fa) (hbase : attributeBase o "index" X.env (eval o X.env) = eval o X.env := by rfl)
    (hfew : ((backTo pos (starEach [a] X.env)).all (fun x => !x.1) && (backToKw pos (keywordEach [] X.env)).all (fun x => x.1.isSome)
      && decide ([a].length + ([] : List Keyword).length + (if ([] : List Keyword).isEmpty then 0 else 1) < 30)) = true := by rfl)
    (hline : (apos.endLine == pos.line) = true := by rfl) (hs : starEach [a] X.env = (false, eval a X.env) :: starEach [] X.env := by rfl) :
    ME X W (.Call (.Attribute o "index" apos) [a] [] pos) (eIdx fo fa) := by
  refine PE.imp (pe_bm PySem.F.plainAttrs_list PySem.F.slot_list_index PySem.F.type_list_index mt_index ho (pa_cons ha pa_nil hs) hbase hfew hline hs) fun σ H Q ⟨F, ε, E0, h⟩ => ?_
  refine ⟨F, ε, E0, Do.bindF h fun x ε1 v H1 F1 a h1 => ?_⟩
  cases q : lsts x with
  | none => rw [q] at h1; exact h1.elim
  | some ds =>
    rw [q] at h1
    obtain ⟨ad, vs, rfl, sq, rl⟩ := lsts_ok q a.rp
    refine ⟨.inl ⟨rfl, vs, sqL_up a.eo.sub sq⟩, F1, ε1, a.eo, Do.bindF h1 fun y ε2 v2 H2 F2 b h2 => ?_⟩
    cases q1 : toVs ds with
    | none => rw [q1] at h2; exact h2.elim
    | some ws =>
      cases q2 : toV y with
      | none => rw [q1, q2] at h2; exact h2.elim
      | some w =>
        rw [q1, q2] at h2
        simp only at h2
        cases q3 : idxV w ws 0 with
        | none => rw [q3] at h2; exact h2.elim
        | some j =>
          rw [q3] at h2
          obtain ⟨ev, fv⟩ := toVs_ok (rl.up b.fs) q1
          obtain ⟨ew, fw⟩ := toV_ok (H := H2) (Rep.a b.rp) q2
          subst ev ew
          obtain ⟨k, z, e1, e2, e3, e4⟩ := idxV_ok q3
          have e1 : j = k := by omega
          subst e1
          exact ⟨ad, vs, v2, j, z, rfl, rfl, sqL_up (b.fs.trans b.eo.sub) sq, fw, fv, e2, e3, e4, h2 _ H2 F2 (.here b.eo (.int _))⟩

/-! ### tuples that are known to be plain -/
/-- tuple(xs) -/
def oToPt : D → Option Sl
  | .lst ds => some (.fz (.ptp ds))
  | .rol ds => some (.fz (.ptp ds))
  | .ptp ds => some (.fz (.ptp ds))
  | .tup ds => some (.fz (.tup ds))
  | _ => none
def rPt (K : PySem.W.Frag) : List V → Hp → VK → Prop := fun xs H Q => ∃ p ys, xs = [.ref p] ∧ ((SqL K H p ys ∧ ∀ l ob, H l = none → PtO ob → Q (.ref l) (upd H l (.frz ob (.tup ys)))) ∨ (SqT K H p ys ∧ Q (.ref p) H))
theorem cr_toPt : CallR X (.type "tuple") (rPt X.K) := by
  intro pins s σ H xs us Q I r h
  obtain ⟨p, ys, rfl, h⟩ := h
  obtain ⟨u, rfl, rx⟩ := vals1 r
  cases rx
  rcases h with ⟨hq, q⟩ | ⟨hq, q⟩
  · obtain ⟨its, r', pl, hz⟩ := I.list hq
    have hlen := r'.length
    refine call_tuple_list pl.isList (fun h' kp => ?_) (by simp only [List.size_toArray] <;> omega)
    have I1 : Inv X pins σ H { s with heap := h' } := I.kept (t' := s.toks) kp
    have I2 : Inv X pins σ (upd H h'.objs.size (.frz { cls := .type "tuple", data := .seq its.toArray } (.tup ys))) { s with heap := h'.push { cls := .type "tuple", data := .seq its.toArray } } :=
      I1.laid (t' := s.toks) (fun b o e => Heap.get?_push_of_some _ e) (Nat.le_refl _) (show ObjOk X.prog X.w _ _ _ (.frz _ (.tup ys)) from ⟨Heap.get?_push_size _ rfl, hz, its, r', IsTup.new _ _⟩)
    exact ⟨.ref h'.objs.size, _, I2, rfl, q _ _ (I1.hok.fresh (Nat.le_refl _)) ⟨rfl, rfl⟩⟩
  · obtain ⟨its, r', pl, hz⟩ := I.tuple hq
    exact call_tuple_same pl ⟨.ref p, H, I, rfl, q⟩
theorem p_toPt {K : PySem.W.Frag} : PrimC K (rPt K) oToPt := by
  intro F H vx x s Q sm rx e g
  cases x with
  | lst ds =>
    cases e
    obtain ⟨a, vs, rfl, h2, h3⟩ := rx.lst sm
    exact ⟨a, vs, rfl, .inl ⟨.inl (.inl h2), fun l ob hl po => g.new sm hl fun F' s' e' => .ptp e' po (h3.up s')⟩⟩
  | rol ds =>
    cases e
    obtain ⟨a, vs, rfl, h2, h3⟩ := rx.rol sm
    exact ⟨a, vs, rfl, .inl ⟨h2, fun l ob hl po => g.new sm hl fun F' s' e' => .ptp e' po (h3.up s')⟩⟩
  | ptp ds =>
    cases e
    rcases rx with r | ⟨_, _, _, _, _, t⟩
    · have r0 := r
      cases r with
      | ptp e1 po rl => exact ⟨_, _, rfl, .inr ⟨.inl (.inr ⟨_, sm _ _ e1⟩), g.same sm r0⟩⟩
    · exact t.elim
  | tup ds =>
    cases e
    rcases rx with r | ⟨_, _, _, _, _, t⟩
    · have r0 := r
      cases r with
      | tup e1 rl => exact ⟨_, _, rfl, .inr ⟨sqT_up sm e1, g.same sm r0⟩⟩
    · exact t.elim
  | _ => cases e
/-- asked as it is -/
def e1R (op : D → Option Sl) (fa : FE) : FE := fun ε => bfR (fa ε) fun x ε1 => ret (op x) ε1
theorem e1R_ok {K : PySem.W.Frag} {σ : St} {H : Hp} {Q : VK} {r : V → Hp → VK → Prop} {op : D → Option Sl} (p : Prim1 K r op) (h : tM K W (e1R op fa) σ H Q) : tM K W fa σ H fun x H1 => r x H1 Q := by
  obtain ⟨F, ε, E0, h⟩ := h
  refine ⟨F, ε, E0, Do.bindFR h fun x ε1 v H1 F1 a h1 => ?_⟩
  obtain ⟨s, es, h2⟩ := ret_do h1
  exact p F1 H1 v x s Q a.eo.sub a.rp.a es (Do.gives a.eo h2)
theorem me_toPt (hg : Gl X "tuple") (hm : X.mg "tuple" = none) (ha : ME X W a fa) (hs : starEach [a] X.env = (false, eval a X.env) :: starEach [] X.env := by rfl) : ME X W (.Call (.Name "tuple" p) [a] [] pos) (e1R oToPt fa) :=
  PE.imp (pe_callTy cr_toPt hg hm (by decide +kernel) (pa_cons ha pa_nil hs) (he := hs)) fun _ _ _ h => e1R_ok p_toPt h
/-- t.index(x), t plain, of texts -/
def idxS (z : Str) : List Str → Nat → Option Nat
  | [], _ => none
  | y :: r, n => if y = z then some n else idxS z r (n + 1)
theorem idxS_ok {z : Str} : ∀ {ys : List Str} {n j : Nat}, idxS z ys n = some j → ∃ k, j = n + k ∧ ys[k]? = some z ∧ ∀ m, m < k → ys[m]? ≠ some z
  | [], n, j, h => by cases h
  | y :: r, n, j, h => by
    unfold idxS at h
    by_cases q : y = z
    · rw [if_pos q] at h
      cases h
      exact ⟨0, rfl, by rw [q]; rfl, fun m hm => by omega⟩
    · rw [if_neg q] at h
      obtain ⟨k, e, h1, h3⟩ := idxS_ok h
      refine ⟨k + 1, by omega, h1, fun m hm hw => ?_⟩
      cases m with
      | zero => cases hw; exact q rfl
      | succ m => exact h3 m (by omega) hw
def ePix (fo fa : FE) : FE := fun ε => bfR (fo ε) fun x ε1 => match x with
  | .ptp ds => bf (fa ε1) fun y ε2 => match txts ds, y with
    | some ys, .str z => (match idxS z ys 0 with
      | some j => some (.v (.fz (.int (j : Nat))) ε2)
      | none => none)
    | _, _ => none
  | _ => none
theorem me_pix (ho : ME X W o fo) (ha : ME X W a fa) (hbase : attributeBase o "index" X.env (eval o X.env) = eval o X.env := by rfl)
    (hfew : ((backTo pos (starEach [a] X.env)).all (fun x => !x.1) && (backToKw pos (keywordEach [] X.env)).all (fun x => x.1.isSome)
      && decide ([a].length + ([] : List Keyword).length + (if ([] : List Keyword).isEmpty then 0 else 1) < 30)) = true := by rfl)
    (hline : (apos.endLine == pos.line) = true := by rfl) (hs : starEach [a] X.env = (false, eval a X.env) :: starEach [] X.env := by rfl) :
    ME X W (.Call (.Attribute o "index" apos) [a] [] pos) (ePix fo fa) := by
  refine ⟨fun pins s σ H Q I h => ?_⟩
  obtain ⟨F, ε, E0, h⟩ := h
  have h' : tM X.K W fo σ H fun x H1 => ∃ ad ob vs F1 ds ε1, x = .ref ad ∧ F1 ad = some (.frz ob (.tup vs)) ∧ PtO ob ∧ RepL X.K F1 vs ds ∧ EOk X.K F1 H1 σ ε1 ∧ Do X.K W σ ε1 F1 H1 (bf (fa ε1) fun y ε2 => match txts ds, y with
      | some ys, .str z => (match idxS z ys 0 with
        | some j => some (.v (.fz (.int (j : Nat))) ε2)
        | none => none)
      | _, _ => none) Q := ⟨F, ε, E0, Do.bindFR h fun x ε1 v H1 F1 a h1 => by
    cases x with
    | ptp ds =>
      have rp := a.rp
      cases rp with
      | ptp e1 po rl => exact ⟨_, _, _, F1, ds, ε1, rfl, e1, po, rl, a.eo, h1⟩
    | _ => exact h1.elim⟩
  refine wpAny_Call_method_late hbase hfew hline rfl (thn (ho.run pins s σ H _ I h') fun v s1 ⟨x, H1, I1, r1, ad, ob, vs, F1, ds, ε1, ex, e1, po, rl, eo, h1⟩ => ?_)
  subst ex
  obtain rfl : v = Value.ref ad := r1
  obtain ⟨g1, g2⟩ := I1.hok ad _ (eo.sub _ _ e1)
  refine ⟨"tuple", "tuple.index", PySem.F.plainAttrs_tuple, PySem.F.slot_tuple_index, PySem.F.type_tuple_index, ⟨ob, g1, po.1⟩, fun a e => by cases e; exact ⟨ob, g1, po.2⟩, ?_⟩
  have hA := (pa_cons ha pa_nil hs).run pos pins s1 σ H1 (fun xs H2 => ∃ (z : Str) (j : Nat) (ys : List Str), xs = [.str z] ∧ vs = ys.map V.str ∧ ys[j]? = some z ∧ (∀ m, m < j → ys[m]? ≠ some z) ∧ H2 ad = some (.frz ob (.tup vs)) ∧ Q (.int (j : Nat)) H2) I1
    ⟨F1, ε1, eo, Do.bindF h1 fun y ε2 v2 H2 F2 b h2 => by
      cases q1 : txts ds with
      | none => rw [q1] at h2; exact h2.elim
      | some ys =>
        rw [q1] at h2
        cases y with
        | str z =>
          simp only at h2
          cases q3 : idxS z ys 0 with
          | none => rw [q3] at h2; exact h2.elim
          | some j =>
            rw [q3] at h2
            have rp := b.rp
            cases rp
            obtain ⟨k, z1, z2, z3⟩ := idxS_ok q3
            have z1 : j = k := by omega
            subst z1
            exact ⟨z, j, ys, rfl, txts_ok rl q1, z2, z3, b.eo.sub _ _ (b.fs _ _ e1), h2 _ H2 F2 (.here b.eo (.int _))⟩
        | _ => exact h2.elim⟩
  rw [hs] at hA ⊢
  refine Calls.callWith_builtin rfl (Calls.evalArgs_plain ?_)
  refine thn hA fun us s2 ⟨xs, H2, I2, r2, z, j, ys, e2, e3, e4, e5, e6, q2⟩ => ?_
  subst e2
  exact mt_tup_index pins s2 σ H2 (.ref ad) [.str z] (.ref ad) us Q I2 rfl r2 ⟨ad, ys, z, j, rfl, rfl, .inl (.inr ⟨ob, by rw [← e3]; exact e6⟩), e4, e5, q2⟩
end
end Mi

namespace Mi
open PySem PySem.Spec PyProof.Rows L2 LamX
theorem call_lawT {P : Program} {w : World} {K : PySem.W.Frag} {mg mb : Str → Option Value} {u : Bool} {k : Nat} {fa a : Addr} {cs : List (Addr × Addr)} {fd : FuncData} {x : Str} {sp : Sp} {s₁ : Shared} {vs : List Value} {ns : List Int}
    (KX : K.In s₁.heap) (hns : s₁.heap.Ns mainGlobals mg) (hb : s₁.heap.Ns builtinsNs mb) (hbb : ∀ x : Str, x ≠ "__name__" → mb x = bootBuiltins x) (hlim : s₁.heap.NoLimit) (hg : s₁.gens = #[])
    (hT : ∀ p ∈ cs, s₁.heap.get? p.2 = some { cls := .none, data := .fields #[] }) (nT : ∀ p ∈ cs, K.lookup p.2 = none) (C : ∀ p ∈ cs, PySem.W.CodeHd s₁.heap p.1 p.2)
    (hbm : ∃ (bm : Addr) (ob : Obj), mg "__builtins__" = some (.ref bm) ∧ bm ≠ builtinsNs ∧ s₁.heap.get? bm = some ob ∧ ob.cls = .type "module" ∧ ob.dict = some builtinsNs ∧ ob.data = .plain)
    (ha : s₁.heap.get? a = some { cls := .type "list", data := .seq vs.toArray }) (hi : IntsAre vs ns) (hl : ns.length ≤ sizeLine) (hr : Room k callerA)
    (F : ∀ base : Heap, K.In base → base.Ns mainGlobals mg → (∀ p ∈ cs, TabB base mg p.1 p.2) → FnG P w K mg base u k fa fd [x] sp) (hbind : ∀ (s : Shared) (u : Value), BindsTo s fd ⟨[u], []⟩ [(x, u)])
    (hsp : ∀ H : Hp, (∀ p ∈ cs, H p.2 = some (.tbl #[])) → SqL K H a (ns.map V.int) → sp [.ref a] H (fun v _ => v = .bl true) fun _ _ _ => False) :
    codeAny (model P w) callerA (.call (.ref fa) ⟨[.ref a], []⟩) (fun r s' => r = .ok (.ret (.bool true)) ∧ OldK s₁.heap s'.heap ∧ s'.os = s₁.os ∧ AllBare s'.gens) s₁ := by
  have rv := vals_ints hi
  have lenV := hi.length
  have isT : ∀ b : Addr, b ∈ cs.map (·.2) → s₁.heap.get? b = some { cls := .none, data := .fields #[] } := fun b hb => by
    obtain ⟨p, hp, e⟩ := List.mem_map.mp hb
    rw [← e]
    exact hT p hp
  have aT : a ∉ cs.map (·.2) := fun z => by
    have q := isT a z
    rw [ha] at q
    have z' : Data.seq vs.toArray _ = Data.fields #[] := congrArg Obj.data (Option.some.inj q)
    cases z'
  have memT : ∀ p ∈ cs, p.2 ∈ cs.map (·.2) := fun p hp => List.mem_map.mpr ⟨p, hp, rfl⟩
  -- from an abstract heap in which nothing but the script and the tables may be tracked
  have core : ∀ H : Hp, (∀ p ∈ cs, H p.2 = some (.tbl #[])) → (∀ b, H b = none ∨ b ∈ cs.map (·.2) ∨ ∃ o xs, H b = some (.frz o (.lst xs))) → SqL K H a (ns.map V.int) → HOk P w H s₁.heap → (∀ b, H b ≠ none → b = a ∨ b ∈ cs.map (·.2)) → (H a ≠ none → K.lookup a = none) →
      codeAny (model P w) callerA (.call (.ref fa) ⟨[.ref a], []⟩) (fun r s' => r = .ok (.ret (.bool true)) ∧ OldK s₁.heap s'.heap ∧ s'.os = s₁.os ∧ AllBare s'.gens) s₁ := by
    intro H hH hO hS hok hA hK
    have base_of : ∀ {b : Addr} {o : Obj}, s₁.heap.get? b = some o → H b = none → (hidT s₁.heap H).get? b = some o := fun e n => hidT_get e n
    have noD : ∀ {b : Addr} {o : Obj}, s₁.heap.get? b = some o → (∀ vs n, o.data ≠ .seq vs n) → o.data ≠ .fields #[] → H b = none := fun {b o} e h1 h2 => by
      cases q : H b with
      | none => rfl
      | some u =>
        rcases hA b (by rw [q]; simp) with e' | e'
        · rw [e', ha] at e
          cases e
          exact (h1 _ _ rfl).elim
        · rw [isT b e'] at e
          cases e
          exact (h2 rfl).elim
    have noA : ∀ {b : Addr} {o : Obj} {es : Array DictEntry} {ep : Nat}, s₁.heap.get? b = some o → o.data = .dict es ep → H b = none := fun {b o es ep} e d => by
      refine noD e (fun vs n z => ?_) fun z => ?_
      · rw [d] at z
        cases z
      · rw [d] at z
        cases z
    have nsK : ∀ {b : Addr} {m : Str → Option Value}, s₁.heap.Ns b m → (hidT s₁.heap H).Ns b m := fun {b m} ⟨o, es, ep, e, d, r⟩ => ⟨o, es, ep, base_of e (noA e d), d, r⟩
    have hKb : K.In (hidT s₁.heap H) := fun b o e => base_of (KX b o e) (by
      cases q : H b with
      | none => rfl
      | some u =>
        rcases hA b (by rw [q]; simp) with e' | e'
        · rw [e'] at e q
          rw [hK (by rw [q]; simp)] at e
          cases e
        · obtain ⟨p, hp, ep⟩ := List.mem_map.mp e'
          rw [← ep, nT p hp] at e
          cases e)
    have hM : L2.Mod K mg (hidT s₁.heap H) := ⟨hKb, nsK hns, ⟨mb, nsK hb, hbb⟩, let ⟨mc, h1, h2⟩ := hlim; ⟨mc, nsK h1, h2⟩⟩
    have TB : ∀ p ∈ cs, TabB (hidT s₁.heap H) mg p.1 p.2 := fun p hp => by
      have hTp := hT p hp
      refine ⟨?_, ?_, fun z => ?_⟩
      · obtain ⟨o, us, file, tf, flags, tg, inF, text, tt, e1, r1, r2, r3, r4, r5, r6, r7, r8, hne⟩ := C p hp
        refine ⟨o, us, file, tf, flags, tg, inF, text, tt, base_of e1 (noD e1 (fun vs n z => ?_) fun z => ?_), r1, r2, r3, r4, r5, r6, r7, r8, hne⟩
        · rw [r2] at z
          cases z
        · rw [r2] at z
          cases z
          simp at r3
      · obtain ⟨bm, ob, b1, b2, b3, b4, b5, b6⟩ := hbm
        have nG : bm ≠ mainGlobals := fun q => by
          obtain ⟨o, es, ep, e, hd, _⟩ := hns
          rw [q, e] at b3
          cases b3
          rw [hd] at b6
          cases b6
        have nP : bm ≠ p.2 := fun q => by
          rw [q, hTp] at b3
          cases b3
          cases b6
        refine ⟨bm, ob, b1, b2, nG, nP, base_of b3 (noD b3 (fun vs n z => ?_) fun z => ?_), b4, b5, b6⟩
        · rw [b6] at z
          cases z
        · rw [b6] at z
          cases z
      · obtain ⟨o, es, ep, e, hd, _⟩ := hns
        rw [z, hTp] at e
        cases e
        cases hd
    have e0 : Env0 P w K mg (hidT s₁.heap H) callerA [] s₁ H := ⟨rfl, hM, fun b o e => of_hidT e, Nat.le_of_eq (hidT_size _ _), trivial, fun b hb => absurd (show b ∈ ([] : List Addr) from hb) (by simp), hok, .of_eq hg⟩
    refine codeAny_mono ((F _ hKb (nsK hns) TB).run callerA [] s₁ H ⟨[.ref a], []⟩ [.ref a] [.ref a] _ _ hr (fun _ => rfl) e0 (hbind s₁ (.ref a)) (.cons rfl .nil) (hsp H hH hS)) fun r s' h => ?_
    cases r with
    | error e =>
      have z : L2.CX P w [] H s₁ (fun _ _ _ => False) e s' := h
      obtain ⟨_, _, _, _, _, _, _, _, _, _, _, _, y⟩ := z
      first | exact y.elim | simp at y
    | ok fl =>
      cases fl with
      | next => exact False.elim h
      | brk => exact False.elim h
      | cont => exact False.elim h
      | ret u =>
        obtain ⟨v, H', os, bare, un, hok', r', q⟩ := h
        have q' : v = .bl true := q
        subst q'
        obtain rfl : u = Value.bool true := r'
        have key : ∀ b o, b ∉ cs.map (·.2) → s₁.heap.get? b = some o → s'.heap.get? b = some o := fun b o nb e => by
          cases q : H b with
          | none => exact un.keep b o e q (by intro z; exact absurd (show b ∈ ([] : List Addr) from z) (by simp)) (by simp)
          | some u =>
            rcases hO b with z | z | ⟨ob, xs, z⟩
            · rw [q] at z; cases z
            · exact absurd z nb
            · have z2 := un.frzs b ob _ z
              obtain ⟨e1, _⟩ := hok b _ z
              obtain ⟨e2, _⟩ := hok' b _ z2
              rw [e] at e1; cases e1
              exact e2
        have grown : ∀ p ∈ cs, ∃ more : Array Value, s'.heap.get? p.2 = some { cls := .none, data := .fields more } := fun p hp => by
          obtain ⟨more, z⟩ := un.tbls p.2 #[] (hH p hp)
          exact ⟨_, hok' p.2 _ z⟩
        refine ⟨rfl, ⟨fun b o e => ?_, fun b o e => ?_⟩, os, bare⟩
        · by_cases hb : b ∈ cs.map (·.2)
          · obtain ⟨p, hp, ep⟩ := List.mem_map.mp hb
            obtain ⟨more, hm⟩ := grown p hp
            rw [← ep] at e ⊢
            rw [hT p hp] at e
            cases e
            exact .inr (.inl ⟨((C p hp).tab (hT p hp)).isCodeTable, rfl, #[], more, rfl, by rw [Array.empty_append]; exact hm⟩)
          · exact .inl (key b o hb e)
        · by_cases hb : b ∈ cs.map (·.2)
          · obtain ⟨p, hp, ep⟩ := List.mem_map.mp hb
            obtain ⟨more, hm⟩ := grown p hp
            rw [← ep]
            exact ⟨_, hm⟩
          · exact ⟨o, key b o hb e⟩
  cases hk : K.lookup a with
  | some o =>
    have e := KX a o hk
    rw [ha] at e
    cases e
    refine core (fun b => if b ∈ cs.map (·.2) then some (.tbl #[]) else none) (fun p hp => if_pos (memT p hp)) (fun b => ?_) (.inr ⟨_, vs.toArray, _, hk, rfl, rfl, rfl, by rw [List.size_toArray, lenV]; exact hl, by simpa using rv⟩) (fun b u z => ?_) (fun b z => ?_) fun z => absurd (show (if a ∈ cs.map (·.2) then some (HO.tbl #[]) else none) = none from if_neg aT) z
    · by_cases hb : b ∈ cs.map (·.2)
      · exact .inr (.inl hb)
      · exact .inl (if_neg hb)
    · by_cases hb : b ∈ cs.map (·.2)
      · have z' := (if_pos hb).symm.trans z
        cases z'
        exact isT b hb
      · have z' := (if_neg hb).symm.trans z
        cases z'
    · by_cases hb : b ∈ cs.map (·.2)
      · exact .inr hb
      · exact absurd (if_neg hb) z
  | none =>
    refine core (fun b => if b = a then some (.frz { cls := .type "list", data := .seq vs.toArray } (.lst (ns.map V.int))) else if b ∈ cs.map (·.2) then some (.tbl #[]) else none) (fun p hp => (if_neg (show ¬ p.2 = a from fun z => aT (by rw [← z]; exact memT p hp))).trans (if_pos (memT p hp))) (fun b => ?_)
      (.inl (.inr ⟨{ cls := .type "list", data := .seq vs.toArray }, if_pos rfl⟩)) (fun b u z => ?_) (fun b z => ?_) fun _ => hk
    · by_cases hb : b = a
      · exact .inr (.inr ⟨_, _, if_pos hb⟩)
      · by_cases hb2 : b ∈ cs.map (·.2)
        · exact .inr (.inl hb2)
        · exact .inl ((if_neg hb).trans (if_neg hb2))
    · by_cases hb : b = a
      · have z' := (if_pos hb).symm.trans z
        cases z'
        rw [hb]
        exact ⟨ha, by rw [List.length_map]; exact hl, vs, _, rv, ha⟩
      · have z1 := (if_neg hb).symm.trans z
        by_cases hb2 : b ∈ cs.map (·.2)
        · have z' := (if_pos hb2).symm.trans z1
          cases z'
          exact isT b hb2
        · have z' := (if_neg hb2).symm.trans z1
          cases z'
    · by_cases hb : b = a
      · exact .inl hb
      · by_cases hb2 : b ∈ cs.map (·.2)
        · exact .inr hb2
        · exact absurd ((if_neg hb).trans (if_neg hb2)) z

theorem walk_lawT {l : PySem.W.OpenLaw} {n k : Nat} {q : Program} {loose : List Str} {XP : (Str → Option Value) → Heap → Prop} {YP : World → Heap → Prop} {d : DefRec} {u : Bool} {x : Str} (hn : l.most = some n) (hn2 : n ≤ sizeLine) (hdf : d.params.defaults = []) (hr : Room k callerA)
    (F : ∀ (w : World) (mg : Str → Option Value) (fa : Addr) (h : Heap), YP w h → h.Ns mainGlobals mg → mg d.name = some (.ref fa) →
      ∃ (K : PySem.W.Frag) (fd : FuncData) (cs : List (Addr × Addr)) (sp : Sp), K.In h ∧ (∀ p ∈ cs, h.get? p.2 = some { cls := .none, data := .fields #[] }) ∧ (∀ p ∈ cs, K.lookup p.2 = none) ∧ (∀ p ∈ cs, PySem.W.CodeHd h p.1 p.2) ∧ (∀ (s : Shared) (v : Value), BindsTo s fd ⟨[v], []⟩ [(x, v)]) ∧
        (∀ (H : Hp) (a : Addr) (ns : List Int), ns.length ≤ n → (∀ p ∈ cs, H p.2 = some (.tbl #[])) → SqL K H a (ns.map V.int) → sp [.ref a] H (fun v _ => v = .bl true) fun _ _ _ => False) ∧
        ∀ base : Heap, K.In base → base.Ns mainGlobals mg → (∀ p ∈ cs, TabB base mg p.1 p.2) → FnG l.prog w K mg base u k fa fd [x] sp) : PySem.W.WalkO q loose XP YP l.row.toRowW d [] (fun f vs => PySem.call f vs) := by
  refine Att.attach_call hn hdf fun w s0 s1 mg mb fa o pm cd doc a vs ns G Y ho hd hcd hmg hobj hints hlen hg => ?_
  obtain ⟨K, fd, cs, sp, KX, hT, nT, C, hb, hsp, hF⟩ := F w mg fa _ Y G.T.g hmg
  exact call_lawT KX G.T.g G.T.b G.T.builtins G.T.nolimit hg hT nT C G.T.bmain hobj hints (Nat.le_trans hlen hn2) hr hF hb fun H hH hS => hsp H a ns hlen hH hS
end Mi

namespace Mi
open PySem PySem.Spec PyProof.Rows L2 LamX
open Classical in
/-- the heap without its tables -/
noncomputable def noTabs (H : Hp) : Hp := fun b => if ∃ ps, H b = some (.tbl ps) then none else H b
theorem noTabs_same {H : Hp} : Same (noTabs H) H := fun b o e => by
  unfold noTabs at e
  split at e
  · cases e
  · exact e
theorem noTabs_at {H : Hp} {b : Addr} {o : HO} (e : H b = some o) (n : ∀ ps, o ≠ .tbl ps) : noTabs H b = some o := by
  unfold noTabs
  rw [if_neg (fun ⟨ps, z⟩ => by rw [e] at z; exact n ps (Option.some.inj z))]
  exact e
theorem rep_ints' {K : PySem.W.Frag} {F : Hp} : ∀ ns : List Int, RepL K F (ns.map V.int) (ns.map D.int)
  | [] => .nil
  | i :: ns => .cons (.int i) (rep_ints' ns)
theorem start_ok {K : PySem.W.Frag} {H : Hp} {a : Addr} {ns : List Int} (hT : ∀ p ∈ lamCs K, H p.2 = some (.tbl #[])) (hS : SqL K H a (ns.map V.int)) : EOk K (noTabs H) H [some (.ref a)] [.fz (.rol (ns.map D.int))] := by
  have hS' : SqL K (noTabs H) a (ns.map V.int) := by
    rcases hS with (h | ⟨o, h⟩) | h
    · exact .inl (.inl (noTabs_at h fun ps z => by cases z))
    · exact .inl (.inr ⟨o, noTabs_at h fun ps z => by cases z⟩)
    · exact .inr h
  refine ⟨noTabs_same, rfl, fun i s h n => ?_, fun i j d d' v h1 => ?_, fun p hp => ?_, fun b ps e => ?_⟩
  · cases i with
    | zero => cases h; exact ⟨.ref a, rfl, .rol hS' (rep_ints' ns)⟩
    | succ i => simp at h
  · cases i with
    | zero => cases h1
    | succ i => simp at h1
  · obtain ⟨x, hx, e⟩ := List.mem_filterMap.mp hp
    rw [Option.map_eq_some_iff] at e
    obtain ⟨q, e1, rfl⟩ := e
    exact TabS.nil (hT q (List.mem_filterMap.mpr ⟨x, hx, e1⟩))
  · unfold noTabs at e
    split at e
    · cases e
    · rename_i h
      exact h ⟨ps, e⟩
theorem law_sp {K : PySem.W.Frag} {H : Hp} {a : Addr} {ns : List Int} {Fl : FD} (hT : ∀ p ∈ lamCs K, H p.2 = some (.tbl #[])) (hS : SqL K H a (ns.map V.int)) (hF : ∃ ε, Fl [.fz (.rol (ns.map D.int))] = some (.v (.fz (.bl true)) ε)) :
    spM K 1 Fl [.ref a] H (fun v _ => v = .bl true) fun _ _ _ => False := by
  obtain ⟨ε, e⟩ := hF
  refine ⟨rfl, noTabs H, [.fz (.rol (ns.map D.int))], start_ok hT hS, ?_⟩
  rw [e]
  intro v H' F' av
  have r := av.rs
  cases r
  rfl
structure LamOk (K : PySem.W.Frag) (xs : List Str) : Prop where
  at_ : ∀ x ∈ xs, x ∈ lamNames ∧ ∃ c P, codeOf K x = some (c, P)
  hd : ∀ p ∈ lamCs K, PySem.W.codeHdIn K p.1 p.2 = true ∧ K.lookup p.2 = none
  nd : ((lamT K).map (·.1)).Nodup
theorem lamB_ok {K : PySem.W.Frag} {xs : List Str} (h : lamB K xs = true) : LamOk K xs := by
  unfold lamB at h
  simp only [Bool.and_eq_true, List.all_eq_true, decide_eq_true_eq, Option.isNone_iff_eq_none, Option.isSome_iff_exists, List.contains_iff_mem] at h
  obtain ⟨⟨h1, h2⟩, h3⟩ := h
  refine ⟨fun x hx => ?_, h2, h3⟩
  obtain ⟨a, ⟨c, P⟩, e⟩ := h1 x hx
  exact ⟨a, c, P, e⟩
theorem clB_ok {K : PySem.W.Frag} {cs : List Str} (h : clB K cs = true) : CAll K cs := fun c hc => by
  have z := List.all_eq_true.mp h c hc
  simp only [Bool.and_eq_true] at z
  exact ⟨z.1.1.1, z.1.1.2, z.1.2, He.eqO_ok z.2⟩
theorem mkB_ok {K : PySem.W.Frag} {cs : List Str} (h : mkB K cs = true) {c : Str} (hc : c ∈ cs) : Mk K (He.ga K c) (He.fAd K (c, some "__init__")) := by
  have z := List.all_eq_true.mp h c hc
  simp only [Bool.and_eq_true] at z
  exact ⟨z.1.1.1, He.eqO_ok z.1.1.2, z.1.2, z.2⟩
theorem cfB_ok {K : PySem.W.Frag} {c : Str} (h : cfB K c = true) (cl : Cls K (He.ga K c)) : ClF K c := by
  unfold cfB at h
  simp only [Bool.and_eq_true, List.all_eq_true, decide_eq_true_eq] at h
  exact ⟨h.1.1, cl, h.1.2, h.2⟩
theorem exB_ok {K : PySem.W.Frag} {t : Str} {tb : List (Str × Bool)} (h : exB K t tb = true) : ∀ c b, tb.lookup c = some b → PySem.W.exmOne K (.ref (He.ga K c)) (.ref (He.ga K t)) = some b := fun c b e => of_decide_eq_true (List.all_eq_true.mp h _ (lookup_mem e))
end Mi

namespace Mi
open PySem PySem.Spec PyProof.Rows L2
/-! ### comparisons that leave the names' things as they are -/
section
variable {X : Cx} {W : WX} {a b : Expr} {fa fb : FE} {pos : Pos} {i j : Nat} {co : CmpOp} {r : R2} {op : D → D → Option Sl}
theorem me_cmpNN (ho : OpR X (compareOp co) r) (p : Prim2 X.K r op) (ha : PE X a (tVar i)) (hb : PE X b (tVar j)) (hm : behindInMarks co b = false) : ME X W (.Compare a [co] [b] pos) (e2nn op i j) :=
  PE.imp (pe_cmpR ho ha hb hm) fun _ _ _ h => e2nn_ok p h
theorem mt_cmpNN (ho : OpR X (compareOp co) r) (p : Prim2 X.K r op) (ha : PE X a (tVar i)) (hb : PE X b (tVar j)) (hm : behindInMarks co b = false) : MT X W (.Compare a [co] [b] pos) (bB (e2nn op i j)) :=
  PT.imp (pt_cmpR ho ha hb hm) fun _ _ _ h => e2nn_ok p (bB_ok h)
theorem me_cmpLN (ho : OpR X (compareOp co) r) (p : Prim2 X.K r op) (ha : PE X a (tVar i)) (hb : ME X W b fb) (hm : behindInMarks co b = false) : ME X W (.Compare a [co] [b] pos) (e2n op i fb) :=
  PE.imp (pe_cmpR ho ha hb hm) fun _ _ _ h => e2n_ok p h
theorem mt_cmpLN (ho : OpR X (compareOp co) r) (p : Prim2 X.K r op) (ha : PE X a (tVar i)) (hb : ME X W b fb) (hm : behindInMarks co b = false) : MT X W (.Compare a [co] [b] pos) (bB (e2n op i fb)) :=
  PT.imp (pt_cmpR ho ha hb hm) fun _ _ _ h => e2n_ok p (bB_ok h)
theorem me_eqNN (hu : X.A.units + 64 < cLine) (ha : PE X a (tVar i)) (hb : PE X b (tVar j)) : ME X W (.Compare a [.Eq] [b] pos) (e2nn oEq i j) := me_cmpNN (OpR.or (op_eqD hu) op_eq) p_eq ha hb (nomark _)
theorem mt_eqNN (hu : X.A.units + 64 < cLine) (ha : PE X a (tVar i)) (hb : PE X b (tVar j)) : MT X W (.Compare a [.Eq] [b] pos) (bB (e2nn oEq i j)) := mt_cmpNN (OpR.or (op_eqD hu) op_eq) p_eq ha hb (nomark _)
theorem me_neNN (hu : X.A.units + 64 < cLine) (ha : PE X a (tVar i)) (hb : PE X b (tVar j)) : ME X W (.Compare a [.NotEq] [b] pos) (e2nn oNe i j) := me_cmpNN (OpR.or (op_neD hu) op_ne) p_ne ha hb (nomark _)
theorem mt_neNN (hu : X.A.units + 64 < cLine) (ha : PE X a (tVar i)) (hb : PE X b (tVar j)) : MT X W (.Compare a [.NotEq] [b] pos) (bB (e2nn oNe i j)) := mt_cmpNN (OpR.or (op_neD hu) op_ne) p_ne ha hb (nomark _)
theorem me_eqLN (hu : X.A.units + 64 < cLine) (ha : PE X a (tVar i)) (hb : ME X W b fb) : ME X W (.Compare a [.Eq] [b] pos) (e2n oEq i fb) := me_cmpLN (OpR.or (op_eqD hu) op_eq) p_eq ha hb (nomark _)
theorem mt_eqLN (hu : X.A.units + 64 < cLine) (ha : PE X a (tVar i)) (hb : ME X W b fb) : MT X W (.Compare a [.Eq] [b] pos) (bB (e2n oEq i fb)) := mt_cmpLN (OpR.or (op_eqD hu) op_eq) p_eq ha hb (nomark _)
theorem me_neLN (hu : X.A.units + 64 < cLine) (ha : PE X a (tVar i)) (hb : ME X W b fb) : ME X W (.Compare a [.NotEq] [b] pos) (e2n oNe i fb) := me_cmpLN (OpR.or (op_neD hu) op_ne) p_ne ha hb (nomark _)
theorem mt_neLN (hu : X.A.units + 64 < cLine) (ha : PE X a (tVar i)) (hb : ME X W b fb) : MT X W (.Compare a [.NotEq] [b] pos) (bB (e2n oNe i fb)) := mt_cmpLN (OpR.or (op_neD hu) op_ne) p_ne ha hb (nomark _)
end
/-! ### what the head tells of methods and properties -/
theorem mtB_ok {K : PySem.W.Frag} {c m : Str} (h : mtB K c m = true) : Meth K (He.ga K c) m (He.fAd K (c, some m)) ∧ PySem.W.fnIn K (He.fAd K (c, some m)) = true := by
  unfold mtB at h
  simp only [Bool.and_eq_true] at h
  exact ⟨⟨He.eqO_ok h.1.1.1, h.1.1.2, h.1.2⟩, h.2⟩
theorem neB_ok {K : PySem.W.Frag} {c : Str} (h : neB K c = true) : NeF K c := by
  unfold neB at h
  simp only [Bool.and_eq_true, decide_eq_true_eq] at h
  exact ⟨h.2, He.eqO_ok h.1⟩
theorem prB_ok {K : PySem.W.Frag} {d : He.DefD} {c m : Str} (hd : d.at_ = (c, some m)) (h : prB K d = true) : PropOf K (He.ga K c) m (He.fAd K (c, some m)) (prAd K (c, some m)) := by
  unfold prB at h
  rw [hd] at h
  simp only [Bool.and_eq_true, decide_eq_true_eq] at h
  obtain ⟨⟨⟨⟨_, h2⟩, h3⟩, h4⟩, h5⟩ := h
  refine ⟨He.eqO_ok h2, h3, h4, ?_⟩
  unfold prAd
  revert h5
  cases PySem.W.recIn K (He.fAd K (c, some m)) "property" with
  | none => intro h5; cases h5
  | some l =>
    cases l with
    | nil => intro h5; cases h5
    | cons x r =>
      cases x <;> first | (intro h5; cases h5; done) | exact fun _ => ⟨r, rfl⟩
end Mi

namespace Law
open PySem PySem.Spec PyProof.Rows L2 Mi
structure Bl (mg : Str → Option Value) : Prop where
  abs : mg "abs" = none
  all : mg "all" = none
  bool : mg "bool" = none
  divmod : mg "divmod" = none
  enumerate : mg "enumerate" = none
  int : mg "int" = none
  isinstance : mg "isinstance" = none
  len : mg "len" = none
  list : mg "list" = none
  max : mg "max" = none
  min : mg "min" = none
  range : mg "range" = none
  repr : mg "repr" = none
  sorted : mg "sorted" = none
  str : mg "str" = none
  tuple : mg "tuple" = none
structure Gc (mg : Str → Option Value) : Prop where
  LETTERS : ∃ t, mg "LETTERS" = some (.str "abcdefghijklmnopqrstuvwxyz" t)
  LONGEST_NAME : ∃ t, mg "LONGEST_NAME" = some (.int 8 t)
  GREATEST_ANSWER : ∃ t, mg "GREATEST_ANSWER" = some (.int 9 t)
  MOST_DEEDS : ∃ t, mg "MOST_DEEDS" = some (.int 4 t)
  MOST_STATES : ∃ t, mg "MOST_STATES" = some (.int 8 t)
structure Kx (P : Program) (w : World) (K : PySem.W.Frag) (mg : Str → Option Value) (base : Heap) : Prop where
  sy : SysIn K
  ob : ObC K
  xa : XAll K cs
  ca : CAll K csI
  nf_position : ∀ c ∈ cs, PySem.W.findIn K (.ref (He.ga K c)) "position" = some none
  nf_value : ∀ c ∈ cs, PySem.W.findIn K (.ref (He.ga K c)) "value" = some none
  nf_own_deeds : ∀ c ∈ csI, PySem.W.findIn K (.ref (He.ga K c)) "own_deeds" = some none
  nf_own_rows : ∀ c ∈ csI, PySem.W.findIn K (.ref (He.ga K c)) "own_rows" = some none
  ex_InvalidDeed : ∀ c b, tx_InvalidDeed.lookup c = some b → PySem.W.exmOne K (.ref (He.ga K c)) (.ref (He.ga K "InvalidDeed")) = some b
  ex_InvalidWord : ∀ c b, tx_InvalidWord.lookup c = some b → PySem.W.exmOne K (.ref (He.ga K c)) (.ref (He.ga K "InvalidWord")) = some b
  cf_Parts : ClF K "Parts"
  cf_Thing : ClF K "Thing"
  g_InvalidDeed : mg "InvalidDeed" = some (.ref (He.ga K "InvalidDeed"))
  g_InvalidWord : mg "InvalidWord" = some (.ref (He.ga K "InvalidWord"))
  g_Parts : mg "Parts" = some (.ref (He.ga K "Parts"))
  g_Thing : mg "Thing" = some (.ref (He.ga K "Thing"))
  m_InvalidDeeds : XM P w K mg base 1 "InvalidDeeds" ["position"]
  m_InvalidRows : XM P w K mg base 1 "InvalidRows" ["position"]
  m_InvalidState : XM P w K mg base 1 "InvalidState" ["value"]
  m_InvalidDeed : XM P w K mg base 1 "InvalidDeed" ["value"]
  m_InvalidWord : XM P w K mg base 1 "InvalidWord" ["position"]
  m_TooMany : XM P w K mg base 1 "TooMany" ["what", "limit"]
  ne_Thing : NeF K "Thing"
section
variable {P : Program} {w : World} {K : PySem.W.Frag} {mg : Str → Option Value} {base : Heap} {f fI : Addr} {fd : FuncData}
theorem xs_InvalidDeeds : FnScope ["self", "position"] ["self", "position"] (defScope (inClass (top 3) 0)) := ⟨rfl, rfl, rfl, by decide +kernel, rfl, by decide +kernel, by decide +kernel⟩
theorem m_InvalidDeeds (D : FunD K "__init__" "InvalidDeeds.__init__" (defArgs (inClass (top 3) 0)) (defBody (inClass (top 3) 0)) (defScope (inClass (top 3) 0)) [] [] fI fd) (T : XC K (He.ga K "InvalidDeeds") "ValueError.__new__" (tlOf "ValueError")) (J : XIn K (He.ga K "SettleError") "ValueError.__init__") (hb : mg "SettleError" = some (.ref (He.ga K "SettleError"))) (hm : mg "InvalidDeeds" = some (.ref (He.ga K "InvalidDeeds")))
    (iC : PySem.W.findIn K (.ref (He.ga K "InvalidDeeds")) "__init__" = some (some (.ref fI))) (tI : PySem.W.typeIn K (.ref fI) = some (.type "function")) (n_position : PySem.W.findIn K (.ref (He.ga K "InvalidDeeds")) "position" = some none) : XM P w K mg base 1 "InvalidDeeds" ["position"] := by
  have S := xs_InvalidDeeds
  have G : FnG P w K mg base false 1 fI fd ["self", "position"] (spI (He.ga K "InvalidDeeds") ["position"]) := fnG_of D S (spI_len rfl) fun cv A out st H vs Q E rm gd h =>
    ⟨_, (pss_cons (ps_expr (pe_binit xb_VE T J (by rfl) hb (by decide +kernel) (pa_cons (pe_var (i := 0) rfl (.inl rfl)) (pa_cons pe_str pa_nil)))) (pss_one (ps_xst xb_VE T n_position (pe_var (i := 0) rfl (.inl rfl)) (pe_var (i := 1) rfl (.inl rfl))))), init_pf1 h⟩
  exact ⟨_, _, _, _, fI, fd, _, xb_VE, T, hm, iC, tI, G, fun a s us hl _ => match us, hl with | [u0], _ => FunD.kb D (fun _ _ _ _ _ _ => rfl) s,
    fun a s us hl _ => match us, hl with | [u0], _ => FunD.kb D (fun _ _ _ _ _ _ => rfl) s, fun a s us hl _ => match us, hl with | [u0], _ => FunD.kb D (fun _ _ _ _ _ _ => rfl) s⟩
theorem xs_InvalidRows : FnScope ["self", "position"] ["self", "position"] (defScope (inClass (top 4) 0)) := ⟨rfl, rfl, rfl, by decide +kernel, rfl, by decide +kernel, by decide +kernel⟩
theorem m_InvalidRows (D : FunD K "__init__" "InvalidRows.__init__" (defArgs (inClass (top 4) 0)) (defBody (inClass (top 4) 0)) (defScope (inClass (top 4) 0)) [] [] fI fd) (T : XC K (He.ga K "InvalidRows") "ValueError.__new__" (tlOf "ValueError")) (J : XIn K (He.ga K "SettleError") "ValueError.__init__") (hb : mg "SettleError" = some (.ref (He.ga K "SettleError"))) (hm : mg "InvalidRows" = some (.ref (He.ga K "InvalidRows")))
    (iC : PySem.W.findIn K (.ref (He.ga K "InvalidRows")) "__init__" = some (some (.ref fI))) (tI : PySem.W.typeIn K (.ref fI) = some (.type "function")) (n_position : PySem.W.findIn K (.ref (He.ga K "InvalidRows")) "position" = some none) : XM P w K mg base 1 "InvalidRows" ["position"] := by
  have S := xs_InvalidRows
  have G : FnG P w K mg base false 1 fI fd ["self", "position"] (spI (He.ga K "InvalidRows") ["position"]) := fnG_of D S (spI_len rfl) fun cv A out st H vs Q E rm gd h =>
    ⟨_, (pss_cons (ps_expr (pe_binit xb_VE T J (by rfl) hb (by decide +kernel) (pa_cons (pe_var (i := 0) rfl (.inl rfl)) (pa_cons pe_str pa_nil)))) (pss_one (ps_xst xb_VE T n_position (pe_var (i := 0) rfl (.inl rfl)) (pe_var (i := 1) rfl (.inl rfl))))), init_pf1 h⟩
  exact ⟨_, _, _, _, fI, fd, _, xb_VE, T, hm, iC, tI, G, fun a s us hl _ => match us, hl with | [u0], _ => FunD.kb D (fun _ _ _ _ _ _ => rfl) s,
    fun a s us hl _ => match us, hl with | [u0], _ => FunD.kb D (fun _ _ _ _ _ _ => rfl) s, fun a s us hl _ => match us, hl with | [u0], _ => FunD.kb D (fun _ _ _ _ _ _ => rfl) s⟩
theorem xs_InvalidState : FnScope ["self", "value"] ["self", "value"] (defScope (inClass (top 5) 0)) := ⟨rfl, rfl, rfl, by decide +kernel, rfl, by decide +kernel, by decide +kernel⟩
theorem m_InvalidState (D : FunD K "__init__" "InvalidState.__init__" (defArgs (inClass (top 5) 0)) (defBody (inClass (top 5) 0)) (defScope (inClass (top 5) 0)) [] [] fI fd) (T : XC K (He.ga K "InvalidState") "ValueError.__new__" (tlOf "ValueError")) (J : XIn K (He.ga K "SettleError") "ValueError.__init__") (hb : mg "SettleError" = some (.ref (He.ga K "SettleError"))) (hm : mg "InvalidState" = some (.ref (He.ga K "InvalidState")))
    (iC : PySem.W.findIn K (.ref (He.ga K "InvalidState")) "__init__" = some (some (.ref fI))) (tI : PySem.W.typeIn K (.ref fI) = some (.type "function")) (n_value : PySem.W.findIn K (.ref (He.ga K "InvalidState")) "value" = some none) : XM P w K mg base 1 "InvalidState" ["value"] := by
  have S := xs_InvalidState
  have G : FnG P w K mg base false 1 fI fd ["self", "value"] (spI (He.ga K "InvalidState") ["value"]) := fnG_of D S (spI_len rfl) fun cv A out st H vs Q E rm gd h =>
    ⟨_, (pss_cons (ps_expr (pe_binit xb_VE T J (by rfl) hb (by decide +kernel) (pa_cons (pe_var (i := 0) rfl (.inl rfl)) (pa_cons pe_str pa_nil)))) (pss_one (ps_xst xb_VE T n_value (pe_var (i := 0) rfl (.inl rfl)) (pe_var (i := 1) rfl (.inl rfl))))), init_pf1 h⟩
  exact ⟨_, _, _, _, fI, fd, _, xb_VE, T, hm, iC, tI, G, fun a s us hl _ => match us, hl with | [u0], _ => FunD.kb D (fun _ _ _ _ _ _ => rfl) s,
    fun a s us hl _ => match us, hl with | [u0], _ => FunD.kb D (fun _ _ _ _ _ _ => rfl) s, fun a s us hl _ => match us, hl with | [u0], _ => FunD.kb D (fun _ _ _ _ _ _ => rfl) s⟩
theorem xs_InvalidDeed : FnScope ["self", "value"] ["self", "value"] (defScope (inClass (top 6) 0)) := ⟨rfl, rfl, rfl, by decide +kernel, rfl, by decide +kernel, by decide +kernel⟩
theorem m_InvalidDeed (D : FunD K "__init__" "InvalidDeed.__init__" (defArgs (inClass (top 6) 0)) (defBody (inClass (top 6) 0)) (defScope (inClass (top 6) 0)) [] [] fI fd) (T : XC K (He.ga K "InvalidDeed") "ValueError.__new__" (tlOf "ValueError")) (J : XIn K (He.ga K "SettleError") "ValueError.__init__") (hb : mg "SettleError" = some (.ref (He.ga K "SettleError"))) (hm : mg "InvalidDeed" = some (.ref (He.ga K "InvalidDeed")))
    (iC : PySem.W.findIn K (.ref (He.ga K "InvalidDeed")) "__init__" = some (some (.ref fI))) (tI : PySem.W.typeIn K (.ref fI) = some (.type "function")) (n_value : PySem.W.findIn K (.ref (He.ga K "InvalidDeed")) "value" = some none) : XM P w K mg base 1 "InvalidDeed" ["value"] := by
  have S := xs_InvalidDeed
  have G : FnG P w K mg base false 1 fI fd ["self", "value"] (spI (He.ga K "InvalidDeed") ["value"]) := fnG_of D S (spI_len rfl) fun cv A out st H vs Q E rm gd h =>
    ⟨_, (pss_cons (ps_expr (pe_binit xb_VE T J (by rfl) hb (by decide +kernel) (pa_cons (pe_var (i := 0) rfl (.inl rfl)) (pa_cons pe_str pa_nil)))) (pss_one (ps_xst xb_VE T n_value (pe_var (i := 0) rfl (.inl rfl)) (pe_var (i := 1) rfl (.inl rfl))))), init_pf1 h⟩
  exact ⟨_, _, _, _, fI, fd, _, xb_VE, T, hm, iC, tI, G, fun a s us hl _ => match us, hl with | [u0], _ => FunD.kb D (fun _ _ _ _ _ _ => rfl) s,
    fun a s us hl _ => match us, hl with | [u0], _ => FunD.kb D (fun _ _ _ _ _ _ => rfl) s, fun a s us hl _ => match us, hl with | [u0], _ => FunD.kb D (fun _ _ _ _ _ _ => rfl) s⟩
theorem xs_InvalidWord : FnScope ["self", "position"] ["self", "position"] (defScope (inClass (top 7) 0)) := ⟨rfl, rfl, rfl, by decide +kernel, rfl, by decide +kernel, by decide +kernel⟩
theorem m_InvalidWord (D : FunD K "__init__" "InvalidWord.__init__" (defArgs (inClass (top 7) 0)) (defBody (inClass (top 7) 0)) (defScope (inClass (top 7) 0)) [] [] fI fd) (T : XC K (He.ga K "InvalidWord") "ValueError.__new__" (tlOf "ValueError")) (J : XIn K (He.ga K "SettleError") "ValueError.__init__") (hb : mg "SettleError" = some (.ref (He.ga K "SettleError"))) (hm : mg "InvalidWord" = some (.ref (He.ga K "InvalidWord")))
    (iC : PySem.W.findIn K (.ref (He.ga K "InvalidWord")) "__init__" = some (some (.ref fI))) (tI : PySem.W.typeIn K (.ref fI) = some (.type "function")) (n_position : PySem.W.findIn K (.ref (He.ga K "InvalidWord")) "position" = some none) : XM P w K mg base 1 "InvalidWord" ["position"] := by
  have S := xs_InvalidWord
  have G : FnG P w K mg base false 1 fI fd ["self", "position"] (spI (He.ga K "InvalidWord") ["position"]) := fnG_of D S (spI_len rfl) fun cv A out st H vs Q E rm gd h =>
    ⟨_, (pss_cons (ps_expr (pe_binit xb_VE T J (by rfl) hb (by decide +kernel) (pa_cons (pe_var (i := 0) rfl (.inl rfl)) (pa_cons pe_str pa_nil)))) (pss_one (ps_xst xb_VE T n_position (pe_var (i := 0) rfl (.inl rfl)) (pe_var (i := 1) rfl (.inl rfl))))), init_pf1 h⟩
  exact ⟨_, _, _, _, fI, fd, _, xb_VE, T, hm, iC, tI, G, fun a s us hl _ => match us, hl with | [u0], _ => FunD.kb D (fun _ _ _ _ _ _ => rfl) s,
    fun a s us hl _ => match us, hl with | [u0], _ => FunD.kb D (fun _ _ _ _ _ _ => rfl) s, fun a s us hl _ => match us, hl with | [u0], _ => FunD.kb D (fun _ _ _ _ _ _ => rfl) s⟩
theorem xs_TooMany : FnScope ["self", "what", "limit"] ["self", "what", "limit"] (defScope (inClass (top 11) 0)) := ⟨rfl, rfl, rfl, by decide +kernel, rfl, by decide +kernel, by decide +kernel⟩
theorem m_TooMany (D : FunD K "__init__" "TooMany.__init__" (defArgs (inClass (top 11) 0)) (defBody (inClass (top 11) 0)) (defScope (inClass (top 11) 0)) [] [] fI fd) (T : XC K (He.ga K "TooMany") "ArithmeticError.__new__" (tlOf "ArithmeticError")) (J : XIn K (He.ga K "LimitError") "ArithmeticError.__init__") (hb : mg "LimitError" = some (.ref (He.ga K "LimitError"))) (hm : mg "TooMany" = some (.ref (He.ga K "TooMany")))
    (iC : PySem.W.findIn K (.ref (He.ga K "TooMany")) "__init__" = some (some (.ref fI))) (tI : PySem.W.typeIn K (.ref fI) = some (.type "function")) (n_what : PySem.W.findIn K (.ref (He.ga K "TooMany")) "what" = some none) (n_limit : PySem.W.findIn K (.ref (He.ga K "TooMany")) "limit" = some none) : XM P w K mg base 1 "TooMany" ["what", "limit"] := by
  have S := xs_TooMany
  have G : FnG P w K mg base false 1 fI fd ["self", "what", "limit"] (spI (He.ga K "TooMany") ["what", "limit"]) := fnG_of D S (spI_len rfl) fun cv A out st H vs Q E rm gd h =>
    ⟨_, (pss_cons (ps_expr (pe_binit xb_AE T J (by rfl) hb (by decide +kernel) (pa_cons (pe_var (i := 0) rfl (.inl rfl)) (pa_cons pe_str pa_nil)))) (pss_cons (ps_xst xb_AE T n_what (pe_var (i := 0) rfl (.inl rfl)) (pe_var (i := 1) rfl (.inl rfl))) (pss_one (ps_xst xb_AE T n_limit (pe_var (i := 0) rfl (.inl rfl)) (pe_var (i := 2) rfl (.inl rfl)))))), init_pf2 h⟩
  exact ⟨_, _, _, _, fI, fd, _, xb_AE, T, hm, iC, tI, G, fun a s us hl _ => match us, hl with | [u0, u1], _ => FunD.kb D (fun _ _ _ _ _ _ => rfl) s,
    fun a s us hl _ => match us, hl with | [u0, u1], _ => FunD.kb D (fun _ _ _ _ _ _ => rfl) s, fun a s us hl _ => match us, hl with | [u0, u1], _ => FunD.kb D (fun _ _ _ _ _ _ => rfl) s⟩
def c_is_integer_0 : FS := sRet (eAnd (e1 (oIsT qInt) (eV 0)) (eNot (e1 (oIsT qBool) (eV 0))))
def b_is_integer_0 : FS := c_is_integer_0
abbrev b_is_integer : FS := b_is_integer_0
def F_is_integer : FD := runD 1 b_is_integer
theorem sc_is_integer : FnScope ["value"] ["value"] (defScope (top 18)) := ⟨rfl, rfl, rfl, by decide +kernel, rfl, by decide +kernel, by decide +kernel⟩
theorem ok_is_integer (B : Bl mg)  (D : FunD K "is_integer" "is_integer" (defArgs (top 18)) (defBody (top 18)) (defScope (top 18)) [] [] f fd) (hm : mg "is_integer" = some (.ref f)) : Fnn P w K mg base false 1 "is_integer" 1 F_is_integer := by
  have bd : Binds K fd ["value"] [] := D.bindsN fun _ _ _ _ _ _ us hl => match us, hl with | [_], _ => rfl
  have S := sc_is_integer
  exact fnn_of D hm S bd (by decide) (fun cv A out st H E rm gd =>
    (mss_one (ms_ret (me_and (me_isT qInt_ok (by rfl) B.isinstance (me_V (pe_var (i := 0) rfl (.inl rfl))) (pe_bltn (by rfl) B.int (by decide +kernel) rfl)) (me_one (me_not (me_isT qBool_ok (by rfl) B.isinstance (me_V (pe_var (i := 0) rfl (.inl rfl))) (pe_bltn (by rfl) B.bool (by decide +kernel) rfl))))))))

def c_is_count_0 : FS := sRet (eAnd (eCall 1 F_is_integer (aCons (eV 0) (aNil))) (e2 oGe (eV 0) (eC (.int 0))))
def b_is_count_0 : FS := c_is_count_0
abbrev b_is_count : FS := b_is_count_0
def F_is_count : FD := runD 1 b_is_count
theorem sc_is_count : FnScope ["value"] ["value"] (defScope (top 19)) := ⟨rfl, rfl, rfl, by decide +kernel, rfl, by decide +kernel, by decide +kernel⟩
theorem ok_is_count (B : Bl mg) (H_is_integer : Fnn P w K mg base false 1 "is_integer" 1 F_is_integer) (D : FunD K "is_count" "is_count" (defArgs (top 19)) (defBody (top 19)) (defScope (top 19)) [] [] f fd) (hm : mg "is_count" = some (.ref f)) : Fnn P w K mg base false 2 "is_count" 1 F_is_count := by
  have bd : Binds K fd ["value"] [] := D.bindsN fun _ _ _ _ _ _ us hl => match us, hl with | [_], _ => rfl
  have S := sc_is_count
  exact fnn_of D hm S bd (by decide) (fun cv A out st H E rm gd =>
    (mss_one (ms_ret (me_and (me_fn H_is_integer rm (fun z => Bool.noConfusion z) takesD (by rfl) (ma_cons (me_V (pe_var (i := 0) rfl (.inl rfl))) ma_nil)) (me_one (me_ge (me_V (pe_var (i := 0) rfl (.inl rfl))) me_int))))))

def c_is_below_0 : FS := sRet (eAnd (eCall 1 F_is_count (aCons (eV 0) (aNil))) (e2 oLt (eV 0) (eV 1)))
def b_is_below_0 : FS := c_is_below_0
abbrev b_is_below : FS := b_is_below_0
def F_is_below : FD := runD 2 b_is_below
theorem sc_is_below : FnScope ["value", "limit"] ["value", "limit"] (defScope (top 20)) := ⟨rfl, rfl, rfl, by decide +kernel, rfl, by decide +kernel, by decide +kernel⟩
theorem ok_is_below (B : Bl mg) (H_is_count : Fnn P w K mg base false 2 "is_count" 1 F_is_count) (D : FunD K "is_below" "is_below" (defArgs (top 20)) (defBody (top 20)) (defScope (top 20)) [] [] f fd) (hm : mg "is_below" = some (.ref f)) : Fnn P w K mg base false 3 "is_below" 2 F_is_below := by
  have bd : Binds K fd ["value", "limit"] [] := D.bindsN fun _ _ _ _ _ _ us hl => match us, hl with | [_, _], _ => rfl
  have S := sc_is_below
  exact fnn_of D hm S bd (by decide) (fun cv A out st H E rm gd =>
    (mss_one (ms_ret (me_and (me_fn H_is_count rm (fun z => Bool.noConfusion z) takesD (by rfl) (ma_cons (me_V (pe_var (i := 0) rfl (.inl rfl))) ma_nil)) (me_one (me_lt (me_V (pe_var (i := 0) rfl (.inl rfl))) (me_V (pe_var (i := 1) rfl (.inl rfl)))))))))

def c_is_answer_0 : FS := sRet (eCall 2 F_is_below (aCons (eV 0) (aCons (e2 oAdd (eC (.int 9)) (eC (.int 1))) (aNil))))
def b_is_answer_0 : FS := c_is_answer_0
abbrev b_is_answer : FS := b_is_answer_0
def F_is_answer : FD := runD 1 b_is_answer
theorem sc_is_answer : FnScope ["value"] ["value"] (defScope (top 21)) := ⟨rfl, rfl, rfl, by decide +kernel, rfl, by decide +kernel, by decide +kernel⟩
theorem ok_is_answer (B : Bl mg) (G : Gc mg) (H_is_below : Fnn P w K mg base false 3 "is_below" 2 F_is_below) (D : FunD K "is_answer" "is_answer" (defArgs (top 21)) (defBody (top 21)) (defScope (top 21)) [] [] f fd) (hm : mg "is_answer" = some (.ref f)) : Fnn P w K mg base false 4 "is_answer" 1 F_is_answer := by
  have bd : Binds K fd ["value"] [] := D.bindsN fun _ _ _ _ _ _ us hl => match us, hl with | [_], _ => rfl
  have S := sc_is_answer
  exact fnn_of D hm S bd (by decide) (fun cv A out st H E rm gd =>
    (mss_one (ms_ret (me_fn H_is_below rm (fun z => Bool.noConfusion z) takesD (by rfl) (ma_cons (me_V (pe_var (i := 0) rfl (.inl rfl))) (ma_cons (me_add (me_gint (by rfl) G.GREATEST_ANSWER) me_int) ma_nil))))))

def c_is_name_1 : FS := sRet (e1 oAll (eLc (iSeq (eV 0)) (gN 1) (bTrue) (e2 oIn (eV 1) (eC (.str "abcdefghijklmnopqrstuvwxyz"))) [1]))
def b_is_name_1 : FS := c_is_name_1
def c_is_name_0 : FS := sIf (bor (bnot (bB (e1 (oIsT qStr) (eV 0)))) (bnot (bB (e3 oLe oLe (eC (.int 1)) (e1n oLen 0) (eC (.int 8)))))) (sRet (eC (.bl false))) (sNext)
def b_is_name_0 : FS := sSeq c_is_name_0 b_is_name_1
abbrev b_is_name : FS := b_is_name_0
def F_is_name : FD := runD 2 b_is_name
theorem sc_is_name : FnScope ["value", "sign"] ["value"] (defScope (top 22)) := ⟨rfl, rfl, rfl, by decide +kernel, rfl, by decide +kernel, by decide +kernel⟩
theorem ok_is_name (B : Bl mg) (G : Gc mg) (D : FunD K "is_name" "is_name" (defArgs (top 22)) (defBody (top 22)) (defScope (top 22)) [] [] f fd) (hm : mg "is_name" = some (.ref f)) : Fnn P w K mg base false 1 "is_name" 1 F_is_name := by
  have bd : Binds K fd ["value"] [] := D.bindsN fun _ _ _ _ _ _ us hl => match us, hl with | [_], _ => rfl
  have S := sc_is_name
  exact fnn_of D hm S bd (by decide) (fun cv A out st H E rm gd =>
    (mss_cons (ms_if (PW.pt (mt_or (mt_not (mt_val (me_isT qStr_ok (by rfl) B.isinstance (me_V (pe_var (i := 0) rfl (.inl rfl))) (pe_bltn (by rfl) B.str (by decide +kernel) rfl)))) (mt_or1 (mt_not (mt_chain op_le op_le (p_int _) (p_int _) me_int (me_b1N call_len p_len (by rfl) B.len (by decide +kernel) (pe_var (i := 0) rfl (.inl rfl))) (me_gint (by rfl) G.LONGEST_NAME)))))) (mss_one (ms_ret me_bl)) mss_nil)
    (mss_one (ms_ret (me_b1 (cr_all rfl) p_all (by rfl) B.all (by decide +kernel) (me_lc rfl S.nd (mi_seq (me_V (pe_var (i := 0) rfl (.inl rfl)))) (blkOk_by (own := [("sign", 1)]) (by kernel_rfl)) (fun _ _ _ _ _ => (mg_name (i := 1) S.nd rfl (.inl rfl))) (fun _ _ _ _ _ => mts_nil) (fun _ _ _ _ _ => (me_in (hu_of rm) (me_V (pe_var (i := 1) rfl (.inl rfl))) (me_gstr (by rfl) G.LETTERS)))))))))

def c_is_list_0 : FS := sRet (e1 (oIsT qSeq) (eV 0))
def b_is_list_0 : FS := c_is_list_0
abbrev b_is_list : FS := b_is_list_0
def F_is_list : FD := runD 1 b_is_list
theorem sc_is_list : FnScope ["value"] ["value"] (defScope (top 23)) := ⟨rfl, rfl, rfl, by decide +kernel, rfl, by decide +kernel, by decide +kernel⟩
theorem ok_is_list (B : Bl mg)  (D : FunD K "is_list" "is_list" (defArgs (top 23)) (defBody (top 23)) (defScope (top 23)) [] [] f fd) (hm : mg "is_list" = some (.ref f)) : Fnn P w K mg base false 1 "is_list" 1 F_is_list := by
  have bd : Binds K fd ["value"] [] := D.bindsN fun _ _ _ _ _ _ us hl => match us, hl with | [_], _ => rfl
  have S := sc_is_list
  exact fnn_of D hm S bd (by decide) (fun cv A out st H E rm gd =>
    (mss_one (ms_ret (me_isSeq (by rfl) B.isinstance (me_V (pe_var (i := 0) rfl (.inl rfl))) (pe_bltn (by rfl) B.list (by decide +kernel) rfl) (pe_bltn (by rfl) B.tuple (by decide +kernel) rfl)))))

def c_is_entry_0 : FS := sRet (eAnd (e1 (oIsT qTup) (eV 1)) (eAnd (e2 oEq (e1n oLen 1) (eC (.int 2))) (eAnd (eCall 1 F_is_answer (aCons (e2n oIx 1 (eC (.int 0))) (aNil))) (eCall 2 F_is_below (aCons (e2n oIx 1 (eC (.int 1))) (aCons (eV 0) (aNil)))))))
def b_is_entry_0 : FS := c_is_entry_0
abbrev b_is_entry : FS := b_is_entry_0
def F_is_entry : FD := runD 2 b_is_entry
theorem sc_is_entry : FnScope ["states", "value"] ["states", "value"] (defScope (top 24)) := ⟨rfl, rfl, rfl, by decide +kernel, rfl, by decide +kernel, by decide +kernel⟩
theorem ok_is_entry (B : Bl mg) (H_is_answer : Fnn P w K mg base false 4 "is_answer" 1 F_is_answer) (H_is_below : Fnn P w K mg base false 3 "is_below" 2 F_is_below) (D : FunD K "is_entry" "is_entry" (defArgs (top 24)) (defBody (top 24)) (defScope (top 24)) [] [] f fd) (hm : mg "is_entry" = some (.ref f)) : Fnn P w K mg base false 5 "is_entry" 2 F_is_entry := by
  have bd : Binds K fd ["states", "value"] [] := D.bindsN fun _ _ _ _ _ _ us hl => match us, hl with | [_, _], _ => rfl
  have S := sc_is_entry
  exact fnn_of D hm S bd (by decide) (fun cv A out st H E rm gd =>
    (mss_one (ms_ret (me_and (me_isT qTup_ok (by rfl) B.isinstance (me_V (pe_var (i := 1) rfl (.inl rfl))) (pe_bltn (by rfl) B.tuple (by decide +kernel) rfl)) (me_and (me_eq rm.units (me_b1N call_len p_len (by rfl) B.len (by decide +kernel) (pe_var (i := 1) rfl (.inl rfl))) me_int) (me_and (me_fn H_is_answer rm (fun z => Bool.noConfusion z) takesD (by rfl) (ma_cons (me_ixN (hu_of rm) (pe_var (i := 1) rfl (.inl rfl)) me_int) ma_nil)) (me_one (me_fn H_is_below rm (fun z => Bool.noConfusion z) takesD (by rfl) (ma_cons (me_ixN (hu_of rm) (pe_var (i := 1) rfl (.inl rfl)) me_int) (ma_cons (me_V (pe_var (i := 0) rfl (.inl rfl))) ma_nil))))))))))

def c_is_row_0 : FS := sRet (eAnd (eCall 1 F_is_list (aCons (eV 2) (aNil))) (eAnd (e2 oEq (e1n oLen 2) (e1n oLen 0)) (e1 oAll (eLc (iSeq (eV 2)) (gN 3) (bTrue) (eCall 2 F_is_entry (aCons (eV 1) (aCons (eV 3) (aNil)))) [3]))))
def b_is_row_0 : FS := c_is_row_0
abbrev b_is_row : FS := b_is_row_0
def F_is_row : FD := runD 4 b_is_row
theorem sc_is_row : FnScope ["deeds", "states", "value", "entry"] ["deeds", "states", "value"] (defScope (top 25)) := ⟨rfl, rfl, rfl, by decide +kernel, rfl, by decide +kernel, by decide +kernel⟩
theorem ok_is_row (B : Bl mg) (H_is_list : Fnn P w K mg base false 1 "is_list" 1 F_is_list) (H_is_entry : Fnn P w K mg base false 5 "is_entry" 2 F_is_entry) (D : FunD K "is_row" "is_row" (defArgs (top 25)) (defBody (top 25)) (defScope (top 25)) [] [] f fd) (hm : mg "is_row" = some (.ref f)) : Fnn P w K mg base false 6 "is_row" 3 F_is_row := by
  have bd : Binds K fd ["deeds", "states", "value"] [] := D.bindsN fun _ _ _ _ _ _ us hl => match us, hl with | [_, _, _], _ => rfl
  have S := sc_is_row
  exact fnn_of D hm S bd (by decide) (fun cv A out st H E rm gd =>
    (mss_one (ms_ret (me_and (me_fn H_is_list rm (fun z => Bool.noConfusion z) takesD (by rfl) (ma_cons (me_V (pe_var (i := 2) rfl (.inl rfl))) ma_nil)) (me_and (me_eq rm.units (me_b1N call_len p_len (by rfl) B.len (by decide +kernel) (pe_var (i := 2) rfl (.inl rfl))) (me_b1N call_len p_len (by rfl) B.len (by decide +kernel) (pe_var (i := 0) rfl (.inl rfl)))) (me_one (me_b1 (cr_all rfl) p_all (by rfl) B.all (by decide +kernel) (me_lc rfl S.nd (mi_seq (me_V (pe_var (i := 2) rfl (.inl rfl)))) (blkOk_by (own := [("entry", 3)]) (by kernel_rfl)) (fun _ _ _ _ _ => (mg_name (i := 3) S.nd rfl (.inl rfl))) (fun _ _ _ _ _ => mts_nil) (fun _ _ _ _ _ => (me_fn H_is_entry rm (fun z => Bool.noConfusion z) takes0 (by rfl) (ma_cons (me_V (pe_var (i := 1) rfl (.inr (.inl rfl)))) (ma_cons (me_V (pe_var (i := 3) rfl (.inl rfl))) ma_nil))))))))))))

def c_want_names_of_deeds_1 : FS := sFor (iEnumT (eV 0)) (gT 2 (gCons (gN 1) (gCons (gN 2) (gNil)))) (sIf (bor (bnot (bB (eCall 1 F_is_name (aCons (eV 2) (aNil))))) (bB (e2 oIn (eV 2) (eSl (eV 0) (fNo) (fPart (eV 1)))))) (sRz "InvalidDeeds" ["position"] (aCons (eV 1) (aNil))) (sNext))
def b_want_names_of_deeds_1 : FS := c_want_names_of_deeds_1
def c_want_names_of_deeds_0 : FS := sIf (bor (bnot (bB (eCall 1 F_is_list (aCons (eV 0) (aNil))))) (bB (e2 oEq (e1n oLen 0) (eC (.int 0))))) (sRz "InvalidDeeds" ["position"] (aCons (eC .non) (aNil))) (sNext)
def b_want_names_of_deeds_0 : FS := sSeq c_want_names_of_deeds_0 b_want_names_of_deeds_1
abbrev b_want_names_of_deeds : FS := b_want_names_of_deeds_0
def F_want_names_of_deeds : FD := runD 3 b_want_names_of_deeds
theorem sc_want_names_of_deeds : FnScope ["deeds", "position", "deed"] ["deeds"] (defScope (top 26)) := ⟨rfl, rfl, rfl, by decide +kernel, rfl, by decide +kernel, by decide +kernel⟩
theorem ok_want_names_of_deeds (B : Bl mg) (Kx : Kx P w K mg base) (H_is_list : Fnn P w K mg base false 1 "is_list" 1 F_is_list) (H_is_name : Fnn P w K mg base false 1 "is_name" 1 F_is_name) (D : FunD K "want_names_of_deeds" "want_names_of_deeds" (defArgs (top 26)) (defBody (top 26)) (defScope (top 26)) [] [] f fd) (hm : mg "want_names_of_deeds" = some (.ref f)) : Fnn P w K mg base false 3 "want_names_of_deeds" 1 F_want_names_of_deeds := by
  have bd : Binds K fd ["deeds"] [] := D.bindsN fun _ _ _ _ _ _ us hl => match us, hl with | [_], _ => rfl
  have S := sc_want_names_of_deeds
  exact fnn_of D hm S bd (by decide) (fun cv A out st H E rm gd =>
    (mss_cons (ms_if (PW.pt (mt_or (mt_not (mt_val (me_fn H_is_list rm (fun z => Bool.noConfusion z) takesD (by rfl) (ma_cons (me_V (pe_var (i := 0) rfl (.inl rfl))) ma_nil)))) (mt_or1 (mt_eq rm.units (me_b1N call_len p_len (by rfl) B.len (by decide +kernel) (pe_var (i := 0) rfl (.inl rfl))) me_int)))) (mss_one (ms_raise rfl Kx.m_InvalidDeeds (rm.mono (by decide)) takesD (by rfl) (by decide) (ma_cons me_non ma_nil))) mss_nil)
    (mss_one (ms_for passD rfl (mi_enumT (by rfl) B.enumerate (me_V (pe_var (i := 0) rfl (.inl rfl)))) (mg_tup rfl (mgs_cons (mg_name (i := 1) S.nd rfl (.inl rfl)) (mgs_cons (mg_name (i := 2) S.nd rfl (.inl rfl)) mgs_nil))) (mss_one (ms_if (PW.pt (mt_or (mt_not (mt_val (me_fn H_is_name rm (fun z => Bool.noConfusion z) takesD (by rfl) (ma_cons (me_V (pe_var (i := 2) rfl (.inl rfl))) ma_nil)))) (mt_or1 (mt_in (hu_of rm) (me_V (pe_var (i := 2) rfl (.inl rfl))) (me_sl (me_V (pe_var (i := 0) rfl (.inl rfl))) mo_no (mo_part (me_V (pe_var (i := 1) rfl (.inl rfl))))))))) (mss_one (ms_raise rfl Kx.m_InvalidDeeds (rm.mono (by decide)) takesD (by rfl) (by decide) (ma_cons (me_V (pe_var (i := 1) rfl (.inl rfl))) ma_nil))) mss_nil))))))

def c_want_few_deeds_0 : FS := sIf (bB (e2 oGt (e1n oLen 0) (eC (.int 4)))) (sRz "TooMany" ["what", "limit"] (aCons (eC (.str "deeds")) (aCons (eC (.int 4)) (aNil)))) (sNext)
def b_want_few_deeds_0 : FS := c_want_few_deeds_0
abbrev b_want_few_deeds : FS := b_want_few_deeds_0
def F_want_few_deeds : FD := runD 1 b_want_few_deeds
theorem sc_want_few_deeds : FnScope ["deeds"] ["deeds"] (defScope (top 27)) := ⟨rfl, rfl, rfl, by decide +kernel, rfl, by decide +kernel, by decide +kernel⟩
theorem ok_want_few_deeds (B : Bl mg) (G : Gc mg) (Kx : Kx P w K mg base) (D : FunD K "want_few_deeds" "want_few_deeds" (defArgs (top 27)) (defBody (top 27)) (defScope (top 27)) [] [] f fd) (hm : mg "want_few_deeds" = some (.ref f)) : Fnn P w K mg base false 3 "want_few_deeds" 1 F_want_few_deeds := by
  have bd : Binds K fd ["deeds"] [] := D.bindsN fun _ _ _ _ _ _ us hl => match us, hl with | [_], _ => rfl
  have S := sc_want_few_deeds
  exact fnn_of D hm S bd (by decide) (fun cv A out st H E rm gd =>
    (mss_one (ms_if (mt_gt (me_b1N call_len p_len (by rfl) B.len (by decide +kernel) (pe_var (i := 0) rfl (.inl rfl))) (me_gint (by rfl) G.MOST_DEEDS)) (mss_one (ms_raise rfl Kx.m_TooMany (rm.mono (by decide)) takesD (by rfl) (by decide) (ma_cons me_str (ma_cons (me_gint (by rfl) G.MOST_DEEDS) ma_nil)))) mss_nil)))

def c_want_parts_4 : FS := sIf (bB (e2 oGt (e1n oLen 1) (eC (.int 8)))) (sRz "TooMany" ["what", "limit"] (aCons (eC (.str "states")) (aCons (eC (.int 8)) (aNil)))) (sNext)
def b_want_parts_4 : FS := c_want_parts_4
def c_want_parts_3 : FS := sExpr (eCall 1 F_want_few_deeds (aCons (eV 0) (aNil)))
def b_want_parts_3 : FS := sSeq c_want_parts_3 b_want_parts_4
def c_want_parts_2 : FS := sFor (iEnumT (eV 1)) (gT 2 (gCons (gN 2) (gCons (gN 3) (gNil)))) (sIf (bnot (bB (eCall 3 F_is_row (aCons (eV 0) (aCons (e1n oLen 1) (aCons (eV 3) (aNil))))))) (sRz "InvalidRows" ["position"] (aCons (eV 2) (aNil))) (sNext))
def b_want_parts_2 : FS := sSeq c_want_parts_2 b_want_parts_3
def c_want_parts_1 : FS := sIf (bor (bnot (bB (eCall 1 F_is_list (aCons (eV 1) (aNil))))) (bB (e2 oEq (e1n oLen 1) (eC (.int 0))))) (sRz "InvalidRows" ["position"] (aCons (eC .non) (aNil))) (sNext)
def b_want_parts_1 : FS := sSeq c_want_parts_1 b_want_parts_2
def c_want_parts_0 : FS := sExpr (eCall 1 F_want_names_of_deeds (aCons (eV 0) (aNil)))
def b_want_parts_0 : FS := sSeq c_want_parts_0 b_want_parts_1
abbrev b_want_parts : FS := b_want_parts_0
def F_want_parts : FD := runD 4 b_want_parts
theorem sc_want_parts : FnScope ["deeds", "rows", "position", "row"] ["deeds", "rows"] (defScope (top 28)) := ⟨rfl, rfl, rfl, by decide +kernel, rfl, by decide +kernel, by decide +kernel⟩
theorem ok_want_parts (B : Bl mg) (G : Gc mg) (Kx : Kx P w K mg base) (H_want_names_of_deeds : Fnn P w K mg base false 3 "want_names_of_deeds" 1 F_want_names_of_deeds) (H_is_list : Fnn P w K mg base false 1 "is_list" 1 F_is_list) (H_is_row : Fnn P w K mg base false 6 "is_row" 3 F_is_row) (H_want_few_deeds : Fnn P w K mg base false 3 "want_few_deeds" 1 F_want_few_deeds) (D : FunD K "want_parts" "want_parts" (defArgs (top 28)) (defBody (top 28)) (defScope (top 28)) [] [] f fd) (hm : mg "want_parts" = some (.ref f)) : Fnn P w K mg base false 7 "want_parts" 2 F_want_parts := by
  have bd : Binds K fd ["deeds", "rows"] [] := D.bindsN fun _ _ _ _ _ _ us hl => match us, hl with | [_, _], _ => rfl
  have S := sc_want_parts
  exact fnn_of D hm S bd (by decide) (fun cv A out st H E rm gd =>
    (mss_cons (ms_expr (me_fn H_want_names_of_deeds rm (fun z => Bool.noConfusion z) takesD (by rfl) (ma_cons (me_V (pe_var (i := 0) rfl (.inl rfl))) ma_nil)))
    (mss_cons (ms_if (PW.pt (mt_or (mt_not (mt_val (me_fn H_is_list rm (fun z => Bool.noConfusion z) takesD (by rfl) (ma_cons (me_V (pe_var (i := 1) rfl (.inl rfl))) ma_nil)))) (mt_or1 (mt_eq rm.units (me_b1N call_len p_len (by rfl) B.len (by decide +kernel) (pe_var (i := 1) rfl (.inl rfl))) me_int)))) (mss_one (ms_raise rfl Kx.m_InvalidRows (rm.mono (by decide)) takesD (by rfl) (by decide) (ma_cons me_non ma_nil))) mss_nil)
    (mss_cons (ms_for passD rfl (mi_enumT (by rfl) B.enumerate (me_V (pe_var (i := 1) rfl (.inl rfl)))) (mg_tup rfl (mgs_cons (mg_name (i := 2) S.nd rfl (.inl rfl)) (mgs_cons (mg_name (i := 3) S.nd rfl (.inl rfl)) mgs_nil))) (mss_one (ms_if (mt_not (mt_val (me_fn H_is_row rm (fun z => Bool.noConfusion z) takesD (by rfl) (ma_cons (me_V (pe_var (i := 0) rfl (.inl rfl))) (ma_cons (me_b1N call_len p_len (by rfl) B.len (by decide +kernel) (pe_var (i := 1) rfl (.inl rfl))) (ma_cons (me_V (pe_var (i := 3) rfl (.inl rfl))) ma_nil)))))) (mss_one (ms_raise rfl Kx.m_InvalidRows (rm.mono (by decide)) takesD (by rfl) (by decide) (ma_cons (me_V (pe_var (i := 2) rfl (.inl rfl))) ma_nil))) mss_nil)))
    (mss_cons (ms_expr (me_fn H_want_few_deeds rm (fun z => Bool.noConfusion z) takesD (by rfl) (ma_cons (me_V (pe_var (i := 0) rfl (.inl rfl))) ma_nil)))
    (mss_one (ms_if (mt_gt (me_b1N call_len p_len (by rfl) B.len (by decide +kernel) (pe_var (i := 1) rfl (.inl rfl))) (me_gint (by rfl) G.MOST_STATES)) (mss_one (ms_raise rfl Kx.m_TooMany (rm.mono (by decide)) takesD (by rfl) (by decide) (ma_cons me_str (ma_cons (me_gint (by rfl) G.MOST_STATES) ma_nil)))) mss_nil)))))))

def c_Parts___init___1 : FS := sFst csI "own_rows" 0 (e1R oToPt (eLc (iSeq (eV 2)) (gN 5) (bTrue) (e1R oToPt (eLc (iSeq (eV 5)) (gT 2 (gCons (gN 3) (gCons (gN 4) (gNil)))) (bTrue) (eTup (aCons (eV 3) (aCons (eV 4) (aNil)))) [3, 4])) [5]))
def b_Parts___init___1 : FS := c_Parts___init___1
def c_Parts___init___0 : FS := sFst csI "own_deeds" 0 (e1R oToPt (eV 1))
def b_Parts___init___0 : FS := sSeq c_Parts___init___0 b_Parts___init___1
abbrev b_Parts___init__ : FS := b_Parts___init___0
def F_Parts___init__ : FD := runD 6 b_Parts___init__
theorem sc_Parts___init__ : FnScope ["self", "deeds", "rows", "answer", "later", "row"] ["self", "deeds", "rows"] (defScope (inClass (top 29) 0)) := ⟨rfl, rfl, rfl, by decide +kernel, rfl, by decide +kernel, by decide +kernel⟩
theorem ok_Parts___init__ (B : Bl mg) (Kx : Kx P w K mg base) (D : FunD K "__init__" "Parts.__init__" (defArgs (inClass (top 29) 0)) (defBody (inClass (top 29) 0)) (defScope (inClass (top 29) 0)) [] [] fI fd) (M : Mk K (He.ga K "Parts") fI) (hm : mg "Parts" = some (.ref (He.ga K "Parts"))) : CM P w K mg base false 1 "Parts" ["deeds", "rows"] F_Parts___init__ := by
  have S := sc_Parts___init__
  have Gf : FnG P w K mg base false 1 fI fd ["self", "deeds", "rows"] (spM K 3 F_Parts___init__) := fnG_of D S (fun _ _ _ _ h => h.1) fun cv A out st H vs Q E rm gd h =>
    ⟨_, ((mss_cons (ms_fst (i := 0) Kx.ca Kx.nf_own_deeds (pe_var (i := 0) rfl (.inl rfl)) (me_toPt (by rfl) B.tuple (me_V (pe_var (i := 1) rfl (.inl rfl)))))
    (mss_one (ms_fst (i := 0) Kx.ca Kx.nf_own_rows (pe_var (i := 0) rfl (.inl rfl)) (me_toPt (by rfl) B.tuple (me_lc rfl S.nd (mi_seq (me_V (pe_var (i := 2) rfl (.inl rfl)))) (blkOk_by (own := [("row", 5)]) (by kernel_rfl)) (fun _ _ _ _ _ => (mg_name (i := 5) S.nd rfl (.inl rfl))) (fun _ _ _ _ _ => mts_nil) (fun _ _ _ _ _ => (me_toPt (by rfl) B.tuple (me_lc rfl S.nd (mi_seq (me_V (pe_var (i := 5) rfl (.inl rfl)))) (blkOk_by (own := [("answer", 3), ("later", 4)]) (by kernel_rfl)) (fun _ _ _ _ _ => (mg_tup rfl (mgs_cons (mg_name (i := 3) S.nd rfl (.inl rfl)) (mgs_cons (mg_name (i := 4) S.nd rfl (.inl rfl)) mgs_nil)))) (fun _ _ _ _ _ => mts_nil) (fun _ _ _ _ _ => (me_tup (ma_cons (me_V (pe_var (i := 3) rfl (.inl rfl))) (ma_cons (me_V (pe_var (i := 4) rfl (.inl rfl))) ma_nil)))))))))))) : MSs _ (WE0 E) 3 _ b_Parts___init__), runD_ok (N := ["self", "deeds", "rows", "answer", "later", "row"]) (by decide) h⟩
  exact ⟨fI, fd, _, M, hm, Gf, fun a s us hl _ => match us, hl with | [u0, u1], _ => FunD.kb D (fun _ _ _ _ _ _ => rfl) s, fun a s us hl _ => match us, hl with | [u0, u1], _ => FunD.kb D (fun _ _ _ _ _ _ => rfl) s, fun a s us hl _ => match us, hl with | [u0, u1], _ => FunD.kb D (fun _ _ _ _ _ _ => rfl) s⟩

def c_Thing___init___3 : FS := sFst csI "own_rows" 0 (e1 (oFld csI "own_rows") (eV 3))
def b_Thing___init___3 : FS := c_Thing___init___3
def c_Thing___init___2 : FS := sFst csI "own_deeds" 0 (e1 (oFld csI "own_deeds") (eV 3))
def b_Thing___init___2 : FS := sSeq c_Thing___init___2 b_Thing___init___3
def c_Thing___init___1 : FS := sSet 3 (eIf (bB (e1 (oIsT (qCls "Parts")) (eV 1))) (eV 1) (eMake "Parts" 3 F_Parts___init__ false (aCons (eV 1) (aCons (eV 2) (aNil)))))
def b_Thing___init___1 : FS := sSeq c_Thing___init___1 b_Thing___init___2
def c_Thing___init___0 : FS := sIf (bnot (bB (e1 (oIsT (qCls "Parts")) (eV 1)))) (sExpr (eCall 2 F_want_parts (aCons (eV 1) (aCons (eV 2) (aNil))))) (sNext)
def b_Thing___init___0 : FS := sSeq c_Thing___init___0 b_Thing___init___1
abbrev b_Thing___init__ : FS := b_Thing___init___0
def F_Thing___init__ : FD := runD 4 b_Thing___init__
theorem sc_Thing___init__ : FnScope ["self", "deeds", "rows", "parts"] ["self", "deeds", "rows"] (defScope (inClass (top 30) 0)) := ⟨rfl, rfl, rfl, by decide +kernel, rfl, by decide +kernel, by decide +kernel⟩
theorem ok_Thing___init__ (B : Bl mg) (Kx : Kx P w K mg base) (M_Parts : CM P w K mg base false 1 "Parts" ["deeds", "rows"] F_Parts___init__) (H_want_parts : Fnn P w K mg base false 7 "want_parts" 2 F_want_parts) (D : FunD K "__init__" "Thing.__init__" (defArgs (inClass (top 30) 0)) (defBody (inClass (top 30) 0)) (defScope (inClass (top 30) 0)) [] [] fI fd) (M : Mk K (He.ga K "Thing") fI) (hm : mg "Thing" = some (.ref (He.ga K "Thing"))) : CM P w K mg base false 8 "Thing" ["deeds", "rows"] F_Thing___init__ := by
  have S := sc_Thing___init__
  have Gf : FnG P w K mg base false 8 fI fd ["self", "deeds", "rows"] (spM K 3 F_Thing___init__) := fnG_of D S (fun _ _ _ _ h => h.1) fun cv A out st H vs Q E rm gd h =>
    ⟨_, ((mss_cons (ms_if (mt_not (mt_val (me_isC Kx.ob Kx.cf_Parts (by rfl) B.isinstance (me_V (pe_var (i := 1) rfl (.inl rfl))) (pe_glob (by rfl) Kx.g_Parts rfl)))) (mss_one (ms_expr (me_fn H_want_parts rm (fun z => Bool.noConfusion z) takesD (by rfl) (ma_cons (me_V (pe_var (i := 1) rfl (.inl rfl))) (ma_cons (me_V (pe_var (i := 2) rfl (.inl rfl))) ma_nil))))) mss_nil)
    (mss_cons (ms_set (i := 3) S.nd rfl (.inl rfl) (me_if (mt_val (me_isC Kx.ob Kx.cf_Parts (by rfl) B.isinstance (me_V (pe_var (i := 1) rfl (.inl rfl))) (pe_glob (by rfl) Kx.g_Parts rfl))) (me_V (pe_var (i := 1) rfl (.inl rfl))) (me_make M_Parts (rm.mono (by decide)) (fun z => Bool.noConfusion z) takesD (by rfl) (ma_cons (me_V (pe_var (i := 1) rfl (.inl rfl))) (ma_cons (me_V (pe_var (i := 2) rfl (.inl rfl))) ma_nil)))))
    (mss_cons (ms_fst (i := 0) Kx.ca Kx.nf_own_deeds (pe_var (i := 0) rfl (.inl rfl)) (me_fld Kx.ca Kx.nf_own_deeds (me_V (pe_var (i := 3) rfl (.inl rfl)))))
    (mss_one (ms_fst (i := 0) Kx.ca Kx.nf_own_rows (pe_var (i := 0) rfl (.inl rfl)) (me_fld Kx.ca Kx.nf_own_rows (me_V (pe_var (i := 3) rfl (.inl rfl))))))))) : MSs _ (WE0 E) 3 _ b_Thing___init__), runD_ok (N := ["self", "deeds", "rows", "parts"]) (by decide) h⟩
  exact ⟨fI, fd, _, M, hm, Gf, fun a s us hl _ => match us, hl with | [u0, u1], _ => FunD.kb D (fun _ _ _ _ _ _ => rfl) s, fun a s us hl _ => match us, hl with | [u0, u1], _ => FunD.kb D (fun _ _ _ _ _ _ => rfl) s, fun a s us hl _ => match us, hl with | [u0, u1], _ => FunD.kb D (fun _ _ _ _ _ _ => rfl) s⟩

def c_made_thing_0 : FS := sRet (eMake "Thing" 3 F_Thing___init__ false (aCons (eMake "Parts" 3 F_Parts___init__ false (aCons (eV 0) (aCons (eV 1) (aNil)))) (aCons (eC .non) (aNil))))
def b_made_thing_0 : FS := c_made_thing_0
abbrev b_made_thing : FS := b_made_thing_0
def F_made_thing : FD := runD 2 b_made_thing
theorem sc_made_thing : FnScope ["deeds", "rows"] ["deeds", "rows"] (defScope (top 31)) := ⟨rfl, rfl, rfl, by decide +kernel, rfl, by decide +kernel, by decide +kernel⟩
theorem ok_made_thing (B : Bl mg) (M_Thing : CM P w K mg base false 8 "Thing" ["deeds", "rows"] F_Thing___init__) (M_Parts : CM P w K mg base false 1 "Parts" ["deeds", "rows"] F_Parts___init__) (D : FunD K "made_thing" "made_thing" (defArgs (top 31)) (defBody (top 31)) (defScope (top 31)) [] [] f fd) (hm : mg "made_thing" = some (.ref f)) : Fnn P w K mg base false 10 "made_thing" 2 F_made_thing := by
  have bd : Binds K fd ["deeds", "rows"] [] := D.bindsN fun _ _ _ _ _ _ us hl => match us, hl with | [_, _], _ => rfl
  have S := sc_made_thing
  exact fnn_of D hm S bd (by decide) (fun cv A out st H E rm gd =>
    (mss_one (ms_ret (me_make M_Thing (rm.mono (by decide)) (fun z => Bool.noConfusion z) takesD (by rfl) (ma_cons (me_make M_Parts (rm.mono (by decide)) (fun z => Bool.noConfusion z) takesD (by rfl) (ma_cons (me_V (pe_var (i := 0) rfl (.inl rfl))) (ma_cons (me_V (pe_var (i := 1) rfl (.inl rfl))) ma_nil))) (ma_cons me_non ma_nil))))))

def c_is_state_0 : FS := sRet (eCall 2 F_is_below (aCons (eV 1) (aCons (e1 oLen (e1 (oFld csI "own_rows") (eV 0))) (aNil))))
def b_is_state_0 : FS := c_is_state_0
abbrev b_is_state : FS := b_is_state_0
def F_is_state : FD := runD 2 b_is_state
theorem sc_is_state : FnScope ["thing", "value"] ["thing", "value"] (defScope (top 32)) := ⟨rfl, rfl, rfl, by decide +kernel, rfl, by decide +kernel, by decide +kernel⟩
theorem ok_is_state (B : Bl mg) (Kx : Kx P w K mg base) (H_is_below : Fnn P w K mg base false 3 "is_below" 2 F_is_below) (D : FunD K "is_state" "is_state" (defArgs (top 32)) (defBody (top 32)) (defScope (top 32)) [] [] f fd) (hm : mg "is_state" = some (.ref f)) : Fnn P w K mg base false 4 "is_state" 2 F_is_state := by
  have bd : Binds K fd ["thing", "value"] [] := D.bindsN fun _ _ _ _ _ _ us hl => match us, hl with | [_, _], _ => rfl
  have S := sc_is_state
  exact fnn_of D hm S bd (by decide) (fun cv A out st H E rm gd =>
    (mss_one (ms_ret (me_fn H_is_below rm (fun z => Bool.noConfusion z) takesD (by rfl) (ma_cons (me_V (pe_var (i := 1) rfl (.inl rfl))) (ma_cons (me_b1 call_len p_len (by rfl) B.len (by decide +kernel) (me_fld Kx.ca Kx.nf_own_rows (me_V (pe_var (i := 0) rfl (.inl rfl))))) ma_nil))))))

def c_is_deed_0 : FS := sRet (eAnd (e1 (oIsT qStr) (eV 1)) (e2 oIn (eV 1) (e1 (oFld csI "own_deeds") (eV 0))))
def b_is_deed_0 : FS := c_is_deed_0
abbrev b_is_deed : FS := b_is_deed_0
def F_is_deed : FD := runD 2 b_is_deed
theorem sc_is_deed : FnScope ["thing", "value"] ["thing", "value"] (defScope (top 33)) := ⟨rfl, rfl, rfl, by decide +kernel, rfl, by decide +kernel, by decide +kernel⟩
theorem ok_is_deed (B : Bl mg) (Kx : Kx P w K mg base) (D : FunD K "is_deed" "is_deed" (defArgs (top 33)) (defBody (top 33)) (defScope (top 33)) [] [] f fd) (hm : mg "is_deed" = some (.ref f)) : Fnn P w K mg base false 1 "is_deed" 2 F_is_deed := by
  have bd : Binds K fd ["thing", "value"] [] := D.bindsN fun _ _ _ _ _ _ us hl => match us, hl with | [_, _], _ => rfl
  have S := sc_is_deed
  exact fnn_of D hm S bd (by decide) (fun cv A out st H E rm gd =>
    (mss_one (ms_ret (me_and (me_isT qStr_ok (by rfl) B.isinstance (me_V (pe_var (i := 1) rfl (.inl rfl))) (pe_bltn (by rfl) B.str (by decide +kernel) rfl)) (me_one (me_in (hu_of rm) (me_V (pe_var (i := 1) rfl (.inl rfl))) (me_fld Kx.ca Kx.nf_own_deeds (me_V (pe_var (i := 0) rfl (.inl rfl))))))))))

def c_want_state_0 : FS := sIf (bnot (bB (eCall 2 F_is_state (aCons (eV 0) (aCons (eV 1) (aNil)))))) (sRz "InvalidState" ["value"] (aCons (eV 1) (aNil))) (sNext)
def b_want_state_0 : FS := c_want_state_0
abbrev b_want_state : FS := b_want_state_0
def F_want_state : FD := runD 2 b_want_state
theorem sc_want_state : FnScope ["thing", "value"] ["thing", "value"] (defScope (top 34)) := ⟨rfl, rfl, rfl, by decide +kernel, rfl, by decide +kernel, by decide +kernel⟩
theorem ok_want_state (B : Bl mg) (Kx : Kx P w K mg base) (H_is_state : Fnn P w K mg base false 4 "is_state" 2 F_is_state) (D : FunD K "want_state" "want_state" (defArgs (top 34)) (defBody (top 34)) (defScope (top 34)) [] [] f fd) (hm : mg "want_state" = some (.ref f)) : Fnn P w K mg base false 5 "want_state" 2 F_want_state := by
  have bd : Binds K fd ["thing", "value"] [] := D.bindsN fun _ _ _ _ _ _ us hl => match us, hl with | [_, _], _ => rfl
  have S := sc_want_state
  exact fnn_of D hm S bd (by decide) (fun cv A out st H E rm gd =>
    (mss_one (ms_if (mt_not (mt_val (me_fn H_is_state rm (fun z => Bool.noConfusion z) takesD (by rfl) (ma_cons (me_V (pe_var (i := 0) rfl (.inl rfl))) (ma_cons (me_V (pe_var (i := 1) rfl (.inl rfl))) ma_nil))))) (mss_one (ms_raise rfl Kx.m_InvalidState (rm.mono (by decide)) takesD (by rfl) (by decide) (ma_cons (me_V (pe_var (i := 1) rfl (.inl rfl))) ma_nil))) mss_nil)))

def c_want_deed_0 : FS := sIf (bnot (bB (eCall 2 F_is_deed (aCons (eV 0) (aCons (eV 1) (aNil)))))) (sRz "InvalidDeed" ["value"] (aCons (eV 1) (aNil))) (sNext)
def b_want_deed_0 : FS := c_want_deed_0
abbrev b_want_deed : FS := b_want_deed_0
def F_want_deed : FD := runD 2 b_want_deed
theorem sc_want_deed : FnScope ["thing", "value"] ["thing", "value"] (defScope (top 35)) := ⟨rfl, rfl, rfl, by decide +kernel, rfl, by decide +kernel, by decide +kernel⟩
theorem ok_want_deed (B : Bl mg) (Kx : Kx P w K mg base) (H_is_deed : Fnn P w K mg base false 1 "is_deed" 2 F_is_deed) (D : FunD K "want_deed" "want_deed" (defArgs (top 35)) (defBody (top 35)) (defScope (top 35)) [] [] f fd) (hm : mg "want_deed" = some (.ref f)) : Fnn P w K mg base false 3 "want_deed" 2 F_want_deed := by
  have bd : Binds K fd ["thing", "value"] [] := D.bindsN fun _ _ _ _ _ _ us hl => match us, hl with | [_, _], _ => rfl
  have S := sc_want_deed
  exact fnn_of D hm S bd (by decide) (fun cv A out st H E rm gd =>
    (mss_one (ms_if (mt_not (mt_val (me_fn H_is_deed rm (fun z => Bool.noConfusion z) takesD (by rfl) (ma_cons (me_V (pe_var (i := 0) rfl (.inl rfl))) (ma_cons (me_V (pe_var (i := 1) rfl (.inl rfl))) ma_nil))))) (mss_one (ms_raise rfl Kx.m_InvalidDeed (rm.mono (by decide)) takesD (by rfl) (by decide) (ma_cons (me_V (pe_var (i := 1) rfl (.inl rfl))) ma_nil))) mss_nil)))

def c_place_of_0 : FS := sRet (ePix (e1 (oFld csI "own_deeds") (eV 0)) (eV 1))
def b_place_of_0 : FS := c_place_of_0
abbrev b_place_of : FS := b_place_of_0
def F_place_of : FD := runD 2 b_place_of
theorem sc_place_of : FnScope ["thing", "deed"] ["thing", "deed"] (defScope (top 36)) := ⟨rfl, rfl, rfl, by decide +kernel, rfl, by decide +kernel, by decide +kernel⟩
theorem ok_place_of (B : Bl mg) (Kx : Kx P w K mg base) (D : FunD K "place_of" "place_of" (defArgs (top 36)) (defBody (top 36)) (defScope (top 36)) [] [] f fd) (hm : mg "place_of" = some (.ref f)) : Fnn P w K mg base false 1 "place_of" 2 F_place_of := by
  have bd : Binds K fd ["thing", "deed"] [] := D.bindsN fun _ _ _ _ _ _ us hl => match us, hl with | [_, _], _ => rfl
  have S := sc_place_of
  exact fnn_of D hm S bd (by decide) (fun cv A out st H E rm gd =>
    (mss_one (ms_ret (me_pix (me_fld Kx.ca Kx.nf_own_deeds (me_V (pe_var (i := 0) rfl (.inl rfl)))) (me_V (pe_var (i := 1) rfl (.inl rfl)))))))

def c_step_at_0 : FS := sRet (e2 oIx (e2 oIx (e1 (oFld csI "own_rows") (eV 0)) (eV 1)) (eV 2))
def b_step_at_0 : FS := c_step_at_0
abbrev b_step_at : FS := b_step_at_0
def F_step_at : FD := runD 3 b_step_at
theorem sc_step_at : FnScope ["thing", "state", "place"] ["thing", "state", "place"] (defScope (top 37)) := ⟨rfl, rfl, rfl, by decide +kernel, rfl, by decide +kernel, by decide +kernel⟩
theorem ok_step_at (B : Bl mg) (Kx : Kx P w K mg base) (D : FunD K "step_at" "step_at" (defArgs (top 37)) (defBody (top 37)) (defScope (top 37)) [] [] f fd) (hm : mg "step_at" = some (.ref f)) : Fnn P w K mg base false 1 "step_at" 3 F_step_at := by
  have bd : Binds K fd ["thing", "state", "place"] [] := D.bindsN fun _ _ _ _ _ _ us hl => match us, hl with | [_, _, _], _ => rfl
  have S := sc_step_at
  exact fnn_of D hm S bd (by decide) (fun cv A out st H E rm gd =>
    (mss_one (ms_ret (me_ix (hu_of rm) (me_ix (hu_of rm) (me_fld Kx.ca Kx.nf_own_rows (me_V (pe_var (i := 0) rfl (.inl rfl)))) (me_V (pe_var (i := 1) rfl (.inl rfl)))) (me_V (pe_var (i := 2) rfl (.inl rfl)))))))

def c_run_of_2 : FS := sRet (eTup (aCons (eV 4) (aCons (eV 3) (aNil))))
def b_run_of_2 : FS := c_run_of_2
def c_run_of_1 : FS := sFor (iSeq (eV 2)) (gN 5) (sSeq (sAsg (gT 2 (gCons (gN 6) (gCons (gN 3) (gNil)))) (eCall 3 F_step_at (aCons (eV 0) (aCons (eV 3) (aCons (eV 5) (aNil)))))) (sExpr (eMut mAppend 4 (aCons (eV 6) (aNil)))))
def b_run_of_1 : FS := sSeq c_run_of_1 b_run_of_2
def c_run_of_0 : FS := sPar [3, 4] (kCons (eV 1) (kCons (eLst (aNil)) (kNil)))
def b_run_of_0 : FS := sSeq c_run_of_0 b_run_of_1
abbrev b_run_of : FS := b_run_of_0
def F_run_of : FD := runD 7 b_run_of
theorem sc_run_of : FnScope ["thing", "state", "places", "here", "answers", "place", "answer"] ["thing", "state", "places"] (defScope (top 38)) := ⟨rfl, rfl, rfl, by decide +kernel, rfl, by decide +kernel, by decide +kernel⟩
theorem ok_run_of (B : Bl mg) (H_step_at : Fnn P w K mg base false 1 "step_at" 3 F_step_at) (D : FunD K "run_of" "run_of" (defArgs (top 38)) (defBody (top 38)) (defScope (top 38)) [] [] f fd) (hm : mg "run_of" = some (.ref f)) : Fnn P w K mg base false 2 "run_of" 3 F_run_of := by
  have bd : Binds K fd ["thing", "state", "places"] [] := D.bindsN fun _ _ _ _ _ _ us hl => match us, hl with | [_, _, _], _ => rfl
  have S := sc_run_of
  exact fnn_of D hm S bd (by decide) (fun cv A out st H E rm gd =>
    (mss_cons (ms_par (i := 3) (j := 4) rfl S.nd rfl rfl (by decide) rfl rfl (mk_cons (me_V (pe_var (i := 1) rfl (.inl rfl))) (mk_cons (me_lst ma_nil) mk_nil)) (by rfl))
    (mss_cons (ms_for passD rfl (mi_seq (me_V (pe_var (i := 2) rfl (.inl rfl)))) (mg_name (i := 5) S.nd rfl (.inl rfl)) (mss_cons (ms_asg (me_fn H_step_at rm (fun z => Bool.noConfusion z) takesD (by rfl) (ma_cons (me_V (pe_var (i := 0) rfl (.inl rfl))) (ma_cons (me_V (pe_var (i := 3) rfl (.inl rfl))) (ma_cons (me_V (pe_var (i := 5) rfl (.inl rfl))) ma_nil)))) (mg_tup rfl (mgs_cons (mg_name (i := 6) S.nd rfl (.inl rfl)) (mgs_cons (mg_name (i := 3) S.nd rfl (.inl rfl)) mgs_nil))))
    (mss_one (ms_expr (me_mut PySem.F.slot_list_append PySem.F.type_list_append mt_append p_append (pe_var (i := 4) rfl (.inl rfl)) (ma_cons (me_V (pe_var (i := 6) rfl (.inl rfl))) ma_nil))))))
    (mss_one (ms_ret (me_tup (ma_cons (me_V (pe_var (i := 4) rfl (.inl rfl))) (ma_cons (me_V (pe_var (i := 3) rfl (.inl rfl))) ma_nil))))))))

noncomputable def c_states_met_2 : FS := sRet (eG 3)
noncomputable def b_states_met_2 : FS := c_states_met_2
noncomputable def c_states_met_1 : FS := sWhile (bB (e2 oLt (eV 4) (e1n oLen 3))) (sSeq (sFor (iSeq (eV 2)) (gN 5) (sSeq (sSet 6 (e2 oIx (eCall 3 F_step_at (aCons (eV 0) (aCons (e2n oIx 3 (eV 4)) (aCons (eV 5) (aNil))))) (eC (.int 1)))) (sIf (bB (e2m oNin (eV 6) 3)) (sExpr (eMut mAppend 3 (aCons (eV 6) (aNil)))) (sNext)))) (sAug (fun i j => i + j) 4 (eC (.int 1))))
noncomputable def b_states_met_1 : FS := sSeq c_states_met_1 b_states_met_2
noncomputable def c_states_met_0 : FS := sPar [3, 4] (kCons (eLst (aCons (eV 1) (aNil))) (kCons (eC (.int 0)) (kNil)))
noncomputable def b_states_met_0 : FS := sSeq c_states_met_0 b_states_met_1
noncomputable abbrev b_states_met : FS := b_states_met_0
noncomputable def F_states_met : FD := runD 7 b_states_met
theorem sc_states_met : FnScope ["thing", "state", "places", "found", "at", "place", "later"] ["thing", "state", "places"] (defScope (top 39)) := ⟨rfl, rfl, rfl, by decide +kernel, rfl, by decide +kernel, by decide +kernel⟩
theorem ok_states_met (B : Bl mg) (H_step_at : Fnn P w K mg base false 1 "step_at" 3 F_step_at) (D : FunD K "states_met" "states_met" (defArgs (top 39)) (defBody (top 39)) (defScope (top 39)) [] [] f fd) (hm : mg "states_met" = some (.ref f)) : Fnn P w K mg base false 2 "states_met" 3 F_states_met := by
  have bd : Binds K fd ["thing", "state", "places"] [] := D.bindsN fun _ _ _ _ _ _ us hl => match us, hl with | [_, _, _], _ => rfl
  have S := sc_states_met
  exact fnn_of D hm S bd (by decide) (fun cv A out st H E rm gd =>
    (mss_cons (ms_par (i := 3) (j := 4) rfl S.nd rfl rfl (by decide) rfl rfl (mk_cons (me_lst (ma_cons (me_V (pe_var (i := 1) rfl (.inl rfl))) ma_nil)) (mk_cons me_int mk_nil)) (by rfl))
    (mss_cons (ms_while passD (mt_lt (me_V (pe_var (i := 4) rfl (.inl rfl))) (me_b1N call_len p_len (by rfl) B.len (by decide +kernel) (pe_var (i := 3) rfl (.inl rfl)))) (mss_cons (ms_for passD rfl (mi_seq (me_V (pe_var (i := 2) rfl (.inl rfl)))) (mg_name (i := 5) S.nd rfl (.inl rfl)) (mss_cons (ms_set (i := 6) S.nd rfl (.inl rfl) (me_ix (hu_of rm) (me_fn H_step_at rm (fun z => Bool.noConfusion z) takesD (by rfl) (ma_cons (me_V (pe_var (i := 0) rfl (.inl rfl))) (ma_cons (me_ixN (hu_of rm) (pe_var (i := 3) rfl (.inl rfl)) (me_V (pe_var (i := 4) rfl (.inl rfl)))) (ma_cons (me_V (pe_var (i := 5) rfl (.inl rfl))) ma_nil)))) me_int))
    (mss_one (ms_if (mt_ninN (hu_of rm) (me_V (pe_var (i := 6) rfl (.inl rfl))) (pe_var (i := 3) rfl (.inl rfl))) (mss_one (ms_expr (me_mut PySem.F.slot_list_append PySem.F.type_list_append mt_append p_append (pe_var (i := 3) rfl (.inl rfl)) (ma_cons (me_V (pe_var (i := 6) rfl (.inl rfl))) ma_nil)))) mss_nil))))
    (mss_one (ms_aug (i := 4) S.nd rfl (.inl rfl) me_int))))
    (mss_one (ms_ret (me_G (pe_var (i := 3) rfl (.inl rfl))))))))

def c_with_states_3 : FS := sRet (eCall 2 F_made_thing (aCons (eLc (iSeq (eV 1)) (gN 8) (bTrue) (e2 oIx (e1 (oFld csI "own_deeds") (eV 0)) (eV 8)) [8]) (aCons (eV 6) (aNil))))
def b_with_states_3 : FS := c_with_states_3
def c_with_states_2 : FS := sFor (iSeq (eV 2)) (gN 5) (sSeq (sSet 7 (eLc (iSeq (eV 1)) (gN 8) (bTrue) (eCall 3 F_step_at (aCons (eV 0) (aCons (eV 5) (aCons (eV 8) (aNil))))) [8])) (sExpr (eMut mAppend 6 (aCons (eLc (iSeq (eV 7)) (gT 2 (gCons (gN 9) (gCons (gN 10) (gNil)))) (bTrue) (eTup (aCons (eV 9) (aCons (e2n oIx 3 (eV 10)) (aNil)))) [9, 10]) (aNil)))))
def b_with_states_2 : FS := sSeq c_with_states_2 b_with_states_3
def c_with_states_1 : FS := sSet 6 (eLst (aNil))
def b_with_states_1 : FS := sSeq c_with_states_1 b_with_states_2
def c_with_states_0 : FS := sSet 3 (eDc (iEnumT (eV 2)) (gT 2 (gCons (gN 4) (gCons (gN 5) (gNil)))) (bTrue) (eV 5) (eV 4) [4, 5])
def b_with_states_0 : FS := sSeq c_with_states_0 b_with_states_1
abbrev b_with_states : FS := b_with_states_0
def F_with_states : FD := runD 11 b_with_states
theorem sc_with_states : FnScope ["thing", "places", "order", "number", "position", "state", "rows", "entries", "place", "answer", "later"] ["thing", "places", "order"] (defScope (top 40)) := ⟨rfl, rfl, rfl, by decide +kernel, rfl, by decide +kernel, by decide +kernel⟩
theorem ok_with_states (B : Bl mg) (Kx : Kx P w K mg base) (H_step_at : Fnn P w K mg base false 1 "step_at" 3 F_step_at) (H_made_thing : Fnn P w K mg base false 10 "made_thing" 2 F_made_thing) (D : FunD K "with_states" "with_states" (defArgs (top 40)) (defBody (top 40)) (defScope (top 40)) [] [] f fd) (hm : mg "with_states" = some (.ref f)) : Fnn P w K mg base false 11 "with_states" 3 F_with_states := by
  have bd : Binds K fd ["thing", "places", "order"] [] := D.bindsN fun _ _ _ _ _ _ us hl => match us, hl with | [_, _, _], _ => rfl
  have S := sc_with_states
  exact fnn_of D hm S bd (by decide) (fun cv A out st H E rm gd =>
    (mss_cons (ms_set (i := 3) S.nd rfl (.inr rfl) (me_dc rfl S.nd (mi_enumT (by rfl) B.enumerate (me_V (pe_var (i := 2) rfl (.inl rfl)))) (blkOk_by (own := [("position", 4), ("state", 5)]) (by kernel_rfl)) (fun _ _ _ _ _ => (mg_tup rfl (mgs_cons (mg_name (i := 4) S.nd rfl (.inl rfl)) (mgs_cons (mg_name (i := 5) S.nd rfl (.inl rfl)) mgs_nil)))) (fun _ _ _ _ _ => mts_nil) (fun _ _ _ _ _ => (me_V (pe_var (i := 5) rfl (.inl rfl)))) (fun _ _ _ _ _ => (me_V (pe_var (i := 4) rfl (.inl rfl))))))
    (mss_cons (ms_set (i := 6) S.nd rfl (.inl rfl) (me_lst ma_nil))
    (mss_cons (ms_for passD rfl (mi_seq (me_V (pe_var (i := 2) rfl (.inl rfl)))) (mg_name (i := 5) S.nd rfl (.inr rfl)) (mss_cons (ms_setLc (i := 7) rfl S.nd rfl rfl (sw_true rfl rfl rfl (by decide +kernel)) (mi_seq (me_V (pe_var (i := 1) rfl (.inl rfl)))) (blkOk_by (own := [("place", 8)]) (by kernel_rfl)) (fun _ _ _ _ _ => (mg_name (i := 8) S.nd rfl (.inl rfl))) (fun _ _ _ _ _ => mts_nil) (fun _ _ _ _ _ => (me_fn H_step_at rm (fun z => Bool.noConfusion z) takes0 (by rfl) (ma_cons (me_V (pe_var (i := 0) rfl (.inr (.inl rfl)))) (ma_cons (me_V (pe_var (i := 5) rfl (.inr (.inl rfl)))) (ma_cons (me_V (pe_var (i := 8) rfl (.inl rfl))) ma_nil))))))
    (mss_one (ms_expr (me_mut PySem.F.slot_list_append PySem.F.type_list_append mt_append p_append (pe_var (i := 6) rfl (.inl rfl)) (ma_cons (me_lc rfl S.nd (mi_seq (me_V (pe_var (i := 7) rfl (.inl rfl)))) (blkOk_by (own := [("answer", 9), ("later", 10)]) (by kernel_rfl)) (fun _ _ _ _ _ => (mg_tup rfl (mgs_cons (mg_name (i := 9) S.nd rfl (.inl rfl)) (mgs_cons (mg_name (i := 10) S.nd rfl (.inl rfl)) mgs_nil)))) (fun _ _ _ _ _ => mts_nil) (fun _ _ _ _ _ => (me_tup (ma_cons (me_V (pe_var (i := 9) rfl (.inl rfl))) (ma_cons (me_ixN (hu_of rm) (pe_var (i := 3) rfl (.inr (.inl rfl))) (me_V (pe_var (i := 10) rfl (.inl rfl)))) ma_nil))))) ma_nil))))))
    (mss_one (ms_ret (me_fn H_made_thing rm (fun z => Bool.noConfusion z) takesD (by rfl) (ma_cons (me_lc rfl S.nd (mi_seq (me_V (pe_var (i := 1) rfl (.inl rfl)))) (blkOk_by (own := [("place", 8)]) (by kernel_rfl)) (fun _ _ _ _ _ => (mg_name (i := 8) S.nd rfl (.inl rfl))) (fun _ _ _ _ _ => mts_nil) (fun _ _ _ _ _ => (me_ix (hu_of rm) (me_fld Kx.ca Kx.nf_own_deeds (me_V (pe_var (i := 0) rfl (.inr (.inl rfl))))) (me_V (pe_var (i := 8) rfl (.inl rfl)))))) (ma_cons (me_V (pe_var (i := 6) rfl (.inl rfl))) ma_nil)))))))))

def c_Thing_deeds_0 : FS := sRet (e1 oToList (e1 (oFld csI "own_deeds") (eV 0)))
def b_Thing_deeds_0 : FS := c_Thing_deeds_0
abbrev b_Thing_deeds : FS := b_Thing_deeds_0
def F_Thing_deeds : FD := runD 1 b_Thing_deeds
theorem sc_Thing_deeds : FnScope ["self"] ["self"] (defScope (inClass (top 30) 1)) := ⟨rfl, rfl, rfl, by decide +kernel, rfl, by decide +kernel, by decide +kernel⟩
theorem ok_Thing_deeds (B : Bl mg) (Kx : Kx P w K mg base) {pA : Addr} (D : FunD K "deeds" "Thing.deeds" (defArgs (inClass (top 30) 1)) (defBody (inClass (top 30) 1)) (defScope (inClass (top 30) 1)) [] [] f fd) (pr : PropOf K (He.ga K "Thing") "deeds" pA f) (cl : Cls K (He.ga K "Thing")) : Pr P w K mg base false 1 "Thing" "deeds" F_Thing_deeds := by
  have S := sc_Thing_deeds
  have Gf : FnG P w K mg base false 1 f fd ["self"] (spM K 1 F_Thing_deeds) := fnG_of D S (fun _ _ _ _ h => h.1) fun cv A out st H vs Q E rm gd h =>
    ⟨_, ((mss_one (ms_ret (me_t1 call_list_of p_toList (by rfl) B.list (by decide +kernel) (me_fld Kx.ca Kx.nf_own_deeds (me_V (pe_var (i := 0) rfl (.inl rfl))))))) : MSs _ (WE0 E) 1 _ b_Thing_deeds), runD_ok (N := ["self"]) (by decide) h⟩
  exact ⟨pA, f, fd, _, cl, pr, Gf, fun a s _ => FunD.kb D (fun _ _ _ _ _ _ => rfl) s⟩

def c_Thing_rows_0 : FS := sRet (eLc (iSeq (e1 (oFld csI "own_rows") (eV 0))) (gN 1) (bTrue) (e1 oToList (eV 1)) [1])
def b_Thing_rows_0 : FS := c_Thing_rows_0
abbrev b_Thing_rows : FS := b_Thing_rows_0
def F_Thing_rows : FD := runD 2 b_Thing_rows
theorem sc_Thing_rows : FnScope ["self", "row"] ["self"] (defScope (inClass (top 30) 3)) := ⟨rfl, rfl, rfl, by decide +kernel, rfl, by decide +kernel, by decide +kernel⟩
theorem ok_Thing_rows (B : Bl mg) (Kx : Kx P w K mg base) (D : FunD K "rows" "Thing.rows" (defArgs (inClass (top 30) 3)) (defBody (inClass (top 30) 3)) (defScope (inClass (top 30) 3)) [] [] f fd) (hm : Meth K (He.ga K "Thing") "rows" f ∧ PySem.W.fnIn K f = true) (cl : Cls K (He.ga K "Thing")) : Mt P w K mg base false 1 "Thing" "rows" [] F_Thing_rows := by
  have S := sc_Thing_rows
  have Gf : FnG P w K mg base false 1 f fd ["self"] (spM K 1 F_Thing_rows) := fnG_of D S (fun _ _ _ _ h => h.1) fun cv A out st H vs Q E rm gd h =>
    ⟨_, ((mss_one (ms_ret (me_lc rfl S.nd (mi_seq (me_fld Kx.ca Kx.nf_own_rows (me_V (pe_var (i := 0) rfl (.inl rfl))))) (blkOk_by (own := [("row", 1)]) (by kernel_rfl)) (fun _ _ _ _ _ => (mg_name (i := 1) S.nd rfl (.inl rfl))) (fun _ _ _ _ _ => mts_nil) (fun _ _ _ _ _ => (me_t1 call_list_of p_toList (by rfl) B.list (by decide +kernel) (me_V (pe_var (i := 1) rfl (.inl rfl)))))))) : MSs _ (WE0 E) 1 _ b_Thing_rows), runD_ok (N := ["self", "row"]) (by decide) h⟩
  exact ⟨f, fd, _, cl, hm.1, Gf, fun a s us hl _ => match us, hl with | [], _ => FunD.kb D (fun _ _ _ _ _ _ => rfl) s, fun a s us hl _ => match us, hl with | [], _ => FunD.kb D (fun _ _ _ _ _ _ => rfl) s, fun a s us hl _ => match us, hl with | [], _ => FunD.kb D (fun _ _ _ _ _ _ => rfl) s, hm.2⟩

def c_Thing___call___2 : FS := sRet (eCall 3 F_step_at (aCons (eV 0) (aCons (eV 1) (aCons (eCall 2 F_place_of (aCons (eV 0) (aCons (eV 2) (aNil)))) (aNil)))))
def b_Thing___call___2 : FS := c_Thing___call___2
def c_Thing___call___1 : FS := sExpr (eCall 2 F_want_deed (aCons (eV 0) (aCons (eV 2) (aNil))))
def b_Thing___call___1 : FS := sSeq c_Thing___call___1 b_Thing___call___2
def c_Thing___call___0 : FS := sExpr (eCall 2 F_want_state (aCons (eV 0) (aCons (eV 1) (aNil))))
def b_Thing___call___0 : FS := sSeq c_Thing___call___0 b_Thing___call___1
abbrev b_Thing___call__ : FS := b_Thing___call___0
def F_Thing___call__ : FD := runD 3 b_Thing___call__
theorem sc_Thing___call__ : FnScope ["self", "state", "deed"] ["self", "state", "deed"] (defScope (inClass (top 30) 4)) := ⟨rfl, rfl, rfl, by decide +kernel, rfl, by decide +kernel, by decide +kernel⟩
theorem ok_Thing___call__ (B : Bl mg) (H_want_state : Fnn P w K mg base false 5 "want_state" 2 F_want_state) (H_want_deed : Fnn P w K mg base false 3 "want_deed" 2 F_want_deed) (H_step_at : Fnn P w K mg base false 1 "step_at" 3 F_step_at) (H_place_of : Fnn P w K mg base false 1 "place_of" 2 F_place_of) (D : FunD K "__call__" "Thing.__call__" (defArgs (inClass (top 30) 4)) (defBody (inClass (top 30) 4)) (defScope (inClass (top 30) 4)) [] [] f fd) (hm : Meth K (He.ga K "Thing") "__call__" f ∧ PySem.W.fnIn K f = true) (cl : Cls K (He.ga K "Thing")) : Mt P w K mg base false 6 "Thing" "__call__" ["state", "deed"] F_Thing___call__ := by
  have S := sc_Thing___call__
  have Gf : FnG P w K mg base false 6 f fd ["self", "state", "deed"] (spM K 3 F_Thing___call__) := fnG_of D S (fun _ _ _ _ h => h.1) fun cv A out st H vs Q E rm gd h =>
    ⟨_, ((mss_cons (ms_expr (me_fn H_want_state rm (fun z => Bool.noConfusion z) takesD (by rfl) (ma_cons (me_V (pe_var (i := 0) rfl (.inl rfl))) (ma_cons (me_V (pe_var (i := 1) rfl (.inl rfl))) ma_nil))))
    (mss_cons (ms_expr (me_fn H_want_deed rm (fun z => Bool.noConfusion z) takesD (by rfl) (ma_cons (me_V (pe_var (i := 0) rfl (.inl rfl))) (ma_cons (me_V (pe_var (i := 2) rfl (.inl rfl))) ma_nil))))
    (mss_one (ms_ret (me_fn H_step_at rm (fun z => Bool.noConfusion z) takesD (by rfl) (ma_cons (me_V (pe_var (i := 0) rfl (.inl rfl))) (ma_cons (me_V (pe_var (i := 1) rfl (.inl rfl))) (ma_cons (me_fn H_place_of rm (fun z => Bool.noConfusion z) takesD (by rfl) (ma_cons (me_V (pe_var (i := 0) rfl (.inl rfl))) (ma_cons (me_V (pe_var (i := 2) rfl (.inl rfl))) ma_nil))) ma_nil)))))))) : MSs _ (WE0 E) 3 _ b_Thing___call__), runD_ok (N := ["self", "state", "deed"]) (by decide) h⟩
  exact ⟨f, fd, _, cl, hm.1, Gf, fun a s us hl _ => match us, hl with | [u0, u1], _ => FunD.kb D (fun _ _ _ _ _ _ => rfl) s, fun a s us hl _ => match us, hl with | [u0, u1], _ => FunD.kb D (fun _ _ _ _ _ _ => rfl) s, fun a s us hl _ => match us, hl with | [u0, u1], _ => FunD.kb D (fun _ _ _ _ _ _ => rfl) s, hm.2⟩

def c_Thing_run_3 : FS := sRet (eCall 3 F_run_of (aCons (eV 0) (aCons (eV 1) (aCons (eLc (iSeq (eV 2)) (gN 4) (bTrue) (eCall 2 F_place_of (aCons (eV 0) (aCons (eV 4) (aNil)))) [4]) (aNil)))))
def b_Thing_run_3 : FS := c_Thing_run_3
def c_Thing_run_2 : FS := sFor (iEnumT (eV 2)) (gT 2 (gCons (gN 3) (gCons (gN 4) (gNil)))) (sIf (bnot (bB (eCall 2 F_is_deed (aCons (eV 0) (aCons (eV 4) (aNil)))))) (sRz "InvalidWord" ["position"] (aCons (eV 3) (aNil))) (sNext))
def b_Thing_run_2 : FS := sSeq c_Thing_run_2 b_Thing_run_3
def c_Thing_run_1 : FS := sIf (bnot (bB (eCall 1 F_is_list (aCons (eV 2) (aNil))))) (sRz "InvalidWord" ["position"] (aCons (eC .non) (aNil))) (sNext)
def b_Thing_run_1 : FS := sSeq c_Thing_run_1 b_Thing_run_2
def c_Thing_run_0 : FS := sExpr (eCall 2 F_want_state (aCons (eV 0) (aCons (eV 1) (aNil))))
def b_Thing_run_0 : FS := sSeq c_Thing_run_0 b_Thing_run_1
abbrev b_Thing_run : FS := b_Thing_run_0
def F_Thing_run : FD := runD 5 b_Thing_run
theorem sc_Thing_run : FnScope ["self", "state", "word", "position", "deed"] ["self", "state", "word"] (defScope (inClass (top 30) 5)) := ⟨rfl, rfl, rfl, by decide +kernel, rfl, by decide +kernel, by decide +kernel⟩
theorem ok_Thing_run (B : Bl mg) (Kx : Kx P w K mg base) (H_want_state : Fnn P w K mg base false 5 "want_state" 2 F_want_state) (H_is_list : Fnn P w K mg base false 1 "is_list" 1 F_is_list) (H_is_deed : Fnn P w K mg base false 1 "is_deed" 2 F_is_deed) (H_run_of : Fnn P w K mg base false 2 "run_of" 3 F_run_of) (H_place_of : Fnn P w K mg base false 1 "place_of" 2 F_place_of) (D : FunD K "run" "Thing.run" (defArgs (inClass (top 30) 5)) (defBody (inClass (top 30) 5)) (defScope (inClass (top 30) 5)) [] [] f fd) (hm : Meth K (He.ga K "Thing") "run" f ∧ PySem.W.fnIn K f = true) (cl : Cls K (He.ga K "Thing")) : Mt P w K mg base false 6 "Thing" "run" ["state", "word"] F_Thing_run := by
  have S := sc_Thing_run
  have Gf : FnG P w K mg base false 6 f fd ["self", "state", "word"] (spM K 3 F_Thing_run) := fnG_of D S (fun _ _ _ _ h => h.1) fun cv A out st H vs Q E rm gd h =>
    ⟨_, ((mss_cons (ms_expr (me_fn H_want_state rm (fun z => Bool.noConfusion z) takesD (by rfl) (ma_cons (me_V (pe_var (i := 0) rfl (.inr (.inl rfl)))) (ma_cons (me_V (pe_var (i := 1) rfl (.inl rfl))) ma_nil))))
    (mss_cons (ms_if (mt_not (mt_val (me_fn H_is_list rm (fun z => Bool.noConfusion z) takesD (by rfl) (ma_cons (me_V (pe_var (i := 2) rfl (.inl rfl))) ma_nil)))) (mss_one (ms_raise rfl Kx.m_InvalidWord (rm.mono (by decide)) takesD (by rfl) (by decide) (ma_cons me_non ma_nil))) mss_nil)
    (mss_cons (ms_for passD rfl (mi_enumT (by rfl) B.enumerate (me_V (pe_var (i := 2) rfl (.inl rfl)))) (mg_tup rfl (mgs_cons (mg_name (i := 3) S.nd rfl (.inl rfl)) (mgs_cons (mg_name (i := 4) S.nd rfl (.inl rfl)) mgs_nil))) (mss_one (ms_if (mt_not (mt_val (me_fn H_is_deed rm (fun z => Bool.noConfusion z) takesD (by rfl) (ma_cons (me_V (pe_var (i := 0) rfl (.inr (.inl rfl)))) (ma_cons (me_V (pe_var (i := 4) rfl (.inl rfl))) ma_nil))))) (mss_one (ms_raise rfl Kx.m_InvalidWord (rm.mono (by decide)) takesD (by rfl) (by decide) (ma_cons (me_V (pe_var (i := 3) rfl (.inl rfl))) ma_nil))) mss_nil)))
    (mss_one (ms_ret (me_fn H_run_of rm (fun z => Bool.noConfusion z) takesD (by rfl) (ma_cons (me_V (pe_var (i := 0) rfl (.inr (.inl rfl)))) (ma_cons (me_V (pe_var (i := 1) rfl (.inl rfl))) (ma_cons (me_lc rfl S.nd (mi_seq (me_V (pe_var (i := 2) rfl (.inl rfl)))) (blkOk_by (own := [("deed", 4)]) (by kernel_rfl)) (fun _ _ _ _ _ => (mg_name (i := 4) S.nd rfl (.inl rfl))) (fun _ _ _ _ _ => mts_nil) (fun _ _ _ _ _ => (me_fn H_place_of rm (fun z => Bool.noConfusion z) takes0 (by rfl) (ma_cons (me_V (pe_var (i := 0) rfl (.inr (.inl rfl)))) (ma_cons (me_V (pe_var (i := 4) rfl (.inl rfl))) ma_nil))))) ma_nil))))))))) : MSs _ (WE0 E) 3 _ b_Thing_run), runD_ok (N := ["self", "state", "word", "position", "deed"]) (by decide) h⟩
  exact ⟨f, fd, _, cl, hm.1, Gf, fun a s us hl _ => match us, hl with | [u0, u1], _ => FunD.kb D (fun _ _ _ _ _ _ => rfl) s, fun a s us hl _ => match us, hl with | [u0, u1], _ => FunD.kb D (fun _ _ _ _ _ _ => rfl) s, fun a s us hl _ => match us, hl with | [u0, u1], _ => FunD.kb D (fun _ _ _ _ _ _ => rfl) s, hm.2⟩

noncomputable def c_Thing_reached_1 : FS := sRet (e1 oSorted (eCall 3 F_states_met (aCons (eV 0) (aCons (eV 1) (aCons (eLrg (e1 oLen (e1 (oFld csI "own_deeds") (eV 0)))) (aNil))))))
noncomputable def b_Thing_reached_1 : FS := c_Thing_reached_1
noncomputable def c_Thing_reached_0 : FS := sExpr (eCall 2 F_want_state (aCons (eV 0) (aCons (eV 1) (aNil))))
noncomputable def b_Thing_reached_0 : FS := sSeq c_Thing_reached_0 b_Thing_reached_1
noncomputable abbrev b_Thing_reached : FS := b_Thing_reached_0
noncomputable def F_Thing_reached : FD := runD 2 b_Thing_reached
theorem sc_Thing_reached : FnScope ["self", "state"] ["self", "state"] (defScope (inClass (top 30) 6)) := ⟨rfl, rfl, rfl, by decide +kernel, rfl, by decide +kernel, by decide +kernel⟩
theorem ok_Thing_reached (B : Bl mg) (Kx : Kx P w K mg base) (H_want_state : Fnn P w K mg base false 5 "want_state" 2 F_want_state) (H_states_met : Fnn P w K mg base false 2 "states_met" 3 F_states_met) (D : FunD K "reached" "Thing.reached" (defArgs (inClass (top 30) 6)) (defBody (inClass (top 30) 6)) (defScope (inClass (top 30) 6)) [] [] f fd) (hm : Meth K (He.ga K "Thing") "reached" f ∧ PySem.W.fnIn K f = true) (cl : Cls K (He.ga K "Thing")) : Mt P w K mg base false 6 "Thing" "reached" ["state"] F_Thing_reached := by
  have S := sc_Thing_reached
  have Gf : FnG P w K mg base false 6 f fd ["self", "state"] (spM K 2 F_Thing_reached) := fnG_of D S (fun _ _ _ _ h => h.1) fun cv A out st H vs Q E rm gd h =>
    ⟨_, ((mss_cons (ms_expr (me_fn H_want_state rm (fun z => Bool.noConfusion z) takesD (by rfl) (ma_cons (me_V (pe_var (i := 0) rfl (.inl rfl))) (ma_cons (me_V (pe_var (i := 1) rfl (.inl rfl))) ma_nil))))
    (mss_one (ms_ret (me_b1 cr_sortedI p_sorted (by rfl) B.sorted (by decide +kernel) (me_fn H_states_met rm (fun z => Bool.noConfusion z) takesD (by rfl) (ma_cons (me_V (pe_var (i := 0) rfl (.inl rfl))) (ma_cons (me_V (pe_var (i := 1) rfl (.inl rfl))) (ma_cons (me_lrg rfl (by rfl) B.list (by rfl) B.range (me_b1 call_len p_len (by rfl) B.len (by decide +kernel) (me_fld Kx.ca Kx.nf_own_deeds (me_V (pe_var (i := 0) rfl (.inl rfl)))))) ma_nil)))))))) : MSs _ (WE0 E) 2 _ b_Thing_reached), runD_ok (N := ["self", "state"]) (by decide) h⟩
  exact ⟨f, fd, _, cl, hm.1, Gf, fun a s us hl _ => match us, hl with | [u0], _ => FunD.kb D (fun _ _ _ _ _ _ => rfl) s, fun a s us hl _ => match us, hl with | [u0], _ => FunD.kb D (fun _ _ _ _ _ _ => rfl) s, fun a s us hl _ => match us, hl with | [u0], _ => FunD.kb D (fun _ _ _ _ _ _ => rfl) s, hm.2⟩

noncomputable def c_Thing_part_4 : FS := sRet (eCall 3 F_with_states (aCons (eV 0) (aCons (eV 5) (aCons (eCall 3 F_states_met (aCons (eV 0) (aCons (eV 1) (aCons (eV 5) (aNil))))) (aNil)))))
noncomputable def b_Thing_part_4 : FS := c_Thing_part_4
noncomputable def c_Thing_part_3 : FS := sSet 5 (eLc (iEnumT (e1 (oFld csI "own_deeds") (eV 0))) (gT 2 (gCons (gN 6) (gCons (gN 4) (gNil)))) (bB (e2m oIn (eV 4) 2)) (eV 6) [4, 6])
noncomputable def b_Thing_part_3 : FS := sSeq c_Thing_part_3 b_Thing_part_4
noncomputable def c_Thing_part_2 : FS := sFor (iEnumT (eV 2)) (gT 2 (gCons (gN 3) (gCons (gN 4) (gNil)))) (sIf (bor (bnot (bB (eCall 2 F_is_deed (aCons (eV 0) (aCons (eV 4) (aNil)))))) (bB (e2 oIn (eV 4) (eSl (eV 2) (fNo) (fPart (eV 3)))))) (sRz "InvalidDeeds" ["position"] (aCons (eV 3) (aNil))) (sNext))
noncomputable def b_Thing_part_2 : FS := sSeq c_Thing_part_2 b_Thing_part_3
noncomputable def c_Thing_part_1 : FS := sIf (bor (bnot (bB (eCall 1 F_is_list (aCons (eV 2) (aNil))))) (bB (e2 oEq (e1n oLen 2) (eC (.int 0))))) (sRz "InvalidDeeds" ["position"] (aCons (eC .non) (aNil))) (sNext)
noncomputable def b_Thing_part_1 : FS := sSeq c_Thing_part_1 b_Thing_part_2
noncomputable def c_Thing_part_0 : FS := sExpr (eCall 2 F_want_state (aCons (eV 0) (aCons (eV 1) (aNil))))
noncomputable def b_Thing_part_0 : FS := sSeq c_Thing_part_0 b_Thing_part_1
noncomputable abbrev b_Thing_part : FS := b_Thing_part_0
noncomputable def F_Thing_part : FD := runD 7 b_Thing_part
theorem sc_Thing_part : FnScope ["self", "state", "deeds", "position", "deed", "places", "place"] ["self", "state", "deeds"] (defScope (inClass (top 30) 7)) := ⟨rfl, rfl, rfl, by decide +kernel, rfl, by decide +kernel, by decide +kernel⟩
theorem ok_Thing_part (B : Bl mg) (Kx : Kx P w K mg base) (H_want_state : Fnn P w K mg base false 5 "want_state" 2 F_want_state) (H_is_list : Fnn P w K mg base false 1 "is_list" 1 F_is_list) (H_is_deed : Fnn P w K mg base false 1 "is_deed" 2 F_is_deed) (H_with_states : Fnn P w K mg base false 11 "with_states" 3 F_with_states) (H_states_met : Fnn P w K mg base false 2 "states_met" 3 F_states_met) (D : FunD K "part" "Thing.part" (defArgs (inClass (top 30) 7)) (defBody (inClass (top 30) 7)) (defScope (inClass (top 30) 7)) [] [] f fd) (hm : Meth K (He.ga K "Thing") "part" f ∧ PySem.W.fnIn K f = true) (cl : Cls K (He.ga K "Thing")) : Mt P w K mg base false 12 "Thing" "part" ["state", "deeds"] F_Thing_part := by
  have S := sc_Thing_part
  have Gf : FnG P w K mg base false 12 f fd ["self", "state", "deeds"] (spM K 3 F_Thing_part) := fnG_of D S (fun _ _ _ _ h => h.1) fun cv A out st H vs Q E rm gd h =>
    ⟨_, ((mss_cons (ms_expr (me_fn H_want_state rm (fun z => Bool.noConfusion z) takesD (by rfl) (ma_cons (me_V (pe_var (i := 0) rfl (.inl rfl))) (ma_cons (me_V (pe_var (i := 1) rfl (.inl rfl))) ma_nil))))
    (mss_cons (ms_if (PW.pt (mt_or (mt_not (mt_val (me_fn H_is_list rm (fun z => Bool.noConfusion z) takesD (by rfl) (ma_cons (me_V (pe_var (i := 2) rfl (.inr (.inl rfl)))) ma_nil)))) (mt_or1 (mt_eq rm.units (me_b1N call_len p_len (by rfl) B.len (by decide +kernel) (pe_var (i := 2) rfl (.inr (.inl rfl)))) me_int)))) (mss_one (ms_raise rfl Kx.m_InvalidDeeds (rm.mono (by decide)) takesD (by rfl) (by decide) (ma_cons me_non ma_nil))) mss_nil)
    (mss_cons (ms_for passD rfl (mi_enumT (by rfl) B.enumerate (me_V (pe_var (i := 2) rfl (.inr (.inl rfl))))) (mg_tup rfl (mgs_cons (mg_name (i := 3) S.nd rfl (.inl rfl)) (mgs_cons (mg_name (i := 4) S.nd rfl (.inl rfl)) mgs_nil))) (mss_one (ms_if (PW.pt (mt_or (mt_not (mt_val (me_fn H_is_deed rm (fun z => Bool.noConfusion z) takesD (by rfl) (ma_cons (me_V (pe_var (i := 0) rfl (.inl rfl))) (ma_cons (me_V (pe_var (i := 4) rfl (.inl rfl))) ma_nil))))) (mt_or1 (mt_in (hu_of rm) (me_V (pe_var (i := 4) rfl (.inl rfl))) (me_sl (me_V (pe_var (i := 2) rfl (.inr (.inl rfl)))) mo_no (mo_part (me_V (pe_var (i := 3) rfl (.inl rfl))))))))) (mss_one (ms_raise rfl Kx.m_InvalidDeeds (rm.mono (by decide)) takesD (by rfl) (by decide) (ma_cons (me_V (pe_var (i := 3) rfl (.inl rfl))) ma_nil))) mss_nil)))
    (mss_cons (ms_setLc (i := 5) rfl S.nd rfl rfl (sw_true rfl rfl rfl (by decide +kernel)) (mi_enumT (by rfl) B.enumerate (me_fld Kx.ca Kx.nf_own_deeds (me_V (pe_var (i := 0) rfl (.inl rfl))))) (blkOk_by (own := [("deed", 4), ("place", 6)]) (by kernel_rfl)) (fun _ _ _ _ _ => (mg_tup rfl (mgs_cons (mg_name (i := 6) S.nd rfl (.inl rfl)) (mgs_cons (mg_name (i := 4) S.nd rfl (.inl rfl)) mgs_nil)))) (fun _ _ _ _ _ => (mts_one (mt_inN (hu_of rm) (me_V (pe_var (i := 4) rfl (.inl rfl))) (pe_var (i := 2) rfl (.inr (.inl rfl)))))) (fun _ _ _ _ _ => (me_V (pe_var (i := 6) rfl (.inl rfl)))))
    (mss_one (ms_ret (me_fn H_with_states rm (fun z => Bool.noConfusion z) takesD (by rfl) (ma_cons (me_V (pe_var (i := 0) rfl (.inl rfl))) (ma_cons (me_V (pe_var (i := 5) rfl (.inl rfl))) (ma_cons (me_fn H_states_met rm (fun z => Bool.noConfusion z) takesD (by rfl) (ma_cons (me_V (pe_var (i := 0) rfl (.inl rfl))) (ma_cons (me_V (pe_var (i := 1) rfl (.inl rfl))) (ma_cons (me_V (pe_var (i := 5) rfl (.inl rfl))) ma_nil)))) ma_nil)))))))))) : MSs _ (WE0 E) 3 _ b_Thing_part), runD_ok (N := ["self", "state", "deeds", "position", "deed", "places", "place"]) (by decide) h⟩
  exact ⟨f, fd, _, cl, hm.1, Gf, fun a s us hl _ => match us, hl with | [u0, u1], _ => FunD.kb D (fun _ _ _ _ _ _ => rfl) s, fun a s us hl _ => match us, hl with | [u0, u1], _ => FunD.kb D (fun _ _ _ _ _ _ => rfl) s, fun a s us hl _ => match us, hl with | [u0, u1], _ => FunD.kb D (fun _ _ _ _ _ _ => rfl) s, hm.2⟩

def c_Thing___len___0 : FS := sRet (e1 oLen (e1 (oFld csI "own_rows") (eV 0)))
def b_Thing___len___0 : FS := c_Thing___len___0
abbrev b_Thing___len__ : FS := b_Thing___len___0
def F_Thing___len__ : FD := runD 1 b_Thing___len__
theorem sc_Thing___len__ : FnScope ["self"] ["self"] (defScope (inClass (top 30) 12)) := ⟨rfl, rfl, rfl, by decide +kernel, rfl, by decide +kernel, by decide +kernel⟩
theorem ok_Thing___len__ (B : Bl mg) (Kx : Kx P w K mg base) (D : FunD K "__len__" "Thing.__len__" (defArgs (inClass (top 30) 12)) (defBody (inClass (top 30) 12)) (defScope (inClass (top 30) 12)) [] [] f fd) (hm : Meth K (He.ga K "Thing") "__len__" f ∧ PySem.W.fnIn K f = true) (cl : Cls K (He.ga K "Thing")) : Mt P w K mg base false 1 "Thing" "__len__" [] F_Thing___len__ := by
  have S := sc_Thing___len__
  have Gf : FnG P w K mg base false 1 f fd ["self"] (spM K 1 F_Thing___len__) := fnG_of D S (fun _ _ _ _ h => h.1) fun cv A out st H vs Q E rm gd h =>
    ⟨_, ((mss_one (ms_ret (me_b1 call_len p_len (by rfl) B.len (by decide +kernel) (me_fld Kx.ca Kx.nf_own_rows (me_V (pe_var (i := 0) rfl (.inl rfl))))))) : MSs _ (WE0 E) 1 _ b_Thing___len__), runD_ok (N := ["self"]) (by decide) h⟩
  exact ⟨f, fd, _, cl, hm.1, Gf, fun a s us hl _ => match us, hl with | [], _ => FunD.kb D (fun _ _ _ _ _ _ => rfl) s, fun a s us hl _ => match us, hl with | [], _ => FunD.kb D (fun _ _ _ _ _ _ => rfl) s, fun a s us hl _ => match us, hl with | [], _ => FunD.kb D (fun _ _ _ _ _ _ => rfl) s, hm.2⟩

def c_Thing___contains___0 : FS := sRet (eCall 2 F_is_deed (aCons (eV 0) (aCons (eV 1) (aNil))))
def b_Thing___contains___0 : FS := c_Thing___contains___0
abbrev b_Thing___contains__ : FS := b_Thing___contains___0
def F_Thing___contains__ : FD := runD 2 b_Thing___contains__
theorem sc_Thing___contains__ : FnScope ["self", "value"] ["self", "value"] (defScope (inClass (top 30) 13)) := ⟨rfl, rfl, rfl, by decide +kernel, rfl, by decide +kernel, by decide +kernel⟩
theorem ok_Thing___contains__ (B : Bl mg) (H_is_deed : Fnn P w K mg base false 1 "is_deed" 2 F_is_deed) (D : FunD K "__contains__" "Thing.__contains__" (defArgs (inClass (top 30) 13)) (defBody (inClass (top 30) 13)) (defScope (inClass (top 30) 13)) [] [] f fd) (hm : Meth K (He.ga K "Thing") "__contains__" f ∧ PySem.W.fnIn K f = true) (cl : Cls K (He.ga K "Thing")) : Mt P w K mg base false 2 "Thing" "__contains__" ["value"] F_Thing___contains__ := by
  have S := sc_Thing___contains__
  have Gf : FnG P w K mg base false 2 f fd ["self", "value"] (spM K 2 F_Thing___contains__) := fnG_of D S (fun _ _ _ _ h => h.1) fun cv A out st H vs Q E rm gd h =>
    ⟨_, ((mss_one (ms_ret (me_fn H_is_deed rm (fun z => Bool.noConfusion z) takesD (by rfl) (ma_cons (me_V (pe_var (i := 0) rfl (.inl rfl))) (ma_cons (me_V (pe_var (i := 1) rfl (.inl rfl))) ma_nil))))) : MSs _ (WE0 E) 2 _ b_Thing___contains__), runD_ok (N := ["self", "value"]) (by decide) h⟩
  exact ⟨f, fd, _, cl, hm.1, Gf, fun a s us hl _ => match us, hl with | [u0], _ => FunD.kb D (fun _ _ _ _ _ _ => rfl) s, fun a s us hl _ => match us, hl with | [u0], _ => FunD.kb D (fun _ _ _ _ _ _ => rfl) s, fun a s us hl _ => match us, hl with | [u0], _ => FunD.kb D (fun _ _ _ _ _ _ => rfl) s, hm.2⟩

def c_Thing___eq___0 : FS := sRet (eAnd (e1 (oIsT (qCls "Thing")) (eV 1)) (eAnd (e2 oEq (e1 (oFld csI "own_deeds") (eV 0)) (e1 (oFld csI "own_deeds") (eV 1))) (e2 oEq (e1 (oFld csI "own_rows") (eV 0)) (e1 (oFld csI "own_rows") (eV 1)))))
def b_Thing___eq___0 : FS := c_Thing___eq___0
abbrev b_Thing___eq__ : FS := b_Thing___eq___0
def F_Thing___eq__ : FD := runD 2 b_Thing___eq__
theorem sc_Thing___eq__ : FnScope ["self", "other"] ["self", "other"] (defScope (inClass (top 30) 14)) := ⟨rfl, rfl, rfl, by decide +kernel, rfl, by decide +kernel, by decide +kernel⟩
theorem ok_Thing___eq__ (B : Bl mg) (Kx : Kx P w K mg base) (D : FunD K "__eq__" "Thing.__eq__" (defArgs (inClass (top 30) 14)) (defBody (inClass (top 30) 14)) (defScope (inClass (top 30) 14)) [] [] f fd) (hm : Meth K (He.ga K "Thing") "__eq__" f ∧ PySem.W.fnIn K f = true) (cl : Cls K (He.ga K "Thing")) : Mt P w K mg base false 1 "Thing" "__eq__" ["other"] F_Thing___eq__ := by
  have S := sc_Thing___eq__
  have Gf : FnG P w K mg base false 1 f fd ["self", "other"] (spM K 2 F_Thing___eq__) := fnG_of D S (fun _ _ _ _ h => h.1) fun cv A out st H vs Q E rm gd h =>
    ⟨_, ((mss_one (ms_ret (me_and (me_isC Kx.ob Kx.cf_Thing (by rfl) B.isinstance (me_V (pe_var (i := 1) rfl (.inl rfl))) (pe_glob (by rfl) Kx.g_Thing rfl)) (me_and (me_eq rm.units (me_fld Kx.ca Kx.nf_own_deeds (me_V (pe_var (i := 0) rfl (.inl rfl)))) (me_fld Kx.ca Kx.nf_own_deeds (me_V (pe_var (i := 1) rfl (.inl rfl))))) (me_one (me_eq rm.units (me_fld Kx.ca Kx.nf_own_rows (me_V (pe_var (i := 0) rfl (.inl rfl)))) (me_fld Kx.ca Kx.nf_own_rows (me_V (pe_var (i := 1) rfl (.inl rfl)))))))))) : MSs _ (WE0 E) 2 _ b_Thing___eq__), runD_ok (N := ["self", "other"]) (by decide) h⟩
  exact ⟨f, fd, _, cl, hm.1, Gf, fun a s us hl _ => match us, hl with | [u0], _ => FunD.kb D (fun _ _ _ _ _ _ => rfl) s, fun a s us hl _ => match us, hl with | [u0], _ => FunD.kb D (fun _ _ _ _ _ _ => rfl) s, fun a s us hl _ => match us, hl with | [u0], _ => FunD.kb D (fun _ _ _ _ _ _ => rfl) s, hm.2⟩

def c_Thing___repr___0 : FS := sRet (eFs [eC (.str "Thing("), e1 oRepr (e1p "Thing" F_Thing_deeds (eV 0)), eC (.str ", "), e1 oRepr (eMeth "Thing" "rows" 1 F_Thing_rows false (eV 0) aNil), eC (.str ")")])
def b_Thing___repr___0 : FS := c_Thing___repr___0
abbrev b_Thing___repr__ : FS := b_Thing___repr___0
def F_Thing___repr__ : FD := runD 1 b_Thing___repr__
theorem sc_Thing___repr__ : FnScope ["self"] ["self"] (defScope (inClass (top 30) 15)) := ⟨rfl, rfl, rfl, by decide +kernel, rfl, by decide +kernel, by decide +kernel⟩
theorem ok_Thing___repr__ (B : Bl mg) (Kx : Kx P w K mg base) (M_Thing_rows : Mt P w K mg base false 1 "Thing" "rows" [] F_Thing_rows) (P_Thing_deeds : Pr P w K mg base false 1 "Thing" "deeds" F_Thing_deeds) (D : FunD K "__repr__" "Thing.__repr__" (defArgs (inClass (top 30) 15)) (defBody (inClass (top 30) 15)) (defScope (inClass (top 30) 15)) [] [] f fd) (hm : Meth K (He.ga K "Thing") "__repr__" f ∧ PySem.W.fnIn K f = true) (cl : Cls K (He.ga K "Thing")) : Mt P w K mg base true 3 "Thing" "__repr__" [] F_Thing___repr__ := by
  have S := sc_Thing___repr__
  have Gf : FnG P w K mg base true 3 f fd ["self"] (spM K 1 F_Thing___repr__) := fnG_of D S (fun _ _ _ _ h => h.1) fun cv A out st H vs Q E rm gd h =>
    ⟨_, ((mss_one (ms_ret (me_fs (.cons me_str (.cons (me_fmtR Kx.sy (gd rfl) rm.units (me_prop P_Thing_deeds (rm.mono (by decide)) (fun z => Bool.noConfusion z) (me_V (pe_var (i := 0) rfl (.inl rfl))))) (.cons me_str (.cons (me_fmtR Kx.sy (gd rfl) rm.units (me_meth0 M_Thing_rows (rm.mono (by decide)) (fun z => Bool.noConfusion z) takesD (me_V (pe_var (i := 0) rfl (.inl rfl))))) (.cons me_str .nil)))))))) : MSs _ (WE0 E) 1 _ b_Thing___repr__), runD_ok (N := ["self"]) (by decide) h⟩
  exact ⟨f, fd, _, cl, hm.1, Gf, fun a s us hl _ => match us, hl with | [], _ => FunD.kb D (fun _ _ _ _ _ _ => rfl) s, fun a s us hl _ => match us, hl with | [], _ => FunD.kb D (fun _ _ _ _ _ _ => rfl) s, fun a s us hl _ => match us, hl with | [], _ => FunD.kb D (fun _ _ _ _ _ _ => rfl) s, hm.2⟩

def c__law_pot_2 : FS := sRet (eLst (aCons (e2 oMax (eC (.int 0)) (e2 oSub (eV 2) (e2 oPow (eC (.int 10)) (eC (.int 18))))) (aCons (e2 oAdd (e2 oMod (e1 oToInt (e2 oAdd (e2 oAdd (e2 oMul (e2 oMod (e1 oToInt (eV 2)) (eC (.int 2147483563))) (eC (.int 48271))) (e2 oMul (eC (.int 4073)) (eV 1))) (eC (.int 47)))) (eC (.int 2147483543))) (eC (.int 1))) (aNil))))
def b__law_pot_2 : FS := c__law_pot_2
def c__law_pot_1 : FS := sIf (bB (e2 oLt (eV 1) (e1n oLen 0))) (sSet 2 (e1 oAbs (e2n oIx 0 (eV 1)))) (sNext)
def b__law_pot_1 : FS := sSeq c__law_pot_1 b__law_pot_2
def c__law_pot_0 : FS := sSet 2 (e2 oAdd (e2 oMul (eC (.int 61)) (eV 1)) (eC (.int 31)))
def b__law_pot_0 : FS := sSeq c__law_pot_0 b__law_pot_1
abbrev b__law_pot : FS := b__law_pot_0
def F__law_pot : FD := runD 3 b__law_pot
theorem sc__law_pot : FnScope ["_law_script", "_law_k", "_law_cell"] ["_law_script", "_law_k"] (defScope (top 43)) := ⟨rfl, rfl, rfl, by decide +kernel, rfl, by decide +kernel, by decide +kernel⟩
theorem ok__law_pot (B : Bl mg)  (D : FunD K "_law_pot" "_law_pot" (defArgs (top 43)) (defBody (top 43)) (defScope (top 43)) [] [] f fd) (hm : mg "_law_pot" = some (.ref f)) : Fnn P w K mg base false 1 "_law_pot" 2 F__law_pot := by
  have bd : Binds K fd ["_law_script", "_law_k"] [] := D.bindsN fun _ _ _ _ _ _ us hl => match us, hl with | [_, _], _ => rfl
  have S := sc__law_pot
  exact fnn_of D hm S bd (by decide) (fun cv A out st H E rm gd =>
    (mss_cons (ms_set (i := 2) S.nd rfl (.inl rfl) (me_add (me_mul me_int (me_V (pe_var (i := 1) rfl (.inl rfl)))) me_int))
    (mss_cons (ms_if (mt_lt (me_V (pe_var (i := 1) rfl (.inl rfl))) (me_b1N call_len p_len (by rfl) B.len (by decide +kernel) (pe_var (i := 0) rfl (.inl rfl)))) (mss_one (ms_set (i := 2) S.nd rfl (.inl rfl) (me_b1 call_abs p_abs (by rfl) B.abs (by decide +kernel) (me_ixN (hu_of rm) (pe_var (i := 0) rfl (.inl rfl)) (me_V (pe_var (i := 1) rfl (.inl rfl))))))) mss_nil)
    (mss_one (ms_ret (me_lst (ma_cons (me_b2 (call_max2 rfl) p_max (by rfl) B.max (by decide +kernel) me_int (me_sub (me_V (pe_var (i := 2) rfl (.inl rfl))) (me_pow me_int me_int))) (ma_cons (me_add (me_mod (me_t1 call_int1 p_toInt (by rfl) B.int (by decide +kernel) (me_add (me_add (me_mul (me_mod (me_t1 call_int1 p_toInt (by rfl) B.int (by decide +kernel) (me_V (pe_var (i := 2) rfl (.inl rfl)))) me_int) me_int) (me_mul me_int (me_V (pe_var (i := 1) rfl (.inl rfl))))) me_int)) me_int) me_int) ma_nil))))))))

def c__law_draw_2 : FS := sRet (e2 oMod (e1 oToInt (e2 oDiv (e2 oMod (e1 oToInt (e2 oMul (e2n oIx 0 (eC (.int 1))) (e2n oIx 0 (eC (.int 1))))) (eC (.int 2147483563))) (eC (.int 19)))) (eV 1))
def b__law_draw_2 : FS := c__law_draw_2
def c__law_draw_1 : FS := sAsg (gIx 0 (eC (.int 1))) (e2 oMod (e1 oToInt (e2 oAdd (e2 oMul (e2n oIx 0 (eC (.int 1))) (eC (.int 48271))) (eC (.int 22447)))) (eC (.int 2147483543)))
def b__law_draw_1 : FS := sSeq c__law_draw_1 b__law_draw_2
def c__law_draw_0 : FS := sIf (bB (e2 oGt (e2n oIx 0 (eC (.int 0))) (eC (.int 0)))) (sSeq (sAsg (gT 2 (gCons (gIx 0 (eC (.int 0))) (gCons (gN 2) (gNil)))) (e2 oDivmod (e2n oIx 0 (eC (.int 0))) (eV 1))) (sRet (eG 2))) (sNext)
def b__law_draw_0 : FS := sSeq c__law_draw_0 b__law_draw_1
abbrev b__law_draw : FS := b__law_draw_0
def F__law_draw : FD := runD 3 b__law_draw
theorem sc__law_draw : FnScope ["_law_pot_here", "_law_many", "_law_digit"] ["_law_pot_here", "_law_many"] (defScope (top 44)) := ⟨rfl, rfl, rfl, by decide +kernel, rfl, by decide +kernel, by decide +kernel⟩
theorem ok__law_draw (B : Bl mg)  (D : FunD K "_law_draw" "_law_draw" (defArgs (top 44)) (defBody (top 44)) (defScope (top 44)) [] [] f fd) (hm : mg "_law_draw" = some (.ref f)) : Fnn P w K mg base false 1 "_law_draw" 2 F__law_draw := by
  have bd : Binds K fd ["_law_pot_here", "_law_many"] [] := D.bindsN fun _ _ _ _ _ _ us hl => match us, hl with | [_, _], _ => rfl
  have S := sc__law_draw
  exact fnn_of D hm S bd (by decide) (fun cv A out st H E rm gd =>
    (mss_cons (ms_if (mt_gt (me_ixN (hu_of rm) (pe_var (i := 0) rfl (.inl rfl)) me_int) me_int) (mss_cons (ms_asg (me_b2 call_divmod p_divmod (by rfl) B.divmod (by decide +kernel) (me_ixN (hu_of rm) (pe_var (i := 0) rfl (.inl rfl)) me_int) (me_V (pe_var (i := 1) rfl (.inl rfl)))) (mg_tup rfl (mgs_cons (mg_ix (pe_var (i := 0) rfl (.inl rfl)) me_int) (mgs_cons (mg_name (i := 2) S.nd rfl (.inl rfl)) mgs_nil))))
    (mss_one (ms_ret (me_G (pe_var (i := 2) rfl (.inl rfl)))))) mss_nil)
    (mss_cons (ms_asg (me_mod (me_t1 call_int1 p_toInt (by rfl) B.int (by decide +kernel) (me_add (me_mul (me_ixN (hu_of rm) (pe_var (i := 0) rfl (.inl rfl)) me_int) me_int) me_int)) me_int) (mg_ix (pe_var (i := 0) rfl (.inl rfl)) me_int))
    (mss_one (ms_ret (me_mod (me_t1 call_int1 p_toInt (by rfl) B.int (by decide +kernel) (me_div (me_mod (me_t1 call_int1 p_toInt (by rfl) B.int (by decide +kernel) (me_mul (me_ixN (hu_of rm) (pe_var (i := 0) rfl (.inl rfl)) me_int) (me_ixN (hu_of rm) (pe_var (i := 0) rfl (.inl rfl)) me_int))) me_int) me_int)) (me_V (pe_var (i := 1) rfl (.inl rfl)))))))))

def c__law_pick_0 : FS := sRet (e2n oIx 1 (eCall 2 F__law_draw (aMu 0 (aCons (e1n oLen 1) (aNil)))))
def b__law_pick_0 : FS := c__law_pick_0
abbrev b__law_pick : FS := b__law_pick_0
def F__law_pick : FD := runD 2 b__law_pick
theorem sc__law_pick : FnScope ["_law_pot_here", "_law_some"] ["_law_pot_here", "_law_some"] (defScope (top 45)) := ⟨rfl, rfl, rfl, by decide +kernel, rfl, by decide +kernel, by decide +kernel⟩
theorem ok__law_pick (B : Bl mg) (H__law_draw : Fnn P w K mg base false 1 "_law_draw" 2 F__law_draw) (D : FunD K "_law_pick" "_law_pick" (defArgs (top 45)) (defBody (top 45)) (defScope (top 45)) [] [] f fd) (hm : mg "_law_pick" = some (.ref f)) : Fnn P w K mg base false 2 "_law_pick" 2 F__law_pick := by
  have bd : Binds K fd ["_law_pot_here", "_law_some"] [] := D.bindsN fun _ _ _ _ _ _ us hl => match us, hl with | [_, _], _ => rfl
  have S := sc__law_pick
  exact fnn_of D hm S bd (by decide) (fun cv A out st H E rm gd =>
    (mss_one (ms_ret (me_ixN (hu_of rm) (pe_var (i := 1) rfl (.inl rfl)) (me_fn H__law_draw rm (fun z => Bool.noConfusion z) takesD (by rfl) (ma_mu (pe_var (i := 0) rfl (.inl rfl)) (ma_cons (me_b1N call_len p_len (by rfl) B.len (by decide +kernel) (pe_var (i := 1) rfl (.inl rfl))) ma_nil)))))))

def c__law_mixed_1 : FS := sRet (eLc (iRng1 (e1n oLen 1)) (gN 3) (bTrue) (eMut mPop 2 (aCons (eCall 2 F__law_draw (aMu 0 (aCons (e1n oLen 2) (aNil)))) (aNil))) [3])
def b__law_mixed_1 : FS := c__law_mixed_1
def c__law_mixed_0 : FS := sSet 2 (e1 oToList (eV 1))
def b__law_mixed_0 : FS := sSeq c__law_mixed_0 b__law_mixed_1
abbrev b__law_mixed : FS := b__law_mixed_0
def F__law_mixed : FD := runD 4 b__law_mixed
theorem sc__law_mixed : FnScope ["_law_pot_here", "_law_some", "_law_pack", "_law_turn"] ["_law_pot_here", "_law_some"] (defScope (top 46)) := ⟨rfl, rfl, rfl, by decide +kernel, rfl, by decide +kernel, by decide +kernel⟩
theorem ok__law_mixed (B : Bl mg) (H__law_draw : Fnn P w K mg base false 1 "_law_draw" 2 F__law_draw) (D : FunD K "_law_mixed" "_law_mixed" (defArgs (top 46)) (defBody (top 46)) (defScope (top 46)) [] [] f fd) (hm : mg "_law_mixed" = some (.ref f)) : Fnn P w K mg base false 2 "_law_mixed" 2 F__law_mixed := by
  have bd : Binds K fd ["_law_pot_here", "_law_some"] [] := D.bindsN fun _ _ _ _ _ _ us hl => match us, hl with | [_, _], _ => rfl
  have S := sc__law_mixed
  exact fnn_of D hm S bd (by decide) (fun cv A out st H E rm gd =>
    (mss_cons (ms_set (i := 2) S.nd rfl (.inr rfl) (me_t1 call_list_of p_toList (by rfl) B.list (by decide +kernel) (me_V (pe_var (i := 1) rfl (.inl rfl)))))
    (mss_one (ms_ret (me_lc rfl S.nd (mi_rng1 (by rfl) B.range (me_b1N call_len p_len (by rfl) B.len (by decide +kernel) (pe_var (i := 1) rfl (.inl rfl)))) (blkOk_by (own := [("_law_turn", 3)]) (by kernel_rfl)) (fun _ _ _ _ _ => (mg_name (i := 3) S.nd rfl (.inl rfl))) (fun _ _ _ _ _ => mts_nil) (fun _ _ _ _ _ => (me_mut PySem.F.slot_list_pop PySem.F.type_list_pop mt_popAt p_pop (pe_var (i := 2) rfl (.inr (.inl rfl))) (ma_cons (me_fn H__law_draw rm (fun z => Bool.noConfusion z) takes0 (by rfl) (ma_mu (pe_var (i := 0) rfl (.inr (.inl rfl))) (ma_cons (me_b1N call_len p_len (by rfl) B.len (by decide +kernel) (pe_var (i := 2) rfl (.inr (.inl rfl)))) ma_nil))) ma_nil))))))))

def c__law_names_2 : FS := sRet (eG 3)
def b__law_names_2 : FS := c__law_names_2
def c__law_names_1 : FS := sFor (iRng1 (eV 1)) (gN 4) (sSeq (sSet 5 (eStr1 oJoin (eC (.str "")) (eLc (iRng1 (e2 oAdd (eC (.int 1)) (eCall 2 F__law_pick (aMu 0 (aCons (eLst (aCons (eC (.int 0)) (aCons (eC (.int 0)) (aCons (eC (.int 0)) (aCons (eC (.int 1)) (aCons (eC (.int 2)) (aCons (eC (.int 7)) (aNil)))))))) (aNil)))))) (gN 6) (bTrue) (eCall 2 F__law_pick (aMu 0 (aCons (eV 2) (aNil)))) [6]))) (sSeq (sSet 7 (e2 oAdd (eLst (aCons (eV 5) (aNil))) (eLc (iSeq (eV 2)) (gN 8) (bTrue) (e2 oAdd (eSl (eV 5) (fNo) (fPart (eC (.int 7)))) (eV 8)) [8]))) (sExpr (eMut mAppend 3 (aCons (e2 oIx (eLc (iSeq (eV 7)) (gN 9) (bB (e2m oNin (eV 9) 3)) (eV 9) [9]) (eC (.int 0))) (aNil))))))
def b__law_names_1 : FS := sSeq c__law_names_1 b__law_names_2
def c__law_names_0 : FS := sPar [2, 3] (kCons (eC (.str "abcdefghijklmnopqrstuvwxyz")) (kCons (eLst (aNil)) (kNil)))
def b__law_names_0 : FS := sSeq c__law_names_0 b__law_names_1
abbrev b__law_names : FS := b__law_names_0
def F__law_names : FD := runD 10 b__law_names
theorem sc__law_names : FnScope ["_law_pot_here", "_law_size", "_law_signs", "_law_found", "_law_turn", "_law_word_here", "_law_spot", "_law_near", "_law_sign", "_law_one"] ["_law_pot_here", "_law_size"] (defScope (top 47)) := ⟨rfl, rfl, rfl, by decide +kernel, rfl, by decide +kernel, by decide +kernel⟩
theorem ok__law_names (B : Bl mg) (H__law_pick : Fnn P w K mg base false 2 "_law_pick" 2 F__law_pick) (D : FunD K "_law_names" "_law_names" (defArgs (top 47)) (defBody (top 47)) (defScope (top 47)) [] [] f fd) (hm : mg "_law_names" = some (.ref f)) : Fnn P w K mg base false 3 "_law_names" 2 F__law_names := by
  have bd : Binds K fd ["_law_pot_here", "_law_size"] [] := D.bindsN fun _ _ _ _ _ _ us hl => match us, hl with | [_, _], _ => rfl
  have S := sc__law_names
  exact fnn_of D hm S bd (by decide) (fun cv A out st H E rm gd =>
    (mss_cons (ms_parT (is := [2, 3]) rfl (mk_cons me_str (mk_cons (me_lst ma_nil) mk_nil)) (.cons (pg_name (i := 2) S.nd rfl (.inr rfl)) rfl (.cons (pg_name (i := 3) S.nd rfl (.inr rfl)) rfl .nil)))
    (mss_cons (ms_for passD rfl (mi_rng1 (by rfl) B.range (me_V (pe_var (i := 1) rfl (.inl rfl)))) (mg_name (i := 4) S.nd rfl (.inl rfl)) (mss_cons (ms_set (i := 5) S.nd rfl (.inr rfl) (me_join me_str (me_lc rfl S.nd (mi_rng1 (by rfl) B.range (me_add me_int (me_fn H__law_pick rm (fun z => Bool.noConfusion z) takesD (by rfl) (ma_mu (pe_var (i := 0) rfl (.inr (.inl rfl))) (ma_cons (me_lst (ma_cons me_int (ma_cons me_int (ma_cons me_int (ma_cons me_int (ma_cons me_int (ma_cons me_int ma_nil))))))) ma_nil))))) (blkOk_by (own := [("_law_spot", 6)]) (by kernel_rfl)) (fun _ _ _ _ _ => (mg_name (i := 6) S.nd rfl (.inl rfl))) (fun _ _ _ _ _ => mts_nil) (fun _ _ _ _ _ => (me_fn H__law_pick rm (fun z => Bool.noConfusion z) takes0 (by rfl) (ma_mu (pe_var (i := 0) rfl (.inr (.inl rfl))) (ma_cons (me_V (pe_var (i := 2) rfl (.inr (.inl rfl)))) ma_nil)))))))
    (mss_cons (ms_set (i := 7) S.nd rfl (.inl rfl) (me_add (me_lst (ma_cons (me_V (pe_var (i := 5) rfl (.inr (.inl rfl)))) ma_nil)) (me_lc rfl S.nd (mi_seq (me_V (pe_var (i := 2) rfl (.inr (.inl rfl))))) (blkOk_by (own := [("_law_sign", 8)]) (by kernel_rfl)) (fun _ _ _ _ _ => (mg_name (i := 8) S.nd rfl (.inl rfl))) (fun _ _ _ _ _ => mts_nil) (fun _ _ _ _ _ => (me_add (me_sl (me_V (pe_var (i := 5) rfl (.inr (.inl rfl)))) mo_no (mo_part me_int)) (me_V (pe_var (i := 8) rfl (.inl rfl))))))))
    (mss_one (ms_expr (me_mut PySem.F.slot_list_append PySem.F.type_list_append mt_append p_append (pe_var (i := 3) rfl (.inr (.inl rfl))) (ma_cons (me_ix (hu_of rm) (me_lc rfl S.nd (mi_seq (me_V (pe_var (i := 7) rfl (.inl rfl)))) (blkOk_by (own := [("_law_one", 9)]) (by kernel_rfl)) (fun _ _ _ _ _ => (mg_name (i := 9) S.nd rfl (.inl rfl))) (fun _ _ _ _ _ => (mts_one (mt_ninN (hu_of rm) (me_V (pe_var (i := 9) rfl (.inl rfl))) (pe_var (i := 3) rfl (.inr (.inl rfl)))))) (fun _ _ _ _ _ => (me_V (pe_var (i := 9) rfl (.inl rfl))))) me_int) ma_nil)))))))
    (mss_one (ms_ret (me_G (pe_var (i := 3) rfl (.inr (.inl rfl)))))))))

def c__law_table_3 : FS := sRet (eLc (iRng1 (eV 1)) (gN 7) (bTrue) (eLc (iRng1 (eV 2)) (gN 6) (bTrue) (eTup (aCons (eCall 2 F__law_draw (aMu 0 (aCons (eV 4) (aNil)))) (aCons (eCall 2 F__law_draw (aMu 0 (aCons (eV 1) (aNil)))) (aNil)))) [6]) [7])
def b__law_table_3 : FS := c__law_table_3
def c__law_table_2 : FS := sIf (bB (e2n oEq 3 (eC (.int 1)))) (sRet (eLc (iRng1 (eV 1)) (gN 7) (bTrue) (eLc (iRng1 (eV 2)) (gN 6) (bTrue) (eTup (aCons (eC (.int 0)) (aCons (e2 oMin (e2 oAdd (eV 6) (eC (.int 1))) (eV 5)) (aNil)))) [6]) [7])) (sNext)
def b__law_table_2 : FS := sSeq c__law_table_2 b__law_table_3
def c__law_table_1 : FS := sIf (bB (e2n oEq 3 (eC (.int 0)))) (sRet (eLc (iRng1 (eV 1)) (gN 7) (bTrue) (eLc (iRng1 (eV 2)) (gN 6) (bTrue) (eTup (aCons (eV 7) (aCons (e2 oMod (e1 oToInt (e2 oAdd (e2 oAdd (eV 7) (eV 6)) (eC (.int 1)))) (eV 1)) (aNil)))) [6]) [7])) (sNext)
def b__law_table_1 : FS := sSeq c__law_table_1 b__law_table_2
def c__law_table_0 : FS := sPar [3, 4, 5] (kCons (eCall 2 F__law_draw (aMu 0 (aCons (eC (.int 4)) (aNil)))) (kCons (eCall 2 F__law_pick (aMu 0 (aCons (eLst (aCons (eC (.int 1)) (aCons (eC (.int 2)) (aCons (eC (.int 3)) (aCons (eC (.int 10)) (aNil)))))) (aNil)))) (kCons (e2 oSub (eV 1) (eC (.int 1))) (kNil))))
def b__law_table_0 : FS := sSeq c__law_table_0 b__law_table_1
abbrev b__law_table : FS := b__law_table_0
def F__law_table : FD := runD 8 b__law_table
theorem sc__law_table : FnScope ["_law_pot_here", "_law_size", "_law_many", "_law_way", "_law_top", "_law_last", "_law_place", "_law_state"] ["_law_pot_here", "_law_size", "_law_many"] (defScope (top 48)) := ⟨rfl, rfl, rfl, by decide +kernel, rfl, by decide +kernel, by decide +kernel⟩
theorem ok__law_table (B : Bl mg) (H__law_pick : Fnn P w K mg base false 2 "_law_pick" 2 F__law_pick) (H__law_draw : Fnn P w K mg base false 1 "_law_draw" 2 F__law_draw) (D : FunD K "_law_table" "_law_table" (defArgs (top 48)) (defBody (top 48)) (defScope (top 48)) [] [] f fd) (hm : mg "_law_table" = some (.ref f)) : Fnn P w K mg base false 3 "_law_table" 3 F__law_table := by
  have bd : Binds K fd ["_law_pot_here", "_law_size", "_law_many"] [] := D.bindsN fun _ _ _ _ _ _ us hl => match us, hl with | [_, _, _], _ => rfl
  have S := sc__law_table
  exact fnn_of D hm S bd (by decide) (fun cv A out st H E rm gd =>
    (mss_cons (ms_parT (is := [3, 4, 5]) rfl (mk_cons (me_fn H__law_draw rm (fun z => Bool.noConfusion z) takesD (by rfl) (ma_mu (pe_var (i := 0) rfl (.inr (.inl rfl))) (ma_cons me_int ma_nil))) (mk_cons (me_fn H__law_pick rm (fun z => Bool.noConfusion z) takesD (by rfl) (ma_mu (pe_var (i := 0) rfl (.inr (.inl rfl))) (ma_cons (me_lst (ma_cons me_int (ma_cons me_int (ma_cons me_int (ma_cons me_int ma_nil))))) ma_nil))) (mk_cons (me_sub (me_V (pe_var (i := 1) rfl (.inr (.inl rfl)))) me_int) mk_nil))) (.cons (pg_name (i := 3) S.nd rfl (.inl rfl)) rfl (.cons (pg_name (i := 4) S.nd rfl (.inr rfl)) rfl (.cons (pg_name (i := 5) S.nd rfl (.inr rfl)) rfl .nil))))
    (mss_cons (ms_if (mt_eqLN rm.units (pe_var (i := 3) rfl (.inl rfl)) me_int) (mss_one (ms_ret (me_lc rfl S.nd (mi_rng1 (by rfl) B.range (me_V (pe_var (i := 1) rfl (.inr (.inl rfl))))) (blkOk_by (own := [("_law_state", 7)]) (by kernel_rfl)) (fun _ _ _ _ _ => (mg_name (i := 7) S.nd rfl (.inr rfl))) (fun _ _ _ _ _ => mts_nil) (fun _ _ _ _ _ => (me_lc rfl S.nd (mi_rng1 (by rfl) B.range (me_V (pe_var (i := 2) rfl (.inr (.inl rfl))))) (blkOk_by (own := [("_law_place", 6)]) (by kernel_rfl)) (fun _ _ _ _ _ => (mg_name (i := 6) S.nd rfl (.inl rfl))) (fun _ _ _ _ _ => mts_nil) (fun _ _ _ _ _ => (me_tup (ma_cons (me_V (pe_var (i := 7) rfl (.inr (.inl rfl)))) (ma_cons (me_mod (me_t1 call_int1 p_toInt (by rfl) B.int (by decide +kernel) (me_add (me_add (me_V (pe_var (i := 7) rfl (.inr (.inl rfl)))) (me_V (pe_var (i := 6) rfl (.inl rfl)))) me_int)) (me_V (pe_var (i := 1) rfl (.inr (.inl rfl))))) ma_nil))))))))) mss_nil)
    (mss_cons (ms_if (mt_eqLN rm.units (pe_var (i := 3) rfl (.inl rfl)) me_int) (mss_one (ms_ret (me_lc rfl S.nd (mi_rng1 (by rfl) B.range (me_V (pe_var (i := 1) rfl (.inr (.inl rfl))))) (blkOk_by (own := [("_law_state", 7)]) (by kernel_rfl)) (fun _ _ _ _ _ => (mg_name (i := 7) S.nd rfl (.inl rfl))) (fun _ _ _ _ _ => mts_nil) (fun _ _ _ _ _ => (me_lc rfl S.nd (mi_rng1 (by rfl) B.range (me_V (pe_var (i := 2) rfl (.inr (.inl rfl))))) (blkOk_by (own := [("_law_place", 6)]) (by kernel_rfl)) (fun _ _ _ _ _ => (mg_name (i := 6) S.nd rfl (.inl rfl))) (fun _ _ _ _ _ => mts_nil) (fun _ _ _ _ _ => (me_tup (ma_cons me_int (ma_cons (me_b2 (call_min2 rfl) p_min (by rfl) B.min (by decide +kernel) (me_add (me_V (pe_var (i := 6) rfl (.inl rfl))) me_int) (me_V (pe_var (i := 5) rfl (.inr (.inl rfl))))) ma_nil))))))))) mss_nil)
    (mss_one (ms_ret (me_lc rfl S.nd (mi_rng1 (by rfl) B.range (me_V (pe_var (i := 1) rfl (.inr (.inl rfl))))) (blkOk_by (own := [("_law_state", 7)]) (by kernel_rfl)) (fun _ _ _ _ _ => (mg_name (i := 7) S.nd rfl (.inl rfl))) (fun _ _ _ _ _ => mts_nil) (fun _ _ _ _ _ => (me_lc rfl S.nd (mi_rng1 (by rfl) B.range (me_V (pe_var (i := 2) rfl (.inr (.inl rfl))))) (blkOk_by (own := [("_law_place", 6)]) (by kernel_rfl)) (fun _ _ _ _ _ => (mg_name (i := 6) S.nd rfl (.inl rfl))) (fun _ _ _ _ _ => mts_nil) (fun _ _ _ _ _ => (me_tup (ma_cons (me_fn H__law_draw rm (fun z => Bool.noConfusion z) takes0 (by rfl) (ma_mu (pe_var (i := 0) rfl (.inr (.inl rfl))) (ma_cons (me_V (pe_var (i := 4) rfl (.inr (.inl rfl)))) ma_nil))) (ma_cons (me_fn H__law_draw rm (fun z => Bool.noConfusion z) takes0 (by rfl) (ma_mu (pe_var (i := 0) rfl (.inr (.inl rfl))) (ma_cons (me_V (pe_var (i := 1) rfl (.inr (.inl rfl)))) ma_nil))) ma_nil)))))))))))))

def c__law_model_1 : FS := sRet (eDict (pCons (eC (.str "deeds")) (eCall 2 F__law_names (aMu 0 (aCons (eV 4) (aNil)))) (pCons (eC (.str "rows")) (eCall 3 F__law_table (aMu 0 (aCons (eV 3) (aCons (eV 4) (aNil))))) (pNil))))
def b__law_model_1 : FS := c__law_model_1
def c__law_model_0 : FS := sPar [3, 4] (kCons (e2 oAdd (eC (.int 1)) (eCall 2 F__law_draw (aMu 0 (aCons (eV 1) (aNil))))) (kCons (e2 oAdd (eC (.int 1)) (eCall 2 F__law_draw (aMu 0 (aCons (eV 2) (aNil))))) (kNil)))
def b__law_model_0 : FS := sSeq c__law_model_0 b__law_model_1
abbrev b__law_model : FS := b__law_model_0
def F__law_model : FD := runD 5 b__law_model
theorem sc__law_model : FnScope ["_law_pot_here", "_law_most_states", "_law_most_deeds", "_law_size", "_law_many"] ["_law_pot_here", "_law_most_states", "_law_most_deeds"] (defScope (top 49)) := ⟨rfl, rfl, rfl, by decide +kernel, rfl, by decide +kernel, by decide +kernel⟩
theorem ok__law_model (B : Bl mg) (H__law_draw : Fnn P w K mg base false 1 "_law_draw" 2 F__law_draw) (H__law_table : Fnn P w K mg base false 3 "_law_table" 3 F__law_table) (H__law_names : Fnn P w K mg base false 3 "_law_names" 2 F__law_names) (D : FunD K "_law_model" "_law_model" (defArgs (top 49)) (defBody (top 49)) (defScope (top 49)) [] [] f fd) (hm : mg "_law_model" = some (.ref f)) : Fnn P w K mg base false 4 "_law_model" 3 F__law_model := by
  have bd : Binds K fd ["_law_pot_here", "_law_most_states", "_law_most_deeds"] [] := D.bindsN fun _ _ _ _ _ _ us hl => match us, hl with | [_, _, _], _ => rfl
  have S := sc__law_model
  exact fnn_of D hm S bd (by decide) (fun cv A out st H E rm gd =>
    (mss_cons (ms_par (i := 3) (j := 4) rfl S.nd rfl rfl (by decide) rfl rfl (mk_cons (me_add me_int (me_fn H__law_draw rm (fun z => Bool.noConfusion z) takesD (by rfl) (ma_mu (pe_var (i := 0) rfl (.inl rfl)) (ma_cons (me_V (pe_var (i := 1) rfl (.inl rfl))) ma_nil)))) (mk_cons (me_add me_int (me_fn H__law_draw rm (fun z => Bool.noConfusion z) takesD (by rfl) (ma_mu (pe_var (i := 0) rfl (.inl rfl)) (ma_cons (me_V (pe_var (i := 2) rfl (.inl rfl))) ma_nil)))) mk_nil)) (by rfl))
    (mss_one (ms_ret (me_dict (mp_cons me_str (me_fn H__law_names rm (fun z => Bool.noConfusion z) takesD (by rfl) (ma_mu (pe_var (i := 0) rfl (.inl rfl)) (ma_cons (me_V (pe_var (i := 4) rfl (.inl rfl))) ma_nil))) (mp_cons me_str (me_fn H__law_table rm (fun z => Bool.noConfusion z) takesD (by rfl) (ma_mu (pe_var (i := 0) rfl (.inl rfl)) (ma_cons (me_V (pe_var (i := 3) rfl (.inl rfl))) (ma_cons (me_V (pe_var (i := 4) rfl (.inl rfl))) ma_nil)))) mp_nil)))))))

def c__law_thing_0 : FS := sRet (eMake "Thing" 3 F_Thing___init__ false (aCons (e2n oIx 0 (eC (.str "deeds"))) (aCons (e2n oIx 0 (eC (.str "rows"))) (aNil))))
def b__law_thing_0 : FS := c__law_thing_0
abbrev b__law_thing : FS := b__law_thing_0
def F__law_thing : FD := runD 1 b__law_thing
theorem sc__law_thing : FnScope ["_law_model_here"] ["_law_model_here"] (defScope (top 50)) := ⟨rfl, rfl, rfl, by decide +kernel, rfl, by decide +kernel, by decide +kernel⟩
theorem ok__law_thing (B : Bl mg) (M_Thing : CM P w K mg base false 8 "Thing" ["deeds", "rows"] F_Thing___init__) (D : FunD K "_law_thing" "_law_thing" (defArgs (top 50)) (defBody (top 50)) (defScope (top 50)) [] [] f fd) (hm : mg "_law_thing" = some (.ref f)) : Fnn P w K mg base false 10 "_law_thing" 1 F__law_thing := by
  have bd : Binds K fd ["_law_model_here"] [] := D.bindsN fun _ _ _ _ _ _ us hl => match us, hl with | [_], _ => rfl
  have S := sc__law_thing
  exact fnn_of D hm S bd (by decide) (fun cv A out st H E rm gd =>
    (mss_one (ms_ret (me_make M_Thing (rm.mono (by decide)) (fun z => Bool.noConfusion z) takesD (by rfl) (ma_cons (me_ixN (hu_of rm) (pe_var (i := 0) rfl (.inl rfl)) me_str) (ma_cons (me_ixN (hu_of rm) (pe_var (i := 0) rfl (.inl rfl)) me_str) ma_nil))))))

def c__law_run_2 : FS := sRet (eTup (aCons (eV 4) (aCons (eV 3) (aNil))))
def b__law_run_2 : FS := c__law_run_2
def c__law_run_1 : FS := sFor (iSeq (eV 2)) (gN 5) (sSeq (sSet 6 (e2 oIx (e2 oIx (e2n oIx 0 (eC (.str "rows"))) (eV 3)) (eIdx (e2n oIx 0 (eC (.str "deeds"))) (eV 5)))) (sSeq (sExpr (eMut mAppend 4 (aCons (e2n oIx 6 (eC (.int 0))) (aNil)))) (sSet 3 (e2n oIx 6 (eC (.int 1))))))
def b__law_run_1 : FS := sSeq c__law_run_1 b__law_run_2
def c__law_run_0 : FS := sPar [3, 4] (kCons (eV 1) (kCons (eLst (aNil)) (kNil)))
def b__law_run_0 : FS := sSeq c__law_run_0 b__law_run_1
abbrev b__law_run : FS := b__law_run_0
def F__law_run : FD := runD 7 b__law_run
theorem sc__law_run : FnScope ["_law_model_here", "_law_state_now", "_law_said", "_law_here", "_law_heard", "_law_deed_now", "_law_entry"] ["_law_model_here", "_law_state_now", "_law_said"] (defScope (top 51)) := ⟨rfl, rfl, rfl, by decide +kernel, rfl, by decide +kernel, by decide +kernel⟩
theorem ok__law_run (B : Bl mg)  (D : FunD K "_law_run" "_law_run" (defArgs (top 51)) (defBody (top 51)) (defScope (top 51)) [] [] f fd) (hm : mg "_law_run" = some (.ref f)) : Fnn P w K mg base false 1 "_law_run" 3 F__law_run := by
  have bd : Binds K fd ["_law_model_here", "_law_state_now", "_law_said"] [] := D.bindsN fun _ _ _ _ _ _ us hl => match us, hl with | [_, _, _], _ => rfl
  have S := sc__law_run
  exact fnn_of D hm S bd (by decide) (fun cv A out st H E rm gd =>
    (mss_cons (ms_par (i := 3) (j := 4) rfl S.nd rfl rfl (by decide) rfl rfl (mk_cons (me_V (pe_var (i := 1) rfl (.inl rfl))) (mk_cons (me_lst ma_nil) mk_nil)) (by rfl))
    (mss_cons (ms_for passD rfl (mi_seq (me_V (pe_var (i := 2) rfl (.inl rfl)))) (mg_name (i := 5) S.nd rfl (.inl rfl)) (mss_cons (ms_set (i := 6) S.nd rfl (.inl rfl) (me_ix (hu_of rm) (me_ix (hu_of rm) (me_ixN (hu_of rm) (pe_var (i := 0) rfl (.inl rfl)) me_str) (me_V (pe_var (i := 3) rfl (.inl rfl)))) (me_idx (me_ixN (hu_of rm) (pe_var (i := 0) rfl (.inl rfl)) me_str) (me_V (pe_var (i := 5) rfl (.inl rfl))))))
    (mss_cons (ms_expr (me_mut PySem.F.slot_list_append PySem.F.type_list_append mt_append p_append (pe_var (i := 4) rfl (.inl rfl)) (ma_cons (me_ixN (hu_of rm) (pe_var (i := 6) rfl (.inl rfl)) me_int) ma_nil)))
    (mss_one (ms_set (i := 3) S.nd rfl (.inl rfl) (me_ixN (hu_of rm) (pe_var (i := 6) rfl (.inl rfl)) me_int))))))
    (mss_one (ms_ret (me_tup (ma_cons (me_V (pe_var (i := 4) rfl (.inl rfl))) (ma_cons (me_V (pe_var (i := 3) rfl (.inl rfl))) ma_nil))))))))

def c__law_word_0 : FS := sRet (eLc (iRng1 (eCall 2 F__law_draw (aMu 0 (aCons (e2 oAdd (eV 2) (eC (.int 1))) (aNil))))) (gN 3) (bTrue) (eCall 2 F__law_pick (aMu 0 (aCons (e2n oIx 1 (eC (.str "deeds"))) (aNil)))) [3])
def b__law_word_0 : FS := c__law_word_0
abbrev b__law_word : FS := b__law_word_0
def F__law_word : FD := runD 4 b__law_word
theorem sc__law_word : FnScope ["_law_pot_here", "_law_model_here", "_law_most", "_law_turn"] ["_law_pot_here", "_law_model_here", "_law_most"] (defScope (top 52)) := ⟨rfl, rfl, rfl, by decide +kernel, rfl, by decide +kernel, by decide +kernel⟩
theorem ok__law_word (B : Bl mg) (H__law_draw : Fnn P w K mg base false 1 "_law_draw" 2 F__law_draw) (H__law_pick : Fnn P w K mg base false 2 "_law_pick" 2 F__law_pick) (D : FunD K "_law_word" "_law_word" (defArgs (top 52)) (defBody (top 52)) (defScope (top 52)) [] [] f fd) (hm : mg "_law_word" = some (.ref f)) : Fnn P w K mg base false 3 "_law_word" 3 F__law_word := by
  have bd : Binds K fd ["_law_pot_here", "_law_model_here", "_law_most"] [] := D.bindsN fun _ _ _ _ _ _ us hl => match us, hl with | [_, _, _], _ => rfl
  have S := sc__law_word
  exact fnn_of D hm S bd (by decide) (fun cv A out st H E rm gd =>
    (mss_one (ms_ret (me_lc rfl S.nd (mi_rng1 (by rfl) B.range (me_fn H__law_draw rm (fun z => Bool.noConfusion z) takesD (by rfl) (ma_mu (pe_var (i := 0) rfl (.inr (.inl rfl))) (ma_cons (me_add (me_V (pe_var (i := 2) rfl (.inl rfl))) me_int) ma_nil)))) (blkOk_by (own := [("_law_turn", 3)]) (by kernel_rfl)) (fun _ _ _ _ _ => (mg_name (i := 3) S.nd rfl (.inl rfl))) (fun _ _ _ _ _ => mts_nil) (fun _ _ _ _ _ => (me_fn H__law_pick rm (fun z => Bool.noConfusion z) takes0 (by rfl) (ma_mu (pe_var (i := 0) rfl (.inr (.inl rfl))) (ma_cons (me_ixN (hu_of rm) (pe_var (i := 1) rfl (.inr (.inl rfl))) me_str) ma_nil))))))))

noncomputable def c__law_met_2 : FS := sRet (eG 3)
noncomputable def b__law_met_2 : FS := c__law_met_2
noncomputable def c__law_met_1 : FS := sWhile (bB (e2 oLt (eV 4) (e1n oLen 3))) (sSeq (sFor (iSeq (eV 2)) (gN 5) (sSeq (sSet 6 (e2 oIx (e2 oIx (e2 oIx (e2n oIx 0 (eC (.str "rows"))) (e2n oIx 3 (eV 4))) (eV 5)) (eC (.int 1)))) (sIf (bB (e2m oNin (eV 6) 3)) (sExpr (eMut mAppend 3 (aCons (eV 6) (aNil)))) (sNext)))) (sSet 4 (e2 oAdd (eV 4) (eC (.int 1)))))
noncomputable def b__law_met_1 : FS := sSeq c__law_met_1 b__law_met_2
noncomputable def c__law_met_0 : FS := sPar [3, 4] (kCons (eLst (aCons (eV 1) (aNil))) (kCons (eC (.int 0)) (kNil)))
noncomputable def b__law_met_0 : FS := sSeq c__law_met_0 b__law_met_1
noncomputable abbrev b__law_met : FS := b__law_met_0
noncomputable def F__law_met : FD := runD 7 b__law_met
theorem sc__law_met : FnScope ["_law_model_here", "_law_state_now", "_law_places", "_law_found", "_law_at", "_law_place", "_law_later"] ["_law_model_here", "_law_state_now", "_law_places"] (defScope (top 53)) := ⟨rfl, rfl, rfl, by decide +kernel, rfl, by decide +kernel, by decide +kernel⟩
theorem ok__law_met (B : Bl mg)  (D : FunD K "_law_met" "_law_met" (defArgs (top 53)) (defBody (top 53)) (defScope (top 53)) [] [] f fd) (hm : mg "_law_met" = some (.ref f)) : Fnn P w K mg base false 1 "_law_met" 3 F__law_met := by
  have bd : Binds K fd ["_law_model_here", "_law_state_now", "_law_places"] [] := D.bindsN fun _ _ _ _ _ _ us hl => match us, hl with | [_, _, _], _ => rfl
  have S := sc__law_met
  exact fnn_of D hm S bd (by decide) (fun cv A out st H E rm gd =>
    (mss_cons (ms_par (i := 3) (j := 4) rfl S.nd rfl rfl (by decide) rfl rfl (mk_cons (me_lst (ma_cons (me_V (pe_var (i := 1) rfl (.inl rfl))) ma_nil)) (mk_cons me_int mk_nil)) (by rfl))
    (mss_cons (ms_while passD (mt_lt (me_V (pe_var (i := 4) rfl (.inl rfl))) (me_b1N call_len p_len (by rfl) B.len (by decide +kernel) (pe_var (i := 3) rfl (.inl rfl)))) (mss_cons (ms_for passD rfl (mi_seq (me_V (pe_var (i := 2) rfl (.inl rfl)))) (mg_name (i := 5) S.nd rfl (.inl rfl)) (mss_cons (ms_set (i := 6) S.nd rfl (.inl rfl) (me_ix (hu_of rm) (me_ix (hu_of rm) (me_ix (hu_of rm) (me_ixN (hu_of rm) (pe_var (i := 0) rfl (.inl rfl)) me_str) (me_ixN (hu_of rm) (pe_var (i := 3) rfl (.inl rfl)) (me_V (pe_var (i := 4) rfl (.inl rfl))))) (me_V (pe_var (i := 5) rfl (.inl rfl)))) me_int))
    (mss_one (ms_if (mt_ninN (hu_of rm) (me_V (pe_var (i := 6) rfl (.inl rfl))) (pe_var (i := 3) rfl (.inl rfl))) (mss_one (ms_expr (me_mut PySem.F.slot_list_append PySem.F.type_list_append mt_append p_append (pe_var (i := 3) rfl (.inl rfl)) (ma_cons (me_V (pe_var (i := 6) rfl (.inl rfl))) ma_nil)))) mss_nil))))
    (mss_one (ms_set (i := 4) S.nd rfl (.inl rfl) (me_add (me_V (pe_var (i := 4) rfl (.inl rfl))) me_int)))))
    (mss_one (ms_ret (me_G (pe_var (i := 3) rfl (.inl rfl))))))))

noncomputable def c__law_part_4 : FS := sRet (eDict (pCons (eC (.str "deeds")) (eLc (iSeq (eV 3)) (gN 4) (bTrue) (e2 oIx (e2n oIx 0 (eC (.str "deeds"))) (eV 4)) [4]) (pCons (eC (.str "rows")) (eV 6) (pNil))))
noncomputable def b__law_part_4 : FS := c__law_part_4
noncomputable def c__law_part_3 : FS := sFor (iSeq (eV 5)) (gN 7) (sSeq (sSet 8 (eLc (iSeq (eV 3)) (gN 4) (bTrue) (e2 oIx (e2 oIx (e2n oIx 0 (eC (.str "rows"))) (eV 7)) (eV 4)) [4])) (sExpr (eMut mAppend 6 (aCons (eLc (iSeq (eV 8)) (gT 2 (gCons (gN 9) (gCons (gN 10) (gNil)))) (bTrue) (eTup (aCons (eV 9) (aCons (eIdx (eV 5) (eV 10)) (aNil)))) [9, 10]) (aNil)))))
noncomputable def b__law_part_3 : FS := sSeq c__law_part_3 b__law_part_4
noncomputable def c__law_part_2 : FS := sSet 6 (eLst (aNil))
noncomputable def b__law_part_2 : FS := sSeq c__law_part_2 b__law_part_3
noncomputable def c__law_part_1 : FS := sSet 5 (eCall 3 F__law_met (aCons (eV 0) (aCons (eV 1) (aCons (eV 3) (aNil)))))
noncomputable def b__law_part_1 : FS := sSeq c__law_part_1 b__law_part_2
noncomputable def c__law_part_0 : FS := sSet 3 (eLc (iRng1 (e1 oLen (e2n oIx 0 (eC (.str "deeds"))))) (gN 4) (bB (e2m oIn (e2 oIx (e2n oIx 0 (eC (.str "deeds"))) (eV 4)) 2)) (eV 4) [4])
noncomputable def b__law_part_0 : FS := sSeq c__law_part_0 b__law_part_1
noncomputable abbrev b__law_part : FS := b__law_part_0
noncomputable def F__law_part : FD := runD 11 b__law_part
theorem sc__law_part : FnScope ["_law_model_here", "_law_state_now", "_law_some", "_law_places", "_law_place", "_law_met_here", "_law_rows_now", "_law_state", "_law_entries", "_law_answer", "_law_later"] ["_law_model_here", "_law_state_now", "_law_some"] (defScope (top 54)) := ⟨rfl, rfl, rfl, by decide +kernel, rfl, by decide +kernel, by decide +kernel⟩
theorem ok__law_part (B : Bl mg) (H__law_met : Fnn P w K mg base false 1 "_law_met" 3 F__law_met) (D : FunD K "_law_part" "_law_part" (defArgs (top 54)) (defBody (top 54)) (defScope (top 54)) [] [] f fd) (hm : mg "_law_part" = some (.ref f)) : Fnn P w K mg base false 2 "_law_part" 3 F__law_part := by
  have bd : Binds K fd ["_law_model_here", "_law_state_now", "_law_some"] [] := D.bindsN fun _ _ _ _ _ _ us hl => match us, hl with | [_, _, _], _ => rfl
  have S := sc__law_part
  exact fnn_of D hm S bd (by decide) (fun cv A out st H E rm gd =>
    (mss_cons (ms_setLc (i := 3) rfl S.nd rfl rfl (sw_true rfl rfl rfl (by decide +kernel)) (mi_rng1 (by rfl) B.range (me_b1 call_len p_len (by rfl) B.len (by decide +kernel) (me_ixN (hu_of rm) (pe_var (i := 0) rfl (.inr (.inl rfl))) me_str))) (blkOk_by (own := [("_law_place", 4)]) (by kernel_rfl)) (fun _ _ _ _ _ => (mg_name (i := 4) S.nd rfl (.inl rfl))) (fun _ _ _ _ _ => (mts_one (mt_inN (hu_of rm) (me_ix (hu_of rm) (me_ixN (hu_of rm) (pe_var (i := 0) rfl (.inr (.inl rfl))) me_str) (me_V (pe_var (i := 4) rfl (.inl rfl)))) (pe_var (i := 2) rfl (.inr (.inl rfl)))))) (fun _ _ _ _ _ => (me_V (pe_var (i := 4) rfl (.inl rfl)))))
    (mss_cons (ms_set (i := 5) S.nd rfl (.inr rfl) (me_fn H__law_met rm (fun z => Bool.noConfusion z) takesD (by rfl) (ma_cons (me_V (pe_var (i := 0) rfl (.inr (.inl rfl)))) (ma_cons (me_V (pe_var (i := 1) rfl (.inl rfl))) (ma_cons (me_V (pe_var (i := 3) rfl (.inl rfl))) ma_nil)))))
    (mss_cons (ms_set (i := 6) S.nd rfl (.inl rfl) (me_lst ma_nil))
    (mss_cons (ms_for passD rfl (mi_seq (me_V (pe_var (i := 5) rfl (.inr (.inl rfl))))) (mg_name (i := 7) S.nd rfl (.inr rfl)) (mss_cons (ms_setLc (i := 8) rfl S.nd rfl rfl (sw_true rfl rfl rfl (by decide +kernel)) (mi_seq (me_V (pe_var (i := 3) rfl (.inl rfl)))) (blkOk_by (own := [("_law_place", 4)]) (by kernel_rfl)) (fun _ _ _ _ _ => (mg_name (i := 4) S.nd rfl (.inl rfl))) (fun _ _ _ _ _ => mts_nil) (fun _ _ _ _ _ => (me_ix (hu_of rm) (me_ix (hu_of rm) (me_ixN (hu_of rm) (pe_var (i := 0) rfl (.inr (.inl rfl))) me_str) (me_V (pe_var (i := 7) rfl (.inr (.inl rfl))))) (me_V (pe_var (i := 4) rfl (.inl rfl))))))
    (mss_one (ms_expr (me_mut PySem.F.slot_list_append PySem.F.type_list_append mt_append p_append (pe_var (i := 6) rfl (.inl rfl)) (ma_cons (me_lc rfl S.nd (mi_seq (me_V (pe_var (i := 8) rfl (.inl rfl)))) (blkOk_by (own := [("_law_answer", 9), ("_law_later", 10)]) (by kernel_rfl)) (fun _ _ _ _ _ => (mg_tup rfl (mgs_cons (mg_name (i := 9) S.nd rfl (.inl rfl)) (mgs_cons (mg_name (i := 10) S.nd rfl (.inl rfl)) mgs_nil)))) (fun _ _ _ _ _ => mts_nil) (fun _ _ _ _ _ => (me_tup (ma_cons (me_V (pe_var (i := 9) rfl (.inl rfl))) (ma_cons (me_idx (me_V (pe_var (i := 5) rfl (.inr (.inl rfl)))) (me_V (pe_var (i := 10) rfl (.inl rfl)))) ma_nil))))) ma_nil))))))
    (mss_one (ms_ret (me_dict (mp_cons me_str (me_lc rfl S.nd (mi_seq (me_V (pe_var (i := 3) rfl (.inl rfl)))) (blkOk_by (own := [("_law_place", 4)]) (by kernel_rfl)) (fun _ _ _ _ _ => (mg_name (i := 4) S.nd rfl (.inl rfl))) (fun _ _ _ _ _ => mts_nil) (fun _ _ _ _ _ => (me_ix (hu_of rm) (me_ixN (hu_of rm) (pe_var (i := 0) rfl (.inr (.inl rfl))) me_str) (me_V (pe_var (i := 4) rfl (.inl rfl)))))) (mp_cons me_str (me_V (pe_var (i := 6) rfl (.inl rfl))) mp_nil))))))))))

def hs__law_gone_right_0 : Sf := fun a d c => sExpr (eMut mAppend 3 (aCons (e1 (oHxF a d c "value") (eV 4)) (aNil)))
theorem hi__law_gone_right_0 : Ind 4 5 hs__law_gone_right_0 := fun a d c gs ε hl => by
  match ε, hl with
  | [s0, s1, s2, s3, s4], _ =>
    rcases hf : gs.lookup ("value" : Str) with _ | v
    all_goals rcases s3 with _ | _ | dd
    all_goals first | (cases dd <;> simp [hs__law_gone_right_0, sExpr, eMut, aCons, aNil, e1, eV, asD, oHxF, unset, Mi.ret, hf]; done) | simp [hs__law_gone_right_0, sExpr, eMut, aCons, aNil, e1, eV, asD, oHxF, unset, Mi.ret, hf]
    all_goals first | done | (cases dd with
      | lst xs => cases hm : mAppend xs [v] <;> simp [hm]
      | _ => simp)
def hs__law_gone_right_1 : Sf := fun a d c => sExpr (eMut mAppend 3 (aCons (e1 (oHxF a d c "position") (eV 4)) (aNil)))
theorem hi__law_gone_right_1 : Ind 4 5 hs__law_gone_right_1 := fun a d c gs ε hl => by
  match ε, hl with
  | [s0, s1, s2, s3, s4], _ =>
    rcases hf : gs.lookup ("position" : Str) with _ | v
    all_goals rcases s3 with _ | _ | dd
    all_goals first | (cases dd <;> simp [hs__law_gone_right_1, sExpr, eMut, aCons, aNil, e1, eV, asD, oHxF, unset, Mi.ret, hf]; done) | simp [hs__law_gone_right_1, sExpr, eMut, aCons, aNil, e1, eV, asD, oHxF, unset, Mi.ret, hf]
    all_goals first | done | (cases dd with
      | lst xs => cases hm : mAppend xs [v] <;> simp [hm]
      | _ => simp)
def c__law_gone_right_1 : FS := sRet (eC (.bl true))
def b__law_gone_right_1 : FS := c__law_gone_right_1
def c__law_gone_right_0 : FS := sFor (iSeq (eV 1)) (gN 2) (sSeq (sSet 3 (eLst (aNil))) (sSeq (sTryA 4 5 [(tx_InvalidDeed, hs__law_gone_right_0)] (sExpr (eMeth "Thing" "__call__" 3 F_Thing___call__ false (eV 0) (aCons (eC (.int 0)) (aCons (eV 2) (aNil)))))) (sSeq (sTryA 4 5 [(tx_InvalidWord, hs__law_gone_right_1)] (sExpr (eMeth "Thing" "run" 3 F_Thing_run false (eV 0) (aCons (eC (.int 0)) (aCons (eLst (aCons (e2 oIx (e1p "Thing" F_Thing_deeds (eV 0)) (eC (.int 0))) (aCons (eV 2) (aNil)))) (aNil)))))) (sIf (bor (bB (e2in "Thing" F_Thing___contains__ isBl (eV 2) (eV 0))) (bB (e2n oNe 3 (eLst (aCons (eV 2) (aCons (eC (.int 1)) (aNil))))))) (sRet (eC (.bl false))) (sNext)))))
def b__law_gone_right_0 : FS := sSeq c__law_gone_right_0 b__law_gone_right_1
abbrev b__law_gone_right : FS := b__law_gone_right_0
def F__law_gone_right : FD := runD 5 b__law_gone_right
theorem sc__law_gone_right : FnScope ["_law_near", "_law_gone", "_law_name", "_law_heard", "e"] ["_law_near", "_law_gone"] (defScope (top 55)) := ⟨rfl, rfl, rfl, by decide +kernel, rfl, by decide +kernel, by decide +kernel⟩
theorem ok__law_gone_right (B : Bl mg) (Kx : Kx P w K mg base) (M_Thing___call__ : Mt P w K mg base false 6 "Thing" "__call__" ["state", "deed"] F_Thing___call__) (M_Thing_run : Mt P w K mg base false 6 "Thing" "run" ["state", "word"] F_Thing_run) (M_Thing___contains__ : Mt P w K mg base false 2 "Thing" "__contains__" ["value"] F_Thing___contains__) (P_Thing_deeds : Pr P w K mg base false 1 "Thing" "deeds" F_Thing_deeds) (D : FunD K "_law_gone_right" "_law_gone_right" (defArgs (top 55)) (defBody (top 55)) (defScope (top 55)) [] [] f fd) (hm : mg "_law_gone_right" = some (.ref f)) : Fnn P w K mg base false 8 "_law_gone_right" 2 F__law_gone_right := by
  have bd : Binds K fd ["_law_near", "_law_gone"] [] := D.bindsN fun _ _ _ _ _ _ us hl => match us, hl with | [_, _], _ => rfl
  have S := sc__law_gone_right
  exact fnn_of D hm S bd (by decide) (fun cv A out st H E rm gd =>
    (mss_cons (ms_for passD rfl (mi_seq (me_V (pe_var (i := 1) rfl (.inl rfl)))) (mg_name (i := 2) S.nd rfl (.inl rfl)) (mss_cons (ms_set (i := 3) S.nd rfl (.inl rfl) (me_lst ma_nil))
    (mss_cons (ms_tryA (i := 4) (n := 5) (W := WF) rfl rfl S.nd rfl rfl (by decide) takesD (fun W pn xe tk => (mss_one (ms_expr (me_ocall M_Thing___call__ (rm.mono (by decide)) (fun z => Bool.noConfusion z) tk (me_V (pe_var (i := 0) rfl (.inl rfl))) (ma_cons me_int (ma_cons (me_V (pe_var (i := 2) rfl (.inl rfl))) ma_nil))))))
    (.cons ⟨by rfl, by decide, .inl Kx.g_InvalidDeed⟩ Kx.ex_InvalidDeed hi__law_gone_right_0 (fun a oe c d pn hz hf hl => (have hcs : c ∈ cs := zip_mem hl
      (mss_one (ms_expr (me_mut PySem.F.slot_list_append PySem.F.type_list_append mt_append p_append (pe_var (i := 3) rfl (.inl rfl)) (ma_cons (me_hxf (Kx.xa _ hcs) (Kx.nf_value _ hcs) hz hf (me_V (pe_var (i := 4) rfl (.inl rfl)))) ma_nil)))))) .nil))
    (mss_cons (ms_tryA (i := 4) (n := 5) (W := WF) rfl rfl S.nd rfl rfl (by decide) takesD (fun W pn xe tk => (mss_one (ms_expr (me_meth M_Thing_run (rm.mono (by decide)) (fun z => Bool.noConfusion z) tk (me_V (pe_var (i := 0) rfl (.inl rfl))) (ma_cons me_int (ma_cons (me_lst (ma_cons (me_ix (hu_of rm) (me_prop P_Thing_deeds (rm.mono (by decide)) (fun z => Bool.noConfusion z) (me_V (pe_var (i := 0) rfl (.inl rfl)))) me_int) (ma_cons (me_V (pe_var (i := 2) rfl (.inl rfl))) ma_nil))) ma_nil))))))
    (.cons ⟨by rfl, by decide, .inl Kx.g_InvalidWord⟩ Kx.ex_InvalidWord hi__law_gone_right_1 (fun a oe c d pn hz hf hl => (have hcs : c ∈ cs := zip_mem hl
      (mss_one (ms_expr (me_mut PySem.F.slot_list_append PySem.F.type_list_append mt_append p_append (pe_var (i := 3) rfl (.inl rfl)) (ma_cons (me_hxf (Kx.xa _ hcs) (Kx.nf_position _ hcs) hz hf (me_V (pe_var (i := 4) rfl (.inl rfl)))) ma_nil)))))) .nil))
    (mss_one (ms_if (PW.pt (mt_or (mt_inO M_Thing___contains__ (rm.mono (by decide)) (fun z => Bool.noConfusion z) (me_V (pe_var (i := 2) rfl (.inl rfl))) (me_V (pe_var (i := 0) rfl (.inl rfl)))) (mt_or1 (mt_neLN rm.units (pe_var (i := 3) rfl (.inl rfl)) (me_lst (ma_cons (me_V (pe_var (i := 2) rfl (.inl rfl))) (ma_cons me_int ma_nil))))))) (mss_one (ms_ret me_bl)) mss_nil))))))
    (mss_one (ms_ret me_bl))))

noncomputable def c__law_parts_right_13 : FS := sRet (eAnd (e2 oEq (e2n oIx 10 (eC (.int 0))) (e2n oIx 11 (eC (.int 0)))) (e2 oEq (e2n oIx 12 (e2n oIx 11 (eC (.int 1)))) (e2n oIx 10 (eC (.int 1)))))
noncomputable def b__law_parts_right_13 : FS := c__law_parts_right_13
noncomputable def c__law_parts_right_12 : FS := sSet 12 (eCall 3 F__law_met (aCons (eV 1) (aCons (eV 3) (aCons (eLc (iSeq (e2n oIx 5 (eC (.str "deeds")))) (gN 13) (bTrue) (eIdx (e2n oIx 1 (eC (.str "deeds"))) (eV 13)) [13]) (aNil)))))
noncomputable def b__law_parts_right_12 : FS := sSeq c__law_parts_right_12 b__law_parts_right_13
noncomputable def c__law_parts_right_11 : FS := sPar [10, 11] (kCons (eMeth "Thing" "run" 3 F_Thing_run false (eV 2) (aCons (eV 3) (aCons (eV 9) (aNil)))) (kCons (eMeth "Thing" "run" 3 F_Thing_run false (eV 7) (aCons (eC (.int 0)) (aCons (eV 9) (aNil)))) (kNil)))
noncomputable def b__law_parts_right_11 : FS := sSeq c__law_parts_right_11 b__law_parts_right_12
noncomputable def c__law_parts_right_10 : FS := sSet 9 (eCall 3 F__law_word (aMu 0 (aCons (eV 5) (aCons (eC (.int 6)) (aNil)))))
noncomputable def b__law_parts_right_10 : FS := sSeq c__law_parts_right_10 b__law_parts_right_11
noncomputable def c__law_parts_right_9 : FS := sIf (bnot (bB (eCall 2 F__law_gone_right (aCons (eV 7) (aCons (eLc (iSeq (e2n oIx 1 (eC (.str "deeds")))) (gN 8) (bB (e2m oNin (eV 8) 4)) (eV 8) [8]) (aNil)))))) (sRet (eC (.bl false))) (sNext)
noncomputable def b__law_parts_right_9 : FS := sSeq c__law_parts_right_9 b__law_parts_right_10
noncomputable def c__law_parts_right_8 : FS := sIf (bB (e2 oNe (eMeth "Thing" "reached" 2 F_Thing_reached false (eV 7) (aCons (eC (.int 0)) (aNil))) (eLrg (e1 oLen (e2n oIx 5 (eC (.str "rows"))))))) (sRet (eC (.bl false))) (sNext)
noncomputable def b__law_parts_right_8 : FS := sSeq c__law_parts_right_8 b__law_parts_right_9
noncomputable def c__law_parts_right_7 : FS := sIf (bor (bB (e2o "Thing" F_Thing___eq__ isNb (eMeth "Thing" "part" 3 F_Thing_part true (eV 2) (aCons (e1R oToPt (eV 4)) (aCons (eV 3) (aNil)))) (eV 7))) (bB (e2o "Thing" F_Thing___eq__ isNb (eMeth "Thing" "part" 3 F_Thing_part false (eV 7) (aCons (eC (.int 0)) (aCons (e2n oIx 5 (eC (.str "deeds"))) (aNil)))) (eV 7)))) (sRet (eC (.bl false))) (sNext)
noncomputable def b__law_parts_right_7 : FS := sSeq c__law_parts_right_7 b__law_parts_right_8
noncomputable def c__law_parts_right_6 : FS := sIf (bor (bB (e2o "Thing" F_Thing___eq__ isNb (eV 7) (eCall 1 F__law_thing (aCons (eV 5) (aNil))))) (bB (e2 oNe (e1 oRepr (eLst (aCons (e1p "Thing" F_Thing_deeds (eV 7)) (aCons (eMeth "Thing" "rows" 1 F_Thing_rows false (eV 7) aNil) (aNil))))) (e1 oRepr (eLst (aCons (e2n oIx 5 (eC (.str "deeds"))) (aCons (e2n oIx 5 (eC (.str "rows"))) (aNil)))))))) (sRet (eC (.bl false))) (sNext)
noncomputable def b__law_parts_right_6 : FS := sSeq c__law_parts_right_6 b__law_parts_right_7
noncomputable def c__law_parts_right_5 : FS := sExpr (eMut mAppend 6 (aCons (eC (.str "zzz")) (aNil)))
noncomputable def b__law_parts_right_5 : FS := sSeq c__law_parts_right_5 b__law_parts_right_6
noncomputable def c__law_parts_right_4 : FS := sExpr (eMut mReverse 6 aNil)
noncomputable def b__law_parts_right_4 : FS := sSeq c__law_parts_right_4 b__law_parts_right_5
noncomputable def c__law_parts_right_3 : FS := sIf (bB (e2nn oNe 6 4)) (sRet (eC (.bl false))) (sNext)
noncomputable def b__law_parts_right_3 : FS := sSeq c__law_parts_right_3 b__law_parts_right_4
noncomputable def c__law_parts_right_2 : FS := sSet 7 (eBor 6 (eMeth "Thing" "part" 3 F_Thing_part false (eV 2) (aCons (eV 3) (aCons (eV 6) (aNil)))))
noncomputable def b__law_parts_right_2 : FS := sSeq c__law_parts_right_2 b__law_parts_right_3
noncomputable def c__law_parts_right_1 : FS := sPar [5, 6] (kCons (eCall 3 F__law_part (aCons (eV 1) (aCons (eV 3) (aCons (eV 4) (aNil))))) (kCons (e1 oToList (eV 4)) (kNil)))
noncomputable def b__law_parts_right_1 : FS := sSeq c__law_parts_right_1 b__law_parts_right_2
noncomputable def c__law_parts_right_0 : FS := sSet 4 (eSl (eCall 2 F__law_mixed (aMu 0 (aCons (e2n oIx 1 (eC (.str "deeds"))) (aNil)))) (fNo) (fPart (e2 oAdd (eC (.int 1)) (eCall 2 F__law_draw (aMu 0 (aCons (e1 oLen (e2n oIx 1 (eC (.str "deeds")))) (aNil)))))))
noncomputable def b__law_parts_right_0 : FS := sSeq c__law_parts_right_0 b__law_parts_right_1
noncomputable abbrev b__law_parts_right : FS := b__law_parts_right_0
noncomputable def F__law_parts_right : FD := runD 14 b__law_parts_right
theorem sc__law_parts_right : FnScope ["_law_pot_here", "_law_model_here", "_law_made", "_law_state_now", "_law_some", "_law_due", "_law_handed", "_law_near", "_law_name", "_law_said", "_law_far", "_law_here", "_law_met_here", "_law_deed_now"] ["_law_pot_here", "_law_model_here", "_law_made", "_law_state_now"] (defScope (top 56)) := ⟨rfl, rfl, rfl, by decide +kernel, rfl, by decide +kernel, by decide +kernel⟩
theorem ok__law_parts_right (B : Bl mg) (Kx : Kx P w K mg base) (M_Thing_part : Mt P w K mg base false 12 "Thing" "part" ["state", "deeds"] F_Thing_part) (M_Thing___eq__ : Mt P w K mg base false 1 "Thing" "__eq__" ["other"] F_Thing___eq__) (M_Thing_rows : Mt P w K mg base false 1 "Thing" "rows" [] F_Thing_rows) (M_Thing_reached : Mt P w K mg base false 6 "Thing" "reached" ["state"] F_Thing_reached) (M_Thing_run : Mt P w K mg base false 6 "Thing" "run" ["state", "word"] F_Thing_run) (P_Thing_deeds : Pr P w K mg base false 1 "Thing" "deeds" F_Thing_deeds) (H__law_mixed : Fnn P w K mg base false 2 "_law_mixed" 2 F__law_mixed) (H__law_draw : Fnn P w K mg base false 1 "_law_draw" 2 F__law_draw) (H__law_part : Fnn P w K mg base false 2 "_law_part" 3 F__law_part) (H__law_thing : Fnn P w K mg base false 10 "_law_thing" 1 F__law_thing) (H__law_gone_right : Fnn P w K mg base false 8 "_law_gone_right" 2 F__law_gone_right) (H__law_word : Fnn P w K mg base false 3 "_law_word" 3 F__law_word) (H__law_met : Fnn P w K mg base false 1 "_law_met" 3 F__law_met) (D : FunD K "_law_parts_right" "_law_parts_right" (defArgs (top 56)) (defBody (top 56)) (defScope (top 56)) [] [] f fd) (hm : mg "_law_parts_right" = some (.ref f)) : Fnn P w K mg base true 13 "_law_parts_right" 4 F__law_parts_right := by
  have bd : Binds K fd ["_law_pot_here", "_law_model_here", "_law_made", "_law_state_now"] [] := D.bindsN fun _ _ _ _ _ _ us hl => match us, hl with | [_, _, _, _], _ => rfl
  have S := sc__law_parts_right
  exact fnn_of D hm S bd (by decide) (fun cv A out st H E rm gd =>
    (mss_cons (ms_set (i := 4) S.nd rfl (.inr rfl) (me_sl (me_fn H__law_mixed rm (fun z => Bool.noConfusion z) takesD (by rfl) (ma_mu (pe_var (i := 0) rfl (.inl rfl)) (ma_cons (me_ixN (hu_of rm) (pe_var (i := 1) rfl (.inr (.inl rfl))) me_str) ma_nil))) mo_no (mo_part (me_add me_int (me_fn H__law_draw rm (fun z => Bool.noConfusion z) takesD (by rfl) (ma_mu (pe_var (i := 0) rfl (.inl rfl)) (ma_cons (me_b1 call_len p_len (by rfl) B.len (by decide +kernel) (me_ixN (hu_of rm) (pe_var (i := 1) rfl (.inr (.inl rfl))) me_str)) ma_nil)))))))
    (mss_cons (ms_par (i := 5) (j := 6) rfl S.nd rfl rfl (by decide) rfl rfl (mk_cons (me_fn H__law_part rm (fun z => Bool.noConfusion z) takesD (by rfl) (ma_cons (me_V (pe_var (i := 1) rfl (.inr (.inl rfl)))) (ma_cons (me_V (pe_var (i := 3) rfl (.inl rfl))) (ma_cons (me_V (pe_var (i := 4) rfl (.inr (.inl rfl)))) ma_nil)))) (mk_cons (me_t1 call_list_of p_toList (by rfl) B.list (by decide +kernel) (me_V (pe_var (i := 4) rfl (.inr (.inl rfl))))) mk_nil)) (by rfl))
    (mss_cons (ms_set (i := 7) S.nd rfl (.inl rfl) (me_bor 6 (me_meth M_Thing_part (rm.mono (by decide)) (fun z => Bool.noConfusion z) takesD (me_V (pe_var (i := 2) rfl (.inl rfl))) (ma_cons (me_V (pe_var (i := 3) rfl (.inl rfl))) (ma_cons (me_V (pe_var (i := 6) rfl (.inl rfl))) ma_nil)))))
    (mss_cons (ms_if (mt_neNN rm.units (pe_var (i := 6) rfl (.inl rfl)) (pe_var (i := 4) rfl (.inr (.inl rfl)))) (mss_one (ms_ret me_bl)) mss_nil)
    (mss_cons (ms_expr (me_mut0 PySem.F.slot_list_reverse PySem.F.type_list_reverse mt_reverse p_reverse (pe_var (i := 6) rfl (.inl rfl))))
    (mss_cons (ms_expr (me_mut PySem.F.slot_list_append PySem.F.type_list_append mt_append p_append (pe_var (i := 6) rfl (.inl rfl)) (ma_cons me_str ma_nil)))
    (mss_cons (ms_if (PW.pt (mt_or (mt_neO M_Thing___eq__ Kx.ne_Thing (rm.mono (by decide)) (fun z => Bool.noConfusion z) (me_V (pe_var (i := 7) rfl (.inl rfl))) (me_fn H__law_thing rm (fun z => Bool.noConfusion z) takesD (by rfl) (ma_cons (me_V (pe_var (i := 5) rfl (.inl rfl))) ma_nil))) (mt_or1 (mt_ne rm.units (me_b1 (cr_repr Kx.sy (gd rfl) rm.units) p_repr (by rfl) B.repr (by decide +kernel) (me_lst (ma_cons (me_prop P_Thing_deeds (rm.mono (by decide)) (fun z => Bool.noConfusion z) (me_V (pe_var (i := 7) rfl (.inl rfl)))) (ma_cons (me_meth0 M_Thing_rows (rm.mono (by decide)) (fun z => Bool.noConfusion z) takesD (me_V (pe_var (i := 7) rfl (.inl rfl)))) ma_nil)))) (me_b1 (cr_repr Kx.sy (gd rfl) rm.units) p_repr (by rfl) B.repr (by decide +kernel) (me_lst (ma_cons (me_ixN (hu_of rm) (pe_var (i := 5) rfl (.inl rfl)) me_str) (ma_cons (me_ixN (hu_of rm) (pe_var (i := 5) rfl (.inl rfl)) me_str) ma_nil)))))))) (mss_one (ms_ret me_bl)) mss_nil)
    (mss_cons (ms_if (PW.pt (mt_or (mt_neO M_Thing___eq__ Kx.ne_Thing (rm.mono (by decide)) (fun z => Bool.noConfusion z) (me_methK (rv := true) M_Thing_part (rm.mono (by decide)) (fun z => Bool.noConfusion z) takesD (me_V (pe_var (i := 2) rfl (.inl rfl))) (pk_one (me_toPt (by rfl) B.tuple (me_V (pe_var (i := 4) rfl (.inr (.inl rfl))))) (pk_one (me_V (pe_var (i := 3) rfl (.inl rfl))) pk_none))) (me_V (pe_var (i := 7) rfl (.inl rfl)))) (mt_or1 (mt_neO M_Thing___eq__ Kx.ne_Thing (rm.mono (by decide)) (fun z => Bool.noConfusion z) (me_meth M_Thing_part (rm.mono (by decide)) (fun z => Bool.noConfusion z) takesD (me_V (pe_var (i := 7) rfl (.inl rfl))) (ma_cons me_int (ma_cons (me_ixN (hu_of rm) (pe_var (i := 5) rfl (.inl rfl)) me_str) ma_nil))) (me_V (pe_var (i := 7) rfl (.inl rfl))))))) (mss_one (ms_ret me_bl)) mss_nil)
    (mss_cons (ms_if (mt_ne rm.units (me_meth M_Thing_reached (rm.mono (by decide)) (fun z => Bool.noConfusion z) takesD (me_V (pe_var (i := 7) rfl (.inl rfl))) (ma_cons me_int ma_nil)) (me_lrg rfl (by rfl) B.list (by rfl) B.range (me_b1 call_len p_len (by rfl) B.len (by decide +kernel) (me_ixN (hu_of rm) (pe_var (i := 5) rfl (.inl rfl)) me_str)))) (mss_one (ms_ret me_bl)) mss_nil)
    (mss_cons (ms_if (mt_not (mt_val (me_fn H__law_gone_right rm (fun z => Bool.noConfusion z) takesD (by rfl) (ma_cons (me_V (pe_var (i := 7) rfl (.inl rfl))) (ma_cons (me_lc rfl S.nd (mi_seq (me_ixN (hu_of rm) (pe_var (i := 1) rfl (.inr (.inl rfl))) me_str)) (blkOk_by (own := [("_law_name", 8)]) (by kernel_rfl)) (fun _ _ _ _ _ => (mg_name (i := 8) S.nd rfl (.inl rfl))) (fun _ _ _ _ _ => (mts_one (mt_ninN (hu_of rm) (me_V (pe_var (i := 8) rfl (.inl rfl))) (pe_var (i := 4) rfl (.inr (.inl rfl)))))) (fun _ _ _ _ _ => (me_V (pe_var (i := 8) rfl (.inl rfl))))) ma_nil))))) (mss_one (ms_ret me_bl)) mss_nil)
    (mss_cons (ms_set (i := 9) S.nd rfl (.inl rfl) (me_fn H__law_word rm (fun z => Bool.noConfusion z) takesD (by rfl) (ma_mu (pe_var (i := 0) rfl (.inl rfl)) (ma_cons (me_V (pe_var (i := 5) rfl (.inl rfl))) (ma_cons me_int ma_nil)))))
    (mss_cons (ms_par (i := 10) (j := 11) rfl S.nd rfl rfl (by decide) rfl rfl (mk_cons (me_meth M_Thing_run (rm.mono (by decide)) (fun z => Bool.noConfusion z) takesD (me_V (pe_var (i := 2) rfl (.inl rfl))) (ma_cons (me_V (pe_var (i := 3) rfl (.inl rfl))) (ma_cons (me_V (pe_var (i := 9) rfl (.inl rfl))) ma_nil))) (mk_cons (me_meth M_Thing_run (rm.mono (by decide)) (fun z => Bool.noConfusion z) takesD (me_V (pe_var (i := 7) rfl (.inl rfl))) (ma_cons me_int (ma_cons (me_V (pe_var (i := 9) rfl (.inl rfl))) ma_nil))) mk_nil)) (by rfl))
    (mss_cons (ms_set (i := 12) S.nd rfl (.inl rfl) (me_fn H__law_met rm (fun z => Bool.noConfusion z) takesD (by rfl) (ma_cons (me_V (pe_var (i := 1) rfl (.inr (.inl rfl)))) (ma_cons (me_V (pe_var (i := 3) rfl (.inl rfl))) (ma_cons (me_lc rfl S.nd (mi_seq (me_ixN (hu_of rm) (pe_var (i := 5) rfl (.inl rfl)) me_str)) (blkOk_by (own := [("_law_deed_now", 13)]) (by kernel_rfl)) (fun _ _ _ _ _ => (mg_name (i := 13) S.nd rfl (.inl rfl))) (fun _ _ _ _ _ => mts_nil) (fun _ _ _ _ _ => (me_idx (me_ixN (hu_of rm) (pe_var (i := 1) rfl (.inr (.inl rfl))) me_str) (me_V (pe_var (i := 13) rfl (.inl rfl)))))) ma_nil)))))
    (mss_one (ms_ret (me_and (me_eq rm.units (me_ixN (hu_of rm) (pe_var (i := 10) rfl (.inl rfl)) me_int) (me_ixN (hu_of rm) (pe_var (i := 11) rfl (.inl rfl)) me_int)) (me_one (me_eq rm.units (me_ixN (hu_of rm) (pe_var (i := 12) rfl (.inl rfl)) (me_ixN (hu_of rm) (pe_var (i := 11) rfl (.inl rfl)) me_int)) (me_ixN (hu_of rm) (pe_var (i := 10) rfl (.inl rfl)) me_int))))))))))))))))))))

noncomputable def c__law_right_4 : FS := sRet (eAnd (e2 oEq (e1o "Thing" F_Thing___repr__ isSt (eV 2)) (eV 4)) (e2o "Thing" F_Thing___eq__ isBl (eV 2) (eCall 1 F__law_thing (aCons (eV 1) (aNil)))))
noncomputable def b__law_right_4 : FS := c__law_right_4
noncomputable def c__law_right_3 : FS := sFor (iRng1 (eC (.int 2))) (gN 5) (sFor (iRng1 (e1 oLen (e2n oIx 1 (eC (.str "rows"))))) (gN 6) (sSeq (sSet 7 (e1 oSorted (eCall 3 F__law_met (aCons (eV 1) (aCons (eV 6) (aCons (eV 3) (aNil))))))) (sSeq (sSet 8 (eMeth "Thing" "reached" 2 F_Thing_reached false (eV 2) (aCons (eV 6) (aNil)))) (sSeq (sIf (bB (e2 oNe (e1n oRepr 8) (e1n oRepr 7))) (sRet (eC (.bl false))) (sNext)) (sSeq (sExpr (eMut mAppend 8 (aCons (eC (.int 9)) (aNil)))) (sSeq (sExpr (eMut mPop 8 (aCons (eC (.int 0)) (aNil)))) (sSeq (sIf (bor (bB (e2 oNe (eMeth "Thing" "reached" 2 F_Thing_reached false (eV 2) (aCons (eV 6) (aNil))) (eV 7))) (bnot (bB (eCall 4 F__law_parts_right (aMu 0 (aCons (eV 1) (aCons (eV 2) (aCons (eV 6) (aNil))))))))) (sRet (eC (.bl false))) (sNext)) (sIf (bB (e2 oNe (e1o "Thing" F_Thing___len__ isLn (eMeth "Thing" "part" 3 F_Thing_part false (eV 2) (aCons (eV 6) (aCons (e2n oIx 1 (eC (.str "deeds"))) (aNil))))) (e1n oLen 7))) (sRet (eC (.bl false))) (sNext)))))))))
noncomputable def b__law_right_3 : FS := sSeq c__law_right_3 b__law_right_4
noncomputable def c__law_right_2 : FS := sSet 4 (e1o "Thing" F_Thing___repr__ isSt (eV 2))
noncomputable def b__law_right_2 : FS := sSeq c__law_right_2 b__law_right_3
noncomputable def c__law_right_1 : FS := sPar [2, 3] (kCons (eCall 1 F__law_thing (aCons (eV 1) (aNil))) (kCons (eLrg (e1 oLen (e2n oIx 1 (eC (.str "deeds"))))) (kNil)))
noncomputable def b__law_right_1 : FS := sSeq c__law_right_1 b__law_right_2
noncomputable def c__law_right_0 : FS := sSet 1 (eCall 3 F__law_model (aMu 0 (aCons (eC (.int 8)) (aCons (eC (.int 4)) (aNil)))))
noncomputable def b__law_right_0 : FS := sSeq c__law_right_0 b__law_right_1
noncomputable abbrev b__law_right : FS := b__law_right_0
noncomputable def F__law_right : FD := runD 9 b__law_right
theorem sc__law_right : FnScope ["_law_pot_here", "_law_model_here", "_law_made", "_law_everything", "_law_kept", "_law_turn", "_law_state_now", "_law_due", "_law_told"] ["_law_pot_here"] (defScope (top 57)) := ⟨rfl, rfl, rfl, by decide +kernel, rfl, by decide +kernel, by decide +kernel⟩
theorem ok__law_right (B : Bl mg) (Kx : Kx P w K mg base) (M_Thing___repr__ : Mt P w K mg base true 3 "Thing" "__repr__" [] F_Thing___repr__) (M_Thing_reached : Mt P w K mg base false 6 "Thing" "reached" ["state"] F_Thing_reached) (M_Thing___len__ : Mt P w K mg base false 1 "Thing" "__len__" [] F_Thing___len__) (M_Thing_part : Mt P w K mg base false 12 "Thing" "part" ["state", "deeds"] F_Thing_part) (M_Thing___eq__ : Mt P w K mg base false 1 "Thing" "__eq__" ["other"] F_Thing___eq__) (H__law_model : Fnn P w K mg base false 4 "_law_model" 3 F__law_model) (H__law_thing : Fnn P w K mg base false 10 "_law_thing" 1 F__law_thing) (H__law_met : Fnn P w K mg base false 1 "_law_met" 3 F__law_met) (H__law_parts_right : Fnn P w K mg base true 13 "_law_parts_right" 4 F__law_parts_right) (D : FunD K "_law_right" "_law_right" (defArgs (top 57)) (defBody (top 57)) (defScope (top 57)) [] [] f fd) (hm : mg "_law_right" = some (.ref f)) : Fnn P w K mg base true 14 "_law_right" 1 F__law_right := by
  have bd : Binds K fd ["_law_pot_here"] [] := D.bindsN fun _ _ _ _ _ _ us hl => match us, hl with | [_], _ => rfl
  have S := sc__law_right
  exact fnn_of D hm S bd (by decide) (fun cv A out st H E rm gd =>
    (mss_cons (ms_set (i := 1) S.nd rfl (.inl rfl) (me_fn H__law_model rm (fun z => Bool.noConfusion z) takesD (by rfl) (ma_mu (pe_var (i := 0) rfl (.inl rfl)) (ma_cons me_int (ma_cons me_int ma_nil)))))
    (mss_cons (ms_par (i := 2) (j := 3) rfl S.nd rfl rfl (by decide) rfl rfl (mk_cons (me_fn H__law_thing rm (fun z => Bool.noConfusion z) takesD (by rfl) (ma_cons (me_V (pe_var (i := 1) rfl (.inl rfl))) ma_nil)) (mk_cons (me_lrg rfl (by rfl) B.list (by rfl) B.range (me_b1 call_len p_len (by rfl) B.len (by decide +kernel) (me_ixN (hu_of rm) (pe_var (i := 1) rfl (.inl rfl)) me_str))) mk_nil)) (by rfl))
    (mss_cons (ms_set (i := 4) S.nd rfl (.inl rfl) (me_reprO M_Thing___repr__ (rm.mono (by decide)) gd (by rfl) B.repr (me_V (pe_var (i := 2) rfl (.inl rfl)))))
    (mss_cons (ms_for passD rfl (mi_rng1 (by rfl) B.range me_int) (mg_name (i := 5) S.nd rfl (.inl rfl)) (mss_one (ms_for passD rfl (mi_rng1 (by rfl) B.range (me_b1 call_len p_len (by rfl) B.len (by decide +kernel) (me_ixN (hu_of rm) (pe_var (i := 1) rfl (.inl rfl)) me_str))) (mg_name (i := 6) S.nd rfl (.inl rfl)) (mss_cons (ms_set (i := 7) S.nd rfl (.inl rfl) (me_b1 cr_sortedI p_sorted (by rfl) B.sorted (by decide +kernel) (me_fn H__law_met rm (fun z => Bool.noConfusion z) takesD (by rfl) (ma_cons (me_V (pe_var (i := 1) rfl (.inl rfl))) (ma_cons (me_V (pe_var (i := 6) rfl (.inl rfl))) (ma_cons (me_V (pe_var (i := 3) rfl (.inl rfl))) ma_nil))))))
    (mss_cons (ms_set (i := 8) S.nd rfl (.inl rfl) (me_meth M_Thing_reached (rm.mono (by decide)) (fun z => Bool.noConfusion z) takesD (me_V (pe_var (i := 2) rfl (.inl rfl))) (ma_cons (me_V (pe_var (i := 6) rfl (.inl rfl))) ma_nil)))
    (mss_cons (ms_if (mt_ne rm.units (me_b1N (cr_repr Kx.sy (gd rfl) rm.units) p_repr (by rfl) B.repr (by decide +kernel) (pe_var (i := 8) rfl (.inl rfl))) (me_b1N (cr_repr Kx.sy (gd rfl) rm.units) p_repr (by rfl) B.repr (by decide +kernel) (pe_var (i := 7) rfl (.inl rfl)))) (mss_one (ms_ret me_bl)) mss_nil)
    (mss_cons (ms_expr (me_mut PySem.F.slot_list_append PySem.F.type_list_append mt_append p_append (pe_var (i := 8) rfl (.inl rfl)) (ma_cons me_int ma_nil)))
    (mss_cons (ms_expr (me_mut PySem.F.slot_list_pop PySem.F.type_list_pop mt_popAt p_pop (pe_var (i := 8) rfl (.inl rfl)) (ma_cons me_int ma_nil)))
    (mss_cons (ms_if (PW.pt (mt_or (mt_ne rm.units (me_methK (rv := false) M_Thing_reached (rm.mono (by decide)) (fun z => Bool.noConfusion z) takesD (me_V (pe_var (i := 2) rfl (.inl rfl))) (pk_one (me_V (pe_var (i := 6) rfl (.inl rfl))) pk_none)) (me_V (pe_var (i := 7) rfl (.inl rfl)))) (mt_or1 (mt_not (mt_val (me_fn H__law_parts_right rm gd takesD (by rfl) (ma_mu (pe_var (i := 0) rfl (.inl rfl)) (ma_cons (me_V (pe_var (i := 1) rfl (.inl rfl))) (ma_cons (me_V (pe_var (i := 2) rfl (.inl rfl))) (ma_cons (me_V (pe_var (i := 6) rfl (.inl rfl))) ma_nil)))))))))) (mss_one (ms_ret me_bl)) mss_nil)
    (mss_one (ms_if (mt_ne rm.units (me_lenO M_Thing___len__ (rm.mono (by decide)) (fun z => Bool.noConfusion z) (by rfl) B.len (me_meth M_Thing_part (rm.mono (by decide)) (fun z => Bool.noConfusion z) takesD (me_V (pe_var (i := 2) rfl (.inl rfl))) (ma_cons (me_V (pe_var (i := 6) rfl (.inl rfl))) (ma_cons (me_ixN (hu_of rm) (pe_var (i := 1) rfl (.inl rfl)) me_str) ma_nil)))) (me_b1N call_len p_len (by rfl) B.len (by decide +kernel) (pe_var (i := 7) rfl (.inl rfl)))) (mss_one (ms_ret me_bl)) mss_nil)))))))))))
    (mss_one (ms_ret (me_and (me_eq rm.units (me_reprO M_Thing___repr__ (rm.mono (by decide)) gd (by rfl) B.repr (me_V (pe_var (i := 2) rfl (.inl rfl)))) (me_V (pe_var (i := 4) rfl (.inl rfl)))) (me_one (me_eqO M_Thing___eq__ (rm.mono (by decide)) (fun z => Bool.noConfusion z) (me_V (pe_var (i := 2) rfl (.inl rfl))) (me_fn H__law_thing rm (fun z => Bool.noConfusion z) takesD (by rfl) (ma_cons (me_V (pe_var (i := 1) rfl (.inl rfl))) ma_nil))))))))))))

noncomputable def c_law_0 : FS := sRet (e1 oAll (eLc (iRng1 (e2 oMax (eC (.int 1)) (e2 oMin (e1n oLen 0) (eC (.int 4))))) (gN 1) (bTrue) (eCall 1 F__law_right (aTmp (eCall 2 F__law_pot (aCons (eV 0) (aCons (eV 1) (aNil)))))) [1]))
noncomputable def b_law_0 : FS := c_law_0
noncomputable abbrev b_law : FS := b_law_0
noncomputable def F_law : FD := runD 2 b_law
theorem sc_law : FnScope ["_law_script", "_law_k"] ["_law_script"] (defScope (top 58)) := ⟨rfl, rfl, rfl, by decide +kernel, rfl, by decide +kernel, by decide +kernel⟩
theorem ok_law (B : Bl mg) (Kx : Kx P w K mg base) (H__law_right : Fnn P w K mg base true 14 "_law_right" 1 F__law_right) (H__law_pot : Fnn P w K mg base false 1 "_law_pot" 2 F__law_pot) (D : FunD K "law" "law" (defArgs (top 58)) (defBody (top 58)) (defScope (top 58)) [] [] f fd) (hm : mg "law" = some (.ref f)) : Fnn P w K mg base true 15 "law" 1 F_law := by
  have bd : Binds K fd ["_law_script"] [] := D.bindsN fun _ _ _ _ _ _ us hl => match us, hl with | [_], _ => rfl
  have S := sc_law
  exact fnn_of D hm S bd (by decide) (fun cv A out st H E rm gd =>
    (mss_one (ms_ret (me_b1 (cr_all rfl) p_all (by rfl) B.all (by decide +kernel) (me_lc rfl S.nd (mi_rng1 (by rfl) B.range (me_b2 (call_max2 rfl) p_max (by rfl) B.max (by decide +kernel) me_int (me_b2 (call_min2 rfl) p_min (by rfl) B.min (by decide +kernel) (me_b1N call_len p_len (by rfl) B.len (by decide +kernel) (pe_var (i := 0) rfl (.inr (.inl rfl)))) me_int))) (blkOk_by (own := [("_law_k", 1)]) (by kernel_rfl)) (fun _ _ _ _ _ => (mg_name (i := 1) S.nd rfl (.inl rfl))) (fun _ _ _ _ _ => mts_nil) (fun _ _ _ _ _ => (me_fn H__law_right rm gd takes0 (by rfl) (ma_tmp (me_fn H__law_pot rm (fun z => Bool.noConfusion z) takes0 (by rfl) (ma_cons (me_V (pe_var (i := 0) rfl (.inr (.inl rfl)))) (ma_cons (me_V (pe_var (i := 1) rfl (.inl rfl))) ma_nil)))))))))))
theorem og_law (B : Bl mg) (Kx : Kx P w K mg base) (H__law_right : Fnn P w K mg base true 14 "_law_right" 1 F__law_right) (H__law_pot : Fnn P w K mg base false 1 "_law_pot" 2 F__law_pot) (D : FunD K "law" "law" (defArgs (top 58)) (defBody (top 58)) (defScope (top 58)) [] [] f fd) : FnG P w K mg base true 15 f fd ["_law_script"] (spM K 1 F_law) :=
  have S := sc_law
  fnG_of D S (fun _ _ _ _ h => h.1) fun cv A out st H vs Q E rm gd h =>
    ⟨_, ((mss_one (ms_ret (me_b1 (cr_all rfl) p_all (by rfl) B.all (by decide +kernel) (me_lc rfl S.nd (mi_rng1 (by rfl) B.range (me_b2 (call_max2 rfl) p_max (by rfl) B.max (by decide +kernel) me_int (me_b2 (call_min2 rfl) p_min (by rfl) B.min (by decide +kernel) (me_b1N call_len p_len (by rfl) B.len (by decide +kernel) (pe_var (i := 0) rfl (.inr (.inl rfl)))) me_int))) (blkOk_by (own := [("_law_k", 1)]) (by kernel_rfl)) (fun _ _ _ _ _ => (mg_name (i := 1) S.nd rfl (.inl rfl))) (fun _ _ _ _ _ => mts_nil) (fun _ _ _ _ _ => (me_fn H__law_right rm gd takes0 (by rfl) (ma_tmp (me_fn H__law_pot rm (fun z => Bool.noConfusion z) takes0 (by rfl) (ma_cons (me_V (pe_var (i := 0) rfl (.inr (.inl rfl)))) (ma_cons (me_V (pe_var (i := 1) rfl (.inl rfl))) ma_nil)))))))))) : MSs _ (WE0 E) 1 _ b_law), runD_ok (N := ["_law_script", "_law_k"]) (by decide) h⟩

end
end Law
namespace Law
open PySem Mi
/-- a pot: two numbers that can be drawn of -/
structure Pot (x y : Int) : Prop where
  x0 : 0 ≤ x
  y0 : 0 ≤ y
  y1 : y < 2147483648
abbrev pot (x y : Int) : D := .lst [.int x, .int y]
theorem draw_ok {x y m : Int} (P : Pot x y) (hm : 0 < m) (hm2 : m < 1073741824) : ∃ d x' y', F__law_draw [.ow (pot x y), .fz (.int m)] = some (.v (.fz (.int d)) [.ow (pot x' y'), .fz (.int m)]) ∧ 0 ≤ d ∧ d < m ∧ Pot x' y' := by
  obtain ⟨hx, hy, hy2⟩ := P
  by_cases h : 0 < x
  · refine ⟨x % m, x / m, y, ?_, Int.emod_nonneg _ (by omega), Int.emod_lt_of_pos _ hm, Int.ediv_nonneg hx (by omega), hy, hy2⟩
    simp [F__law_draw, runD, b__law_draw_0, b__law_draw_1, b__law_draw_2, c__law_draw_0, c__law_draw_1, c__law_draw_2, sSeq, sIf, bB, e2, e2n, look, eC, oIx, ixD, L2.atI, L2.ixN, oInt, h, sAsg, gT, gCons, gIx, gN, gNil, eV, oDivmod, hm, hm2, sRet, eG, bs]
  · refine ⟨(y * 48271 + 22447) % 2147483543 * ((y * 48271 + 22447) % 2147483543) % 2147483563 / 19 % m, x, (y * 48271 + 22447) % 2147483543, ?_, Int.emod_nonneg _ (by omega), Int.emod_lt_of_pos _ hm, hx, by omega, by omega⟩
    have e1 : y < 18446744073709551616 := by omega
    have e2' : (-18446744073709551616 : Int) < y := by omega
    have e3 : (y * 48271 + 22447) % 2147483543 < 18446744073709551616 := by omega
    have e4 : (-18446744073709551616 : Int) < (y * 48271 + 22447) % 2147483543 := by omega
    simp [F__law_draw, runD, b__law_draw_0, b__law_draw_1, b__law_draw_2, c__law_draw_0, c__law_draw_1, c__law_draw_2, sSeq, sIf, bB, e2, e2n, Mi.e1, look, eC, oIx, ixD, L2.atI, L2.ixN, oInt, h, sAsg, gT, gCons, gIx, gN, gNil, eV, oMul, oAdd, oMod, oDiv, oToInt, sNext, hm, hm2, sRet, eG, bs, e1, e2', e3, e4]
theorem pick_ok {x y : Int} {ds : List D} (P : Pot x y) (h0 : ds ≠ []) (h1 : ds.length < 1073741824) : ∃ d x' y', F__law_pick [.ow (pot x y), .fz (.lst ds)] = some (.v (.fz d) [.ow (pot x' y'), .fz (.lst ds)]) ∧ d ∈ ds ∧ Pot x' y' := by
  have hp : 0 < ds.length := List.length_pos_iff.mpr h0
  obtain ⟨i, x', y', e, i0, i1, P'⟩ := draw_ok P (m := ds.length) (by omega) (by omega)
  have il : i.toNat < ds.length := by omega
  refine ⟨ds[i.toNat], x', y', ?_, List.getElem_mem il, P'⟩
  have ei : L2.atI ds i = some ds[i.toNat] := by simp [L2.atI, L2.ixN, i0, i1, il]
  have e := e
  simp [F__law_pick, runD, b__law_pick_0, c__law_pick_0, sRet, e2n, look, eCall, aMu, aCons, aNil, e1n, oLen, muOk, e, wb, oIx, ixD, ei, bs]
theorem picks_ok {x y : Int} {z : Str} (P : Pot x y) (h0 : z.cps.toList ≠ []) (h1 : z.length ≤ 1000) : ∃ c x' y', F__law_pick [.ow (pot x y), .fz (.str z)] = some (.v (.fz (.str ⟨#[c]⟩)) [.ow (pot x' y'), .fz (.str z)]) ∧ c ∈ z.cps.toList ∧ Pot x' y' := by
  have hl : z.length = z.cps.toList.length := by simp [Str.length]
  have hp : 0 < z.cps.toList.length := List.length_pos_iff.mpr h0
  obtain ⟨i, x', y', e, i0, i1, P'⟩ := draw_ok P (m := z.length) (by omega) (by omega)
  have il : i.toNat < z.cps.toList.length := by omega
  refine ⟨z.cps.toList[i.toNat], x', y', ?_, List.getElem_mem il, P'⟩
  have ei : L2.atI z.cps.toList i = some z.cps.toList[i.toNat] := by
    have : i < (z.cps.toList.length : Int) := by omega
    simp only [L2.atI, L2.ixN, i0, this, if_true]
    simp [il]
  have hs : z.length ≤ sizeLine := by rw [sizeLine_eq]; omega
  have e := e
  simp [F__law_pick, runD, b__law_pick_0, c__law_pick_0, sRet, e2n, look, eCall, aMu, aCons, aNil, e1n, oLen, hs, muOk, e, wb, oIx, ixD, ei, bs]
inductive All2 (R : D → D → Prop) : List D → List D → Prop
  | nil : All2 R [] []
  | cons {a b : D} {as bs : List D} : R a b → All2 R as bs → All2 R (a :: as) (b :: bs)
theorem All2.len {R : D → D → Prop} : ∀ {as bs : List D}, All2 R as bs → bs.length = as.length
  | _, _, .nil => rfl
  | _, _, .cons _ r => by simp [r.len]
theorem All2.mem {R : D → D → Prop} : ∀ {as bs : List D}, All2 R as bs → ∀ b ∈ bs, ∃ a ∈ as, R a b
  | _, _, .nil, b, h => by cases h
  | _, _, .cons (a := a) r rr, b, h => by
    rcases List.mem_cons.mp h with rfl | h
    · exact ⟨a, List.mem_cons_self .., r⟩
    · obtain ⟨a', h1, h2⟩ := rr.mem b h
      exact ⟨a', List.mem_cons_of_mem _ h1, h2⟩
/-! ### comprehensions that draw -/
theorem lc_pot {g : FG} {e : FE} {vs : List Nat} {B : Int → Int → En} {E : Int → Int → D → En} {R : D → D → Prop} : ∀ (ds : List D) (acc : List D),
    (∀ x y d, d ∈ ds → g d (B x y) = some (E x y d)) → (∀ x y d, d ∈ ds → Pot x y → ∃ v x' y', (e (E x y d) = some (.v (.fz v) (E x' y' d)) ∨ e (E x y d) = some (.v (.ow v) (E x' y' d))) ∧ R d v ∧ Pot x' y') → (∀ x y d, wipeE (E x y d) vs = B x y) →
    acc.length + ds.length ≤ 100000 → ∀ x y, Pot x y → ∃ ys x' y', lcL g bTrue e vs ds (B x y) acc = some (acc ++ ys, B x' y') ∧ All2 R ds ys ∧ Pot x' y'
  | [], acc, _, _, _, _, x, y, P => ⟨[], x, y, by simp [lcL], .nil, P⟩
  | d :: ds, acc, hg, he, hw, hl, x, y, P => by
    obtain ⟨v, x1, y1, e1, r1, P1⟩ := he x y d (List.mem_cons_self ..) P
    have hl2 : acc.length < sizeLine := by rw [sizeLine_eq]; simp at hl; omega
    obtain ⟨ys, x2, y2, e2, f2, P2⟩ := lc_pot ds (acc ++ [v]) (fun x y d h => hg x y d (List.mem_cons_of_mem _ h)) (fun x y d h => he x y d (List.mem_cons_of_mem _ h)) hw (by simp at hl ⊢; omega) x1 y1 P1
    refine ⟨v :: ys, x2, y2, ?_, .cons r1 f2, P2⟩
    have hg0 := hg x y d (List.mem_cons_self ..)
    unfold lcL
    rw [hg0]
    rcases e1 with e1 | e1 <;> simp only [bTrue, e1, hl2, if_true, hw, e2] <;> simp

/-! ### calls -/
theorem call2 {Fd : FD} {fa : FAr} {ε ε1 : En} {i : Nat} {p p' : D} {s a : Sl} {a' : Sl} (ha : fa ε = some (.v [(some i, .ow p), (none, a)] ε1)) (hp : Fd [.ow p, a] = some (.v s [.ow p', a'])) : eCall 2 Fd fa ε = some (.v s (ε1.set i (.ow p'))) := by
  unfold eCall
  rw [ha]
  simp only [bnd_v]
  have hm : muOk 2 [(some i, Sl.ow p), (none, a)] = true := by simp [muOk]
  rw [hm]
  simp only [List.map_cons, List.map_nil]
  rw [hp]
  rfl
theorem call3 {Fd : FD} {fa : FAr} {ε ε1 : En} {i : Nat} {p p' : D} {s a b a' b' : Sl} (ha : fa ε = some (.v [(some i, .ow p), (none, a), (none, b)] ε1)) (hp : Fd [.ow p, a, b] = some (.v s [.ow p', a', b'])) : eCall 3 Fd fa ε = some (.v s (ε1.set i (.ow p'))) := by
  unfold eCall
  rw [ha]
  simp only [bnd_v]
  have hm : muOk 3 [(some i, Sl.ow p), (none, a), (none, b)] = true := by simp [muOk]
  rw [hm]
  simp only [List.map_cons, List.map_nil]
  rw [hp]
  rfl

/-! ### range: the number as an int (a number that is a cast sends the kernel deep) -/
theorem c62 (j : Int) (h1 : 0 ≤ j) (h2 : j ≤ 1000) : (-4611686018427387904 : Int) ≤ j ∧ j < 4611686018427387904 := by omega
theorem rng_j {f : FE} {ε ε1 : En} {j : Int} (h1 : 0 ≤ j) (h2 : j ≤ 1000) (h : f ε = some (.v (.fz (.int j)) ε1)) : iRng1 f ε = some (.v ((List.range j.toNat).map fun i => D.int (0 + (i : Nat))) ε1) := by
  have c := c62 j h1 h2
  simp [iRng1, h, c]

/-! ### steps -/
theorem e2_run {op : D → D → Option Sl} {fa fb : FE} {ε ε1 ε2 : En} {x y : D} {s t r : Sl} (hs : s = .fz x ∨ s = .ow x) (ht : t = .fz y ∨ t = .ow y) (ha : fa ε = some (.v s ε1)) (hb : fb ε1 = some (.v t ε2)) (ho : op x y = some r) (hx : wk x = x := by rfl) (hy : wk y = y := by rfl) : e2 op fa fb ε = some (.v r ε2) := by
  unfold e2
  rcases hs with rfl | rfl <;> rcases ht with rfl | rfl <;> rw [ha] <;> simp only [bf_fz, bf_ow] <;> rw [hb] <;> simp only [bf_fz, bf_ow, hx, hy, ho] <;> rfl
theorem set_run {f : FE} {i : Nat} {s : Sl} {ε ε1 : En} (h : f ε = some (.v s ε1)) : sSet i f ε = some (.nx (ε1.set i s)) := by
  unfold sSet
  rw [h]
  rfl
theorem seq_run {f g : FS} {ε ε1 : En} (h : f ε = some (.nx ε1)) : sSeq f g ε = g ε1 := by
  unfold sSeq
  rw [h]
theorem expr_run {f : FE} {s : Sl} {ε ε1 : En} (h : f ε = some (.v s ε1)) : sExpr f ε = some (.nx ε1) := by
  unfold sExpr
  rw [h]
  rfl
theorem ret_run {f : FE} {s : Sl} {ε ε1 : En} (h : f ε = some (.v s ε1)) : sRet f ε = some (.rt s ε1) := by
  unfold sRet
  rw [h]
  rfl

theorem run_rt {n : Nat} {f : FS} {ss : List Sl} {s : Sl} {ε : En} (h : f (ss ++ List.replicate (n - ss.length) Sl.un) = some (.rt s ε)) : runD n f ss = some (.v s (ε.take ss.length)) := by
  unfold runD
  rw [h]
theorem run_nx {n : Nat} {f : FS} {ss : List Sl} {ε : En} (h : f (ss ++ List.replicate (n - ss.length) Sl.un) = some (.nx ε)) : runD n f ss = some (.v (.fz .non) (ε.take ss.length)) := by
  unfold runD
  rw [h]
theorem run_ex {n : Nat} {f : FS} {ss : List Sl} {c : Str} {gs : List (Str × D)} {ε : En} (h : f (ss ++ List.replicate (n - ss.length) Sl.un) = some (.ex c gs ε)) : runD n f ss = some (.x c gs (ε.take ss.length)) := by
  unfold runD
  rw [h]

theorem eqI (a b : Int) : eqQ (.int a) (.int b) = some (decide (a = b)) := by
  by_cases h : a = b <;> simp [eqQ, eqP, toPy, SeqAt.shaped, PyData.canLay0, PyData.depth, PyData.eqv, h]

theorem cons_run {f : FE} {g : FAr} {s : Sl} {d : D} {ss : As} {ε ε1 ε2 : En} (hs : s = .fz d ∨ s = .ow d) (h : f ε = some (.v s ε1)) (hg : g ε1 = some (.v ss ε2)) : aCons f g ε = some (.v ((none, .fz d) :: ss) ε2) := by
  unfold aCons
  rcases hs with rfl | rfl <;> rw [h] <;> simp only [bfR_fz, bfR_ow] <;> rw [hg] <;> rfl
theorem tup_run {fa : FAr} {ss : As} {ds : List D} {ε ε1 : En} (h : fa ε = some (.v ss ε1)) (hd : asD ss = some ds) (hl : ds.length ≤ 1000) : eTup fa ε = some (.v (.fz (.tup ds)) ε1) := by
  have hz : ds.length ≤ sizeLine := by rw [sizeLine_eq]; omega
  unfold eTup
  rw [h]
  simp [hd, hz]
theorem lst_run {fa : FAr} {ss : As} {ds : List D} {ε ε1 : En} (h : fa ε = some (.v ss ε1)) (hd : asD ss = some ds) (hl : ds.length ≤ 1000) : eLst fa ε = some (.v (.ow (.lst ds)) ε1) := by
  have hz : ds.length ≤ sizeLine := by rw [sizeLine_eq]; omega
  unfold eLst
  rw [h]
  simp [hd, hz]
end Law

namespace Law
open PySem Mi
abbrev abc : Str := "abcdefghijklmnopqrstuvwxyz"
def letters : List Nat := [97, 98, 99, 100, 101, 102, 103, 104, 105, 106, 107, 108, 109, 110, 111, 112, 113, 114, 115, 116, 117, 118, 119, 120, 121, 122]
theorem abc_eq : abc.cps.toList = letters := by decide +kernel
theorem abc_len : abc.length = 26 := by decide +kernel
structure nameS (x : Str) : Prop where
  l1 : 1 ≤ x.cps.toList.length
  l2 : x.cps.toList.length ≤ 8
  al : ∀ c ∈ x.cps.toList, c ∈ letters
theorem join_list : ∀ cs : List Nat, (Str.join "" (cs.map fun c => (⟨#[c]⟩ : Str))).cps.toList = cs
  | [] => rfl
  | [c] => rfl
  | c :: d :: cs => by
    have ih := join_list (d :: cs)
    show ((⟨#[c]⟩ : Str) ++ ("" : Str) ++ Str.join "" ((d :: cs).map fun c => (⟨#[c]⟩ : Str))).cps.toList = c :: d :: cs
    have e : ∀ a b : Str, (a ++ b).cps.toList = a.cps.toList ++ b.cps.toList := fun a b => by show (a.cps ++ b.cps).toList = _; simp
    rw [e, e, ih]
    have e0 : ("" : Str).cps.toList = [] := by decide +kernel
    rw [e0]
    simp
theorem txts_map : ∀ cs : List Nat, txts (cs.map fun c => D.str ⟨#[c]⟩) = some (cs.map fun c => (⟨#[c]⟩ : Str))
  | [] => rfl
  | c :: cs => by simp [txts, txts_map cs]
theorem sum_ones : ∀ cs : List Nat, ((cs.map fun c => (⟨#[c]⟩ : Str)).map (·.length)).sum = cs.length
  | [] => rfl
  | c :: cs => by
    have := sum_ones cs
    simp only [List.map_cons, List.sum_cons, List.length_cons]
    rw [this]
    simp [Str.length]
    omega
theorem join_name (cs : List Nat) (h1 : 1 ≤ cs.length) (h2 : cs.length ≤ 8) (ha : ∀ c ∈ cs, c ∈ letters) : ∃ w, joinD "" (cs.map fun c => D.str ⟨#[c]⟩) = some (.fz (.str w)) ∧ nameS w := by
  have e := PyProof.Rows.join_plain_closes "" (cs.map fun c => (⟨#[c]⟩ : Str))
  have e := eq_of_beq e
  refine ⟨Str.join "" (cs.map fun c => (⟨#[c]⟩ : Str)), ?_, ?_, ?_, ?_⟩
  · have l0 : ("" : Str).length = 0 := by decide +kernel
    have s1 := sum_ones cs
    unfold joinD
    rw [txts_map]
    simp only [Option.bind_some]
    rw [s1, l0, if_pos (by omega), ← e]
  · rw [join_list]; exact h1
  · rw [join_list]; exact h2
  · rw [join_list]; exact ha
theorem ones_of {ds ys : List D} (h : All2 (fun _ v => ∃ c ∈ letters, v = .str ⟨#[c]⟩) ds ys) : ∃ cs : List Nat, ys = cs.map (fun c => D.str ⟨#[c]⟩) ∧ ∀ c ∈ cs, c ∈ letters := by
  induction h with
  | nil => exact ⟨[], rfl, by simp⟩
  | cons r _ ih =>
    obtain ⟨cs, rfl, h2⟩ := ih
    obtain ⟨c, hc, rfl⟩ := r
    exact ⟨c :: cs, rfl, by simpa using ⟨hc, h2⟩⟩
end Law

namespace Law
open PySem Mi
abbrev lens : List D := [.int 0, .int 0, .int 0, .int 1, .int 2, .int 7]
abbrev fLens : FI := iRng1 (e2 oAdd (eC (.int 1)) (eCall 2 F__law_pick (aMu 0 (aCons (eLst (aCons (eC (.int 0)) (aCons (eC (.int 0)) (aCons (eC (.int 0)) (aCons (eC (.int 1)) (aCons (eC (.int 2)) (aCons (eC (.int 7)) (aNil)))))))) (aNil)))))
theorem lens_ok {x y : Int} (P : Pot x y) (sz z' : D) (j3 j4 j5 j6 j7 j8 j9 : Sl) : ∃ (n : Nat) (x1 y1 : Int), n ≤ 7 ∧ Pot x1 y1 ∧ fLens [.ow (pot x y), .fz sz, .fz z', j3, j4, j5, j6, j7, j8, j9] = some (.v ((List.range (n + 1)).map fun i => D.int (0 + (i : Nat))) [.ow (pot x1 y1), .fz sz, .fz z', j3, j4, j5, j6, j7, j8, j9]) := by
  obtain ⟨k, x1, y1, ek, hk, P1⟩ := pick_ok (ds := lens) P (by simp) (by decide)
  have hk : ∃ j : Int, k = .int j ∧ 0 ≤ j ∧ j ≤ 7 := by
    simp only [lens, List.mem_cons, List.not_mem_nil, or_false] at hk
    rcases hk with rfl | rfl | rfl | rfl | rfl | rfl <;> exact ⟨_, rfl, by omega, by omega⟩
  obtain ⟨j, rfl, h0, h7⟩ := hk
  have za : (aMu 0 (aCons (eLst (aCons (eC (.int 0)) (aCons (eC (.int 0)) (aCons (eC (.int 0)) (aCons (eC (.int 1)) (aCons (eC (.int 2)) (aCons (eC (.int 7)) (aNil)))))))) (aNil))) [.ow (pot x y), .fz sz, .fz z', j3, j4, j5, j6, j7, j8, j9] = some (.v [(some 0, .ow (pot x y)), (none, .fz (.lst lens))] [.ow (pot x y), .fz sz, .fz z', j3, j4, j5, j6, j7, j8, j9]) := by kernel_rfl
  have zc := call2 za ek
  have z0 : (e2 oAdd (eC (.int 1)) (eCall 2 F__law_pick (aMu 0 (aCons (eLst (aCons (eC (.int 0)) (aCons (eC (.int 0)) (aCons (eC (.int 0)) (aCons (eC (.int 1)) (aCons (eC (.int 2)) (aCons (eC (.int 7)) (aNil)))))))) (aNil))))) [.ow (pot x y), .fz sz, .fz z', j3, j4, j5, j6, j7, j8, j9] = some (.v (.fz (.int (1 + j))) [.ow (pot x1 y1), .fz sz, .fz z', j3, j4, j5, j6, j7, j8, j9]) := by
    unfold e2
    simp only [eC, bf_fz, bfR_fz, bfR_ow, wk_str, wk_int, wk_lst, wk_tup, wk_dct, wk_bl, wk_non, wk_ins]
    simp only [zc, bf_fz, bfR_fz, bfR_ow, wk_str, wk_int, wk_lst, wk_tup, wk_dct, wk_bl, wk_non, wk_ins]
    rfl
  have z : (1 + j).toNat = j.toNat + 1 := by omega
  refine ⟨j.toNat, x1, y1, by omega, P1, ?_⟩
  rw [← z]
  exact rng_j (by omega) (by omega) z0
theorem word_ok {x y : Int} (P : Pot x y) {z : Str} (zq : z.cps.toList = letters) (sz : D) (j3 j4 j5 j6 j7 j8 j9 : Sl) : ∃ w x' y', (sSet 5 (eStr1 oJoin (eC (.str "")) (eLc fLens (gN 6) (bTrue) (eCall 2 F__law_pick (aMu 0 (aCons (eV 2) (aNil)))) [6]))) [.ow (pot x y), .fz sz, .fz (.str z), j3, j4, j5, j6, j7, j8, j9] = some (.nx [.ow (pot x' y'), .fz sz, .fz (.str z), j3, j4, .fz (.str w), j6, j7, j8, j9]) ∧ nameS w ∧ Pot x' y' := by
  have zl : z.length = 26 := by
    have : z.length = z.cps.toList.length := by simp [Str.length]
    rw [this, zq]
    rfl
  obtain ⟨n, x1, y1, hn, P1, h1⟩ := lens_ok P sz (.str z) j3 j4 j5 j6 j7 j8 j9
  obtain ⟨ys, x2, y2, e2', f2, P2⟩ := lc_pot (g := gN 6) (e := eCall 2 F__law_pick (aMu 0 (aCons (eV 2) (aNil)))) (vs := [6]) (B := fun x y => [.ow (pot x y), .fz sz, .fz (.str z), j3, j4, j5, .un, j7, j8, j9]) (E := fun x y d => [.ow (pot x y), .fz sz, .fz (.str z), j3, j4, j5, .fz d, j7, j8, j9])
    (R := fun _ v => ∃ c ∈ letters, v = .str ⟨#[c]⟩) ((List.range (n + 1)).map fun i => D.int (0 + (i : Nat))) [] (fun x y d _ => rfl) (fun x y d _ P => by
      obtain ⟨c, x', y', e, hc, P'⟩ := picks_ok (z := z) P (by rw [zq]; simp [letters]) (by rw [zl]; omega)
      exact ⟨_, x', y', .inl (call2 (i := 0) (ε1 := [.ow (pot x y), .fz sz, .fz (.str z), j3, j4, j5, .fz d, j7, j8, j9]) rfl e), ⟨c, by rw [← zq]; exact hc, rfl⟩, P'⟩) (fun x y d => rfl) (by simp; omega) x1 y1 P1
  obtain ⟨cs, rfl, hcs⟩ := ones_of f2
  have hl := f2.len
  simp only [List.length_map, List.length_range] at hl
  obtain ⟨w, ew, hw⟩ := join_name cs (by omega) (by omega) hcs
  refine ⟨w, x2, y2, ?_, hw, P2⟩
  have el : eLc fLens (gN 6) (bTrue) (eCall 2 F__law_pick (aMu 0 (aCons (eV 2) (aNil)))) [6] [.ow (pot x y), .fz sz, .fz (.str z), j3, j4, j5, j6, j7, j8, j9] = some (.v (.ow (.lst (cs.map fun c => D.str ⟨#[c]⟩))) [.ow (pot x2 y2), .fz sz, .fz (.str z), j3, j4, j5, j6, j7, j8, j9]) := by
    unfold eLc
    rw [h1]
    show (match lcL (gN 6) bTrue (eCall 2 F__law_pick (aMu 0 (aCons (eV 2) (aNil)))) [6] _ [.ow (pot x1 y1), .fz sz, .fz (.str z), j3, j4, j5, .un, j7, j8, j9] [] with
      | some (ys, ε2) => some (R.v (Sl.ow (D.lst ys)) (backE [.ow (pot x1 y1), .fz sz, .fz (.str z), j3, j4, j5, j6, j7, j8, j9] ε2 [6]))
      | none => none) = _
    have e3 := e2'
    simp only [List.nil_append] at e3
    rw [e3]
    rfl
  unfold sSet eStr1
  simp only [eC, bf_fz, bfR_fz, bfR_ow, wk_str, wk_int, wk_lst, wk_tup, wk_dct, wk_bl, wk_non, wk_ins]
  rw [el]
  simp only [bf_ow, oJoin, ew]
  rfl
end Law

namespace Law
open PySem Mi
/-- a comprehension that changes nothing -/
theorem lc_pure {g : FG} {t : FB} {e : FE} {vs : List Nat} {B : En} {E : D → En} {p : D → Bool} {f : D → D} : ∀ (ds : List D) (acc : List D), (∀ d ∈ ds, g d B = some (E d)) → (∀ d ∈ ds, t (E d) = some (.v (p d) (E d))) → (∀ d ∈ ds, p d = true → e (E d) = some (.v (.fz (f d)) (E d))) → (∀ d ∈ ds, wipeE (E d) vs = B) →
    acc.length + ds.length ≤ 100000 → lcL g t e vs ds B acc = some (acc ++ (ds.filter p).map f, B)
  | [], acc, _, _, _, _, _ => by simp [lcL]
  | d :: ds, acc, hg, ht, he, hw, hl => by
    have hl2 : acc.length < sizeLine := by rw [sizeLine_eq]; simp at hl; omega
    have m : d ∈ d :: ds := List.mem_cons_self ..
    unfold lcL
    rw [hg d m]
    simp only
    rw [ht d m]
    cases hp : p d with
    | false =>
      simp only
      rw [hw d m, lc_pure ds acc (fun d h => hg d (List.mem_cons_of_mem _ h)) (fun d h => ht d (List.mem_cons_of_mem _ h)) (fun d h => he d (List.mem_cons_of_mem _ h)) (fun d h => hw d (List.mem_cons_of_mem _ h)) (by simp at hl ⊢; omega)]
      simp [hp]
    | true =>
      simp only
      rw [he d m hp]
      simp only [hl2, if_true]
      rw [hw d m, lc_pure ds (acc ++ [f d]) (fun d h => hg d (List.mem_cons_of_mem _ h)) (fun d h => ht d (List.mem_cons_of_mem _ h)) (fun d h => he d (List.mem_cons_of_mem _ h)) (fun d h => hw d (List.mem_cons_of_mem _ h)) (by simp at hl ⊢; omega)]
      simp [hp]
theorem toVs_str : ∀ xs : List Str, toVs (xs.map D.str) = some (xs.map L2.V.str)
  | [] => rfl
  | x :: xs => by simp [toVs, toV, toVs_str xs]
theorem inV_str (u : Str) : ∀ xs : List Str, L2.inV (.str u) (xs.map L2.V.str) = decide (u ∈ xs)
  | [] => by simp [L2.inV]
  | x :: xs => by
    have ih := inV_str u xs
    have e : L2.inV (.str u) ((x :: xs).map L2.V.str) = ((x == u) || L2.inV (.str u) (xs.map L2.V.str)) := by
      simp only [L2.inV, List.map_cons, List.any_cons]
      rfl
    rw [e, ih]
    by_cases h : x = u
    · subst h; simp
    · have h' : ¬ u = x := fun z => h z.symm
      have hb : (x == u) = false := by simpa using h
      simp [hb, h']
theorem inD_lst (u : Str) (xs : List Str) : inD (.str u) (.lst (xs.map D.str)) = some (decide (u ∈ xs)) := by
  simp [inD, toV, toVs_str, inV_str]
theorem inD_tup (u : Str) (xs : List Str) : inD (.str u) (.tup (xs.map D.str)) = some (decide (u ∈ xs)) := by
  simp [inD, toV, toVs_str, inV_str]
def w7 (w : Str) (c : Nat) : Str := L2.cutS w none (some 7) ++ ⟨#[c]⟩
theorem w7_list (w : Str) (c : Nat) : (w7 w c).cps.toList = w.cps.toList.take 7 ++ [c] := by
  have e : ∀ a b : Str, (a ++ b).cps.toList = a.cps.toList ++ b.cps.toList := fun a b => by show (a.cps ++ b.cps).toList = _; simp
  unfold w7
  rw [e]
  have h : (L2.cutS w none (some 7)).cps.toList = w.cps.toList.take 7 := by
    unfold L2.cutS
    have hl : w.length = w.cps.toList.length := by simp [Str.length]
    rw [hl]
    have z : HT.sIx w.cps.toList.length w.cps.toList.length (some 7) = min 7 w.cps.toList.length := HT.sIx_nat _ _ 7
    rw [z]
    simp [HT.sIx_none]
  rw [h]
theorem w7_name {w : Str} (h : nameS w) {c : Nat} (hc : c ∈ letters) : nameS (w7 w c) := by
  refine ⟨?_, ?_, ?_⟩ <;> rw [w7_list]
  · simp
  · simp; omega
  · intro d hd
    rcases List.mem_append.mp hd with hd | hd
    · exact h.al d (List.mem_of_mem_take hd)
    · simp at hd; rw [hd]; exact hc
theorem w7_inj {w : Str} {c d : Nat} (h : w7 w c = w7 w d) : c = d := by
  have z := congrArg (fun s : Str => s.cps.toList) h
  simp only [w7_list] at z
  simpa using z

def near (w : Str) : List Str := w :: letters.map (w7 w)
theorem near_ok {w : Str} {z : Str} (hw : nameS w) (zq : z.cps.toList = letters) (p sz : D) (j3 j4 j6 j7 j8 j9 : Sl) :
    (sSet 7 (e2 oAdd (eLst (aCons (eV 5) (aNil))) (eLc (iSeq (eV 2)) (gN 8) (bTrue) (e2 oAdd (eSl (eV 5) (fNo) (fPart (eC (.int 7)))) (eV 8)) [8]))) [.ow p, .fz sz, .fz (.str z), j3, j4, .fz (.str w), j6, j7, j8, j9] = some (.nx [.ow p, .fz sz, .fz (.str z), j3, j4, .fz (.str w), j6, .ow (.lst ((near w).map D.str)), j8, j9]) := by
  have wl : w.length ≤ 8 := by
    have : w.length = w.cps.toList.length := by simp [Str.length]
    rw [this]; exact hw.l2
  have el : eLc (iSeq (eV 2)) (gN 8) (bTrue) (e2 oAdd (eSl (eV 5) (fNo) (fPart (eC (.int 7)))) (eV 8)) [8] [.ow p, .fz sz, .fz (.str z), j3, j4, .fz (.str w), j6, j7, j8, j9] = some (.v (.ow (.lst (letters.map fun c => D.str (w7 w c)))) [.ow p, .fz sz, .fz (.str z), j3, j4, .fz (.str w), j6, j7, j8, j9]) := by
    have hi : iSeq (eV 2) [.ow p, .fz sz, .fz (.str z), j3, j4, .fz (.str w), j6, j7, j8, j9] = some (.v (letters.map fun c => D.str ⟨#[c]⟩) [.ow p, .fz sz, .fz (.str z), j3, j4, .fz (.str w), j6, j7, j8, j9]) := by
      simp [iSeq, eV, items, signs, zq]
    unfold eLc
    rw [hi]
    have hp := lc_pure (g := gN 8) (t := bTrue) (e := e2 oAdd (eSl (eV 5) (fNo) (fPart (eC (.int 7)))) (eV 8)) (vs := [8]) (B := [.ow p, .fz sz, .fz (.str z), j3, j4, .fz (.str w), j6, j7, .un, j9]) (E := fun d => [.ow p, .fz sz, .fz (.str z), j3, j4, .fz (.str w), j6, j7, .fz d, j9]) (p := fun _ => true)
      (f := fun d => match d with
        | .str s => .str (L2.cutS w none (some 7) ++ s)
        | d => d) (letters.map fun c => D.str ⟨#[c]⟩) [] (fun d _ => rfl) (fun d _ => rfl) (fun d hd _ => by
          obtain ⟨c, hc, rfl⟩ := List.mem_map.mp hd
          have hs : w.length ≤ sizeLine := by rw [sizeLine_eq]; omega
          have hs2 : (L2.cutS w none (some 7)).length + (⟨#[c]⟩ : Str).length ≤ sizeLine := by
            have : (w7 w c).cps.toList.length ≤ 8 := (w7_name hw hc).l2
            have e : (L2.cutS w none (some 7)).length + (⟨#[c]⟩ : Str).length = (w7 w c).cps.toList.length := by
              unfold w7
              show _ = ((L2.cutS w none (some 7)).cps ++ (⟨#[c]⟩ : Str).cps).toList.length
              simp [Str.length]
            rw [e, sizeLine_eq]; omega
          simp [e2, eSl, eV, fNo, fPart, eC, oSl, hs, oAdd, hs2]) (fun d _ => rfl) (by simp [letters])
    show (match lcL (gN 8) bTrue (e2 oAdd (eSl (eV 5) (fNo) (fPart (eC (.int 7)))) (eV 8)) [8] _ [.ow p, .fz sz, .fz (.str z), j3, j4, .fz (.str w), j6, j7, .un, j9] [] with
      | some (ys, ε2) => some (R.v (Sl.ow (D.lst ys)) (backE [.ow p, .fz sz, .fz (.str z), j3, j4, .fz (.str w), j6, j7, j8, j9] ε2 [8]))
      | none => none) = _
    rw [hp]
    have e4 : ([] : List D) ++ ((letters.map fun c => D.str ⟨#[c]⟩).filter fun _ => true).map (fun d => match d with
        | .str s => D.str (L2.cutS w none (some 7) ++ s)
        | d => d) = letters.map fun c => D.str (w7 w c) := by
      rw [List.nil_append, List.filter_eq_self.mpr (by simp), List.map_map]
      rfl
    rw [e4]
    rfl
  have hz : [D.str w].length + (letters.map fun c => D.str (w7 w c)).length ≤ sizeLine := by rw [sizeLine_eq]; simp [letters]
  have ho : oAdd (.lst [D.str w]) (.lst (letters.map fun c => D.str (w7 w c))) = some (.ow (.lst ((near w).map D.str))) := by
    simp only [oAdd, hz, if_true, near, List.map_cons, List.map_map]
    rfl
  exact set_run (e2_run (.inr rfl) (.inr rfl) (show eLst (aCons (eV 5) aNil) [.ow p, .fz sz, .fz (.str z), j3, j4, .fz (.str w), j6, j7, j8, j9] = some (.v (.ow (.lst [.str w])) [.ow p, .fz sz, .fz (.str z), j3, j4, .fz (.str w), j6, j7, j8, j9]) from rfl) el ho)
theorem sub_len {l : List Str} : ∀ {xs : List Str}, l.Nodup → (∀ a ∈ l, a ∈ xs) → l.length ≤ xs.length := by
  induction l with
  | nil => intro xs _ _; simp
  | cons a l ih =>
    intro xs hn hs
    obtain ⟨h1, h2⟩ := List.nodup_cons.mp hn
    have ha : a ∈ xs := hs a (by simp)
    have := ih (xs := xs.erase a) h2 (fun b hb => (List.mem_erase_of_ne (fun (z : b = a) => h1 (by rw [← z]; exact hb))).mpr (hs b (by simp [hb])))
    rw [List.length_erase_of_mem ha] at this
    have : 0 < xs.length := List.length_pos_of_mem ha
    simp only [List.length_cons]
    omega
theorem free_name {w : Str} (xs : List Str) (h : xs.length ≤ 25) : ∃ u, u ∈ near w ∧ u ∉ xs := by
  have m : ∀ c ∈ letters, w7 w c ∈ near w := fun c hc => List.mem_cons_of_mem _ (List.mem_map.mpr ⟨c, hc, rfl⟩)
  refine Classical.byContradiction fun hc => ?_
  have all : ∀ u ∈ letters.map (w7 w), u ∈ xs := fun u hu => by
    obtain ⟨c, h1, rfl⟩ := List.mem_map.mp hu
    exact Classical.byContradiction fun z => hc ⟨_, m c h1, z⟩
  have nd : (letters.map (w7 w)).Nodup := by
    have e : ∀ l : List Nat, l.Nodup → (l.map (w7 w)).Nodup := fun l => by
      induction l with
      | nil => intro _; simp
      | cons c l ih =>
        intro hn
        obtain ⟨h1, h2⟩ := List.nodup_cons.mp hn
        rw [List.map_cons, List.nodup_cons]
        refine ⟨fun z => ?_, ih h2⟩
        obtain ⟨d, hd, e⟩ := List.mem_map.mp z
        exact h1 (w7_inj e ▸ hd)
    exact e letters (by decide)
  have := sub_len nd all
  rw [List.length_map] at this
  have : letters.length = 26 := rfl
  omega

theorem filt_head {w : Str} {xs : List Str} (h : xs.length ≤ 25) : ∃ u rest, ((near w).map D.str).filter (fun d => match d with
    | .str s => !decide (s ∈ xs)
    | _ => true) = .str u :: rest ∧ u ∈ near w ∧ u ∉ xs := by
  obtain ⟨v, hv, hn⟩ := free_name (w := w) xs h
  have hm : D.str v ∈ ((near w).map D.str).filter (fun d => match d with
    | .str s => !decide (s ∈ xs)
    | _ => true) := List.mem_filter.mpr ⟨List.mem_map.mpr ⟨v, hv, rfl⟩, by simp [hn]⟩
  cases hl : ((near w).map D.str).filter (fun d => match d with
    | .str s => !decide (s ∈ xs)
    | _ => true) with
  | nil => rw [hl] at hm; cases hm
  | cons d rest =>
    have hd : d ∈ ((near w).map D.str).filter (fun d => match d with
      | .str s => !decide (s ∈ xs)
      | _ => true) := by rw [hl]; exact List.mem_cons_self ..
    obtain ⟨h1, h2⟩ := List.mem_filter.mp hd
    obtain ⟨u, hu, rfl⟩ := List.mem_map.mp h1
    exact ⟨u, rest, rfl, hu, by simpa using h2⟩
theorem near_name {w u : Str} (hw : nameS w) (h : u ∈ near w) : nameS u := by
  rcases List.mem_cons.mp h with rfl | h
  · exact hw
  · obtain ⟨c, hc, rfl⟩ := List.mem_map.mp h
    exact w7_name hw hc
theorem app_ok {w z : Str} {xs : List Str} (hw : nameS w) (hx : xs.length ≤ 25) (p sz : D) (j4 j6 j8 j9 : Sl) : ∃ u, nameS u ∧ u ∉ xs ∧
    (sExpr (eMut mAppend 3 (aCons (e2 oIx (eLc (iSeq (eV 7)) (gN 9) (bB (e2m oNin (eV 9) 3)) (eV 9) [9]) (eC (.int 0))) (aNil)))) [.ow p, .fz sz, .fz (.str z), .ow (.lst (xs.map D.str)), j4, .fz (.str w), j6, .ow (.lst ((near w).map D.str)), j8, j9] = some (.nx [.ow p, .fz sz, .fz (.str z), .ow (.lst ((xs ++ [u]).map D.str)), j4, .fz (.str w), j6, .fz (.lst ((near w).map D.str)), j8, j9]) := by
  obtain ⟨u, rest, hf, hu, hn⟩ := filt_head (w := w) hx
  refine ⟨u, near_name hw hu, hn, ?_⟩
  have el : eLc (iSeq (eV 7)) (gN 9) (bB (e2m oNin (eV 9) 3)) (eV 9) [9] [.ow p, .fz sz, .fz (.str z), .ow (.lst (xs.map D.str)), j4, .fz (.str w), j6, .ow (.lst ((near w).map D.str)), j8, j9] = some (.v (.ow (.lst (.str u :: rest))) [.ow p, .fz sz, .fz (.str z), .ow (.lst (xs.map D.str)), j4, .fz (.str w), j6, .fz (.lst ((near w).map D.str)), j8, j9]) := by
    have hi : iSeq (eV 7) [.ow p, .fz sz, .fz (.str z), .ow (.lst (xs.map D.str)), j4, .fz (.str w), j6, .ow (.lst ((near w).map D.str)), j8, j9] = some (.v ((near w).map D.str) [.ow p, .fz sz, .fz (.str z), .ow (.lst (xs.map D.str)), j4, .fz (.str w), j6, .fz (.lst ((near w).map D.str)), j8, j9]) := by
      simp [iSeq, eV, items]
    unfold eLc
    rw [hi]
    have hp := lc_pure (g := gN 9) (t := bB (e2m oNin (eV 9) 3)) (e := eV 9) (vs := [9]) (B := [.ow p, .fz sz, .fz (.str z), .ow (.lst (xs.map D.str)), j4, .fz (.str w), j6, .fz (.lst ((near w).map D.str)), j8, .un]) (E := fun d => [.ow p, .fz sz, .fz (.str z), .ow (.lst (xs.map D.str)), j4, .fz (.str w), j6, .fz (.lst ((near w).map D.str)), j8, .fz d])
      (p := fun d => match d with
        | .str s => !decide (s ∈ xs)
        | _ => true) (f := fun d => d) ((near w).map D.str) [] (fun d _ => rfl) (fun d hd => by
          obtain ⟨s, hs, rfl⟩ := List.mem_map.mp hd
          have e := inD_lst s xs
          simp [bB, e2m, eV, look, oNin, e]) (fun d _ _ => rfl) (fun d _ => rfl) (by simp [near, letters])
    show (match lcL (gN 9) (bB (e2m oNin (eV 9) 3)) (eV 9) [9] _ [.ow p, .fz sz, .fz (.str z), .ow (.lst (xs.map D.str)), j4, .fz (.str w), j6, .fz (.lst ((near w).map D.str)), j8, .un] [] with
      | some (ys, ε2) => some (R.v (Sl.ow (D.lst ys)) (backE [.ow p, .fz sz, .fz (.str z), .ow (.lst (xs.map D.str)), j4, .fz (.str w), j6, .fz (.lst ((near w).map D.str)), j8, j9] ε2 [9]))
      | none => none) = _
    rw [hp, List.nil_append, List.map_id', hf]
    rfl
  have hx2 : e2 oIx (eLc (iSeq (eV 7)) (gN 9) (bB (e2m oNin (eV 9) 3)) (eV 9) [9]) (eC (.int 0)) [.ow p, .fz sz, .fz (.str z), .ow (.lst (xs.map D.str)), j4, .fz (.str w), j6, .ow (.lst ((near w).map D.str)), j8, j9] = some (.v (.fz (.str u)) [.ow p, .fz sz, .fz (.str z), .ow (.lst (xs.map D.str)), j4, .fz (.str w), j6, .fz (.lst ((near w).map D.str)), j8, j9]) :=
    e2_run (.inr rfl) (.inl rfl) el rfl (by simp [oIx, ixD, L2.atI, L2.ixN])
  have hl : xs.length < sizeLine := by rw [sizeLine_eq]; omega
  refine expr_run (s := .fz .non) ?_
  unfold eMut aCons
  simp only [List.getElem?_cons_succ, List.getElem?_cons_zero]
  rw [hx2]
  simp [aNil, asD, mAppend, hl]
end Law

namespace Law
open PySem Mi
structure Names (xs : List Str) : Prop where
  nd : xs.Nodup
  al : ∀ x ∈ xs, nameS x
abbrev bNames : FS := (sSeq (sSet 5 (eStr1 oJoin (eC (.str "")) (eLc fLens (gN 6) (bTrue) (eCall 2 F__law_pick (aMu 0 (aCons (eV 2) (aNil)))) [6]))) (sSeq (sSet 7 (e2 oAdd (eLst (aCons (eV 5) (aNil))) (eLc (iSeq (eV 2)) (gN 8) (bTrue) (e2 oAdd (eSl (eV 5) (fNo) (fPart (eC (.int 7)))) (eV 8)) [8]))) (sExpr (eMut mAppend 3 (aCons (e2 oIx (eLc (iSeq (eV 7)) (gN 9) (bB (e2m oNin (eV 9) 3)) (eV 9) [9]) (eC (.int 0))) (aNil))))))
theorem names_loop {z : Str} (zq : z.cps.toList = letters) (sz : D) : ∀ (ds : List D) (xs : List Str) (x y : Int) (j4 j5 j6 j7 j8 j9 : Sl), Pot x y → Names xs → xs.length + ds.length ≤ 26 →
    ∃ xs' x' y' i4 i5 i6 i7 i8 i9, forL (gN 4) bNames ds [.ow (pot x y), .fz sz, .fz (.str z), .ow (.lst (xs.map D.str)), j4, j5, j6, j7, j8, j9] = some (.nx [.ow (pot x' y'), .fz sz, .fz (.str z), .ow (.lst (xs'.map D.str)), i4, i5, i6, i7, i8, i9]) ∧ xs'.length = xs.length + ds.length ∧ Names xs' ∧ Pot x' y'
  | [], xs, x, y, j4, j5, j6, j7, j8, j9, P, N, _ => ⟨xs, x, y, j4, j5, j6, j7, j8, j9, rfl, rfl, N, P⟩
  | d :: ds, xs, x, y, j4, j5, j6, j7, j8, j9, P, N, hl => by
    simp only [List.length_cons] at hl
    obtain ⟨w, x1, y1, e1, hw, P1⟩ := word_ok P zq sz (.ow (.lst (xs.map D.str))) (.fz d) j5 j6 j7 j8 j9
    have e2 := near_ok hw zq (pot x1 y1) sz (.ow (.lst (xs.map D.str))) (.fz d) j6 j7 j8 j9
    obtain ⟨u, hu, hn, e3⟩ := app_ok (z := z) hw (xs := xs) (by omega) (pot x1 y1) sz (.fz d) j6 j8 j9
    have N2 : Names (xs ++ [u]) := by
      refine ⟨?_, fun v hv => ?_⟩
      · rw [List.nodup_append]
        refine ⟨N.nd, by simp, fun a ha b hb => ?_⟩
        simp at hb
        rw [hb]
        exact fun z => hn (by rw [← z]; exact ha)
      · rcases List.mem_append.mp hv with hv | hv
        · exact N.al v hv
        · simp at hv; rw [hv]; exact hu
    obtain ⟨xs', x', y', i4, i5, i6, i7, i8, i9, e4, l4, N4, P4⟩ := names_loop zq sz ds (xs ++ [u]) x1 y1 (.fz d) (.fz (.str w)) j6 (.fz (.lst ((near w).map D.str))) j8 j9 P1 N2 (by simp; omega)
    refine ⟨xs', x', y', i4, i5, i6, i7, i8, i9, ?_, by rw [l4]; simp; omega, N4, P4⟩
    unfold forL
    rw [show gN 4 d [.ow (pot x y), .fz sz, .fz (.str z), .ow (.lst (xs.map D.str)), j4, j5, j6, j7, j8, j9] = some [.ow (pot x y), .fz sz, .fz (.str z), .ow (.lst (xs.map D.str)), .fz d, j5, j6, j7, j8, j9] from rfl]
    simp only
    rw [show bNames [.ow (pot x y), .fz sz, .fz (.str z), .ow (.lst (xs.map D.str)), .fz d, j5, j6, j7, j8, j9] = some (.nx [.ow (pot x1 y1), .fz sz, .fz (.str z), .ow (.lst ((xs ++ [u]).map D.str)), .fz d, .fz (.str w), j6, .fz (.lst ((near w).map D.str)), j8, j9]) from by
      unfold bNames
      rw [seq_run e1, seq_run e2]
      exact e3]
    exact e4
theorem abcq : ("abcdefghijklmnopqrstuvwxyz" : Str).cps.toList = letters := by decide +kernel
theorem names_ok {x y n : Int} (P : Pot x y) (h1 : 1 ≤ n) (h3 : n ≤ 12) : ∃ xs x' y', F__law_names [.ow (pot x y), .fz (.int n)] = some (.v (.ow (.lst (xs.map D.str))) [.ow (pot x' y'), .fz (.int n)]) ∧ (xs.length : Int) = n ∧ Names xs ∧ Pot x' y' := by
  obtain ⟨xs, x', y', i4, i5, i6, i7, i8, i9, e, l, N, P'⟩ := names_loop abcq (.int n) ((List.range n.toNat).map fun i => D.int (0 + (i : Nat))) [] x y .un .un .un .un .un .un P ⟨.nil, by simp⟩ (by simp; omega)
  refine ⟨xs, x', y', ?_, ?_, N, P'⟩
  · have r := rng_j (f := eV 1) (ε := [.ow (pot x y), .fz (.int n), .fz (.str "abcdefghijklmnopqrstuvwxyz"), .ow (.lst []), .un, .un, .un, .un, .un, .un]) (ε1 := [.ow (pot x y), .fz (.int n), .fz (.str "abcdefghijklmnopqrstuvwxyz"), .ow (.lst []), .un, .un, .un, .un, .un, .un]) (j := n) (by omega) (by omega) rfl
    have s0 : c__law_names_0 ([.ow (pot x y), .fz (.int n)] ++ List.replicate 8 Sl.un) = some (.nx [.ow (pot x y), .fz (.int n), .fz (.str "abcdefghijklmnopqrstuvwxyz"), .ow (.lst []), .un, .un, .un, .un, .un, .un]) := rfl
    have s1 : c__law_names_1 [.ow (pot x y), .fz (.int n), .fz (.str "abcdefghijklmnopqrstuvwxyz"), .ow (.lst []), .un, .un, .un, .un, .un, .un] = some (.nx [.ow (pot x' y'), .fz (.int n), .fz (.str "abcdefghijklmnopqrstuvwxyz"), .ow (.lst (xs.map D.str)), i4, i5, i6, i7, i8, i9]) := by
      show sFor (iRng1 (eV 1)) (gN 4) bNames _ = _
      unfold sFor
      rw [r]
      exact e
    have s2 : b__law_names_0 ([.ow (pot x y), .fz (.int n)] ++ List.replicate 8 Sl.un) = some (.rt (.ow (.lst (xs.map D.str))) [.ow (pot x' y'), .fz (.int n), .fz (.str "abcdefghijklmnopqrstuvwxyz"), .un, i4, i5, i6, i7, i8, i9]) := by
      show sSeq c__law_names_0 (sSeq c__law_names_1 c__law_names_2) _ = _
      rw [seq_run s0, seq_run s1]
      rfl
    exact run_rt (n := 10) (f := b__law_names_0) s2
  · rw [l]; simp; omega
end Law

namespace Law
open PySem Mi
theorem elc_pot {fi : FI} {g : FG} {e : FE} {vs : List Nat} {A B : Int → Int → En} {E : Int → Int → D → En} {R : D → D → Prop} (ds : List D) (hf : ∀ x y, fi (A x y) = some (.v ds (A x y))) (hA : ∀ x y, wipeE (A x y) vs = B x y) (hb : ∀ x y x' y', backE (A x y) (B x' y') vs = A x' y')
    (hg : ∀ x y d, d ∈ ds → g d (B x y) = some (E x y d)) (he : ∀ x y d, d ∈ ds → Pot x y → ∃ v x' y', (e (E x y d) = some (.v (.fz v) (E x' y' d)) ∨ e (E x y d) = some (.v (.ow v) (E x' y' d))) ∧ R d v ∧ Pot x' y') (hw : ∀ x y d, wipeE (E x y d) vs = B x y) (hl : ds.length ≤ 1000) {x y : Int} (P : Pot x y) :
    ∃ ys x' y', eLc fi g bTrue e vs (A x y) = some (.v (.ow (.lst ys)) (A x' y')) ∧ All2 R ds ys ∧ Pot x' y' := by
  obtain ⟨ys, x', y', e1, r1, P1⟩ := lc_pot ds [] hg he hw (by simp; omega) x y P
  refine ⟨ys, x', y', ?_, r1, P1⟩
  unfold eLc
  rw [hf]
  simp only
  rw [hA, e1]
  simp only [List.nil_append]
  rw [hb]
/-- the numbers below n -/
abbrev nums (n : Int) : List D := (List.range n.toNat).map fun i => D.int (0 + (i : Nat))
theorem nums_mem {n : Int} {d : D} (h : d ∈ nums n) : ∃ i : Int, d = .int i ∧ 0 ≤ i ∧ i < n := by
  obtain ⟨i, hi, rfl⟩ := List.mem_map.mp h
  have := List.mem_range.mp hi
  exact ⟨0 + (i : Nat), rfl, by omega, by omega⟩
theorem nums_len {n : Int} (h : 0 ≤ n) : ((nums n).length : Int) = n := by simp; omega
structure Ent (size : Int) (d : D) : Prop where
  ex : ∃ a l : Int, d = .tup [.int a, .int l] ∧ 0 ≤ a ∧ a < 10 ∧ 0 ≤ l ∧ l < size
structure RowD (many size : Int) (d : D) : Prop where
  ex : ∃ es : List D, d = .lst es ∧ (es.length : Int) = many ∧ ∀ e ∈ es, Ent size e
theorem row_of {many size : Int} {ys : List D} (h0 : 0 ≤ many) (h : All2 (fun _ v => Ent size v) (nums many) ys) : RowD many size (.lst ys) := by
  refine ⟨ys, rfl, by rw [h.len]; exact nums_len h0, fun e he => ?_⟩
  obtain ⟨_, _, r⟩ := h.mem e he
  exact r
section
variable {size many : Int} (hs : 1 ≤ size) (hs4 : size ≤ 8) (hm : 1 ≤ many) (hm3 : many ≤ 4)
abbrev tA (size many way top : Int) (x y : Int) : En := [.ow (pot x y), .fz (.int size), .fz (.int many), .fz (.int way), .fz (.int top), .fz (.int (size - 1)), .un, .un]
abbrev tE (size many way top : Int) (x y : Int) (d : D) : En := [.ow (pot x y), .fz (.int size), .fz (.int many), .fz (.int way), .fz (.int top), .fz (.int (size - 1)), .un, .fz d]
abbrev tI (size many way top : Int) (d : D) (x y : Int) (b : D) : En := [.ow (pot x y), .fz (.int size), .fz (.int many), .fz (.int way), .fz (.int top), .fz (.int (size - 1)), .fz b, .fz d]
theorem tab_comp (hs : 1 ≤ size) (hs4 : size ≤ 8) (hm : 1 ≤ many) (hm3 : many ≤ 4) {way top : Int} {e : FE} (he : ∀ (d : D) (x y : Int) (b : D), d ∈ nums size → b ∈ nums many → Pot x y → ∃ v x' y', (e (tI size many way top d x y b) = some (.v (.fz v) (tI size many way top d x' y' b)) ∨ e (tI size many way top d x y b) = some (.v (.ow v) (tI size many way top d x' y' b))) ∧ Ent size v ∧ Pot x' y') {x y : Int} (P : Pot x y) :
    ∃ ys x' y', eLc (iRng1 (eV 1)) (gN 7) bTrue (eLc (iRng1 (eV 2)) (gN 6) bTrue e [6]) [7] (tA size many way top x y) = some (.v (.ow (.lst ys)) (tA size many way top x' y')) ∧ ((ys.length : Int) = size ∧ ∀ r ∈ ys, RowD many size r) ∧ Pot x' y' := by
  obtain ⟨ys, x', y', e1, r1, P1⟩ := elc_pot (fi := iRng1 (eV 1)) (g := gN 7) (e := eLc (iRng1 (eV 2)) (gN 6) bTrue e [6]) (vs := [7]) (A := tA size many way top) (B := tA size many way top) (E := tE size many way top) (R := fun _ v => RowD many size v) (nums size)
    (fun x y => rng_j (by omega) (by omega) rfl) (fun _ _ => rfl) (fun _ _ _ _ => rfl) (fun _ _ _ _ => rfl) (fun x y d hd P => by
      obtain ⟨zs, x2, y2, e2, r2, P2⟩ := elc_pot (fi := iRng1 (eV 2)) (g := gN 6) (e := e) (vs := [6]) (A := fun x y => tE size many way top x y d) (B := fun x y => tE size many way top x y d) (E := fun x y b => tI size many way top d x y b) (R := fun _ v => Ent size v) (nums many)
        (fun x y => rng_j (by omega) (by omega) rfl) (fun _ _ => rfl) (fun _ _ _ _ => rfl) (fun _ _ _ _ => rfl) (fun x y b hb P => he d x y b hd hb P) (fun _ _ _ => rfl) (by simp; omega) P
      exact ⟨.lst zs, x2, y2, .inr e2, row_of (by omega) r2, P2⟩) (fun _ _ _ => rfl) (by simp; omega) P
  refine ⟨ys, x', y', e1, ⟨by rw [r1.len]; exact nums_len (by omega), fun r hr => ?_⟩, P1⟩
  obtain ⟨_, _, q⟩ := r1.mem r hr
  exact q
end
abbrev tops : List D := [.int 1, .int 2, .int 3, .int 10]
theorem table_ok {x y size many : Int} (P : Pot x y) (hs : 1 ≤ size) (hs4 : size ≤ 8) (hm : 1 ≤ many) (hm3 : many ≤ 4) : ∃ rs x' y', F__law_table [.ow (pot x y), .fz (.int size), .fz (.int many)] = some (.v (.ow (.lst rs)) [.ow (pot x' y'), .fz (.int size), .fz (.int many)]) ∧ ((rs.length : Int) = size ∧ ∀ r ∈ rs, RowD many size r) ∧ Pot x' y' := by
  obtain ⟨way, x1, y1, q1, w0, w4, P1⟩ := draw_ok P (m := 4) (by omega) (by omega)
  obtain ⟨td, x2, y2, q2, ht, P2⟩ := pick_ok (ds := tops) P1 (by simp) (by decide)
  have ht : ∃ top : Int, td = .int top ∧ 1 ≤ top ∧ top ≤ 10 := by
    simp only [tops, List.mem_cons, List.not_mem_nil, or_false] at ht
    rcases ht with rfl | rfl | rfl | rfl <;> exact ⟨_, rfl, by omega, by omega⟩
  obtain ⟨top, rfl, t1, t10⟩ := ht
  have s0 : c__law_table_0 ([.ow (pot x y), .fz (.int size), .fz (.int many)] ++ List.replicate 5 Sl.un) = some (.nx (tA size many way top x2 y2)) := by
    have a1 := call2 (Fd := F__law_draw) (fa := aMu 0 (aCons (eC (.int 4)) aNil)) (i := 0) (ε := [.ow (pot x y), .fz (.int size), .fz (.int many), .un, .un, .un, .un, .un]) (ε1 := [.ow (pot x y), .fz (.int size), .fz (.int many), .un, .un, .un, .un, .un]) rfl q1
    have a2 := call2 (Fd := F__law_pick) (fa := aMu 0 (aCons (eLst (aCons (eC (.int 1)) (aCons (eC (.int 2)) (aCons (eC (.int 3)) (aCons (eC (.int 10)) (aNil)))))) (aNil))) (i := 0) (ε := [.ow (pot x1 y1), .fz (.int size), .fz (.int many), .un, .un, .un, .un, .un]) (ε1 := [.ow (pot x1 y1), .fz (.int size), .fz (.int many), .un, .un, .un, .un, .un]) (by kernel_rfl) q2
    show sPar [3, 4, 5] (kCons (eCall 2 F__law_draw (aMu 0 (aCons (eC (.int 4)) aNil))) _) [.ow (pot x y), .fz (.int size), .fz (.int many), .un, .un, .un, .un, .un] = _
    unfold sPar kCons
    rw [a1]
    simp only [List.set_cons_zero, bnd_v]
    rw [a2]
    rfl
  have fin : ∀ {f : FE} {ys : List D} {x' y' : Int}, f (tA size many way top x2 y2) = some (.v (.ow (.lst ys)) (tA size many way top x' y')) → (sSeq c__law_table_1 (sSeq c__law_table_2 c__law_table_3)) (tA size many way top x2 y2) = sRet f (tA size many way top x2 y2) → F__law_table [.ow (pot x y), .fz (.int size), .fz (.int many)] = some (.v (.ow (.lst ys)) [.ow (pot x' y'), .fz (.int size), .fz (.int many)]) := fun {f ys x' y'} h1 h2 => by
    have s2 : b__law_table_0 ([.ow (pot x y), .fz (.int size), .fz (.int many)] ++ List.replicate 5 Sl.un) = some (.rt (.ow (.lst ys)) (tA size many way top x' y')) := by
      show sSeq c__law_table_0 (sSeq c__law_table_1 (sSeq c__law_table_2 c__law_table_3)) _ = _
      rw [seq_run s0, h2]
      exact ret_run h1
    exact run_rt (n := 8) (f := b__law_table_0) s2
  have eq0 : ∀ k : Int, bB (e2n oEq 3 (eC (.int k))) (tA size many way top x2 y2) = some (.v (decide (way = k)) (tA size many way top x2 y2)) := fun k => by
    have q := eqI way k
    simp [bB, e2n, look, eV, eC, oEq, q]
  by_cases h0 : way = 0
  · obtain ⟨ys, x', y', e3, r3, P3⟩ := tab_comp hs hs4 hm hm3 (way := way) (top := top) (e := eTup (aCons (eV 7) (aCons (e2 oMod (e1 oToInt (e2 oAdd (e2 oAdd (eV 7) (eV 6)) (eC (.int 1)))) (eV 1)) (aNil)))) (fun d x y b hd hb P => by
      obtain ⟨i, rfl, i0, i1⟩ := nums_mem hd
      obtain ⟨k, rfl, k0, k1⟩ := nums_mem hb
      have hp : 0 < size := by omega
      refine ⟨.tup [.int i, .int ((i + k + 1) % size)], x, y, .inl ?_, ⟨i, (i + k + 1) % size, rfl, i0, by omega, Int.emod_nonneg _ (by omega), Int.emod_lt_of_pos _ hp⟩, P⟩
      simp [eTup, aCons, aNil, eV, e2, e1, eC, oAdd, oToInt, oMod, hp, asD, sizeLine_eq]) P2
    refine ⟨ys, x', y', fin e3 ?_, r3, P3⟩
    have t0 := eq0 0
    unfold sSeq c__law_table_1 sIf
    rw [t0]
    simp only [h0, decide_true]
    rw [ret_run (by rw [h0] at e3; exact e3)]
  · have z1 : c__law_table_1 (tA size many way top x2 y2) = some (.nx (tA size many way top x2 y2)) := by
      unfold c__law_table_1 sIf
      rw [eq0 0]
      simp only [h0, decide_false]
      rfl
    by_cases h1 : way = 1
    · obtain ⟨ys, x', y', e3, r3, P3⟩ := tab_comp hs hs4 hm hm3 (way := way) (top := top) (e := eTup (aCons (eC (.int 0)) (aCons (e2 oMin (e2 oAdd (eV 6) (eC (.int 1))) (eV 5)) (aNil)))) (fun d x y b hd hb P => by
        obtain ⟨i, rfl, i0, i1⟩ := nums_mem hd
        obtain ⟨k, rfl, k0, k1⟩ := nums_mem hb
        by_cases hc : size - 1 < k + 1
        · refine ⟨.tup [.int 0, .int (size - 1)], x, y, .inl ?_, ⟨0, size - 1, rfl, by omega, by omega, by omega, by omega⟩, P⟩
          simp [eTup, aCons, aNil, eV, e2, eC, oAdd, oMin, hc, asD, sizeLine_eq]
        · refine ⟨.tup [.int 0, .int (k + 1)], x, y, .inl ?_, ⟨0, k + 1, rfl, by omega, by omega, by omega, by omega⟩, P⟩
          simp [eTup, aCons, aNil, eV, e2, eC, oAdd, oMin, hc, asD, sizeLine_eq]) P2
      refine ⟨ys, x', y', fin e3 ?_, r3, P3⟩
      rw [seq_run z1]
      have t1 := eq0 1
      unfold sSeq c__law_table_2 sIf
      rw [t1]
      simp only [h1, decide_true]
      rw [ret_run (by rw [h1] at e3; exact e3)]
    · have z2 : c__law_table_2 (tA size many way top x2 y2) = some (.nx (tA size many way top x2 y2)) := by
        unfold c__law_table_2 sIf
        rw [eq0 1]
        simp only [h1, decide_false]
        rfl
      obtain ⟨ys, x', y', e3, r3, P3⟩ := tab_comp hs hs4 hm hm3 (way := way) (top := top) (e := eTup (aCons (eCall 2 F__law_draw (aMu 0 (aCons (eV 4) (aNil)))) (aCons (eCall 2 F__law_draw (aMu 0 (aCons (eV 1) (aNil)))) (aNil)))) (fun d x y b hd hb P => by
        obtain ⟨a, xa, ya, ea, a0, a1, Pa⟩ := draw_ok P (m := top) (by omega) (by omega)
        obtain ⟨l, xb, yb, eb, l0, l1, Pb⟩ := draw_ok Pa (m := size) (by omega) (by omega)
        refine ⟨.tup [.int a, .int l], xb, yb, .inl ?_, ⟨a, l, rfl, a0, by omega, l0, l1⟩, Pb⟩
        have c1 := call2 (Fd := F__law_draw) (fa := aMu 0 (aCons (eV 4) aNil)) (i := 0) (ε := tI size many way top d x y b) (ε1 := tI size many way top d x y b) rfl ea
        have c2 := call2 (Fd := F__law_draw) (fa := aMu 0 (aCons (eV 1) aNil)) (i := 0) (ε := tI size many way top d xa ya b) (ε1 := tI size many way top d xa ya b) rfl eb
        exact tup_run (cons_run (.inl rfl) c1 (cons_run (.inl rfl) c2 rfl)) rfl (by simp)) P2
      refine ⟨ys, x', y', fin e3 ?_, r3, P3⟩
      rw [seq_run z1, seq_run z2]
      rfl
end Law

namespace Law
open PySem Mi
abbrev modD (xs : List Str) (rs : List D) : D := .dct [(.inr "deeds", .lst (xs.map D.str)), (.inr "rows", .lst rs)]
structure Model (xs : List Str) (rs : List D) : Prop where
  n1 : 1 ≤ xs.length
  n3 : xs.length ≤ 4
  nm : Names xs
  r1 : 1 ≤ rs.length
  r4 : rs.length ≤ 8
  row : ∀ r ∈ rs, RowD xs.length rs.length r
theorem model_ok {x y : Int} (P : Pot x y) : ∃ xs rs x' y', F__law_model [.ow (pot x y), .fz (.int 8), .fz (.int 4)] = some (.v (.ow (modD xs rs)) [.ow (pot x' y'), .fz (.int 8), .fz (.int 4)]) ∧ Model xs rs ∧ Pot x' y' := by
  obtain ⟨s, x1, y1, q1, s0, s4, P1⟩ := draw_ok P (m := 8) (by omega) (by omega)
  obtain ⟨m, x2, y2, q2, m0, m3, P2⟩ := draw_ok P1 (m := 4) (by omega) (by omega)
  obtain ⟨xs, x3, y3, q3, lx, N, P3⟩ := names_ok P2 (n := 1 + m) (by omega) (by omega)
  obtain ⟨rs, x4, y4, q4, ⟨lr, hr⟩, P4⟩ := table_ok P3 (size := 1 + s) (many := 1 + m) (by omega) (by omega) (by omega) (by omega)
  refine ⟨xs, rs, x4, y4, ?_, ⟨by omega, by omega, N, by omega, by omega, fun r h => by rw [lx, lr]; exact hr r h⟩, P4⟩
  have a1 := call2 (Fd := F__law_draw) (fa := aMu 0 (aCons (eV 1) aNil)) (i := 0) (ε := [.ow (pot x y), .fz (.int 8), .fz (.int 4), .un, .un]) (ε1 := [.ow (pot x y), .fz (.int 8), .fz (.int 4), .un, .un]) rfl q1
  have a2 := call2 (Fd := F__law_draw) (fa := aMu 0 (aCons (eV 2) aNil)) (i := 0) (ε := [.ow (pot x1 y1), .fz (.int 8), .fz (.int 4), .un, .un]) (ε1 := [.ow (pot x1 y1), .fz (.int 8), .fz (.int 4), .un, .un]) rfl q2
  have b1 := e2_run (op := oAdd) (fa := eC (.int 1)) (ε := [.ow (pot x y), .fz (.int 8), .fz (.int 4), .un, .un]) (x := .int 1) (.inl rfl) (.inl rfl) rfl a1 (show oAdd (.int 1) (.int s) = some (.fz (.int (1 + s))) from rfl)
  have b2 := e2_run (op := oAdd) (fa := eC (.int 1)) (ε := [.ow (pot x1 y1), .fz (.int 8), .fz (.int 4), .un, .un]) (x := .int 1) (.inl rfl) (.inl rfl) rfl a2 (show oAdd (.int 1) (.int m) = some (.fz (.int (1 + m))) from rfl)
  have t0 : c__law_model_0 ([.ow (pot x y), .fz (.int 8), .fz (.int 4)] ++ List.replicate 2 Sl.un) = some (.nx [.ow (pot x2 y2), .fz (.int 8), .fz (.int 4), .fz (.int (1 + s)), .fz (.int (1 + m))]) := by
    show sPar [3, 4] (kCons (e2 oAdd (eC (.int 1)) (eCall 2 F__law_draw (aMu 0 (aCons (eV 1) aNil)))) _) [.ow (pot x y), .fz (.int 8), .fz (.int 4), .un, .un] = _
    unfold sPar kCons
    rw [b1]
    simp only [List.set_cons_zero, bnd_v]
    rw [b2]
    rfl
  have a3 := call2 (Fd := F__law_names) (fa := aMu 0 (aCons (eV 4) aNil)) (i := 0) (ε := [.ow (pot x2 y2), .fz (.int 8), .fz (.int 4), .fz (.int (1 + s)), .fz (.int (1 + m))]) (ε1 := [.ow (pot x2 y2), .fz (.int 8), .fz (.int 4), .fz (.int (1 + s)), .fz (.int (1 + m))]) rfl q3
  have a4 := call3 (Fd := F__law_table) (fa := aMu 0 (aCons (eV 3) (aCons (eV 4) aNil))) (i := 0) (ε := [.ow (pot x3 y3), .fz (.int 8), .fz (.int 4), .fz (.int (1 + s)), .fz (.int (1 + m))]) (ε1 := [.ow (pot x3 y3), .fz (.int 8), .fz (.int 4), .fz (.int (1 + s)), .fz (.int (1 + m))]) rfl q4
  have t1 : c__law_model_1 [.ow (pot x2 y2), .fz (.int 8), .fz (.int 4), .fz (.int (1 + s)), .fz (.int (1 + m))] = some (.rt (.ow (modD xs rs)) [.ow (pot x4 y4), .fz (.int 8), .fz (.int 4), .fz (.int (1 + s)), .fz (.int (1 + m))]) := by
    refine ret_run ?_
    unfold eDict pCons
    simp only [eC, bf_fz, bfR_fz, bfR_ow, wk_str, wk_int, wk_lst, wk_tup, wk_dct, wk_bl, wk_non, wk_ins]
    rw [a3]
    simp only [bf_ow, List.set_cons_zero]
    rw [a4]
    kernel_rfl
  have t2 : b__law_model_0 ([.ow (pot x y), .fz (.int 8), .fz (.int 4)] ++ List.replicate 2 Sl.un) = some (.rt (.ow (modD xs rs)) [.ow (pot x4 y4), .fz (.int 8), .fz (.int 4), .fz (.int (1 + s)), .fz (.int (1 + m))]) := by
    show sSeq c__law_model_0 c__law_model_1 _ = _
    rw [seq_run t0]
    exact t1
  exact run_rt (n := 5) (f := b__law_model_0) t2
end Law

namespace Law
open PySem Mi
theorem call1 {Fd : FD} {fa : FAr} {ε ε1 : En} {a a' s : Sl} (ha : fa ε = some (.v [(none, a)] ε1)) (hp : Fd [a] = some (.v s [a'])) : eCall 1 Fd fa ε = some (.v s ε1) := by
  unfold eCall
  rw [ha]
  simp only [bnd_v]
  rw [show muOk 1 [((none : Option Nat), a)] = true from by simp [muOk]]
  simp only [List.map_cons, List.map_nil]
  rw [hp]
  rfl
theorem call1x {Fd : FD} {fa : FAr} {ε ε1 : En} {a a' : Sl} {c : Str} {gs : List (Str × D)} (ha : fa ε = some (.v [(none, a)] ε1)) (hp : Fd [a] = some (.x c gs [a'])) : eCall 1 Fd fa ε = some (.x c gs ε1) := by
  unfold eCall
  rw [ha]
  simp only [bnd_v]
  rw [show muOk 1 [((none : Option Nat), a)] = true from by simp [muOk]]
  simp only [List.map_cons, List.map_nil]
  rw [hp]
  rfl
theorem for_nx {g : FG} {b : FS} {d : D} {ds : List D} {ε ε1 ε2 : En} (hg : g d ε = some ε1) (hb : b ε1 = some (.nx ε2)) : forL g b (d :: ds) ε = forL g b ds ε2 := by
  conv => lhs; unfold forL
  rw [hg]
  simp only
  rw [hb]
theorem for_ex {g : FG} {b : FS} {d : D} {ds : List D} {ε ε1 ε2 : En} {c : Str} {gs : List (Str × D)} (hg : g d ε = some ε1) (hb : b ε1 = some (.ex c gs ε2)) : forL g b (d :: ds) ε = some (.ex c gs ε2) := by
  conv => lhs; unfold forL
  rw [hg]
  simp only
  rw [hb]
/-! ### names -/
theorem name_yes {x : Str} (h : nameS x) : F_is_name [.fz (.str x)] = some (.v (.fz (.bl true)) [.fz (.str x)]) := by
  have hl : x.length = x.cps.toList.length := by simp [Str.length]
  have l1 := h.l1
  have l2 := h.l2
  have l3 : x.cps.size ≤ 8 := by simpa using l2
  have hs : x.length ≤ sizeLine := by rw [sizeLine_eq]; omega
  have s0 : c_is_name_0 [.fz (.str x), .un] = some (.nx [.fz (.str x), .un]) := by
    have a1 : (1 : Int) ≤ (x.length : Int) := by omega
    have a2 : (x.length : Int) ≤ 8 := by omega
    simp [c_is_name_0, sIf, bor, bnot, bB, e1, oIsT, qStr, eV, e3, eC, e1n, look, oLen, hs, oInt, a1, a2, sNext]
  have el : eLc (iSeq (eV 0)) (gN 1) (bTrue) (e2 oIn (eV 1) (eC (.str "abcdefghijklmnopqrstuvwxyz"))) [1] [.fz (.str x), .un] = some (.v (.ow (.lst (x.cps.toList.map fun _ => D.bl true))) [.fz (.str x), .un]) := by
    have hp := lc_pure (g := gN 1) (t := bTrue) (e := e2 oIn (eV 1) (eC (.str "abcdefghijklmnopqrstuvwxyz"))) (vs := [1]) (B := [.fz (.str x), .un]) (E := fun d => [.fz (.str x), .fz d]) (p := fun _ => true) (f := fun _ => .bl true) (signs x) [] (fun d _ => rfl) (fun d _ => rfl) (fun d hd _ => by
      obtain ⟨c, hc, rfl⟩ := List.mem_map.mp hd
      have hm : c ∈ ("abcdefghijklmnopqrstuvwxyz" : Str).cps.toList := by rw [abcq]; exact h.al c hc
      have hi : inD (.str ⟨#[c]⟩) (.str "abcdefghijklmnopqrstuvwxyz") = some true := by
        show some (decide (c ∈ ("abcdefghijklmnopqrstuvwxyz" : Str).cps.toList)) = some true
        rw [decide_eq_true hm]
      exact e2_run (.inl rfl) (.inl rfl) (show eV 1 [.fz (.str x), .fz (.str ⟨#[c]⟩)] = some (.v (.fz (.str ⟨#[c]⟩)) [.fz (.str x), .fz (.str ⟨#[c]⟩)]) from rfl) rfl (by unfold oIn; rw [hi]; rfl)) (fun d _ => rfl) (by simp [signs]; omega)
    unfold eLc
    rw [show iSeq (eV 0) [.fz (.str x), .un] = some (.v (signs x) [.fz (.str x), .un]) from rfl]
    show (match lcL (gN 1) bTrue (e2 oIn (eV 1) (eC (.str "abcdefghijklmnopqrstuvwxyz"))) [1] (signs x) [.fz (.str x), .un] [] with
      | some (ys, ε2) => some (R.v (Sl.ow (D.lst ys)) (backE [.fz (.str x), .un] ε2 [1]))
      | none => none) = _
    rw [hp, List.nil_append, List.filter_eq_self.mpr (by simp)]
    simp [signs, backE]
  have hb : ∀ cs : List Nat, bools (cs.map fun _ => D.bl true) = some (cs.map fun _ => true) := fun cs => by
    induction cs with
    | nil => rfl
    | cons c cs ih => simp only [List.map_cons, bools, ih]; rfl
  have s1 : c_is_name_1 [.fz (.str x), .un] = some (.rt (.fz (.bl true)) [.fz (.str x), .un]) := by
    refine ret_run ?_
    unfold e1
    rw [el]
    simp only [bf_ow]
    have : oAll (.lst (x.cps.toList.map fun _ => D.bl true)) = some (.fz (.bl true)) := by simp [oAll, hb]
    rw [this]
    rfl
  have s2 : b_is_name_0 ([.fz (.str x)] ++ List.replicate 1 Sl.un) = some (.rt (.fz (.bl true)) [.fz (.str x), .un]) := by
    show sSeq c_is_name_0 c_is_name_1 [.fz (.str x), .un] = _
    rw [seq_run s0]
    exact s1
  exact run_rt (n := 2) (f := b_is_name_0) s2
def bads : List D := [.str "", .str "Set", .str "abcdefghi", .str "a1", .str "a b", .non, .int 7, .bl true, .tup [.str "set"], .lst [.str "set"], .str "set\n", .str "-", .dct []]
theorem name_no {d : D} (h : d ∈ bads) : F_is_name [.fz d] = some (.v (.fz (.bl false)) [.fz d]) := by
  simp only [bads, List.mem_cons, List.not_mem_nil, or_false] at h
  rcases h with rfl | rfl | rfl | rfl | rfl | rfl | rfl | rfl | rfl | rfl | rfl | rfl | rfl <;> kernel_rfl

/-! ### want_names_of_deeds -/
/-- a list or a tuple -/
def seqD (b : Bool) (es : List D) : D := if b then .lst es else .tup es
abbrev bWn : FS := sIf (bor (bnot (bB (eCall 1 F_is_name (aCons (eV 2) (aNil))))) (bB (e2 oIn (eV 2) (eSl (eV 0) (fNo) (fPart (eV 1)))))) (sRz "InvalidDeeds" ["position"] (aCons (eV 1) (aNil))) (sNext)
theorem cut_pre {α : Type} (pre rest : List α) : cutD (pre ++ rest) none (some (pre.length : Int)) = pre := by
  unfold cutD
  have z : HT.sIx (pre ++ rest).length (pre ++ rest).length (some (pre.length : Int)) = min pre.length (pre ++ rest).length := HT.sIx_nat _ _ _
  rw [z, HT.sIx_none]
  simp
theorem sl_seq (b : Bool) (pre rest : List D) (s1 s2 : Sl) : ∃ s, (s = .fz (seqD b pre) ∨ s = .ow (seqD b pre)) ∧ eSl (eV 0) fNo (fPart (eV 1)) [.fz (seqD b (pre ++ rest)), .fz (.int (pre.length : Nat)), s2] = some (.v s [.fz (seqD b (pre ++ rest)), .fz (.int (pre.length : Nat)), s2]) := by
  cases b with
  | true => exact ⟨.ow (seqD true pre), .inr rfl, by
      have := cut_pre pre rest
      simp [eSl, eV, seqD, fNo, fPart, oSl, this]⟩
  | false => exact ⟨.fz (seqD false pre), .inl rfl, by
      have := cut_pre pre rest
      simp [eSl, eV, seqD, fNo, fPart, oSl, this]⟩
theorem in_seq (b : Bool) (u : Str) (xs : List Str) : oIn (.str u) (seqD b (xs.map D.str)) = some (.fz (.bl (decide (u ∈ xs)))) := by
  cases b with
  | true => show (inD (.str u) (.lst (xs.map D.str))).map _ = _; rw [inD_lst]; rfl
  | false => show (inD (.str u) (.tup (xs.map D.str))).map _ = _; rw [inD_tup]; rfl
section
variable (b : Bool) (xs : List Str) (rest : List D)
abbrev wE (b : Bool) (xs : List Str) (rest : List D) (d : D) : En := [.fz (seqD b (xs.map D.str ++ rest)), .fz (.int ((xs.map D.str).length : Nat)), .fz d]
theorem wn_dup {u : Str} (hu : nameS u) : bB (e2 oIn (eV 2) (eSl (eV 0) (fNo) (fPart (eV 1)))) (wE b xs rest (.str u)) = some (.v (decide (u ∈ xs)) (wE b xs rest (.str u))) := by
  obtain ⟨s, hs, e⟩ := sl_seq b (xs.map D.str) rest .un (.fz (.str u))
  have z := e2_run (op := oIn) (.inl rfl) hs (show eV 2 (wE b xs rest (.str u)) = some (.v (.fz (.str u)) (wE b xs rest (.str u))) from rfl) e (in_seq b u xs) (by rfl) (by cases b <;> rfl)
  unfold bB
  rw [z]
  rfl
theorem wn_nm {d : D} {q : Bool} (h : F_is_name [.fz d] = some (.v (.fz (.bl q)) [.fz d])) : bnot (bB (eCall 1 F_is_name (aCons (eV 2) (aNil)))) (wE b xs rest d) = some (.v (!q) (wE b xs rest d)) := by
  have z := call1 (Fd := F_is_name) (fa := aCons (eV 2) aNil) (ε := wE b xs rest d) (ε1 := wE b xs rest d) (a := .fz d) rfl h
  unfold bnot bB
  rw [z]
  rfl
theorem wn_raise (d : D) : sRz "InvalidDeeds" ["position"] (aCons (eV 1) (aNil)) (wE b xs rest d) = some (.ex "InvalidDeeds" [("position", .int ((xs.map D.str).length : Nat))] (wE b xs rest d)) := by
  unfold sRz
  rw [show aCons (eV 1) aNil (wE b xs rest d) = some (.v [(none, .fz (.int ((xs.map D.str).length : Nat)))] (wE b xs rest d)) from rfl]
  rfl
theorem wn_bad {d : D} (h : F_is_name [.fz d] = some (.v (.fz (.bl false)) [.fz d])) : bWn (wE b xs rest d) = some (.ex "InvalidDeeds" [("position", .int ((xs.map D.str).length : Nat))] (wE b xs rest d)) := by
  unfold bWn sIf bor
  rw [wn_nm b xs rest h]
  exact wn_raise b xs rest d
theorem wn_same {u : Str} (hu : nameS u) (hm : u ∈ xs) : bWn (wE b xs rest (.str u)) = some (.ex "InvalidDeeds" [("position", .int ((xs.map D.str).length : Nat))] (wE b xs rest (.str u))) := by
  have t : (bor (bnot (bB (eCall 1 F_is_name (aCons (eV 2) (aNil))))) (bB (e2 oIn (eV 2) (eSl (eV 0) (fNo) (fPart (eV 1)))))) (wE b xs rest (.str u)) = some (.v true (wE b xs rest (.str u))) := by
    unfold bor
    rw [wn_nm b xs rest (name_yes hu)]
    show bB _ _ = _
    rw [wn_dup b xs rest hu, decide_eq_true hm]
  unfold bWn sIf
  rw [t]
  exact wn_raise b xs rest (.str u)
theorem wn_next {u : Str} (hu : nameS u) (hm : u ∉ xs) : bWn (wE b xs rest (.str u)) = some (.nx (wE b xs rest (.str u))) := by
  have t : (bor (bnot (bB (eCall 1 F_is_name (aCons (eV 2) (aNil))))) (bB (e2 oIn (eV 2) (eSl (eV 0) (fNo) (fPart (eV 1)))))) (wE b xs rest (.str u)) = some (.v false (wE b xs rest (.str u))) := by
    unfold bor
    rw [wn_nm b xs rest (name_yes hu)]
    show bB _ _ = _
    rw [wn_dup b xs rest hu, decide_eq_false hm]
  unfold bWn sIf
  rw [t]
  rfl
end
abbrev gWn : FG := gT 2 (gCons (gN 1) (gCons (gN 2) (gNil)))
/-- the loop over names, and what comes behind them -/
theorem wn_loop (b : Bool) : ∀ (ys xs : List Str) (tl : List D) (j1 j2 : Sl), Names (xs ++ ys) →
    ∃ i1 i2, forL gWn bWn (enumD xs.length (ys.map D.str ++ tl)) [.fz (seqD b (xs.map D.str ++ (ys.map D.str ++ tl))), j1, j2] = forL gWn bWn (enumD (xs ++ ys).length tl) [.fz (seqD b ((xs ++ ys).map D.str ++ tl)), i1, i2]
  | [], xs, tl, j1, j2, N => ⟨j1, j2, by simp⟩
  | u :: ys, xs, tl, j1, j2, N => by
    have N1 : Names ((xs ++ [u]) ++ ys) := by rw [List.append_assoc]; exact N
    obtain ⟨i1, i2, e⟩ := wn_loop b ys (xs ++ [u]) tl (.fz (.int (xs.length : Nat))) (.fz (.str u)) N1
    refine ⟨i1, i2, ?_⟩
    have hu : nameS u := N.al u (by simp)
    have hn : u ∉ xs := fun z => by
      have := N.nd
      rw [List.nodup_append] at this
      exact this.2.2 u z u (by simp) rfl
    have e2 : (xs ++ [u]) ++ ys = xs ++ u :: ys := by simp
    rw [e2] at e
    rw [← e]
    rw [show enumD xs.length ((u :: ys).map D.str ++ tl) = .tup [.int (xs.length : Nat), .str u] :: enumD (xs.length + 1) (ys.map D.str ++ tl) from rfl]
    have w := wn_next b xs ((u :: ys).map D.str ++ tl) hu hn
    rw [for_nx (ε1 := wE b xs ((u :: ys).map D.str ++ tl) (.str u)) (by simp [gT, gCons, gN, gNil]) w]
    have e3 : (xs ++ [u]).length = xs.length + 1 := by simp
    have e4 : (xs ++ [u]).map D.str ++ (ys.map D.str ++ tl) = xs.map D.str ++ ((u :: ys).map D.str ++ tl) := by simp
    have e5 : (xs.map D.str).length = xs.length := by simp
    rw [e3, e4]
    unfold wE
    rw [e5]
/-- what wrong deeds are: nothing to walk; a wrong one behind right ones -/
theorem wn_none {d : D} (h : d ∈ [D.non, .int 0, .str "set", .str "", .dct [], .dct [(.inr "set", .int 1)], .lst [], .tup [], .bl true]) : F_want_names_of_deeds [.fz d] = some (.x "InvalidDeeds" [("position", .non)] [.fz d]) := by
  simp only [List.mem_cons, List.not_mem_nil, or_false] at h
  rcases h with rfl | rfl | rfl | rfl | rfl | rfl | rfl | rfl | rfl <;> kernel_rfl
theorem wn_0 (b : Bool) (e : D) (es : List D) (j1 j2 : Sl) : c_want_names_of_deeds_0 [.fz (seqD b (e :: es)), j1, j2] = some (.nx [.fz (seqD b (e :: es)), j1, j2]) := by
  have l : ∀ z : Int, z = (e :: es).length → oEq (.int z) (.int 0) = some (.fz (.bl false)) := fun z hz => by
    unfold oEq
    rw [eqI, decide_eq_false (by rw [hz]; simp; omega)]
    rfl
  have cl : eCall 1 F_is_list (aCons (eV 0) aNil) [.fz (seqD b (e :: es)), j1, j2] = some (.v (.fz (.bl true)) [.fz (seqD b (e :: es)), j1, j2]) := by
    cases b <;> exact call1 (a := .fz (seqD _ (e :: es))) rfl rfl
  have ln : e1n oLen 0 [.fz (seqD b (e :: es)), j1, j2] = some (.v (.fz (.int (e :: es).length)) [.fz (seqD b (e :: es)), j1, j2]) := by cases b <;> rfl
  have t : (bor (bnot (bB (eCall 1 F_is_list (aCons (eV 0) (aNil))))) (bB (e2 oEq (e1n oLen 0) (eC (.int 0))))) [.fz (seqD b (e :: es)), j1, j2] = some (.v false [.fz (seqD b (e :: es)), j1, j2]) := by
    have z := e2_run (op := oEq) (.inl rfl) (.inl rfl) ln (show eC (.int 0) [.fz (seqD b (e :: es)), j1, j2] = some (.v (.fz (.int 0)) [.fz (seqD b (e :: es)), j1, j2]) from rfl) (l _ rfl)
    unfold bor bnot bB
    rw [cl]
    simp only [bf_fz, bfR_fz, bfR_ow, wk_str, wk_int, wk_lst, wk_tup, wk_dct, wk_bl, wk_non, wk_ins, bnd_v]
    rw [if_neg (by simp)]
    rw [z]
    rfl
  unfold c_want_names_of_deeds_0 sIf
  rw [t]
  rfl
theorem wn_1 (b : Bool) (e : D) (es : List D) (j1 j2 : Sl) : c_want_names_of_deeds_1 [.fz (seqD b (e :: es)), j1, j2] = forL gWn bWn (enumD 0 (e :: es)) [.fz (seqD b (e :: es)), j1, j2] := by
  cases b <;> rfl
theorem wn_some (b : Bool) {xs : List Str} (N : Names xs) {bad : D} (hb : bad ∈ bads ∨ ∃ u ∈ xs, bad = .str u) (rest : List D) : F_want_names_of_deeds [.fz (seqD b (xs.map D.str ++ bad :: rest))] = some (.x "InvalidDeeds" [("position", .int (xs.length : Nat))] [.fz (seqD b (xs.map D.str ++ bad :: rest))]) := by
  obtain ⟨i1, i2, e⟩ := wn_loop b xs [] (bad :: rest) .un .un N
  simp only [List.nil_append, List.map_nil, List.length_nil] at e
  have hx : forL gWn bWn (enumD xs.length (bad :: rest)) [.fz (seqD b (xs.map D.str ++ bad :: rest)), i1, i2] = some (.ex "InvalidDeeds" [("position", .int (xs.length : Nat))] (wE b xs (bad :: rest) bad)) := by
    have g1 : gWn (.tup [.int (xs.length : Nat), bad]) [.fz (seqD b (xs.map D.str ++ bad :: rest)), i1, i2] = some (wE b xs (bad :: rest) bad) := by simp [gT, gCons, gN, gNil]
    have e5 : (xs.map D.str).length = xs.length := by simp
    rw [show enumD xs.length (bad :: rest) = .tup [.int (xs.length : Nat), bad] :: enumD (xs.length + 1) rest from rfl]
    rcases hb with hb | ⟨u, hu, rfl⟩
    · have w := wn_bad b xs (bad :: rest) (name_no hb)
      rw [e5] at w
      exact for_ex g1 w
    · have w := wn_same b xs (.str u :: rest) (N.al u hu) hu
      rw [e5] at w
      exact for_ex g1 w
  obtain ⟨h0, hs, hh⟩ : ∃ h0 hs, xs.map D.str ++ bad :: rest = h0 :: hs := by
    cases xs with
    | nil => exact ⟨_, _, rfl⟩
    | cons a xs => exact ⟨_, _, rfl⟩
  have s : b_want_names_of_deeds_0 ([.fz (seqD b (xs.map D.str ++ bad :: rest))] ++ List.replicate 2 Sl.un) = some (.ex "InvalidDeeds" [("position", .int (xs.length : Nat))] (wE b xs (bad :: rest) bad)) := by
    show sSeq c_want_names_of_deeds_0 c_want_names_of_deeds_1 [.fz (seqD b (xs.map D.str ++ bad :: rest)), .un, .un] = _
    rw [← hx, ← e]
    rw [hh, seq_run (wn_0 b h0 hs .un .un), wn_1]
  exact run_ex (n := 3) (f := b_want_names_of_deeds_0) s
theorem wn_let (b : Bool) {xs : List Str} (N : Names xs) (h0 : xs ≠ []) : F_want_names_of_deeds [.fz (seqD b (xs.map D.str))] = some (.v (.fz .non) [.fz (seqD b (xs.map D.str))]) := by
  obtain ⟨i1, i2, e⟩ := wn_loop b xs [] [] .un .un N
  simp only [List.nil_append, List.map_nil, List.length_nil, List.append_nil] at e
  obtain ⟨a, as, rfl⟩ := List.exists_cons_of_ne_nil h0
  have s : b_want_names_of_deeds_0 ([.fz (seqD b ((a :: as).map D.str))] ++ List.replicate 2 Sl.un) = some (.nx [.fz (seqD b ((a :: as).map D.str)), i1, i2]) := by
    show sSeq c_want_names_of_deeds_0 c_want_names_of_deeds_1 [.fz (seqD b (.str a :: as.map D.str)), .un, .un] = _
    rw [seq_run (wn_0 b (.str a) (as.map D.str) .un .un), wn_1]
    exact e
  exact run_nx (n := 3) (f := b_want_names_of_deeds_0) s
end Law

namespace Law
open PySem Mi
theorem call2n {Fd : FD} {fa : FAr} {ε ε1 : En} {a b a' b' s : Sl} (ha : fa ε = some (.v [(none, a), (none, b)] ε1)) (hp : Fd [a, b] = some (.v s [a', b'])) : eCall 2 Fd fa ε = some (.v s ε1) := by
  unfold eCall
  rw [ha]
  simp only [bnd_v]
  rw [show muOk 2 [((none : Option Nat), a), (none, b)] = true from by simp [muOk]]
  simp only [List.map_cons, List.map_nil]
  rw [hp]
  rfl
theorem call3n {Fd : FD} {fa : FAr} {ε ε1 : En} {a b c a' b' c' s : Sl} (ha : fa ε = some (.v [(none, a), (none, b), (none, c)] ε1)) (hp : Fd [a, b, c] = some (.v s [a', b', c'])) : eCall 3 Fd fa ε = some (.v s ε1) := by
  unfold eCall
  rw [ha]
  simp only [bnd_v]
  rw [show muOk 3 [((none : Option Nat), a), (none, b), (none, c)] = true from by simp [muOk]]
  simp only [List.map_cons, List.map_nil]
  rw [hp]
  rfl
theorem and_no {f g : FE} {ε ε1 : En} {s : Sl} (hs : s = .fz (.bl false) ∨ s = .ow (.bl false)) (h : f ε = some (.v s ε1)) : eAnd f g ε = some (.v (.fz (.bl false)) ε1) := by
  unfold eAnd
  rcases hs with rfl | rfl <;> rw [h] <;> rfl
theorem and_yes {f g : FE} {ε ε1 : En} {r : Option (R Sl)} (h : f ε = some (.v (.fz (.bl true)) ε1)) (hg : g ε1 = r) : eAnd f g ε = r := by
  unfold eAnd
  rw [h]
  exact hg
/-! ### numbers below -/
/-- is_below(d, n) is b -/
def Bel (d : D) (n : Int) (b : Bool) : Prop := F_is_below [.fz d, .fz (.int n)] = some (.v (.fz (.bl b)) [.fz d, .fz (.int n)])
theorem cnt_int (i : Int) : F_is_count [.fz (.int i)] = some (.v (.fz (.bl (decide (0 ≤ i)))) [.fz (.int i)]) := rfl
theorem bel_int (i n : Int) : Bel (.int i) n (decide (0 ≤ i) && decide (i < n)) := by
  have c := call1 (Fd := F_is_count) (fa := aCons (eV 0) aNil) (ε := [.fz (.int i), .fz (.int n)]) (ε1 := [.fz (.int i), .fz (.int n)]) (a := .fz (.int i)) rfl (cnt_int i)
  have s : b_is_below_0 ([.fz (.int i), .fz (.int n)] ++ List.replicate 0 Sl.un) = some (.rt (.fz (.bl (decide (0 ≤ i) && decide (i < n)))) [.fz (.int i), .fz (.int n)]) := by
    refine ret_run ?_
    show eAnd (eCall 1 F_is_count (aCons (eV 0) aNil)) (e2 oLt (eV 0) (eV 1)) [.fz (.int i), .fz (.int n)] = _
    by_cases h : 0 ≤ i
    · rw [decide_eq_true h] at c ⊢
      exact and_yes c (by simp [e2, eV, oInt])
    · rw [decide_eq_false h] at c ⊢
      exact and_no (.inl rfl) c
  exact run_rt (n := 2) (f := b_is_below_0) s
theorem bel_yes {i n : Int} (h0 : 0 ≤ i) (h1 : i < n) : Bel (.int i) n true := by
  have z := bel_int i n
  rwa [decide_eq_true h0, decide_eq_true h1] at z
theorem bel_no {i n : Int} (h : i < 0 ∨ n ≤ i) : Bel (.int i) n false := by
  have z := bel_int i n
  rcases h with h | h
  · rwa [decide_eq_false (by omega : ¬ 0 ≤ i)] at z
  · rw [decide_eq_false (by omega : ¬ i < n), Bool.and_false] at z
    exact z
theorem bel_bl (b : Bool) (n : Int) : Bel (.bl b) n false := rfl
theorem bel_non (n : Int) : Bel .non n false := rfl
theorem bel_str (x : Str) (n : Int) : Bel (.str x) n false := rfl
theorem ans_of {d : D} {b : Bool} (h : Bel d 10 b) : F_is_answer [.fz d] = some (.v (.fz (.bl b)) [.fz d]) := by
  have c := call2n (Fd := F_is_below) (fa := aCons (eV 0) (aCons (e2 oAdd (eC (.int 9)) (eC (.int 1))) aNil)) (ε := [.fz d]) (ε1 := [.fz d]) (a := .fz d) (b := .fz (.int 10)) rfl h
  exact run_rt (n := 1) (f := b_is_answer_0) (ss := [.fz d]) (ret_run c)
/-! ### entries -/
def En2 (n : Int) (d : D) (b : Bool) : Prop := F_is_entry [.fz (.int n), .fz d] = some (.v (.fz (.bl b)) [.fz (.int n), .fz d])
theorem ent_pair {n : Int} {p q : D} {b c : Bool} (h1 : Bel p 10 b) (h2 : Bel q n c) : En2 n (.tup [p, q]) (b && c) := by
  have c1 := call1 (Fd := F_is_answer) (fa := aCons (e2n oIx 1 (eC (.int 0))) aNil) (ε := [.fz (.int n), .fz (.tup [p, q])]) (ε1 := [.fz (.int n), .fz (.tup [p, q])]) (a := .fz p) rfl (ans_of h1)
  have c2 := call2n (Fd := F_is_below) (fa := aCons (e2n oIx 1 (eC (.int 1))) (aCons (eV 0) aNil)) (ε := [.fz (.int n), .fz (.tup [p, q])]) (ε1 := [.fz (.int n), .fz (.tup [p, q])]) (a := .fz q) (b := .fz (.int n)) rfl h2
  have s : b_is_entry_0 ([.fz (.int n), .fz (.tup [p, q])] ++ List.replicate 0 Sl.un) = some (.rt (.fz (.bl (b && c))) [.fz (.int n), .fz (.tup [p, q])]) := by
    refine ret_run ?_
    show eAnd (e1 (oIsT qTup) (eV 1)) (eAnd (e2 oEq (e1n oLen 1) (eC (.int 2))) (eAnd (eCall 1 F_is_answer (aCons (e2n oIx 1 (eC (.int 0))) aNil)) (eCall 2 F_is_below (aCons (e2n oIx 1 (eC (.int 1))) (aCons (eV 0) aNil))))) [.fz (.int n), .fz (.tup [p, q])] = _
    refine and_yes rfl (and_yes rfl ?_)
    cases b with
    | true => exact and_yes c1 c2
    | false => exact and_no (.inl rfl) c1
  exact run_rt (n := 2) (f := b_is_entry_0) s
theorem ent_yes {n : Int} {d : D} (h : Ent n d) : En2 n d true := by
  obtain ⟨a, l, rfl, a0, a1, l0, l1⟩ := h.ex
  exact ent_pair (bel_yes a0 a1) (bel_yes l0 l1)
/-- no tuple, or one of another length -/
theorem ent_not {n : Int} {d : D} (h : (∃ es, d = .lst es) ∨ d = .non ∨ (∃ i, d = .int i) ∨ (∃ x, d = .str x) ∨ (∃ k, d = .dct k) ∨ d = .tup [] ∨ (∃ p, d = .tup [p]) ∨ ∃ p q r, d = .tup [p, q, r]) : En2 n d false := by
  rcases h with ⟨_, rfl⟩ | rfl | ⟨_, rfl⟩ | ⟨_, rfl⟩ | ⟨_, rfl⟩ | rfl | ⟨_, rfl⟩ | ⟨_, _, _, rfl⟩ <;> rfl
def odds (a l size : Int) : List D := [.tup [.int 10, .int l], .tup [.int (-1), .int l], .tup [.bl true, .int l], .tup [.non, .int l], .tup [.str "0", .int l], .tup [.int a, .int size], .tup [.int a, .int (-1)],
  .tup [.int a, .bl false], .tup [.int a, .non], .tup [.int a, .int 100000000000000000000000000000], .tup [.int a, .str "0"], .tup [.int a], .tup [.int a, .int l, .int 0],
  .lst [.int a, .int l], .non, .int 0, .str "00", .dct [], .dct [(.inl a, .int l)], .tup [], .tup [.tup [.int a, .int l]], .tup [.int 100000000000000000000000000000, .int l]]
theorem ent_no {a l size : Int} {d : D} (a0 : 0 ≤ a) (a1 : a < 10) (l0 : 0 ≤ l) (l1 : l < size) (s4 : size ≤ 4) (h : d ∈ odds a l size) : En2 size d false := by
  have ba := bel_yes a0 a1
  have bl := bel_yes l0 l1
  simp only [odds, List.mem_cons, List.not_mem_nil, or_false] at h
  rcases h with rfl | rfl | rfl | rfl | rfl | rfl | rfl | rfl | rfl | rfl | rfl | rfl | rfl | rfl | rfl | rfl | rfl | rfl | rfl | rfl | rfl | rfl
  · exact ent_pair (bel_no (by omega)) bl
  · exact ent_pair (bel_no (by omega)) bl
  · exact ent_pair (bel_bl true 10) bl
  · exact ent_pair (bel_non 10) bl
  · exact ent_pair (bel_str "0" 10) bl
  · exact ent_pair ba (bel_no (by omega))
  · exact ent_pair ba (bel_no (by omega))
  · exact ent_pair ba (bel_bl false size)
  · exact ent_pair ba (bel_non size)
  · exact ent_pair ba (bel_no (by omega))
  · exact ent_pair ba (bel_str "0" size)
  · exact ent_not (by simp)
  · exact ent_not (by simp)
  · exact ent_not (by simp)
  · exact ent_not (by simp)
  · exact ent_not (by simp)
  · exact ent_not (by simp)
  · exact ent_not (by simp)
  · exact ent_not (by simp)
  · exact ent_not (by simp)
  · exact ent_not (by simp)
  · exact ent_pair (bel_no (by omega)) bl
/-! ### rows -/
def Row2 (dv : D) (n : Int) (d : D) (b : Bool) : Prop := F_is_row [.fz dv, .fz (.int n), .fz d] = some (.v (.fz (.bl b)) [.fz dv, .fz (.int n), .fz d])
theorem bools_map (v : D → Bool) : ∀ es : List D, bools (es.map fun e => D.bl (v e)) = some (es.map v)
  | [] => rfl
  | e :: es => by simp only [List.map_cons, bools, bools_map v es]; rfl
theorem row_all {b c : Bool} {ds es : List D} {n : Int} {v : D → Bool} (hl : es.length = ds.length) (hz : es.length ≤ 1000) (hv : ∀ e ∈ es, En2 n e (v e)) : Row2 (seqD c ds) n (seqD b es) (es.all v) := by
  have e0 : ∀ j : Sl, eCall 1 F_is_list (aCons (eV 2) aNil) [.fz (seqD c ds), .fz (.int n), .fz (seqD b es), j] = some (.v (.fz (.bl true)) [.fz (seqD c ds), .fz (.int n), .fz (seqD b es), j]) := fun j => by
    cases b <;> exact call1 (a := .fz (seqD _ es)) rfl rfl
  have l1 : e1n oLen 2 [.fz (seqD c ds), .fz (.int n), .fz (seqD b es), .un] = some (.v (.fz (.int es.length)) [.fz (seqD c ds), .fz (.int n), .fz (seqD b es), .un]) := by cases b <;> rfl
  have l2 : e1n oLen 0 [.fz (seqD c ds), .fz (.int n), .fz (seqD b es), .un] = some (.v (.fz (.int ds.length)) [.fz (seqD c ds), .fz (.int n), .fz (seqD b es), .un]) := by cases c <;> rfl
  have q : oEq (.int es.length) (.int ds.length) = some (.fz (.bl true)) := by
    unfold oEq
    rw [eqI, hl, decide_eq_true rfl]
    rfl
  have e1' := e2_run (op := oEq) (.inl rfl) (.inl rfl) l1 l2 q
  have hp := lc_pure (g := gN 3) (t := bTrue) (e := eCall 2 F_is_entry (aCons (eV 1) (aCons (eV 3) aNil))) (vs := [3]) (B := [.fz (seqD c ds), .fz (.int n), .fz (seqD b es), .un]) (E := fun d => [.fz (seqD c ds), .fz (.int n), .fz (seqD b es), .fz d]) (p := fun _ => true) (f := fun d => .bl (v d)) es [] (fun d _ => rfl) (fun d _ => rfl)
    (fun d hd _ => call2n (a := .fz (.int n)) (b := .fz d) rfl (hv d hd)) (fun d _ => rfl) (by simp; omega)
  have el : eLc (iSeq (eV 2)) (gN 3) (bTrue) (eCall 2 F_is_entry (aCons (eV 1) (aCons (eV 3) (aNil)))) [3] [.fz (seqD c ds), .fz (.int n), .fz (seqD b es), .un] = some (.v (.ow (.lst (es.map fun e => D.bl (v e)))) [.fz (seqD c ds), .fz (.int n), .fz (seqD b es), .un]) := by
    unfold eLc
    rw [show iSeq (eV 2) [.fz (seqD c ds), .fz (.int n), .fz (seqD b es), .un] = some (.v es [.fz (seqD c ds), .fz (.int n), .fz (seqD b es), .un]) from by cases b <;> rfl]
    show (match lcL (gN 3) bTrue (eCall 2 F_is_entry (aCons (eV 1) (aCons (eV 3) aNil))) [3] es [.fz (seqD c ds), .fz (.int n), .fz (seqD b es), .un] [] with
      | some (ys, ε2) => some (R.v (Sl.ow (D.lst ys)) (backE [.fz (seqD c ds), .fz (.int n), .fz (seqD b es), .un] ε2 [3]))
      | none => none) = _
    rw [hp, List.nil_append, List.filter_eq_self.mpr (by simp)]
    rfl
  have ea : e1 oAll (eLc (iSeq (eV 2)) (gN 3) (bTrue) (eCall 2 F_is_entry (aCons (eV 1) (aCons (eV 3) (aNil)))) [3]) [.fz (seqD c ds), .fz (.int n), .fz (seqD b es), .un] = some (.v (.fz (.bl (es.all v))) [.fz (seqD c ds), .fz (.int n), .fz (seqD b es), .un]) := by
    unfold e1
    rw [el]
    simp only [bf_ow]
    have : oAll (.lst (es.map fun e => D.bl (v e))) = some (.fz (.bl (es.all v))) := by simp [oAll, bools_map]
    rw [this]
    rfl
  exact run_rt (n := 4) (f := b_is_row_0) (ss := [.fz (seqD c ds), .fz (.int n), .fz (seqD b es)]) (ret_run (and_yes (e0 .un) (and_yes e1' ea)))
theorem row_len {b c : Bool} {ds es : List D} {n : Int} (hl : es.length ≠ ds.length) : Row2 (seqD c ds) n (seqD b es) false := by
  have e0 : ∀ j : Sl, eCall 1 F_is_list (aCons (eV 2) aNil) [.fz (seqD c ds), .fz (.int n), .fz (seqD b es), j] = some (.v (.fz (.bl true)) [.fz (seqD c ds), .fz (.int n), .fz (seqD b es), j]) := fun j => by
    cases b <;> exact call1 (a := .fz (seqD _ es)) rfl rfl
  have l1 : e1n oLen 2 [.fz (seqD c ds), .fz (.int n), .fz (seqD b es), .un] = some (.v (.fz (.int es.length)) [.fz (seqD c ds), .fz (.int n), .fz (seqD b es), .un]) := by cases b <;> rfl
  have l2 : e1n oLen 0 [.fz (seqD c ds), .fz (.int n), .fz (seqD b es), .un] = some (.v (.fz (.int ds.length)) [.fz (seqD c ds), .fz (.int n), .fz (seqD b es), .un]) := by cases c <;> rfl
  have q : oEq (.int es.length) (.int ds.length) = some (.fz (.bl false)) := by
    unfold oEq
    rw [eqI, decide_eq_false (by omega)]
    rfl
  have e1' := e2_run (op := oEq) (.inl rfl) (.inl rfl) l1 l2 q
  exact run_rt (n := 4) (f := b_is_row_0) (ss := [.fz (seqD c ds), .fz (.int n), .fz (seqD b es)]) (ret_run (and_yes (e0 .un) (and_no (.inl rfl) e1')))
theorem row_kind {dv d : D} {n : Int} (h : d = .non ∨ (∃ i, d = .int i) ∨ (∃ x, d = .str x) ∨ ∃ k, d = .dct k) : Row2 dv n d false := by
  rcases h with rfl | ⟨_, rfl⟩ | ⟨_, rfl⟩ | ⟨_, rfl⟩ <;> rfl
end Law

namespace Law
open PySem Mi
abbrev bWp : FS := sIf (bnot (bB (eCall 3 F_is_row (aCons (eV 0) (aCons (e1n oLen 1) (aCons (eV 3) (aNil))))))) (sRz "InvalidRows" ["position"] (aCons (eV 2) (aNil))) (sNext)
abbrev gWp : FG := gT 2 (gCons (gN 2) (gCons (gN 3) (gNil)))
section
variable (dv : D) (b : Bool) (rs : List D) (k : Nat)
abbrev pE (dv : D) (b : Bool) (rs : List D) (k : Nat) (r : D) : En := [.fz dv, .fz (seqD b rs), .fz (.int k), .fz r]
theorem wp_t {r : D} {q : Bool} (h : Row2 dv rs.length r q) : bnot (bB (eCall 3 F_is_row (aCons (eV 0) (aCons (e1n oLen 1) (aCons (eV 3) (aNil)))))) (pE dv b rs k r) = some (.v (!q) (pE dv b rs k r)) := by
  have z := call3n (Fd := F_is_row) (fa := aCons (eV 0) (aCons (e1n oLen 1) (aCons (eV 3) aNil))) (ε := pE dv b rs k r) (ε1 := pE dv b rs k r) (a := .fz dv) (b := .fz (.int rs.length)) (c := .fz r) (by cases b <;> rfl) h
  unfold bnot bB
  rw [z]
  rfl
theorem wp_bad {r : D} (h : Row2 dv rs.length r false) : bWp (pE dv b rs k r) = some (.ex "InvalidRows" [("position", .int k)] (pE dv b rs k r)) := by
  unfold bWp sIf
  rw [wp_t dv b rs k h]
  show sRz "InvalidRows" ["position"] (aCons (eV 2) aNil) (pE dv b rs k r) = _
  unfold sRz
  rw [show aCons (eV 2) aNil (pE dv b rs k r) = some (.v [(none, .fz (.int k))] (pE dv b rs k r)) from rfl]
  rfl
theorem wp_next {r : D} (h : Row2 dv rs.length r true) : bWp (pE dv b rs k r) = some (.nx (pE dv b rs k r)) := by
  unfold bWp sIf
  rw [wp_t dv b rs k h]
  rfl
end
theorem wp_loop (dv : D) (b : Bool) (rs : List D) : ∀ (pre : List D) (k : Nat) (tl : List D) (j2 j3 : Sl), (∀ r ∈ pre, Row2 dv rs.length r true) → ∃ i2 i3, forL gWp bWp (enumD k (pre ++ tl)) [.fz dv, .fz (seqD b rs), j2, j3] = forL gWp bWp (enumD (k + pre.length) tl) [.fz dv, .fz (seqD b rs), i2, i3]
  | [], k, tl, j2, j3, _ => ⟨j2, j3, rfl⟩
  | r :: pre, k, tl, j2, j3, h => by
    obtain ⟨i2, i3, e⟩ := wp_loop dv b rs pre (k + 1) tl (.fz (.int k)) (.fz r) fun r' hr => h r' (List.mem_cons_of_mem _ hr)
    refine ⟨i2, i3, ?_⟩
    rw [show enumD k (r :: pre ++ tl) = .tup [.int (k : Nat), r] :: enumD (k + 1) (pre ++ tl) from rfl]
    rw [for_nx (ε1 := pE dv b rs k r) (by simp [gT, gCons, gN, gNil]) (wp_next dv b rs k (h r (List.mem_cons_self ..))), e]
    congr 2
    simp
    omega
theorem wp_1 (dv : D) (b : Bool) (r : D) (rs : List D) (j2 j3 : Sl) : c_want_parts_1 [.fz dv, .fz (seqD b (r :: rs)), j2, j3] = some (.nx [.fz dv, .fz (seqD b (r :: rs)), j2, j3]) := by
  have l : ∀ z : Int, z = (r :: rs).length → oEq (.int z) (.int 0) = some (.fz (.bl false)) := fun z hz => by
    unfold oEq
    rw [eqI, decide_eq_false (by rw [hz]; simp; omega)]
    rfl
  have cl : eCall 1 F_is_list (aCons (eV 1) aNil) [.fz dv, .fz (seqD b (r :: rs)), j2, j3] = some (.v (.fz (.bl true)) [.fz dv, .fz (seqD b (r :: rs)), j2, j3]) := by
    cases b <;> exact call1 (a := .fz (seqD _ (r :: rs))) rfl rfl
  have ln : e1n oLen 1 [.fz dv, .fz (seqD b (r :: rs)), j2, j3] = some (.v (.fz (.int (r :: rs).length)) [.fz dv, .fz (seqD b (r :: rs)), j2, j3]) := by cases b <;> rfl
  have t : (bor (bnot (bB (eCall 1 F_is_list (aCons (eV 1) (aNil))))) (bB (e2 oEq (e1n oLen 1) (eC (.int 0))))) [.fz dv, .fz (seqD b (r :: rs)), j2, j3] = some (.v false [.fz dv, .fz (seqD b (r :: rs)), j2, j3]) := by
    have z := e2_run (op := oEq) (.inl rfl) (.inl rfl) ln (show eC (.int 0) [.fz dv, .fz (seqD b (r :: rs)), j2, j3] = some (.v (.fz (.int 0)) [.fz dv, .fz (seqD b (r :: rs)), j2, j3]) from rfl) (l _ rfl)
    unfold bor bnot bB
    rw [cl]
    simp only [bf_fz, bfR_fz, bfR_ow, wk_str, wk_int, wk_lst, wk_tup, wk_dct, wk_bl, wk_non, wk_ins, bnd_v]
    rw [if_neg (by simp)]
    rw [z]
    rfl
  unfold c_want_parts_1 sIf
  rw [t]
  rfl
theorem wp_2 (dv : D) (b : Bool) (rs : List D) (j2 j3 : Sl) : c_want_parts_2 [.fz dv, .fz (seqD b rs), j2, j3] = forL gWp bWp (enumD 0 rs) [.fz dv, .fz (seqD b rs), j2, j3] := by
  cases b <;> rfl
/-- a def of two parameters whose first step raises -/
theorem want_deeds {dv rv : D} {gs : List (Str × D)} (h : F_want_names_of_deeds [.fz dv] = some (.x "InvalidDeeds" gs [.fz dv])) : F_want_parts [.fz dv, .fz rv] = some (.x "InvalidDeeds" gs [.fz dv, .fz rv]) := by
  have c := call1x (Fd := F_want_names_of_deeds) (fa := aCons (eV 0) aNil) (ε := [.fz dv, .fz rv, .un, .un]) (ε1 := [.fz dv, .fz rv, .un, .un]) (a := .fz dv) rfl h
  have s : b_want_parts_0 ([.fz dv, .fz rv] ++ List.replicate 2 Sl.un) = some (.ex "InvalidDeeds" gs [.fz dv, .fz rv, .un, .un]) := by
    show sSeq (sExpr (eCall 1 F_want_names_of_deeds (aCons (eV 0) aNil))) b_want_parts_1 [.fz dv, .fz rv, .un, .un] = _
    unfold sSeq sExpr
    rw [c]
    rfl
  exact run_ex (n := 4) (f := b_want_parts_0) s
theorem wp_0 {dv rv : D} (h : F_want_names_of_deeds [.fz dv] = some (.v (.fz .non) [.fz dv])) (j2 j3 : Sl) : c_want_parts_0 [.fz dv, .fz rv, j2, j3] = some (.nx [.fz dv, .fz rv, j2, j3]) :=
  expr_run (call1 (a := .fz dv) rfl h)
def noRows : List D := [.non, .int 0, .str "rows", .str "", .dct [], .dct [(.inl 0, .lst [.tup [.int 0, .int 0]])], .lst [], .tup [], .bl true]
theorem want_rows0 {dv rv : D} (h : F_want_names_of_deeds [.fz dv] = some (.v (.fz .non) [.fz dv])) (hr : rv ∈ noRows) : F_want_parts [.fz dv, .fz rv] = some (.x "InvalidRows" [("position", .non)] [.fz dv, .fz rv]) := by
  have k : c_want_parts_1 [.fz dv, .fz rv, .un, .un] = some (.ex "InvalidRows" [("position", .non)] [.fz dv, .fz rv, .un, .un]) := by
    simp only [noRows, List.mem_cons, List.not_mem_nil, or_false] at hr
    rcases hr with rfl | rfl | rfl | rfl | rfl | rfl | rfl | rfl | rfl <;> kernel_rfl
  have s : b_want_parts_0 ([.fz dv, .fz rv] ++ List.replicate 2 Sl.un) = some (.ex "InvalidRows" [("position", .non)] [.fz dv, .fz rv, .un, .un]) := by
    show sSeq c_want_parts_0 (sSeq c_want_parts_1 b_want_parts_2) [.fz dv, .fz rv, .un, .un] = _
    rw [seq_run (wp_0 h .un .un)]
    unfold sSeq
    rw [k]
  exact run_ex (n := 4) (f := b_want_parts_0) s
theorem want_rows {dv : D} {b : Bool} {pre rest : List D} {odd : D} (h : F_want_names_of_deeds [.fz dv] = some (.v (.fz .non) [.fz dv])) (hp : ∀ r ∈ pre, Row2 dv (pre ++ odd :: rest).length r true) (ho : Row2 dv (pre ++ odd :: rest).length odd false) :
    F_want_parts [.fz dv, .fz (seqD b (pre ++ odd :: rest))] = some (.x "InvalidRows" [("position", .int pre.length)] [.fz dv, .fz (seqD b (pre ++ odd :: rest))]) := by
  obtain ⟨i2, i3, e⟩ := wp_loop dv b (pre ++ odd :: rest) pre 0 (odd :: rest) .un .un hp
  have hx : forL gWp bWp (enumD (0 + pre.length) (odd :: rest)) [.fz dv, .fz (seqD b (pre ++ odd :: rest)), i2, i3] = some (.ex "InvalidRows" [("position", .int pre.length)] (pE dv b (pre ++ odd :: rest) pre.length odd)) := by
    rw [Nat.zero_add, show enumD pre.length (odd :: rest) = .tup [.int (pre.length : Nat), odd] :: enumD (pre.length + 1) rest from rfl]
    exact for_ex (ε1 := pE dv b (pre ++ odd :: rest) pre.length odd) (by simp [gT, gCons, gN, gNil]) (wp_bad dv b (pre ++ odd :: rest) pre.length ho)
  obtain ⟨h0, hs, hh⟩ : ∃ h0 hs, pre ++ odd :: rest = h0 :: hs := by
    cases pre with
    | nil => exact ⟨_, _, rfl⟩
    | cons a pre => exact ⟨_, _, rfl⟩
  have s : b_want_parts_0 ([.fz dv, .fz (seqD b (pre ++ odd :: rest))] ++ List.replicate 2 Sl.un) = some (.ex "InvalidRows" [("position", .int pre.length)] (pE dv b (pre ++ odd :: rest) pre.length odd)) := by
    show sSeq c_want_parts_0 (sSeq c_want_parts_1 (sSeq c_want_parts_2 b_want_parts_3)) [.fz dv, .fz (seqD b (pre ++ odd :: rest)), .un, .un] = _
    rw [seq_run (wp_0 h .un .un)]
    have w1 : c_want_parts_1 [.fz dv, .fz (seqD b (pre ++ odd :: rest)), .un, .un] = some (.nx [.fz dv, .fz (seqD b (pre ++ odd :: rest)), .un, .un]) := by rw [hh]; exact wp_1 dv b h0 hs .un .un
    rw [seq_run w1]
    unfold sSeq
    rw [wp_2, e, hx]
  exact run_ex (n := 4) (f := b_want_parts_0) s
theorem want_let {c b : Bool} {ds rs : List D} (h : F_want_names_of_deeds [.fz (seqD c ds)] = some (.v (.fz .non) [.fz (seqD c ds)])) (hd : ds.length ≤ 4) (h0 : rs ≠ []) (h8 : rs.length ≤ 8) (hp : ∀ r ∈ rs, Row2 (seqD c ds) rs.length r true) :
    F_want_parts [.fz (seqD c ds), .fz (seqD b rs)] = some (.v (.fz .non) [.fz (seqD c ds), .fz (seqD b rs)]) := by
  obtain ⟨i2, i3, e⟩ := wp_loop (seqD c ds) b rs rs 0 [] .un .un hp
  rw [List.append_nil] at e
  obtain ⟨r0, rs0, rfl⟩ := List.exists_cons_of_ne_nil h0
  have w1 := wp_1 (seqD c ds) b r0 rs0 .un .un
  have w2 : c_want_parts_2 [.fz (seqD c ds), .fz (seqD b (r0 :: rs0)), .un, .un] = some (.nx [.fz (seqD c ds), .fz (seqD b (r0 :: rs0)), i2, i3]) := by rw [wp_2, e]; rfl
  have few : F_want_few_deeds [.fz (seqD c ds)] = some (.v (.fz .non) [.fz (seqD c ds)]) := by
    have g : ¬ ((4 : Int) < (ds.length : Int)) := by omega
    have s : b_want_few_deeds_0 ([.fz (seqD c ds)] ++ List.replicate 0 Sl.un) = some (.nx [.fz (seqD c ds)]) := by
      cases c <;> simp [b_want_few_deeds_0, c_want_few_deeds_0, sIf, bB, e2, e1n, look, seqD, oLen, eC, oInt, g, sNext]
    exact run_nx (n := 1) (f := b_want_few_deeds_0) s
  have w3 : c_want_parts_3 [.fz (seqD c ds), .fz (seqD b (r0 :: rs0)), i2, i3] = some (.nx [.fz (seqD c ds), .fz (seqD b (r0 :: rs0)), i2, i3]) := expr_run (call1 (a := .fz (seqD c ds)) rfl few)
  have w4 : c_want_parts_4 [.fz (seqD c ds), .fz (seqD b (r0 :: rs0)), i2, i3] = some (.nx [.fz (seqD c ds), .fz (seqD b (r0 :: rs0)), i2, i3]) := by
    have g : ¬ ((8 : Int) < ((r0 :: rs0).length : Int)) := by omega
    have ln : e1n oLen 1 [.fz (seqD c ds), .fz (seqD b (r0 :: rs0)), i2, i3] = some (.v (.fz (.int (r0 :: rs0).length)) [.fz (seqD c ds), .fz (seqD b (r0 :: rs0)), i2, i3]) := by cases b <;> rfl
    have z := e2_run (op := oGt) (.inl rfl) (.inl rfl) ln (show eC (.int 8) [.fz (seqD c ds), .fz (seqD b (r0 :: rs0)), i2, i3] = some (.v (.fz (.int 8)) [.fz (seqD c ds), .fz (seqD b (r0 :: rs0)), i2, i3]) from rfl) (show oGt (.int (r0 :: rs0).length) (.int 8) = some (.fz (.bl false)) from by
      show some (Sl.fz (D.bl (decide ((8 : Int) < ((r0 :: rs0).length : Int))))) = _
      rw [decide_eq_false g])
    unfold c_want_parts_4 sIf bB
    rw [z]
    rfl
  have s : b_want_parts_0 ([.fz (seqD c ds), .fz (seqD b (r0 :: rs0))] ++ List.replicate 2 Sl.un) = some (.nx [.fz (seqD c ds), .fz (seqD b (r0 :: rs0)), i2, i3]) := by
    show sSeq c_want_parts_0 (sSeq c_want_parts_1 (sSeq c_want_parts_2 (sSeq c_want_parts_3 c_want_parts_4))) [.fz (seqD c ds), .fz (seqD b (r0 :: rs0)), .un, .un] = _
    rw [seq_run (wp_0 h .un .un), seq_run w1, seq_run w2, seq_run w3]
    exact w4
  exact run_nx (n := 4) (f := b_want_parts_0) s
end Law

namespace Law
/-! ### going on from a state, as plain lists -/
abbrev Tb := List (List (Nat × Nat))
/-- the entry of a state by a place -/
def st (T : Tb) (s p : Nat) : Nat × Nat := ((T[s]?.getD [])[p]?).getD (0, 0)
/-- one state met -/
def meet (f : List Nat) (x : Nat) : List Nat := if x ∈ f then f else f ++ [x]
/-- all places of a state -/
def inner (T : Tb) (ps : List Nat) (h : Nat) (f : List Nat) : List Nat := ps.foldl (fun f p => meet f (st T h p).2) f
/-- k more states at most -/
def bfs (T : Tb) (ps : List Nat) : Nat → List Nat → Nat → List Nat
  | 0, f, _ => f
  | k + 1, f, a => match f[a]? with
    | none => f
    | some h => bfs T ps k (inner T ps h f) (a + 1)
theorem meet_pre (f : List Nat) (x : Nat) : f <+: meet f x := by
  unfold meet
  split
  · exact List.prefix_refl f
  · exact List.prefix_append f [x]
theorem meet_mem {f : List Nat} {x y : Nat} : y ∈ meet f x ↔ y ∈ f ∨ y = x := by
  unfold meet
  split
  · rename_i h
    exact ⟨.inl, fun z => z.elim id fun e => e ▸ h⟩
  · simp
theorem meet_nd {f : List Nat} {x : Nat} (h : f.Nodup) : (meet f x).Nodup := by
  unfold meet
  split
  · exact h
  · rename_i hx
    rw [List.nodup_append]
    exact ⟨h, by simp, fun a ha b hb => by simp at hb; rw [hb]; exact fun z => hx (z ▸ ha)⟩
theorem fold_pre (T : Tb) (h : Nat) : ∀ (ps f : List Nat), f <+: inner T ps h f
  | [], f => List.prefix_refl f
  | p :: ps, f => (meet_pre f _).trans (fold_pre T h ps (meet f (st T h p).2))
theorem inner_nd (T : Tb) (h : Nat) : ∀ (ps f : List Nat), f.Nodup → (inner T ps h f).Nodup
  | [], f, n => n
  | p :: ps, f, n => inner_nd T h ps (meet f (st T h p).2) (meet_nd n)
theorem inner_mem (T : Tb) (h : Nat) : ∀ (ps f : List Nat) (y : Nat), y ∈ inner T ps h f → y ∈ f ∨ ∃ p ∈ ps, y = (st T h p).2
  | [], f, y, m => .inl m
  | p :: ps, f, y, m => by
    rcases inner_mem T h ps (meet f (st T h p).2) y m with z | ⟨q, hq, e⟩
    · rcases meet_mem.mp z with z | z
      · exact .inl z
      · exact .inr ⟨p, by simp, z⟩
    · exact .inr ⟨q, by simp [hq], e⟩
theorem inner_has (T : Tb) (h : Nat) : ∀ (ps f : List Nat) (p : Nat), p ∈ ps → (st T h p).2 ∈ inner T ps h f
  | q :: ps, f, p, m => by
    rcases List.mem_cons.mp m with rfl | m
    · exact (fold_pre T h ps _).subset (meet_mem.mpr (.inr rfl))
    · exact inner_has T h ps _ p m
theorem bfs_pre (T : Tb) (ps : List Nat) : ∀ (k : Nat) (f : List Nat) (a : Nat), f <+: bfs T ps k f a
  | 0, f, _ => List.prefix_refl f
  | k + 1, f, a => by
    unfold bfs
    cases f[a]? with
    | none => exact List.prefix_refl f
    | some h => exact (fold_pre T h ps f).trans (bfs_pre T ps k _ (a + 1))
theorem bfs_nd (T : Tb) (ps : List Nat) : ∀ (k : Nat) (f : List Nat) (a : Nat), f.Nodup → (bfs T ps k f a).Nodup
  | 0, f, _, n => n
  | k + 1, f, a, n => by
    unfold bfs
    cases f[a]? with
    | none => exact n
    | some h => exact bfs_nd T ps k _ (a + 1) (inner_nd T h ps f n)
/-- states stay below n -/
theorem bfs_lt {T : Tb} {ps : List Nat} {n : Nat} (hT : ∀ s p, s < n → p ∈ ps → (st T s p).2 < n) : ∀ (k : Nat) (f : List Nat) (a : Nat), (∀ x ∈ f, x < n) → ∀ x ∈ bfs T ps k f a, x < n
  | 0, f, _, h => h
  | k + 1, f, a, h => by
    unfold bfs
    cases q : f[a]? with
    | none => exact h
    | some s =>
      refine bfs_lt hT k _ (a + 1) fun x hx => ?_
      rcases inner_mem T s ps f x hx with z | ⟨p, hp, e⟩
      · exact h x z
      · rw [e]; exact hT s p (h s (List.mem_of_getElem? q)) hp
theorem sub_lenN {l : List Nat} : ∀ {xs : List Nat}, l.Nodup → (∀ a ∈ l, a ∈ xs) → l.length ≤ xs.length := by
  induction l with
  | nil => intro xs _ _; simp
  | cons a l ih =>
    intro xs hn hs
    obtain ⟨h1, h2⟩ := List.nodup_cons.mp hn
    have ha : a ∈ xs := hs a (by simp)
    have := ih (xs := xs.erase a) h2 (fun b hb => (List.mem_erase_of_ne (fun (z : b = a) => h1 (by rw [← z]; exact hb))).mpr (hs b (by simp [hb])))
    rw [List.length_erase_of_mem ha] at this
    have : 0 < xs.length := List.length_pos_of_mem ha
    simp only [List.length_cons]
    omega
theorem nodup_lt {n : Nat} {f : List Nat} (hn : f.Nodup) (hl : ∀ x ∈ f, x < n) : f.length ≤ n := by
  have := sub_lenN (xs := List.range n) hn fun x hx => List.mem_range.mpr (hl x hx)
  simpa using this
/-- all that stands before a is gone on from -/
def Clo (T : Tb) (ps f : List Nat) (a : Nat) : Prop := ∀ (i x : Nat), i < a → f[i]? = some x → ∀ p ∈ ps, (st T x p).2 ∈ f
theorem bfs_clo {T : Tb} {ps : List Nat} {n : Nat} (hT : ∀ s p, s < n → p ∈ ps → (st T s p).2 < n) : ∀ (k : Nat) (f : List Nat) (a : Nat), f.Nodup → (∀ x ∈ f, x < n) → a ≤ f.length → n < k + a → Clo T ps f a → ∀ x ∈ bfs T ps k f a, ∀ p ∈ ps, (st T x p).2 ∈ bfs T ps k f a
  | 0, f, a, hn, hl, ha, hk, hc => by
    have := nodup_lt hn hl
    omega
  | k + 1, f, a, hn, hl, ha, hk, hc => by
    unfold bfs
    cases q : f[a]? with
    | none =>
      have : f.length ≤ a := List.getElem?_eq_none_iff.mp q
      show ∀ x ∈ f, ∀ p ∈ ps, (st T x p).2 ∈ f
      intro x hx p hp
      obtain ⟨i, hi, e⟩ := List.mem_iff_getElem.mp hx
      exact hc i x (by omega) (by rw [List.getElem?_eq_getElem hi, e]) p hp
    | some s =>
      have al : a < f.length := (List.getElem?_eq_some_iff.mp q).1
      have pre := fold_pre T s ps f
      refine bfs_clo hT k _ (a + 1) (inner_nd T s ps f hn) (fun x hx => ?_) ?_ (by omega) fun i x hi e p hp => ?_
      · rcases inner_mem T s ps f x hx with z | ⟨p, hp, e⟩
        · exact hl x z
        · rw [e]; exact hT s p (hl s (List.mem_of_getElem? q)) hp
      · have := pre.length_le
        omega
      · have hif : i < f.length := by omega
        have e2 : f[i]? = some x := by
          obtain ⟨t, ht⟩ := pre
          rw [← ht, List.getElem?_append_left hif] at e
          exact e
        by_cases hia : i = a
        · subst hia
          rw [q] at e2
          cases e2
          exact inner_has T s ps f p hp
        · exact pre.subset (hc i x (by omega) e2 p hp)
/-- the states that are come to -/
def met (T : Tb) (ps : List Nat) (s : Nat) : List Nat := bfs T ps 1000 [s] 0
structure MetOk (T : Tb) (ps : List Nat) (n s : Nat) (F : List Nat) : Prop where
  nd : F.Nodup
  lt : ∀ x ∈ F, x < n
  at0 : F[0]? = some s
  clo : ∀ x ∈ F, ∀ p ∈ ps, (st T x p).2 ∈ F
theorem met_ok {T : Tb} {ps : List Nat} {n s : Nat} (hn : n ≤ 900) (hs : s < n) (hT : ∀ s p, s < n → p ∈ ps → (st T s p).2 < n) : MetOk T ps n s (met T ps s) := by
  refine ⟨bfs_nd T ps 1000 _ 0 (by simp), bfs_lt hT 1000 _ 0 (by simpa using hs), ?_, bfs_clo hT 1000 _ 0 (by simp) (by simpa using hs) (by simp) (by omega) (fun i x hi => by omega)⟩
  obtain ⟨t, ht⟩ := bfs_pre T ps 1000 [s] 0
  unfold met
  rw [← ht]
  rfl
/-! ### other numbers -/
def ren (T : Tb) (ps F : List Nat) : Tb := F.map fun s => ps.map fun p => ((st T s p).1, F.idxOf (st T s p).2)
theorem ren_st {T : Tb} {ps F : List Nat} {i q s p : Nat} (h1 : F[i]? = some s) (h2 : ps[q]? = some p) : st (ren T ps F) i q = ((st T s p).1, F.idxOf (st T s p).2) := by
  unfold ren
  simp only [st, List.getElem?_map, h1, h2, Option.map_some, Option.getD_some]
theorem pre_take {f F : List Nat} (h : f <+: F) : f = F.take f.length := List.prefix_iff_eq_take.mp h
theorem meet_sim {F : List Nat} (hn : F.Nodup) {j x : Nat} (hj : j ≤ F.length) (hx : x ∈ F) (hp : meet (F.take j) x <+: F) : meet (List.range j) (F.idxOf x) = List.range (meet (F.take j) x).length := by
  have il : F.idxOf x < F.length := List.idxOf_lt_length_iff.mpr hx
  have iff : x ∈ F.take j ↔ F.idxOf x < j := by
    constructor
    · intro h
      obtain ⟨i, hi, e⟩ := List.mem_iff_getElem.mp h
      have hi2 : i < j := by simp at hi; omega
      have e2 : F[i]'(by omega) = x := by rw [← e]; simp
      have : F.idxOf x = i := by rw [← e2]; exact hn.idxOf_getElem i (by omega)
      omega
    · intro h
      have : F[F.idxOf x] = x := List.getElem_idxOf il
      exact List.mem_iff_getElem.mpr ⟨F.idxOf x, by simp; omega, by simpa using this⟩
  unfold meet at hp ⊢
  by_cases h : x ∈ F.take j
  · rw [if_pos h, if_pos (List.mem_range.mpr (iff.mp h))]
    simp [hj]
  · rw [if_neg h] at hp
    rw [if_neg h, if_neg (fun z => h (iff.mpr (List.mem_range.mp z)))]
    have hl : (F.take j ++ [x]).length = j + 1 := by simp; omega
    have hp2 := pre_take hp
    rw [hl] at hp2
    have jl : j < F.length := by
      have := hp.length_le
      omega
    have e : F[j] = x := by
      have : (F.take j ++ [x])[j]? = some x := by
        rw [List.getElem?_append_right (by simp; omega)]
        simp [Nat.min_eq_left hj]
      rw [hp2, List.getElem?_take_of_lt (by omega), List.getElem?_eq_getElem jl] at this
      exact Option.some.inj this
    have : F.idxOf x = j := by rw [← e]; exact hn.idxOf_getElem j jl
    rw [this, hl, List.range_succ]
theorem inner_sim {T T' : Tb} {F : List Nat} (hn : F.Nodup) {h h' : Nat} : ∀ (l : List (Nat × Nat)) (j : Nat), (∀ z ∈ l, (st T' h' z.2).2 = F.idxOf (st T h z.1).2 ∧ (st T h z.1).2 ∈ F) → j ≤ F.length → inner T (l.map (·.1)) h (F.take j) <+: F →
    inner T' (l.map (·.2)) h' (List.range j) = List.range (inner T (l.map (·.1)) h (F.take j)).length
  | [], j, _, hj, _ => by simp [inner, hj]
  | z :: l, j, hz, hj, hp => by
    obtain ⟨z1, z2⟩ := hz z (by simp)
    have e1 : inner T ((z :: l).map (·.1)) h (F.take j) = inner T (l.map (·.1)) h (meet (F.take j) (st T h z.1).2) := rfl
    have e2 : inner T' ((z :: l).map (·.2)) h' (List.range j) = inner T' (l.map (·.2)) h' (meet (List.range j) (st T' h' z.2).2) := rfl
    rw [e1] at hp
    have p1 : meet (F.take j) (st T h z.1).2 <+: F := (fold_pre T h _ _).trans hp
    rw [e1, e2, z1, meet_sim hn hj z2 p1]
    have t := pre_take p1
    generalize hm : (meet (F.take j) (st T h z.1).2).length = j2 at t
    rw [t] at hp ⊢
    have j2l : j2 ≤ F.length := by rw [← hm]; exact p1.length_le
    exact inner_sim hn l j2 (fun y hy => hz y (by simp [hy])) j2l hp
theorem bfs_sim {T : Tb} {ps F : List Nat} (hn : F.Nodup) (hc : ∀ x ∈ F, ∀ p ∈ ps, (st T x p).2 ∈ F) : ∀ (k j a : Nat), bfs T ps k (F.take j) a = F → j ≤ F.length → bfs (ren T ps F) (List.range ps.length) k (List.range j) a = List.range F.length
  | 0, j, a, h, hj => by
    have h : F.take j = F := h
    have : F.length = j := by rw [← h]; simp; omega
    simp [bfs, this]
  | k + 1, j, a, h, hj => by
    unfold bfs at h ⊢
    by_cases ha : a < j
    · have e1 : (F.take j)[a]? = some (F[a]'(by omega)) := by rw [List.getElem?_take_of_lt ha, List.getElem?_eq_getElem]
      have e2 : (List.range j)[a]? = some a := by simp [ha]
      rw [e1] at h
      rw [e2]
      simp only at h ⊢
      have p1 : inner T ps F[a] (F.take j) <+: F := by
        have := bfs_pre T ps k (inner T ps (F[a]'(by omega)) (F.take j)) (a + 1)
        rwa [h] at this
      have hz : ((ps.zip (List.range ps.length)).map (·.1)) = ps := by simp [List.map_fst_zip]
      have hz2 : ((ps.zip (List.range ps.length)).map (·.2)) = List.range ps.length := by simp [List.map_snd_zip]
      have si := inner_sim (T := T) (T' := ren T ps F) (h := F[a]'(by omega)) (h' := a) hn (ps.zip (List.range ps.length)) j (fun z hz => by
        obtain ⟨p, q⟩ := z
        obtain ⟨i, hi, e⟩ := List.mem_iff_getElem.mp hz
        simp only [List.getElem_zip, Prod.mk.injEq, List.getElem_range] at e
        obtain ⟨e3, e4⟩ := e
        have il : i < ps.length := by simp at hi; omega
        have pe : ps[q]? = some p := by rw [← e4, List.getElem?_eq_getElem il, e3]
        have fe : F[a]? = some (F[a]'(by omega)) := List.getElem?_eq_getElem _
        rw [ren_st fe pe]
        exact ⟨rfl, hc _ (List.getElem_mem _) p (List.mem_of_getElem? pe)⟩) hj (by rw [hz]; exact p1)
      rw [hz, hz2] at si
      rw [si]
      have t := pre_take p1
      generalize hm : (inner T ps (F[a]'(by omega)) (F.take j)).length = j2 at t
      rw [t] at h
      exact bfs_sim hn hc k j2 (a + 1) h (by rw [← hm]; exact p1.length_le)
    · have e1 : (F.take j)[a]? = none := List.getElem?_eq_none_iff.mpr (by simp; omega)
      have e2 : (List.range j)[a]? = none := List.getElem?_eq_none_iff.mpr (by simp; omega)
      rw [e1] at h
      rw [e2]
      simp only at h ⊢
      have : F.length = j := by rw [← h]; simp; omega
      rw [this]
/-- of the renumbered one: all, in sequence -/
theorem met_ren {T : Tb} {ps : List Nat} {n s : Nat} (hn : n ≤ 900) (hs : s < n) (hT : ∀ s p, s < n → p ∈ ps → (st T s p).2 < n) : met (ren T ps (met T ps s)) (List.range ps.length) 0 = List.range (met T ps s).length := by
  have M := met_ok hn hs hT
  have l0 : 0 < (met T ps s).length := (List.getElem?_eq_some_iff.mp M.at0).1
  have t1 : (met T ps s).take 1 = [s] := by
    have := M.at0
    cases h : met T ps s with
    | nil => rw [h] at l0; simp at l0
    | cons x r => rw [h] at this; simp at this; rw [this]; rfl
  exact bfs_sim M.nd M.clo 1000 1 0 (by rw [t1]; rfl) l0
theorem idx_range {k x : Nat} (h : x < k) : (List.range k).idxOf x = x := by
  have := (List.nodup_range (n := k)).idxOf_getElem x (by simpa using h)
  simpa using this
/-- renumbered again: the same -/
theorem ren_ren {T : Tb} {ps F : List Nat} (hn : F.Nodup) (hc : ∀ x ∈ F, ∀ p ∈ ps, (st T x p).2 ∈ F) : ren (ren T ps F) (List.range ps.length) (List.range F.length) = ren T ps F := by
  have e : ren T ps F = (List.range F.length).map fun i => (List.range ps.length).map fun q => st (ren T ps F) i q := by
    refine List.ext_getElem (by simp [ren]) fun i h1 h2 => ?_
    have il : i < F.length := by simpa [ren] using h1
    simp only [List.getElem_map, List.getElem_range]
    refine List.ext_getElem (by simp [ren]) fun q h3 h4 => ?_
    have ql : q < ps.length := by simpa [ren] using h3
    simp only [List.getElem_map, List.getElem_range]
    rw [ren_st (List.getElem?_eq_getElem il) (List.getElem?_eq_getElem ql)]
    simp [ren]
  conv => rhs; rw [e]
  unfold ren
  refine List.map_congr_left fun i hi => List.map_congr_left fun q hq => ?_
  have il := List.mem_range.mp hi
  have ql := List.mem_range.mp hq
  have s1 := ren_st (T := T) (List.getElem?_eq_getElem il) (List.getElem?_eq_getElem ql)
  unfold ren at s1
  rw [s1, idx_range (List.idxOf_lt_length_iff.mpr (hc _ (List.getElem_mem _) _ (List.getElem_mem _)))]
end Law

namespace Law
open PySem Mi
/-! ### comprehensions and loops over typed lists -/
theorem lcT {α : Type} {φ ψ : α → D} {pa : α → Bool} {g : FG} {t : FB} {e : FE} {vs : List Nat} {B : En} {E : α → En} : ∀ (as : List α) (acc : List D), (∀ a ∈ as, g (φ a) B = some (E a)) → (∀ a ∈ as, t (E a) = some (.v (pa a) (E a))) → (∀ a ∈ as, pa a = true → ∃ s, e (E a) = some (.v s (E a)) ∧ (s = .fz (ψ a) ∨ s = .ow (ψ a))) → (∀ a ∈ as, wipeE (E a) vs = B) →
    acc.length + as.length ≤ 100000 → lcL g t e vs (as.map φ) B acc = some (acc ++ (as.filter pa).map ψ, B)
  | [], acc, _, _, _, _, _ => by simp [lcL]
  | a :: as, acc, hg, ht, he, hw, hl => by
    have hl2 : acc.length < sizeLine := by rw [sizeLine_eq]; simp at hl; omega
    have m : a ∈ a :: as := List.mem_cons_self ..
    rw [List.map_cons]
    unfold lcL
    rw [hg a m]
    simp only
    rw [ht a m]
    cases hp : pa a with
    | false =>
      simp only
      rw [hw a m, lcT as acc (fun d h => hg d (List.mem_cons_of_mem _ h)) (fun d h => ht d (List.mem_cons_of_mem _ h)) (fun d h => he d (List.mem_cons_of_mem _ h)) (fun d h => hw d (List.mem_cons_of_mem _ h)) (by simp at hl ⊢; omega)]
      simp [hp]
    | true =>
      simp only
      obtain ⟨s, e1, e2⟩ := he a m hp
      have ih := lcT as (acc ++ [ψ a]) (fun d h => hg d (List.mem_cons_of_mem _ h)) (fun d h => ht d (List.mem_cons_of_mem _ h)) (fun d h => he d (List.mem_cons_of_mem _ h)) (fun d h => hw d (List.mem_cons_of_mem _ h)) (by simp at hl ⊢; omega)
      rw [e1]
      rcases e2 with rfl | rfl <;> (simp only [hl2, if_true]; rw [hw a m, ih]; simp [hp])
theorem elcT {α : Type} (φ ψ : α → D) (pa : α → Bool) (E : α → En) (as : List α) {fi : FI} {g : FG} {t : FB} {e : FE} {vs : List Nat} {A A1 : En} (hf : fi A = some (.v (as.map φ) A1)) (hg : ∀ a ∈ as, g (φ a) (wipeE A1 vs) = some (E a)) (ht : ∀ a ∈ as, t (E a) = some (.v (pa a) (E a)))
    (he : ∀ a ∈ as, pa a = true → ∃ s, e (E a) = some (.v s (E a)) ∧ (s = .fz (ψ a) ∨ s = .ow (ψ a))) (hw : ∀ a ∈ as, wipeE (E a) vs = wipeE A1 vs) (hb : backE A1 (wipeE A1 vs) vs = A1) (hl : as.length ≤ 1000) :
    eLc fi g t e vs A = some (.v (.ow (.lst ((as.filter pa).map ψ))) A1) := by
  unfold eLc
  rw [hf]
  simp only
  rw [lcT (ψ := ψ) (pa := pa) (E := E) as [] hg ht he hw (by simp; omega)]
  simp only [List.nil_append]
  rw [hb]
/-- without a test -/
theorem elcA {α : Type} (φ ψ : α → D) (E : α → En) (as : List α) {fi : FI} {g : FG} {e : FE} {vs : List Nat} {A A1 : En} (hf : fi A = some (.v (as.map φ) A1)) (hg : ∀ a ∈ as, g (φ a) (wipeE A1 vs) = some (E a))
    (he : ∀ a ∈ as, ∃ s, e (E a) = some (.v s (E a)) ∧ (s = .fz (ψ a) ∨ s = .ow (ψ a))) (hw : ∀ a ∈ as, wipeE (E a) vs = wipeE A1 vs) (hb : backE A1 (wipeE A1 vs) vs = A1) (hl : as.length ≤ 1000) :
    eLc fi g bTrue e vs A = some (.v (.ow (.lst (as.map ψ))) A1) := by
  have h := elcT φ ψ (fun _ => true) E as (t := bTrue) hf hg (fun _ _ => rfl) (fun a ha _ => he a ha) hw hb hl
  rwa [List.filter_eq_self.mpr (by simp)] at h
/-- a loop: each turn leads from s to f s a -/
theorem forT {α S : Type} {φ : α → D} {g : FG} {b : FS} {I : S → En → Prop} {f : S → α → S} : ∀ (as : List α) (s : S) (ε : En), (∀ s ε a, a ∈ as → I s ε → ∃ ε1 ε2, g (φ a) ε = some ε1 ∧ b ε1 = some (.nx ε2) ∧ I (f s a) ε2) → I s ε →
    ∃ ε', forL g b (as.map φ) ε = some (.nx ε') ∧ I (as.foldl f s) ε'
  | [], s, ε, _, h => ⟨ε, rfl, h⟩
  | a :: as, s, ε, hs, h => by
    obtain ⟨ε1, ε2, e1, e2, h2⟩ := hs s ε a (List.mem_cons_self ..) h
    obtain ⟨ε', e3, h3⟩ := forT as (f s a) ε2 (fun s ε a ha => hs s ε a (List.mem_cons_of_mem _ ha)) h2
    refine ⟨ε', ?_, h3⟩
    rw [List.map_cons, for_nx e1 e2]
    exact e3
/-- an invariant that knows the place -/
theorem forI {α : Type} {φ : α → D} {g : FG} {b : FS} {I : Nat → En → Prop} (as : List α) (hs : ∀ (k : Nat) ε a, as[k]? = some a → I k ε → ∃ ε1 ε2, g (φ a) ε = some ε1 ∧ b ε1 = some (.nx ε2) ∧ I (k + 1) ε2) (ε : En) (h : I 0 ε) :
    ∃ ε', forL g b (as.map φ) ε = some (.nx ε') ∧ I as.length ε' := by
  have go : ∀ (n k : Nat) (ε : En), as.length - k = n → k ≤ as.length → I k ε → ∃ ε', forL g b ((as.drop k).map φ) ε = some (.nx ε') ∧ I as.length ε' := by
    intro n
    induction n with
    | zero =>
      intro k ε hn hk h
      have : k = as.length := by omega
      subst this
      refine ⟨ε, ?_, h⟩
      rw [List.drop_length]
      rfl
    | succ n ih =>
      intro k ε hn hk h
      have hlt : k < as.length := by omega
      obtain ⟨ε1, ε2, e1, e2, h2⟩ := hs k ε as[k] (List.getElem?_eq_getElem hlt) h
      obtain ⟨ε', e3, h3⟩ := ih (k + 1) ε2 (by omega) hlt h2
      refine ⟨ε', ?_, h3⟩
      rw [List.drop_eq_getElem_cons hlt, List.map_cons, for_nx e1 e2]
      exact e3
  have := go as.length 0 ε (by omega) (by omega) h
  rwa [List.drop_zero] at this
/-! ### calls -/
theorem callF {F : FD} {np : Nat} {fa : FAr} {ε ε1 : En} {s : Sl} {r : List Sl} (ds : List D) (ha : fa ε = some (.v (ds.map fun d => (none, .fz d)) ε1)) (hp : F (ds.map .fz) = some (.v s r)) (hn : ds.length = np := by rfl) : eCall np F fa ε = some (.v s ε1) := by
  subst hn
  unfold eCall
  rw [ha]
  simp only [bnd_v]
  rw [muOk_none]
  simp only
  rw [map2, hp]
  simp only [wb_none]
theorem callFx {F : FD} {np : Nat} {fa : FAr} {ε ε1 : En} {c : Str} {gs : List (Str × D)} {r : List Sl} (ds : List D) (ha : fa ε = some (.v (ds.map fun d => (none, .fz d)) ε1)) (hp : F (ds.map .fz) = some (.x c gs r)) (hn : ds.length = np := by rfl) : eCall np F fa ε = some (.x c gs ε1) := by
  subst hn
  unfold eCall
  rw [ha]
  simp only [bnd_v]
  rw [muOk_none]
  simp only
  rw [map2, hp]
  simp only [wb_none]
theorem recvF {c m : Str} {rv : Bool} {fo : FE} {fa : FAr} {ε ε1 ε2 : En} {so : Sl} {gs : List (Str × D)} {ss : As} {ds : List D} (ho : fo ε = some (.v so ε1)) (hso : so = .fz (.ins c gs) ∨ so = .ow (.ins c gs)) (hl : gs.lookup m = none) (ha : fa ε1 = some (.v ss ε2)) (hd : asD ss = some ds) :
    aRecv c m rv fo fa ε = some (.v ((D.ins c gs :: (if rv then ds.reverse else ds)).map fun d => (none, .fz d)) ε2) := by
  unfold aRecv
  rw [ho]
  rcases hso with rfl | rfl <;> simp only [bf_fz, bf_ow, wk_ins, hl, and_self, if_true, ha, bnd_v, hd, Option.bind_some, List.map_cons]
theorem methF {c m : Str} {np : Nat} {F : FD} {rv : Bool} {fo : FE} {fa : FAr} {ε ε1 ε2 : En} {so s : Sl} {gs : List (Str × D)} {ss : As} {r : List Sl} (ds : List D) (ho : fo ε = some (.v so ε1)) (hso : so = .fz (.ins c gs) ∨ so = .ow (.ins c gs)) (hl : gs.lookup m = none) (ha : fa ε1 = some (.v ss ε2)) (hd : asD ss = some ds)
    (hp : F ((D.ins c gs :: (if rv then ds.reverse else ds)).map .fz) = some (.v s r)) (hn : (D.ins c gs :: (if rv then ds.reverse else ds)).length = np := by rfl) : eMeth c m np F rv fo fa ε = some (.v s ε2) :=
  callF _ (recvF ho hso hl ha hd) hp hn
theorem methFx {c m : Str} {np : Nat} {F : FD} {rv : Bool} {fo : FE} {fa : FAr} {ε ε1 ε2 : En} {so : Sl} {gs : List (Str × D)} {ss : As} {k : Str} {xs : List (Str × D)} {r : List Sl} (ds : List D) (ho : fo ε = some (.v so ε1)) (hso : so = .fz (.ins c gs) ∨ so = .ow (.ins c gs)) (hl : gs.lookup m = none) (ha : fa ε1 = some (.v ss ε2)) (hd : asD ss = some ds)
    (hp : F ((D.ins c gs :: (if rv then ds.reverse else ds)).map .fz) = some (.x k xs r)) (hn : (D.ins c gs :: (if rv then ds.reverse else ds)).length = np := by rfl) : eMeth c m np F rv fo fa ε = some (.x k xs ε2) :=
  callFx _ (recvF ho hso hl ha hd) hp hn
theorem e1_run {op : D → Option Sl} {f : FE} {ε ε1 : En} {x : D} {s r : Sl} (hs : s = .fz x ∨ s = .ow x) (h : f ε = some (.v s ε1)) (ho : op x = some r) (hx : wk x = x := by rfl) : e1 op f ε = some (.v r ε1) := by
  unfold e1
  rcases hs with rfl | rfl <;> rw [h] <;> simp only [bf_fz, bf_ow, hx] <;> rw [ho] <;> rfl
theorem e1R_run {op : D → Option Sl} {f : FE} {ε ε1 : En} {x : D} {s r : Sl} (hs : s = .fz x ∨ s = .ow x) (h : f ε = some (.v s ε1)) (ho : op x = some r) : e1R op f ε = some (.v r ε1) := by
  unfold e1R
  rcases hs with rfl | rfl <;> rw [h] <;> simp only [bfR_fz, bfR_ow] <;> rw [ho] <;> rfl
theorem bB_run {f : FE} {b : Bool} {ε ε1 : En} (h : f ε = some (.v (.fz (.bl b)) ε1)) : bB f ε = some (.v b ε1) := by
  unfold bB
  rw [h]
  rfl
theorem if_yes {t : FB} {f g : FS} {ε ε1 : En} (h : t ε = some (.v true ε1)) : sIf t f g ε = f ε1 := by
  unfold sIf
  rw [h]
theorem if_no {t : FB} {f g : FS} {ε ε1 : En} (h : t ε = some (.v false ε1)) : sIf t f g ε = g ε1 := by
  unfold sIf
  rw [h]
theorem app_run {i : Nat} {f : FE} {ε ε1 : En} {ys xs : List D} {s : Sl} {d : D} (hs : s = .fz d ∨ s = .ow d) (h0 : ε[i]? = some (.ow (.lst ys))) (h : f ε = some (.v s ε1)) (h1 : ε1[i]? = some (.ow (.lst xs))) (hl : xs.length ≤ 100000) : sExpr (eMut mAppend i (aCons f aNil)) ε = some (.nx (ε1.set i (.ow (.lst (xs ++ [d]))))) := by
  have hz : xs.length < sizeLine := by rw [sizeLine_eq]; omega
  unfold sExpr eMut
  rw [h0]
  simp only
  rw [cons_run hs h (show aNil ε1 = some (.v [] ε1) from rfl)]
  simp only [bnd_v]
  rw [h1, show asD [((none : Option Nat), Sl.fz d)] = some [d] from rfl]
  simp only [mAppend, hz, if_true]
  rfl
theorem makeF {c : Str} {np : Nat} {F : FD} {rv : Bool} {fa : FAr} {ε ε1 : En} {ss : As} {d : D} {r : List Sl} (ds : List D) (ha : fa ε = some (.v ss ε1)) (hd : asD ss = some ds) (hp : F (.ow (.ins c []) :: (if rv then ds.reverse else ds).map .fz) = some (.v (.fz .non) (.ow d :: r))) (hn : ds.length + 1 = np := by rfl) :
    eMake c np F rv fa ε = some (.v (.ow d) ε1) := by
  unfold eMake
  rw [ha]
  simp only [bnd_v]
  rw [hd]
  simp only
  rw [if_pos hn, hp]
/-! ### things -/
abbrev entD (e : Nat × Nat) : D := .tup [.int (e.1 : Nat), .int (e.2 : Nat)]
abbrev rowD (r : List (Nat × Nat)) : D := .lst (r.map entD)
abbrev prow (r : List (Nat × Nat)) : D := .ptp (r.map entD)
abbrev nms (xs : List Str) : List D := xs.map D.str
abbrev flds (xs : List Str) (T : Tb) : List (Str × D) := [("own_deeds", .ptp (nms xs)), ("own_rows", .ptp (T.map prow))]
abbrev partsD (xs : List Str) (T : Tb) : D := .ins "Parts" (flds xs T)
abbrev thD (xs : List Str) (T : Tb) : D := .ins "Thing" (flds xs T)
theorem parts_ok {xs : List Str} {T : Tb} (h1 : T.length ≤ 1000) (h2 : ∀ r ∈ T, r.length ≤ 1000) :
    F_Parts___init__ [.ow (.ins "Parts" []), .fz (.lst (nms xs)), .fz (.lst (T.map rowD))] = some (.v (.fz .non) [.ow (partsD xs T), .fz (.lst (nms xs)), .fz (.lst (T.map rowD))]) := by
  have inner : ∀ (s : D) (r : List (Nat × Nat)), r ∈ T → e1R oToPt (eLc (iSeq (eV 5)) (gT 2 (gCons (gN 3) (gCons (gN 4) (gNil)))) (bTrue) (eTup (aCons (eV 3) (aCons (eV 4) (aNil)))) [3, 4]) [.ow s, .fz (.lst (nms xs)), .fz (.lst (T.map rowD)), .un, .un, .fz (rowD r)] = some (.v (.fz (prow r)) [.ow s, .fz (.lst (nms xs)), .fz (.lst (T.map rowD)), .un, .un, .fz (rowD r)]) := fun s r hr =>
    e1R_run (.inr rfl) (elcA entD entD (fun e => [.ow s, .fz (.lst (nms xs)), .fz (.lst (T.map rowD)), .fz (.int (e.1 : Nat)), .fz (.int (e.2 : Nat)), .fz (rowD r)]) r rfl (fun _ _ => rfl) (fun e _ => ⟨_, rfl, .inl rfl⟩) (fun _ _ => rfl) rfl (h2 r hr)) rfl
  have s1 : c_Parts___init___1 [.ow (.ins "Parts" [("own_deeds", .ptp (nms xs))]), .fz (.lst (nms xs)), .fz (.lst (T.map rowD)), .un, .un, .un] = some (.nx [.ow (partsD xs T), .fz (.lst (nms xs)), .fz (.lst (T.map rowD)), .un, .un, .un]) := by
    unfold c_Parts___init___1 sFst
    rw [e1R_run (x := .lst (T.map prow)) (r := .fz (.ptp (T.map prow))) (.inr rfl) (elcA rowD prow (fun r => [.ow (.ins "Parts" [("own_deeds", .ptp (nms xs))]), .fz (.lst (nms xs)), .fz (.lst (T.map rowD)), .un, .un, .fz (rowD r)]) T rfl (fun _ _ => rfl) (fun r hr => ⟨_, inner _ r hr, .inl rfl⟩) (fun _ _ => rfl) rfl h1) rfl]
    rfl
  have s : b_Parts___init___0 ([.ow (.ins "Parts" []), .fz (.lst (nms xs)), .fz (.lst (T.map rowD))] ++ List.replicate 3 Sl.un) = some (.nx [.ow (partsD xs T), .fz (.lst (nms xs)), .fz (.lst (T.map rowD)), .un, .un, .un]) := by
    show sSeq c_Parts___init___0 c_Parts___init___1 [.ow (.ins "Parts" []), .fz (.lst (nms xs)), .fz (.lst (T.map rowD)), .un, .un, .un] = _
    rw [seq_run (show c_Parts___init___0 [.ow (.ins "Parts" []), .fz (.lst (nms xs)), .fz (.lst (T.map rowD)), .un, .un, .un] = some (.nx [.ow (.ins "Parts" [("own_deeds", .ptp (nms xs))]), .fz (.lst (nms xs)), .fz (.lst (T.map rowD)), .un, .un, .un]) from rfl)]
    exact s1
  exact run_nx (n := 6) (f := b_Parts___init___0) s
/-- of Parts -/
theorem init_parts (xs : List Str) (T : Tb) : F_Thing___init__ [.ow (.ins "Thing" []), .fz (partsD xs T), .fz .non] = some (.v (.fz .non) [.ow (thD xs T), .fz (partsD xs T), .fz .non]) := by kernel_rfl
theorem made_ok {xs : List Str} {T : Tb} (h1 : T.length ≤ 1000) (h2 : ∀ r ∈ T, r.length ≤ 1000) : F_made_thing [.fz (.lst (nms xs)), .fz (.lst (T.map rowD))] = some (.v (.ow (thD xs T)) [.fz (.lst (nms xs)), .fz (.lst (T.map rowD))]) := by
  have mk := makeF (c := "Parts") (rv := false) (fa := aCons (eV 0) (aCons (eV 1) (aNil))) (ε := [.fz (.lst (nms xs)), .fz (.lst (T.map rowD))]) (ε1 := [.fz (.lst (nms xs)), .fz (.lst (T.map rowD))]) [.lst (nms xs), .lst (T.map rowD)] rfl rfl (parts_ok h1 h2)
  have s : b_made_thing_0 ([.fz (.lst (nms xs)), .fz (.lst (T.map rowD))] ++ List.replicate 0 Sl.un) = some (.rt (.ow (thD xs T)) [.fz (.lst (nms xs)), .fz (.lst (T.map rowD))]) :=
    ret_run (makeF [partsD xs T, .non] (cons_run (.inr rfl) mk (show aCons (eC .non) aNil [.fz (.lst (nms xs)), .fz (.lst (T.map rowD))] = some (.v [(none, .fz .non)] [.fz (.lst (nms xs)), .fz (.lst (T.map rowD))]) from rfl)) rfl (init_parts xs T))
  exact run_rt (n := 2) (f := b_made_thing_0) s
/-- what may be passed -/
structure Tab (m : Nat) (T : Tb) : Prop where
  len : ∀ r ∈ T, r.length = m
  ent : ∀ r ∈ T, ∀ e ∈ r, e.1 < 10 ∧ e.2 < T.length
theorem ent_ok {n : Nat} {e : Nat × Nat} (h1 : e.1 < 10) (h2 : e.2 < n) : Ent n (entD e) := ⟨_, _, rfl, by omega, by omega, by omega, by omega⟩
theorem rowd_ok {m : Nat} {T : Tb} (h : Tab m T) {r : List (Nat × Nat)} (hr : r ∈ T) : RowD m T.length (rowD r) :=
  ⟨_, rfl, by rw [List.length_map, h.len r hr], fun e he => by
    obtain ⟨x, hx, rfl⟩ := List.mem_map.mp he
    exact ent_ok (h.ent r hr x hx).1 (h.ent r hr x hx).2⟩
theorem want_ok {xs : List Str} {T : Tb} (N : Names xs) (x0 : xs ≠ []) (x4 : xs.length ≤ 4) (t0 : T ≠ []) (t8 : T.length ≤ 8) (h : Tab xs.length T) : F_want_parts [.fz (.lst (nms xs)), .fz (.lst (T.map rowD))] = some (.v (.fz .non) [.fz (.lst (nms xs)), .fz (.lst (T.map rowD))]) := by
  refine want_let (c := true) (b := true) (wn_let true N x0) (by simpa using x4) (by simpa using t0) (by simpa using t8) fun r hr => ?_
  obtain ⟨r0, h0, rfl⟩ := List.mem_map.mp hr
  have z := row_all (b := true) (c := true) (ds := nms xs) (es := r0.map entD) (n := ((T.map rowD).length : Nat)) (v := fun _ => true) (by simp [h.len r0 h0]) (by simp [h.len r0 h0]; omega) (fun e he => by
    obtain ⟨x, hx, rfl⟩ := List.mem_map.mp he
    exact ent_yes (ent_ok (h.ent r0 h0 x hx).1 (by simpa using (h.ent r0 h0 x hx).2)))
  have f : (r0.map entD).all (fun _ => true) = true := by simp
  rw [f] at z
  exact z
abbrev iE (dv rv : D) : En := [.ow (.ins "Thing" []), .fz dv, .fz rv, .un]
theorem init_ok {xs : List Str} {T : Tb} (N : Names xs) (x0 : xs ≠ []) (x4 : xs.length ≤ 4) (t0 : T ≠ []) (t8 : T.length ≤ 8) (h : Tab xs.length T) : F_Thing___init__ [.ow (.ins "Thing" []), .fz (.lst (nms xs)), .fz (.lst (T.map rowD))] = some (.v (.fz .non) [.ow (thD xs T), .fz (.lst (nms xs)), .fz (.lst (T.map rowD))]) := by
  have isP : bB (e1 (oIsT (qCls "Parts")) (eV 1)) (iE (.lst (nms xs)) (.lst (T.map rowD))) = some (.v false (iE (.lst (nms xs)) (.lst (T.map rowD)))) := rfl
  have s0 : c_Thing___init___0 (iE (.lst (nms xs)) (.lst (T.map rowD))) = some (.nx (iE (.lst (nms xs)) (.lst (T.map rowD)))) := by
    unfold c_Thing___init___0 sIf bnot
    rw [isP]
    exact expr_run (callF [.lst (nms xs), .lst (T.map rowD)] rfl (want_ok N x0 x4 t0 t8 h))
  have s1 : c_Thing___init___1 (iE (.lst (nms xs)) (.lst (T.map rowD))) = some (.nx [.ow (.ins "Thing" []), .fz (.lst (nms xs)), .fz (.lst (T.map rowD)), .ow (partsD xs T)]) := by
    have z : eIf (bB (e1 (oIsT (qCls "Parts")) (eV 1))) (eV 1) (eMake "Parts" 3 F_Parts___init__ false (aCons (eV 1) (aCons (eV 2) (aNil)))) (iE (.lst (nms xs)) (.lst (T.map rowD))) = some (.v (.ow (partsD xs T)) (iE (.lst (nms xs)) (.lst (T.map rowD)))) := by
      unfold eIf
      rw [isP]
      simp only [bnd_v, Bool.false_eq_true, if_false]
      exact makeF [.lst (nms xs), .lst (T.map rowD)] rfl rfl (parts_ok (by omega) fun r hr => by rw [h.len r hr]; omega)
    exact set_run (i := 3) z
  have s2 : sSeq c_Thing___init___2 c_Thing___init___3 [.ow (.ins "Thing" []), .fz (.lst (nms xs)), .fz (.lst (T.map rowD)), .ow (partsD xs T)] = some (.nx [.ow (thD xs T), .fz (.lst (nms xs)), .fz (.lst (T.map rowD)), .fz (partsD xs T)]) := by kernel_rfl
  have s : b_Thing___init___0 ([.ow (.ins "Thing" []), .fz (.lst (nms xs)), .fz (.lst (T.map rowD))] ++ List.replicate 1 Sl.un) = some (.nx [.ow (thD xs T), .fz (.lst (nms xs)), .fz (.lst (T.map rowD)), .fz (partsD xs T)]) := by
    show sSeq c_Thing___init___0 (sSeq c_Thing___init___1 (sSeq c_Thing___init___2 c_Thing___init___3)) (iE (.lst (nms xs)) (.lst (T.map rowD))) = _
    rw [seq_run s0, seq_run s1]
    exact s2
  exact run_nx (n := 4) (f := b_Thing___init___0) s
/-- a model's thing -/
abbrev modT (xs : List Str) (T : Tb) : D := .dct [(.inr "deeds", .lst (nms xs)), (.inr "rows", .lst (T.map rowD))]
structure Okm (xs : List Str) (T : Tb) : Prop where
  nm : Names xs
  x0 : xs ≠ []
  x4 : xs.length ≤ 4
  t0 : T ≠ []
  t8 : T.length ≤ 8
  tab : Tab xs.length T
theorem thing_ok {xs : List Str} {T : Tb} (M : Okm xs T) (s0 : Sl) (h0 : s0 = .fz (modT xs T) ∨ s0 = .ow (modT xs T)) : F__law_thing [s0] = some (.v (.ow (thD xs T)) [s0]) := by
  have s : b__law_thing_0 ([s0] ++ List.replicate 0 Sl.un) = some (.rt (.ow (thD xs T)) [s0]) :=
    ret_run (makeF (ss := [(none, .fz (.lst (nms xs))), (none, .fz (.lst (T.map rowD)))]) [.lst (nms xs), .lst (T.map rowD)] (by rcases h0 with rfl | rfl <;> kernel_rfl) rfl (init_ok M.nm M.x0 M.x4 M.t0 M.t8 M.tab))
  exact run_rt (n := 1) (f := b__law_thing_0) s
end Law

namespace Law
open PySem Mi
theorem atI_nat {α : Type} {ds : List α} {k : Nat} {d : α} (h : ds[k]? = some d) : L2.atI ds (k : Int) = some d := by
  have hl : k < ds.length := (List.getElem?_eq_some_iff.mp h).1
  have e : ds[k] = d := (List.getElem?_eq_some_iff.mp h).2
  simp [L2.atI, L2.ixN, hl, e]
theorem st_at {m : Nat} {T : Tb} (h : Tab m T) {s p : Nat} (hs : s < T.length) (hp : p < m) : ∃ r, T[s]? = some r ∧ r ∈ T ∧ r[p]? = some (st T s p) ∧ (st T s p).1 < 10 ∧ (st T s p).2 < T.length := by
  have hr : T[s] ∈ T := List.getElem_mem hs
  have hl := h.len _ hr
  have e : st T s p = T[s][p]'(by omega) := by simp [st, hs, show p < T[s].length by omega]
  refine ⟨T[s], List.getElem?_eq_getElem hs, hr, ?_, ?_⟩
  · rw [e]; exact List.getElem?_eq_getElem _
  · rw [e]; exact h.ent _ hr _ (List.getElem_mem _)
theorem step_ok {xs : List Str} {m : Nat} {T : Tb} (h : Tab m T) {s p : Nat} (hs : s < T.length) (hp : p < m) : F_step_at [.fz (thD xs T), .fz (.int (s : Nat)), .fz (.int (p : Nat))] = some (.v (.fz (entD (st T s p))) [.fz (thD xs T), .fz (.int (s : Nat)), .fz (.int (p : Nat))]) := by
  obtain ⟨r, k1, _, k2, _⟩ := st_at h hs hp
  have a1 : L2.atI (T.map prow) (s : Int) = some (prow r) := atI_nat (by rw [List.getElem?_map, k1]; rfl)
  have a2 : L2.atI (r.map entD) (p : Int) = some (entD (st T s p)) := atI_nat (by rw [List.getElem?_map, k2]; rfl)
  have z : b_step_at_0 ([.fz (thD xs T), .fz (.int (s : Nat)), .fz (.int (p : Nat))] ++ List.replicate 0 Sl.un) = some (.rt (.fz (entD (st T s p))) [.fz (thD xs T), .fz (.int (s : Nat)), .fz (.int (p : Nat))]) := by
    show c_step_at_0 [.fz (thD xs T), .fz (.int (s : Nat)), .fz (.int (p : Nat))] = _
    refine ret_run ?_
    unfold e2
    have q0 : e1 (oFld csI "own_rows") (eV 0) [.fz (thD xs T), .fz (.int (s : Nat)), .fz (.int (p : Nat))] = some (.v (.fz (.ptp (T.map prow))) [.fz (thD xs T), .fz (.int (s : Nat)), .fz (.int (p : Nat))]) := by kernel_rfl
    rw [q0]
    simp only [bf_fz, wk_ptp]
    show bf (bf (some (R.v (Sl.fz (D.int (s : Nat))) _)) _) _ = _
    simp only [bf_fz, wk_int, oIx, ixD, a1, Option.map_some, Mi.ret, wk_ptp]
    show bf (some (R.v (Sl.fz (D.int (p : Nat))) _)) _ = _
    simp only [bf_fz, wk_int, a2, Option.map_some, Mi.ret]
  exact run_rt (n := 3) (f := b_step_at_0) z
theorem isst_ok {xs : List Str} {T : Tb} (i : Int) : F_is_state [.fz (thD xs T), .fz (.int i)] = some (.v (.fz (.bl (decide (0 ≤ i) && decide (i < T.length)))) [.fz (thD xs T), .fz (.int i)]) := by
  have z : b_is_state_0 ([.fz (thD xs T), .fz (.int i)] ++ List.replicate 0 Sl.un) = some (.rt (.fz (.bl (decide (0 ≤ i) && decide (i < T.length)))) [.fz (thD xs T), .fz (.int i)]) := by
    refine ret_run (callF (r := [.fz (.int i), .fz (.int (T.length : Nat))]) [.int i, .int (T.length : Nat)] ?_ ?_)
    · have l : ((T.map prow).length : Int) = (T.length : Nat) := by simp
      show aCons (eV 1) (aCons (e1 oLen (e1 (oFld csI "own_rows") (eV 0))) (aNil)) [.fz (thD xs T), .fz (.int i)] = some (R.v [(none, Sl.fz (.int i)), (none, Sl.fz (.int (T.length : Nat)))] [.fz (thD xs T), .fz (.int i)])
      rw [← l]
      kernel_rfl
    · exact bel_int i (T.length : Nat)
  exact run_rt (n := 2) (f := b_is_state_0) z
theorem isdd_ok {xs : List Str} {T : Tb} (u : Str) : F_is_deed [.fz (thD xs T), .fz (.str u)] = some (.v (.fz (.bl (decide (u ∈ xs)))) [.fz (thD xs T), .fz (.str u)]) := by
  have z : b_is_deed_0 ([.fz (thD xs T), .fz (.str u)] ++ List.replicate 0 Sl.un) = some (.rt (.fz (.bl (decide (u ∈ xs)))) [.fz (thD xs T), .fz (.str u)]) := by
    refine ret_run ?_
    have q1 : e1 (oIsT qStr) (eV 1) [.fz (thD xs T), .fz (.str u)] = some (.v (.fz (.bl true)) [.fz (thD xs T), .fz (.str u)]) := rfl
    refine and_yes q1 ?_
    have q0 : e1 (oFld csI "own_deeds") (eV 0) [.fz (thD xs T), .fz (.str u)] = some (.v (.fz (.ptp (nms xs))) [.fz (thD xs T), .fz (.str u)]) := by kernel_rfl
    unfold e2
    show bf (some (R.v (Sl.fz (D.str u)) _)) _ = _
    simp only [bf_fz, wk_str]
    rw [q0]
    simp only [bf_fz, wk_ptp, oIn, inD_tup, Option.map_some, Mi.ret]
  exact run_rt (n := 2) (f := b_is_deed_0) z
theorem wants_ok {xs : List Str} {T : Tb} {s : Nat} (hs : s < T.length) : F_want_state [.fz (thD xs T), .fz (.int (s : Nat))] = some (.v (.fz .non) [.fz (thD xs T), .fz (.int (s : Nat))]) := by
  have q := isst_ok (xs := xs) (T := T) (s : Nat)
  have e : (decide (0 ≤ ((s : Nat) : Int)) && decide (((s : Nat) : Int) < T.length)) = true := by simp; omega
  rw [e] at q
  have z : b_want_state_0 ([.fz (thD xs T), .fz (.int (s : Nat))] ++ List.replicate 0 Sl.un) = some (.nx [.fz (thD xs T), .fz (.int (s : Nat))]) := by
    refine (if_no (ε1 := [.fz (thD xs T), .fz (.int (s : Nat))]) ?_).trans rfl
    unfold bnot
    rw [bB_run (callF [thD xs T, .int (s : Nat)] rfl q)]
    rfl
  exact run_nx (n := 2) (f := b_want_state_0) z
theorem wantd_ok {xs : List Str} {T : Tb} {u : Str} (hu : u ∈ xs) : F_want_deed [.fz (thD xs T), .fz (.str u)] = some (.v (.fz .non) [.fz (thD xs T), .fz (.str u)]) := by
  have q := isdd_ok (xs := xs) (T := T) u
  rw [decide_eq_true hu] at q
  have z : b_want_deed_0 ([.fz (thD xs T), .fz (.str u)] ++ List.replicate 0 Sl.un) = some (.nx [.fz (thD xs T), .fz (.str u)]) := by
    refine (if_no (ε1 := [.fz (thD xs T), .fz (.str u)]) ?_).trans rfl
    unfold bnot
    rw [bB_run (callF [thD xs T, .str u] rfl q)]
    rfl
  exact run_nx (n := 2) (f := b_want_deed_0) z
theorem wantd_no {xs : List Str} {T : Tb} {u : Str} (hu : u ∉ xs) : F_want_deed [.fz (thD xs T), .fz (.str u)] = some (.x "InvalidDeed" [("value", .str u)] [.fz (thD xs T), .fz (.str u)]) := by
  have q := isdd_ok (xs := xs) (T := T) u
  rw [decide_eq_false hu] at q
  have z : b_want_deed_0 ([.fz (thD xs T), .fz (.str u)] ++ List.replicate 0 Sl.un) = some (.ex "InvalidDeed" [("value", .str u)] [.fz (thD xs T), .fz (.str u)]) := by
    refine (if_yes (ε1 := [.fz (thD xs T), .fz (.str u)]) ?_).trans rfl
    unfold bnot
    rw [bB_run (callF [thD xs T, .str u] rfl q)]
    rfl
  exact run_ex (n := 2) (f := b_want_deed_0) z
theorem idxS_of (z : Str) : ∀ (ys : List Str) (n : Nat), z ∈ ys → idxS z ys n = some (n + ys.idxOf z)
  | [], n, h => by cases h
  | y :: ys, n, h => by
    unfold idxS
    by_cases e : y = z
    · subst e; simp
    · rw [if_neg e]
      have h2 : z ∈ ys := by
        rcases List.mem_cons.mp h with h | h
        · exact absurd h.symm e
        · exact h
      rw [idxS_of z ys (n + 1) h2, List.idxOf_cons]
      have : (y == z) = false := by simpa using e
      simp [this]
      omega
theorem txts_nms : ∀ xs : List Str, txts (nms xs) = some xs
  | [] => rfl
  | x :: xs => by
    have := txts_nms xs
    simp only [nms, List.map_cons, txts] at this ⊢
    rw [this]
    rfl
theorem place_ok {xs : List Str} {T : Tb} {u : Str} (hu : u ∈ xs) : F_place_of [.fz (thD xs T), .fz (.str u)] = some (.v (.fz (.int (xs.idxOf u : Nat))) [.fz (thD xs T), .fz (.str u)]) := by
  have z : b_place_of_0 ([.fz (thD xs T), .fz (.str u)] ++ List.replicate 0 Sl.un) = some (.rt (.fz (.int (xs.idxOf u : Nat))) [.fz (thD xs T), .fz (.str u)]) := by
    refine ret_run ?_
    have q0 : e1 (oFld csI "own_deeds") (eV 0) [.fz (thD xs T), .fz (.str u)] = some (.v (.fz (.ptp (nms xs))) [.fz (thD xs T), .fz (.str u)]) := by kernel_rfl
    unfold ePix
    show bfR (e1 (oFld csI "own_deeds") (eV 0) [.fz (thD xs T), .fz (.str u)]) _ = _
    rw [q0]
    simp only [bfR_fz]
    show bf (some (R.v (Sl.fz (D.str u)) _)) _ = _
    simp only [bf_fz, wk_str, txts_nms, idxS_of u xs 0 hu, Nat.zero_add]
  exact run_rt (n := 2) (f := b_place_of_0) z
end Law

namespace Law
open PySem Mi
abbrev nbs (ns : List Nat) : List D := ns.map fun n => D.int (n : Nat)
theorem toVs_ints : ∀ ns : List Nat, toVs (nbs ns) = some (ns.map fun n => L2.V.int (n : Nat))
  | [] => rfl
  | n :: ns => by
    have := toVs_ints ns
    simp only [nbs, List.map_cons, toVs, toV] at this ⊢
    rw [this]
    rfl
theorem inV_int (u : Nat) : ∀ ns : List Nat, L2.inV (.int (u : Nat)) (ns.map fun n => L2.V.int (n : Nat)) = decide (u ∈ ns)
  | [] => by simp [L2.inV]
  | x :: ns => by
    have ih := inV_int u ns
    have e : L2.inV (.int (u : Nat)) ((x :: ns).map fun n => L2.V.int (n : Nat)) = (L2.eqV (.int (x : Nat)) (.int (u : Nat)) || L2.inV (.int (u : Nat)) (ns.map fun n => L2.V.int (n : Nat))) := by
      simp only [L2.inV, List.map_cons, List.any_cons]
    rw [e, ih]
    by_cases h : x = u
    · subst h; simp [L2.eqV]
    · have h' : ¬ u = x := fun z => h z.symm
      have h2 : ¬ ((x : Nat) : Int) = (u : Nat) := by omega
      simp [L2.eqV, h2, h']
theorem nin_ints (u : Nat) (ns : List Nat) : oNin (.int (u : Nat)) (.lst (nbs ns)) = some (.fz (.bl (!decide (u ∈ ns)))) := by
  have h : inD (.int (u : Nat)) (.lst (nbs ns)) = some (decide (u ∈ ns)) := by
    show (toV (.int (u : Nat))).bind (fun v => (toVs (nbs ns)).map fun vs => L2.inV v vs) = _
    rw [toVs_ints]
    simp [toV, inV_int]
  unfold oNin
  rw [h]
  rfl
theorem ints_at {ns : List Nat} {k x : Nat} (h : ns[k]? = some x) : L2.atI (nbs ns) (k : Int) = some (.int (x : Nat)) := atI_nat (by rw [List.getElem?_map, h]; rfl)
/-! ### states_met -/
abbrev mE (th : D) (s : D) (ps f : List Nat) (a : Nat) (j5 j6 : Sl) : En := [.fz th, .fz s, .fz (.lst (nbs ps)), .ow (.lst (nbs f)), .fz (.int (a : Nat)), j5, j6]
/-- one place: L gives the next state -/
theorem one_place {th s : D} {ps f : List Nat} {a x : Nat} {j5 j6 : Sl} {L : FE} (hL : L (mE th s ps f a j5 j6) = some (.v (.fz (.int (x : Nat))) (mE th s ps f a j5 j6))) (hf : f.length ≤ 1000) :
    ∃ j6', (sSeq (sSet 6 L) (sIf (bB (e2m oNin (eV 6) 3)) (sExpr (eMut mAppend 3 (aCons (eV 6) (aNil)))) (sNext))) (mE th s ps f a j5 j6) = some (.nx (mE th s ps (meet f x) a j5 j6')) := by
  refine ⟨.fz (.int (x : Nat)), ?_⟩
  rw [seq_run (set_run (i := 6) hL)]
  show sIf _ _ _ (mE th s ps f a j5 (.fz (.int (x : Nat)))) = _
  have t : bB (e2m oNin (eV 6) 3) (mE th s ps f a j5 (.fz (.int (x : Nat)))) = some (.v (!decide (x ∈ f)) (mE th s ps f a j5 (.fz (.int (x : Nat))))) := by
    refine bB_run ?_
    unfold e2m
    show bf (some (R.v (Sl.fz (D.int (x : Nat))) _)) _ = _
    simp only [bf_fz, wk_int]
    show Mi.ret (oNin (.int (x : Nat)) (.lst (nbs f))) _ = _
    rw [nin_ints]
    rfl
  unfold meet
  by_cases h : x ∈ f
  · rw [decide_eq_true h] at t
    rw [if_no t, if_pos h]
    rfl
  · rw [decide_eq_false h] at t
    rw [if_yes t, if_neg h]
    have z := app_run (i := 3) (f := eV 6) (ε := mE th s ps f a j5 (.fz (.int (x : Nat)))) (ε1 := mE th s ps f a j5 (.fz (.int (x : Nat)))) (ys := nbs f) (xs := nbs f) (d := .int (x : Nat)) (.inl rfl) rfl rfl rfl (by simp; omega)
    rw [z]
    simp [nbs]
/-- the loop, whoever tells the next state: B the whole body -/
theorem while_met {th s : D} {T : Tb} {ps : List Nat} {n : Nat} {L inc : FS} {NX : FE} (hn : n ≤ 900) (hT : ∀ s p, s < n → p ∈ ps → (st T s p).2 < n)
    (hNX : ∀ (f : List Nat) (a h p : Nat) (j6 : Sl), f[a]? = some h → h < n → p ∈ ps → NX (mE th s ps f a (.fz (.int (p : Nat))) j6) = some (.v (.fz (.int ((st T h p).2 : Nat))) (mE th s ps f a (.fz (.int (p : Nat))) j6)))
    (hinc : ∀ (f : List Nat) (a : Nat) (j5 j6 : Sl), inc (mE th s ps f a j5 j6) = some (.nx (mE th s ps f (a + 1) j5 j6))) :
    ∀ (k : Nat) (f : List Nat) (a : Nat) (j5 j6 : Sl), f.Nodup → (∀ x ∈ f, x < n) → a ≤ f.length → n < k + a →
    ∃ a' j5' j6', whileL (bB (e2 oLt (eV 4) (e1n oLen 3))) (sSeq (sFor (iSeq (eV 2)) (gN 5) (sSeq (sSet 6 NX) (sIf (bB (e2m oNin (eV 6) 3)) (sExpr (eMut mAppend 3 (aCons (eV 6) (aNil)))) (sNext)))) inc) (k + 1) (mE th s ps f a j5 j6) = some (.nx (mE th s ps (bfs T ps k f a) a' j5' j6')) := by
  intro k
  induction k with
  | zero =>
    intro f a j5 j6 h1 h2 h3 h4
    have := nodup_lt h1 h2
    omega
  | succ k ih =>
    intro f a j5 j6 h1 h2 h3 h4
    have fl := nodup_lt h1 h2
    have t : bB (e2 oLt (eV 4) (e1n oLen 3)) (mE th s ps f a j5 j6) = some (.v (decide ((a : Int) < (f.length : Nat))) (mE th s ps f a j5 j6)) := by
      refine bB_run ?_
      have l : ((nbs f).length : Int) = (f.length : Nat) := by simp
      rw [← l]
      rfl
    unfold whileL
    rw [t]
    by_cases ha : a < f.length
    · rw [decide_eq_true (by omega : (a : Int) < (f.length : Nat))]
      simp only
      have q : f[a]? = some f[a] := List.getElem?_eq_getElem ha
      have hl : f[a] < n := h2 _ (List.getElem_mem ha)
      have sf : ∃ j5' j6', sFor (iSeq (eV 2)) (gN 5) (sSeq (sSet 6 NX) (sIf (bB (e2m oNin (eV 6) 3)) (sExpr (eMut mAppend 3 (aCons (eV 6) (aNil)))) (sNext))) (mE th s ps f a j5 j6) = some (.nx (mE th s ps (inner T ps f[a] f) a j5' j6')) := by
        have go := forT (φ := fun p : Nat => D.int (p : Nat)) (g := gN 5) (b := (sSeq (sSet 6 NX) (sIf (bB (e2m oNin (eV 6) 3)) (sExpr (eMut mAppend 3 (aCons (eV 6) (aNil)))) (sNext)))) (I := fun (g : List Nat) ε => ∃ j5 j6, ε = mE th s ps g a j5 j6 ∧ f <+: g ∧ g.Nodup ∧ ∀ x ∈ g, x < n) (f := fun g p => meet g (st T f[a] p).2) ps f (mE th s ps f a j5 j6) (fun g ε p hp hI => by
          obtain ⟨k5, k6, rfl, pre, nd, lt⟩ := hI
          have ga : g[a]? = some f[a] := by
            obtain ⟨u, hu⟩ := pre
            rw [← hu, List.getElem?_append_left ha]
            exact q
          have gl := nodup_lt nd lt
          obtain ⟨k6', e⟩ := one_place (hNX g a f[a] p k6 ga hl hp) (by omega)
          refine ⟨_, _, rfl, e, .fz (.int (p : Nat)), k6', rfl, pre.trans (meet_pre g _), meet_nd nd, fun x hx => ?_⟩
          rcases meet_mem.mp hx with z | z
          · exact lt x z
          · rw [z]; exact hT _ p hl hp) ⟨j5, j6, rfl, List.prefix_refl f, h1, h2⟩
        obtain ⟨ε', e, k5, k6, rfl, _⟩ := go
        exact ⟨k5, k6, e⟩
      obtain ⟨j5', j6', e⟩ := sf
      rw [seq_run e, hinc]
      simp only
      have pre := fold_pre T f[a] ps f
      obtain ⟨a', i5, i6, e2⟩ := ih (inner T ps f[a] f) (a + 1) j5' j6' (inner_nd T _ ps f h1) (fun x hx => by
        rcases inner_mem T f[a] ps f x hx with z | ⟨p, hp, e⟩
        · exact h2 x z
        · rw [e]; exact hT _ p hl hp) (by have := pre.length_le; omega) (by omega)
      refine ⟨a', i5, i6, ?_⟩
      rw [e2]
      congr 3
      conv => rhs; unfold bfs
      rw [q]
    · rw [decide_eq_false (by omega : ¬ (a : Int) < (f.length : Nat))]
      refine ⟨a, j5, j6, ?_⟩
      simp only
      congr 3
      conv => rhs; unfold bfs
      rw [List.getElem?_eq_none_iff.mpr (by omega)]
end Law

namespace Law
open PySem Mi
theorem tab_lt {m : Nat} {T : Tb} (h : Tab m T) {ps : List Nat} (hp : ∀ p ∈ ps, p < m) : ∀ s p, s < T.length → p ∈ ps → (st T s p).2 < T.length := fun s p hs hm => by
  obtain ⟨_, _, _, _, _, z⟩ := st_at h hs (hp p hm)
  exact z
theorem ent1 (e : Nat × Nat) : oIx (entD e) (.int 1) = some (.fz (.int (e.2 : Nat))) := rfl
theorem found_at {th s : D} {ps f : List Nat} {a h0 : Nat} {j5 j6 : Sl} (hf : f[a]? = some h0) : e2n oIx 3 (eV 4) (mE th s ps f a j5 j6) = some (.v (.fz (.int (h0 : Nat))) (mE th s ps f a j5 j6)) := by
  have := ints_at hf
  simp [e2n, look, eV, oIx, ixD, this, Mi.ret]
theorem met_prog {xs : List Str} {m : Nat} {T : Tb} (h : Tab m T) (t9 : T.length ≤ 900) {ps : List Nat} (hp : ∀ p ∈ ps, p < m) {s : Nat} (hs : s < T.length) :
    F_states_met [.fz (thD xs T), .fz (.int (s : Nat)), .fz (.lst (nbs ps))] = some (.v (.ow (.lst (nbs (met T ps s)))) [.fz (thD xs T), .fz (.int (s : Nat)), .fz (.lst (nbs ps))]) := by
  obtain ⟨a', j5, j6, e⟩ := while_met (th := thD xs T) (s := .int (s : Nat)) (T := T) (ps := ps) (n := T.length) (L := sNext) (NX := e2 oIx (eCall 3 F_step_at (aCons (eV 0) (aCons (e2n oIx 3 (eV 4)) (aCons (eV 5) (aNil))))) (eC (.int 1))) (inc := sAug (fun i j => i + j) 4 (eC (.int 1))) t9 (tab_lt h hp)
    (fun f a h0 p j6 hf hh hm => by
      have c := callF (F := F_step_at) (np := 3) (fa := aCons (eV 0) (aCons (e2n oIx 3 (eV 4)) (aCons (eV 5) (aNil)))) (ε := mE (thD xs T) (.int (s : Nat)) ps f a (.fz (.int (p : Nat))) j6) [thD xs T, .int (h0 : Nat), .int (p : Nat)] (cons_run (.inl rfl) (show eV 0 (mE (thD xs T) (.int (s : Nat)) ps f a (.fz (.int (p : Nat))) j6) = some (.v (.fz (thD xs T)) (mE (thD xs T) (.int (s : Nat)) ps f a (.fz (.int (p : Nat))) j6)) from rfl) (cons_run (.inl rfl) (found_at hf) rfl)) (step_ok h hh (hp p hm))
      exact e2_run (.inl rfl) (.inl rfl) c rfl (ent1 _))
    (fun f a j5 j6 => rfl) 1000 [s] 0 .un .un (by simp) (by simpa using hs) (by simp) (by omega)
  generalize hF : bfs T ps 1000 [s] 0 = F at e
  have hm : met T ps s = F := hF
  rw [hm]
  clear hm hF
  have w := sWhile_eq e
  have z : b_states_met_0 ([.fz (thD xs T), .fz (.int (s : Nat)), .fz (.lst (nbs ps))] ++ List.replicate 4 Sl.un) = some (.rt (.ow (.lst (nbs F))) [.fz (thD xs T), .fz (.int (s : Nat)), .fz (.lst (nbs ps)), .un, .fz (.int (a' : Nat)), j5, j6]) := by
    show sSeq c_states_met_0 (sSeq c_states_met_1 c_states_met_2) [.fz (thD xs T), .fz (.int (s : Nat)), .fz (.lst (nbs ps)), .un, .un, .un, .un] = _
    rw [seq_run (show c_states_met_0 [.fz (thD xs T), .fz (.int (s : Nat)), .fz (.lst (nbs ps)), .un, .un, .un, .un] = some (.nx (mE (thD xs T) (.int (s : Nat)) ps [s] 0 .un .un)) from rfl)]
    unfold c_states_met_1
    rw [seq_run w]
    rfl
  exact run_rt (n := 7) (f := b_states_met_0) z
/-- the law's -/
theorem met_law {xs : List Str} {m : Nat} {T : Tb} (h : Tab m T) (t9 : T.length ≤ 900) {ps : List Nat} (hp : ∀ p ∈ ps, p < m) {s : Nat} (hs : s < T.length) :
    F__law_met [.fz (modT xs T), .fz (.int (s : Nat)), .fz (.lst (nbs ps))] = some (.v (.ow (.lst (nbs (met T ps s)))) [.fz (modT xs T), .fz (.int (s : Nat)), .fz (.lst (nbs ps))]) := by
  obtain ⟨a', j5, j6, e⟩ := while_met (th := modT xs T) (s := .int (s : Nat)) (T := T) (ps := ps) (n := T.length) (L := sNext) (NX := e2 oIx (e2 oIx (e2 oIx (e2n oIx 0 (eC (.str "rows"))) (e2n oIx 3 (eV 4))) (eV 5)) (eC (.int 1))) (inc := sSet 4 (e2 oAdd (eV 4) (eC (.int 1)))) t9 (tab_lt h hp)
    (fun f a h0 p j6 hf hh hm => by
      obtain ⟨r, r1, _, r2, _⟩ := st_at h hh (hp p hm)
      have k1 : oIx (.lst (T.map rowD)) (.int (h0 : Nat)) = some (.fz (rowD r)) := by
        have := atI_nat (ds := T.map rowD) (k := h0) (d := rowD r) (by rw [List.getElem?_map, r1]; rfl)
        simp [oIx, ixD, this]
      have k2 : oIx (rowD r) (.int (p : Nat)) = some (.fz (entD (st T h0 p))) := by
        have := atI_nat (ds := r.map entD) (k := p) (d := entD (st T h0 p)) (by rw [List.getElem?_map, r2]; rfl)
        simp [oIx, ixD, this]
      have c0 : e2n oIx 0 (eC (.str "rows")) (mE (modT xs T) (.int (s : Nat)) ps f a (.fz (.int (p : Nat))) j6) = some (.v (.fz (.lst (T.map rowD))) (mE (modT xs T) (.int (s : Nat)) ps f a (.fz (.int (p : Nat))) j6)) := rfl
      have c1 := e2_run (op := oIx) (.inl rfl) (.inl rfl) c0 (found_at hf) k1
      have c2 := e2_run (op := oIx) (.inl rfl) (.inl rfl) c1 (show eV 5 (mE (modT xs T) (.int (s : Nat)) ps f a (.fz (.int (p : Nat))) j6) = some (.v (.fz (.int (p : Nat))) (mE (modT xs T) (.int (s : Nat)) ps f a (.fz (.int (p : Nat))) j6)) from rfl) k2
      exact e2_run (.inl rfl) (.inl rfl) c2 rfl (ent1 _))
    (fun f a j5 j6 => rfl) 1000 [s] 0 .un .un (by simp) (by simpa using hs) (by simp) (by omega)
  generalize hF : bfs T ps 1000 [s] 0 = F at e
  have hm : met T ps s = F := hF
  rw [hm]
  clear hm hF
  have w := sWhile_eq e
  have z : b__law_met_0 ([.fz (modT xs T), .fz (.int (s : Nat)), .fz (.lst (nbs ps))] ++ List.replicate 4 Sl.un) = some (.rt (.ow (.lst (nbs F))) [.fz (modT xs T), .fz (.int (s : Nat)), .fz (.lst (nbs ps)), .un, .fz (.int (a' : Nat)), j5, j6]) := by
    show sSeq c__law_met_0 (sSeq c__law_met_1 c__law_met_2) [.fz (modT xs T), .fz (.int (s : Nat)), .fz (.lst (nbs ps)), .un, .un, .un, .un] = _
    rw [seq_run (show c__law_met_0 [.fz (modT xs T), .fz (.int (s : Nat)), .fz (.lst (nbs ps)), .un, .un, .un, .un] = some (.nx (mE (modT xs T) (.int (s : Nat)) ps [s] 0 .un .un)) from rfl)]
    unfold c__law_met_1
    rw [seq_run w]
    rfl
  exact run_rt (n := 7) (f := b__law_met_0) z
end Law

namespace Law
open PySem Mi L2
/-! ### a word runS -/
def runS (T : Tb) (s : Nat) (ps : List Nat) : List Nat × Nat := ps.foldl (fun z p => (z.1 ++ [(st T z.2 p).1], (st T z.2 p).2)) ([], s)
theorem run_snoc (T : Tb) (s : Nat) (ps : List Nat) (p : Nat) : runS T s (ps ++ [p]) = ((runS T s ps).1 ++ [(st T (runS T s ps).2 p).1], (st T (runS T s ps).2 p).2) := by
  unfold runS
  rw [List.foldl_append]
  rfl
theorem snoc_ind {α : Type} {P : List α → Prop} (l : List α) (h0 : P []) (h1 : ∀ l a, P l → P (l ++ [a])) : P l := by
  have : ∀ l : List α, P l.reverse := fun l => by
    induction l with
    | nil => exact h0
    | cons a l ih => rw [List.reverse_cons]; exact h1 _ a ih
  simpa using this l.reverse
theorem run_in {T : Tb} {n : Nat} {s : Nat} (hs : s < n) : ∀ ps : List Nat, (∀ s p, s < n → p ∈ ps → (st T s p).2 < n) → (runS T s ps).2 < n ∧ (runS T s ps).1.length = ps.length := fun ps => by
  refine snoc_ind (P := fun ps => (∀ s p, s < n → p ∈ ps → (st T s p).2 < n) → (runS T s ps).2 < n ∧ (runS T s ps).1.length = ps.length) ps (fun _ => ⟨hs, rfl⟩) fun l a ih h => ?_
  obtain ⟨h1, h2⟩ := ih fun s p h3 h4 => h s p h3 (by simp [h4])
  rw [run_snoc]
  exact ⟨h _ a h1 (by simp), by simp [h2]⟩
theorem take_snoc {α : Type} {as : List α} {k : Nat} {a : α} (h : as[k]? = some a) : as.take (k + 1) = as.take k ++ [a] := by
  rw [List.take_add_one, h]
  rfl
abbrev rE (xs : List Str) (T : Tb) (s : Nat) (ps : List Nat) (h : Nat) (as : List Nat) (j5 j6 : Sl) : En := [.fz (thD xs T), .fz (.int (s : Nat)), .fz (.lst (nbs ps)), .fz (.int (h : Nat)), .ow (.lst (nbs as)), j5, j6]
abbrev runD2 (z : List Nat × Nat) : D := .tup [.lst (nbs z.1), .int (z.2 : Nat)]
theorem asg_run {g : FG} {f : FE} {s : Sl} {d : D} {ε ε1 ε2 : En} (hs : s = .fz d ∨ s = .ow d) (h : f ε = some (.v s ε1)) (hg : g d ε1 = some ε2) : sAsg g f ε = some (.nx ε2) := by
  unfold sAsg
  rcases hs with rfl | rfl <;> rw [h] <;> simp only <;> rw [hg]
theorem runof_ok {xs : List Str} {m : Nat} {T : Tb} (h : Tab m T) {ps : List Nat} (hp : ∀ p ∈ ps, p < m) (pl : ps.length ≤ 900) {s : Nat} (hs : s < T.length) :
    F_run_of [.fz (thD xs T), .fz (.int (s : Nat)), .fz (.lst (nbs ps))] = some (.v (.fz (runD2 (runS T s ps))) [.fz (thD xs T), .fz (.int (s : Nat)), .fz (.lst (nbs ps))]) := by
  have go := forI (φ := fun p : Nat => D.int (p : Nat)) (g := gN 5) (b := (sSeq (sAsg (gT 2 (gCons (gN 6) (gCons (gN 3) (gNil)))) (eCall 3 F_step_at (aCons (eV 0) (aCons (eV 3) (aCons (eV 5) (aNil)))))) (sExpr (eMut mAppend 4 (aCons (eV 6) (aNil)))))) (I := fun k ε => ∃ j5 j6, ε = rE xs T s ps (runS T s (ps.take k)).2 (runS T s (ps.take k)).1 j5 j6) ps (fun k ε p hk hI => by
    obtain ⟨j5, j6, rfl⟩ := hI
    have hm := List.mem_of_getElem? hk
    obtain ⟨r1, r2⟩ := run_in hs (ps.take k) fun s p h1 h2 => tab_lt h hp s p h1 (List.mem_of_mem_take h2)
    rw [take_snoc hk, run_snoc]
    generalize hz : runS T s (ps.take k) = z at r1 r2
    refine ⟨rE xs T s ps z.2 z.1 (.fz (.int (p : Nat))) j6, rE xs T s ps (st T z.2 p).2 (z.1 ++ [(st T z.2 p).1]) (.fz (.int (p : Nat))) (.fz (.int ((st T z.2 p).1 : Nat))), rfl, ?_, _, _, rfl⟩
    have c := callF (F := F_step_at) (np := 3) (fa := aCons (eV 0) (aCons (eV 3) (aCons (eV 5) (aNil)))) (ε := rE xs T s ps z.2 z.1 (.fz (.int (p : Nat))) j6) (ε1 := rE xs T s ps z.2 z.1 (.fz (.int (p : Nat))) j6) [thD xs T, .int (z.2 : Nat), .int (p : Nat)] rfl (step_ok h r1 (hp p hm))
    rw [seq_run (asg_run (ε2 := rE xs T s ps (st T z.2 p).2 z.1 (.fz (.int (p : Nat))) (.fz (.int ((st T z.2 p).1 : Nat)))) (.inl rfl) c rfl)]
    have w := app_run (i := 4) (f := eV 6) (ε := rE xs T s ps (st T z.2 p).2 z.1 (.fz (.int (p : Nat))) (.fz (.int ((st T z.2 p).1 : Nat)))) (ε1 := rE xs T s ps (st T z.2 p).2 z.1 (.fz (.int (p : Nat))) (.fz (.int ((st T z.2 p).1 : Nat)))) (ys := nbs z.1) (xs := nbs z.1) (d := .int ((st T z.2 p).1 : Nat)) (.inl rfl) rfl rfl rfl (by
      have : (ps.take k).length ≤ ps.length := List.length_take_le' ..
      simp [r2]; omega)
    rw [w]
    simp [nbs]) (rE xs T s ps s [] .un .un) ⟨.un, .un, by simp [runS]⟩
  obtain ⟨ε', e, j5, j6, rfl⟩ := go
  rw [List.take_length] at e
  have z : b_run_of_0 ([.fz (thD xs T), .fz (.int (s : Nat)), .fz (.lst (nbs ps))] ++ List.replicate 4 Sl.un) = some (.rt (.fz (runD2 (runS T s ps))) [.fz (thD xs T), .fz (.int (s : Nat)), .fz (.lst (nbs ps)), .fz (.int ((runS T s ps).2 : Nat)), .fz (.lst (nbs (runS T s ps).1)), j5, j6]) := by
    show sSeq c_run_of_0 (sSeq c_run_of_1 c_run_of_2) [.fz (thD xs T), .fz (.int (s : Nat)), .fz (.lst (nbs ps)), .un, .un, .un, .un] = _
    rw [seq_run (show c_run_of_0 [.fz (thD xs T), .fz (.int (s : Nat)), .fz (.lst (nbs ps)), .un, .un, .un, .un] = some (.nx (rE xs T s ps s [] .un .un)) from rfl)]
    rw [seq_run (show c_run_of_1 (rE xs T s ps s [] .un .un) = _ from e)]
    rfl
  exact run_rt (n := 7) (f := b_run_of_0) z
/-! ### numbers anew -/
theorem dcT {α : Type} {φ ψ : α → D} {κ : α → Key} {g : FG} {ek ev : FE} {vs : List Nat} {B : En} {E : α → En} : ∀ (as : List α) (acc : List (Key × D)), (∀ a ∈ as, g (φ a) B = some (E a)) → (∀ a ∈ as, ∃ y, ek (E a) = some (.v (.fz y) (E a)) ∧ keyD y = some (κ a)) → (∀ a ∈ as, ev (E a) = some (.v (.fz (ψ a)) (E a))) → (∀ a ∈ as, wipeE (E a) vs = B) →
    acc.length + as.length ≤ 100000 → (as.map κ).Nodup → (∀ a ∈ as, ∀ z ∈ acc, z.1 ≠ κ a) → dcL g bTrue ek ev vs (as.map φ) B acc = some (acc ++ as.map (fun a => (κ a, ψ a)), B)
  | [], acc, _, _, _, _, _, _, _ => by simp [dcL]
  | a :: as, acc, hg, hk, hv, hw, hl, nd, na => by
    have m : a ∈ a :: as := List.mem_cons_self ..
    have hz : acc.length < sizeLine := by rw [sizeLine_eq]; simp at hl; omega
    obtain ⟨y, e1, e2⟩ := hk a m
    rw [List.map_cons] at nd
    obtain ⟨n1, n2⟩ := List.nodup_cons.mp nd
    have hn : putD acc (κ a) (ψ a) = acc ++ [(κ a, ψ a)] := by
      have : (acc.any fun kv => decide (kv.1 = κ a)) = false := by
        rw [List.any_eq_false]
        intro z hz
        simpa using na a m z hz
      simp [putD, this]
    have ih := dcT as (acc ++ [(κ a, ψ a)]) (fun d h => hg d (List.mem_cons_of_mem _ h)) (fun d h => hk d (List.mem_cons_of_mem _ h)) (fun d h => hv d (List.mem_cons_of_mem _ h)) (fun d h => hw d (List.mem_cons_of_mem _ h)) (by simp at hl ⊢; omega) n2 (fun b hb z hz => by
      rcases List.mem_append.mp hz with h | h
      · exact na b (List.mem_cons_of_mem _ hb) z h
      · rw [List.mem_singleton.mp h]
        exact fun q => n1 (List.mem_map.mpr ⟨b, hb, q.symm⟩))
    rw [List.map_cons]
    unfold dcL
    rw [hg a m]
    simp only [bTrue]
    unfold dcE
    rw [e1]
    simp only
    unfold dcV
    rw [e2]
    simp only
    rw [hv a m]
    simp only [hz, if_true]
    rw [hn, hw a m, ih]
    simp
theorem enum_map {α : Type} (φ : α → D) : ∀ (as : List α) (k : Nat), enumD k (as.map φ) = (as.zipIdx k).map fun z => .tup [.int (z.2 : Nat), φ z.1]
  | [], _ => rfl
  | a :: as, k => by
    rw [List.map_cons, List.zipIdx_cons, List.map_cons, ← enum_map φ as (k + 1)]
    rfl
abbrev numD (F : List Nat) : D := .dct (F.zipIdx.map fun z => (.inl (z.1 : Nat), .int (z.2 : Nat)))
theorem num_find (x : Nat) : ∀ (F : List Nat) (k : Nat), x ∈ F → valD ((F.zipIdx k).map fun z => ((.inl (z.1 : Nat) : Key), D.int (z.2 : Nat))) (.inl (x : Nat)) = some (.int ((k + F.idxOf x : Nat)))
  | [], _, h => by cases h
  | y :: F, k, h => by
    rw [List.zipIdx_cons, List.map_cons]
    by_cases e : y = x
    · subst e
      simp [valD]
    · have h2 : x ∈ F := by
        rcases List.mem_cons.mp h with h | h
        · exact absurd h.symm e
        · exact h
      have ih := num_find x F (k + 1) h2
      have q : ¬ ((.inl ((y : Nat) : Int) : Key) = .inl ((x : Nat) : Int)) := fun z => e (by cases z; rfl)
      unfold valD at ih ⊢
      rw [List.find?_cons]
      simp only [decide_eq_false q]
      rw [ih, List.idxOf_cons]
      have : (y == x) = false := by simpa using e
      simp [this]
      omega
theorem num_ix {F : List Nat} {x : Nat} (h : x ∈ F) : oIx (numD F) (.int (x : Nat)) = some (.fz (.int (F.idxOf x : Nat))) := by
  have := num_find x F 0 h
  rw [Nat.zero_add] at this
  simp only [oIx, ixD, keyD, Option.bind_some]
  rw [this]
  rfl
end Law

namespace Law
open PySem Mi L2
/-- the names at places -/
def sel (xs : List Str) (ps : List Nat) : List Str := ps.map fun p => (xs[p]?).getD ""
structure Sts (T : Tb) (ps : List Nat) (m : Nat) (F : List Nat) : Prop where
  tab : Tab m T
  t9 : T.length ≤ 900
  pl : ps.length ≤ 900
  pm : ∀ p ∈ ps, p < m
  nd : F.Nodup
  lt : ∀ x ∈ F, x < T.length
  clo : ∀ x ∈ F, ∀ p ∈ ps, (st T x p).2 ∈ F
theorem Sts.len {T : Tb} {ps : List Nat} {m : Nat} {F : List Nat} (h : Sts T ps m F) : F.length ≤ T.length := nodup_lt h.nd h.lt
abbrev rowR (T : Tb) (ps F : List Nat) (s : Nat) : List (Nat × Nat) := ps.map fun p => ((st T s p).1, F.idxOf (st T s p).2)
theorem ren_eq (T : Tb) (ps F : List Nat) : ren T ps F = F.map (rowR T ps F) := rfl
theorem key_nodup {F : List Nat} (h : F.Nodup) (k : Nat) : ((F.zipIdx k).map fun z => ((.inl ((z.1 : Nat) : Int)) : Key)).Nodup := by
  induction F generalizing k with
  | nil => simp
  | cons x F ih =>
    obtain ⟨h1, h2⟩ := List.nodup_cons.mp h
    rw [List.zipIdx_cons, List.map_cons, List.nodup_cons]
    refine ⟨fun z => ?_, ih h2 (k + 1)⟩
    obtain ⟨⟨y, i⟩, hy, e⟩ := List.mem_map.mp z
    have : y = x := by
      have := Sum.inl.inj e
      exact Int.ofNat.inj this
    exact h1 (this ▸ (List.mem_zipIdx hy).2.2 ▸ List.getElem_mem _)
abbrev wsE (xs : List Str) (T : Tb) (ps F : List Nat) (s3 j5 s6 j7 : Sl) : En := [.fz (thD xs T), .fz (.lst (nbs ps)), .fz (.lst (nbs F)), s3, .un, j5, s6, j7, .un, .un, .un]
theorem ws_0 {xs : List Str} {T : Tb} {m : Nat} {ps F : List Nat} (h : Sts T ps m F) : c_with_states_0 (wsE xs T ps F .un .un .un .un) = some (.nx (wsE xs T ps F (.ow (numD F)) .un .un .un)) := by
  have l := h.len
  have t9 := h.t9
  have d := dcT (g := gT 2 (gCons (gN 4) (gCons (gN 5) (gNil)))) (ek := eV 5) (ev := eV 4) (vs := [4, 5]) (B := wsE xs T ps F .un .un .un .un) (φ := fun z : Nat × Nat => .tup [.int (z.2 : Nat), .int (z.1 : Nat)]) (ψ := fun z => .int (z.2 : Nat)) (κ := fun z => .inl (z.1 : Nat)) (E := fun z => [.fz (thD xs T), .fz (.lst (nbs ps)), .fz (.lst (nbs F)), .un, .fz (.int (z.2 : Nat)), .fz (.int (z.1 : Nat)), .un, .un, .un, .un, .un]) F.zipIdx [] (fun _ _ => rfl) (fun z _ => ⟨_, rfl, rfl⟩) (fun _ _ => rfl) (fun _ _ => rfl) (by simp; omega) (key_nodup h.nd 0) (by simp)
  refine set_run (i := 3) (ε1 := wsE xs T ps F .un .un .un .un) (s := .ow (numD F)) ?_
  unfold eDc
  have i : iEnumT (eV 2) (wsE xs T ps F .un .un .un .un) = some (.v (enumD 0 (nbs F)) (wsE xs T ps F .un .un .un .un)) := rfl
  rw [i]
  simp only
  rw [enum_map]
  show (match dcL _ _ _ _ _ _ (wsE xs T ps F .un .un .un .un) [] with | some (ys, ε2) => _ | none => _) = _
  rw [d]
  rfl
abbrev bWs : FS := (sSeq (sSet 7 (eLc (iSeq (eV 1)) (gN 8) (bTrue) (eCall 3 F_step_at (aCons (eV 0) (aCons (eV 5) (aCons (eV 8) (aNil))))) [8])) (sExpr (eMut mAppend 6 (aCons (eLc (iSeq (eV 7)) (gT 2 (gCons (gN 9) (gCons (gN 10) (gNil)))) (bTrue) (eTup (aCons (eV 9) (aCons (e2n oIx 3 (eV 10)) (aNil)))) [9, 10]) (aNil)))))
abbrev entsD (T : Tb) (ps : List Nat) (s : Nat) : D := .lst (ps.map fun p => entD (st T s p))
theorem ws_row {xs : List Str} {T : Tb} {m : Nat} {ps F : List Nat} (h : Sts T ps m F) {s : Nat} (hs : s ∈ F) (rs : List D) (hR : rs.length ≤ 900) (j7 : Sl) :
    bWs (wsE xs T ps F (.ow (numD F)) (.fz (.int (s : Nat))) (.ow (.lst rs)) j7) = some (.nx (wsE xs T ps F (.ow (numD F)) (.fz (.int (s : Nat))) (.ow (.lst (rs ++ [rowD (rowR T ps F s)]))) (.fz (entsD T ps s)))) := by
  have e1 := elcA (fun p : Nat => D.int (p : Nat)) (fun p => entD (st T s p)) (fun p => [.fz (thD xs T), .fz (.lst (nbs ps)), .fz (.lst (nbs F)), .ow (numD F), .un, .fz (.int (s : Nat)), .ow (.lst rs), j7, .fz (.int (p : Nat)), .un, .un]) ps (fi := iSeq (eV 1)) (g := gN 8) (e := (eCall 3 F_step_at (aCons (eV 0) (aCons (eV 5) (aCons (eV 8) (aNil)))))) (vs := [8]) (A := wsE xs T ps F (.ow (numD F)) (.fz (.int (s : Nat))) (.ow (.lst rs)) j7) (A1 := wsE xs T ps F (.ow (numD F)) (.fz (.int (s : Nat))) (.ow (.lst rs)) j7) rfl (fun _ _ => rfl) (fun p hp => ⟨_, callF (F := F_step_at) [thD xs T, .int (s : Nat), .int (p : Nat)] rfl (step_ok h.tab (h.lt s hs) (h.pm p hp)), .inl rfl⟩) (fun _ _ => rfl) rfl (by have := h.pl; omega)
  unfold bWs
  rw [seq_run (set_run (i := 7) e1)]
  show sExpr _ (wsE xs T ps F (.ow (numD F)) (.fz (.int (s : Nat))) (.ow (.lst rs)) (.ow (entsD T ps s))) = _
  have e2 := elcA entD (fun e => entD (e.1, F.idxOf e.2)) (fun e => [.fz (thD xs T), .fz (.lst (nbs ps)), .fz (.lst (nbs F)), .ow (numD F), .un, .fz (.int (s : Nat)), .ow (.lst rs), .fz (.lst ((ps.map fun p => st T s p).map entD)), .un, .fz (.int (e.1 : Nat)), .fz (.int (e.2 : Nat))]) (ps.map fun p => st T s p) (fi := iSeq (eV 7)) (g := (gT 2 (gCons (gN 9) (gCons (gN 10) (gNil))))) (e := (eTup (aCons (eV 9) (aCons (e2n oIx 3 (eV 10)) (aNil))))) (vs := [9, 10]) (A := wsE xs T ps F (.ow (numD F)) (.fz (.int (s : Nat))) (.ow (.lst rs)) (.ow (.lst ((ps.map fun p => st T s p).map entD)))) (A1 := wsE xs T ps F (.ow (numD F)) (.fz (.int (s : Nat))) (.ow (.lst rs)) (.fz (.lst ((ps.map fun p => st T s p).map entD)))) rfl (fun _ _ => rfl) (fun e he => ?_) (fun _ _ => rfl) rfl (by have := h.pl; simp; omega)
  · have w : (ps.map fun p => st T s p).map entD = ps.map fun p => entD (st T s p) := by simp
    have w2 : ((ps.map fun p => st T s p).map fun e => entD (e.1, F.idxOf e.2)) = (rowR T ps F s).map entD := by simp [rowR]
    rw [w, w2] at e2
    have q := app_run (i := 6) (.inr rfl) rfl e2 rfl (by omega : rs.length ≤ 100000)
    rw [q]
    rfl
  · obtain ⟨p, hp, rfl⟩ := List.mem_map.mp he
    have n := num_ix (h.clo s hs p hp)
    refine ⟨_, ?_, .inl rfl⟩
    refine tup_run (ss := [(none, .fz (.int ((st T s p).1 : Nat))), (none, .fz (.int (F.idxOf (st T s p).2 : Nat)))]) (cons_run (.inl rfl) rfl (cons_run (.inl rfl) ?_ rfl)) rfl (by simp)
    unfold e2n
    show bf (some (R.v (Sl.fz (D.int ((st T s p).2 : Nat))) _)) _ = _
    simp only [bf_fz, wk_int, look]
    show Mi.ret (oIx (numD F) (.int ((st T s p).2 : Nat))) _ = _
    rw [n]
    rfl
theorem sel_ix {xs : List Str} {p : Nat} (hp : p < xs.length) : oIx (.tup (nms xs)) (.int (p : Nat)) = some (.fz (.str ((xs[p]?).getD ""))) := by
  have := atI_nat (ds := nms xs) (k := p) (d := .str ((xs[p]?).getD "")) (by rw [List.getElem?_map, List.getElem?_eq_getElem hp]; rfl)
  simp [oIx, ixD, this]
theorem sel_ixl {xs : List Str} {p : Nat} (hp : p < xs.length) : oIx (.lst (nms xs)) (.int (p : Nat)) = some (.fz (.str ((xs[p]?).getD ""))) := by
  have := atI_nat (ds := nms xs) (k := p) (d := .str ((xs[p]?).getD "")) (by rw [List.getElem?_map, List.getElem?_eq_getElem hp]; rfl)
  simp [oIx, ixD, this]
theorem with_ok {xs : List Str} {T : Tb} {ps F : List Nat} (h : Sts T ps xs.length F) :
    F_with_states [.fz (thD xs T), .fz (.lst (nbs ps)), .fz (.lst (nbs F))] = some (.v (.ow (thD (sel xs ps) (ren T ps F))) [.fz (thD xs T), .fz (.lst (nbs ps)), .fz (.lst (nbs F))]) := by
  have l := h.len
  have t9 := h.t9
  have go := forI (φ := fun s : Nat => D.int (s : Nat)) (g := gN 5) (b := bWs) (I := fun k ε => ∃ j5 j7, ε = wsE xs T ps F (.ow (numD F)) j5 (.ow (.lst (((F.take k).map (rowR T ps F)).map rowD))) j7) F (fun k ε s hk hI => by
    obtain ⟨j5, j7, rfl⟩ := hI
    have hm := List.mem_of_getElem? hk
    refine ⟨_, _, rfl, ws_row h hm _ (by have : (F.take k).length ≤ F.length := List.length_take_le' ..; rw [List.length_map, List.length_map]; omega) j7, .fz (.int (s : Nat)), .fz (entsD T ps s), ?_⟩
    rw [take_snoc hk]
    simp) (wsE xs T ps F (.ow (numD F)) .un (.ow (.lst [])) .un) ⟨.un, .un, by simp⟩
  obtain ⟨ε', e, j5, j7, rfl⟩ := go
  rw [List.take_length, ← ren_eq] at e
  have z : b_with_states_0 ([.fz (thD xs T), .fz (.lst (nbs ps)), .fz (.lst (nbs F))] ++ List.replicate 8 Sl.un) = some (.rt (.ow (thD (sel xs ps) (ren T ps F))) (wsE xs T ps F (.ow (numD F)) j5 (.fz (.lst ((ren T ps F).map rowD))) j7)) := by
    show sSeq c_with_states_0 (sSeq c_with_states_1 (sSeq c_with_states_2 c_with_states_3)) (wsE xs T ps F .un .un .un .un) = _
    rw [seq_run (ws_0 h)]
    rw [seq_run (show c_with_states_1 (wsE xs T ps F (.ow (numD F)) .un .un .un) = some (.nx (wsE xs T ps F (.ow (numD F)) .un (.ow (.lst [])) .un)) from rfl)]
    rw [seq_run (show c_with_states_2 (wsE xs T ps F (.ow (numD F)) .un (.ow (.lst [])) .un) = _ from e)]
    have e1 := elcA (fun p : Nat => D.int (p : Nat)) (fun p => D.str ((xs[p]?).getD "")) (fun p => [.fz (thD xs T), .fz (.lst (nbs ps)), .fz (.lst (nbs F)), .ow (numD F), .un, j5, .ow (.lst ((ren T ps F).map rowD)), j7, .fz (.int (p : Nat)), .un, .un]) ps (fi := iSeq (eV 1)) (g := gN 8) (e := e2 oIx (e1 (oFld csI "own_deeds") (eV 0)) (eV 8)) (vs := [8]) (A := wsE xs T ps F (.ow (numD F)) j5 (.ow (.lst ((ren T ps F).map rowD))) j7) (A1 := wsE xs T ps F (.ow (numD F)) j5 (.ow (.lst ((ren T ps F).map rowD))) j7) rfl (fun _ _ => rfl) (fun p hp => by
      refine ⟨.fz (.str ((xs[p]?).getD "")), ?_, .inl rfl⟩
      have q0 : e1 (oFld csI "own_deeds") (eV 0) [.fz (thD xs T), .fz (.lst (nbs ps)), .fz (.lst (nbs F)), .ow (numD F), .un, j5, .ow (.lst ((ren T ps F).map rowD)), j7, .fz (.int (p : Nat)), .un, .un] = some (.v (.fz (.ptp (nms xs))) [.fz (thD xs T), .fz (.lst (nbs ps)), .fz (.lst (nbs F)), .ow (numD F), .un, j5, .ow (.lst ((ren T ps F).map rowD)), j7, .fz (.int (p : Nat)), .un, .un]) := rfl
      unfold e2
      rw [q0]
      simp only [bf_fz, wk_ptp]
      show bf (some (R.v (Sl.fz (D.int (p : Nat))) _)) _ = _
      simp only [bf_fz, wk_int]
      rw [sel_ix (h.pm p hp)]
      rfl) (fun _ _ => rfl) rfl (by have := h.pl; omega)
    have w : (ps.map fun p => D.str ((xs[p]?).getD "")) = nms (sel xs ps) := by simp [sel]
    rw [w] at e1
    refine ret_run (callF (F := F_made_thing) [.lst (nms (sel xs ps)), .lst ((ren T ps F).map rowD)] (cons_run (.inr rfl) e1 rfl) (made_ok ?_ ?_))
    · simp [ren]; omega
    · intro r hr
      obtain ⟨x, _, rfl⟩ := List.mem_map.mp hr
      have := h.pl
      simp; omega
  exact run_rt (n := 11) (f := b_with_states_0) z
end Law

namespace Law
open PySem Mi L2
/-- the places of some names -/
def plc (xs us : List Str) : List Nat := (List.range xs.length).filter fun p => decide ((xs[p]?).getD "" ∈ us)
theorem plc_lt {xs us : List Str} : ∀ p ∈ plc xs us, p < xs.length := fun p hp => List.mem_range.mp (List.mem_filter.mp hp).1
theorem plc_len (xs us : List Str) : (plc xs us).length ≤ xs.length := by
  have := List.length_filter_le (fun p : Nat => decide ((((xs[p]?).getD "" : Str)) ∈ us)) (List.range xs.length)
  simpa [plc] using this
theorem plc_nd (xs us : List Str) : (plc xs us).Nodup := List.nodup_range.filter _
abbrev wsF (T : Tb) (ps : List Nat) (s : Nat) : List Nat := met T ps s
theorem sts_met {T : Tb} {ps : List Nat} {m s : Nat} (h : Tab m T) (t9 : T.length ≤ 900) (pl : ps.length ≤ 900) (hp : ∀ p ∈ ps, p < m) (hs : s < T.length) : Sts T ps m (met T ps s) := by
  have M := met_ok (T := T) (ps := ps) (n := T.length) (s := s) t9 hs (tab_lt h hp)
  exact ⟨h, t9, pl, hp, M.nd, M.lt, M.clo⟩
theorem ints_idx (x : Nat) : ∀ (F : List Nat) (k : Nat), x ∈ F → idxV (.int (x : Nat)) (F.map fun n => L2.V.int (n : Nat)) k = some (k + F.idxOf x)
  | [], _, h => by cases h
  | y :: F, k, h => by
    rw [List.map_cons]
    unfold idxV
    by_cases e : y = x
    · subst e
      simp [eqV]
    · have h2 : x ∈ F := by
        rcases List.mem_cons.mp h with h | h
        · exact absurd h.symm e
        · exact h
      have q : ¬ ((y : Nat) : Int) = (x : Nat) := by omega
      have ih := ints_idx x F (k + 1) h2
      have t : (y == x) = false := by simpa using e
      have q2 : eqV (V.int ((y : Nat) : Int)) (V.int ((x : Nat) : Int)) = false := by simp [eqV, q, e]
      rw [q2, if_neg (by simp)]
      have w : (y :: F).idxOf x = F.idxOf x + 1 := by rw [List.idxOf_cons, t]; rfl
      rw [w]
      exact ih.trans (congrArg some (by omega))
abbrev lpE (xs : List Str) (T : Tb) (s : Nat) (us : List Str) (s3 s5 s6 j7 j8 : Sl) : En := [.fz (modT xs T), .fz (.int (s : Nat)), .fz (.lst (nms us)), s3, .un, s5, s6, j7, j8, .un, .un]
theorem deeds_at (xs : List Str) (T : Tb) (r : En) : e2n oIx 0 (eC (.str "deeds")) (.fz (modT xs T) :: r) = some (.v (.fz (.lst (nms xs))) (.fz (modT xs T) :: r)) := rfl
theorem rows_at (xs : List Str) (T : Tb) (r : En) : e2n oIx 0 (eC (.str "rows")) (.fz (modT xs T) :: r) = some (.v (.fz (.lst (T.map rowD))) (.fz (modT xs T) :: r)) := rfl
theorem z_int (l : List Nat) : (l.map fun i => D.int (0 + (i : Nat))) = nbs l := List.map_congr_left fun i _ => by rw [Int.zero_add]
theorem lp_0 {xs : List Str} {T : Tb} {s : Nat} {us : List Str} (x9 : xs.length ≤ 900) : c__law_part_0 (lpE xs T s us .un .un .un .un .un) = some (.nx (lpE xs T s us (.ow (.lst (nbs (plc xs us)))) .un .un .un .un)) := by
  refine set_run (i := 3) (ε1 := lpE xs T s us .un .un .un .un .un) (s := .ow (.lst (nbs (plc xs us)))) ?_
  rw [← z_int]
  refine elcT (fun i : Nat => D.int (0 + (i : Nat))) (fun i => D.int (0 + (i : Nat))) (fun p => decide ((xs[p]?).getD "" ∈ us)) (fun p => [.fz (modT xs T), .fz (.int (s : Nat)), .fz (.lst (nms us)), .un, .fz (.int (0 + (p : Nat))), .un, .un, .un, .un, .un, .un]) (List.range xs.length) ?_ (fun _ _ => rfl) (fun p hp => ?_) (fun p hp _ => ⟨_, rfl, .inl rfl⟩) (fun _ _ => rfl) rfl (by simp; omega)
  · have l : e1 oLen (e2n oIx 0 (eC (.str "deeds"))) (lpE xs T s us .un .un .un .un .un) = some (.v (.fz (.int ((nms xs).length : Nat))) (lpE xs T s us .un .un .un .un .un)) := rfl
    rw [List.length_map] at l
    have := rng_j (by omega) (by omega) l
    rwa [Int.toNat_natCast] at this
  · refine bB_run ?_
    have hp := List.mem_range.mp hp
    have k := e2_run (op := oIx) (.inl rfl) (.inl rfl) (deeds_at xs T [.fz (.int (s : Nat)), .fz (.lst (nms us)), .un, .fz (.int (0 + (p : Nat))), .un, .un, .un, .un, .un, .un]) (show eV 4 [.fz (modT xs T), .fz (.int (s : Nat)), .fz (.lst (nms us)), .un, .fz (.int (0 + (p : Nat))), .un, .un, .un, .un, .un, .un] = some (.v (.fz (.int (p : Nat))) [.fz (modT xs T), .fz (.int (s : Nat)), .fz (.lst (nms us)), .un, .fz (.int (0 + (p : Nat))), .un, .un, .un, .un, .un, .un]) by rw [Int.zero_add]; rfl) (sel_ixl hp)
    unfold e2m
    rw [k]
    simp only [bf_fz, wk_str, look]
    show Mi.ret (oIn (.str ((xs[p]?).getD "")) (.lst (nms us))) _ = _
    unfold oIn
    rw [inD_lst]
    rfl
abbrev bLp : FS := (sSeq (sSet 8 (eLc (iSeq (eV 3)) (gN 4) (bTrue) (e2 oIx (e2 oIx (e2n oIx 0 (eC (.str "rows"))) (eV 7)) (eV 4)) [4])) (sExpr (eMut mAppend 6 (aCons (eLc (iSeq (eV 8)) (gT 2 (gCons (gN 9) (gCons (gN 10) (gNil)))) (bTrue) (eTup (aCons (eV 9) (aCons (eIdx (eV 5) (eV 10)) (aNil)))) [9, 10]) (aNil)))))
theorem row_ix {m : Nat} {T : Tb} (h : Tab m T) {s p : Nat} (hs : s < T.length) (hp : p < m) : ∃ r, oIx (.lst (T.map rowD)) (.int (s : Nat)) = some (.fz (rowD r)) ∧ oIx (rowD r) (.int (p : Nat)) = some (.fz (entD (st T s p))) := by
  obtain ⟨r, r1, _, r2, _⟩ := st_at h hs hp
  refine ⟨r, ?_, ?_⟩
  · have := atI_nat (ds := T.map rowD) (k := s) (d := rowD r) (by rw [List.getElem?_map, r1]; rfl)
    simp [oIx, ixD, this]
  · have := atI_nat (ds := r.map entD) (k := p) (d := entD (st T s p)) (by rw [List.getElem?_map, r2]; rfl)
    simp [oIx, ixD, this]
theorem idx_run {fo fa : FE} {ε ε1 ε2 : En} {F : List Nat} {x : Nat} (ho : fo ε = some (.v (.fz (.lst (nbs F))) ε1)) (ha : fa ε1 = some (.v (.fz (.int (x : Nat))) ε2)) (hx : x ∈ F) : eIdx fo fa ε = some (.v (.fz (.int (F.idxOf x : Nat))) ε2) := by
  unfold eIdx
  rw [ho]
  simp only [bf_fz, wk_lst, lsts]
  rw [ha]
  simp only [bf_fz, wk_int, toVs_ints, toV]
  rw [ints_idx x F 0 hx]
  simp
theorem lp_row {xs : List Str} {T : Tb} {m : Nat} {ps F : List Nat} (h : Sts T ps m F) {s0 s : Nat} {us : List Str} (hs : s ∈ F) (rs : List D) (hR : rs.length ≤ 900) (s3 j8 : Sl) (h3 : s3 = .ow (.lst (nbs ps)) ∨ s3 = .fz (.lst (nbs ps))) :
    bLp (lpE xs T s0 us s3 (.fz (.lst (nbs F))) (.ow (.lst rs)) (.fz (.int (s : Nat))) j8) = some (.nx (lpE xs T s0 us (.fz (.lst (nbs ps))) (.fz (.lst (nbs F))) (.ow (.lst (rs ++ [rowD (rowR T ps F s)]))) (.fz (.int (s : Nat))) (.fz (entsD T ps s)))) := by
  have e1 := elcA (fun p : Nat => D.int (p : Nat)) (fun p => entD (st T s p)) (fun p => [.fz (modT xs T), .fz (.int (s0 : Nat)), .fz (.lst (nms us)), .fz (.lst (nbs ps)), .fz (.int (p : Nat)), .fz (.lst (nbs F)), .ow (.lst rs), .fz (.int (s : Nat)), j8, .un, .un]) ps (fi := iSeq (eV 3)) (g := gN 4) (e := e2 oIx (e2 oIx (e2n oIx 0 (eC (.str "rows"))) (eV 7)) (eV 4)) (vs := [4]) (A := lpE xs T s0 us s3 (.fz (.lst (nbs F))) (.ow (.lst rs)) (.fz (.int (s : Nat))) j8) (A1 := lpE xs T s0 us (.fz (.lst (nbs ps))) (.fz (.lst (nbs F))) (.ow (.lst rs)) (.fz (.int (s : Nat))) j8) (by rcases h3 with rfl | rfl <;> rfl) (fun _ _ => rfl) (fun p hp => by
    obtain ⟨r, k1, k2⟩ := row_ix h.tab (h.lt s hs) (h.pm p hp)
    have c1 := e2_run (op := oIx) (.inl rfl) (.inl rfl) (rows_at xs T [.fz (.int (s0 : Nat)), .fz (.lst (nms us)), .fz (.lst (nbs ps)), .fz (.int (p : Nat)), .fz (.lst (nbs F)), .ow (.lst rs), .fz (.int (s : Nat)), j8, .un, .un]) (show eV 7 [.fz (modT xs T), .fz (.int (s0 : Nat)), .fz (.lst (nms us)), .fz (.lst (nbs ps)), .fz (.int (p : Nat)), .fz (.lst (nbs F)), .ow (.lst rs), .fz (.int (s : Nat)), j8, .un, .un] = some (.v (.fz (.int (s : Nat))) [.fz (modT xs T), .fz (.int (s0 : Nat)), .fz (.lst (nms us)), .fz (.lst (nbs ps)), .fz (.int (p : Nat)), .fz (.lst (nbs F)), .ow (.lst rs), .fz (.int (s : Nat)), j8, .un, .un]) from rfl) k1
    exact ⟨_, e2_run (op := oIx) (.inl rfl) (.inl rfl) c1 rfl k2, .inl rfl⟩) (fun _ _ => rfl) rfl (by have := h.pl; omega)
  unfold bLp
  rw [seq_run (set_run (i := 8) e1)]
  show sExpr _ (lpE xs T s0 us (.fz (.lst (nbs ps))) (.fz (.lst (nbs F))) (.ow (.lst rs)) (.fz (.int (s : Nat))) (.ow (entsD T ps s))) = _
  have e2 := elcA entD (fun e => entD (e.1, F.idxOf e.2)) (fun e => [.fz (modT xs T), .fz (.int (s0 : Nat)), .fz (.lst (nms us)), .fz (.lst (nbs ps)), .un, .fz (.lst (nbs F)), .ow (.lst rs), .fz (.int (s : Nat)), .fz (.lst ((ps.map fun p => st T s p).map entD)), .fz (.int (e.1 : Nat)), .fz (.int (e.2 : Nat))]) (ps.map fun p => st T s p) (fi := iSeq (eV 8)) (g := (gT 2 (gCons (gN 9) (gCons (gN 10) (gNil))))) (e := (eTup (aCons (eV 9) (aCons (eIdx (eV 5) (eV 10)) (aNil))))) (vs := [9, 10]) (A := lpE xs T s0 us (.fz (.lst (nbs ps))) (.fz (.lst (nbs F))) (.ow (.lst rs)) (.fz (.int (s : Nat))) (.ow (.lst ((ps.map fun p => st T s p).map entD)))) (A1 := lpE xs T s0 us (.fz (.lst (nbs ps))) (.fz (.lst (nbs F))) (.ow (.lst rs)) (.fz (.int (s : Nat))) (.fz (.lst ((ps.map fun p => st T s p).map entD)))) rfl (fun _ _ => rfl) (fun e he => ?_) (fun _ _ => rfl) rfl (by have := h.pl; simp; omega)
  · have w : (ps.map fun p => st T s p).map entD = ps.map fun p => entD (st T s p) := by simp
    have w2 : ((ps.map fun p => st T s p).map fun e => entD (e.1, F.idxOf e.2)) = (rowR T ps F s).map entD := by simp [rowR]
    rw [w, w2] at e2
    have q := app_run (i := 6) (.inr rfl) rfl e2 rfl (by omega : rs.length ≤ 100000)
    rw [q]
    rfl
  · obtain ⟨p, hp, rfl⟩ := List.mem_map.mp he
    refine ⟨_, ?_, .inl rfl⟩
    refine tup_run (ss := [(none, .fz (.int ((st T s p).1 : Nat))), (none, .fz (.int (F.idxOf (st T s p).2 : Nat)))]) (cons_run (.inl rfl) rfl (cons_run (.inl rfl) (idx_run rfl rfl (h.clo s hs p hp)) rfl)) rfl (by simp)
theorem lawpart_ok {xs : List Str} {T : Tb} (h : Tab xs.length T) (t9 : T.length ≤ 900) (x9 : xs.length ≤ 900) {s : Nat} (hs : s < T.length) (us : List Str) :
    F__law_part [.fz (modT xs T), .fz (.int (s : Nat)), .fz (.lst (nms us))] = some (.v (.ow (modT (sel xs (plc xs us)) (ren T (plc xs us) (met T (plc xs us) s)))) [.fz (modT xs T), .fz (.int (s : Nat)), .fz (.lst (nms us))]) := by
  have pl : (plc xs us).length ≤ 900 := by have := plc_len xs us; omega
  have S := sts_met (s := s) h t9 pl plc_lt hs
  have ml := met_law (xs := xs) h t9 (ps := plc xs us) plc_lt hs
  generalize hF : met T (plc xs us) s = F at S ml
  have l := S.len
  have go := forI (φ := fun s : Nat => D.int (s : Nat)) (g := gN 7) (b := bLp) (I := fun k ε => ∃ j7 j8, ε = lpE xs T s us (.fz (.lst (nbs (plc xs us)))) (.fz (.lst (nbs F))) (.ow (.lst (((F.take k).map (rowR T (plc xs us) F)).map rowD))) j7 j8) F (fun k ε s1 hk hI => by
    obtain ⟨j7, j8, rfl⟩ := hI
    have hm := List.mem_of_getElem? hk
    refine ⟨_, _, rfl, lp_row S hm _ (by have : (F.take k).length ≤ F.length := List.length_take_le' ..; rw [List.length_map, List.length_map]; omega) _ j8 (.inr rfl), .fz (.int (s1 : Nat)), .fz (entsD T (plc xs us) s1), ?_⟩
    rw [take_snoc hk]
    simp) (lpE xs T s us (.fz (.lst (nbs (plc xs us)))) (.fz (.lst (nbs F))) (.ow (.lst [])) .un .un) ⟨.un, .un, by simp⟩
  obtain ⟨ε', e, j7, j8, rfl⟩ := go
  rw [List.take_length, ← ren_eq] at e
  have z : b__law_part_0 ([.fz (modT xs T), .fz (.int (s : Nat)), .fz (.lst (nms us))] ++ List.replicate 8 Sl.un) = some (.rt (.ow (modT (sel xs (plc xs us)) (ren T (plc xs us) F))) (lpE xs T s us (.fz (.lst (nbs (plc xs us)))) (.fz (.lst (nbs F))) (.fz (.lst ((ren T (plc xs us) F).map rowD))) j7 j8)) := by
    show sSeq c__law_part_0 (sSeq c__law_part_1 (sSeq c__law_part_2 (sSeq c__law_part_3 c__law_part_4))) (lpE xs T s us .un .un .un .un .un) = _
    rw [seq_run (lp_0 x9)]
    have c1 : c__law_part_1 (lpE xs T s us (.ow (.lst (nbs (plc xs us)))) .un .un .un .un) = some (.nx (lpE xs T s us (.fz (.lst (nbs (plc xs us)))) (.ow (.lst (nbs F))) .un .un .un)) := set_run (i := 5) (callF (F := F__law_met) (ε1 := lpE xs T s us (.fz (.lst (nbs (plc xs us)))) .un .un .un .un) [modT xs T, .int (s : Nat), .lst (nbs (plc xs us))] rfl ml)
    rw [seq_run c1]
    rw [seq_run (show c__law_part_2 (lpE xs T s us (.fz (.lst (nbs (plc xs us)))) (.ow (.lst (nbs F))) .un .un .un) = some (.nx (lpE xs T s us (.fz (.lst (nbs (plc xs us)))) (.ow (.lst (nbs F))) (.ow (.lst [])) .un .un)) from rfl)]
    rw [seq_run (show c__law_part_3 (lpE xs T s us (.fz (.lst (nbs (plc xs us)))) (.ow (.lst (nbs F))) (.ow (.lst [])) .un .un) = _ from e)]
    have e1 := elcA (fun p : Nat => D.int (p : Nat)) (fun p => D.str ((xs[p]?).getD "")) (fun p => [.fz (modT xs T), .fz (.int (s : Nat)), .fz (.lst (nms us)), .fz (.lst (nbs (plc xs us))), .fz (.int (p : Nat)), .fz (.lst (nbs F)), .ow (.lst ((ren T (plc xs us) F).map rowD)), j7, j8, .un, .un]) (plc xs us) (fi := iSeq (eV 3)) (g := gN 4) (e := e2 oIx (e2n oIx 0 (eC (.str "deeds"))) (eV 4)) (vs := [4]) (A := lpE xs T s us (.fz (.lst (nbs (plc xs us)))) (.fz (.lst (nbs F))) (.ow (.lst ((ren T (plc xs us) F).map rowD))) j7 j8) (A1 := lpE xs T s us (.fz (.lst (nbs (plc xs us)))) (.fz (.lst (nbs F))) (.ow (.lst ((ren T (plc xs us) F).map rowD))) j7 j8) rfl (fun _ _ => rfl) (fun p hp => ⟨_, e2_run (op := oIx) (.inl rfl) (.inl rfl) (deeds_at xs T _) rfl (sel_ixl (plc_lt p hp)), .inl rfl⟩) (fun _ _ => rfl) rfl (by omega)
    have w : ((plc xs us).map fun p => D.str ((xs[p]?).getD "")) = nms (sel xs (plc xs us)) := by simp [sel]
    rw [w] at e1
    refine ret_run ?_
    unfold eDict pCons
    simp only [eC, bf_fz, wk_str]
    rw [e1]
    rfl
  exact run_rt (n := 11) (f := b__law_part_0) z
end Law

namespace Law
open PySem Mi L2
theorem for_run {fi : FI} {g : FG} {b : FS} {ds : List D} {ε ε1 : En} (h : fi ε = some (.v ds ε1)) : sFor fi g b ε = forL g b ds ε1 := by
  unfold sFor
  rw [h]
theorem not_run {t : FB} {b : Bool} {ε ε1 : En} (h : t ε = some (.v b ε1)) : bnot t ε = some (.v (!b) ε1) := by
  unfold bnot
  rw [h]
  rfl
theorem or_no {s t : FB} {b : Bool} {ε ε1 ε2 : En} (h : s ε = some (.v false ε1)) (h2 : t ε1 = some (.v b ε2)) : bor s t ε = some (.v b ε2) := by
  unfold bor
  rw [h]
  simp only [bnd_v]
  rw [if_neg (by simp), h2]
theorem or_yes {s t : FB} {ε ε1 : En} (h : s ε = some (.v true ε1)) : bor s t ε = some (.v true ε1) := by
  unfold bor
  rw [h]
  rfl
theorem deeds_ok (xs : List Str) (T : Tb) : F_Thing_deeds [.fz (thD xs T)] = some (.v (.ow (.lst (nms xs))) [.fz (thD xs T)]) := by kernel_rfl
theorem rows_ok {xs : List Str} {T : Tb} (h : T.length ≤ 900) : F_Thing_rows [.fz (thD xs T)] = some (.v (.ow (.lst (T.map rowD))) [.fz (thD xs T)]) := by
  have s : b_Thing_rows_0 ([.fz (thD xs T)] ++ List.replicate 1 Sl.un) = some (.rt (.ow (.lst (T.map rowD))) [.fz (thD xs T), .un]) :=
    ret_run (elcA prow rowD (fun r => [.fz (thD xs T), .fz (prow r)]) T (fi := iSeq (e1 (oFld csI "own_rows") (eV 0))) (g := gN 1) (e := e1 oToList (eV 1)) (vs := [1]) (A := [.fz (thD xs T), .un]) (A1 := [.fz (thD xs T), .un]) rfl (fun _ _ => rfl) (fun _ _ => ⟨_, rfl, .inr rfl⟩) (fun _ _ => rfl) rfl (by omega))
  exact run_rt (n := 2) (f := b_Thing_rows_0) s
theorem len_ok (xs : List Str) (T : Tb) : F_Thing___len__ [.fz (thD xs T)] = some (.v (.fz (.int (T.length : Nat))) [.fz (thD xs T)]) := by
  have l : ((T.map prow).length : Int) = (T.length : Nat) := by simp
  rw [← l]
  kernel_rfl
theorem has_ok (xs : List Str) (T : Tb) (u : Str) : F_Thing___contains__ [.fz (thD xs T), .fz (.str u)] = some (.v (.fz (.bl (decide (u ∈ xs)))) [.fz (thD xs T), .fz (.str u)]) :=
  run_rt (n := 2) (f := b_Thing___contains___0) (ss := [.fz (thD xs T), .fz (.str u)]) (ε := [.fz (thD xs T), .fz (.str u)]) (ret_run (callF [thD xs T, .str u] rfl (isdd_ok u)))
theorem call_no {xs : List Str} {T : Tb} {s : Nat} {u : Str} (hs : s < T.length) (hu : u ∉ xs) : F_Thing___call__ [.fz (thD xs T), .fz (.int (s : Nat)), .fz (.str u)] = some (.x "InvalidDeed" [("value", .str u)] [.fz (thD xs T), .fz (.int (s : Nat)), .fz (.str u)]) := by
  have z : b_Thing___call___0 ([.fz (thD xs T), .fz (.int (s : Nat)), .fz (.str u)] ++ List.replicate 0 Sl.un) = some (.ex "InvalidDeed" [("value", .str u)] [.fz (thD xs T), .fz (.int (s : Nat)), .fz (.str u)]) := by
    show sSeq c_Thing___call___0 (sSeq c_Thing___call___1 c_Thing___call___2) [.fz (thD xs T), .fz (.int (s : Nat)), .fz (.str u)] = _
    rw [seq_run (show c_Thing___call___0 [.fz (thD xs T), .fz (.int (s : Nat)), .fz (.str u)] = some (.nx [.fz (thD xs T), .fz (.int (s : Nat)), .fz (.str u)]) from expr_run (callF [thD xs T, .int (s : Nat)] rfl (wants_ok hs)))]
    have c := callFx (F := F_want_deed) (np := 2) (fa := aCons (eV 0) (aCons (eV 2) (aNil))) (ε := [.fz (thD xs T), .fz (.int (s : Nat)), .fz (.str u)]) (ε1 := [.fz (thD xs T), .fz (.int (s : Nat)), .fz (.str u)]) [thD xs T, .str u] rfl (wantd_no (T := T) hu)
    unfold sSeq c_Thing___call___1 sExpr
    rw [c]
    rfl
  exact run_ex (n := 3) (f := b_Thing___call___0) z
/-! ### runS -/
abbrev nE (xs : List Str) (T : Tb) (s : Nat) (ws : List Str) (j3 j4 : Sl) : En := [.fz (thD xs T), .fz (.int (s : Nat)), .fz (.lst (nms ws)), j3, j4]
abbrev bRun : FS := (sIf (bnot (bB (eCall 2 F_is_deed (aCons (eV 0) (aCons (eV 4) (aNil)))))) (sRz "InvalidWord" ["position"] (aCons (eV 3) (aNil))) (sNext))
theorem run_go {xs : List Str} {T : Tb} {s : Nat} (hs : s < T.length) (ws : List Str) {r : Option Fl} (h : forL (gT 2 (gCons (gN 3) (gCons (gN 4) (gNil)))) bRun (enumD 0 (nms ws)) (nE xs T s ws .un .un) = r) : (sSeq c_Thing_run_0 (sSeq c_Thing_run_1 c_Thing_run_2)) (nE xs T s ws .un .un) = r := by
  rw [seq_run (show c_Thing_run_0 (nE xs T s ws .un .un) = some (.nx (nE xs T s ws .un .un)) from expr_run (callF [thD xs T, .int (s : Nat)] rfl (wants_ok hs)))]
  have t : bnot (bB (eCall 1 F_is_list (aCons (eV 2) (aNil)))) (nE xs T s ws .un .un) = some (.v false (nE xs T s ws .un .un)) := not_run (bB_run (callF (F := F_is_list) (r := [.fz (.lst (nms ws))]) [.lst (nms ws)] rfl rfl))
  have c1 : c_Thing_run_1 (nE xs T s ws .un .un) = some (.nx (nE xs T s ws .un .un)) := (if_no t).trans rfl
  rw [seq_run c1]
  exact h
theorem seq_as {f g h k : FS} {ε : En} : sSeq f (sSeq g (sSeq h k)) ε = sSeq (sSeq f (sSeq g h)) k ε := by
  unfold sSeq
  cases f ε with
  | none => rfl
  | some r => cases r with
    | nx ε1 =>
      simp only
      cases g ε1 with
      | none => rfl
      | some q => cases q <;> rfl
    | _ => rfl
theorem run_ok {xs : List Str} {T : Tb} (h : Tab xs.length T) {s : Nat} (hs : s < T.length) {ws : List Str} (hw : ∀ u ∈ ws, u ∈ xs) (wl : ws.length ≤ 900) :
    F_Thing_run [.fz (thD xs T), .fz (.int (s : Nat)), .fz (.lst (nms ws))] = some (.v (.fz (runD2 (runS T s (ws.map fun u => xs.idxOf u)))) [.fz (thD xs T), .fz (.int (s : Nat)), .fz (.lst (nms ws))]) := by
  have go := forT (φ := fun z : Str × Nat => D.tup [.int (z.2 : Nat), .str z.1]) (g := (gT 2 (gCons (gN 3) (gCons (gN 4) (gNil))))) (b := bRun) (I := fun (_ : Unit) ε => ∃ j3 j4, ε = nE xs T s ws j3 j4) (f := fun _ _ => ()) ws.zipIdx () (nE xs T s ws .un .un) (fun _ ε z hz hI => by
    obtain ⟨j3, j4, rfl⟩ := hI
    refine ⟨nE xs T s ws (.fz (.int (z.2 : Nat))) (.fz (.str z.1)), nE xs T s ws (.fz (.int (z.2 : Nat))) (.fz (.str z.1)), rfl, ?_, _, _, rfl⟩
    have hm : z.1 ∈ xs := hw _ ((List.mem_zipIdx hz).2.2 ▸ List.getElem_mem _)
    have q := isdd_ok (xs := xs) (T := T) z.1
    rw [decide_eq_true hm] at q
    exact (if_no (not_run (bB_run (callF (F := F_is_deed) [thD xs T, .str z.1] rfl q)))).trans rfl) ⟨_, _, rfl⟩
  obtain ⟨ε', e, j3, j4, rfl⟩ := go
  rw [← enum_map] at e
  have g := run_go hs ws e
  have z : b_Thing_run_0 ([.fz (thD xs T), .fz (.int (s : Nat)), .fz (.lst (nms ws))] ++ List.replicate 2 Sl.un) = some (.rt (.fz (runD2 (runS T s (ws.map fun u => xs.idxOf u)))) (nE xs T s ws j3 j4)) := by
    show sSeq c_Thing_run_0 (sSeq c_Thing_run_1 (sSeq c_Thing_run_2 c_Thing_run_3)) (nE xs T s ws .un .un) = _
    rw [seq_as, seq_run g]
    have e1 := elcA D.str (fun u => D.int (xs.idxOf u : Nat)) (fun u => nE xs T s ws j3 (.fz (.str u))) ws (fi := iSeq (eV 2)) (g := gN 4) (e := (eCall 2 F_place_of (aCons (eV 0) (aCons (eV 4) (aNil))))) (vs := [4]) (A := nE xs T s ws j3 j4) (A1 := nE xs T s ws j3 j4) rfl (fun _ _ => rfl) (fun u hu => ⟨_, callF (F := F_place_of) [thD xs T, .str u] rfl (place_ok (hw u hu)), .inl rfl⟩) (fun _ _ => rfl) rfl (by omega)
    have w : (ws.map fun u => D.int (xs.idxOf u : Nat)) = nbs (ws.map fun u => xs.idxOf u) := by simp
    rw [w] at e1
    refine ret_run (callF (F := F_run_of) [thD xs T, .int (s : Nat), .lst (nbs (ws.map fun u => xs.idxOf u))] (cons_run (.inl rfl) rfl (cons_run (.inl rfl) rfl (cons_run (.inr rfl) e1 rfl))) (runof_ok h (fun p hp => ?_) (by simpa using wl) hs))
    obtain ⟨u, hu, rfl⟩ := List.mem_map.mp hp
    exact List.idxOf_lt_length_iff.mpr (hw u hu)
  exact run_rt (n := 5) (f := b_Thing_run_0) z
theorem run_no {xs : List Str} {T : Tb} {s : Nat} (hs : s < T.length) {a u : Str} (ha : a ∈ xs) (hu : u ∉ xs) :
    F_Thing_run [.fz (thD xs T), .fz (.int (s : Nat)), .fz (.lst (nms [a, u]))] = some (.x "InvalidWord" [("position", .int 1)] [.fz (thD xs T), .fz (.int (s : Nat)), .fz (.lst (nms [a, u]))]) := by
  have q1 := isdd_ok (xs := xs) (T := T) a
  have q2 := isdd_ok (xs := xs) (T := T) u
  rw [decide_eq_true ha] at q1
  rw [decide_eq_false hu] at q2
  have e : forL (gT 2 (gCons (gN 3) (gCons (gN 4) (gNil)))) bRun (enumD 0 (nms [a, u])) (nE xs T s [a, u] .un .un) = some (.ex "InvalidWord" [("position", .int 1)] (nE xs T s [a, u] (.fz (.int 1)) (.fz (.str u)))) := by
    have s1 : bRun (nE xs T s [a, u] (.fz (.int 0)) (.fz (.str a))) = some (.nx (nE xs T s [a, u] (.fz (.int 0)) (.fz (.str a)))) := (if_no (not_run (bB_run (callF (F := F_is_deed) [thD xs T, .str a] rfl q1)))).trans rfl
    have s2 : bRun (nE xs T s [a, u] (.fz (.int 1)) (.fz (.str u))) = some (.ex "InvalidWord" [("position", .int 1)] (nE xs T s [a, u] (.fz (.int 1)) (.fz (.str u)))) := (if_yes (not_run (bB_run (callF (F := F_is_deed) [thD xs T, .str u] rfl q2)))).trans rfl
    show forL _ _ (.tup [.int (0 : Nat), .str a] :: [.tup [.int (1 : Nat), .str u]]) _ = _
    rw [for_nx (ε1 := nE xs T s [a, u] (.fz (.int 0)) (.fz (.str a))) rfl s1]
    unfold forL
    rw [show (gT 2 (gCons (gN 3) (gCons (gN 4) (gNil)))) (.tup [.int (1 : Nat), .str u]) (nE xs T s [a, u] (.fz (.int 0)) (.fz (.str a))) = some (nE xs T s [a, u] (.fz (.int 1)) (.fz (.str u))) from rfl]
    simp only
    rw [s2]
  have g := run_go hs [a, u] e
  have z : b_Thing_run_0 ([.fz (thD xs T), .fz (.int (s : Nat)), .fz (.lst (nms [a, u]))] ++ List.replicate 2 Sl.un) = some (.ex "InvalidWord" [("position", .int 1)] (nE xs T s [a, u] (.fz (.int 1)) (.fz (.str u)))) := by
    show sSeq c_Thing_run_0 (sSeq c_Thing_run_1 (sSeq c_Thing_run_2 c_Thing_run_3)) (nE xs T s [a, u] .un .un) = _
    rw [seq_as]
    unfold sSeq at g ⊢
    rw [g]
  exact run_ex (n := 5) (f := b_Thing_run_0) z
end Law

namespace Law
open PySem Mi L2
/-! ### what equals itself -/
def Sp (k : Nat) (d : D) : Prop := ∃ p, toPy d = some p ∧ p.canLay0 = true ∧ p.depth ≤ k
theorem spL {k : Nat} : ∀ ds : List D, (∀ d ∈ ds, Sp k d) → ∃ ps, toPyL ds = some ps ∧ PyData.canLayAll0 ps = true ∧ PyData.depthAll ps ≤ k
  | [], _ => ⟨[], rfl, rfl, by simp [PyData.depthAll]⟩
  | d :: ds, h => by
    obtain ⟨p, e1, e2, e3⟩ := h d (List.mem_cons_self ..)
    obtain ⟨ps, f1, f2, f3⟩ := spL ds fun z hz => h z (List.mem_cons_of_mem _ hz)
    refine ⟨p :: ps, by simp [toPyL, e1, f1], by simp [PyData.canLayAll0, e2, f2], ?_⟩
    simp only [PyData.depthAll]
    omega
theorem sp_lst {k : Nat} {ds : List D} (h : ∀ d ∈ ds, Sp k d) : Sp (k + 1) (.lst ds) := by
  obtain ⟨ps, f1, f2, f3⟩ := spL ds h
  exact ⟨.list ps, by simp [toPy, f1], by simp [PyData.canLay0, f2], by simp only [PyData.depth]; omega⟩
theorem sp_tup {k : Nat} {ds : List D} (h : ∀ d ∈ ds, Sp k d) : Sp (k + 1) (.tup ds) := by
  obtain ⟨ps, f1, f2, f3⟩ := spL ds h
  exact ⟨.tuple ps, by simp [toPy, f1], by simp [PyData.canLay0, f2], by simp only [PyData.depth]; omega⟩
theorem sp_ptp {k : Nat} {ds : List D} (h : ∀ d ∈ ds, Sp k d) : Sp (k + 1) (.ptp ds) := by
  obtain ⟨ps, f1, f2, f3⟩ := spL ds h
  exact ⟨.tuple ps, by simp [toPy, f1], by simp [PyData.canLay0, f2], by simp only [PyData.depth]; omega⟩
theorem sp_int (i : Int) : Sp 5 (.int i) := ⟨_, rfl, rfl, by simp [PyData.depth]⟩
theorem sp_name {x : Str} (h : nameS x) : Sp 5 (.str x) := by
  refine ⟨.str x, rfl, ?_, by simp [PyData.depth]⟩
  have hx : ∀ c ∈ x.cps.toList, c < 1114112 := fun c hc => by
    have : ∀ c ∈ letters, c < 1114112 := by decide
    exact this c (h.al c hc)
  show PyData.strOk x = true
  unfold PyData.strOk
  simp [Array.all_eq_true]
  intro i hi
  have := hx x.cps[i] (by simp)
  omega
theorem eq_same {k : Nat} {d : D} (h : Sp k d) (hk : k ≤ 64) : eqQ d d = some true := by
  obtain ⟨p, e1, e2, e3⟩ := h
  have z : eqP d d = some true := by
    have w : SeqAt.shaped p = true := by
      unfold SeqAt.shaped
      rw [e2, decide_eq_true (by omega)]
      rfl
    unfold eqP
    rw [e1]
    simp only [Option.bind_some]
    rw [if_pos ⟨w, w⟩, SeqAt.eqv_refl p e2]
  unfold eqQ
  split
  · simp
  · exact z
theorem oEq_same {k : Nat} {d : D} (h : Sp k d) (hk : k ≤ 64) : oEq d d = some (.fz (.bl true)) := by
  unfold oEq; rw [eq_same h hk]; rfl
theorem oNe_same {k : Nat} {d : D} (h : Sp k d) (hk : k ≤ 64) : oNe d d = some (.fz (.bl false)) := by
  unfold oNe; rw [eq_same h hk]; rfl
theorem oNe_str (t : Str) : oNe (.str t) (.str t) = some (.fz (.bl false)) := by
  unfold oNe eqQ; simp
theorem oEq_str (t : Str) : oEq (.str t) (.str t) = some (.fz (.bl true)) := by
  unfold oEq eqQ; simp
theorem sp_nms {xs : List Str} (h : ∀ x ∈ xs, nameS x) : ∀ d ∈ nms xs, Sp 5 d := fun d hd => by
  obtain ⟨x, hx, rfl⟩ := List.mem_map.mp hd
  exact sp_name (h x hx)
theorem sp_nbs (F : List Nat) : Sp 6 (.lst (nbs F)) := sp_lst fun d hd => by
  obtain ⟨x, hx, rfl⟩ := List.mem_map.mp hd
  exact sp_int _
theorem sp_ent (e : Nat × Nat) : Sp 6 (entD e) := sp_tup fun d hd => by
  simp only [List.mem_cons, List.not_mem_nil, or_false] at hd
  rcases hd with rfl | rfl <;> exact sp_int _
theorem sp_prows (T : Tb) : Sp 8 (.tup (T.map prow)) := sp_tup fun d hd => by
  obtain ⟨r, _, rfl⟩ := List.mem_map.mp hd
  exact sp_ptp fun d hd => by
    obtain ⟨e, _, rfl⟩ := List.mem_map.mp hd
    exact sp_ent e
theorem eq_ok {xs : List Str} {T : Tb} (h : ∀ x ∈ xs, nameS x) : F_Thing___eq__ [.fz (thD xs T), .fz (thD xs T)] = some (.v (.fz (.bl true)) [.fz (thD xs T), .fz (thD xs T)]) := by
  have z : b_Thing___eq___0 ([.fz (thD xs T), .fz (thD xs T)] ++ List.replicate 0 Sl.un) = some (.rt (.fz (.bl true)) [.fz (thD xs T), .fz (thD xs T)]) := by
    refine ret_run (and_yes (ε1 := [.fz (thD xs T), .fz (thD xs T)]) rfl (and_yes (ε1 := [.fz (thD xs T), .fz (thD xs T)]) ?_ ?_))
    · have q : ∀ i, i < 2 → e1 (oFld csI "own_deeds") (eV i) [.fz (thD xs T), .fz (thD xs T)] = some (.v (.fz (.ptp (nms xs))) [.fz (thD xs T), .fz (thD xs T)]) := fun i hi => by
        match i, hi with
        | 0, _ => rfl
        | 1, _ => rfl
      unfold e2
      rw [q 0 (by omega)]
      simp only [bf_fz, wk_ptp]
      rw [q 1 (by omega)]
      simp only [bf_fz, wk_ptp]
      rw [oEq_same (sp_tup (sp_nms h)) (by omega)]
      rfl
    · have q : ∀ i, i < 2 → e1 (oFld csI "own_rows") (eV i) [.fz (thD xs T), .fz (thD xs T)] = some (.v (.fz (.ptp (T.map prow))) [.fz (thD xs T), .fz (thD xs T)]) := fun i hi => by
        match i, hi with
        | 0, _ => rfl
        | 1, _ => rfl
      unfold e2
      rw [q 0 (by omega)]
      simp only [bf_fz, wk_ptp]
      rw [q 1 (by omega)]
      simp only [bf_fz, wk_ptp]
      rw [oEq_same (sp_prows T) (by omega)]
      rfl
  exact run_rt (n := 2) (f := b_Thing___eq___0) z
/-! ### reached -/
abbrev srt (F : List Nat) : List D := (sortI (F.map fun n => ((n : Nat) : Int))).map D.int
theorem toInts_nbs : ∀ F : List Nat, toInts (nbs F) = some (F.map fun n => ((n : Nat) : Int))
  | [] => rfl
  | n :: F => by
    have := toInts_nbs F
    simp only [nbs, List.map_cons, toInts] at this ⊢
    rw [this]
    rfl
theorem srt_len (F : List Nat) : (srt F).length = F.length := by
  simp [srt, sortI, List.length_mergeSort]
theorem srt_range (k : Nat) : srt (List.range k) = nbs (List.range k) := by
  unfold srt
  rw [← sortI_is (ns := (List.range k).map fun n => ((n : Nat) : Int)) (List.Perm.refl _) ?_]
  · simp
  · rw [List.pairwise_map]
    exact (List.pairwise_lt_range (n := k)).imp fun h => by omega
theorem sp_srt (F : List Nat) : Sp 6 (.lst (srt F)) := sp_lst fun d hd => by
  obtain ⟨x, hx, rfl⟩ := List.mem_map.mp hd
  exact sp_int _
theorem sorted_ok (F : List Nat) : oSorted (.lst (nbs F)) = some (.ow (.lst (srt F))) := by
  unfold oSorted
  simp only
  rw [toInts_nbs]
  rfl
theorem lrg_run {f : FE} {ε ε1 : En} {n : Nat} (h : f ε = some (.v (.fz (.int (n : Nat))) ε1)) (hn : n ≤ 1000) : eLrg f ε = some (.v (.ow (.lst (nbs (List.range n)))) ε1) := by
  unfold eLrg
  rw [h]
  simp only [bf_fz, wk_int]
  rw [if_pos (by omega), Int.toNat_natCast]
theorem reached_ok {xs : List Str} {T : Tb} (h : Tab xs.length T) (t9 : T.length ≤ 900) (x9 : xs.length ≤ 900) {s : Nat} (hs : s < T.length) :
    F_Thing_reached [.fz (thD xs T), .fz (.int (s : Nat))] = some (.v (.ow (.lst (srt (met T (List.range xs.length) s)))) [.fz (thD xs T), .fz (.int (s : Nat))]) := by
  have mp := met_prog (xs := xs) h t9 (ps := List.range xs.length) (fun p hp => List.mem_range.mp hp) hs
  generalize met T (List.range xs.length) s = F at mp
  have z : b_Thing_reached_0 ([.fz (thD xs T), .fz (.int (s : Nat))] ++ List.replicate 0 Sl.un) = some (.rt (.ow (.lst (srt F))) [.fz (thD xs T), .fz (.int (s : Nat))]) := by
    show sSeq c_Thing_reached_0 c_Thing_reached_1 [.fz (thD xs T), .fz (.int (s : Nat))] = _
    rw [seq_run (show c_Thing_reached_0 [.fz (thD xs T), .fz (.int (s : Nat))] = some (.nx [.fz (thD xs T), .fz (.int (s : Nat))]) from expr_run (callF [thD xs T, .int (s : Nat)] rfl (wants_ok hs)))]
    have l : e1 oLen (e1 (oFld csI "own_deeds") (eV 0)) [.fz (thD xs T), .fz (.int (s : Nat))] = some (.v (.fz (.int (xs.length : Nat))) [.fz (thD xs T), .fz (.int (s : Nat))]) := by
      have l : e1 oLen (e1 (oFld csI "own_deeds") (eV 0)) [.fz (thD xs T), .fz (.int (s : Nat))] = some (.v (.fz (.int ((nms xs).length : Nat))) [.fz (thD xs T), .fz (.int (s : Nat))]) := rfl
      rwa [List.length_map] at l
    exact ret_run (e1_run (.inr rfl) (callF (F := F_states_met) [thD xs T, .int (s : Nat), .lst (nbs (List.range xs.length))] (cons_run (.inl rfl) rfl (cons_run (.inl rfl) rfl (cons_run (.inr rfl) (lrg_run l (by omega)) rfl))) mp) (sorted_ok F))
  exact run_rt (n := 2) (f := b_Thing_reached_0) z
/-! ### part -/
def argD (b : Bool) (us : List Str) : D := if b then .lst (nms us) else .ptp (nms us)
theorem wk_arg (b : Bool) (us : List Str) : wk (argD b us) = seqD b (nms us) := by cases b <;> rfl
abbrev paE (xs : List Str) (T : Tb) (s : Nat) (b : Bool) (us : List Str) (j3 j4 s5 : Sl) : En := [.fz (thD xs T), .fz (.int (s : Nat)), .fz (argD b us), j3, j4, s5, .un]
theorem cut_take {α : Type} (l : List α) (k : Nat) (h : k ≤ l.length) : cutD l none (some (k : Int)) = l.take k := by
  have := cut_pre (l.take k) (l.drop k)
  rw [List.take_append_drop] at this
  rwa [List.length_take, Nat.min_eq_left h] at this
theorem seq_cut (b : Bool) (us : List Str) (k : Nat) (h : k ≤ us.length) : ∃ q, (q = .fz (seqD b (nms (us.take k))) ∨ q = .ow (seqD b (nms (us.take k)))) ∧ oSl (seqD b (nms us)) none (some (k : Int)) = some q := by
  have e : cutD (nms us) none (some (k : Int)) = nms (us.take k) := by
    rw [cut_take (nms us) k (by simpa using h)]
    simp [nms, List.map_take]
  cases b with
  | true => exact ⟨_, .inr rfl, by simp only [seqD, if_true, oSl, e]⟩
  | false => exact ⟨_, .inl rfl, by simp only [seqD, Bool.false_eq_true, if_false, oSl, e]⟩
abbrev bPart : FS := (sIf (bor (bnot (bB (eCall 2 F_is_deed (aCons (eV 0) (aCons (eV 4) (aNil)))))) (bB (e2 oIn (eV 4) (eSl (eV 2) (fNo) (fPart (eV 3)))))) (sRz "InvalidDeeds" ["position"] (aCons (eV 3) (aNil))) (sNext))
theorem part_turn {xs : List Str} {T : Tb} {s : Nat} {b : Bool} {us : List Str} (nd : us.Nodup) (hu : ∀ u ∈ us, u ∈ xs) {k : Nat} {u : Str} (hk : us[k]? = some u) (s5 : Sl) :
    bPart (paE xs T s b us (.fz (.int (k : Nat))) (.fz (.str u)) s5) = some (.nx (paE xs T s b us (.fz (.int (k : Nat))) (.fz (.str u)) s5)) := by
  have hl : k < us.length := (List.getElem?_eq_some_iff.mp hk).1
  have q := isdd_ok (xs := xs) (T := T) u
  rw [decide_eq_true (hu u (List.mem_of_getElem? hk))] at q
  obtain ⟨sq, h1, h2⟩ := seq_cut b us k (by omega)
  have ni : u ∉ us.take k := fun z => by
    obtain ⟨i, hi, e⟩ := List.mem_iff_getElem.mp z
    have hik : i < k := by simp at hi; omega
    have e1 : us[i]'(by omega) = u := by rw [← e]; simp
    have e2 : us[k] = u := (List.getElem?_eq_some_iff.mp hk).2
    have a1 := nd.idxOf_getElem i (by omega)
    have a2 := nd.idxOf_getElem k hl
    rw [e1] at a1
    rw [e2] at a2
    omega
  have sl : eSl (eV 2) (fNo) (fPart (eV 3)) (paE xs T s b us (.fz (.int (k : Nat))) (.fz (.str u)) s5) = some (.v sq (paE xs T s b us (.fz (.int (k : Nat))) (.fz (.str u)) s5)) := by
    unfold eSl
    show bf (some (R.v (Sl.fz (argD b us)) _)) _ = _
    simp only [bf_fz, wk_arg]
    show Mi.ret (oSl (seqD b (nms us)) none (some (k : Int))) _ = _
    rw [h2]
    rfl
  have i := in_seq b u (us.take k)
  rw [decide_eq_false ni] at i
  have t := e2_run (op := oIn) (.inl rfl) h1 (show eV 4 (paE xs T s b us (.fz (.int (k : Nat))) (.fz (.str u)) s5) = some (.v (.fz (.str u)) (paE xs T s b us (.fz (.int (k : Nat))) (.fz (.str u)) s5)) from rfl) sl i (by rfl) (by cases b <;> rfl)
  exact (if_no (or_no (not_run (bB_run (callF (F := F_is_deed) [thD xs T, .str u] rfl q))) (bB_run t))).trans rfl
theorem zip_plc (xs us : List Str) : (xs.zipIdx.filter fun z => decide (z.1 ∈ us)).map (fun z => z.2) = plc xs us := by
  have e : xs.zipIdx = (List.range xs.length).map fun (i : Nat) => (((xs[i]?).getD "" : Str), i) := by
    refine List.ext_getElem (by simp) fun i h1 h2 => ?_
    have : i < xs.length := by simpa using h1
    simp [this]
  rw [e, List.filter_map, List.map_map]
  unfold plc
  simp [Function.comp_def]
theorem part_ok {xs : List Str} {T : Tb} (h : Tab xs.length T) (t9 : T.length ≤ 900) (x9 : xs.length ≤ 900) {s : Nat} (hs : s < T.length) (b : Bool) {us : List Str} (u0 : us ≠ []) (nd : us.Nodup) (hu : ∀ u ∈ us, u ∈ xs) :
    F_Thing_part [.fz (thD xs T), .fz (.int (s : Nat)), .fz (argD b us)] = some (.v (.ow (thD (sel xs (plc xs us)) (ren T (plc xs us) (met T (plc xs us) s)))) [.fz (thD xs T), .fz (.int (s : Nat)), .fz (argD b us)]) := by
  have pl : (plc xs us).length ≤ 900 := by have := plc_len xs us; omega
  have S := sts_met (s := s) h t9 pl plc_lt hs
  have mp := met_prog (xs := xs) h t9 (ps := plc xs us) plc_lt hs
  generalize met T (plc xs us) s = F at S mp
  have go := forI (φ := fun z : Str × Nat => D.tup [.int (z.2 : Nat), .str z.1]) (g := (gT 2 (gCons (gN 3) (gCons (gN 4) (gNil))))) (b := bPart) (I := fun _ ε => ∃ j3 j4, ε = paE xs T s b us j3 j4 .un) us.zipIdx (fun k ε z hk hI => by
    obtain ⟨j3, j4, rfl⟩ := hI
    have hz : us[k]? = some z.1 ∧ z.2 = k := by
      rw [List.getElem?_zipIdx] at hk
      cases q : us[k]? with
      | none => rw [q] at hk; cases hk
      | some u => rw [q] at hk; cases hk; exact ⟨rfl, by simp⟩
    obtain ⟨z1, z2⟩ := hz
    refine ⟨_, _, rfl, ?_, .fz (.int (z.2 : Nat)), .fz (.str z.1), rfl⟩
    have := part_turn (T := T) (s := s) (b := b) nd hu z1 .un
    rw [← z2] at this
    exact this) (paE xs T s b us .un .un .un) ⟨_, _, rfl⟩
  obtain ⟨ε', e, j3, j4, rfl⟩ := go
  rw [← enum_map] at e
  have ul : us.length ≠ 0 := fun z => u0 (List.length_eq_zero_iff.mp z)
  have z : b_Thing_part_0 ([.fz (thD xs T), .fz (.int (s : Nat)), .fz (argD b us)] ++ List.replicate 4 Sl.un) = some (.rt (.ow (thD (sel xs (plc xs us)) (ren T (plc xs us) F))) (paE xs T s b us j3 j4 (.fz (.lst (nbs (plc xs us)))))) := by
    show sSeq c_Thing_part_0 (sSeq c_Thing_part_1 (sSeq c_Thing_part_2 (sSeq c_Thing_part_3 c_Thing_part_4))) (paE xs T s b us .un .un .un) = _
    rw [seq_run (show c_Thing_part_0 (paE xs T s b us .un .un .un) = some (.nx (paE xs T s b us .un .un .un)) from expr_run (callF [thD xs T, .int (s : Nat)] rfl (wants_ok hs)))]
    have il : F_is_list [.fz (argD b us)] = some (.v (.fz (.bl true)) [.fz (argD b us)]) := by cases b <;> rfl
    have ln : e1n oLen 2 (paE xs T s b us .un .un .un) = some (.v (.fz (.int (us.length : Nat))) (paE xs T s b us .un .un .un)) := by
      have w : ((nms us).length : Int) = (us.length : Nat) := by simp
      rw [← w]
      cases b <;> rfl
    have t : bor (bnot (bB (eCall 1 F_is_list (aCons (eV 2) (aNil))))) (bB (e2 oEq (e1n oLen 2) (eC (.int 0)))) (paE xs T s b us .un .un .un) = some (.v false (paE xs T s b us .un .un .un)) := by
      refine or_no (not_run (bB_run (callF (F := F_is_list) [argD b us] rfl il))) (bB_run (e2_run (op := oEq) (.inl rfl) (.inl rfl) ln rfl ?_))
      unfold oEq
      rw [eqI, decide_eq_false (by omega)]
      rfl
    rw [seq_run (show c_Thing_part_1 (paE xs T s b us .un .un .un) = some (.nx (paE xs T s b us .un .un .un)) from (if_no t).trans rfl)]
    have c2 : c_Thing_part_2 (paE xs T s b us .un .un .un) = some (.nx (paE xs T s b us j3 j4 .un)) := by
      have w : iEnumT (eV 2) (paE xs T s b us .un .un .un) = some (.v (enumD 0 (nms us)) (paE xs T s b us .un .un .un)) := by cases b <;> rfl
      exact (for_run w).trans e
    rw [seq_run c2]
    have e1 := elcT (fun z : Str × Nat => D.tup [.int (z.2 : Nat), .str z.1]) (fun z => D.int (z.2 : Nat)) (fun z => decide (z.1 ∈ us)) (fun z => [.fz (thD xs T), .fz (.int (s : Nat)), .fz (argD b us), j3, .fz (.str z.1), .un, .fz (.int (z.2 : Nat))]) xs.zipIdx (fi := (iEnumT (e1 (oFld csI "own_deeds") (eV 0)))) (g := (gT 2 (gCons (gN 6) (gCons (gN 4) (gNil))))) (t := (bB (e2m oIn (eV 4) 2))) (e := eV 6) (vs := [4, 6]) (A := paE xs T s b us j3 j4 .un) (A1 := paE xs T s b us j3 j4 .un) (by rw [← enum_map]; rfl) (fun _ _ => rfl) (fun z hz => by
      refine bB_run ?_
      unfold e2m
      show bf (some (R.v (Sl.fz (D.str z.1)) _)) _ = _
      simp only [bf_fz, wk_str, look]
      show Mi.ret (oIn (.str z.1) (wk (argD b us))) _ = _
      rw [wk_arg, in_seq]
      rfl) (fun _ _ _ => ⟨_, rfl, .inl rfl⟩) (fun _ _ => rfl) rfl (by simp; omega)
    have w : ((xs.zipIdx.filter fun z => decide (z.1 ∈ us)).map fun z => D.int (z.2 : Nat)) = nbs (plc xs us) := by
      rw [← zip_plc]
      simp
    rw [w] at e1
    rw [seq_run (show c_Thing_part_3 (paE xs T s b us j3 j4 .un) = some (.nx (paE xs T s b us j3 j4 (.ow (.lst (nbs (plc xs us)))))) from set_run (i := 5) e1)]
    exact ret_run (callF (F := F_with_states) [thD xs T, .lst (nbs (plc xs us)), .lst (nbs F)] (cons_run (.inl rfl) rfl (cons_run (.inl rfl) (show eV 5 (paE xs T s b us j3 j4 (.ow (.lst (nbs (plc xs us))))) = some (.v (.fz (.lst (nbs (plc xs us)))) (paE xs T s b us j3 j4 (.fz (.lst (nbs (plc xs us)))))) from rfl) (cons_run (.inr rfl) (callF (F := F_states_met) [thD xs T, .int (s : Nat), .lst (nbs (plc xs us))] rfl mp) rfl))) (with_ok S))
  exact run_rt (n := 7) (f := b_Thing_part_0) z
end Law

namespace Law
open PySem Mi L2
/-! ### specials -/
theorem e2in_run {Fd : FD} {fa fb : FE} {ε ε1 ε2 : En} {s t : Sl} {x : D} {xs : List Str} {T : Tb} {b : Bool} {r : List Sl} (hs : s = .fz x ∨ s = .ow x) (ht : t = .fz (thD xs T) ∨ t = .ow (thD xs T)) (ha : fa ε = some (.v s ε1)) (hb : fb ε1 = some (.v t ε2)) (hF : Fd [.fz (thD xs T), .fz x] = some (.v (.fz (.bl b)) r)) (hx : wk x = x := by rfl) : e2in "Thing" Fd isBl fa fb ε = some (.v (.fz (.bl b)) ε2) := by
  have q : isI "Thing" (thD xs T) = true := rfl
  unfold e2in
  rcases hs with rfl | rfl <;> rw [ha] <;> simp only [bf_fz, bf_ow, hx] <;> rw [hb] <;> rcases ht with rfl | rfl <;> simp only [bf_fz, bf_ow, wk_ins, q, if_true, callD, List.map_cons, List.map_nil] <;> rw [hF] <;> rfl
theorem e1p_run {Fd : FD} {fa : FE} {ε ε1 : En} {s t : Sl} {xs : List Str} {T : Tb} {r : List Sl} (hs : s = .fz (thD xs T) ∨ s = .ow (thD xs T)) (ha : fa ε = some (.v s ε1)) (hF : Fd [.fz (thD xs T)] = some (.v t r)) : e1p "Thing" Fd fa ε = some (.v t ε1) := by
  have q : isI "Thing" (thD xs T) = true := rfl
  unfold e1p e1o
  rw [ha]
  rcases hs with rfl | rfl <;> simp only [bf_fz, bf_ow, wk_ins, q, if_true, callD, List.map_cons, List.map_nil] <;> rw [hF] <;> rfl
theorem e2o_run {Fd : FD} {fa fb : FE} {ε ε1 ε2 : En} {s t : Sl} {xs ys : List Str} {T U : Tb} {b : Bool} {r : List Sl} (hs : s = .fz (thD xs T) ∨ s = .ow (thD xs T)) (ht : t = .fz (thD ys U) ∨ t = .ow (thD ys U)) (ha : fa ε = some (.v s ε1)) (hb : fb ε1 = some (.v t ε2)) (hF : Fd [.fz (thD xs T), .fz (thD ys U)] = some (.v (.fz (.bl b)) r)) :
    e2o "Thing" Fd isNb fa fb ε = some (.v (.fz (.bl (!b))) ε2) ∧ e2o "Thing" Fd isBl fa fb ε = some (.v (.fz (.bl b)) ε2) := by
  have q : isI "Thing" (thD xs T) = true := rfl
  have q2 : isI "Thing" (thD ys U) = true := rfl
  unfold e2o
  rcases hs with rfl | rfl <;> rw [ha] <;> simp only [bf_fz, bf_ow, wk_ins] <;> rw [hb] <;> rcases ht with rfl | rfl <;> simp only [bf_fz, bf_ow, wk_ins, q, q2, Bool.and_self, if_true, callD, List.map_cons, List.map_nil] <;> rw [hF] <;> exact ⟨rfl, rfl⟩
theorem e2n_run {op : D → D → Option Sl} {i : Nat} {fb : FE} {ε ε1 : En} {x y x0 : D} {t r : Sl} (h0 : look ε i = some x0) (ht : t = .fz y ∨ t = .ow y) (hb : fb ε = some (.v t ε1)) (h1 : look ε1 i = some x) (ho : op x y = some r) (hy : wk y = y := by rfl) : e2n op i fb ε = some (.v r ε1) := by
  unfold e2n
  rw [h0]
  simp only
  rw [hb]
  rcases ht with rfl | rfl <;> simp only [bf_fz, bf_ow, hy, h1, Option.bind_some, ho] <;> rfl
/-! ### deeds that are gone -/
abbrev goE (xs : List Str) (T : Tb) (gs : List Str) (j2 s3 : Sl) : En := [.fz (thD xs T), .fz (.lst (nms gs)), j2, s3, .un]
theorem try_x {i n : Nat} {hs : List (List (Str × Bool) × Sf)} {fb : FS} {ε ε1 : En} {c : Str} {gs : List (Str × D)} (h : fb ε = some (.ex c gs ε1)) : sTryA i n hs fb ε = hand i n hs c gs ε1 := by
  unfold sTryA
  rw [h]
theorem expr_x {f : FE} {c : Str} {gs : List (Str × D)} {ε ε1 : En} (h : f ε = some (.x c gs ε1)) : sExpr f ε = some (.ex c gs ε1) := by
  unfold sExpr
  rw [h]
  rfl
theorem gone_1 {xs : List Str} {T : Tb} {gs : List Str} {u : Str} (t0 : 0 < T.length) (hu : u ∉ xs) : sTryA 4 5 [(tx_InvalidDeed, hs__law_gone_right_0)] (sExpr (eMeth "Thing" "__call__" 3 F_Thing___call__ false (eV 0) (aCons (eC (.int 0)) (aCons (eV 2) (aNil))))) (goE xs T gs (.fz (.str u)) (.ow (.lst []))) = some (.nx (goE xs T gs (.fz (.str u)) (.ow (.lst [.str u])))) := by
  have c := methFx (c := "Thing") (m := "__call__") (np := 3) (F := F_Thing___call__) (rv := false) (fo := eV 0) (fa := aCons (eC (.int 0)) (aCons (eV 2) (aNil))) (ε := goE xs T gs (.fz (.str u)) (.ow (.lst []))) (ε2 := goE xs T gs (.fz (.str u)) (.ow (.lst []))) (ss := [(none, .fz (.int 0)), (none, .fz (.str u))]) [.int 0, .str u] rfl (.inl rfl) rfl rfl rfl (call_no (s := 0) t0 hu)
  rw [try_x (expr_x c)]
  kernel_rfl
theorem gone_2 {xs : List Str} {T : Tb} {gs : List Str} {u : Str} (t0 : 0 < T.length) (x0 : xs ≠ []) (hu : u ∉ xs) : sTryA 4 5 [(tx_InvalidWord, hs__law_gone_right_1)] (sExpr (eMeth "Thing" "run" 3 F_Thing_run false (eV 0) (aCons (eC (.int 0)) (aCons (eLst (aCons (e2 oIx (e1p "Thing" F_Thing_deeds (eV 0)) (eC (.int 0))) (aCons (eV 2) (aNil)))) (aNil))))) (goE xs T gs (.fz (.str u)) (.ow (.lst [.str u]))) = some (.nx (goE xs T gs (.fz (.str u)) (.ow (.lst [.str u, .int 1])))) := by
  have xl : 0 < xs.length := List.length_pos_iff.mpr x0
  have ix := sel_ixl (xs := xs) (p := 0) xl
  have x0m : ((xs[0]?).getD "" : Str) ∈ xs := by
    rw [List.getElem?_eq_getElem xl]
    exact List.getElem_mem _
  generalize ha : ((xs[0]?).getD "" : Str) = a at ix x0m
  have d0 := e2_run (op := oIx) (.inr rfl) (.inl rfl) (e1p_run (fa := eV 0) (ε := goE xs T gs (.fz (.str u)) (.ow (.lst [.str u]))) (.inl rfl) rfl (deeds_ok xs T)) (show eC (.int 0) (goE xs T gs (.fz (.str u)) (.ow (.lst [.str u]))) = some (.v (.fz (.int (0 : Nat))) (goE xs T gs (.fz (.str u)) (.ow (.lst [.str u])))) from rfl) ix
  have d1 := lst_run (fa := (aCons (e2 oIx (e1p "Thing" F_Thing_deeds (eV 0)) (eC (.int 0))) (aCons (eV 2) (aNil)))) (ds := [.str a, .str u]) (cons_run (.inl rfl) d0 (cons_run (.inl rfl) (show eV 2 (goE xs T gs (.fz (.str u)) (.ow (.lst [.str u]))) = some (.v (.fz (.str u)) (goE xs T gs (.fz (.str u)) (.ow (.lst [.str u])))) from rfl) rfl)) rfl (by simp)
  have c := methFx (c := "Thing") (m := "run") (np := 3) (F := F_Thing_run) (rv := false) (fo := eV 0) (fa := aCons (eC (.int 0)) (aCons (eLst (aCons (e2 oIx (e1p "Thing" F_Thing_deeds (eV 0)) (eC (.int 0))) (aCons (eV 2) (aNil)))) (aNil))) (ε := goE xs T gs (.fz (.str u)) (.ow (.lst [.str u]))) (ε2 := goE xs T gs (.fz (.str u)) (.ow (.lst [.str u]))) [.int 0, .lst (nms [a, u])] rfl (.inl rfl) rfl (cons_run (.inl rfl) rfl (cons_run (.inr rfl) d1 rfl)) rfl (run_no (s := 0) t0 x0m hu)
  rw [try_x (expr_x c)]
  kernel_rfl
theorem gone_ok {xs : List Str} {T : Tb} {gs : List Str} (t0 : 0 < T.length) (x0 : xs ≠ []) (hg : ∀ u ∈ gs, u ∉ xs ∧ nameS u) : F__law_gone_right [.fz (thD xs T), .fz (.lst (nms gs))] = some (.v (.fz (.bl true)) [.fz (thD xs T), .fz (.lst (nms gs))]) := by
  have go := forT (φ := D.str) (g := gN 2) (b := (sSeq (sSet 3 (eLst (aNil))) (sSeq (sTryA 4 5 [(tx_InvalidDeed, hs__law_gone_right_0)] (sExpr (eMeth "Thing" "__call__" 3 F_Thing___call__ false (eV 0) (aCons (eC (.int 0)) (aCons (eV 2) (aNil)))))) (sSeq (sTryA 4 5 [(tx_InvalidWord, hs__law_gone_right_1)] (sExpr (eMeth "Thing" "run" 3 F_Thing_run false (eV 0) (aCons (eC (.int 0)) (aCons (eLst (aCons (e2 oIx (e1p "Thing" F_Thing_deeds (eV 0)) (eC (.int 0))) (aCons (eV 2) (aNil)))) (aNil)))))) (sIf (bor (bB (e2in "Thing" F_Thing___contains__ isBl (eV 2) (eV 0))) (bB (e2n oNe 3 (eLst (aCons (eV 2) (aCons (eC (.int 1)) (aNil))))))) (sRet (eC (.bl false))) (sNext)))))) (I := fun (_ : Unit) ε => ∃ j2 s3, ε = goE xs T gs j2 s3) (f := fun _ _ => ()) gs () (goE xs T gs .un .un) (fun _ ε u hu hI => by
    obtain ⟨j2, s3, rfl⟩ := hI
    obtain ⟨h1, h2⟩ := hg u hu
    refine ⟨goE xs T gs (.fz (.str u)) s3, goE xs T gs (.fz (.str u)) (.ow (.lst [.str u, .int 1])), rfl, ?_, _, _, rfl⟩
    rw [seq_run (show sSet 3 (eLst (aNil)) (goE xs T gs (.fz (.str u)) s3) = some (.nx (goE xs T gs (.fz (.str u)) (.ow (.lst [])))) from rfl)]
    rw [seq_run (gone_1 t0 h1), seq_run (gone_2 t0 x0 h1)]
    have hc := has_ok xs T u
    rw [decide_eq_false h1] at hc
    have i1 := e2in_run (fa := eV 2) (fb := eV 0) (ε := goE xs T gs (.fz (.str u)) (.ow (.lst [.str u, .int 1]))) (.inl rfl) (.inl rfl) rfl rfl hc
    have sp : Sp 6 (.lst [.str u, .int 1]) := sp_lst fun d hd => by
      simp only [List.mem_cons, List.not_mem_nil, or_false] at hd
      rcases hd with rfl | rfl
      · exact sp_name h2
      · exact sp_int 1
    have i2 := e2n_run (op := oNe) (i := 3) (fb := eLst (aCons (eV 2) (aCons (eC (.int 1)) (aNil)))) (ε := goE xs T gs (.fz (.str u)) (.ow (.lst [.str u, .int 1]))) (ε1 := goE xs T gs (.fz (.str u)) (.ow (.lst [.str u, .int 1]))) rfl (.inr rfl) (lst_run (ds := [.str u, .int 1]) (ss := [(none, .fz (.str u)), (none, .fz (.int 1))]) rfl rfl (by simp)) rfl (oNe_same sp (by omega))
    exact (if_no (or_no (bB_run i1) (bB_run i2))).trans rfl) ⟨_, _, rfl⟩
  obtain ⟨ε', e, j2, s3, rfl⟩ := go
  have z : b__law_gone_right_0 ([.fz (thD xs T), .fz (.lst (nms gs))] ++ List.replicate 3 Sl.un) = some (.rt (.fz (.bl true)) (goE xs T gs j2 s3)) := by
    show sSeq c__law_gone_right_0 c__law_gone_right_1 (goE xs T gs .un .un) = _
    rw [seq_run (show c__law_gone_right_0 (goE xs T gs .un .un) = _ from e)]
    rfl
  exact run_rt (n := 5) (f := b__law_gone_right_0) z
/-! ### names mixed, words -/
theorem c63 (j : Int) (h1 : 0 ≤ j) (h2 : j ≤ 1000) : (-9223372036854775808 : Int) ≤ j ∧ j < 9223372036854775808 := by omega
theorem mPop_at {xs : List D} {j : Int} {d : D} (h1 : 0 ≤ j) (h2 : j ≤ 1000) (hk : xs[j.toNat]? = some d) : mPop xs [.int j] = some (d, xs.eraseIdx j.toNat) := by
  have c := c63 j h1 h2
  have kl : j.toNat < xs.length := (List.getElem?_eq_some_iff.mp hk).1
  have sq : seqIndex? j xs.length = some j.toNat := by
    unfold seqIndex?
    have a : ¬ j < 0 := by omega
    have b : j < (xs.length : Nat) := by omega
    simp [a, b, h1]
  simp [mPop, c, sq, hk]
theorem pop_run {i : Nat} {f : FE} {ε ε1 : En} {ys xs : List D} {j : Int} {d : D} (h0 : ε[i]? = some (.ow (.lst ys))) (h : f ε = some (.v (.fz (.int j)) ε1)) (h1 : ε1[i]? = some (.ow (.lst xs))) (j0 : 0 ≤ j) (hk : xs[j.toNat]? = some d) (hl : xs.length ≤ 1000) : eMut mPop i (aCons f aNil) ε = some (.v (.fz d) (ε1.set i (.ow (.lst (xs.eraseIdx j.toNat))))) := by
  have kl : j.toNat < xs.length := (List.getElem?_eq_some_iff.mp hk).1
  have m := mPop_at j0 (by omega) hk
  unfold eMut
  rw [h0]
  simp only
  rw [cons_run (.inl rfl) h (show aNil ε1 = some (.v [] ε1) from rfl)]
  simp only [bnd_v]
  rw [h1, show asD [((none : Option Nat), Sl.fz (D.int j))] = some [.int j] from rfl]
  simp only [m]
theorem erase_nms (pk : List Str) : ∀ j : Nat, (nms pk).eraseIdx j = nms (pk.eraseIdx j) := by
  induction pk with
  | nil => intro j; rfl
  | cons a pk ih =>
    intro j
    cases j with
    | zero => rfl
    | succ j =>
      have := ih j
      simp only [nms, List.map_cons, List.eraseIdx_cons_succ] at this ⊢
      rw [this]
theorem erase_perm {α : Type} : ∀ (l : List α) (k : Nat) (h : k < l.length), (l[k] :: l.eraseIdx k).Perm l
  | a :: l, 0, _ => List.Perm.refl _
  | a :: l, k + 1, h => by
    have := erase_perm l k (by simpa using h)
    simp only [List.getElem_cons_succ, List.eraseIdx_cons_succ]
    exact (List.Perm.swap a _ _).trans (this.cons a)
theorem mix_go (l : D) : ∀ (ks : List Nat) (pk : List Str) (acc : List D) (x y : Int), ks.length = pk.length → Pot x y → acc.length + ks.length ≤ 1000 → ∃ us x' y', lcL (gN 3) bTrue (eMut mPop 2 (aCons (eCall 2 F__law_draw (aMu 0 (aCons (e1n oLen 2) (aNil)))) (aNil))) [3] (ks.map fun i => D.int (0 + (i : Nat))) [.ow (pot x y), .fz l, .ow (.lst (nms pk)), .un] acc = some (acc ++ nms us, [.ow (pot x' y'), .fz l, .ow (.lst []), .un]) ∧ us.Perm pk ∧ Pot x' y'
  | [], pk, acc, x, y, h, P, _ => by
    have : pk = [] := List.length_eq_zero_iff.mp h.symm
    subst this
    exact ⟨[], x, y, by simp [lcL], List.Perm.refl _, P⟩
  | i :: ks, pk, acc, x, y, h, P, hl => by
    have pl : 0 < pk.length := by rw [← h]; simp
    obtain ⟨k, x1, y1, e, k0, k1, P1⟩ := draw_ok P (m := (pk.length : Nat)) (by omega) (by simp at h hl; omega)
    have jl : k.toNat < pk.length := by omega
    have c : eCall 2 F__law_draw (aMu 0 (aCons (e1n oLen 2) (aNil))) [.ow (pot x y), .fz l, .ow (.lst (nms pk)), .fz (.int (0 + (i : Nat)))] = some (.v (.fz (.int k)) [.ow (pot x1 y1), .fz l, .ow (.lst (nms pk)), .fz (.int (0 + (i : Nat)))]) := by
      refine call2 (i := 0) (a := .fz (.int (pk.length : Nat))) (ε1 := [.ow (pot x y), .fz l, .ow (.lst (nms pk)), .fz (.int (0 + (i : Nat)))]) ?_ e
      have w : ((nms pk).length : Int) = (pk.length : Nat) := by simp
      rw [← w]
      rfl
    have p := pop_run (i := 2) (d := .str pk[k.toNat]) rfl c rfl k0 (by rw [List.getElem?_map, List.getElem?_eq_getElem jl]; rfl) (by simp at h hl ⊢; omega)
    rw [erase_nms] at p
    obtain ⟨us, x2, y2, e2, pm, P2⟩ := mix_go l ks (pk.eraseIdx k.toNat) (acc ++ [.str pk[k.toNat]]) x1 y1 (by rw [List.length_eraseIdx_of_lt jl]; simp at h; omega) P1 (by simp at hl ⊢; omega)
    refine ⟨pk[k.toNat] :: us, x2, y2, ?_, ?_, P2⟩
    · rw [List.map_cons]
      unfold lcL
      rw [show gN 3 (D.int (0 + (i : Nat))) [.ow (pot x y), .fz l, .ow (.lst (nms pk)), .un] = some [.ow (pot x y), .fz l, .ow (.lst (nms pk)), .fz (.int (0 + (i : Nat)))] from rfl]
      simp only [bTrue]
      rw [p]
      have sz : acc.length < sizeLine := by rw [sizeLine_eq]; simp at hl; omega
      simp only [sz, if_true]
      refine Eq.trans e2 ?_
      simp
    · exact (pm.cons _).trans (erase_perm pk _ jl)
theorem nms_of {xs : List Str} : ∀ ys : List D, (∀ d ∈ ys, d ∈ nms xs) → ∃ ws, ys = nms ws ∧ ∀ u ∈ ws, u ∈ xs
  | [], _ => ⟨[], rfl, by simp⟩
  | d :: ys, h => by
    obtain ⟨ws, rfl, hw⟩ := nms_of ys fun z hz => h z (by simp [hz])
    obtain ⟨u, hu, rfl⟩ := List.mem_map.mp (h d (by simp))
    exact ⟨u :: ws, rfl, fun v hv => by
      rcases List.mem_cons.mp hv with rfl | hv
      · exact hu
      · exact hw v hv⟩
theorem wordw_ok {x y : Int} (P : Pot x y) {xs : List Str} {T : Tb} (x0 : xs ≠ []) (x9 : xs.length ≤ 900) : ∃ ws x' y', F__law_word [.ow (pot x y), .fz (modT xs T), .fz (.int 6)] = some (.v (.ow (.lst (nms ws))) [.ow (pot x' y'), .fz (modT xs T), .fz (.int 6)]) ∧ (∀ u ∈ ws, u ∈ xs) ∧ ws.length ≤ 6 ∧ Pot x' y' := by
  obtain ⟨k, x1, y1, e, k0, k1, P1⟩ := draw_ok P (m := 7) (by omega) (by omega)
  have c : eCall 2 F__law_draw (aMu 0 (aCons (e2 oAdd (eV 2) (eC (.int 1))) (aNil))) [.ow (pot x y), .fz (modT xs T), .fz (.int 6), .un] = some (.v (.fz (.int k)) [.ow (pot x1 y1), .fz (modT xs T), .fz (.int 6), .un]) :=
    call2 (i := 0) (a := .fz (.int 7)) (ε1 := [.ow (pot x y), .fz (modT xs T), .fz (.int 6), .un]) rfl e
  have rg := rng_j (f := eCall 2 F__law_draw (aMu 0 (aCons (e2 oAdd (eV 2) (eC (.int 1))) (aNil)))) k0 (by omega) c
  obtain ⟨ys, x2, y2, e2, r2, P2⟩ := lc_pot (g := gN 3) (e := eCall 2 F__law_pick (aMu 0 (aCons (e2n oIx 1 (eC (.str "deeds"))) (aNil)))) (vs := [3]) (B := fun x y => [.ow (pot x y), .fz (modT xs T), .fz (.int 6), .un]) (E := fun x y d => [.ow (pot x y), .fz (modT xs T), .fz (.int 6), .fz d])
    (R := fun _ v => v ∈ nms xs) ((List.range k.toNat).map fun i => D.int (0 + (i : Nat))) [] (fun x y d _ => rfl) (fun x y d _ P => by
      obtain ⟨c, x', y', e, hc, P'⟩ := pick_ok (ds := nms xs) P (by simpa using x0) (by simp; omega)
      exact ⟨_, x', y', .inl (call2 (i := 0) (ε1 := [.ow (pot x y), .fz (modT xs T), .fz (.int 6), .fz d]) rfl e), hc, P'⟩) (fun x y d => rfl) (by simp; omega) x1 y1 P1
  obtain ⟨ws, rfl, hw⟩ := nms_of (xs := xs) ys fun d hd => by
    obtain ⟨_, _, r⟩ := r2.mem d hd
    exact r
  have hl := r2.len
  simp only [List.length_map, List.length_range] at hl
  refine ⟨ws, x2, y2, ?_, hw, by omega, P2⟩
  have z : b__law_word_0 ([.ow (pot x y), .fz (modT xs T), .fz (.int 6)] ++ List.replicate 1 Sl.un) = some (.rt (.ow (.lst (nms ws))) [.ow (pot x2 y2), .fz (modT xs T), .fz (.int 6), .un]) := by
    refine ret_run ?_
    unfold eLc
    show (match iRng1 _ [.ow (pot x y), .fz (modT xs T), .fz (.int 6), .un] with | some (.v ds ε1) => _ | some (.x c gs ε1) => _ | none => _) = _
    rw [rg]
    show (match lcL _ _ _ _ _ [.ow (pot x1 y1), .fz (modT xs T), .fz (.int 6), .un] [] with | some (ys, ε2) => _ | none => _) = _
    rw [e2]
    rfl
  exact run_rt (n := 4) (f := b__law_word_0) z
end Law

namespace Law
open PySem Mi
theorem elc_of {fi : FI} {g : FG} {t : FB} {e : FE} {vs : List Nat} {A A1 ε2 ε3 : En} {ds ys : List D} (hf : fi A = some (.v ds A1)) (hl : lcL g t e vs ds (wipeE A1 vs) [] = some (ys, ε2)) (hb : backE A1 ε2 vs = ε3) : eLc fi g t e vs A = some (.v (.ow (.lst ys)) ε3) := by
  unfold eLc
  rw [hf]
  simp only
  rw [hl]
  simp only
  rw [hb]
theorem rng_n {f : FE} {ε ε1 : En} {j : Int} {n : Nat} (hj : j = (n : Nat)) (h2 : n ≤ 1000) (h : f ε = some (.v (.fz (.int j)) ε1)) : iRng1 f ε = some (.v ((List.range n).map fun i => D.int (0 + (i : Nat))) ε1) := by
  have := rng_j (by omega) (by omega) h
  rwa [show j.toNat = n by omega] at this
theorem mixed_ok {x y : Int} (P : Pot x y) {xs : List Str} (h : xs.length ≤ 900) : ∃ us x' y', F__law_mixed [.ow (pot x y), .fz (.lst (nms xs))] = some (.v (.ow (.lst (nms us))) [.ow (pot x' y'), .fz (.lst (nms xs))]) ∧ us.Perm xs ∧ Pot x' y' := by
  obtain ⟨us, x', y', e, pm, P'⟩ := mix_go (.lst (nms xs)) (List.range xs.length) xs [] x y (by simp) P (by simp; omega)
  refine ⟨us, x', y', ?_, pm, P'⟩
  have rg := rng_n (f := e1n oLen 1) (ε := [.ow (pot x y), .fz (.lst (nms xs)), .ow (.lst (nms xs)), .un]) (ε1 := [.ow (pot x y), .fz (.lst (nms xs)), .ow (.lst (nms xs)), .un]) (j := ((nms xs).length : Int)) (n := xs.length) (by simp) (by omega) rfl
  have el := elc_of (ε3 := [.ow (pot x' y'), .fz (.lst (nms xs)), .ow (.lst []), .un]) rg e rfl
  rw [List.nil_append] at el
  have z : b__law_mixed_0 ([.ow (pot x y), .fz (.lst (nms xs))] ++ List.replicate 2 Sl.un) = some (.rt (.ow (.lst (nms us))) [.ow (pot x' y'), .fz (.lst (nms xs)), .ow (.lst []), .un]) := by
    show sSeq c__law_mixed_0 c__law_mixed_1 [.ow (pot x y), .fz (.lst (nms xs)), .un, .un] = _
    rw [seq_run (show c__law_mixed_0 [.ow (pot x y), .fz (.lst (nms xs)), .un, .un] = some (.nx [.ow (pot x y), .fz (.lst (nms xs)), .ow (.lst (nms xs)), .un]) from rfl)]
    exact ret_run el
  exact run_rt (n := 4) (f := b__law_mixed_0) z
end Law

namespace Law
open PySem Mi
/-- the data has a text, of at most l signs, of depth at most k -/
def Tx (l k : Nat) (d : D) : Prop := ∃ p, toTx d = some p ∧ p.showable = true ∧ p.shown.length ≤ l ∧ p.depth ≤ k
theorem Tx.mono {l k l' k' : Nat} {d : D} (h : Tx l k d) (h1 : l ≤ l') (h2 : k ≤ k') : Tx l' k' d := by
  obtain ⟨p, a, b, c, e⟩ := h
  exact ⟨p, a, b, by omega, by omega⟩
theorem Tx.repr {l k : Nat} {d : D} (h : Tx l k d) (h1 : l ≤ 1000000) (h2 : k ≤ 60) : ∃ t, oRepr d = some (.fz (.str t)) ∧ t.length ≤ l := by
  obtain ⟨p, a, b, c, e⟩ := h
  refine ⟨p.shown, ?_, c⟩
  unfold oRepr
  rw [a]
  simp only [Option.bind_some]
  rw [if_pos ⟨b, by rw [sizeLine_eq]; omega, by omega⟩]
theorem txL {l k : Nat} : ∀ ds : List D, (∀ d ∈ ds, Tx l k d) → ∃ ps, toTxL ds = some ps ∧ PyData.showableAll ps = true ∧ ((PyData.shownAll ps).map (·.length)).sum ≤ l * ds.length ∧ (PyData.shownAll ps).length = ds.length ∧ PyData.depthAll ps ≤ k
  | [], _ => ⟨[], rfl, rfl, by simp [PyData.shownAll], rfl, by simp [PyData.depthAll]⟩
  | d :: ds, h => by
    obtain ⟨p, e1, e2, e3, e4⟩ := h d (List.mem_cons_self ..)
    obtain ⟨ps, f1, f2, f3, f4, f5⟩ := txL ds fun z hz => h z (List.mem_cons_of_mem _ hz)
    refine ⟨p :: ps, by simp [toTxL, e1, f1], by simp [PyData.showableAll, e2, f2], ?_, by simp [PyData.shownAll, f4], ?_⟩
    · simp only [PyData.shownAll, List.map_cons, List.sum_cons, List.length_cons, Nat.mul_add, Nat.mul_one]
      omega
    · simp only [PyData.depthAll]
      omega
theorem tx_lst {l k m : Nat} {ds : List D} (h : ∀ d ∈ ds, Tx l k d) (hm : l * ds.length + 2 * ds.length + 3 ≤ m) : Tx m (k + 1) (.lst ds) := by
  obtain ⟨ps, f1, f2, f3, f4, f5⟩ := txL ds h
  refine ⟨.list ps, by simp [toTx, f1], by simp [PyData.showable, f2], ?_, by simp only [PyData.depth]; omega⟩
  have z := listText_len_le (PyData.shownAll ps)
  simp only [PyData.shown]
  omega
theorem tx_tup {l k m : Nat} {ds : List D} (h : ∀ d ∈ ds, Tx l k d) (hm : l * ds.length + 2 * ds.length + 3 ≤ m) : Tx m (k + 1) (.tup ds) := by
  obtain ⟨ps, f1, f2, f3, f4, f5⟩ := txL ds h
  refine ⟨.tuple ps, by simp [toTx, f1], by simp [PyData.showable, f2], ?_, by simp only [PyData.depth]; omega⟩
  have z := tupleText_len_le (PyData.shownAll ps)
  simp only [PyData.shown]
  omega
theorem tx_name {x : Str} (h : nameS x) : Tx 100 5 (.str x) := by
  refine ⟨.str x, rfl, rfl, ?_, by simp [PyData.depth]⟩
  have hx : ∀ c ∈ x.cps.toList, c < 16 ^ 8 := fun c hc => by
    have := h.al c hc
    have : ∀ c ∈ letters, c < 16 ^ 8 := by decide
    exact this c (h.al c hc)
  have e := StrLaws.reprText_len x hx
  have l2 := h.l2
  have e2 : x.length = x.cps.toList.length := by simp [Str.length]
  simp only [PyData.shown]
  omega
theorem tx_small {i : Int} (h0 : 0 ≤ i) (h1 : i ≤ 10) : Tx 100 5 (.int i) := by
  have h : i = 0 ∨ i = 1 ∨ i = 2 ∨ i = 3 ∨ i = 4 ∨ i = 5 ∨ i = 6 ∨ i = 7 ∨ i = 8 ∨ i = 9 ∨ i = 10 := by omega
  rcases h with rfl | rfl | rfl | rfl | rfl | rfl | rfl | rfl | rfl | rfl | rfl <;> exact ⟨_, rfl, by decide +kernel, by decide +kernel, by decide⟩
theorem tx_ent {e : Nat × Nat} (h1 : e.1 ≤ 10) (h2 : e.2 ≤ 10) : Tx 300 6 (entD e) :=
  tx_tup (l := 100) (k := 5) (fun d hd => by
    simp only [List.mem_cons, List.not_mem_nil, or_false] at hd
    rcases hd with rfl | rfl
    · exact tx_small (by omega) (by omega)
    · exact tx_small (by omega) (by omega)) (by simp)
/-- names and rows that have texts -/
structure Shw (xs : List Str) (T : Tb) : Prop where
  nm : ∀ x ∈ xs, nameS x
  x4 : xs.length ≤ 4
  t8 : T.length ≤ 8
  row : ∀ r ∈ T, r.length ≤ 4
  ent : ∀ r ∈ T, ∀ e ∈ r, e.1 < 10 ∧ e.2 < T.length
theorem tx_names {xs : List Str} {T : Tb} (S : Shw xs T) : Tx 1000 8 (.lst (nms xs)) :=
  (tx_lst (l := 100) (k := 5) (m := 1000) (ds := nms xs) (fun d hd => by
    obtain ⟨x, hx, rfl⟩ := List.mem_map.mp hd
    exact tx_name (S.nm x hx)) (by have := S.x4; simp; omega)).mono (by omega) (by omega)
theorem tx_rows {xs : List Str} {T : Tb} (S : Shw xs T) : Tx 20000 8 (.lst (T.map rowD)) :=
  tx_lst (l := 2000) (k := 7) (fun d hd => by
    obtain ⟨r, hr, rfl⟩ := List.mem_map.mp hd
    refine tx_lst (l := 300) (k := 6) (fun d hd => ?_) (by have := S.row r hr; simp; omega)
    obtain ⟨e, he, rfl⟩ := List.mem_map.mp hd
    have := S.ent r hr e he
    have := S.t8
    exact tx_ent (by omega) (by omega)) (by have := S.t8; simp; omega)
theorem tx_pair {xs : List Str} {T : Tb} (S : Shw xs T) : Tx 50000 9 (.lst [.lst (nms xs), .lst (T.map rowD)]) :=
  tx_lst (l := 20000) (k := 8) (fun d hd => by
    simp only [List.mem_cons, List.not_mem_nil, or_false] at hd
    rcases hd with rfl | rfl
    · exact (tx_names S).mono (by omega) (by omega)
    · exact tx_rows S) (by simp)
theorem tx_srt {F : List Nat} (h : ∀ x ∈ F, x ≤ 10) (hl : F.length ≤ 10) : Tx 2000 6 (.lst (srt F)) :=
  tx_lst (l := 100) (k := 5) (fun d hd => by
    obtain ⟨i, hi, rfl⟩ := List.mem_map.mp hd
    have hi : i ∈ F.map fun n => ((n : Nat) : Int) := by
      unfold sortI at hi
      exact List.mem_mergeSort.mp hi
    obtain ⟨n, hn, rfl⟩ := List.mem_map.mp hi
    have := h n hn
    exact tx_small (by omega) (by omega)) (by rw [srt_len]; omega)
theorem str_app (a b : Str) : (a ++ b).length = a.length + b.length := by
  show (a.cps ++ b.cps).size = _
  rw [Array.size_append]
  rfl
theorem fs_step {f : FE} {fs : List FE} {acc y : Str} {ε ε1 : En} {r : Option (R Sl)} (h : f ε = some (.v (.fz (.str y)) ε1)) (hl : (acc ++ y).length ≤ 1000000) (hr : fsL fs (acc ++ y) ε1 = r) : fsL (f :: fs) acc ε = r := by
  unfold fsL
  rw [h]
  simp only [bf_fz, wk_str]
  rw [if_pos (by rw [sizeLine_eq]; omega), hr]
theorem repr_ok {xs : List Str} {T : Tb} (S : Shw xs T) : ∃ t, F_Thing___repr__ [.fz (thD xs T)] = some (.v (.fz (.str t)) [.fz (thD xs T)]) := by
  obtain ⟨a, ha, la⟩ := (tx_names S).repr (by omega) (by omega)
  obtain ⟨b, hb, lb⟩ := (tx_rows S).repr (by omega) (by omega)
  refine ⟨((((Str.empty ++ ("Thing(" : Str)) ++ a) ++ (", " : Str)) ++ b) ++ (")" : Str), ?_⟩
  have l0 : (Str.empty : Str).length = 0 := rfl
  have l1 : ("Thing(" : Str).length = 6 := by decide +kernel
  have l2 : (", " : Str).length = 2 := by decide +kernel
  have l3 : (")" : Str).length = 1 := by decide +kernel
  have d := e1_run (op := oRepr) (.inr rfl) (e1p_run (fa := eV 0) (ε := [.fz (thD xs T)]) (.inl rfl) rfl (deeds_ok xs T)) ha
  have w := e1_run (op := oRepr) (.inr rfl) (methF (c := "Thing") (m := "rows") (np := 1) (rv := false) (fo := eV 0) (fa := aNil) (ε := [.fz (thD xs T)]) (ε2 := [.fz (thD xs T)]) (ss := []) [] rfl (.inl rfl) rfl rfl rfl (rows_ok (xs := xs) (T := T) (by have := S.t8; omega))) hb
  have z : b_Thing___repr___0 ([.fz (thD xs T)] ++ List.replicate 0 Sl.un) = some (.rt (.fz (.str (((((Str.empty ++ ("Thing(" : Str)) ++ a) ++ (", " : Str)) ++ b) ++ (")" : Str)))) [.fz (thD xs T)]) := by
    refine ret_run ?_
    refine fs_step (ε1 := [.fz (thD xs T)]) rfl (by rw [str_app]; omega) (fs_step d (by rw [str_app, str_app]; omega) (fs_step (ε1 := [.fz (thD xs T)]) rfl (by rw [str_app, str_app, str_app]; omega) (fs_step w (by rw [str_app, str_app, str_app, str_app]; omega) (fs_step (ε1 := [.fz (thD xs T)]) rfl (by rw [str_app, str_app, str_app, str_app, str_app]; omega) rfl))))
  exact run_rt (n := 1) (f := b_Thing___repr___0) z
end Law

namespace Law
open PySem Mi
/-! ### a part's names and rows, plainly -/
theorem sel_at {xs : List Str} {ps : List Nat} (hp : ∀ p ∈ ps, p < xs.length) {j p : Nat} (h : ps[j]? = some p) : (sel xs ps)[j]? = xs[p]? := by
  have pl := hp p (List.mem_of_getElem? h)
  unfold sel
  rw [List.getElem?_map, h]
  simp [pl]
theorem sel_mem {xs us : List Str} {u : Str} (hu : u ∈ us) (hx : u ∈ xs) : u ∈ sel xs (plc xs us) := by
  obtain ⟨i, hi, e⟩ := List.mem_iff_getElem.mp hx
  refine List.mem_map.mpr ⟨i, List.mem_filter.mpr ⟨List.mem_range.mpr hi, ?_⟩, ?_⟩
  · rw [List.getElem?_eq_getElem hi]
    simpa [e] using hu
  · rw [List.getElem?_eq_getElem hi]
    simpa using e
theorem sel_sub {xs us : List Str} {u : Str} (h : u ∈ sel xs (plc xs us)) : u ∈ us ∧ u ∈ xs := by
  obtain ⟨p, hp, rfl⟩ := List.mem_map.mp h
  have pl := plc_lt p hp
  have := (List.mem_filter.mp hp).2
  refine ⟨by simpa using this, ?_⟩
  rw [List.getElem?_eq_getElem pl]
  exact List.getElem_mem _
theorem sel_len (xs : List Str) (ps : List Nat) : (sel xs ps).length = ps.length := by simp [sel]
theorem idx_sel {xs : List Str} (nd : xs.Nodup) {ps : List Nat} (hp : ∀ p ∈ ps, p < xs.length) {j p : Nat} (h : ps[j]? = some p) {u : Str} (hu : (sel xs ps)[j]? = some u) : xs.idxOf u = p := by
  have pl := hp p (List.mem_of_getElem? h)
  rw [sel_at hp h, List.getElem?_eq_getElem pl] at hu
  cases hu
  exact nd.idxOf_getElem p pl
theorem idx_map {xs : List Str} (nd : xs.Nodup) {ps : List Nat} (hp : ∀ p ∈ ps, p < xs.length) : (sel xs ps).map (fun u => xs.idxOf u) = ps := by
  refine List.ext_getElem (by simp [sel]) fun j h1 h2 => ?_
  rw [List.getElem_map]
  exact idx_sel nd hp (List.getElem?_eq_getElem h2) (List.getElem?_eq_getElem (by rw [sel_len]; exact h2))
theorem sel_nd {xs : List Str} (nd : xs.Nodup) {ps : List Nat} (hp : ∀ p ∈ ps, p < xs.length) (hn : ps.Nodup) : (sel xs ps).Nodup := by
  have e := idx_map nd hp
  rw [← e] at hn
  rw [List.Nodup, List.pairwise_map] at hn
  exact hn.imp fun h z => h (by rw [z])
/-- the place in the part, of a name of the part -/
theorem ps_idx {xs : List Str} (nd : xs.Nodup) {ps : List Nat} (hp : ∀ p ∈ ps, p < xs.length) {u : Str} (hu : u ∈ sel xs ps) : ps[(sel xs ps).idxOf u]? = some (xs.idxOf u) := by
  have il : (sel xs ps).idxOf u < (sel xs ps).length := List.idxOf_lt_length_iff.mpr hu
  have il2 : (sel xs ps).idxOf u < ps.length := by rw [sel_len] at il; exact il
  have e : (sel xs ps)[(sel xs ps).idxOf u] = u := List.getElem_idxOf il
  have := idx_sel nd hp (List.getElem?_eq_getElem il2) (u := u) (by rw [List.getElem?_eq_getElem il, e])
  rw [this, List.getElem?_eq_getElem il2]
/-- all of the part's own names -/
theorem plc_self (ys : List Str) : plc ys ys = List.range ys.length := by
  unfold plc
  refine List.filter_eq_self.mpr fun p hp => ?_
  have pl := List.mem_range.mp hp
  rw [List.getElem?_eq_getElem pl]
  simp
theorem plc_all {xs us : List Str} (h : ∀ x ∈ xs, x ∈ us) : plc xs us = List.range xs.length := by
  unfold plc
  refine List.filter_eq_self.mpr fun p hp => ?_
  have pl := List.mem_range.mp hp
  rw [List.getElem?_eq_getElem pl]
  simpa using h _ (List.getElem_mem _)
theorem sel_range (ys : List Str) : sel ys (List.range ys.length) = ys := by
  refine List.ext_getElem (by simp [sel]) fun i h1 h2 => ?_
  simp [sel, h2]
/-- the runS of a part goes along -/
theorem run_sim {T : Tb} {xs : List Str} (nd : xs.Nodup) {ps F : List Nat} (hp : ∀ p ∈ ps, p < xs.length) {s : Nat} (h0 : F[0]? = some s) (clo : ∀ x ∈ F, ∀ p ∈ ps, (st T x p).2 ∈ F) (ws : List Str) (hw : ∀ u ∈ ws, u ∈ sel xs ps) :
    (runS (ren T ps F) 0 (ws.map fun u => (sel xs ps).idxOf u)).1 = (runS T s (ws.map fun u => xs.idxOf u)).1 ∧ F[(runS (ren T ps F) 0 (ws.map fun u => (sel xs ps).idxOf u)).2]? = some (runS T s (ws.map fun u => xs.idxOf u)).2 := by
  revert hw
  refine snoc_ind (P := fun ws => (∀ u ∈ ws, u ∈ sel xs ps) → (runS (ren T ps F) 0 (ws.map fun u => (sel xs ps).idxOf u)).1 = (runS T s (ws.map fun u => xs.idxOf u)).1 ∧ F[(runS (ren T ps F) 0 (ws.map fun u => (sel xs ps).idxOf u)).2]? = some (runS T s (ws.map fun u => xs.idxOf u)).2) ws (fun _ => ⟨rfl, h0⟩) fun l u ih hw => ?_
  obtain ⟨i1, i2⟩ := ih fun v hv => hw v (by simp [hv])
  have pi := ps_idx nd hp (hw u (by simp))
  simp only [List.map_append, List.map_cons, List.map_nil]
  rw [run_snoc, run_snoc]
  have e := ren_st (T := T) i2 pi
  rw [e]
  refine ⟨by rw [i1], ?_⟩
  have m : (st T (runS T s (l.map fun u => xs.idxOf u)).2 (xs.idxOf u)).2 ∈ F := clo _ (List.mem_of_getElem? i2) _ (List.mem_of_getElem? pi)
  have il := List.idxOf_lt_length_iff.mpr m
  rw [List.getElem?_eq_getElem il, List.getElem_idxOf il]
/-- what a part is -/
theorem part_okm {xs : List Str} {T : Tb} (M : Okm xs T) {us : List Str} (u0 : us ≠ []) (hu : ∀ u ∈ us, u ∈ xs) {s : Nat} (hs : s < T.length) : Okm (sel xs (plc xs us)) (ren T (plc xs us) (met T (plc xs us) s)) ∧ MetOk T (plc xs us) T.length s (met T (plc xs us) s) := by
  have t8 := M.t8
  have x4 := M.x4
  have K := met_ok (T := T) (ps := plc xs us) (n := T.length) (s := s) (by omega) hs (tab_lt M.tab plc_lt)
  generalize met T (plc xs us) s = F at K
  refine ⟨?_, K⟩
  have fl := nodup_lt K.nd K.lt
  have f0 : 0 < F.length := (List.getElem?_eq_some_iff.mp K.at0).1
  have pl := plc_len xs us
  have rl : (ren T (plc xs us) F).length = F.length := by simp [ren]
  refine ⟨⟨sel_nd M.nm.nd plc_lt (plc_nd xs us), fun x hx => M.nm.al x (sel_sub hx).2⟩, ?_, by rw [sel_len]; omega, fun z => ?_, by rw [rl]; omega, ⟨fun r hr => ?_, fun r hr e he => ?_⟩⟩
  · obtain ⟨u, r, e⟩ := List.exists_cons_of_ne_nil u0
    have : u ∈ us := by rw [e]; simp
    exact List.ne_nil_of_mem (sel_mem this (hu u this))
  · have : (ren T (plc xs us) F).length = 0 := by rw [z]; rfl
    omega
  · obtain ⟨x, _, rfl⟩ := List.mem_map.mp hr
    rw [sel_len]
    simp
  · obtain ⟨x, hx, rfl⟩ := List.mem_map.mp hr
    obtain ⟨p, hp, rfl⟩ := List.mem_map.mp he
    obtain ⟨_, _, _, _, a, _⟩ := st_at M.tab (K.lt x hx) (plc_lt p hp)
    refine ⟨a, ?_⟩
    rw [rl]
    exact List.idxOf_lt_length_iff.mpr (K.clo x hx p hp)
theorem okm_shw {xs : List Str} {T : Tb} (M : Okm xs T) : Shw xs T := ⟨M.nm.al, M.x4, M.t8, fun r hr => by rw [M.tab.len r hr]; exact M.x4, M.tab.ent⟩
/-- of the model -/
theorem model_tab {xs : List Str} {rs : List D} (M : Model xs rs) : ∃ T : Tb, rs = T.map rowD ∧ Okm xs T := by
  have one : ∀ r ∈ rs, ∃ q : List (Nat × Nat), r = rowD q ∧ q.length = xs.length ∧ ∀ e ∈ q, e.1 < 10 ∧ e.2 < rs.length := fun r hr => by
    obtain ⟨es, rfl, hl, he⟩ := (M.row r hr).ex
    have go : ∀ es : List D, (∀ e ∈ es, Ent rs.length e) → ∃ q : List (Nat × Nat), es = q.map entD ∧ ∀ e ∈ q, e.1 < 10 ∧ e.2 < rs.length := by
      intro es
      induction es with
      | nil => exact fun _ => ⟨[], rfl, by simp⟩
      | cons e es ih =>
        intro h
        obtain ⟨q, rfl, hq⟩ := ih fun z hz => h z (by simp [hz])
        obtain ⟨a, l, rfl, a0, a1, l0, l1⟩ := (h e (by simp)).ex
        refine ⟨(a.toNat, l.toNat) :: q, ?_, fun z hz => ?_⟩
        · rw [List.map_cons]
          show _ = D.tup [.int (a.toNat : Nat), .int (l.toNat : Nat)] :: _
          rw [Int.toNat_of_nonneg a0, Int.toNat_of_nonneg l0]
        · rcases List.mem_cons.mp hz with rfl | hz
          · exact ⟨by show a.toNat < 10; omega, by show l.toNat < rs.length; omega⟩
          · exact hq z hz
    obtain ⟨q, rfl, hq⟩ := go es he
    exact ⟨q, rfl, by simp at hl; omega, hq⟩
  have all : ∀ (m n : Nat) (rs : List D), (∀ r ∈ rs, ∃ q : List (Nat × Nat), r = rowD q ∧ q.length = m ∧ ∀ e ∈ q, e.1 < 10 ∧ e.2 < n) → ∃ T : Tb, rs = T.map rowD ∧ ∀ r ∈ T, r.length = m ∧ ∀ e ∈ r, e.1 < 10 ∧ e.2 < n := by
    intro m n rs
    induction rs with
    | nil => exact fun _ => ⟨[], rfl, by simp⟩
    | cons r rs ih =>
      intro h
      obtain ⟨T, rfl, hT⟩ := ih fun z hz => h z (by simp [hz])
      obtain ⟨q, rfl, h1, h2⟩ := h r (by simp)
      refine ⟨q :: T, rfl, fun z hz => ?_⟩
      rcases List.mem_cons.mp hz with rfl | hz
      · exact ⟨h1, h2⟩
      · exact hT z hz
  obtain ⟨T, rfl, hT⟩ := all _ _ rs one
  have r1 := M.r1
  have r4 := M.r4
  have n1 := M.n1
  rw [List.length_map] at r1 r4
  refine ⟨T, rfl, M.nm, fun z => by rw [z] at n1; simp at n1, M.n3, fun z => by rw [z] at r1; simp at r1, r4, ⟨fun r hr => (hT r hr).1, fun r hr e he => ?_⟩⟩
  have := (hT r hr).2 e he
  rwa [List.length_map] at this
end Law

namespace Law
open PySem Mi
/-! ### steps -/
theorem sl_run {fa fb : FE} {ε ε1 ε2 : En} {ds : List D} {k : Int} {n : Nat} (ha : fa ε = some (.v (.ow (.lst ds)) ε1)) (hb : fb ε1 = some (.v (.fz (.int k)) ε2)) (hk : k = (n : Nat)) (hn : n ≤ ds.length) : eSl fa fNo (fPart fb) ε = some (.v (.ow (.lst (ds.take n))) ε2) := by
  subst hk
  unfold eSl
  rw [ha]
  simp only [bf_ow, fNo, bnd_v]
  unfold fPart
  rw [hb]
  simp only [bf_fz, wk_int, bnd_v, oSl]
  rw [cut_take ds n hn]
  rfl
theorem par_run {i j : Nat} {f g : FE} {s t : Sl} {ε ε1 ε2 : En} (h1 : f ε = some (.v s ε1)) (h2 : g ε1 = some (.v t ε2)) : sPar [i, j] (kCons f (kCons g kNil)) ε = some (.nx (setE ε2 [i, j] [s, t])) := by
  unfold sPar kCons
  rw [h1]
  simp only [bnd_v]
  rw [h2]
  rfl
theorem bor_run {i : Nat} {f : FE} {d : D} {ε ε1 ε2 : En} {s : Sl} (hi : ε[i]? = some (.ow d)) (hl : lentD d = true) (hf : f ((maskB ε).set i (.fz d)) = some (.v s ε1)) (hn : nolS s = true) (hu : unB (ε.set i .un) ε1 = some ε2) : eBor i f ε = some (.v s (ε2.set i (.ow d))) := by
  unfold eBor
  rw [hi]
  simp only [hl, if_true]
  rw [hf]
  simp only [hn, if_true]
  rw [hu]
  rfl
theorem nolL_of : ∀ ds : List D, (∀ d ∈ ds, nol d = true) → nolL ds = true
  | [], _ => rfl
  | d :: ds, h => by
    unfold nolL
    rw [h d (by simp), nolL_of ds fun z hz => h z (by simp [hz])]
    rfl
theorem nol_nms (xs : List Str) : nolL (nms xs) = true := nolL_of _ fun d hd => by
  obtain ⟨x, _, rfl⟩ := List.mem_map.mp hd
  rfl
theorem nol_th (xs : List Str) (T : Tb) : nolS (.ow (thD xs T)) = true := by
  have a : nolL (T.map prow) = true := nolL_of _ fun d hd => by
    obtain ⟨r, _, rfl⟩ := List.mem_map.mp hd
    exact nolL_of _ fun d hd => by
      obtain ⟨e, _, rfl⟩ := List.mem_map.mp hd
      rfl
  have b := nol_nms xs
  show (nol (.ptp (nms xs)) && (nol (.ptp (T.map prow)) && true)) = true
  show (nolL (nms xs) && (nolL (T.map prow) && true)) = true
  rw [a, b]
  rfl
theorem names_idx (u : Str) : ∀ (xs : List Str) (k : Nat), u ∈ xs → idxV (.str u) (xs.map L2.V.str) k = some (k + xs.idxOf u)
  | [], _, h => by cases h
  | y :: xs, k, h => by
    rw [List.map_cons]
    unfold idxV
    by_cases e : y = u
    · subst e
      simp [L2.eqV]
    · have h2 : u ∈ xs := by
        rcases List.mem_cons.mp h with h | h
        · exact absurd h.symm e
        · exact h
      have ih := names_idx u xs (k + 1) h2
      have t : (y == u) = false := by simpa using e
      have q2 : L2.eqV (.str y) (.str u) = false := by simp [L2.eqV, e]
      rw [q2, if_neg (by simp)]
      have w : (y :: xs).idxOf u = xs.idxOf u + 1 := by rw [List.idxOf_cons, t]; rfl
      rw [w]
      exact ih.trans (congrArg some (by omega))
theorem idxs_run {fo fa : FE} {ε ε1 ε2 : En} {xs : List Str} {u : Str} (ho : fo ε = some (.v (.fz (.lst (nms xs))) ε1)) (ha : fa ε1 = some (.v (.fz (.str u)) ε2)) (hu : u ∈ xs) : eIdx fo fa ε = some (.v (.fz (.int (xs.idxOf u : Nat))) ε2) := by
  unfold eIdx
  rw [ho]
  simp only [bf_fz, wk_lst, lsts]
  rw [ha]
  simp only [bf_fz, wk_str, toVs_str, toV]
  rw [names_idx u xs 0 hu]
  simp
/-! ### the law's own walk over a part -/
abbrev qE (p : D) (xs : List Str) (T : Tb) (s : Nat) (s4 s5 s6 s7 s9 s10 s11 s12 : Sl) : En := [.ow p, .fz (modT xs T), .fz (thD xs T), .fz (.int (s : Nat)), s4, s5, s6, s7, .un, s9, s10, s11, s12, .un]
theorem q_0 {x y : Int} (P : Pot x y) {xs : List Str} {T : Tb} (M : Okm xs T) (s : Nat) : ∃ us x' y', c__law_parts_right_0 (qE (pot x y) xs T s .un .un .un .un .un .un .un .un) = some (.nx (qE (pot x' y') xs T s (.ow (.lst (nms us))) .un .un .un .un .un .un .un)) ∧ us ≠ [] ∧ us.Nodup ∧ (∀ u ∈ us, u ∈ xs) ∧ Pot x' y' := by
  have x4 := M.x4
  have xl : 0 < xs.length := List.length_pos_iff.mpr M.x0
  obtain ⟨vs, x1, y1, em, pm, P1⟩ := mixed_ok P (xs := xs) (by omega)
  obtain ⟨k, x2, y2, ed, k0, k1, P2⟩ := draw_ok P1 (m := ((nms xs).length : Int)) (by simp; omega) (by simp; omega)
  simp only [List.length_map] at k1
  have vl := pm.length_eq
  refine ⟨vs.take (k.toNat + 1), x2, y2, ?_, ?_, ?_, ?_, P2⟩
  · have c1 := call2 (Fd := F__law_mixed) (fa := (aMu 0 (aCons (e2n oIx 1 (eC (.str "deeds"))) (aNil)))) (i := 0) (ε := qE (pot x y) xs T s .un .un .un .un .un .un .un .un) (ε1 := qE (pot x y) xs T s .un .un .un .un .un .un .un .un) rfl em
    have c2 := call2 (Fd := F__law_draw) (fa := (aMu 0 (aCons (e1 oLen (e2n oIx 1 (eC (.str "deeds")))) (aNil)))) (i := 0) (ε := qE (pot x1 y1) xs T s .un .un .un .un .un .un .un .un) (ε1 := qE (pot x1 y1) xs T s .un .un .un .un .un .un .un .un) rfl ed
    have c3 := e2_run (op := oAdd) (fa := eC (.int 1)) (ε := qE (pot x1 y1) xs T s .un .un .un .un .un .un .un .un) (x := .int 1) (.inl rfl) (.inl rfl) rfl c2 (show oAdd (.int 1) (.int k) = some (.fz (.int (1 + k))) from rfl)
    have c4 := sl_run (n := k.toNat + 1) c1 c3 (by omega) (by simp; omega)
    have w : (nms vs).take (k.toNat + 1) = nms (vs.take (k.toNat + 1)) := by simp [nms, List.map_take]
    rw [w] at c4
    exact set_run (i := 4) c4
  · intro z
    have : (vs.take (k.toNat + 1)).length = 0 := by rw [z]; rfl
    rw [List.length_take] at this
    omega
  · exact (pm.nodup_iff.mpr M.nm.nd).sublist (List.take_sublist _ _)
  · intro u hu
    exact pm.mem_iff.mp (List.mem_of_mem_take hu)
end Law

namespace Law
open PySem Mi
/-- all that the walk asks of a part -/
structure Prt (xs : List Str) (T : Tb) (s : Nat) (us ys : List Str) (U : Tb) (F ps : List Nat) : Prop where
  M : Okm xs T
  hs : s < T.length
  un : ∀ u ∈ us, nameS u
  N : Okm ys U
  law : F__law_part [.fz (modT xs T), .fz (.int (s : Nat)), .fz (.lst (nms us))] = some (.v (.ow (modT ys U)) [.fz (modT xs T), .fz (.int (s : Nat)), .fz (.lst (nms us))])
  part : ∀ b, F_Thing_part [.fz (thD xs T), .fz (.int (s : Nat)), .fz (argD b us)] = some (.v (.ow (thD ys U)) [.fz (thD xs T), .fz (.int (s : Nat)), .fz (argD b us)])
  self : F_Thing_part [.fz (thD ys U), .fz (.int (0 : Nat)), .fz (argD true ys)] = some (.v (.ow (thD ys U)) [.fz (thD ys U), .fz (.int (0 : Nat)), .fz (argD true ys)])
  rch : F_Thing_reached [.fz (thD ys U), .fz (.int (0 : Nat))] = some (.v (.ow (.lst (nbs (List.range U.length)))) [.fz (thD ys U), .fz (.int (0 : Nat))])
  gone : ∀ u, u ∉ us → u ∉ ys
  sub : ∀ u ∈ ys, u ∈ xs
  idx : ys.map (fun u => xs.idxOf u) = ps
  met : F__law_met [.fz (modT xs T), .fz (.int (s : Nat)), .fz (.lst (nbs ps))] = some (.v (.ow (.lst (nbs F))) [.fz (modT xs T), .fz (.int (s : Nat)), .fz (.lst (nbs ps))])
  sim : ∀ ws : List Str, (∀ u ∈ ws, u ∈ ys) → (runS U 0 (ws.map fun u => ys.idxOf u)).1 = (runS T s (ws.map fun u => xs.idxOf u)).1 ∧ F[(runS U 0 (ws.map fun u => ys.idxOf u)).2]? = some (runS T s (ws.map fun u => xs.idxOf u)).2
theorem prt_ok {xs : List Str} {T : Tb} (M : Okm xs T) {s : Nat} (hs : s < T.length) {us : List Str} (u0 : us ≠ []) (nd : us.Nodup) (hu : ∀ u ∈ us, u ∈ xs) : ∃ ys U F ps, Prt xs T s us ys U F ps := by
  obtain ⟨N, K⟩ := part_okm M u0 hu hs
  have t8 := M.t8
  have x4 := M.x4
  have mr := met_ren (T := T) (ps := plc xs us) (n := T.length) (s := s) (by omega) hs (tab_lt M.tab plc_lt)
  have lw := lawpart_ok (xs := xs) M.tab (by omega) (by omega) hs us
  have pt := fun b => part_ok (xs := xs) M.tab (by omega) (by omega) hs b u0 nd hu
  have ml := met_law (xs := xs) M.tab (by omega) (ps := plc xs us) plc_lt hs
  generalize hF : met T (plc xs us) s = F at N K mr lw pt ml
  have fl := nodup_lt K.nd K.lt
  have f0 : 0 < F.length := (List.getElem?_eq_some_iff.mp K.at0).1
  have rl : (ren T (plc xs us) F).length = F.length := by simp [ren]
  have rr := ren_ren (T := T) K.nd K.clo
  have sm : ∀ ws : List Str, _ := fun ws => run_sim (T := T) (xs := xs) M.nm.nd (ps := plc xs us) (F := F) plc_lt K.at0 K.clo ws
  have yl : (sel xs (plc xs us)).length = (plc xs us).length := sel_len _ _
  have n8 := N.t8
  have n4 := N.x4
  have rc := reached_ok (xs := sel xs (plc xs us)) N.tab (by omega) (by omega) (s := 0) (by omega)
  have sf := part_ok (xs := sel xs (plc xs us)) N.tab (by omega) (by omega) (s := 0) (by omega) true N.x0 N.nm.nd (fun u h => h)
  rw [yl, mr, srt_range] at rc
  rw [plc_self, sel_range, yl, mr, rr] at sf
  refine ⟨sel xs (plc xs us), ren T (plc xs us) F, F, plc xs us, M, hs, fun u h => M.nm.al u (hu u h), N, lw, pt, sf, by rw [rl]; exact rc, fun u h z => h (sel_sub z).1, fun u h => (sel_sub h).2, idx_map M.nm.nd plc_lt, ml, sm⟩
section
variable {p : D} {xs : List Str} {T : Tb} {s : Nat} {us ys : List Str} {U : Tb} {F ps : List Nat}
theorem q_1 (H : Prt xs T s us ys U F ps) : c__law_parts_right_1 (qE p xs T s (.ow (.lst (nms us))) .un .un .un .un .un .un .un) = some (.nx (qE p xs T s (.fz (.lst (nms us))) (.ow (modT ys U)) (.ow (.lst (nms us))) .un .un .un .un .un)) := by
  have c1 := callF (F := F__law_part) (np := 3) (fa := aCons (eV 1) (aCons (eV 3) (aCons (eV 4) (aNil)))) (ε := qE p xs T s (.ow (.lst (nms us))) .un .un .un .un .un .un .un) (ε1 := qE p xs T s (.fz (.lst (nms us))) .un .un .un .un .un .un .un) [modT xs T, .int (s : Nat), .lst (nms us)] rfl H.law
  exact par_run (i := 5) (j := 6) c1 (show e1 oToList (eV 4) (qE p xs T s (.fz (.lst (nms us))) .un .un .un .un .un .un .un) = some (.v (.ow (.lst (nms us))) (qE p xs T s (.fz (.lst (nms us))) .un .un .un .un .un .un .un)) from rfl)
theorem q_2 (H : Prt xs T s us ys U F ps) {x y : Int} : c__law_parts_right_2 (qE (pot x y) xs T s (.fz (.lst (nms us))) (.ow (modT ys U)) (.ow (.lst (nms us))) .un .un .un .un .un) = some (.nx (qE (pot x y) xs T s (.fz (.lst (nms us))) (.ow (modT ys U)) (.ow (.lst (nms us))) (.ow (thD ys U)) .un .un .un .un)) := by
  have c := methF (c := "Thing") (m := "part") (np := 3) (F := F_Thing_part) (rv := false) (fo := eV 2) (fa := aCons (eV 3) (aCons (eV 6) (aNil))) (ε := qE (pot x y) xs T s (.fz (.lst (nms us))) .un (.fz (.lst (nms us))) .un .un .un .un .un) (ε2 := qE (pot x y) xs T s (.fz (.lst (nms us))) .un (.fz (.lst (nms us))) .un .un .un .un .un) (ss := [(none, .fz (.int (s : Nat))), (none, .fz (.lst (nms us)))]) [.int (s : Nat), .lst (nms us)] rfl (.inl rfl) rfl rfl rfl (H.part true)
  have b := bor_run (i := 6) (f := eMeth "Thing" "part" 3 F_Thing_part false (eV 2) (aCons (eV 3) (aCons (eV 6) (aNil)))) (d := .lst (nms us)) (ε := qE (pot x y) xs T s (.fz (.lst (nms us))) (.ow (modT ys U)) (.ow (.lst (nms us))) .un .un .un .un .un) (ε2 := qE (pot x y) xs T s (.fz (.lst (nms us))) (.ow (modT ys U)) .un .un .un .un .un .un) rfl rfl c (nol_th ys U) rfl
  exact set_run (i := 7) b
theorem q_3 (H : Prt xs T s us ys U F ps) {s7 : Sl} : c__law_parts_right_3 (qE p xs T s (.fz (.lst (nms us))) (.ow (modT ys U)) (.ow (.lst (nms us))) s7 .un .un .un .un) = some (.nx (qE p xs T s (.fz (.lst (nms us))) (.ow (modT ys U)) (.ow (.lst (nms us))) s7 .un .un .un .un)) := by
  have t : e2nn oNe 6 4 (qE p xs T s (.fz (.lst (nms us))) (.ow (modT ys U)) (.ow (.lst (nms us))) s7 .un .un .un .un) = some (.v (.fz (.bl false)) (qE p xs T s (.fz (.lst (nms us))) (.ow (modT ys U)) (.ow (.lst (nms us))) s7 .un .un .un .un)) := by
    unfold e2nn
    show Mi.ret (oNe (.lst (nms us)) (.lst (nms us))) _ = _
    rw [oNe_same (sp_lst (sp_nms H.un)) (by omega)]
    rfl
  exact (if_no (bB_run t)).trans rfl
theorem q_45 {s5 s7 : Sl} (hl : us.length ≤ 900) : sSeq c__law_parts_right_4 c__law_parts_right_5 (qE p xs T s (.fz (.lst (nms us))) s5 (.ow (.lst (nms us))) s7 .un .un .un .un) = some (.nx (qE p xs T s (.fz (.lst (nms us))) s5 (.ow (.lst ((nms us).reverse ++ [.str "zzz"]))) s7 .un .un .un .un)) := by
  rw [seq_run (show c__law_parts_right_4 (qE p xs T s (.fz (.lst (nms us))) s5 (.ow (.lst (nms us))) s7 .un .un .un .un) = some (.nx (qE p xs T s (.fz (.lst (nms us))) s5 (.ow (.lst (nms us).reverse)) s7 .un .un .un .un)) from rfl)]
  exact app_run (i := 6) (f := eC (.str "zzz")) (ys := (nms us).reverse) (xs := (nms us).reverse) (.inl rfl) rfl rfl rfl (by simp; omega)
theorem q_6 (H : Prt xs T s us ys U F ps) {s6 : Sl} : c__law_parts_right_6 (qE p xs T s (.fz (.lst (nms us))) (.ow (modT ys U)) s6 (.ow (thD ys U)) .un .un .un .un) = some (.nx (qE p xs T s (.fz (.lst (nms us))) (.fz (modT ys U)) s6 (.fz (thD ys U)) .un .un .un .un)) := by
  have c := callF (F := F__law_thing) (np := 1) (fa := aCons (eV 5) (aNil)) (ε := qE p xs T s (.fz (.lst (nms us))) (.ow (modT ys U)) s6 (.fz (thD ys U)) .un .un .un .un) (ε1 := qE p xs T s (.fz (.lst (nms us))) (.fz (modT ys U)) s6 (.fz (thD ys U)) .un .un .un .un) [modT ys U] rfl (thing_ok H.N _ (.inl rfl))
  have t1 := (e2o_run (fa := eV 7) (ε := qE p xs T s (.fz (.lst (nms us))) (.ow (modT ys U)) s6 (.ow (thD ys U)) .un .un .un .un) (.inl rfl) (.inr rfl) rfl c (eq_ok H.N.nm.al)).1
  obtain ⟨t, ht, _⟩ := (tx_pair (okm_shw H.N)).repr (by omega) (by omega)
  have n8 := H.N.t8
  have d := e1p_run (fa := eV 7) (ε := qE p xs T s (.fz (.lst (nms us))) (.fz (modT ys U)) s6 (.fz (thD ys U)) .un .un .un .un) (.inl rfl) rfl (deeds_ok ys U)
  have r := methF (c := "Thing") (m := "rows") (np := 1) (rv := false) (fo := eV 7) (fa := aNil) (ε := qE p xs T s (.fz (.lst (nms us))) (.fz (modT ys U)) s6 (.fz (thD ys U)) .un .un .un .un) (ε2 := qE p xs T s (.fz (.lst (nms us))) (.fz (modT ys U)) s6 (.fz (thD ys U)) .un .un .un .un) (ss := []) [] rfl (.inl rfl) rfl rfl rfl (rows_ok (xs := ys) (T := U) (by omega))
  have l1 := lst_run (ds := [.lst (nms ys), .lst (U.map rowD)]) (cons_run (.inr rfl) d (cons_run (g := aNil) (ss := []) (ε2 := qE p xs T s (.fz (.lst (nms us))) (.fz (modT ys U)) s6 (.fz (thD ys U)) .un .un .un .un) (.inr rfl) r rfl)) rfl (by simp)
  have r1 := e1_run (op := oRepr) (.inr rfl) l1 ht
  have l2 := lst_run (fa := aCons (e2n oIx 5 (eC (.str "deeds"))) (aCons (e2n oIx 5 (eC (.str "rows"))) (aNil))) (ds := [.lst (nms ys), .lst (U.map rowD)]) (ss := [(none, .fz (.lst (nms ys))), (none, .fz (.lst (U.map rowD)))]) (ε := qE p xs T s (.fz (.lst (nms us))) (.fz (modT ys U)) s6 (.fz (thD ys U)) .un .un .un .un) (ε1 := qE p xs T s (.fz (.lst (nms us))) (.fz (modT ys U)) s6 (.fz (thD ys U)) .un .un .un .un) rfl rfl (by simp)
  have r2 := e1_run (op := oRepr) (.inr rfl) l2 ht
  have t2 := e2_run (op := oNe) (.inl rfl) (.inl rfl) r1 r2 (oNe_str t)
  exact (if_no (or_no (bB_run t1) (bB_run t2))).trans rfl
abbrev qG (p : D) (xs : List Str) (T : Tb) (s : Nat) (us ys : List Str) (U : Tb) (s6 s9 s10 s11 s12 : Sl) : En := qE p xs T s (.fz (.lst (nms us))) (.fz (modT ys U)) s6 (.fz (thD ys U)) s9 s10 s11 s12
theorem q_7 (H : Prt xs T s us ys U F ps) {s6 : Sl} : c__law_parts_right_7 (qG p xs T s us ys U s6 .un .un .un .un) = some (.nx (qG p xs T s us ys U s6 .un .un .un .un)) := by
  have m1 := methF (c := "Thing") (m := "part") (np := 3) (F := F_Thing_part) (rv := true) (fo := eV 2) (fa := (aCons (e1R oToPt (eV 4)) (aCons (eV 3) (aNil)))) (ε := qG p xs T s us ys U s6 .un .un .un .un) (ε2 := qG p xs T s us ys U s6 .un .un .un .un) (ss := [(none, .fz (.ptp (nms us))), (none, .fz (.int (s : Nat)))]) [.ptp (nms us), .int (s : Nat)] rfl (.inl rfl) rfl rfl rfl (H.part false)
  have t1 := (e2o_run (fb := eV 7) (.inr rfl) (.inl rfl) m1 rfl (eq_ok H.N.nm.al)).1
  have m2 := methF (c := "Thing") (m := "part") (np := 3) (F := F_Thing_part) (rv := false) (fo := eV 7) (fa := (aCons (eC (.int 0)) (aCons (e2n oIx 5 (eC (.str "deeds"))) (aNil)))) (ε := qG p xs T s us ys U s6 .un .un .un .un) (ε2 := qG p xs T s us ys U s6 .un .un .un .un) (ss := [(none, .fz (.int (0 : Nat))), (none, .fz (.lst (nms ys)))]) [.int (0 : Nat), .lst (nms ys)] rfl (.inl rfl) rfl rfl rfl H.self
  have t2 := (e2o_run (fb := eV 7) (.inr rfl) (.inl rfl) m2 rfl (eq_ok H.N.nm.al)).1
  exact (if_no (or_no (bB_run t1) (bB_run t2))).trans rfl
theorem q_8 (H : Prt xs T s us ys U F ps) {s6 : Sl} : c__law_parts_right_8 (qG p xs T s us ys U s6 .un .un .un .un) = some (.nx (qG p xs T s us ys U s6 .un .un .un .un)) := by
  have n8 := H.N.t8
  have m1 := methF (c := "Thing") (m := "reached") (np := 2) (F := F_Thing_reached) (rv := false) (fo := eV 7) (fa := aCons (eC (.int 0)) (aNil)) (ε := qG p xs T s us ys U s6 .un .un .un .un) (ε2 := qG p xs T s us ys U s6 .un .un .un .un) (ss := [(none, .fz (.int (0 : Nat)))]) [.int (0 : Nat)] rfl (.inl rfl) rfl rfl rfl H.rch
  have l : e1 oLen (e2n oIx 5 (eC (.str "rows"))) (qG p xs T s us ys U s6 .un .un .un .un) = some (.v (.fz (.int (U.length : Nat))) (qG p xs T s us ys U s6 .un .un .un .un)) := by
    have l : e1 oLen (e2n oIx 5 (eC (.str "rows"))) (qG p xs T s us ys U s6 .un .un .un .un) = some (.v (.fz (.int ((U.map rowD).length : Nat))) (qG p xs T s us ys U s6 .un .un .un .un)) := rfl
    rwa [List.length_map] at l
  have t := e2_run (op := oNe) (.inr rfl) (.inr rfl) m1 (lrg_run l (by omega)) (oNe_same (sp_nbs _) (by omega))
  exact (if_no (bB_run t)).trans rfl
theorem q_9 (H : Prt xs T s us ys U F ps) {s6 : Sl} : c__law_parts_right_9 (qG p xs T s us ys U s6 .un .un .un .un) = some (.nx (qG p xs T s us ys U s6 .un .un .un .un)) := by
  have x4 := H.M.x4
  have e1 := elcT D.str D.str (fun u => !decide (u ∈ us)) (fun u => [.ow p, .fz (modT xs T), .fz (thD xs T), .fz (.int (s : Nat)), .fz (.lst (nms us)), .fz (modT ys U), s6, .fz (thD ys U), .fz (.str u), .un, .un, .un, .un, .un]) xs (fi := iSeq (e2n oIx 1 (eC (.str "deeds")))) (g := gN 8) (t := bB (e2m oNin (eV 8) 4)) (e := eV 8) (vs := [8]) (A := qG p xs T s us ys U s6 .un .un .un .un) (A1 := qG p xs T s us ys U s6 .un .un .un .un) rfl (fun _ _ => rfl) (fun u _ => by
    refine bB_run ?_
    unfold e2m
    show bf (some (R.v (Sl.fz (D.str u)) _)) _ = _
    simp only [bf_fz, wk_str, look]
    show Mi.ret (oNin (.str u) (.lst (nms us))) _ = _
    unfold oNin
    rw [inD_lst]
    rfl) (fun _ _ _ => ⟨_, rfl, .inl rfl⟩) (fun _ _ => rfl) rfl (by omega)
  have g := gone_ok (xs := ys) (T := U) (gs := xs.filter fun u => !decide (u ∈ us)) (List.length_pos_iff.mpr H.N.t0) H.N.x0 (fun u hu => by
    obtain ⟨h1, h2⟩ := List.mem_filter.mp hu
    exact ⟨H.gone u (by simpa using h2), H.M.nm.al u h1⟩)
  have c := callF (F := F__law_gone_right) (np := 2) (fa := _) (ε := qG p xs T s us ys U s6 .un .un .un .un) (ε1 := qG p xs T s us ys U s6 .un .un .un .un) [thD ys U, .lst (nms (xs.filter fun u => !decide (u ∈ us)))] (cons_run (f := eV 7) (.inl rfl) rfl (cons_run (g := aNil) (ss := []) (.inr rfl) e1 rfl)) g
  exact (if_no (not_run (bB_run c))).trans rfl
theorem q_10 (H : Prt xs T s us ys U F ps) {x y : Int} (P : Pot x y) {s6 : Sl} : ∃ ws x' y', c__law_parts_right_10 (qG (pot x y) xs T s us ys U s6 .un .un .un .un) = some (.nx (qG (pot x' y') xs T s us ys U s6 (.ow (.lst (nms ws))) .un .un .un)) ∧ (∀ u ∈ ws, u ∈ ys) ∧ ws.length ≤ 6 ∧ Pot x' y' := by
  have n4 := H.N.x4
  obtain ⟨ws, x', y', e, hw, hl, P'⟩ := wordw_ok P (xs := ys) (T := U) H.N.x0 (by omega)
  have c := call3 (Fd := F__law_word) (fa := aMu 0 (aCons (eV 5) (aCons (eC (.int 6)) (aNil)))) (i := 0) (ε := qG (pot x y) xs T s us ys U s6 .un .un .un .un) (ε1 := qG (pot x y) xs T s us ys U s6 .un .un .un .un) rfl e
  exact ⟨ws, x', y', set_run (i := 9) c, hw, hl, P'⟩
theorem q_11 (H : Prt xs T s us ys U F ps) {s6 : Sl} {ws : List Str} (hw : ∀ u ∈ ws, u ∈ ys) (wl : ws.length ≤ 6) : c__law_parts_right_11 (qG p xs T s us ys U s6 (.ow (.lst (nms ws))) .un .un .un) = some (.nx (qG p xs T s us ys U s6 (.fz (.lst (nms ws))) (.fz (runD2 (runS T s (ws.map fun u => xs.idxOf u)))) (.fz (runD2 (runS U 0 (ws.map fun u => ys.idxOf u)))) .un)) := by
  have m1 := methF (c := "Thing") (m := "run") (np := 3) (F := F_Thing_run) (rv := false) (fo := eV 2) (fa := aCons (eV 3) (aCons (eV 9) (aNil))) (ε := qG p xs T s us ys U s6 (.ow (.lst (nms ws))) .un .un .un) (ε2 := qG p xs T s us ys U s6 (.fz (.lst (nms ws))) .un .un .un) (ss := [(none, .fz (.int (s : Nat))), (none, .fz (.lst (nms ws)))]) [.int (s : Nat), .lst (nms ws)] rfl (.inl rfl) rfl rfl rfl (run_ok H.M.tab H.hs (fun u hu => H.sub u (hw u hu)) (by omega))
  have m2 := methF (c := "Thing") (m := "run") (np := 3) (F := F_Thing_run) (rv := false) (fo := eV 7) (fa := aCons (eC (.int 0)) (aCons (eV 9) (aNil))) (ε := qG p xs T s us ys U s6 (.fz (.lst (nms ws))) .un .un .un) (ε2 := qG p xs T s us ys U s6 (.fz (.lst (nms ws))) .un .un .un) (ss := [(none, .fz (.int (0 : Nat))), (none, .fz (.lst (nms ws)))]) [.int (0 : Nat), .lst (nms ws)] rfl (.inl rfl) rfl rfl rfl (run_ok H.N.tab (List.length_pos_iff.mpr H.N.t0) hw (by omega))
  exact par_run (i := 10) (j := 11) m1 m2
theorem q_12 (H : Prt xs T s us ys U F ps) {s6 s9 s10 s11 : Sl} : c__law_parts_right_12 (qG p xs T s us ys U s6 s9 s10 s11 .un) = some (.nx (qG p xs T s us ys U s6 s9 s10 s11 (.ow (.lst (nbs F))))) := by
  have n4 := H.N.x4
  have e1 := elcA D.str (fun u => D.int (xs.idxOf u : Nat)) (fun u => [.ow p, .fz (modT xs T), .fz (thD xs T), .fz (.int (s : Nat)), .fz (.lst (nms us)), .fz (modT ys U), s6, .fz (thD ys U), .un, s9, s10, s11, .un, .fz (.str u)]) ys (fi := iSeq (e2n oIx 5 (eC (.str "deeds")))) (g := gN 13) (e := eIdx (e2n oIx 1 (eC (.str "deeds"))) (eV 13)) (vs := [13]) (A := qG p xs T s us ys U s6 s9 s10 s11 .un) (A1 := qG p xs T s us ys U s6 s9 s10 s11 .un) rfl (fun _ _ => rfl) (fun u hu => ⟨_, idxs_run rfl rfl (H.sub u hu), .inl rfl⟩) (fun _ _ => rfl) rfl (by omega)
  have w : (ys.map fun u => D.int (xs.idxOf u : Nat)) = nbs ps := by
    rw [← H.idx]
    simp
  rw [w] at e1
  have c := callF (F := F__law_met) (np := 3) (fa := _) (ε := qG p xs T s us ys U s6 s9 s10 s11 .un) (ε1 := qG p xs T s us ys U s6 s9 s10 s11 .un) [modT xs T, .int (s : Nat), .lst (nbs ps)] (cons_run (f := eV 1) (.inl rfl) rfl (cons_run (f := eV 3) (.inl rfl) rfl (cons_run (g := aNil) (ss := []) (.inr rfl) e1 rfl))) H.met
  exact set_run (i := 12) c
theorem q_13 {s6 s9 : Sl} {A B : List Nat × Nat} (h1 : B.1 = A.1) (h2 : F[B.2]? = some A.2) : c__law_parts_right_13 (qG p xs T s us ys U s6 s9 (.fz (runD2 A)) (.fz (runD2 B)) (.ow (.lst (nbs F)))) = some (.rt (.fz (.bl true)) (qG p xs T s us ys U s6 s9 (.fz (runD2 A)) (.fz (runD2 B)) (.ow (.lst (nbs F))))) := by
  obtain ⟨a, k⟩ := A
  obtain ⟨b, j⟩ := B
  simp only at h1 h2
  subst h1
  have t1 := e2_run (op := oEq) (fa := e2n oIx 10 (eC (.int 0))) (fb := e2n oIx 11 (eC (.int 0))) (ε := qG p xs T s us ys U s6 s9 (.fz (runD2 (b, k))) (.fz (runD2 (b, j))) (.ow (.lst (nbs F)))) (ε1 := qG p xs T s us ys U s6 s9 (.fz (runD2 (b, k))) (.fz (runD2 (b, j))) (.ow (.lst (nbs F)))) (ε2 := qG p xs T s us ys U s6 s9 (.fz (runD2 (b, k))) (.fz (runD2 (b, j))) (.ow (.lst (nbs F)))) (x := .lst (nbs b)) (y := .lst (nbs b)) (.inl rfl) (.inl rfl) rfl rfl (oEq_same (sp_nbs b) (by omega))
  have ix : oIx (.lst (nbs F)) (.int (j : Nat)) = some (.fz (.int (k : Nat))) := by
    have := ints_at h2
    simp [oIx, ixD, this]
  have t3 := e2n_run (op := oIx) (i := 12) (fb := e2n oIx 11 (eC (.int 1))) (ε := qG p xs T s us ys U s6 s9 (.fz (runD2 (b, k))) (.fz (runD2 (b, j))) (.ow (.lst (nbs F)))) (ε1 := qG p xs T s us ys U s6 s9 (.fz (runD2 (b, k))) (.fz (runD2 (b, j))) (.ow (.lst (nbs F)))) (y := .int (j : Nat)) rfl (.inl rfl) rfl rfl ix
  have t2 := e2_run (op := oEq) (fb := e2n oIx 10 (eC (.int 1))) (.inl rfl) (.inl rfl) t3 (show e2n oIx 10 (eC (.int 1)) (qG p xs T s us ys U s6 s9 (.fz (runD2 (b, k))) (.fz (runD2 (b, j))) (.ow (.lst (nbs F)))) = some (.v (.fz (.int (k : Nat))) (qG p xs T s us ys U s6 s9 (.fz (runD2 (b, k))) (.fz (runD2 (b, j))) (.ow (.lst (nbs F))))) from rfl) (oEq_same (sp_int _) (by omega))
  exact ret_run (and_yes t1 t2)
end
theorem partsright_ok {x y : Int} (P : Pot x y) {xs : List Str} {T : Tb} (M : Okm xs T) {s : Nat} (hs : s < T.length) : ∃ x' y', F__law_parts_right [.ow (pot x y), .fz (modT xs T), .fz (thD xs T), .fz (.int (s : Nat))] = some (.v (.fz (.bl true)) [.ow (pot x' y'), .fz (modT xs T), .fz (thD xs T), .fz (.int (s : Nat))]) ∧ Pot x' y' := by
  obtain ⟨us, x1, y1, e0, u0, nd, hu, P1⟩ := q_0 P M s
  obtain ⟨ys, U, F, ps, H⟩ := prt_ok M hs u0 nd hu
  obtain ⟨ws, x2, y2, e10, hw, wl, P2⟩ := q_10 H P1 (s6 := .ow (.lst ((nms us).reverse ++ [.str "zzz"])))
  have ul : us.length ≤ 900 := by
    have := (List.Nodup.length_le_of_subset nd (fun u h => hu u h))
    have := M.x4
    omega
  obtain ⟨h1, h2⟩ := H.sim ws hw
  refine ⟨x2, y2, ?_, P2⟩
  have z : b__law_parts_right_0 ([.ow (pot x y), .fz (modT xs T), .fz (thD xs T), .fz (.int (s : Nat))] ++ List.replicate 10 Sl.un) = some (.rt (.fz (.bl true)) (qG (pot x2 y2) xs T s us ys U (.ow (.lst ((nms us).reverse ++ [.str "zzz"]))) (.fz (.lst (nms ws))) (.fz (runD2 (runS T s (ws.map fun u => xs.idxOf u)))) (.fz (runD2 (runS U 0 (ws.map fun u => ys.idxOf u)))) (.ow (.lst (nbs F))))) := by
    show sSeq c__law_parts_right_0 (sSeq c__law_parts_right_1 (sSeq c__law_parts_right_2 (sSeq c__law_parts_right_3 (sSeq c__law_parts_right_4 (sSeq c__law_parts_right_5 (sSeq c__law_parts_right_6 (sSeq c__law_parts_right_7 (sSeq c__law_parts_right_8 (sSeq c__law_parts_right_9 (sSeq c__law_parts_right_10 (sSeq c__law_parts_right_11 (sSeq c__law_parts_right_12 c__law_parts_right_13)))))))))))) (qE (pot x y) xs T s .un .un .un .un .un .un .un .un) = _
    rw [seq_run e0, seq_run (q_1 H), seq_run (q_2 H), seq_run (q_3 H)]
    have a45 : ∀ (k : FS) (ε ε1 : En), sSeq c__law_parts_right_4 c__law_parts_right_5 ε = some (.nx ε1) → sSeq c__law_parts_right_4 (sSeq c__law_parts_right_5 k) ε = k ε1 := fun k ε ε1 h => by
      unfold sSeq at h ⊢
      cases q : c__law_parts_right_4 ε with
      | none => rw [q] at h; cases h
      | some r =>
        rw [q] at h
        cases r with
        | nx ε2 => simp only at h ⊢; rw [h]
        | _ => cases h
    rw [a45 _ _ _ (q_45 ul)]
    rw [seq_run (q_6 H), seq_run (q_7 H), seq_run (q_8 H), seq_run (q_9 H), seq_run e10, seq_run (q_11 H hw wl), seq_run (q_12 H)]
    exact q_13 h1 h2
  exact run_rt (n := 14) (f := b__law_parts_right_0) z
end Law

namespace Law
open PySem Mi
theorem call4 {Fd : FD} {fa : FAr} {ε ε1 : En} {i : Nat} {p p' : D} {s a b c a' b' c' : Sl} (ha : fa ε = some (.v [(some i, .ow p), (none, a), (none, b), (none, c)] ε1)) (hp : Fd [.ow p, a, b, c] = some (.v s [.ow p', a', b', c'])) : eCall 4 Fd fa ε = some (.v s (ε1.set i (.ow p'))) := by
  unfold eCall
  rw [ha]
  simp only [bnd_v]
  have hm : muOk 4 [(some i, Sl.ow p), (none, a), (none, b), (none, c)] = true := by simp [muOk]
  rw [hm]
  simp only [List.map_cons, List.map_nil]
  rw [hp]
  rfl
theorem e1o_str {Fd : FD} {fa : FE} {ε ε1 : En} {s : Sl} {t : Str} {xs : List Str} {T : Tb} {r : List Sl} (hs : s = .fz (thD xs T) ∨ s = .ow (thD xs T)) (ha : fa ε = some (.v s ε1)) (hF : Fd [.fz (thD xs T)] = some (.v (.fz (.str t)) r)) : e1o "Thing" Fd isSt fa ε = some (.v (.fz (.str t)) ε1) := by
  have q : isI "Thing" (thD xs T) = true := rfl
  unfold e1o
  rw [ha]
  rcases hs with rfl | rfl <;> simp only [bf_fz, bf_ow, wk_ins, q, if_true, callD, List.map_cons, List.map_nil] <;> rw [hF] <;> rfl
theorem isLn_int {b : Int} {ε : En} (h0 : 0 ≤ b) (h1 : b ≤ 1000) : isLn (some (.v (.fz (.int b)) ε)) = some (.v (.fz (.int b)) ε) := by
  have c := c63 b h0 h1
  simp [isLn, h0, c]
theorem e1o_len {Fd : FD} {fa : FE} {ε ε1 : En} {s : Sl} {b : Int} {xs : List Str} {T : Tb} {r : List Sl} (hs : s = .fz (thD xs T) ∨ s = .ow (thD xs T)) (ha : fa ε = some (.v s ε1)) (hF : Fd [.fz (thD xs T)] = some (.v (.fz (.int b)) r)) (h0 : 0 ≤ b) (h1 : b ≤ 1000) : e1o "Thing" Fd isLn fa ε = some (.v (.fz (.int b)) ε1) := by
  have q : isI "Thing" (thD xs T) = true := rfl
  have w := isLn_int (ε := ε1) h0 h1
  unfold e1o
  rw [ha]
  rcases hs with rfl | rfl <;> simp only [bf_fz, bf_ow, wk_ins, q, if_true, callD, List.map_cons, List.map_nil] <;> rw [hF] <;> exact w
theorem e1n_run {op : D → Option Sl} {i : Nat} {ε : En} {x : D} {r : Sl} (h : look ε i = some x) (ho : op x = some r) : e1n op i ε = some (.v r ε) := by
  unfold e1n
  rw [h]
  simp only [Option.bind_some]
  rw [ho]
  rfl
abbrev lE (p : D) (xs : List Str) (T : Tb) (s3 : Sl) (t : Str) (j5 j6 j7 j8 : Sl) : En := [.ow p, .fz (modT xs T), .fz (thD xs T), s3, .fz (.str t), j5, j6, j7, j8]
abbrev allP (xs : List Str) : D := .lst (nbs (List.range xs.length))
noncomputable abbrev bLr : FS := (sSeq (sSet 7 (e1 oSorted (eCall 3 F__law_met (aCons (eV 1) (aCons (eV 6) (aCons (eV 3) (aNil))))))) (sSeq (sSet 8 (eMeth "Thing" "reached" 2 F_Thing_reached false (eV 2) (aCons (eV 6) (aNil)))) (sSeq (sIf (bB (e2 oNe (e1n oRepr 8) (e1n oRepr 7))) (sRet (eC (.bl false))) (sNext)) (sSeq (sExpr (eMut mAppend 8 (aCons (eC (.int 9)) (aNil)))) (sSeq (sExpr (eMut mPop 8 (aCons (eC (.int 0)) (aNil)))) (sSeq (sIf (bor (bB (e2 oNe (eMeth "Thing" "reached" 2 F_Thing_reached false (eV 2) (aCons (eV 6) (aNil))) (eV 7))) (bnot (bB (eCall 4 F__law_parts_right (aMu 0 (aCons (eV 1) (aCons (eV 2) (aCons (eV 6) (aNil))))))))) (sRet (eC (.bl false))) (sNext)) (sIf (bB (e2 oNe (e1o "Thing" F_Thing___len__ isLn (eMeth "Thing" "part" 3 F_Thing_part false (eV 2) (aCons (eV 6) (aCons (e2n oIx 1 (eC (.str "deeds"))) (aNil))))) (e1n oLen 7))) (sRet (eC (.bl false))) (sNext))))))))
theorem right_turn {x y : Int} (P : Pot x y) {xs : List Str} {T : Tb} (M : Okm xs T) {s : Nat} (hs : s < T.length) {s3 : Sl} (h3 : s3 = .ow (allP xs) ∨ s3 = .fz (allP xs)) (t : Str) (j5 j7 j8 : Sl) :
    ∃ x' y' k7 k8, bLr (lE (pot x y) xs T s3 t j5 (.fz (.int (s : Nat))) j7 j8) = some (.nx (lE (pot x' y') xs T (.fz (allP xs)) t j5 (.fz (.int (s : Nat))) k7 k8)) ∧ Pot x' y' := by
  have t8 := M.t8
  have x4 := M.x4
  obtain ⟨x1, y1, ep, P1⟩ := partsright_ok P M hs
  have ml := met_law (xs := xs) M.tab (by omega) (ps := List.range xs.length) (fun p hp => List.mem_range.mp hp) hs
  have rc := reached_ok (xs := xs) M.tab (by omega) (by omega) hs
  have pt := part_ok (xs := xs) M.tab (by omega) (by omega) hs true M.x0 M.nm.nd (fun u h => h)
  have K := met_ok (T := T) (ps := List.range xs.length) (n := T.length) (s := s) (by omega) hs (tab_lt M.tab (fun p hp => List.mem_range.mp hp))
  rw [plc_self] at pt
  generalize met T (List.range xs.length) s = F at ml rc pt K
  have fl := nodup_lt K.nd K.lt
  have rl : (ren T (List.range xs.length) F).length = F.length := by simp [ren]
  have ln := len_ok (sel xs (List.range xs.length)) (ren T (List.range xs.length) F)
  rw [rl] at ln
  obtain ⟨tt, htt, _⟩ := (tx_srt (F := F) (fun z hz => by have := K.lt z hz; omega) (by omega)).repr (by omega) (by omega)
  have c1 := e1_run (op := oSorted) (.inr rfl) (callF (F := F__law_met) (np := 3) (fa := aCons (eV 1) (aCons (eV 6) (aCons (eV 3) (aNil)))) (ε := lE (pot x y) xs T s3 t j5 (.fz (.int (s : Nat))) j7 j8) (ε1 := lE (pot x y) xs T (.fz (allP xs)) t j5 (.fz (.int (s : Nat))) j7 j8) [modT xs T, .int (s : Nat), allP xs] (by rcases h3 with rfl | rfl <;> rfl) ml) (sorted_ok F)
  have m1 : ∀ (p : D) (k7 k8 : Sl), eMeth "Thing" "reached" 2 F_Thing_reached false (eV 2) (aCons (eV 6) (aNil)) (lE p xs T (.fz (allP xs)) t j5 (.fz (.int (s : Nat))) k7 k8) = some (.v (.ow (.lst (srt F))) (lE p xs T (.fz (allP xs)) t j5 (.fz (.int (s : Nat))) k7 k8)) := fun p k7 k8 => methF (c := "Thing") (m := "reached") (np := 2) (F := F_Thing_reached) (rv := false) (fo := eV 2) (fa := aCons (eV 6) (aNil)) (ss := [(none, .fz (.int (s : Nat)))]) [.int (s : Nat)] rfl (.inl rfl) rfl rfl rfl rc
  obtain ⟨d, hd⟩ : ∃ d, (srt F ++ [D.int 9])[(0 : Int).toNat]? = some d := ⟨_, List.getElem?_eq_getElem (by simp)⟩
  refine ⟨x1, y1, .fz (.lst (srt F)), .ow (.lst ((srt F ++ [D.int 9]).eraseIdx (0 : Int).toNat)), ?_, P1⟩
  unfold bLr
  rw [seq_run (ε1 := lE (pot x y) xs T (.fz (allP xs)) t j5 (.fz (.int (s : Nat))) (.ow (.lst (srt F))) j8) (set_run (i := 7) c1)]
  rw [seq_run (ε1 := lE (pot x y) xs T (.fz (allP xs)) t j5 (.fz (.int (s : Nat))) (.ow (.lst (srt F))) (.ow (.lst (srt F)))) (set_run (i := 8) (m1 (pot x y) (.ow (.lst (srt F))) j8))]
  have r8 := e1n_run (op := oRepr) (i := 8) (ε := lE (pot x y) xs T (.fz (allP xs)) t j5 (.fz (.int (s : Nat))) (.ow (.lst (srt F))) (.ow (.lst (srt F)))) rfl htt
  have r7 := e1n_run (op := oRepr) (i := 7) (ε := lE (pot x y) xs T (.fz (allP xs)) t j5 (.fz (.int (s : Nat))) (.ow (.lst (srt F))) (.ow (.lst (srt F)))) rfl htt
  have t1 := e2_run (op := oNe) (.inl rfl) (.inl rfl) r8 r7 (oNe_str tt)
  rw [seq_run ((if_no (bB_run t1)).trans rfl)]
  rw [seq_run (ε1 := lE (pot x y) xs T (.fz (allP xs)) t j5 (.fz (.int (s : Nat))) (.ow (.lst (srt F))) (.ow (.lst (srt F ++ [.int 9])))) (app_run (i := 8) (f := eC (.int 9)) (ys := srt F) (xs := srt F) (.inl rfl) rfl rfl rfl (by rw [srt_len]; omega))]
  rw [seq_run (ε1 := lE (pot x y) xs T (.fz (allP xs)) t j5 (.fz (.int (s : Nat))) (.ow (.lst (srt F))) (.ow (.lst ((srt F ++ [D.int 9]).eraseIdx (0 : Int).toNat)))) (expr_run (pop_run (i := 8) (f := eC (.int 0)) (ε := lE (pot x y) xs T (.fz (allP xs)) t j5 (.fz (.int (s : Nat))) (.ow (.lst (srt F))) (.ow (.lst (srt F ++ [.int 9])))) (ys := srt F ++ [.int 9]) (xs := srt F ++ [.int 9]) rfl rfl rfl (by omega) hd (by rw [List.length_append, srt_len]; simp; omega)))]
  generalize hk8 : Sl.ow (.lst ((srt F ++ [D.int 9]).eraseIdx (0 : Int).toNat)) = k8
  have t2 := e2_run (op := oNe) (fb := eV 7) (.inr rfl) (.inl rfl) (m1 (pot x y) (.ow (.lst (srt F))) k8) (show eV 7 (lE (pot x y) xs T (.fz (allP xs)) t j5 (.fz (.int (s : Nat))) (.ow (.lst (srt F))) k8) = some (.v (.fz (.lst (srt F))) (lE (pot x y) xs T (.fz (allP xs)) t j5 (.fz (.int (s : Nat))) (.fz (.lst (srt F))) k8)) from rfl) (oNe_same (sp_srt F) (by omega))
  have t3 := call4 (Fd := F__law_parts_right) (fa := aMu 0 (aCons (eV 1) (aCons (eV 2) (aCons (eV 6) (aNil))))) (i := 0) (ε := lE (pot x y) xs T (.fz (allP xs)) t j5 (.fz (.int (s : Nat))) (.fz (.lst (srt F))) k8) (ε1 := lE (pot x y) xs T (.fz (allP xs)) t j5 (.fz (.int (s : Nat))) (.fz (.lst (srt F))) k8) rfl ep
  rw [seq_run (ε1 := lE (pot x1 y1) xs T (.fz (allP xs)) t j5 (.fz (.int (s : Nat))) (.fz (.lst (srt F))) k8) ((if_no (or_no (bB_run t2) (not_run (bB_run t3)))).trans rfl)]
  have m2 := methF (c := "Thing") (m := "part") (np := 3) (F := F_Thing_part) (rv := false) (fo := eV 2) (fa := aCons (eV 6) (aCons (e2n oIx 1 (eC (.str "deeds"))) (aNil))) (ε := lE (pot x1 y1) xs T (.fz (allP xs)) t j5 (.fz (.int (s : Nat))) (.fz (.lst (srt F))) k8) (ε2 := lE (pot x1 y1) xs T (.fz (allP xs)) t j5 (.fz (.int (s : Nat))) (.fz (.lst (srt F))) k8) (ss := [(none, .fz (.int (s : Nat))), (none, .fz (.lst (nms xs)))]) [.int (s : Nat), .lst (nms xs)] rfl (.inl rfl) rfl rfl rfl pt
  have l1 := e1o_len (.inr rfl) m2 ln (by omega) (by omega)
  have l2 := e1n_run (op := oLen) (i := 7) (x := .lst (srt F)) (ε := lE (pot x1 y1) xs T (.fz (allP xs)) t j5 (.fz (.int (s : Nat))) (.fz (.lst (srt F))) k8) (r := .fz (.int (F.length : Nat))) rfl (by rw [← srt_len F]; rfl)
  have t4 := e2_run (op := oNe) (.inl rfl) (.inl rfl) l1 l2 (oNe_same (sp_int _) (by omega))
  exact (if_no (bB_run t4)).trans rfl
theorem right_ok {x y : Int} (P : Pot x y) : ∃ x' y', F__law_right [.ow (pot x y)] = some (.v (.fz (.bl true)) [.ow (pot x' y')]) := by
  obtain ⟨xs, rs, x1, y1, em, M0, P1⟩ := model_ok P
  obtain ⟨T, rfl, M⟩ := model_tab M0
  have t8 := M.t8
  have x4 := M.x4
  obtain ⟨t, ht⟩ := repr_ok (okm_shw M)
  have one : ∀ (j5 : Sl) (x y : Int) (s3 j6 j7 j8 : Sl), Pot x y → (s3 = .ow (allP xs) ∨ s3 = .fz (allP xs)) → ∃ x' y' s3' k6 k7 k8, (sFor (iRng1 (e1 oLen (e2n oIx 1 (eC (.str "rows"))))) (gN 6) bLr) (lE (pot x y) xs T s3 t j5 j6 j7 j8) = some (.nx (lE (pot x' y') xs T s3' t j5 k6 k7 k8)) ∧ Pot x' y' ∧ (s3' = .ow (allP xs) ∨ s3' = .fz (allP xs)) := fun j5 x y s3 j6 j7 j8 P h3 => by
    have rg := rng_n (f := e1 oLen (e2n oIx 1 (eC (.str "rows")))) (ε := lE (pot x y) xs T s3 t j5 j6 j7 j8) (ε1 := lE (pot x y) xs T s3 t j5 j6 j7 j8) (j := ((T.map rowD).length : Int)) (n := T.length) (by simp) (by omega) rfl
    have go := forT (φ := fun i : Nat => D.int (0 + (i : Nat))) (g := gN 6) (b := bLr) (I := fun (_ : Unit) ε => ∃ x y s3 j6 j7 j8, ε = lE (pot x y) xs T s3 t j5 j6 j7 j8 ∧ Pot x y ∧ (s3 = .ow (allP xs) ∨ s3 = .fz (allP xs))) (f := fun _ _ => ()) (List.range T.length) () (lE (pot x y) xs T s3 t j5 j6 j7 j8) (fun _ ε i hi hI => by
      obtain ⟨x, y, s3, j6, j7, j8, rfl, P, h3⟩ := hI
      obtain ⟨x', y', k7, k8, e, P'⟩ := right_turn P M (List.mem_range.mp hi) h3 t j5 j7 j8
      exact ⟨_, _, by rw [Int.zero_add]; rfl, e, x', y', _, _, k7, k8, rfl, P', .inr rfl⟩) ⟨x, y, s3, j6, j7, j8, rfl, P, h3⟩
    obtain ⟨ε', e, x', y', s3', k6, k7, k8, rfl, P', h3'⟩ := go
    exact ⟨x', y', s3', k6, k7, k8, (for_run rg).trans e, P', h3'⟩
  obtain ⟨x2, y2, s3, j5, j6, j7, j8, e3, P2⟩ : ∃ x2 y2 s3 j5 j6 j7 j8, c__law_right_3 (lE (pot x1 y1) xs T (.ow (allP xs)) t .un .un .un .un) = some (.nx (lE (pot x2 y2) xs T s3 t j5 j6 j7 j8)) ∧ Pot x2 y2 := by
    obtain ⟨xa, ya, sa, a6, a7, a8, ea, Pa, ha⟩ := one (.fz (.int 0)) x1 y1 (.ow (allP xs)) .un .un .un P1 (.inl rfl)
    obtain ⟨xb, yb, sb, b6, b7, b8, eb, Pb, hb⟩ := one (.fz (.int 1)) xa ya sa a6 a7 a8 Pa ha
    refine ⟨xb, yb, sb, .fz (.int 1), b6, b7, b8, ?_, Pb⟩
    have rg := rng_n (f := eC (.int 2)) (ε := lE (pot x1 y1) xs T (.ow (allP xs)) t .un .un .un .un) (ε1 := lE (pot x1 y1) xs T (.ow (allP xs)) t .un .un .un .un) (j := 2) (n := 2) rfl (by omega) rfl
    refine (for_run rg).trans ?_
    show forL (gN 5) _ [D.int (0 + ((0 : Nat) : Int)), D.int (0 + ((1 : Nat) : Int))] _ = _
    rw [for_nx (ε1 := lE (pot x1 y1) xs T (.ow (allP xs)) t (.fz (.int 0)) .un .un .un) rfl ea, for_nx (ε1 := lE (pot xa ya) xs T sa t (.fz (.int 1)) a6 a7 a8) rfl eb]
    rfl
  refine ⟨x2, y2, ?_⟩
  have z : b__law_right_0 ([.ow (pot x y)] ++ List.replicate 8 Sl.un) = some (.rt (.fz (.bl true)) (lE (pot x2 y2) xs T s3 t j5 j6 j7 j8)) := by
    show sSeq c__law_right_0 (sSeq c__law_right_1 (sSeq c__law_right_2 (sSeq c__law_right_3 c__law_right_4))) [.ow (pot x y), .un, .un, .un, .un, .un, .un, .un, .un] = _
    have a0 := call3 (Fd := F__law_model) (fa := aMu 0 (aCons (eC (.int 8)) (aCons (eC (.int 4)) (aNil)))) (i := 0) (ε := [.ow (pot x y), .un, .un, .un, .un, .un, .un, .un, .un]) (ε1 := [.ow (pot x y), .un, .un, .un, .un, .un, .un, .un, .un]) rfl em
    rw [seq_run (show c__law_right_0 [.ow (pot x y), .un, .un, .un, .un, .un, .un, .un, .un] = some (.nx [.ow (pot x1 y1), .ow (modT xs T), .un, .un, .un, .un, .un, .un, .un]) from set_run (i := 1) a0)]
    have a1 := callF (F := F__law_thing) (np := 1) (fa := aCons (eV 1) (aNil)) (ε := [.ow (pot x1 y1), .ow (modT xs T), .un, .un, .un, .un, .un, .un, .un]) (ε1 := [.ow (pot x1 y1), .fz (modT xs T), .un, .un, .un, .un, .un, .un, .un]) [modT xs T] rfl (thing_ok M _ (.inl rfl))
    have l : e1 oLen (e2n oIx 1 (eC (.str "deeds"))) [.ow (pot x1 y1), .fz (modT xs T), .un, .un, .un, .un, .un, .un, .un] = some (.v (.fz (.int (xs.length : Nat))) [.ow (pot x1 y1), .fz (modT xs T), .un, .un, .un, .un, .un, .un, .un]) := by
      have l : e1 oLen (e2n oIx 1 (eC (.str "deeds"))) [.ow (pot x1 y1), .fz (modT xs T), .un, .un, .un, .un, .un, .un, .un] = some (.v (.fz (.int ((nms xs).length : Nat))) [.ow (pot x1 y1), .fz (modT xs T), .un, .un, .un, .un, .un, .un, .un]) := rfl
      rwa [List.length_map] at l
    rw [seq_run (show c__law_right_1 [.ow (pot x1 y1), .ow (modT xs T), .un, .un, .un, .un, .un, .un, .un] = some (.nx [.ow (pot x1 y1), .fz (modT xs T), .ow (thD xs T), .ow (allP xs), .un, .un, .un, .un, .un]) from par_run (i := 2) (j := 3) a1 (lrg_run l (by omega)))]
    have a2 := e1o_str (fa := eV 2) (ε := [.ow (pot x1 y1), .fz (modT xs T), .ow (thD xs T), .ow (allP xs), .un, .un, .un, .un, .un]) (.inl rfl) rfl ht
    rw [seq_run (show c__law_right_2 [.ow (pot x1 y1), .fz (modT xs T), .ow (thD xs T), .ow (allP xs), .un, .un, .un, .un, .un] = some (.nx (lE (pot x1 y1) xs T (.ow (allP xs)) t .un .un .un .un)) from set_run (i := 4) a2)]
    rw [seq_run e3]
    have b1 := e2_run (op := oEq) (fb := eV 4) (.inl rfl) (.inl rfl) (e1o_str (fa := eV 2) (ε := lE (pot x2 y2) xs T s3 t j5 j6 j7 j8) (.inl rfl) rfl ht) rfl (oEq_str t)
    have b2 := callF (F := F__law_thing) (np := 1) (fa := aCons (eV 1) (aNil)) (ε := lE (pot x2 y2) xs T s3 t j5 j6 j7 j8) (ε1 := lE (pot x2 y2) xs T s3 t j5 j6 j7 j8) [modT xs T] rfl (thing_ok M _ (.inl rfl))
    have b3 := (e2o_run (fa := eV 2) (ε := lE (pot x2 y2) xs T s3 t j5 j6 j7 j8) (.inl rfl) (.inr rfl) rfl b2 (eq_ok M.nm.al)).2
    exact ret_run (and_yes b1 b3)
  exact run_rt (n := 9) (f := b__law_right_0) z
end Law

namespace Law
open PySem Mi
/-- the pot of a script, whatever the numbers in it are -/
def potF (a b c e : Int) : FD := runD 3 (sSeq (sSet 2 (e2 oAdd (e2 oMul (eC (.int a)) (eV 1)) (eC (.int b)))) (sSeq (sIf (bB (e2 oLt (eV 1) (e1n oLen 0))) (sSet 2 (e1 oAbs (e2n oIx 0 (eV 1)))) (sNext)) (sRet (eLst (aCons (e2 oMax (eC (.int 0)) (e2 oSub (eV 2) (e2 oPow (eC (.int 10)) (eC (.int 18))))) (aCons (e2 oAdd (e2 oMod (e1 oToInt (e2 oAdd (e2 oAdd (e2 oMul (e2 oMod (e1 oToInt (eV 2)) (eC (.int 2147483563))) (eC (.int 48271))) (e2 oMul (eC (.int c)) (eV 1))) (eC (.int e)))) (eC (.int 2147483543))) (eC (.int 1))) (aNil)))))))
theorem potF_ok (a b c e : Int) (ha : -18446744073709551616 < a ∧ a < 18446744073709551616) (hc : -18446744073709551616 < c ∧ c < 18446744073709551616) (ns : List Int) (k : Int) (h0 : 0 ≤ k) : ∃ x y, potF a b c e [.fz (.rol (ns.map D.int)), .fz (.int k)] = some (.v (.ow (pot x y)) [.fz (.rol (ns.map D.int)), .fz (.int k)]) ∧ Pot x y := by
  have key : ∀ z : Int, ∃ x y, (sRet (eLst (aCons (e2 oMax (eC (.int 0)) (e2 oSub (eV 2) (e2 oPow (eC (.int 10)) (eC (.int 18))))) (aCons (e2 oAdd (e2 oMod (Mi.e1 oToInt (e2 oAdd (e2 oAdd (e2 oMul (e2 oMod (Mi.e1 oToInt (eV 2)) (eC (.int 2147483563))) (eC (.int 48271))) (e2 oMul (eC (.int c)) (eV 1))) (eC (.int e)))) (eC (.int 2147483543))) (eC (.int 1))) (aNil))))) [.fz (.rol (ns.map D.int)), .fz (.int k), .fz (.int z)] = some (.rt (.ow (pot x y)) [.fz (.rol (ns.map D.int)), .fz (.int k), .fz (.int z)]) ∧ Pot x y := fun z => by
    refine ⟨if z - 10 ^ 18 > 0 then z - 10 ^ 18 else 0, (z % 2147483563 * 48271 + c * k + e) % 2147483543 + 1, ?_, ?_, by omega, by omega⟩
    · simp [sRet, eLst, aCons, aNil, e2, Mi.e1, eC, eV, oMax, oSub, oPow, oAdd, oMod, oMul, oToInt, asD, bs, sizeLine_eq, hc]
    · split <;> omega
  have s0 : sSet 2 (e2 oAdd (e2 oMul (eC (.int a)) (eV 1)) (eC (.int b))) [.fz (.rol (ns.map D.int)), .fz (.int k), .un] = some (.nx [.fz (.rol (ns.map D.int)), .fz (.int k), .fz (.int (a * k + b))]) := by
    simp [sSet, e2, eC, eV, oMul, oAdd, bs, ha]
  have s1 : ∃ z, sIf (bB (e2 oLt (eV 1) (e1n oLen 0))) (sSet 2 (e1 oAbs (e2n oIx 0 (eV 1)))) (sNext) [.fz (.rol (ns.map D.int)), .fz (.int k), .fz (.int (a * k + b))] = some (.nx [.fz (.rol (ns.map D.int)), .fz (.int k), .fz (.int z)]) := by
    by_cases h : k < (ns.length : Int)
    · have hi : k.toNat < ns.length := by omega
      refine ⟨if ns[k.toNat] < 0 then -ns[k.toNat] else ns[k.toNat], ?_⟩
      have at_ : L2.atI (ns.map D.int) k = some (.int ns[k.toNat]) := by simp [L2.atI, L2.ixN, h0, h, hi]
      simp [sIf, bB, sSet, e2, e2n, e1n, Mi.e1, eC, eV, look, oLen, oInt, oAbs, oIx, ixD, at_, h, bs]
    · refine ⟨a * k + b, ?_⟩
      simp [sIf, bB, sSet, e2, e2n, e1n, Mi.e1, eC, eV, look, oLen, oInt, oAbs, oIx, ixD, h, bs, sNext]
  obtain ⟨z, s1⟩ := s1
  obtain ⟨x, y, s2, P⟩ := key z
  refine ⟨x, y, ?_, P⟩
  exact run_rt (n := 3) (ss := [.fz (.rol (ns.map D.int)), .fz (.int k)]) ((seq_run s0).trans ((seq_run s1).trans s2))
theorem pot_ok (ns : List Int) (k : Int) (h0 : 0 ≤ k) : ∃ x y, F__law_pot [.fz (.rol (ns.map D.int)), .fz (.int k)] = some (.v (.ow (pot x y)) [.fz (.rol (ns.map D.int)), .fz (.int k)]) ∧ Pot x y := potF_ok 61 31 4073 47 (by decide) (by decide) ns k h0
theorem bools_true : ∀ n : Nat, bools (List.replicate n (D.bl true)) = some (List.replicate n true)
  | 0 => rfl
  | n + 1 => by simp [List.replicate_succ, bools, bools_true n]
theorem law_true (ns : List Int) (h : ns.length ≤ 63) : ∃ ε, F_law [.fz (.rol (ns.map D.int))] = some (.v (.fz (.bl true)) ε) := by
  let j : Int := if (if (4 : Int) < ns.length then (4 : Int) else ns.length) > 1 then (if (4 : Int) < ns.length then (4 : Int) else ns.length) else 1
  have j1 : j ≤ 4 ∧ 1 ≤ j := by
    simp only [j]
    split <;> split <;> omega
  have z : e2 oMax (eC (.int 1)) (e2 oMin (e1n oLen 0) (eC (.int 4))) [.fz (.rol (ns.map D.int)), .un] = some (.v (.fz (.int j)) [.fz (.rol (ns.map D.int)), .un]) := by
    simp [e2, e1n, eC, look, oLen, oMax, oMin, j]
  have fi := rng_j (by omega) (by omega) z
  have hp := lc_pure (g := gN 1) (t := bTrue) (e := eCall 1 F__law_right (aTmp (eCall 2 F__law_pot (aCons (eV 0) (aCons (eV 1) (aNil)))))) (vs := [1]) (B := [.fz (.rol (ns.map D.int)), .un]) (E := fun d => [.fz (.rol (ns.map D.int)), .fz d]) (p := fun _ => true) (f := fun _ => .bl true) (nums j) [] (fun d _ => rfl) (fun d _ => rfl) (fun d hd _ => by
    obtain ⟨k, rfl, k0, k1⟩ := nums_mem hd
    obtain ⟨x, y, e, P⟩ := pot_ok ns k k0
    obtain ⟨x', y', r⟩ := right_ok P
    have c := call2n (Fd := F__law_pot) (fa := aCons (eV 0) (aCons (eV 1) aNil)) (ε := [.fz (.rol (ns.map D.int)), .fz (.int k)]) (ε1 := [.fz (.rol (ns.map D.int)), .fz (.int k)]) rfl e
    have t : aTmp (eCall 2 F__law_pot (aCons (eV 0) (aCons (eV 1) (aNil)))) [.fz (.rol (ns.map D.int)), .fz (.int k)] = some (.v [(none, .ow (pot x y))] [.fz (.rol (ns.map D.int)), .fz (.int k)]) := by
      unfold aTmp
      rw [c]
      rfl
    exact call1 t r) (fun d _ => rfl) (by simp; omega)
  have el : eLc (iRng1 (e2 oMax (eC (.int 1)) (e2 oMin (e1n oLen 0) (eC (.int 4))))) (gN 1) (bTrue) (eCall 1 F__law_right (aTmp (eCall 2 F__law_pot (aCons (eV 0) (aCons (eV 1) (aNil)))))) [1] [.fz (.rol (ns.map D.int)), .un] = some (.v (.ow (.lst (List.replicate (nums j).length (D.bl true)))) [.fz (.rol (ns.map D.int)), .un]) := by
    unfold eLc
    rw [fi]
    simp only
    rw [show wipeE [.fz (.rol (ns.map D.int)), .un] [1] = [.fz (.rol (ns.map D.int)), .un] from rfl, hp]
    simp only [List.nil_append]
    rw [List.filter_eq_self.mpr (by simp), List.map_const']
    rfl
  have s : b_law ([.fz (.rol (ns.map D.int))] ++ List.replicate 1 Sl.un) = some (.rt (.fz (.bl true)) [.fz (.rol (ns.map D.int)), .un]) := by
    refine ret_run (e1_run (.inr rfl) el ?_)
    show Option.map (fun bs => Sl.fz (D.bl (bs.all id))) (bools (List.replicate (nums j).length (D.bl true))) = _
    rw [bools_true]
    simp
  exact ⟨_, run_rt (n := 2) (f := b_law) s⟩
end Law

namespace Law
open PySem PySem.Spec PyProof.Rows L2 Mi
theorem ck0_at {K : PySem.W.Frag} {b : Bool} (h : ck K = true) (i : Nat) (e : (cks0 K)[i]? = some b := by rfl) : b = true := List.all_eq_true.mp (Bool.and_eq_true_iff.mp (Bool.and_eq_true_iff.mp h).1).1 b (List.mem_of_getElem? e)
theorem ck1_at {K : PySem.W.Frag} {b : Bool} (h : ck K = true) (i : Nat) (e : (cks1 K)[i]? = some b := by rfl) : b = true := List.all_eq_true.mp (Bool.and_eq_true_iff.mp (Bool.and_eq_true_iff.mp h).1).2 b (List.mem_of_getElem? e)
theorem ck2_at {K : PySem.W.Frag} {b : Bool} (h : ck K = true) (i : Nat) (e : (cks2 K)[i]? = some b := by rfl) : b = true := List.all_eq_true.mp (Bool.and_eq_true_iff.mp h).2 b (List.mem_of_getElem? e)
theorem nw_ArithmeticError : ("ArithmeticError" ++ ".__new__" : String) = "ArithmeticError.__new__" := by decide +kernel
theorem nw_ValueError : ("ValueError" ++ ".__new__" : String) = "ValueError.__new__" := by decide +kernel
section
variable {P : Program} {w : World} {K : PySem.W.Frag} {h base : Heap} {mg : Str → Option Value}
theorem blOf (X : K.In h) (G : h.Ns mainGlobals mg) (c : SaysP fa fn prs ck K) : Bl mg :=
  ⟨(He.free_ok X G (c.m.2.fact 47 (f := .free "abs") rfl)),
   (He.free_ok X G (c.m.2.fact 48 (f := .free "all") rfl)),
   (He.free_ok X G (c.m.2.fact 49 (f := .free "bool") rfl)),
   (He.free_ok X G (c.m.2.fact 50 (f := .free "divmod") rfl)),
   (He.free_ok X G (c.m.2.fact 51 (f := .free "enumerate") rfl)),
   (He.free_ok X G (c.m.2.fact 52 (f := .free "int") rfl)),
   (He.free_ok X G (c.m.2.fact 53 (f := .free "isinstance") rfl)),
   (He.free_ok X G (c.m.2.fact 54 (f := .free "len") rfl)),
   (He.free_ok X G (c.m.2.fact 55 (f := .free "list") rfl)),
   (He.free_ok X G (c.m.2.fact 56 (f := .free "max") rfl)),
   (He.free_ok X G (c.m.2.fact 57 (f := .free "min") rfl)),
   (He.free_ok X G (c.m.2.fact 58 (f := .free "range") rfl)),
   (He.free_ok X G (c.m.2.fact 59 (f := .free "repr") rfl)),
   (He.free_ok X G (c.m.2.fact 60 (f := .free "sorted") rfl)),
   (He.free_ok X G (c.m.2.fact 61 (f := .free "str") rfl)),
   (He.free_ok X G (c.m.2.fact 62 (f := .free "tuple") rfl))⟩
theorem gcOf (X : K.In h) (G : h.Ns mainGlobals mg) (c : SaysP fa fn prs ck K) : Gc mg :=
  ⟨(He.str_ok X G (c.m.2.fact 63 (f := .str "LETTERS" "abcdefghijklmnopqrstuvwxyz") rfl)),
   (He.int_ok X G (c.m.2.fact 64 (f := .int "LONGEST_NAME" 8) rfl)),
   (He.int_ok X G (c.m.2.fact 65 (f := .int "GREATEST_ANSWER" 9) rfl)),
   (He.int_ok X G (c.m.2.fact 66 (f := .int "MOST_DEEDS" 4) rfl)),
   (He.int_ok X G (c.m.2.fact 67 (f := .int "MOST_STATES" 8) rfl))⟩
theorem mo_InvalidDeeds (X : K.In h) (G : h.Ns mainGlobals mg) (c : SaysP fa fn prs ck K) : XM P w K mg base 1 "InvalidDeeds" ["position"] := by
  obtain ⟨fd, D⟩ := c.m.2.def_ 0 (d := d3_0) rfl
  have xa : xallB K cs2 = true := (ck0_at (b := xallB K cs2) c.ck 2)
  have T := xallB_at xa (p := ("InvalidDeeds", "ValueError")) (List.mem_of_getElem? (i := 0) rfl)
  rw [nw_ValueError] at T
  have mc : ("InvalidDeeds" : Str) ∈ cs := List.mem_of_getElem? (i := 0) rfl
  have ii := inB_ok (ck0_at (b := inB K cs) c.ck 3) mc
  exact m_InvalidDeeds D T (xinB_ok (ck0_at (b := xinB K (He.ga K "SettleError") "ValueError.__init__") c.ck 9)) (He.glo_ok X G (c.m.2.fact 0 (f := .glo "SettleError") rfl)) (He.glo_ok X G (c.m.2.fact 1 (f := .glo "InvalidDeeds") rfl)) ii.1 ii.2 (nofB_ok (ck0_at (b := nofB K cs "position") c.ck 5) _ mc)
theorem mo_InvalidRows (X : K.In h) (G : h.Ns mainGlobals mg) (c : SaysP fa fn prs ck K) : XM P w K mg base 1 "InvalidRows" ["position"] := by
  obtain ⟨fd, D⟩ := c.m.2.def_ 1 (d := d4_0) rfl
  have xa : xallB K cs2 = true := (ck0_at (b := xallB K cs2) c.ck 2)
  have T := xallB_at xa (p := ("InvalidRows", "ValueError")) (List.mem_of_getElem? (i := 1) rfl)
  rw [nw_ValueError] at T
  have mc : ("InvalidRows" : Str) ∈ cs := List.mem_of_getElem? (i := 1) rfl
  have ii := inB_ok (ck0_at (b := inB K cs) c.ck 3) mc
  exact m_InvalidRows D T (xinB_ok (ck0_at (b := xinB K (He.ga K "SettleError") "ValueError.__init__") c.ck 9)) (He.glo_ok X G (c.m.2.fact 0 (f := .glo "SettleError") rfl)) (He.glo_ok X G (c.m.2.fact 2 (f := .glo "InvalidRows") rfl)) ii.1 ii.2 (nofB_ok (ck0_at (b := nofB K cs "position") c.ck 5) _ mc)
theorem mo_InvalidState (X : K.In h) (G : h.Ns mainGlobals mg) (c : SaysP fa fn prs ck K) : XM P w K mg base 1 "InvalidState" ["value"] := by
  obtain ⟨fd, D⟩ := c.m.2.def_ 2 (d := d5_0) rfl
  have xa : xallB K cs2 = true := (ck0_at (b := xallB K cs2) c.ck 2)
  have T := xallB_at xa (p := ("InvalidState", "ValueError")) (List.mem_of_getElem? (i := 2) rfl)
  rw [nw_ValueError] at T
  have mc : ("InvalidState" : Str) ∈ cs := List.mem_of_getElem? (i := 2) rfl
  have ii := inB_ok (ck0_at (b := inB K cs) c.ck 3) mc
  exact m_InvalidState D T (xinB_ok (ck0_at (b := xinB K (He.ga K "SettleError") "ValueError.__init__") c.ck 9)) (He.glo_ok X G (c.m.2.fact 0 (f := .glo "SettleError") rfl)) (He.glo_ok X G (c.m.2.fact 3 (f := .glo "InvalidState") rfl)) ii.1 ii.2 (nofB_ok (ck0_at (b := nofB K cs "value") c.ck 6) _ mc)
theorem mo_InvalidDeed (X : K.In h) (G : h.Ns mainGlobals mg) (c : SaysP fa fn prs ck K) : XM P w K mg base 1 "InvalidDeed" ["value"] := by
  obtain ⟨fd, D⟩ := c.m.2.def_ 3 (d := d6_0) rfl
  have xa : xallB K cs2 = true := (ck0_at (b := xallB K cs2) c.ck 2)
  have T := xallB_at xa (p := ("InvalidDeed", "ValueError")) (List.mem_of_getElem? (i := 3) rfl)
  rw [nw_ValueError] at T
  have mc : ("InvalidDeed" : Str) ∈ cs := List.mem_of_getElem? (i := 3) rfl
  have ii := inB_ok (ck0_at (b := inB K cs) c.ck 3) mc
  exact m_InvalidDeed D T (xinB_ok (ck0_at (b := xinB K (He.ga K "SettleError") "ValueError.__init__") c.ck 9)) (He.glo_ok X G (c.m.2.fact 0 (f := .glo "SettleError") rfl)) (He.glo_ok X G (c.m.2.fact 4 (f := .glo "InvalidDeed") rfl)) ii.1 ii.2 (nofB_ok (ck0_at (b := nofB K cs "value") c.ck 6) _ mc)
theorem mo_InvalidWord (X : K.In h) (G : h.Ns mainGlobals mg) (c : SaysP fa fn prs ck K) : XM P w K mg base 1 "InvalidWord" ["position"] := by
  obtain ⟨fd, D⟩ := c.m.2.def_ 4 (d := d7_0) rfl
  have xa : xallB K cs2 = true := (ck0_at (b := xallB K cs2) c.ck 2)
  have T := xallB_at xa (p := ("InvalidWord", "ValueError")) (List.mem_of_getElem? (i := 4) rfl)
  rw [nw_ValueError] at T
  have mc : ("InvalidWord" : Str) ∈ cs := List.mem_of_getElem? (i := 4) rfl
  have ii := inB_ok (ck0_at (b := inB K cs) c.ck 3) mc
  exact m_InvalidWord D T (xinB_ok (ck0_at (b := xinB K (He.ga K "SettleError") "ValueError.__init__") c.ck 9)) (He.glo_ok X G (c.m.2.fact 0 (f := .glo "SettleError") rfl)) (He.glo_ok X G (c.m.2.fact 5 (f := .glo "InvalidWord") rfl)) ii.1 ii.2 (nofB_ok (ck0_at (b := nofB K cs "position") c.ck 5) _ mc)
theorem mo_TooMany (X : K.In h) (G : h.Ns mainGlobals mg) (c : SaysP fa fn prs ck K) : XM P w K mg base 1 "TooMany" ["what", "limit"] := by
  obtain ⟨fd, D⟩ := c.m.2.def_ 5 (d := d11_0) rfl
  have xa : xallB K cs2 = true := (ck0_at (b := xallB K cs2) c.ck 2)
  have T := xallB_at xa (p := ("TooMany", "ArithmeticError")) (List.mem_of_getElem? (i := 6) rfl)
  rw [nw_ArithmeticError] at T
  have mc : ("TooMany" : Str) ∈ cs := List.mem_of_getElem? (i := 6) rfl
  have ii := inB_ok (ck0_at (b := inB K cs) c.ck 3) mc
  exact m_TooMany D T (xinB_ok (ck0_at (b := xinB K (He.ga K "LimitError") "ArithmeticError.__init__") c.ck 8)) (He.glo_ok X G (c.m.2.fact 6 (f := .glo "LimitError") rfl)) (He.glo_ok X G (c.m.2.fact 7 (f := .glo "TooMany") rfl)) ii.1 ii.2 (nofB_ok (ck0_at (b := nofB K cs "what") c.ck 7) _ mc) (nofB_ok (ck0_at (b := nofB K cs "limit") c.ck 4) _ mc)
theorem kxOf (X : K.In h) (G : h.Ns mainGlobals mg) (c : SaysP fa fn prs ck K) : Kx P w K mg base := by
  have xa : xallB K cs2 = true := (ck0_at (b := xallB K cs2) c.ck 2)
  have cl := clB_ok (ck1_at (b := clB K csI) c.ck 0)
  exact ⟨sysB_ok (ck0_at (b := sysB K) c.ck 0),
    obcB_ok (ck0_at (b := obcB K) c.ck 1),
    cs_eq ▸ xallB_ok xa,
    cl,
    nofB_ok (ck0_at (b := nofB K cs "position") c.ck 5),
    nofB_ok (ck0_at (b := nofB K cs "value") c.ck 6),
    nofB_ok (ck1_at (b := nofB K csI "own_deeds") c.ck 2),
    nofB_ok (ck1_at (b := nofB K csI "own_rows") c.ck 3),
    exB_ok (ck0_at (b := exB K "InvalidDeed" tx_InvalidDeed) c.ck 10),
    exB_ok (ck0_at (b := exB K "InvalidWord" tx_InvalidWord) c.ck 11),
    cfB_ok (ck1_at (b := cfB K "Parts") c.ck 4) (cl _ (List.mem_of_getElem? (i := 0) rfl)),
    cfB_ok (ck1_at (b := cfB K "Thing") c.ck 5) (cl _ (List.mem_of_getElem? (i := 1) rfl)),
    (He.glo_ok X G (c.m.2.fact 4 (f := .glo "InvalidDeed") rfl)),
    (He.glo_ok X G (c.m.2.fact 5 (f := .glo "InvalidWord") rfl)),
    (He.glo_ok X G (c.m.2.fact 19 (f := .glo "Parts") rfl)),
    (He.glo_ok X G (c.m.2.fact 20 (f := .glo "Thing") rfl)),
    mo_InvalidDeeds X G c,
    mo_InvalidRows X G c,
    mo_InvalidState X G c,
    mo_InvalidDeed X G c,
    mo_InvalidWord X G c,
    mo_TooMany X G c,
    neB_ok (ck1_at (b := neB K "Thing") c.ck 7)⟩
theorem lamOf (c : SaysP fa fn prs ck K) : LamOk K [] := lamB_ok (ck1_at (b := lamB K []) c.ck 6)
theorem facts {f : Addr} (X : K.In h) (G : h.Ns mainGlobals mg) (hf : mg ("law" : Str) = some (.ref f)) (c : SaysP fa fn prs ck K) :
    ∃ fd : FuncData, (∀ (s : Shared) (v : Value), BindsTo s fd ⟨[v], []⟩ [("_law_script", v)]) ∧ ∀ base : Heap, K.In base → base.Ns mainGlobals mg → (∀ p ∈ lamCs K, LamX.TabB base mg p.1 p.2) → FnG P w K mg base true 15 f fd ["_law_script"] (spM K 1 F_law) := by
  obtain ⟨fd, D⟩ := c.m.2.def_ 53 (d := d58) rfl
  have e := hf.symm.trans (He.glo_ok X G (c.m.2.fact 46 (f := .glo "law") rfl))
  cases e
  have b := FunD.bindsA (ps := ["_law_script"]) D fun _ _ _ _ _ _ us hl => match us, hl with | [_], _ => rfl
  refine ⟨fd, fun s v => b s [v] rfl, fun base _ _ TB => ?_⟩
  have B := blOf X G c
  have kx : Kx P w K mg base := kxOf X G c
  have gc := gcOf X G c
  have lo := lamOf c
  have cl := clB_ok (ck1_at (b := clB K csI) c.ck 0)
  obtain ⟨f_is_integer, D_is_integer⟩ := c.m.2.def_ 6 (d := d18) rfl
  have o_is_integer := ok_is_integer (P := P) (w := w) (base := base) B  D_is_integer (He.glo_ok X G (c.m.2.fact 8 (f := .glo "is_integer") rfl))
  obtain ⟨f_is_count, D_is_count⟩ := c.m.2.def_ 7 (d := d19) rfl
  have o_is_count := ok_is_count (P := P) (w := w) (base := base) B o_is_integer D_is_count (He.glo_ok X G (c.m.2.fact 9 (f := .glo "is_count") rfl))
  obtain ⟨f_is_below, D_is_below⟩ := c.m.2.def_ 8 (d := d20) rfl
  have o_is_below := ok_is_below (P := P) (w := w) (base := base) B o_is_count D_is_below (He.glo_ok X G (c.m.2.fact 10 (f := .glo "is_below") rfl))
  obtain ⟨f_is_answer, D_is_answer⟩ := c.m.2.def_ 9 (d := d21) rfl
  have o_is_answer := ok_is_answer (P := P) (w := w) (base := base) B gc o_is_below D_is_answer (He.glo_ok X G (c.m.2.fact 11 (f := .glo "is_answer") rfl))
  obtain ⟨f_is_name, D_is_name⟩ := c.m.2.def_ 10 (d := d22) rfl
  have o_is_name := ok_is_name (P := P) (w := w) (base := base) B gc D_is_name (He.glo_ok X G (c.m.2.fact 12 (f := .glo "is_name") rfl))
  obtain ⟨f_is_list, D_is_list⟩ := c.m.2.def_ 11 (d := d23) rfl
  have o_is_list := ok_is_list (P := P) (w := w) (base := base) B  D_is_list (He.glo_ok X G (c.m.2.fact 13 (f := .glo "is_list") rfl))
  obtain ⟨f_is_entry, D_is_entry⟩ := c.m.2.def_ 12 (d := d24) rfl
  have o_is_entry := ok_is_entry (P := P) (w := w) (base := base) B o_is_answer o_is_below D_is_entry (He.glo_ok X G (c.m.2.fact 14 (f := .glo "is_entry") rfl))
  obtain ⟨f_is_row, D_is_row⟩ := c.m.2.def_ 13 (d := d25) rfl
  have o_is_row := ok_is_row (P := P) (w := w) (base := base) B o_is_list o_is_entry D_is_row (He.glo_ok X G (c.m.2.fact 15 (f := .glo "is_row") rfl))
  obtain ⟨f_want_names_of_deeds, D_want_names_of_deeds⟩ := c.m.2.def_ 14 (d := d26) rfl
  have o_want_names_of_deeds := ok_want_names_of_deeds (P := P) (w := w) (base := base) B kx o_is_list o_is_name D_want_names_of_deeds (He.glo_ok X G (c.m.2.fact 16 (f := .glo "want_names_of_deeds") rfl))
  obtain ⟨f_want_few_deeds, D_want_few_deeds⟩ := c.m.2.def_ 15 (d := d27) rfl
  have o_want_few_deeds := ok_want_few_deeds (P := P) (w := w) (base := base) B gc kx D_want_few_deeds (He.glo_ok X G (c.m.2.fact 17 (f := .glo "want_few_deeds") rfl))
  obtain ⟨f_want_parts, D_want_parts⟩ := c.m.2.def_ 16 (d := d28) rfl
  have o_want_parts := ok_want_parts (P := P) (w := w) (base := base) B gc kx o_want_names_of_deeds o_is_list o_is_row o_want_few_deeds D_want_parts (He.glo_ok X G (c.m.2.fact 18 (f := .glo "want_parts") rfl))
  obtain ⟨f_Parts___init__, D_Parts___init__⟩ := c.m.2.def_ 17 (d := d29_0) rfl
  have o_Parts___init__ := ok_Parts___init__ (P := P) (w := w) (base := base) B kx D_Parts___init__ (mkB_ok (ck1_at (b := mkB K csI) c.ck 1) (List.mem_of_getElem? (i := 0) rfl)) (He.glo_ok X G (c.m.2.fact 19 (f := .glo "Parts") rfl))
  obtain ⟨f_Thing___init__, D_Thing___init__⟩ := c.m.2.def_ 18 (d := d30_0) rfl
  have o_Thing___init__ := ok_Thing___init__ (P := P) (w := w) (base := base) B kx o_Parts___init__ o_want_parts D_Thing___init__ (mkB_ok (ck1_at (b := mkB K csI) c.ck 1) (List.mem_of_getElem? (i := 1) rfl)) (He.glo_ok X G (c.m.2.fact 20 (f := .glo "Thing") rfl))
  obtain ⟨f_made_thing, D_made_thing⟩ := c.m.2.def_ 28 (d := d31) rfl
  have o_made_thing := ok_made_thing (P := P) (w := w) (base := base) B o_Thing___init__ o_Parts___init__ D_made_thing (He.glo_ok X G (c.m.2.fact 21 (f := .glo "made_thing") rfl))
  obtain ⟨f_is_state, D_is_state⟩ := c.m.2.def_ 29 (d := d32) rfl
  have o_is_state := ok_is_state (P := P) (w := w) (base := base) B kx o_is_below D_is_state (He.glo_ok X G (c.m.2.fact 22 (f := .glo "is_state") rfl))
  obtain ⟨f_is_deed, D_is_deed⟩ := c.m.2.def_ 30 (d := d33) rfl
  have o_is_deed := ok_is_deed (P := P) (w := w) (base := base) B kx D_is_deed (He.glo_ok X G (c.m.2.fact 23 (f := .glo "is_deed") rfl))
  obtain ⟨f_want_state, D_want_state⟩ := c.m.2.def_ 31 (d := d34) rfl
  have o_want_state := ok_want_state (P := P) (w := w) (base := base) B kx o_is_state D_want_state (He.glo_ok X G (c.m.2.fact 24 (f := .glo "want_state") rfl))
  obtain ⟨f_want_deed, D_want_deed⟩ := c.m.2.def_ 32 (d := d35) rfl
  have o_want_deed := ok_want_deed (P := P) (w := w) (base := base) B kx o_is_deed D_want_deed (He.glo_ok X G (c.m.2.fact 25 (f := .glo "want_deed") rfl))
  obtain ⟨f_place_of, D_place_of⟩ := c.m.2.def_ 33 (d := d36) rfl
  have o_place_of := ok_place_of (P := P) (w := w) (base := base) B kx D_place_of (He.glo_ok X G (c.m.2.fact 26 (f := .glo "place_of") rfl))
  obtain ⟨f_step_at, D_step_at⟩ := c.m.2.def_ 34 (d := d37) rfl
  have o_step_at := ok_step_at (P := P) (w := w) (base := base) B kx D_step_at (He.glo_ok X G (c.m.2.fact 27 (f := .glo "step_at") rfl))
  obtain ⟨f_run_of, D_run_of⟩ := c.m.2.def_ 35 (d := d38) rfl
  have o_run_of := ok_run_of (P := P) (w := w) (base := base) B o_step_at D_run_of (He.glo_ok X G (c.m.2.fact 28 (f := .glo "run_of") rfl))
  obtain ⟨f_states_met, D_states_met⟩ := c.m.2.def_ 36 (d := d39) rfl
  have o_states_met := ok_states_met (P := P) (w := w) (base := base) B o_step_at D_states_met (He.glo_ok X G (c.m.2.fact 29 (f := .glo "states_met") rfl))
  obtain ⟨f_with_states, D_with_states⟩ := c.m.2.def_ 37 (d := d40) rfl
  have o_with_states := ok_with_states (P := P) (w := w) (base := base) B kx o_step_at o_made_thing D_with_states (He.glo_ok X G (c.m.2.fact 30 (f := .glo "with_states") rfl))
  obtain ⟨b_Thing_deeds, f_Thing_deeds, D_Thing_deeds⟩ := c.prop 0 (d := d30_1) rfl
  have o_Thing_deeds := ok_Thing_deeds (P := P) (w := w) (base := base) B kx D_Thing_deeds (prB_ok rfl b_Thing_deeds) (cl _ (List.mem_of_getElem? (i := 1) rfl))
  obtain ⟨f_Thing_rows, D_Thing_rows⟩ := c.m.2.def_ 19 (d := d30_3) rfl
  have o_Thing_rows := ok_Thing_rows (P := P) (w := w) (base := base) B kx D_Thing_rows (mtB_ok (ck1_at (b := mtB K "Thing" "rows") c.ck 8)) (cl _ (List.mem_of_getElem? (i := 1) rfl))
  obtain ⟨f_Thing___call__, D_Thing___call__⟩ := c.m.2.def_ 20 (d := d30_4) rfl
  have o_Thing___call__ := ok_Thing___call__ (P := P) (w := w) (base := base) B o_want_state o_want_deed o_step_at o_place_of D_Thing___call__ (mtB_ok (ck1_at (b := mtB K "Thing" "__call__") c.ck 9)) (cl _ (List.mem_of_getElem? (i := 1) rfl))
  obtain ⟨f_Thing_run, D_Thing_run⟩ := c.m.2.def_ 21 (d := d30_5) rfl
  have o_Thing_run := ok_Thing_run (P := P) (w := w) (base := base) B kx o_want_state o_is_list o_is_deed o_run_of o_place_of D_Thing_run (mtB_ok (ck1_at (b := mtB K "Thing" "run") c.ck 10)) (cl _ (List.mem_of_getElem? (i := 1) rfl))
  obtain ⟨f_Thing_reached, D_Thing_reached⟩ := c.m.2.def_ 22 (d := d30_6) rfl
  have o_Thing_reached := ok_Thing_reached (P := P) (w := w) (base := base) B kx o_want_state o_states_met D_Thing_reached (mtB_ok (ck1_at (b := mtB K "Thing" "reached") c.ck 11)) (cl _ (List.mem_of_getElem? (i := 1) rfl))
  obtain ⟨f_Thing_part, D_Thing_part⟩ := c.m.2.def_ 23 (d := d30_7) rfl
  have o_Thing_part := ok_Thing_part (P := P) (w := w) (base := base) B kx o_want_state o_is_list o_is_deed o_with_states o_states_met D_Thing_part (mtB_ok (ck2_at (b := mtB K "Thing" "part") c.ck 0)) (cl _ (List.mem_of_getElem? (i := 1) rfl))
  obtain ⟨f_Thing___len__, D_Thing___len__⟩ := c.m.2.def_ 24 (d := d30_12) rfl
  have o_Thing___len__ := ok_Thing___len__ (P := P) (w := w) (base := base) B kx D_Thing___len__ (mtB_ok (ck2_at (b := mtB K "Thing" "__len__") c.ck 1)) (cl _ (List.mem_of_getElem? (i := 1) rfl))
  obtain ⟨f_Thing___contains__, D_Thing___contains__⟩ := c.m.2.def_ 25 (d := d30_13) rfl
  have o_Thing___contains__ := ok_Thing___contains__ (P := P) (w := w) (base := base) B o_is_deed D_Thing___contains__ (mtB_ok (ck2_at (b := mtB K "Thing" "__contains__") c.ck 2)) (cl _ (List.mem_of_getElem? (i := 1) rfl))
  obtain ⟨f_Thing___eq__, D_Thing___eq__⟩ := c.m.2.def_ 26 (d := d30_14) rfl
  have o_Thing___eq__ := ok_Thing___eq__ (P := P) (w := w) (base := base) B kx D_Thing___eq__ (mtB_ok (ck2_at (b := mtB K "Thing" "__eq__") c.ck 3)) (cl _ (List.mem_of_getElem? (i := 1) rfl))
  obtain ⟨f_Thing___repr__, D_Thing___repr__⟩ := c.m.2.def_ 27 (d := d30_15) rfl
  have o_Thing___repr__ := ok_Thing___repr__ (P := P) (w := w) (base := base) B kx o_Thing_rows o_Thing_deeds D_Thing___repr__ (mtB_ok (ck2_at (b := mtB K "Thing" "__repr__") c.ck 4)) (cl _ (List.mem_of_getElem? (i := 1) rfl))
  obtain ⟨f__law_pot, D__law_pot⟩ := c.m.2.def_ 38 (d := d43) rfl
  have o__law_pot := ok__law_pot (P := P) (w := w) (base := base) B  D__law_pot (He.glo_ok X G (c.m.2.fact 31 (f := .glo "_law_pot") rfl))
  obtain ⟨f__law_draw, D__law_draw⟩ := c.m.2.def_ 39 (d := d44) rfl
  have o__law_draw := ok__law_draw (P := P) (w := w) (base := base) B  D__law_draw (He.glo_ok X G (c.m.2.fact 32 (f := .glo "_law_draw") rfl))
  obtain ⟨f__law_pick, D__law_pick⟩ := c.m.2.def_ 40 (d := d45) rfl
  have o__law_pick := ok__law_pick (P := P) (w := w) (base := base) B o__law_draw D__law_pick (He.glo_ok X G (c.m.2.fact 33 (f := .glo "_law_pick") rfl))
  obtain ⟨f__law_mixed, D__law_mixed⟩ := c.m.2.def_ 41 (d := d46) rfl
  have o__law_mixed := ok__law_mixed (P := P) (w := w) (base := base) B o__law_draw D__law_mixed (He.glo_ok X G (c.m.2.fact 34 (f := .glo "_law_mixed") rfl))
  obtain ⟨f__law_names, D__law_names⟩ := c.m.2.def_ 42 (d := d47) rfl
  have o__law_names := ok__law_names (P := P) (w := w) (base := base) B o__law_pick D__law_names (He.glo_ok X G (c.m.2.fact 35 (f := .glo "_law_names") rfl))
  obtain ⟨f__law_table, D__law_table⟩ := c.m.2.def_ 43 (d := d48) rfl
  have o__law_table := ok__law_table (P := P) (w := w) (base := base) B o__law_pick o__law_draw D__law_table (He.glo_ok X G (c.m.2.fact 36 (f := .glo "_law_table") rfl))
  obtain ⟨f__law_model, D__law_model⟩ := c.m.2.def_ 44 (d := d49) rfl
  have o__law_model := ok__law_model (P := P) (w := w) (base := base) B o__law_draw o__law_table o__law_names D__law_model (He.glo_ok X G (c.m.2.fact 37 (f := .glo "_law_model") rfl))
  obtain ⟨f__law_thing, D__law_thing⟩ := c.m.2.def_ 45 (d := d50) rfl
  have o__law_thing := ok__law_thing (P := P) (w := w) (base := base) B o_Thing___init__ D__law_thing (He.glo_ok X G (c.m.2.fact 38 (f := .glo "_law_thing") rfl))
  obtain ⟨f__law_run, D__law_run⟩ := c.m.2.def_ 46 (d := d51) rfl
  have o__law_run := ok__law_run (P := P) (w := w) (base := base) B  D__law_run (He.glo_ok X G (c.m.2.fact 39 (f := .glo "_law_run") rfl))
  obtain ⟨f__law_word, D__law_word⟩ := c.m.2.def_ 47 (d := d52) rfl
  have o__law_word := ok__law_word (P := P) (w := w) (base := base) B o__law_draw o__law_pick D__law_word (He.glo_ok X G (c.m.2.fact 40 (f := .glo "_law_word") rfl))
  obtain ⟨f__law_met, D__law_met⟩ := c.m.2.def_ 48 (d := d53) rfl
  have o__law_met := ok__law_met (P := P) (w := w) (base := base) B  D__law_met (He.glo_ok X G (c.m.2.fact 41 (f := .glo "_law_met") rfl))
  obtain ⟨f__law_part, D__law_part⟩ := c.m.2.def_ 49 (d := d54) rfl
  have o__law_part := ok__law_part (P := P) (w := w) (base := base) B o__law_met D__law_part (He.glo_ok X G (c.m.2.fact 42 (f := .glo "_law_part") rfl))
  obtain ⟨f__law_gone_right, D__law_gone_right⟩ := c.m.2.def_ 50 (d := d55) rfl
  have o__law_gone_right := ok__law_gone_right (P := P) (w := w) (base := base) B kx o_Thing___call__ o_Thing_run o_Thing___contains__ o_Thing_deeds D__law_gone_right (He.glo_ok X G (c.m.2.fact 43 (f := .glo "_law_gone_right") rfl))
  obtain ⟨f__law_parts_right, D__law_parts_right⟩ := c.m.2.def_ 51 (d := d56) rfl
  have o__law_parts_right := ok__law_parts_right (P := P) (w := w) (base := base) B kx o_Thing_part o_Thing___eq__ o_Thing_rows o_Thing_reached o_Thing_run o_Thing_deeds o__law_mixed o__law_draw o__law_part o__law_thing o__law_gone_right o__law_word o__law_met D__law_parts_right (He.glo_ok X G (c.m.2.fact 44 (f := .glo "_law_parts_right") rfl))
  obtain ⟨f__law_right, D__law_right⟩ := c.m.2.def_ 52 (d := d57) rfl
  have o__law_right := ok__law_right (P := P) (w := w) (base := base) B kx o_Thing___repr__ o_Thing_reached o_Thing___len__ o_Thing_part o_Thing___eq__ o__law_model o__law_thing o__law_met o__law_parts_right D__law_right (He.glo_ok X G (c.m.2.fact 45 (f := .glo "_law_right") rfl))
  exact og_law (P := P) (w := w) (base := base) B kx o__law_right o__law_pot D
end
end Law
open PySem PySem.W PySem.Calls PyProof.Rows
theorem PySem.Challenge.cw_settlesfirst_k14_states_come_to_and_part_holds : PySem.Challenge.rw_settlesfirst_k14_states_come_to_and_part.Holds := by
  w_on; o_law
  refine HandSHeadRun.head_any (r := OpenLaw.row PySem.Challenge.rw_settlesfirst_k14_states_come_to_and_part) (q := view (OpenLaw.row PySem.Challenge.rw_settlesfirst_k14_states_come_to_and_part).prog [58]) (H := Law.hk) (ob := Law.ob) (M := 30000) (loose := Law.loose) (d := HandSHeadRun.topDef (OpenLaw.row PySem.Challenge.rw_settlesfirst_k14_states_come_to_and_part).prog 58) (kwd := []) Law.ob_eq
    (by kernel_rfl)
    (fun s => by kernel_rfl)
    Law.run (by kernel_rfl) (by kernel_rfl) (by kernel_rfl) (by rfl)
    (by first | assumption | decide +kernel)
    (by decide +kernel) ⟨rfl, rfl, rfl, rfl, rfl, by decide +kernel⟩ ?hw ?hc
  case hw => w_witness2
  case hc =>
    refine Mi.walk_lawT (l := PySem.Challenge.rw_settlesfirst_k14_states_come_to_and_part) (n := 63) (k := 15) (u := true) (x := "_law_script") rfl (by decide) (by kernel_rfl) ⟨rfl, by decide, by decide⟩ ?F
    intro w mg fa h Y G hmg0
    obtain ⟨K, KX, tT, c⟩ := Y
    have hmg : mg ("law" : PySem.Str) = some (.ref fa) := by
      have e : (HandSHeadRun.topDef (OpenLaw.row PySem.Challenge.rw_settlesfirst_k14_states_come_to_and_part).prog 58).name = ("law" : PySem.Str) := by kernel_rfl
      rw [← e]
      exact hmg0
    obtain ⟨fd, hb, hF⟩ := Law.facts (P := (PySem.Challenge.rw_settlesfirst_k14_states_come_to_and_part).prog) (w := w) KX G hmg c
    have lo := Law.lamOf c
    exact ⟨K, fd, Mi.lamCs K, Mi.spM K 1 Law.F_law, KX, tT, fun p hp => (lo.hd p hp).2, fun p hp => PySem.W.codeHd_of_K KX (lo.hd p hp).1, hb, fun H a ns hl hT hS => Mi.law_sp hT hS (Law.law_true ns hl), hF⟩

