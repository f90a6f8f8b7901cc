import PyProof.Rows.All
import Wide.All
import OpenK.AllK
import Wide.FinOn
import KE.KStateDown
import HandS.Base
import HandS.Call
import HandS.Ends
import HandS.Words
import HandS.Head0
import HandS.Head1
import HandS.Head2
import HandS.HeadEnd
import PySem.Challenge.RW_escapechains_k99_errors
import HandS.ForExc
import HandS.ExcInit
import HandS.ExcIs
import HandS.ExcField
import HandS.ExcValue
import HandS.IsInst
import KE.KIsAll
import KE.KExcIs
import HandS.ForMost
import HandS.Style
import HandS.More
import HandS.Walk
import HandS.HeadHook1
set_option Elab.async false
set_option linter.all false
set_option maxRecDepth 100000
set_option maxHeartbeats 0
/-! What the end of the top is looked at for. -/
namespace L2.K9
open PySem PySem.Spec PyProof.Rows L2
abbrev RR : PySem.W.OpenRow := PySem.W.OpenLaw.row PySem.Challenge.rw_escapechains_k99_errors
def top (i : Nat) : Stmt := PySem.Challenge.pw_escapechains_k99_errors.main.body.getD i (.Pass ⟨0, 0, 0, 0⟩)
/-- the __init__ of the class at top i -/
def ini (i : Nat) : Stmt := match top i with
  | .ClassDef _ _ _ (s :: _) .. => s
  | s => s
abbrev FV : Type := Option (Value × Str × Str × Arguments × FuncBody × Scope × Addr × List (Str × Addr) × Value × Addr × Str)
def fnV (g : Addr → Option Obj) (f : Addr) : FV := match g f with
  | some ⟨c, _, .func fd, _⟩ => (match fd.code with
    | .ref cd => (match g cd with
      | some ⟨_, _, .fields vs, _⟩ => (match vs.toList with
        | _ :: .str n _ :: _ => some (c, fd.name, fd.qualname, fd.params, fd.body, fd.scope, fd.globals, fd.closure, fd.defaults, fd.builtins, n)
        | _ => none)
      | _ => none)
    | _ => none)
  | _ => none
def fnVal (x q : Str) (st : Stmt) : FV := some (.type "function", x, q, defArgs st, .stmts (defBody st), defScope st, mainGlobals, [], .none, builtinsNs, q)
/-- none of these names is a key -/
def noKeys (ns : List Str) (es : List DictEntry) : Bool := es.all fun e => match e.key with
  | .str s _ => !ns.contains s
  | _ => false
def dictE (g : Addr → Option Obj) (a : Addr) : Option (List DictEntry) := match g a with
  | some ⟨_, _, .dict es _, _⟩ => some es.toList
  | _ => none
def refAt (es : List DictEntry) (x : Str) : Option Addr := match es.find? (·.key.isStr x) with
  | some ⟨_, _, .ref a⟩ => some a
  | _ => none
abbrev KV : Type := Option (Value × Str × Bool × Bool × Bool × List Value × Option Value × Bool × FV)
def isRef (v : Value) (a : Addr) : Bool := match v with
  | .ref b => Nat.beq b a
  | _ => false
def slot4 (sl : Array (Option Value)) : Option Value := match sl.toList with
  | [_, _, _, _, n, _] => n
  | _ => none
/-- a class with one base at C0 and its own __init__ -/
def clsV (g : Addr → Option Obj) (C0 C : Addr) (ns : List Str) : KV := match g C with
  | some ⟨c, _, .cls cd, sl⟩ => (match dictE g cd.ns with
    | some es => (match refAt es "__init__" with
      | some f => (match cd.mro with
        | a :: b :: tl => some (c, cd.name, cd.hasDict, cd.hasDel, isRef a C && isRef b C0, tl, slot4 sl, noKeys ns es, fnV g f)
        | _ => none)
      | none => none)
    | none => none)
  | _ => none
def baseV (g : Addr → Option Obj) (C : Addr) (ns : List Str) : KV := match g C with
  | some ⟨c, _, .cls cd, sl⟩ => (match dictE g cd.ns with
    | some es => (match cd.mro with
      | a :: tl => some (c, cd.name, cd.hasDict, cd.hasDel, isRef a C, tl, slot4 sl, noKeys ns es, none)
      | _ => none)
    | none => none)
  | _ => none
def hid : List Str := ["__getattribute__", "__getattr__", "__class__", "__setattr__"]
def isSome2 (o : Option Addr) (f : Addr → KV) : KV := match o with
  | some a => f a
  | none => none
def allF : List Str := ["given", "index", "filling", "state", "sign", "count", "one", "other", "line", "name", "place"]
/-- name, attributes, number of the statement -/
def CT : List (Str × List Str × Nat) :=
  ("InvalidAdded", ["given"], 2) ::
  ("InvalidBox", ["given"], 3) ::
  ("InvalidChain", ["given"], 4) ::
  ("InvalidCode", ["given"], 6) ::
  ("InvalidCodes", ["given"], 7) ::
  ("InvalidConfiguration", ["given"], 8) ::
  ("InvalidConfigurations", ["given"], 9) ::
  ("InvalidCuts", ["given"], 10) ::
  ("InvalidEnds", ["given"], 11) ::
  ("InvalidEscaper", ["given"], 12) ::
  ("InvalidEvent", ["given"], 13) ::
  ("InvalidEvents", ["given"], 14) ::
  ("InvalidFilling", ["given"], 15) ::
  ("InvalidIndex", ["given"], 16) ::
  ("InvalidInstructions", ["given"], 17) ::
  ("InvalidItems", ["given"], 18) ::
  ("InvalidKinds", ["given"], 19) ::
  ("InvalidLine", ["given"], 20) ::
  ("InvalidLines", ["given"], 21) ::
  ("InvalidMoves", ["given"], 22) ::
  ("InvalidNumber", ["given"], 23) ::
  ("InvalidOther", ["given"], 24) ::
  ("InvalidPieces", ["given"], 25) ::
  ("InvalidPlace", ["given"], 26) ::
  ("InvalidReader", ["given"], 27) ::
  ("InvalidReaders", ["given"], 28) ::
  ("InvalidRoads", ["given"], 30) ::
  ("InvalidRoute", ["given"], 31) ::
  ("InvalidRows", ["given"], 32) ::
  ("InvalidSign", ["given"], 33) ::
  ("InvalidState", ["given"], 34) ::
  ("InvalidString", ["given"], 35) ::
  ("InvalidText", ["given"], 36) ::
  ("InvalidTriple", ["given"], 37) ::
  ("InvalidTriples", ["given"], 38) ::
  ("InvalidTruths", ["given"], 39) ::
  ("InvalidWithin", ["given"], 40) ::
  ("InvalidWord", ["given"], 41) ::
  ("InvalidClaim", ["index"], 5) ::
  ("InvalidRecord", ["index"], 29) ::
  ("BreaksOut", ["filling"], 43) ::
  ("Mixed", ["state", "sign"], 44) ::
  ("NoChains", [], 45) ::
  ("NotAtEnd", [], 46) ::
  ("NothingToRedo", [], 49) ::
  ("NothingToUndo", [], 50) ::
  ("NotOneHole", ["count"], 47) ::
  ("NotRead", ["count"], 48) ::
  ("OtherSigns", ["one", "other"], 51) ::
  ("Refused", ["line"], 52) ::
  ("TakenName", ["name"], 53) ::
  ("TooLong", ["count"], 54) ::
  ("TooMany", ["count"], 55) ::
  ("TwiceNamed", ["name"], 56) ::
  ("Unfit", ["filling", "place"], 57) ::
  ("UnknownName", ["name"], 58) ::
  ("Unreached", ["state"], 59) ::
  []
def LT : List (Str × Nat) := [("_law_cell", 61), ("_law_box", 62), ("_law_take", 63), ("_law_same", 64), ("_law_copy", 65), ("_law_keeps", 66), ("_law_value", 67), ("_law_made_0", 68), ("_law_made_1", 69), ("_law_made_2", 70), ("_law_is", 71), ("_law_fields", 72), ("_law_raised_0", 73), ("_law_caught_right", 74), ("_law_class_right", 75), ("law", 76)]
def frees : List Str := ["len", "int", "abs", "sum", "isinstance", "bool", "str", "dict", "list", "tuple", "range", "zip", "max", "min", "ValueError"]
abbrev OT : Type := Option (Bool × KV × List KV × List FV × Bool)
def fnO (g : Addr → Option Obj) (o : Option Addr) : FV := match o with
  | some a => fnV g a
  | none => none
def obsG (g : Addr → Option Obj) : OT := match dictE g mainGlobals with
  | some es => (match refAt es "ChainError" with
    | some C0 => some (noKeys frees es, baseV g C0 ("__init__" :: (hid ++ allF)), CT.map fun p => isSome2 (refAt es p.1) fun C => clsV g C0 C (p.2.1 ++ hid), LT.map fun p => fnO g (refAt es p.1),
      match dictE g PySem.cStatics with
      | some ss => noKeys ["thirdparty.any"] ss
      | none => false)
    | none => none)
  | none => none
abbrev veT : List Value := [.type "ValueError", .type "Exception", .type "BaseException", .type "object"]
def valG : OT := some (true, some (.type "type", "ChainError", true, false, true, veT, some (.builtin "ValueError.__new__"), true, none),
  CT.map fun p => some (.type "type", p.1, true, false, true, veT, some (.builtin "ValueError.__new__"), true, fnVal "__init__" (p.1 ++ ".__init__") (ini p.2.2)),
  LT.map fun p => fnVal p.1 p.1 (top p.2), true)
def RunO (M : Nat) (w : World) : Prop := ∀ os : OsState, (HandSHeadRun.endF (HandSHeadRun.stepQ (HandSHeadRun.denQ HandSHeadRun.tabQ) RR.prog w) M RR.prog w os).map (fun s => obsG (HandSHeadRun.getT s)) = some valG
theorem runO (w : World) : RunO 20000 w := by
  intro os
  kernel_rfl
end L2.K9

set_option Elab.async false
set_option linter.all false
set_option maxRecDepth 100000
set_option maxHeartbeats 0
/-! The run of the top, with its own looks. -/
namespace L2.K9
open PySem PySem.Spec PyProof.Rows L2
def looseK : List PySem.Str := (["__name__", "ChainError", "InvalidAdded", "InvalidBox", "InvalidChain", "InvalidClaim", "InvalidCode", "InvalidCodes", "InvalidConfiguration", "InvalidConfigurations", "InvalidCuts", "InvalidEnds", "InvalidEscaper", "InvalidEvent", "InvalidEvents", "InvalidFilling", "InvalidIndex", "InvalidInstructions", "InvalidItems", "InvalidKinds", "InvalidLine", "InvalidLines", "InvalidMoves", "InvalidNumber", "InvalidOther", "InvalidPieces", "InvalidPlace", "InvalidReader", "InvalidReaders", "InvalidRecord"] : List PySem.Str) ++ (["InvalidRoads", "InvalidRoute", "InvalidRows", "InvalidSign", "InvalidState", "InvalidString", "InvalidText", "InvalidTriple", "InvalidTriples", "InvalidTruths", "InvalidWithin", "InvalidWord", "BreaksOut", "Mixed", "NoChains", "NotAtEnd", "NotOneHole", "NotRead", "NothingToRedo", "NothingToUndo", "OtherSigns", "Refused", "TakenName", "TooLong", "TooMany", "TwiceNamed", "Unfit", "UnknownName", "Unreached", "_law_cell"] : List PySem.Str) ++ (["_law_box", "_law_take", "_law_same", "_law_copy", "_law_keeps", "_law_value", "_law_made_0", "_law_made_1", "_law_made_2", "_law_is", "_law_fields", "_law_raised_0", "_law_caught_right", "_law_class_right"] : List PySem.Str)
abbrev qK : Program := PySem.W.view RR.prog [76]
theorem runH (w : World) : HandSHeadRun.RunEq RR qK PySem.W.Hook.none (fun _ => ()) 20000 looseK w := by
  intro os
  kernel_rfl
end L2.K9

set_option Elab.async false
set_option linter.all false
set_option maxRecDepth 100000
set_option maxHeartbeats 4000000
/-! An own exception class over ValueError, called with keywords. -/
namespace L2.K9
open PySem PySem.Spec PyProof.Rows L2
open PySem.HandSPX (refsVE excO veTail)
section
variable {M : Model} {prog : Program} {w : World} {A : Around} {E : Value → Shared → Prop} {R : Result → Shared → Prop} {h : Heap} {g : Array GenState} {d : Drawn} {t : Nat} {os : OsState}
variable {nm q : Str} {C N : Addr} {bs bm : List Value} {hdct : Bool} {sn : List Str} {sub : List Value} {ab : Bool} {col : Option Bool} {dd : Option Addr} {k0 k1 k2 k3 k5 : Option Value}
abbrev VO (nm q : Str) (C N : Addr) (bs bm : List Value) (hdct : Bool) (sn : List Str) (sub : List Value) (ab : Bool) (col : Option Bool) (dd : Option Addr) (k0 k1 k2 k3 k5 : Option Value) : Obj :=
  excClassObj nm q C N bs bm hdct sn sub ab col dd k0 k1 k2 k3 k5 "ValueError.__new__"
theorem has_ve (hm : refsVE bm = true) (X : String) (e : veTail.contains (.type X) = true) : (Value.ref C :: bm).contains (.type X) = true := by
  rw [List.contains_cons, PySem.HandSPX.refsVE_contains X bm hm, e, Bool.or_true]
theorem no_ve (hm : refsVE bm = true) (X : String) (e : veTail.contains (.type X) = false) : (Value.ref C :: bm).contains (.type X) = false := by
  rw [List.contains_cons, PySem.HandSPX.refsVE_contains X bm hm, e]
  rfl
theorem kw_check (hm : refsVE bm = true) {us : List Value} {kw : List (Str × Value)} {Q : Unit → Shared → Prop}
    (hC : h.get? C = some (VO nm q C N bs bm hdct sn sub ab col dd k0 k1 k2 k3 k5)) (hq : Q () ⟨h, g, d, t, os⟩) :
    wpAny M A (checkBuiltinCall "ValueError.__new__" ⟨.ref C :: us, kw⟩) Q E ⟨h, g, d, t, os⟩ := by
  have hc := has_ve (C := C) hm "ValueError" (by decide +kernel)
  have FB := PySem.F.excBase_ValueError
  have hs := FB.noStar
  simp only [checkBuiltinCall, FB.newKind, FB.newSplit, FB.newRow]
  repeat (first
    | refine wpAny_loadPart_at hC ?_
    | (refine wpAny_isSubtype_exc hC ?_; rw [hc])
    | refine wpAny_staticBase_exc hC ?_
    | refine wpAny_madeBy_exc hC ?_
    | simp only [bne_self_eq_false, Bool.false_eq_true, if_false]
    | wp_step)
  exact hq
theorem kw_new (hm : refsVE bm = true) {us : List Value} {kw : List (Str × Value)} (hu : us.length ≤ sizeLine)
    (hC : h.get? C = some (VO nm q C N bs bm hdct sn sub ab col dd k0 k1 k2 k3 k5))
    (hq : R (.ok (.ret (.ref (h.objs.size + 1)))) ⟨(h.push (PySem.W.kdv_tup us)).push (excO C h.objs.size), g, d, t, os⟩) :
    codeAny (model prog w) A (.builtin "ValueError.__new__" ⟨.ref C :: us, kw⟩) R ⟨h, g, d, t, os⟩ := by
  have FB := PySem.F.excBase_ValueError
  have he := FB.ends
  have c1 := has_ve (C := C) hm "ValueError" (by decide +kernel)
  have c2 := no_ve (C := C) hm "AttributeError" (by decide +kernel)
  have c3 := no_ve (C := C) hm "NameError" (by decide +kernel)
  refine codeAny_builtinAt FB.entry ?_
  unfold Builtin.«BaseException.__new__»
  refine PySem.wpAt_bind ?_
  show PySem.wpAt _ _ _ (stack >>= _) _ _ _
  refine PySem.wpAt_bind (PySem.wpAt_stack fun p below => PySem.wpAt_of_wpAny ?_)
  wp_walk
  refine PySem.wpAt_of_wpAny ?_
  rw [FB.owner]
  repeat (first
    | with_reducible refine wpAny_madeHere_exc FB.canon hC ?_
    | with_reducible refine wpAny_loadPart_at hC ?_
    | (with_reducible refine wpAny_isSubtype_exc hC ?_
       first | rw [c1] | rw [c2] | rw [c3])
    | wp_step)
  show R _ _
  rw [Heap.size_push]
  exact hq
theorem kw_type (hm : refsVE bm = true) {us : List Value} {kw : List (Str × Value)} {fI : Addr} {Q : Fin → Shared → Prop} (hu : us.length ≤ sizeLine)
    (hC : h.get? C = some (VO nm q C N bs bm hdct sn sub ab col dd k0 k1 k2 k3 k5))
    (hi : PySem.W.Looks (model prog w) h (typeLookup (.ref C) "__init__") (some (.ref fI))) (hb : ∀ self, PySem.W.Looks (model prog w) h (bindSpecial (.ref fI) self) (.ref fI, [self]))
    (hq : codeAny (model prog w) A (.call (.ref fI) ⟨.ref (h.objs.size + 1) :: us, kw⟩)
      (fun r s' => match r with | .ok (.ret v) => v = .none ∧ Q (.done (.ret (.ref (h.objs.size + 1)))) s' | .ok _ => False | .error e => E e s')
      ⟨(h.push (PySem.W.kdv_tup us)).push (excO C h.objs.size), g, d, t, os⟩) :
    wpAny (model prog w) A (Builtin.«type.__call__» ⟨.ref C :: us, kw⟩) Q E ⟨h, g, d, t, os⟩ := by
  have FB := PySem.F.excBase_ValueError
  repeat (first | with_reducible refine wpAny_loadPart_at hC ?_ | with_reducible refine wpAny_madeBy_exc hC ?_ | wp_step)
  refine codeAny_call_builtin_code (Code.quiet_builtin _ FB.quiet) (kw_check hm hC ?_)
  refine kw_new hm hu hC ?_
  show wpAny _ _ _ _ _ _
  have kp : ∀ b o, h.get? b = some o → ((h.push (PySem.W.kdv_tup us)).push (excO C h.objs.size)).get? b = some o := fun b o e =>
    Heap.get?_push_of_some _ (Heap.get?_push_of_some _ e)
  have hC1 := kp _ _ hC
  have hx : ((h.push (PySem.W.kdv_tup us)).push (excO C h.objs.size)).get? (h.objs.size + 1) = some (excO C h.objs.size) := by heap_get
  have cC : (Value.ref C :: bm).contains (.ref C) = true := by simp
  have j1 := hi.keeps kp
  have j2 := (hb (.ref (h.objs.size + 1))).keeps kp
  unfold isInstance
  repeat (first
    | with_reducible refine wpAny_loadPart_at hx ?_
    | (with_reducible refine wpAny_isSubtype_exc hC1 ?_
       rw [cC])
    | wp_step)
  show wpAny _ _ (typeLookup (.ref C) _) _ _ _
  refine j1.at ?_
  refine wpAny_holding (wpAny_bind (j2.at ?_))
  refine wpAny_bind (wpAny_call (codeAny_mono hq fun r s' z => ?_))
  rcases r with e | (v | _ | _ | _) <;> first | exact z | exact z.elim | skip
  obtain ⟨rfl, z⟩ := z
  first
    | exact wpAny_pure (wpAny_pure z)
    | (wp_walk
       exact z)
theorem kw_tcheck {us : List Value} {kw : List (Str × Value)} {Q : Unit → Shared → Prop} (hC : h.get? C = some (VO nm q C N bs bm hdct sn sub ab col dd k0 k1 k2 k3 k5))
    (hq : Q () ⟨h, g, d, t, os⟩) : wpAny M A (checkBuiltinCall "type.__call__" ⟨.ref C :: us, kw⟩) Q E ⟨h, g, d, t, os⟩ := by
  have f3 := tc_sub
  have hT : (⟨h, g, d, t, os⟩ : Shared).TypeIs (.ref C) "type" := ⟨_, hC, rfl⟩
  simp only [checkBuiltinCall, tc_kind, tc_split]
  repeat (any_goals (first
    | assumption
    | with_reducible refine wpAny_loadPart_at hC ?_
    | with_reducible refine wpAny_onRaise ?_
    | with_reducible refine wpAny_map ?_
    | wp_step))
theorem kw_call (hm : refsVE bm = true) {us : List Value} {kw : List (Str × Value)} {fI : Addr} (hu : us.length ≤ sizeLine)
    (hC : h.get? C = some (VO nm q C N bs bm hdct sn sub ab col dd k0 k1 k2 k3 k5))
    (hi : PySem.W.Looks (model prog w) h (typeLookup (.ref C) "__init__") (some (.ref fI))) (hb : ∀ self, PySem.W.Looks (model prog w) h (bindSpecial (.ref fI) self) (.ref fI, [self]))
    (hq : codeAny (model prog w) (A.under (.builtin "type.__call__" ⟨.ref C :: us, kw⟩)) (.call (.ref fI) ⟨.ref (h.objs.size + 1) :: us, kw⟩) (PySem.W.InitBack (h.objs.size + 1) R)
      ⟨(h.push (PySem.W.kdv_tup us)).push (excO C h.objs.size), g, d, t, os⟩) :
    codeAny (model prog w) A (.call (.ref C) ⟨us, kw⟩) R ⟨h, g, d, t, os⟩ := by
  have f1 := tc_lookup
  have f2 := tc_bind (.ref C)
  have hT : (⟨h, g, d, t, os⟩ : Shared).TypeIs (.ref C) "type" := ⟨_, hC, rfl⟩
  refine codeAny_of_tree ?_
  show wpAny _ _ (callAny (.ref C) _) _ _ _
  repeat (any_goals (first | assumption | with_reducible refine wpAny_loadPart_at hC ?_ | wp_step))
  refine ⟨rfl, ?_⟩
  refine codeAny_call_builtin_at (Code.quiet_builtin _ (by decide +kernel)) entry_typeCall (kw_tcheck hC (kw_type hm hu hC hi hb ?_))
  refine codeAny_mono hq fun r s' z => ?_
  rcases r with e | (v | _ | _ | _) <;> exact z
end
end L2.K9

set_option Elab.async false
set_option linter.all false
set_option maxRecDepth 100000
set_option maxHeartbeats 4000000
/-! Exceptions of own classes over ValueError as values: made, read, asked for their class. -/
namespace L2.K9
open PySem PySem.Spec PyProof.Rows L2
open PySem.HandSPX (refsVE excO veTail)
/-! ### what is told of an exception -/
/-- at e: an exception of the class at C, its dict d; b: nothing was noted of it so far -/
def exi (e C : Addr) (d : Option Addr) (b : Bool) : HO := .ext fun h => ∃ oe vs, h.get? e = some oe ∧ Zc (.ref C) d oe ∧ oe.data = .fields vs ∧ (b = true → vs[1]? = some .none)
theorem exi_ok {P : Program} {w : World} {H : Hp} {h : Heap} {e C : Addr} {d : Option Addr} {b : Bool} {oe : Obj} {vs : Array Value} (he : h.get? e = some oe) (hz : Zc (.ref C) d oe) (hd : oe.data = .fields vs) (h1 : b = true → vs[1]? = some .none) :
    ObjOk P w H h e (exi e C d b) :=
  ⟨⟨oe, vs, he, hz, hd, h1⟩, ⟨oe, he⟩, fun _ _ ⟨o, v, q, r⟩ k => ⟨o, v, k o q, r⟩⟩
theorem exi_at {P : Program} {w : World} {H : Hp} {h : Heap} {e C : Addr} {d : Option Addr} {b : Bool} (ok : HOk P w H h) (q : H e = some (exi e C d b)) :
    ∃ oe vs, h.get? e = some oe ∧ Zc (.ref C) d oe ∧ oe.data = .fields vs ∧ (b = true → vs[1]? = some .none) := by
  have z : ObjOk P w H h e (.ext fun h => ∃ oe vs, h.get? e = some oe ∧ Zc (.ref C) d oe ∧ oe.data = .fields vs ∧ (b = true → vs[1]? = some .none)) := ok e _ q
  exact z.1
/-- an exception of the class at C stands at e, its attributes fs -/
def ExAt (H : Hp) (e C : Addr) (fs : List (Str × V)) (b : Bool) : Prop := (fs = [] ∧ H e = some (exi e C none b)) ∨ ∃ d, H e = some (exi e C (some d) b) ∧ H d = some (.xd fs)
theorem ExAt.same {H H' : Hp} {e C : Addr} {fs : List (Str × V)} {b : Bool} (x : ExAt H e C fs b) (k : ∀ a o, H a = some o → H' a = some o) : ExAt H' e C fs b := by
  rcases x with ⟨a, q⟩ | ⟨d, q, r⟩
  · exact .inl ⟨a, k _ _ q⟩
  · exact .inr ⟨d, k _ _ q, k _ _ r⟩
/-- what must be known of a class at C, the own classes up above it -/
structure XC (K : PySem.W.Frag) (C : Addr) (up : List Addr) : Prop where
  oex : OexC K C
  ga : PySem.W.findIn K (.ref C) "__getattribute__" = some (some (.builtin "BaseException.__getattribute__"))
  gg : PySem.W.findIn K (.ref C) "__getattr__" = some none
  hd : PySem.W.hasDictIn K C = true
  cl : PySem.W.findIn K (.ref C) "__class__" = some (some (.builtin "object.__class__"))
  cg : PySem.W.specialIn K (.builtin "object.__class__") "__get__" = some (some (.builtin "getset_descriptor.__get__"))
  ct : PySem.W.takesIn K (.builtin "object.__class__") = some true
  own : ∃ cd, PySem.W.clsIn K C = some cd ∧ cd.mro = .ref C :: (up.map Value.ref ++ veTail)
section
variable {K : PySem.W.Frag} {C D : Addr} {up : List Addr}
theorem XC.mro (T : XC K C up) (v : Value) : PySem.W.mroIn K C v = some ((Value.ref C :: (up.map Value.ref ++ veTail)).contains v) := by
  obtain ⟨cd, h1, h2⟩ := T.own
  unfold PySem.W.mroIn
  rw [h1, Option.bind_some, h2]
  rfl
theorem XC.obj (T : XC K C up) : PySem.W.mroIn K C (.type "object") = some true := by
  rw [T.mro]
  have q : (up.map Value.ref ++ veTail).contains (Value.type "object") = true := by
    rw [List.contains_eq_mem, decide_eq_true_iff]
    exact List.mem_append_right _ (by decide)
  rw [List.contains_cons, q, Bool.or_true]
theorem XC.isCls (T : XC K C up) : (PySem.W.clsIn K C).isSome = true := by
  obtain ⟨cd, h1, _⟩ := T.own
  rw [h1]
  rfl
/-- isinstance, of a class of the program -/
theorem XC.kit {up' : List Addr} (T : XC K C up) (S : XC K D up') : PySem.W.kitOne K (.ref C) (.ref D) = some ((C :: up).contains D) := by
  unfold PySem.W.kitOne
  by_cases h : C = D
  · subst h
    rw [if_pos (by simp)]
    simp
  · rw [if_neg (by simpa using h)]
    unfold PySem.W.kitCls
    have e1 : ((PySem.W.clsIn K D).isSome && PySem.W.typeIn K (.ref D) == some (.type "type")) = true := by
      rw [S.isCls, S.oex.tyC]
      rfl
    dsimp only
    rw [if_pos e1]
    show PySem.W.mroIn K C (.ref D) = _
    rw [T.mro]
    congr 1
    rw [List.contains_eq_mem, List.contains_eq_mem]
    refine decide_eq_decide.mpr ?_
    constructor
    · intro hm
      rcases List.mem_cons.mp hm with q | q
      · cases q
        exact absurd rfl h
      · rcases List.mem_append.mp q with q | q
        · obtain ⟨a, ha, q⟩ := List.mem_map.mp q
          cases q
          exact List.mem_cons_of_mem _ ha
        · exact absurd q (by simp [veTail])
    · intro hm
      rcases List.mem_cons.mp hm with q | q
      · rw [q]
        exact List.mem_cons_self
      · exact List.mem_cons_of_mem _ (List.mem_append_left _ (List.mem_map.mpr ⟨D, q, rfl⟩))
theorem XC.kitVE (T : XC K C up) : PySem.W.kitOne K (.ref C) (.type "ValueError") = some true := by
  unfold PySem.W.kitOne
  rw [if_neg (by simp)]
  unfold PySem.W.kitCls
  dsimp only
  rw [if_pos (by decide +kernel)]
  show PySem.W.mroIn K C (.type "ValueError") = _
  rw [T.mro]
  have q : (up.map Value.ref ++ veTail).contains (Value.type "ValueError") = true := by
    rw [List.contains_eq_mem, decide_eq_true_iff]
    exact List.mem_append_right _ (by decide)
  rw [List.contains_cons, q, Bool.or_true]
end
section
variable {X : Cx} {pins : List (Addr × Obj)} {σ : L2.St} {H : Hp} {s : Shared} {e C : Addr} {fs : List (Str × V)} {b : Bool}
/-- such an exception, in the machine's own words -/
theorem ExAt.inst (I : Inv X pins σ H s) (x : ExAt H e C fs b) : ∃ oe od, PySem.W.InstAt s.heap e oe C od ∧ (∀ f v, fs.lookup f = some v → ∃ o u, od = some o ∧ PySem.W.lookIn f o = some (some u) ∧ RelV v u) := by
  rcases x with ⟨rfl, q⟩ | ⟨d, q, r⟩
  · obtain ⟨oe, vs, h1, h2, h3, _⟩ := exi_at I.hok q
    refine ⟨oe, none, ⟨h1, h2.1, by unfold PySem.W.notCls; rw [h3], by rw [h2.2]; trivial⟩, fun f v z => ?_⟩
    cases z
  · obtain ⟨oe, vs, h1, h2, h3, _⟩ := exi_at I.hok q
    have hx : ObjOk X.prog X.w H s.heap d (.xd fs) := I.hok d _ r
    obtain ⟨mA, hns, hr⟩ := hx
    obtain ⟨od, ho, hl⟩ := lookIn_ns hns
    refine ⟨oe, some od, ⟨h1, h2.1, by unfold PySem.W.notCls; rw [h3], by rw [h2.2]; exact ho⟩, fun f v z => ?_⟩
    obtain ⟨u, hu, ru⟩ := RelO.some_of (v := v) (o := mA f) (by rw [← z]; exact hr f)
    exact ⟨od, u, rfl, by rw [hl, hu], ru⟩
end
/-! ### isinstance(e, c) -/
/-- e an exception of an own class; c a class -/
def rIsX (K : PySem.W.Frag) : List V → Hp → VK → Prop := fun xs H Q => ∃ (e C : Addr) (fs : List (Str × V)) (b : Bool) (up : List Addr) (c : V) (cv : Value) (r : Bool), xs = [.ref e, c] ∧ ExAt H e C fs b ∧ XC K C up ∧ ClsV c cv ∧ PySem.W.kitOne K (.ref C) cv = some r ∧ Q (.bl r) H
theorem call_isx {X : Cx} : CallR X (.builtin "isinstance") (rIsX X.K) := by
  intro pins s σ H xs us Q I r h
  obtain ⟨e, C, fs, b, up, c, cv, rr, rfl, x, T, k, q, h⟩ := h
  cases r with
  | cons r1 r2 =>
    cases r2 with
    | cons r2 r3 =>
      cases r3
      cases r1
      have ec := k.eq r2
      subst ec
      obtain ⟨oe, od, J, _⟩ := x.inst I
      exact PySem.W.kia_one (PySem.W.kitx_exc T.isCls T.ga T.gg T.oex.exC T.cl T.cg T.ct T.obj) I.kIn J q (fun z => nomatch z) fun tk => ⟨.bl rr, H, I.tok tk, rfl, h⟩
/-! ### e.f -/
def tExf (K : PySem.W.Frag) (f : Str) (te : TE) : TE := fun σ H Q => te σ H fun x H1 => ∃ (e C : Addr) (fs : List (Str × V)) (b : Bool) (up : List Addr) (v : V), x = .ref e ∧ ExAt H1 e C fs b ∧ XC K C up ∧ PySem.W.findIn K (.ref C) f = some none ∧ fs.lookup f = some v ∧ Q v H1
theorem pe_exf {X : Cx} {e : Expr} {te : TE} {pos : Pos} {f : Str} (he : PE X e te) (hb : attributeBase e f X.env (eval e X.env) = eval e X.env := by rfl) : PE X (.Attribute e f pos) (tExf X.K f te) := by
  refine ⟨fun pins s σ H Q I h => attr_of hb (thn (he.run pins s σ H _ I h) fun u s1 hh => ?_)⟩
  obtain ⟨x, H1, I1, rx, a, C, fs, b, up, v, ex, xa, T, hno, l, q⟩ := hh
  subst ex
  obtain rfl : u = Value.ref a := rx
  obtain ⟨oe, od, J, lk⟩ := xa.inst I1
  obtain ⟨o, u, ho, hl, ru⟩ := lk f v l
  subst ho
  exact PySem.HandSPX.exc_get I1.kIn J T.ga T.gg T.oex.exC (PySem.W.findObj_own T.hd hno rfl hl) (handed_of ru) ⟨v, H1, I1.tok _, ru, q⟩
end L2.K9

set_option Elab.async false
set_option linter.all false
set_option maxRecDepth 100000
set_option maxHeartbeats 4000000
/-! Making such an exception: C(e, ..), C(k = v, ..), C(). -/
namespace L2.K9
open PySem PySem.Spec PyProof.Rows L2
open PySem.HandSPX (refsVE excO veTail)
/-- the attributes as __init__ stores them, the last one first -/
def flds (fl : List Str) (ws : List V) : List (Str × V) := (fl.zip ws).reverse
/-- what an __init__ leaves of the heap H: nothing new, or the dict at d -/
def IniEnd (H H' : Hp) (a C : Addr) (fs : List (Str × V)) : Prop := (fs = [] ∧ H' = H) ∨ ∃ d, H d = none ∧ d ≠ a ∧ H' a = some (exo a C (some d)) ∧ H' d = some (exd d fs) ∧ ∀ b, b ≠ a → b ≠ d → H' b = H b
/-- the promise of an __init__ that stores its arguments fl -/
def spI (C : Addr) (fl : List Str) : Sp := fun vs H Q _ => ∃ (a : Addr) (ws : List V), vs = .ref a :: ws ∧ ws.length = fl.length ∧ H a = some (exo a C none) ∧ ∀ H', IniEnd H H' a C (flds fl ws) → Q .non H'
section
variable {X : Cx} {pins : List (Addr × Obj)} {σ : L2.St} {H : Hp} {s : Shared}
/-- told otherwise -/
theorem Inv.retell {a : Addr} {o : HO} (I : Inv X pins σ H s) (mu : Mut (H a)) (new : ObjOk X.prog X.w (upd H a o) s.heap a o) : Inv X pins σ (upd H a o) s := by
  obtain ⟨u, hu⟩ := objOk_get new
  exact I.write (h' := s.heap) (t' := s.toks) (x := a) (e := a) (o := o) mu (.inl rfl) (fun _ _ _ q => q) ⟨u, hu⟩ new
/-- an exception that was made is told by exi -/
theorem Inv.made_x {C a : Addr} {fs : List (Str × V)} {H1 H2 : Hp} (I : Inv X pins σ H2 s) (h0 : H1 a = some (exo a C none)) (e : IniEnd H1 H2 a C fs) :
    ∃ H3, Inv X pins σ H3 s ∧ ExAt H3 a C fs true ∧ ∀ b o, b ≠ a → H1 b = some o → H3 b = some o := by
  rcases e with ⟨rfl, rfl⟩ | ⟨d, n, hda, ha, hd, hr⟩
  · obtain ⟨t1, q⟩ := exo_at I.hok h0
    refine ⟨_, Inv.retell (a := a) (o := exi a C none true) I (by rw [h0]; exact True.intro) (exi_ok q ⟨rfl, rfl⟩ rfl fun _ => rfl), .inl ⟨rfl, upd_same⟩, fun b o hb q => ?_⟩
    rw [upd_ne hb]
    exact q
  · obtain ⟨t1, q⟩ := exo_at I.hok ha
    obtain ⟨mA, hns, rel⟩ := exd_at I.hok hd
    have I1 := Inv.retell (a := a) (o := exi a C (some d) true) I (by rw [ha]; exact True.intro) (exi_ok q ⟨rfl, rfl⟩ rfl fun _ => rfl)
    have hd1 : upd H2 a (exi a C (some d) true) d = some (exd d fs) := by
      rw [upd_ne hda]
      exact hd
    have I2 := Inv.retell (a := d) (o := .xd fs) I1 (by rw [hd1]; exact True.intro) ⟨mA, hns, rel⟩
    refine ⟨_, I2, .inr ⟨d, ?_, upd_same⟩, fun b o hb q => ?_⟩
    · rw [upd_ne (Ne.symm hda), upd_same]
    · have nd : b ≠ d := fun z => by
        rw [z, n] at q
        cases q
      rw [upd_ne nd, upd_ne hb, hr b hb nd]
      exact q
end
/-- what a class of the program makes: C(..) -/
structure XM (K : PySem.W.Frag) (mg : Str → Option Value) (x : Str) (C : Addr) (up : List Addr) (fI : Addr) : Prop where
  xc : XC K C up
  mgC : mg x = some (.ref C)
  iC : PySem.W.findIn K (.ref C) "__init__" = some (some (.ref fI))
  tI : PySem.W.typeIn K (.ref fI) = some (.type "function")
/-- how C(..) reads -/
def tMkx (C : Addr) (fl : List Str) (g : List V → List V) (ta : TA) : TE := fun σ H Q => ta σ H fun vs H1 => (g vs).length = fl.length ∧ vs.length ≤ 1000 ∧
  ∀ a H2, H1 a = none → (∀ b o, H1 b = some o → H2 b = some o) → ExAt H2 a C (flds fl (g vs)) true → Q (.ref a) H2
section
variable {X : Cx} {CX : CXT} {pins : List (Addr × Obj)} {σ : L2.St} {H : Hp} {s : Shared} {x : Str} {C fI : Addr} {up : List Addr} {k : Nat} {fd : FuncData} {ps : List Str} {fl : List Str}
theorem mkx_run {Q : VK} {us ws : List Value} {kw : List (Str × Value)} {vs : List V} (T : XM X.K X.mg x C up fI) (F1 : FnOk X.prog X.w X.K X.mg X.base CX k fI fd ps (spI C fl)) (hr : Room (k + 1) X.A) (hx : Passes CX X (fun _ _ _ => False))
    (I1 : Inv X pins σ H s) (hu : us.length ≤ sizeLine) (hb : ∀ (s : Shared) (self : Value), BindsTo s fd ⟨self :: us, kw⟩ (ps.zip (self :: ws))) (r : Vals vs ws) (hl : vs.length = fl.length)
    (q : ∀ a H2, H a = none → (∀ b o, H b = some o → H2 b = some o) → ExAt H2 a C (flds fl vs) true → Q (.ref a) H2) :
    wpAny (model X.prog X.w) X.A (call (.ref C) us kw) (EP X pins σ Q) X.xe s := by
  obtain ⟨nm, qn, N, bs, bm, sn, sub, ab, col, dd, k0, k1, k2, k3, k5, hC, hbm⟩ := T.xc.oex.cls
  obtain ⟨hp, g, dr, tk, os⟩ := s
  have hsz : hp.objs.size ≤ hp.objs.size + 1 := Nat.le_succ _
  have hn : H (hp.objs.size + 1) = none := I1.hok.fresh hsz
  have kk : ∀ b o, hp.get? b = some o → ((hp.push (PySem.W.kdv_tup us)).push (excO C hp.objs.size)).get? b = some o := fun b o e =>
    Heap.get?_push_of_some _ (Heap.get?_push_of_some _ e)
  have hget : ((hp.push (PySem.W.kdv_tup us)).push (excO C hp.objs.size)).get? (hp.objs.size + 1) = some (excO C hp.objs.size) := by heap_get
  have I2 : Inv X pins σ (upd H (hp.objs.size + 1) (exo (hp.objs.size + 1) C none)) ⟨(hp.push (PySem.W.kdv_tup us)).push (excO C hp.objs.size), g, dr, tk, os⟩ :=
    I1.laid (t' := tk) (h' := (hp.push (PySem.W.kdv_tup us)).push (excO C hp.objs.size)) kk hsz (exo_ok hget)
  have r2 : Vals (V.ref (hp.objs.size + 1) :: vs) (Value.ref (hp.objs.size + 1) :: ws) := .cons rfl r
  have hs : spI C fl (.ref (hp.objs.size + 1) :: vs) (upd H (hp.objs.size + 1) (exo (hp.objs.size + 1) C none)) (fun v H2 => v = .non ∧ IniEnd (upd H (hp.objs.size + 1) (exo (hp.objs.size + 1) C none)) H2 (hp.objs.size + 1) C (flds fl vs)) (fun _ _ _ => False) :=
    ⟨_, vs, rfl, hl, upd_same, fun H' e => ⟨rfl, e⟩⟩
  refine wpAny_call (kw_call hbm hu (I1.kIn _ _ hC) (PySem.W.looks_findIn I1.kIn T.iC) (fun self => PySem.W.bind_fn I1.kIn self T.tI)
    (codeAny_mono (F1.run _ X.stack _ _ ⟨Value.ref (hp.objs.size + 1) :: us, kw⟩ _ _ _ (fun _ _ _ => False) (hr.make C us kw) (I2.env0.make C us kw) (hb _ _) r2 hs) fun r s' hq' => ?_))
  cases r with
  | error er => exact hx pins σ _ _ er s' I2 hq'
  | ok fw =>
    cases fw with
    | ret u =>
      obtain ⟨v, H2, I3, rv, ev, e2⟩ := I2.after hq'
      subst ev
      refine ⟨rv, ?_⟩
      obtain ⟨H3, I4, xa, kp⟩ := Inv.made_x I3 upd_same e2
      refine ⟨.ref (hp.objs.size + 1), H3, I4, rfl, q _ H3 hn (fun b o e => ?_) xa⟩
      have nb : b ≠ hp.objs.size + 1 := fun z => by
        rw [z, hn] at e
        cases e
      exact kp b o nb (by rw [upd_ne nb]; exact e)
    | next => exact False.elim hq'
    | brk => exact False.elim hq'
    | cont => exact False.elim hq'
/-- C(e, ..) -/
theorem pe_mkx {e : Expr} {es : List Expr} {ta : TA} {p pos : Pos} (T : XM X.K X.mg x C up fI) (F1 : FnOk X.prog X.w X.K X.mg X.base CX k fI fd ps (spI C fl)) (hr : Room (k + 1) X.A) (hx : Passes CX X (fun _ _ _ => False)) (hg : Gl X x)
    (hb2 : ∀ (s : Shared) (self : Value) (us : List Value), us.length = fl.length → BindsTo s fd ⟨self :: us, []⟩ (ps.zip (self :: us))) (ha : PA X (e :: es) ta)
    (hdb : (x == ("__debug__" : Str)) = false := by decide) (he : starEach (e :: es) X.env = (false, eval e X.env) :: starEach es X.env := by rfl) (hpl : (backTo pos (starEach es X.env)).any (·.1) = false := by rfl) :
    PE X (.Call (.Name x p) (e :: es) [] pos) (tMkx C fl id ta) := by
  refine ⟨fun pins s σ H Q I h => ?_⟩
  refine wpAny_Call_Name_kw (ld_glob I hg T.mgC ?_ hdb)
  refine PySem.W.callWith_K (h₀ := X.base) I.ok.mod.kin T.xc.oex.kC (thn (ha.run pos pins s σ H _ I h) fun us s1 ⟨vs, H1, I1, r1, hl, hz, q1⟩ => ⟨I1.kIn, ?_⟩) he hpl
  show wpAny _ _ (call (.ref C) us) _ _ _
  have hu : us.length ≤ sizeLine := by
    rw [← Paired.length r1, sizeLine_eq]
    omega
  exact mkx_run T F1 hr hx I1 hu (fun s self => hb2 s self us (by rw [← Paired.length r1]; exact hl)) r1 hl q1
/-- C() -/
theorem pe_mkx0 {p pos : Pos} (T : XM X.K X.mg x C up fI) (F1 : FnOk X.prog X.w X.K X.mg X.base CX k fI fd ps (spI C [])) (hr : Room (k + 1) X.A) (hx : Passes CX X (fun _ _ _ => False)) (hg : Gl X x)
    (hb2 : ∀ (s : Shared) (self : Value), BindsTo s fd ⟨[self], []⟩ (ps.zip [self])) (hdb : (x == ("__debug__" : Str)) = false := by decide) : PE X (.Call (.Name x p) [] [] pos) (tMkx C [] id tNil) := by
  refine ⟨fun pins s σ H Q I h => ?_⟩
  obtain ⟨_, _, q1⟩ := h
  refine wpAny_Call_Name_kw (ld_glob I hg T.mgC ?_ hdb)
  refine PySem.W.callWith_K0 I.kIn T.xc.oex.kC ?_
  exact mkx_run (us := []) (ws := []) (vs := []) T F1 hr hx I (Nat.zero_le _) (fun s self => hb2 s self) .nil rfl q1
/-- C(k = v, ..): g puts the values in the parameters' order -/
theorem pe_mkxK {kws : List Keyword} {tk : TA} {p pos : Pos} {ks : List Str} {g : {α : Type} → List α → List α} (T : XM X.K X.mg x C up fI) (F1 : FnOk X.prog X.w X.K X.mg X.base CX k fI fd ps (spI C fl)) (hr : Room (k + 1) X.A) (hx : Passes CX X (fun _ _ _ => False)) (hg : Gl X x)
    (hb2 : ∀ (s : Shared) (self : Value) (us : List Value), (g us).length = fl.length → BindsTo s fd ⟨[self], ks.zip us⟩ (ps.zip (self :: g us))) (hgr : ∀ {vs : List V} {us : List Value}, Vals vs us → Vals (g vs) (g us)) (hkw : PK X kws tk)
    (hall : (backToKw pos (keywordEach kws X.env)).all (·.1.isSome) = true := by rfl) (hks : (backToKw pos (keywordEach kws X.env)).filterMap (·.1) = ks := by rfl) (hdb : (x == ("__debug__" : Str)) = false := by decide)
    (hpl : ((backTo pos (starEach [] X.env)).any (·.1) || (backToKw pos (keywordEach kws X.env)).any (·.1.isNone)) = false := by rfl) : PE X (.Call (.Name x p) [] kws pos) (tMkx C fl g tk) := by
  refine ⟨fun pins s σ H Q I h => ?_⟩
  refine wpAny_Call_Name_kw (ld_glob I hg T.mgC ?_ hdb)
  refine PySem.W.callWith_KW0 (h₀ := X.base) I.ok.mod.kin T.xc.oex.kC hall ?_ hpl
  refine thn (hkw.run pos pins s σ H _ I h) fun us s1 ⟨vs, H1, I1, r1, hl, hz, q1⟩ => ⟨I1.kIn, ?_⟩
  rw [hks]
  have r2 := hgr r1
  exact mkx_run (us := []) (ws := g us) (vs := g vs) T F1 hr hx I1 (Nat.zero_le _) (fun s self => hb2 s self us (by rw [← Paired.length r2]; exact hl)) r2 hl q1
end
end L2.K9

set_option Elab.async false
set_option linter.all false
set_option maxRecDepth 100000
set_option maxHeartbeats 4000000
/-! ChainError.__init__(self, ..), the __init__ of a class with no, one, two attributes. -/
namespace L2.K9
open PySem PySem.Spec PyProof.Rows L2
open PySem.HandSPX (refsVE excO veTail)
/-- what must be known of the base class at C0 -/
structure CI (K : PySem.W.Frag) (mg : Str → Option Value) (C0 : Addr) : Prop where
  mgC : mg "ChainError" = some (.ref C0)
  sg : PySem.W.specialIn K (.ref C0) "__getattribute__" = some (some (.builtin "type.__getattribute__"))
  rd : PySem.W.readsIn K C0 (.type "type") = true
  fc : PySem.W.findCls K (.ref C0) (.type "type") "__init__" = some (.val (.builtin "ValueError.__init__"))
section
variable {X : Cx} {C0 : Addr} {e : Expr} {es : List Expr} {ta : TA} {p1 p2 pos : Pos}
theorem pe_chi {pl : Sem Bool} (Z : CI X.K X.mg C0) (hg : Gl X "ChainError") (ha : PA X (e :: es) ta)
    (hc : eval (.Call (.Attribute (.Name "ChainError" p1) "__init__" p2) (e :: es) [] pos) X.env = (do
      let ov ← eval (.Name "ChainError" p1) X.env
      standAt p2.atName
      let (f, first) ← holding [ov] (getMethod ov "__init__" pl)
      callWith pos f first (backTo pos (starEach (e :: es) X.env)) (backToKw pos (keywordEach [] X.env))) := by rfl)
    (he : starEach (e :: es) X.env = (false, eval e X.env) :: starEach es X.env := by rfl) (hpl : (backTo pos (starEach es X.env)).any (·.1) = false := by rfl) :
    PE X (.Call (.Attribute (.Name "ChainError" p1) "__init__" p2) (e :: es) [] pos) (tVeI X.K ta) := by
  refine ⟨fun pins s σ H Q I h => ?_⟩
  refine PySem.W.methodCall_KW (ld_glob I hg Z.mgC ?_) hc
  refine PySem.W.method_cls I.kIn Z.sg (PySem.W.cls_value I.kIn Z.rd Z.fc (by decide +kernel) ?_)
  show wpAny _ _ (callWith pos (Value.builtin "ValueError.__init__") [] (backTo pos (starEach (e :: es) X.env)) []) _ _ _
  refine PyProof.Rows.callWith_method1 (thn (ha.run pos pins _ σ H _ (I.tok _) h) fun us s1 hh => ?_) he hpl
  obtain ⟨vs, H1, I1, r1, a, C, ws, rfl, hl, T, ea, q⟩ := hh
  cases r1 with
  | cons ra rw' =>
    cases ra
    refine oinit_ok T I1 ea ?_ fun s' J => ⟨.non, H1, J, rfl, q⟩
    rw [← Paired.length rw', sizeLine_eq]
    omega
end
/-! ### the bodies -/
def t_i0 (K : PySem.W.Frag) (t : Str) : TS := tDrop (tVeI K (tCons (tVar 0) (tCons (tC (.str t)) tNil)))
def t_i1 (K : PySem.W.Frag) (t f : Str) : TS := tSeq (t_i0 K t) (tOst K f (tVar 0) (tVar 1))
def t_i2 (K : PySem.W.Frag) (t f g : Str) : TS := tSeq (t_i0 K t) (tSeq (tOst K f (tVar 0) (tVar 1)) (tOst K g (tVar 0) (tVar 2)))
section
variable {K : PySem.W.Frag} {C : Addr} {up : List Addr} {t f g : Str}
theorem len_I {fl : List Str} {vs : List V} {H : Hp} {Q : VK} {E : XK} (h : spI C fl vs H Q E) : vs.length = (("self" : Str) :: fl).length := by
  obtain ⟨a, ws, rfl, hl, _⟩ := h
  simp [hl]
theorem pure_i0 (T : XC K C up) (vs : List V) (H : Hp) (Q : VK) (E : XK) (h : spI C [] vs H Q E) : t_i0 K t { nx := fun _ H' => Q .non H', rt := Q } (start [("self" : Str)] vs) H := by
  obtain ⟨a, ws, rfl, hl, ha, k⟩ := h
  match ws, hl with
  | [], _ => exact ⟨_, rfl, a, C, _, rfl, (by show 1 ≤ 1000; omega), T.oex, ha, k H (.inl ⟨rfl, rfl⟩)⟩
theorem pure_i1 (T : XC K C up) (n1 : PySem.W.findIn K (.ref C) f = some none) (vs : List V) (H : Hp) (Q : VK) (E : XK) (h : spI C [f] vs H Q E) : t_i1 K t f { nx := fun _ H' => Q .non H', rt := Q } (start [("self" : Str), f] vs) H := by
  obtain ⟨a, ws, rfl, hl, ha, k⟩ := h
  match ws, hl with
  | [v], _ =>
    refine ⟨_, rfl, a, C, _, rfl, (by show 1 ≤ 1000; omega), T.oex, ha, _, rfl, _, rfl, a, C, rfl, T.oex, n1, .inl ⟨ha, fun d hd hn => ?_⟩⟩
    exact k _ (.inr ⟨d, hd, hn, upd_same, by rw [upd_ne hn, upd_same]; rfl, fun b h1 h2 => by rw [upd_ne h1, upd_ne h2]⟩)
theorem pure_i2 (T : XC K C up) (n1 : PySem.W.findIn K (.ref C) f = some none) (n2 : PySem.W.findIn K (.ref C) g = some none) (vs : List V) (H : Hp) (Q : VK) (E : XK) (h : spI C [f, g] vs H Q E) :
    t_i2 K t f g { nx := fun _ H' => Q .non H', rt := Q } (start [("self" : Str), f, g] vs) H := by
  obtain ⟨a, ws, rfl, hl, ha, k⟩ := h
  match ws, hl with
  | [v, w], _ =>
    refine ⟨_, rfl, a, C, _, rfl, (by show 1 ≤ 1000; omega), T.oex, ha, _, rfl, _, rfl, a, C, rfl, T.oex, n1, .inl ⟨ha, fun d hd hn => ?_⟩⟩
    refine ⟨_, rfl, _, rfl, a, C, rfl, T.oex, n2, .inr ⟨d, [(f, v)], upd_same, by rw [upd_ne hn, upd_same], (by show 1 ≤ 900; omega), ?_⟩⟩
    exact k _ (.inr ⟨d, hd, hn, by rw [upd_ne (Ne.symm hn), upd_same], by rw [upd_same]; rfl, fun b h1 h2 => by rw [upd_ne h2, upd_ne h1, upd_ne h2]⟩)
end
/-! ### a class with its __init__ -/
structure XF (P : Program) (w : World) (K : PySem.W.Frag) (mg : Str → Option Value) (base : Heap) (x : Str) (fl : List Str) (C C0 fI : Addr) (fd : FuncData) : Prop where
  m : XM K mg x C [C0] fI
  f : FnOk P w K mg base CX0 1 fI fd (("self" : Str) :: fl) (spI C fl)
  bp : ∀ (s : Shared) (self : Value) (us : List Value), us.length = fl.length → BindsTo s fd ⟨self :: us, []⟩ ((("self" : Str) :: fl).zip (self :: us))
  bk : ∀ (s : Shared) (self : Value) (us : List Value), us.reverse.length = fl.length → BindsTo s fd ⟨[self], fl.reverse.zip us⟩ ((("self" : Str) :: fl).zip (self :: us.reverse))
  no : ∀ f ∈ fl, PySem.W.findIn K (.ref C) f = some none
  nm : (PySem.W.clsIn K C).map (·.name) = some x
end L2.K9

set_option Elab.async false
set_option linter.all false
set_option maxRecDepth 100000
set_option maxHeartbeats 4000000
/-! The facts of a class, read off what was looked at. -/
namespace L2.K9
open PySem PySem.Spec PyProof.Rows L2
open PySem.HandSPX (refsVE excO veTail)
abbrev gK (K : PySem.W.Frag) : Addr → Option Obj := fun a => K.lookup a
section
variable {K : PySem.W.Frag} {a b C C0 f : Addr} {es : List DictEntry} {x n : Str} {ns : List Str}
theorem dictE_at (h : dictE (gK K) a = some es) : ∃ c d ea ep sl, K.lookup a = some ⟨c, d, .dict ea ep, sl⟩ ∧ ea.toList = es := by
  unfold dictE at h
  split at h
  · rename_i c d ea ep sl e
    exact ⟨c, d, ea, ep, sl, e, Option.some.inj h⟩
  · cases h
theorem nsIn_ref (h : dictE (gK K) a = some es) (r : refAt es x = some b) : PySem.W.nsIn K a x = some (some (.ref b)) := by
  obtain ⟨c, d, ea, ep, sl, e, rfl⟩ := dictE_at h
  unfold refAt at r
  unfold PySem.W.nsIn
  rw [e]
  dsimp only
  split at r
  · rename_i hh kk a' q
    rw [q]
    cases r
    rfl
  · cases r
theorem isStr_key {v : Value} {s : Str} {t : Tok} (h : v = .str s t) (e : v.isStr n = true) : s = n := by
  subst h
  exact beq_iff_eq.mp e
theorem nsIn_no (h : dictE (gK K) a = some es) (q : noKeys ns es = true) (hx : x ∈ ns) : PySem.W.nsIn K a x = some none := by
  obtain ⟨c, d, ea, ep, sl, e, rfl⟩ := dictE_at h
  have all := List.all_eq_true.mp q
  have txt : ∀ y ∈ ea.toList, ∃ s t, y.key = .str s t ∧ s ∉ ns := fun y hy => by
    have z := all y hy
    split at z
    · rename_i s t ek
      refine ⟨s, t, ek, fun hm => ?_⟩
      rw [List.contains_eq_mem, decide_eq_true hm] at z
      cases z
    · cases z
  unfold PySem.W.nsIn
  rw [e]
  dsimp only
  have fn : ea.toList.find? (·.key.isStr x) = none := List.find?_eq_none.mpr fun y hy z => by
    obtain ⟨s, t, ek, hs⟩ := txt y hy
    exact hs (by rw [isStr_key ek z]; exact hx)
  rw [fn]
  dsimp only
  have nr : ea.toList.any (·.refKey) = false := by
    rw [List.any_eq_false]
    intro y hy
    obtain ⟨s, t, ek, hs⟩ := txt y hy
    unfold DictEntry.refKey
    rw [ek]
    exact fun z => by cases z
  rw [nr]
  rfl
theorem isRef_ok {v : Value} (h : isRef v a = true) : v = .ref a := by
  unfold isRef at h
  split at h
  · rw [Nat.eq_of_beq_eq_true h]
  · cases h
theorem slot4_ok {sl : Array (Option Value)} {v : Value} (h : slot4 sl = some v) : ∃ k0 k1 k2 k3 k5, sl = #[k0, k1, k2, k3, some v, k5] := by
  unfold slot4 at h
  split at h
  · rename_i k0 k1 k2 k3 k4 k5 e
    subst h
    exact ⟨k0, k1, k2, k3, k5, by rw [← Array.toList_inj, e]⟩
  · cases h
theorem find_in {oc : Value} {od : Option Addr} {cd : ClassData} {sl : Array (Option Value)} (h : K.lookup C = some ⟨oc, od, .cls cd, sl⟩) : PySem.W.findIn K (.ref C) n = PySem.W.alongIn K n cd.mro := by
  unfold PySem.W.findIn
  dsimp only
  rw [h]
theorem own_in {oc : Value} {od : Option Addr} {cd : ClassData} {sl : Array (Option Value)} (h : K.lookup C = some ⟨oc, od, .cls cd, sl⟩) : PySem.W.ownIn K n (.ref C) = PySem.W.nsIn K cd.ns n := by
  unfold PySem.W.ownIn
  dsimp only
  rw [h]
theorem along_no {v : Value} {r : List Value} (h : PySem.W.ownIn K n v = some none) : PySem.W.alongIn K n (v :: r) = PySem.W.alongIn K n r := by
  show (match PySem.W.ownIn K n v with
    | some (some v) => some (some v)
    | some none => PySem.W.alongIn K n r
    | none => none) = _
  rw [h]
theorem along_yes {v w : Value} {r : List Value} (h : PySem.W.ownIn K n v = some (some w)) : PySem.W.alongIn K n (v :: r) = some (some w) := by
  show (match PySem.W.ownIn K n v with
    | some (some v) => some (some v)
    | some none => PySem.W.alongIn K n r
    | none => none) = _
  rw [h]
/-- a class as looked at: its own classes above, its object, its names -/
structure CL (K : PySem.W.Frag) (C : Addr) (up : List Addr) (x : Str) (no : List Str) : Prop where
  obj : ∃ q N bs sn sub ab col dd k0 k1 k2 k3 k5, K.lookup C = some (excClassObj x q C N bs (up.map Value.ref ++ veT) true sn sub ab col dd k0 k1 k2 k3 k5 "ValueError.__new__")
  no : ∀ n ∈ no, PySem.W.ownIn K n (.ref C) = some none
theorem CL.findNo {C : Addr} {no : List Str} (T : CL K C [] x no) (h : n ∈ no) : PySem.W.findIn K (.ref C) n = PySem.W.alongIn K n veT := by
  obtain ⟨q, N, bs, sn, sub, ab, col, dd, k0, k1, k2, k3, k5, e⟩ := T.obj
  rw [find_in e]
  exact along_no (T.no n h)
theorem CL.findNo1 {y : Str} {no no0 : List Str} (T : CL K C [C0] x no) (T0 : CL K C0 [] y no0) (h : n ∈ no) (h0 : n ∈ no0) : PySem.W.findIn K (.ref C) n = PySem.W.alongIn K n veT := by
  obtain ⟨q, N, bs, sn, sub, ab, col, dd, k0, k1, k2, k3, k5, e⟩ := T.obj
  rw [find_in e]
  show PySem.W.alongIn K n (.ref C :: .ref C0 :: veT) = _
  rw [along_no (T.no n h), along_no (T0.no n h0)]
theorem CL.ty {up : List Addr} {no : List Str} (T : CL K C up x no) : PySem.W.typeIn K (.ref C) = some (.type "type") := by
  obtain ⟨q, N, bs, sn, sub, ab, col, dd, k0, k1, k2, k3, k5, e⟩ := T.obj
  show (K.lookup C).map (·.cls) = _
  rw [e]
  rfl
theorem CL.keep {up : List Addr} {no : List Str} (T : CL K C up x no) : PySem.W.keepIn K (.ref C) = true := by
  have t := T.ty
  obtain ⟨q, N, bs, sn, sub, ab, col, dd, k0, k1, k2, k3, k5, e⟩ := T.obj
  unfold PySem.W.keepIn
  dsimp only
  rw [e]
  dsimp only
  unfold PySem.W.specialIn
  rw [t]
  show (PySem.W.findIn K (.type "type") "__call__" == some (some (.builtin "type.__call__"))) = true
  have z : PySem.W.findIn K (.type "type") "__call__" = some (some (.builtin "type.__call__")) := by kernel_rfl
  rw [z]
  decide
theorem CL.cd {up : List Addr} {no : List Str} (T : CL K C up x no) : ∃ cd, PySem.W.clsIn K C = some cd ∧ cd.mro = .ref C :: (up.map Value.ref ++ veTail) ∧ cd.hasDict = true ∧ cd.name = x := by
  obtain ⟨q, N, bs, sn, sub, ab, col, dd, k0, k1, k2, k3, k5, e⟩ := T.obj
  refine ⟨{ name := x, bases := bs, mro := .ref C :: (up.map Value.ref ++ veT), ns := N, qualname := q, hasDict := true, slotNames := sn, subclasses := sub, abstract := ab, collection := col }, ?_, rfl, rfl, rfl⟩
  unfold PySem.W.clsIn
  rw [e]
theorem tail_ga : PySem.W.alongIn K "__getattribute__" veT = some (some (.builtin "BaseException.__getattribute__")) := by kernel_rfl
theorem tail_gg : PySem.W.alongIn K "__getattr__" veT = some none := by kernel_rfl
theorem tail_cl : PySem.W.alongIn K "__class__" veT = some (some (.builtin "object.__class__")) := by kernel_rfl
theorem tail_sa : PySem.W.alongIn K "__setattr__" veT = some (some (.builtin "object.__setattr__")) := by kernel_rfl
theorem tail_in : PySem.W.alongIn K "__init__" veT = some (some (.builtin "ValueError.__init__")) := by kernel_rfl
theorem cls_get : PySem.W.specialIn K (.builtin "object.__class__") "__get__" = some (some (.builtin "getset_descriptor.__get__")) := by kernel_rfl
theorem cls_takes : PySem.W.takesIn K (.builtin "object.__class__") = some true := by kernel_rfl
theorem refsVE_up : ∀ up : List Addr, refsVE (up.map Value.ref ++ veT) = true
  | [] => rfl
  | _ :: r => refsVE_up r
theorem CL.xc {up : List Addr} {no : List Str} (T : CL K C up x no) (f : ∀ n ∈ hid, PySem.W.findIn K (.ref C) n = PySem.W.alongIn K n veT) : XC K C up := by
  obtain ⟨cd, h1, h2, h3, h4⟩ := T.cd
  have own : ∃ cd, PySem.W.clsIn K C = some cd ∧ cd.mro = .ref C :: (up.map Value.ref ++ veTail) := ⟨cd, h1, h2⟩
  have mr : PySem.W.subIn K (.ref C) (.type "BaseException") = some true := by
    show PySem.W.mroIn K C _ = _
    unfold PySem.W.mroIn
    rw [h1, Option.bind_some, h2]
    have q : (up.map Value.ref ++ veTail).contains (Value.type "BaseException") = true := by
      rw [List.contains_eq_mem, decide_eq_true_iff]
      exact List.mem_append_right _ (by decide)
    show some ((Value.ref C :: (up.map Value.ref ++ veTail)).contains (.type "BaseException")) = _
    rw [List.contains_cons, q, Bool.or_true]
  have ob := T.obj
  obtain ⟨q, N, bs, sn, sub, ab, col, dd, k0, k1, k2, k3, k5, e⟩ := ob
  refine ⟨⟨⟨x, q, N, bs, _, sn, sub, ab, col, dd, k0, k1, k2, k3, k5, e, refsVE_up up⟩, ?_, mr, T.ty, T.keep⟩, ?_, ?_, ?_, ?_, cls_get, cls_takes, own⟩
  · rw [f _ (by decide)]
    exact tail_sa
  · rw [f _ (by decide)]
    exact tail_ga
  · rw [f _ (by decide)]
    exact tail_gg
  · unfold PySem.W.hasDictIn
    rw [h1]
    exact h3
  · rw [f _ (by decide)]
    exact tail_cl
theorem CL.xc0 {no : List Str} (T : CL K C [] x no) (h : ∀ n ∈ hid, n ∈ no) : XC K C [] := T.xc fun n hn => T.findNo (h n hn)
theorem CL.xc1 {no no0 : List Str} {y : Str} (T : CL K C [C0] x no) (T0 : CL K C0 [] y no0) (h : ∀ n ∈ hid, n ∈ no) (h0 : ∀ n ∈ hid, n ∈ no0) : XC K C [C0] := T.xc fun n hn => T.findNo1 T0 (h n hn) (h0 n hn)
theorem CL.ci {mg : Str → Option Value} {no : List Str} (T : CL K C [] x no) (m : mg "ChainError" = some (.ref C)) (hi : ("__init__" : Str) ∈ no) (st : PySem.W.nsIn K PySem.cStatics "thirdparty.any" = some none) : CI K mg C := by
  have t := T.ty
  have fi : PySem.W.findIn K (.ref C) "__init__" = some (some (.builtin "ValueError.__init__")) := by
    rw [T.findNo hi]
    exact tail_in
  refine ⟨m, ?_, ?_, ?_⟩
  · unfold PySem.W.specialIn
    rw [t]
    show PySem.W.findIn K (.type "type") "__getattribute__" = _
    kernel_rfl
  · unfold PySem.W.readsIn
    rw [st, t]
    kernel_rfl
  · unfold PySem.W.findCls
    rw [fi]
    kernel_rfl
end
end L2.K9

set_option Elab.async false
set_option linter.all false
set_option maxRecDepth 100000
set_option maxHeartbeats 4000000
/-! The draws: _law_cell, _law_box, _law_take. -/
namespace L2.K9
open PySem PySem.Spec PyProof.Rows L2
abbrev sCell : Stmt := top 61
abbrev sBox : Stmt := top 62
abbrev sTake : Stmt := top 63
/-- the module's names that are not the text's own -/
structure GL (mg : Str → Option Value) : Prop where
  len : mg "len" = none
  int : mg "int" = none
  abs : mg "abs" = none
  sum : mg "sum" = none
  isinstance : mg "isinstance" = none
  bool : mg "bool" = none
  str : mg "str" = none
  dict : mg "dict" = none
  list : mg "list" = none
  tuple : mg "tuple" = none
  range : mg "range" = none
  zip : mg "zip" = none
  max : mg "max" = none
  min : mg "min" = none
  ve : mg "ValueError" = none
/-- a box of draws at p, n of them drawn at most -/
def BoxAt (H : Hp) (p : Addr) (n : Int) : Prop := ∃ (a : Int) (g : Bool) (c d : Int), H p = some (.lst [.int a, .bl g, .int c, .int d]) ∧ 0 ≤ a ∧ 0 ≤ c ∧ c < 2147483648 ∧ 0 ≤ d ∧ d ≤ n
def spCell9 (K : PySem.W.Frag) : Sp := fun vs H Q _ => ∃ (a : Addr) (ns : List Int) (k : Int), vs = [.ref a, .int k] ∧ SqL K H a (ns.map V.int) ∧ 0 ≤ k ∧ k ≤ 1000 ∧ ∀ (i : Int) (H' : Hp), Same H H' → Q (.int i) H'
def spBox : Sp := fun vs H Q _ => ∃ i : Int, vs = [.int i] ∧ ∀ (p : Addr) (H' : Hp), H p = none → Same H H' → BoxAt H' p 0 → Q (.ref p) H'
def spTake : Sp := fun vs H Q _ => ∃ (p : Addr) (m n : Int), vs = [.ref p, .int m] ∧ 0 < m ∧ m ≤ 1000 ∧ n ≤ 100000 ∧ BoxAt H p n ∧
  ∀ (r : Int) (H' : Hp), 0 ≤ r → r < m → BoxAt H' p (n + 1) → (∀ b o, b ≠ p → H b = some o → H' b = some o) → Q (.int r) H'
theorem Same.upd {H : Hp} {p : Addr} {o : HO} (h : H p = none) : Same H (upd H p o) := fun b u e => by
  rw [upd_ne (ne_of_none e h)]
  exact e
section
variable {P : Program} {w : World} {K : PySem.W.Frag} {mg : Str → Option Value} {base : Heap}
theorem scCell : FnScope ["script", "k"] ["script", "k"] (defScope sCell) := ⟨rfl, rfl, rfl, by decide +kernel, rfl, by decide +kernel, by decide +kernel⟩
theorem ok_cell {f : Addr} {fd : FuncData} (F : Fun K "_law_cell" "_law_cell" sCell f fd) (G : GL mg) : FnOk P w K mg base CX0 1 f fd ["script", "k"] (spCell9 K) := by
  refine F.ok scCell (fun vs H Q E h => ?_) (fun cdv A outer s H vs Q E hr h => ?_)
  · obtain ⟨a, ns, k, rfl, _⟩ := h
    rfl
  · obtain ⟨a, ns, k, rfl, hS, hk0, hk1, q⟩ := h
    refine ⟨_, pss_one (ps_ret (pe_ifExp (pt_cmpR op_lt (pv 1) (pe_callB call_len (by rfl) G.len boot_len (pa_cons (pv 0) pa_nil)) (nomark _)) (pe_ix ix_list (pv 0) (pv 1) (fun _ _ => rfl))
      (pe_op op_add (pe_op op_mul pe_int (pv 1)) (pe_op op_mod (pe_callTy call_int1 (by rfl) G.int (by decide +kernel) (pa_cons (pe_callB (cr_sum rfl) (by rfl) G.sum (by decide +kernel) (pa_cons (pe_slice sl_list (pv 0) po_none (po_some pe_int)) pa_nil)) pa_nil)) pe_int)))), ?_⟩
    refine ⟨_, rfl, _, rfl, _, (ns.map V.int).length, rfl, .inl ⟨_, hS, rfl⟩, _, _, rfl, rfl, _, rfl, ?_⟩
    refine ite2 (fun hlt => ?_) (fun _ => ?_)
    · have hlt : k < ((ns.map V.int).length : Int) := of_decide_eq_true hlt
      obtain ⟨j, rfl⟩ : ∃ j : Nat, k = j := ⟨k.toNat, by omega⟩
      rw [List.length_map] at hlt
      have hj : j < ns.length := by omega
      have hv : (ns.map V.int)[j]? = some (V.int ns[j]) := by
        rw [List.getElem?_map, List.getElem?_eq_getElem hj]
        rfl
      exact ⟨_, rfl, _, rfl, a, _, _, _, rfl, rfl, hS, atI_nat hv, q _ _ (Same.refl H)⟩
    · refine ⟨_, rfl, _, _, rfl, rfl, .inl ⟨by decide, by decide⟩, _, rfl, 1, rfl, a, _, rfl, hS, fun p hp => ?_⟩
      have e : cutV (ns.map V.int) none (some 1) = (ns.take 1).map V.int := by
        cases ns with
        | nil => rfl
        | cons n r =>
          unfold cutV
          have e1 : HT.sIx ((n :: r).map V.int).length 0 none = 0 := rfl
          have e2 : HT.sIx ((n :: r).map V.int).length ((n :: r).map V.int).length (some 1) = 1 := by
            simp [HT.sIx]
          rw [e1, e2]
          rfl
      refine ⟨p, ns.take 1, rfl, SqL.of (by rw [upd_same, e]), .inl ⟨_, rfl, ?_⟩⟩
      exact ⟨_, _, rfl, rfl, (by show (0 : Int) < 1000033; decide), _, _, rfl, rfl, q _ _ (Same.upd hp)⟩
theorem scBox : FnScope ["great"] ["great"] (defScope sBox) := ⟨rfl, rfl, rfl, by decide +kernel, rfl, by decide +kernel, by decide +kernel⟩
theorem ok_box {f : Addr} {fd : FuncData} (F : Fun K "_law_box" "_law_box" sBox f fd) (G : GL mg) : FnOk P w K mg base CX0 1 f fd ["great"] spBox := by
  refine F.ok scBox (fun vs H Q E h => ?_) (fun cdv A outer s H vs Q E hr h => ?_)
  · obtain ⟨i, rfl, _⟩ := h
    rfl
  · obtain ⟨i, rfl, q⟩ := h
    refine ⟨_, pss_one (ps_ret (pe_lst (pa_cons (pe_callB call_abs (by rfl) G.abs (by decide +kernel) (pa_cons (pv 0) pa_nil))
      (pa_cons (pe_cmpR op_ge (pe_callB call_abs (by rfl) G.abs (by decide +kernel) (pa_cons (pv 0) pa_nil)) (pe_op op_pow pe_int pe_int) (nomark _))
      (pa_cons (pe_op op_mod (pe_callTy call_int1 (by rfl) G.int (by decide +kernel) (pa_cons (pe_callB call_abs (by rfl) G.abs (by decide +kernel) (pa_cons (pv 0) pa_nil)) pa_nil)) pe_int)
      (pa_cons pe_int pa_nil)))))), ?_⟩
    refine ⟨_, rfl, i, rfl, _, rfl, i, rfl, _, _, rfl, rfl, ⟨by decide, by decide, by decide⟩, _, _, rfl, rfl, _, rfl, i, rfl, .inl ⟨_, rfl, _, _, rfl, rfl, (by show (0 : Int) < 2147483629; decide), ?_⟩⟩
    refine ⟨(by show 4 ≤ sizeLine; decide), fun p hp => ?_⟩
    refine q p _ hp (Same.upd hp) ⟨_, _, _, _, upd_same, ?_, Int.emod_nonneg _ (by decide), ?_, Int.le_refl _, Int.le_refl _⟩
    · split <;> omega
    · exact Int.lt_trans (Int.emod_lt_of_pos _ (by decide)) (by decide)
/-- the mixing way of _law_take -/
def tIx (K : PySem.W.Frag) (i : Int) : TE := tOp (rIxL K) (tVar 0) (tC (.int i))
def rAd : R2 := rI0 fun i j => .int (i + j)
def rMl : R2 := rI CMul fun i j => .int (i * j)
def rMd : R2 := rI (fun _ j => 0 < j) fun i j => .int (i % j)
def rPw : R2 := rI CPow fun i j => .int (i ^ j.toNat)
def rDv : R2 := rI CDiv fun i j => .int (i / j)
def tI1 (t : TE) : TE := tCB (fun xs H Q => (∃ i, xs = [V.int i] ∧ Q (V.int i) H) ∨ ∃ k, xs = [V.bl k] ∧ Q (V.int (if k = true then 1 else 0)) H) (tCons t tNil)
def tMix (K : PySem.W.Frag) : TS := tSeq (tAsg (tOp rAd (tIx K 3) (tC (.int 1))) (gSub (tVar 0) (tC (.int 3)) rSetL))
  (tSeq (tAsg (tOp rMd (tI1 (tOp rPw (tOp rAd (tOp rAd (tIx K 2) (tOp rMl (tC (.int 15485917)) (tIx K 3))) (tC (.int 179424719))) (tC (.int 5)))) (tC (.int 2147483647))) (gName 3))
  (tRet (tOp rMd (tI1 (tOp rDv (tOp rMd (tI1 (tOp rPw (tOp rAd (tOp rMl (tVar 3) (tC (.int 48271))) (tOp rMl (tC (.int 104779)) (tIx K 3))) (tC (.int 3)))) (tC (.int 2147483587))) (tC (.int 64)))) (tVar 1))))
theorem mix_run {p : Addr} {m n a c d : Int} {g : Bool} {H : Hp} {Q : VK} {v2 v3 : Option V} (hm0 : 0 < m) (hm1 : m ≤ 1000) (hn : n ≤ 100000) (hb : H p = some (.lst [.int a, .bl g, .int c, .int d])) (ha : 0 ≤ a) (hc0 : 0 ≤ c) (hc1 : c < 2147483648) (hd0 : 0 ≤ d) (hd1 : d ≤ n)
    (q : ∀ (r : Int) (H' : Hp), 0 ≤ r → r < m → BoxAt H' p (n + 1) → (∀ b o, b ≠ p → H b = some o → H' b = some o) → Q (.int r) H') :
    tMix K { nx := fun _ H' => Q .non H', rt := Q } [some (.ref p), some (.int m), v2, v3] H := by
  refine ⟨_, rfl, p, _, _, _, rfl, rfl, SqL.of hb, rfl, _, _, rfl, rfl, ?_⟩
  refine ⟨_, rfl, p, _, 3, 3, rfl, rfl, hb, rfl, ?_⟩
  have hb2 : upd H p (.lst [V.int a, .bl g, .int c, .int (d + 1)]) p = some (.lst [V.int a, .bl g, .int c, .int (d + 1)]) := upd_same
  refine ⟨_, rfl, p, _, _, _, rfl, rfl, SqL.of hb2, rfl, _, rfl, p, _, _, _, rfl, rfl, SqL.of hb2, rfl, _, _, rfl, rfl, .inl ⟨by decide, by decide⟩, _, _, rfl, rfl, _, _, rfl, rfl, _, _, rfl, rfl, ⟨by decide, by decide, ?_⟩, .inl ⟨_, rfl, _, _, rfl, rfl, (by show (0 : Int) < 2147483647; decide), ?_⟩⟩
  · omega
  have l1 := Int.emod_nonneg ((c + 15485917 * (d + 1) + 179424719) ^ (5 : Int).toNat) (b := 2147483647) (by decide)
  have l2 := Int.emod_lt_of_pos ((c + 15485917 * (d + 1) + 179424719) ^ (5 : Int).toNat) (b := 2147483647) (by decide)
  generalize (c + 15485917 * (d + 1) + 179424719) ^ (5 : Int).toNat % 2147483647 = mx at l1 l2
  refine ⟨_, rfl, _, _, rfl, rfl, .inr ⟨by decide, by decide⟩, _, rfl, p, _, _, _, rfl, rfl, SqL.of hb2, rfl, _, _, rfl, rfl, .inl ⟨by decide, by decide⟩, _, _, rfl, rfl, _, _, rfl, rfl, ⟨by decide, by decide, ?_⟩, .inl ⟨_, rfl, _, _, rfl, rfl, (by show (0 : Int) < 2147483587; decide), _, _, rfl, rfl, ⟨by decide, by decide⟩, .inl ⟨_, rfl, _, rfl, _, _, rfl, rfl, hm0, ?_⟩⟩⟩
  · omega
  refine q _ _ (Int.emod_nonneg _ (by omega)) (Int.emod_lt_of_pos _ hm0) ⟨a, g, c, d + 1, hb2, ha, hc0, hc1, by omega, by omega⟩ fun b o hb' e => ?_
  rw [upd_ne hb']
  exact e
theorem scTake : FnScope ["box", "many", "digit", "mixed"] ["box", "many"] (defScope sTake) := ⟨rfl, rfl, rfl, by decide +kernel, rfl, by decide +kernel, by decide +kernel⟩
theorem ok_take {f : Addr} {fd : FuncData} (F : Fun K "_law_take" "_law_take" sTake f fd) (G : GL mg) : FnOk P w K mg base CX0 1 f fd ["box", "many"] spTake := by
  refine F.ok scTake (fun vs H Q E h => ?_) (fun cdv A outer s H vs Q E hr h => ?_)
  · obtain ⟨p, m, n, rfl, _⟩ := h
    rfl
  · obtain ⟨p, m, n, rfl, hm0, hm1, hn, ⟨a, g, c, d, hb, ha, hc0, hc1, hd0, hd1⟩, q⟩ := h
    refine ⟨_, pss_cons (ps_if (PW.pt (pw_and (pt_val (pe_ix ix_list (pv 0) pe_int (fun _ _ => rfl))) (pw_and1 (pt_cmpR op_gt (pe_ix ix_list (pv 0) pe_int (fun _ _ => rfl)) pe_int (nomark _)))))
        (pss_cons (ps_set (i := 2) scTake.nd rfl (Or.inl rfl) (pe_op op_mod (pe_callTy call_int1 (by rfl) G.int (by decide +kernel) (pa_cons (pe_ix ix_list (pv 0) pe_int (fun _ _ => rfl)) pa_nil)) (pv 1)))
        (pss_cons (ps_asg (pe_op op_fdiv (pe_ix ix_list (pv 0) pe_int (fun _ _ => rfl)) (pv 1)) (pg_sub (pv 0) pe_int set_list))
        (pss_one (ps_ret (pv 2))))) pss_nil)
      (pss_cons (ps_asg (pe_op op_add (pe_ix ix_list (pv 0) pe_int (fun _ _ => rfl)) pe_int) (pg_sub (pv 0) pe_int set_list))
      (pss_cons (ps_set (i := 3) scTake.nd rfl (Or.inl rfl) (pe_op op_mod (pe_callTy call_int1 (by rfl) G.int (by decide +kernel) (pa_cons
        (pe_op op_pow (pe_op op_add (pe_op op_add (pe_ix ix_list (pv 0) pe_int (fun _ _ => rfl)) (pe_op op_mul pe_int (pe_ix ix_list (pv 0) pe_int (fun _ _ => rfl)))) pe_int) pe_int) pa_nil)) pe_int))
      (pss_one (ps_ret (pe_op op_mod (pe_callTy call_int1 (by rfl) G.int (by decide +kernel) (pa_cons (pe_op op_fdiv (pe_op op_mod (pe_callTy call_int1 (by rfl) G.int (by decide +kernel) (pa_cons
        (pe_op op_pow (pe_op op_add (pe_op op_mul (pv 3) pe_int) (pe_op op_mul pe_int (pe_ix ix_list (pv 0) pe_int (fun _ _ => rfl)))) pe_int) pa_nil)) pe_int) pe_int) pa_nil)) (pv 1)))))), ?_⟩
    refine ⟨_, rfl, p, _, _, _, rfl, rfl, SqL.of hb, rfl, _, rfl, ?_⟩
    have mix := mix_run (K := K) hm0 hm1 hn hb ha hc0 hc1 hd0 hd1 q (v2 := none) (v3 := none)
    cases g with
    | false => exact mix
    | true =>
      refine ⟨_, rfl, p, _, _, _, rfl, rfl, SqL.of hb, rfl, _, _, rfl, rfl, _, rfl, ?_⟩
      show if decide (0 < a) = true then _ else _
      refine ite2 (fun h0 => ?_) (fun _ => mix)
      have h0 : 0 < a := of_decide_eq_true h0
      refine ⟨_, rfl, p, _, _, _, rfl, rfl, SqL.of hb, rfl, .inl ⟨_, rfl, _, rfl, _, _, rfl, rfl, hm0, ?_⟩⟩
      refine ⟨_, rfl, p, _, _, _, rfl, rfl, SqL.of hb, rfl, _, rfl, _, _, rfl, rfl, ⟨hm0, by omega⟩, ?_⟩
      refine ⟨_, rfl, p, _, 0, 0, rfl, rfl, hb, rfl, _, rfl, ?_⟩
      refine q _ _ (Int.emod_nonneg _ (by omega)) (Int.emod_lt_of_pos _ hm0) ⟨a / m, true, c, d, upd_same, Int.ediv_nonneg ha (by omega), hc0, hc1, hd0, by omega⟩ fun b o hb' e => ?_
      rw [upd_ne hb']
      exact e
end
end L2.K9

set_option Elab.async false
set_option linter.all false
set_option maxRecDepth 100000
set_option maxHeartbeats 4000000
/-! Values of many kinds; _law_same. -/
namespace L2.K9
open PySem PySem.Spec PyProof.Rows L2
abbrev sSame : Stmt := top 64
/-- a value of depth n at most, its objects in S -/
inductive Gd (S : Addr → Prop) (m : Nat) (H : Hp) : Nat → V → Prop where
  | non (n : Nat) : Gd S m H n .non
  | bl (n : Nat) (b : Bool) : Gd S m H n (.bl b)
  | int (n : Nat) (i : Int) : Gd S m H n (.int i)
  | str (n : Nat) (z : Str) : Gd S m H n (.str z)
  | lst {n : Nat} {a : Addr} {xs : List V} : S a → H a = some (.lst xs) → xs.length ≤ m → (∀ z ∈ xs, Gd S m H n z) → Gd S m H (n + 1) (.ref a)
  | tup {n : Nat} {a : Addr} {xs : List V} : S a → H a = some (.tup xs) → xs.length ≤ m → (∀ z ∈ xs, Gd S m H n z) → Gd S m H (n + 1) (.ref a)
  | dct {n : Nat} {a : Addr} {kvs : List (Key × V)} : S a → H a = some (.dK kvs) → kvs.length ≤ m → (kvs.map (·.1)).Nodup → (∀ p ∈ kvs, ∃ z, p.1 = .inr z) → (∀ p ∈ kvs, Gd S m H n p.2) → Gd S m H (n + 1) (.ref a)
theorem Gd.mono {S S' : Addr → Prop} {m M : Nat} {H H' : Hp} {n : Nat} {v : V} (g : Gd S m H n v) (hM : m ≤ M) (hs : ∀ a, S a → S' a) (k : ∀ a o, S a → H a = some o → H' a = some o) : ∀ j, n ≤ j → Gd S' M H' j v := by
  induction g with
  | non n => exact fun j _ => .non j
  | bl n b => exact fun j _ => .bl j b
  | int n i => exact fun j _ => .int j i
  | str n z => exact fun j _ => .str j z
  | lst h1 h2 h3 _ ih =>
    intro l hl
    obtain ⟨j, rfl⟩ : ∃ j, l = j + 1 := ⟨l - 1, by omega⟩
    exact .lst (hs _ h1) (k _ _ h1 h2) (Nat.le_trans h3 hM) fun z hz => ih z hz j (by omega)
  | tup h1 h2 h3 _ ih =>
    intro l hl
    obtain ⟨j, rfl⟩ : ∃ j, l = j + 1 := ⟨l - 1, by omega⟩
    exact .tup (hs _ h1) (k _ _ h1 h2) (Nat.le_trans h3 hM) fun z hz => ih z hz j (by omega)
  | dct h1 h2 h3 h4 h5 _ ih =>
    intro l hl
    obtain ⟨j, rfl⟩ : ∃ j, l = j + 1 := ⟨l - 1, by omega⟩
    exact .dct (hs _ h1) (k _ _ h1 h2) (Nat.le_trans h3 hM) h4 h5 fun p hp => ih p hp j (by omega)
theorem Gd.same {S : Addr → Prop} {m : Nat} {H H' : Hp} {n : Nat} {v : V} (g : Gd S m H n v) (k : Same H H') : Gd S m H' n v := g.mono (Nat.le_refl m) (fun _ z => z) (fun a o _ q => k a o q) n (Nat.le_refl n)
/-- an address that is none of it -/
theorem Gd.out {S : Addr → Prop} {m : Nat} {H : Hp} {n : Nat} {v : V} {d : Addr} (g : Gd S m H n v) : (∀ j, j ≤ n → ¬ Gd S m H j (.ref d)) → Gd (fun a => S a ∧ a ≠ d) m H n v := by
  induction g with
  | non n => exact fun _ => .non n
  | bl n b => exact fun _ => .bl n b
  | int n i => exact fun _ => .int n i
  | str n z => exact fun _ => .str n z
  | lst h1 h2 h3 h4 ih =>
    intro h
    refine .lst ⟨h1, fun z => ?_⟩ h2 h3 fun z hz => ih z hz fun j hj => h j (by omega)
    subst z
    exact h _ (Nat.le_refl _) (.lst h1 h2 h3 h4)
  | tup h1 h2 h3 h4 ih =>
    intro h
    refine .tup ⟨h1, fun z => ?_⟩ h2 h3 fun z hz => ih z hz fun j hj => h j (by omega)
    subst z
    exact h _ (Nat.le_refl _) (.tup h1 h2 h3 h4)
  | dct h1 h2 h3 h4 h5 h6 ih =>
    intro h
    refine .dct ⟨h1, fun z => ?_⟩ h2 h3 h4 h5 fun p hp => ih p hp fun j hj => h j (by omega)
    subst z
    exact h _ (Nat.le_refl _) (.dct h1 h2 h3 h4 h5 h6)
theorem Gd.least {S : Addr → Prop} {m : Nat} {H : Hp} {d : Addr} : ∀ {n : Nat}, Gd S m H n (.ref d) → ∃ l, l ≤ n ∧ Gd S m H l (.ref d) ∧ ∀ j, j < l → ¬ Gd S m H j (.ref d) := by
  intro n
  induction n using Nat.strongRecOn with
  | ind n ih =>
    intro g
    by_cases h : ∃ j, j < n ∧ Gd S m H j (.ref d)
    · obtain ⟨j, hj, gj⟩ := h
      obtain ⟨l, h1, h2, h3⟩ := ih j hj gj
      exact ⟨l, by omega, h2, h3⟩
    · exact ⟨n, Nat.le_refl n, g, fun j hj gj => h ⟨j, hj, gj⟩⟩
/-- what a list, a dict holds does not hold it -/
theorem Gd.parts {S : Addr → Prop} {m : Nat} {H : Hp} {n : Nat} {d : Addr} (g : Gd S m H n (.ref d)) :
    (∃ xs, S d ∧ H d = some (.lst xs) ∧ xs.length ≤ m ∧ 0 < n ∧ ∀ z ∈ xs, Gd (fun a => S a ∧ a ≠ d) m H (n - 1) z) ∨ (∃ xs, S d ∧ H d = some (.tup xs) ∧ xs.length ≤ m ∧ 0 < n ∧ ∀ z ∈ xs, Gd (fun a => S a ∧ a ≠ d) m H (n - 1) z) ∨
    ∃ kvs, S d ∧ H d = some (.dK kvs) ∧ kvs.length ≤ m ∧ (kvs.map (·.1)).Nodup ∧ (∀ p ∈ kvs, ∃ z, p.1 = .inr z) ∧ 0 < n ∧ ∀ p ∈ kvs, Gd (fun a => S a ∧ a ≠ d) m H (n - 1) p.2 := by
  obtain ⟨l, hm, g, hl⟩ := g.least
  cases g with
  | @lst j _ xs h1 h2 h3 h4 => exact .inl ⟨xs, h1, h2, h3, by omega, fun z hz => ((h4 z hz).out fun i hi => hl i (by omega)).mono (Nat.le_refl m) (fun _ q => q) (fun _ _ _ q => q) _ (by omega)⟩
  | @tup j _ xs h1 h2 h3 h4 => exact .inr (.inl ⟨xs, h1, h2, h3, by omega, fun z hz => ((h4 z hz).out fun i hi => hl i (by omega)).mono (Nat.le_refl m) (fun _ q => q) (fun _ _ _ q => q) _ (by omega)⟩)
  | @dct j _ kvs h1 h2 h3 h4 h5 h6 => exact .inr (.inr ⟨kvs, h1, h2, h3, h4, h5, by omega, fun z hz => ((h6 z hz).out fun i hi => hl i (by omega)).mono (Nat.le_refl m) (fun _ q => q) (fun _ _ _ q => q) _ (by omega)⟩)
/-- what stands apart from d stays where d is written -/
theorem Gd.apart {S : Addr → Prop} {m : Nat} {H : Hp} {n : Nat} {v : V} {d : Addr} {o : HO} (g : Gd (fun a => S a ∧ a ≠ d) m H n v) : Gd (fun a => S a ∧ a ≠ d) m (upd H d o) n v :=
  g.mono (Nat.le_refl m) (fun _ z => z) (fun a u h q => by
    rw [upd_ne h.2]
    exact q) n (Nat.le_refl n)
/-- told and due: the very same value, or two lists of the same values -/
def Sam (S : Addr → Prop) (m : Nat) (H : Hp) (n : Nat) (x y : V) : Prop := (x = y ∧ Gd S m H n x) ∨ ∃ a b xs, x = .ref a ∧ y = .ref b ∧ H a = some (.lst xs) ∧ H b = some (.lst xs) ∧ xs.length ≤ m ∧ 0 < n ∧ ∀ z ∈ xs, Gd S m H (n - 1) z
def spSame : Nat → Sp
  | 0 => fun _ _ _ _ => False
  | n + 1 => fun vs H Q _ => ∃ (x y : V) (S : Addr → Prop) (m : Nat), vs = [x, y] ∧ m ≤ 100 ∧ Sam S m H n x y ∧ ∀ H', Same H H' → Q (.bl true) H'
/-- isinstance(x, T), a built-in type -/
theorem isi_ty {K : PySem.W.Frag} {H : Hp} {Q : VK} {x : V} {T T' : String} {b : Bool} (h : TyX K H x (.type T')) (e : kitB T' T = some b) (q : Q (.bl b) H) : rIsi K [x, .ty T] H Q := ⟨x, .ty T, .type T', .type T, b, rfl, .ty T, h, kit_ty e, q⟩
section
variable {K : PySem.W.Frag} {H : Hp}
theorem ty_non : TyX K H .non (.type "NoneType") := .base .non
theorem ty_bl (b : Bool) : TyX K H (.bl b) (.type "bool") := .base (.bl b)
theorem ty_int (i : Int) : TyX K H (.int i) (.type "int") := .base (.int i)
theorem ty_str (z : Str) : TyX K H (.str z) (.type "str") := .base (.str z)
theorem ty_lst {a : Addr} {xs : List V} (e : H a = some (.lst xs)) : TyX K H (.ref a) (.type "list") := .base (.lst e)
theorem ty_tup {a : Addr} {xs : List V} (e : H a = some (.tup xs)) : TyX K H (.ref a) (.type "tuple") := .base (.tup e)
theorem ty_dct {a : Addr} {kvs : List (Key × V)} (e : H a = some (.dK kvs)) : TyX K H (.ref a) (.type "dict") := .base (.dK e)
end
theorem ite_ne_self {i : Int} {A B : Prop} (h : B) : if (!decide (V.int i = V.int i)) = true then A else B := by
  rw [decide_eq_true rfl]
  exact h
theorem ite_eq_self {i : Int} {A B : Prop} (h : A) : if decide (V.int i = V.int i) = true then A else B := by
  rw [decide_eq_true rfl]
  exact h
theorem Gd.dct_in {S : Addr → Prop} {m : Nat} {H : Hp} {n : Nat} {a : Addr} {kvs : List (Key × V)} (h1 : S a) (h2 : H a = some (.dK kvs)) (h3 : kvs.length ≤ m) (h4 : (kvs.map (·.1)).Nodup) (h5 : ∀ p ∈ kvs, ∃ z, p.1 = .inr z) (h6 : ∀ p ∈ kvs, Gd S m H n p.2) :
    ∀ p ∈ kvs, Gd (fun c => S c ∧ c ≠ a) m H n p.2 := by
  rcases (Gd.dct h1 h2 h3 h4 h5 h6).parts with ⟨xs, _, e, _⟩ | ⟨xs, _, e, _⟩ | ⟨kv, _, e, _, _, _, _, q⟩
  · rw [h2] at e
    cases e
  · rw [h2] at e
    cases e
  · rw [h2] at e
    cases e
    exact q
theorem valV_at : ∀ {kvs : List (Key × V)} {i : Nat} {k : Key} {v : V}, (kvs.map (·.1)).Nodup → kvs[i]? = some (k, v) → valV kvs k = some v
  | [], _, _, _, _, h => by simp at h
  | p :: r, 0, k, v, _, h => by
    simp at h
    subst h
    simp [valV]
  | p :: r, i + 1, k, v, nd, h => by
    have nd' := List.nodup_cons.mp nd
    have hr : r[i]? = some (k, v) := by simpa using h
    have ne : p.1 ≠ k := fun z => nd'.1 (List.mem_map.mpr ⟨(k, v), List.mem_of_getElem? hr, z.symm⟩)
    have ih := valV_at (i := i) nd'.2 hr
    unfold valV at ih ⊢
    rw [List.find?_cons, decide_eq_false ne]
    exact ih
example : kitB "NoneType" "bool" = some false := by decide +kernel
example : kitB "list" "dict" = some false := by decide +kernel
end L2.K9

set_option Elab.async false
set_option linter.all false
set_option maxRecDepth 100000
set_option maxHeartbeats 8000000
/-! _law_same gives True. -/
namespace L2.K9
open PySem PySem.Spec PyProof.Rows L2
section
variable {P : Program} {w : World} {K : PySem.W.Frag} {mg : Str → Option Value} {base : Heap}
theorem scSame : FnScope ["told", "due", "key", "k"] ["told", "due"] (defScope sSame) := ⟨rfl, rfl, rfl, by decide +kernel, rfl, by decide +kernel, by decide +kernel⟩
theorem ok_same {f : Addr} {fd : FuncData} (F : Fun K "_law_same" "_law_same" sSame f fd) (G : GL mg) (mgS : mg "_law_same" = some (.ref f)) (bS : Binds K fd ["told", "due"] []) : ∀ n, FnOk P w K mg base CX0 (n + 1) f fd ["told", "due"] (spSame n) := by
  intro n
  induction n with
  | zero => exact ⟨fun _ _ _ _ h => h.elim, fun _ _ _ _ _ _ _ _ _ _ _ _ _ h => h.elim⟩
  | succ n ih =>
  refine F.ok scSame (fun vs H Q E h => ?_) (fun cdv A outer s H vs Q E hr h => ?_)
  · obtain ⟨x, y, S, m, rfl, _⟩ := h
    rfl
  · refine ⟨_, (pss_cons (ps_if (PW.pt (pw_or (pt_cmpR op_isN (pv 1) pe_non (nomark _)) (pw_or1 (pt_val (pe_callB call_isi (by rfl) G.isinstance (by decide +kernel) (pa_cons (pv 1) (pa_cons (pe_bltn (v := .ty "bool") (by rfl) G.bool (by decide +kernel) rfl) pa_nil)))))))
        (pss_one (ps_ret (pe_ifExp (pt_cmpR op_isN (pv 1) pe_non (nomark _)) (pe_cmpR op_isN (pv 0) pe_non (nomark _)) (pe_and (pe_callB call_isi (by rfl) G.isinstance (by decide +kernel) (pa_cons (pv 0) (pa_cons (pe_bltn (v := .ty "bool") (by rfl) G.bool (by decide +kernel) rfl) pa_nil))) (pe_one (pe_cmpR op_eq (pe_cmpR op_isBl (pv 0) pe_bl (nomark _)) (pe_cmpR op_isBl (pv 1) pe_bl (nomark _)) (nomark _)))))))
        pss_nil)
      (pss_cons (ps_if (pt_val (pe_callB call_isi (by rfl) G.isinstance (by decide +kernel) (pa_cons (pv 1) (pa_cons (pe_bltn (v := .ty "int") (by rfl) G.int (by decide +kernel) rfl) pa_nil))))
        (pss_one (ps_ret (pe_and (pe_callB call_isi (by rfl) G.isinstance (by decide +kernel) (pa_cons (pv 0) (pa_cons (pe_bltn (v := .ty "int") (by rfl) G.int (by decide +kernel) rfl) pa_nil))) (pe_and (pe_not (pe_callB call_isi (by rfl) G.isinstance (by decide +kernel) (pa_cons (pv 0) (pa_cons (pe_bltn (v := .ty "bool") (by rfl) G.bool (by decide +kernel) rfl) pa_nil)))) (pe_one (pe_cmpR op_eq (pe_op op_sub (pe_callTy call_int1 (by rfl) G.int (by decide +kernel) (pa_cons (pv 0) pa_nil)) (pv 1)) pe_int (nomark _)))))))
        pss_nil)
      (pss_cons (ps_if (pt_val (pe_callB call_isi (by rfl) G.isinstance (by decide +kernel) (pa_cons (pv 1) (pa_cons (pe_bltn (v := .ty "str") (by rfl) G.str (by decide +kernel) rfl) pa_nil))))
        (pss_one (ps_ret (pe_and (pe_callB call_isi (by rfl) G.isinstance (by decide +kernel) (pa_cons (pv 0) (pa_cons (pe_bltn (v := .ty "str") (by rfl) G.str (by decide +kernel) rfl) pa_nil))) (pe_one (pe_cmpR op_eq (pv 0) (pv 1) (nomark _))))))
        pss_nil)
      (pss_cons (ps_if (pt_val (pe_callB call_isi (by rfl) G.isinstance (by decide +kernel) (pa_cons (pv 1) (pa_cons (pe_bltn (v := .ty "dict") (by rfl) G.dict (by decide +kernel) rfl) pa_nil))))
        (pss_one (ps_ret (pe_and (pe_callB call_isi (by rfl) G.isinstance (by decide +kernel) (pa_cons (pv 0) (pa_cons (pe_bltn (v := .ty "dict") (by rfl) G.dict (by decide +kernel) rfl) pa_nil))) (pe_and (pe_cmpR op_eq (pe_callB call_lenD (by rfl) G.len (by decide +kernel) (pa_cons (pv 0) pa_nil)) (pe_callB call_lenD (by rfl) G.len (by decide +kernel) (pa_cons (pv 1) pa_nil)) (nomark _)) (pe_one (pe_cmpR (op_eqD hr.units) (pe_lock (pe_lc (own := [("key", 2)]) (g := gName 2) (by rfl) scSame.nd (pi_keys (pv 1)) (blkOk_by (N := ["told", "due", "key", "k"]) (sc := defScope sSame) (by decide +kernel)) (fun _ _ _ _ _ => by exact (pg_name (i := 2) scSame.nd rfl (.inl rfl))) (fun _ _ _ _ _ => by exact pts_one (PW.pt (pw_or (pt_cmp (pc_dnotin (hu_of hr) (pv 2) (pv 0))) (pw_or1 (pt_not (pt_val (by exact pe_call ih hr (by rfl) mgS F.kp bS .nil pass0 (pa_cons (pe_dget (hu_of hr) (pv 0) (pv 2) (fun _ _ => rfl)) (pa_cons (pe_dget (hu_of hr) (pv 1) (pv 2) (fun _ _ => rfl)) pa_nil))))))))) (fun _ _ _ _ _ => by exact (pv 2)))) (pe_lst pa_nil) (nomark _)))))))
        pss_nil)
      (pss_cons (ps_if (PW.pt (pw_or (pt_not (pt_val (pe_callB call_isiT (by rfl) G.isinstance (by decide +kernel) (pa_cons (pv 0) (pa_cons (pe_tup (pa_cons (pe_bltn (v := .ty "list") (by rfl) G.list (by decide +kernel) rfl) (pa_cons (pe_bltn (v := .ty "tuple") (by rfl) G.tuple (by decide +kernel) rfl) pa_nil))) pa_nil))))) (pw_or (pt_cmpR op_ne (pe_callB call_isi (by rfl) G.isinstance (by decide +kernel) (pa_cons (pv 0) (pa_cons (pe_bltn (v := .ty "list") (by rfl) G.list (by decide +kernel) rfl) pa_nil))) (pe_callB call_isi (by rfl) G.isinstance (by decide +kernel) (pa_cons (pv 1) (pa_cons (pe_bltn (v := .ty "list") (by rfl) G.list (by decide +kernel) rfl) pa_nil))) (nomark _)) (pw_or1 (pt_cmpR op_ne (pe_callB call_len_seq (by rfl) G.len (by decide +kernel) (pa_cons (pv 0) pa_nil)) (pe_callB call_len_seq (by rfl) G.len (by decide +kernel) (pa_cons (pv 1) pa_nil)) (nomark _))))))
        (pss_one (ps_ret pe_bl))
        pss_nil)
      (pss_one (ps_ret (pe_cmpR (op_eqD hr.units) (pe_lc (own := [("k", 3)]) (g := gName 3) (by rfl) scSame.nd (pi_range1 (by rfl) G.range (pa_cons (pe_callB call_len_seq (by rfl) G.len (by decide +kernel) (pa_cons (pv 1) pa_nil)) pa_nil)) (blkOk_by (N := ["told", "due", "key", "k"]) (sc := defScope sSame) (by decide +kernel)) (fun _ _ _ _ _ => by exact (pg_name (i := 3) scSame.nd rfl (.inl rfl))) (fun _ _ _ _ _ => by exact pts_one (pt_not (pt_val (by exact pe_call ih hr (by rfl) mgS F.kp bS .nil pass0 (pa_cons (pe_ix (r := rIx K) (by exact ix_seq) (pv 0) (pv 3) (fun _ _ => rfl)) (pa_cons (pe_ix (r := rIx K) (by exact ix_seq) (pv 1) (pv 3) (fun _ _ => rfl)) pa_nil)))))) (fun _ _ _ _ _ => by exact (pv 3))) (pe_lst pa_nil) (nomark _))))))))), ?_⟩
    obtain ⟨x, y, S, m, rfl, hm1, sm, q⟩ := h
    rcases sm with ⟨rfl, g⟩ | ⟨a, b, xs, rfl, rfl, ha, hb, hx, hn, gz⟩
    · cases g with
      | non n =>
        refine ⟨_, rfl, rfl, _, rfl, ?_⟩
        refine iteT ?_
        refine iteT ?_
        refine ⟨_, rfl, rfl, _, rfl, ?_⟩
        refine iteT ?_
        exact ⟨_, rfl, rfl, q H (Same.refl H)⟩
      | bl n b =>
        refine ⟨_, rfl, rfl, _, rfl, ?_⟩
        refine iteF ?_
        refine ⟨_, rfl, _, _, _, _, true, rfl, .ty _, ty_bl b, kit_ty (by decide +kernel), _, rfl, ?_⟩
        refine iteT ?_
        refine ⟨_, rfl, rfl, _, rfl, ?_⟩
        refine iteF ?_
        refine ⟨_, rfl, _, _, _, _, true, rfl, .ty _, ty_bl b, kit_ty (by decide +kernel),_, rfl, ?_⟩
        refine iteT ?_
        refine ⟨_, rfl, _, _, rfl, rfl, _, rfl, _, _, rfl, rfl, rfl, ?_⟩
        have e : decide (V.bl (decide (b = true)) = V.bl (decide (b = true))) = true := decide_eq_true rfl
        show Q (.bl (decide (V.bl (decide (b = true)) = V.bl (decide (b = true))))) H
        rw [e]
        exact q H (Same.refl H)
      | int n i =>
        refine ⟨_, rfl, rfl, _, rfl, ?_⟩
        refine iteF ?_
        refine ⟨_, rfl, _, _, _, _, false, rfl, .ty _, ty_int i, kit_ty (by decide +kernel), _, rfl, ?_⟩
        refine iteF ?_
        refine ⟨_, rfl, _, _, _, _, true, rfl, .ty _, ty_int i, kit_ty (by decide +kernel), _, rfl, ?_⟩
        refine iteT ?_
        refine ⟨_, rfl, _, _, _, _, true, rfl, .ty _, ty_int i, kit_ty (by decide +kernel),_, rfl, ?_⟩
        refine iteT ?_
        refine ⟨_, rfl, _, _, _, _, false, rfl, .ty _, ty_int i, kit_ty (by decide +kernel),_, rfl, _, rfl, ?_⟩
        refine iteT ?_
        refine ⟨_, rfl, .inl ⟨_, rfl, _, rfl, _, _, rfl, rfl, rfl, ?_⟩⟩
        have e : decide (V.int (i - i) = V.int 0) = true := decide_eq_true (by rw [Int.sub_self])
        show Q (.bl (decide (V.int (i - i) = V.int 0))) H
        rw [e]
        exact q H (Same.refl H)
      | str n z =>
        refine ⟨_, rfl, rfl, _, rfl, ?_⟩
        refine iteF ?_
        refine ⟨_, rfl, _, _, _, _, false, rfl, .ty _, ty_str z, kit_ty (by decide +kernel), _, rfl, ?_⟩
        refine iteF ?_
        refine ⟨_, rfl, _, _, _, _, false, rfl, .ty _, ty_str z, kit_ty (by decide +kernel), _, rfl, ?_⟩
        refine iteF ?_
        refine ⟨_, rfl, _, _, _, _, true, rfl, .ty _, ty_str z, kit_ty (by decide +kernel), _, rfl, ?_⟩
        refine iteT ?_
        refine ⟨_, rfl, _, _, _, _, true, rfl, .ty _, ty_str z, kit_ty (by decide +kernel),_, rfl, ?_⟩
        refine iteT ?_
        refine ⟨_, rfl, _, rfl, rfl, ?_⟩
        have e : decide (V.str z = V.str z) = true := decide_eq_true rfl
        show Q (.bl (decide (V.str z = V.str z))) H
        rw [e]
        exact q H (Same.refl H)
      | @lst n a xs h1 h2 h3 h4 =>
        refine ⟨_, rfl, rfl, _, rfl, ?_⟩
        refine iteF ?_
        refine ⟨_, rfl, _, _, _, _, false, rfl, .ty _, ty_lst h2, kit_ty (by decide +kernel), _, rfl, ?_⟩
        refine iteF ?_
        refine ⟨_, rfl, _, _, _, _, false, rfl, .ty _, ty_lst h2, kit_ty (by decide +kernel), _, rfl, ?_⟩
        refine iteF ?_
        refine ⟨_, rfl, _, _, _, _, false, rfl, .ty _, ty_lst h2, kit_ty (by decide +kernel), _, rfl, ?_⟩
        refine iteF ?_
        refine ⟨_, rfl, _, _, _, _, false, rfl, .ty _, ty_lst h2, kit_ty (by decide +kernel), _, rfl, ?_⟩
        refine iteF ?_
        refine ⟨_, rfl, ⟨(by show 2 ≤ sizeLine; decide), fun tp htp => ?_⟩⟩
        have k1 : Same H (upd H tp (.tup [.ty "list", .ty "tuple"])) := Same.upd htp
        generalize hH1 : upd H tp (.tup [.ty "list", .ty "tuple"]) = H1 at k1
        have htp1 : H1 tp = some (.tup [.ty "list", .ty "tuple"]) := by rw [← hH1, upd_same]
        have ha1 := k1 _ _ h2
        have hb1 := k1 _ _ h2
        refine ⟨_, tp, _, _, [.type "list", .type "tuple"], true, rfl, htp1, .cons (.ty _) (.cons (.ty _) .nil), ty_lst ha1, kitAny_cons (b := true) (kit_ty (by decide +kernel)) (fun z => nomatch z) (fun _ => rfl), _, rfl, ?_⟩
        refine iteF ?_
        refine ⟨_, rfl, _, _, _, _, true, rfl, .ty _, ty_lst ha1, kit_ty (by decide +kernel), _, rfl, _, _, _, _, true, rfl, .ty _, ty_lst hb1, kit_ty (by decide +kernel), rfl, _, rfl, ?_⟩
        refine iteF ?_
        refine ⟨_, rfl, a, xs, rfl, .inl (SqL.of ha1), _, rfl, a, xs, rfl, .inl (SqL.of hb1), rfl, _, rfl, ?_⟩
        refine ite_ne_self ?_
        refine ⟨_, rfl, a, xs, rfl, .inl (SqL.of hb1), _, rfl, (by omega), (by have := h3; omega), fun D hD => ?_⟩
        refine lc_range (lo := 0) (n := (xs.length : Int).toNat) (fun i H' => Same H1 H' ∧ H' D = some (.lst [])) ⟨Same.upd hD, upd_same⟩ (fun i H2 hi hP => ?_) (fun H2 hP => ?_)
        · obtain ⟨k2, hD2⟩ := hP
          have ha2 := k2 _ _ ha1
          have hb2 := k2 _ _ hb1
          have hil : i < xs.length := by omega
          obtain ⟨z, hz⟩ : ∃ z, xs[i]? = some z := ⟨_, List.getElem?_eq_getElem hil⟩
          have hat : atI xs (0 + (i : Int)) = some z := by rw [Int.zero_add]; exact atI_nat hz
          have hm : z ∈ xs := List.mem_of_getElem? hz
          refine ⟨rfl, ?_⟩
          refine ⟨_, rfl, _, rfl, .inl ⟨a, xs, _, z, rfl, rfl, SqL.of ha2, hat, ⟨_, rfl, _, rfl, .inl ⟨a, xs, _, z, rfl, rfl, SqL.of hb2, hat, ?_⟩⟩⟩⟩
          refine ⟨z, z, _, _, rfl, hm1, .inl ⟨rfl, (h4 z hm).same (k1.trans k2)⟩, fun H3 k3 => ⟨_, rfl, ?_⟩⟩
          refine iteF ?_
          exact ⟨k2.trans k3, k3 _ _ hD2⟩
        · obtain ⟨k2, hD2⟩ := hP
          refine ⟨Nat.zero_le _, fun p hp => ⟨.list [], .list [], .lst (SqL.of (Same.upd hp _ _ hD2)) .nil, .lst (SqL.of upd_same) .nil, rfl, rfl, ?_⟩⟩
          exact q _ ((k1.trans k2).trans (Same.upd hp))
      | @tup n a xs h1 h2 h3 h4 =>
        refine ⟨_, rfl, rfl, _, rfl, ?_⟩
        refine iteF ?_
        refine ⟨_, rfl, _, _, _, _, false, rfl, .ty _, ty_tup h2, kit_ty (by decide +kernel), _, rfl, ?_⟩
        refine iteF ?_
        refine ⟨_, rfl, _, _, _, _, false, rfl, .ty _, ty_tup h2, kit_ty (by decide +kernel), _, rfl, ?_⟩
        refine iteF ?_
        refine ⟨_, rfl, _, _, _, _, false, rfl, .ty _, ty_tup h2, kit_ty (by decide +kernel), _, rfl, ?_⟩
        refine iteF ?_
        refine ⟨_, rfl, _, _, _, _, false, rfl, .ty _, ty_tup h2, kit_ty (by decide +kernel), _, rfl, ?_⟩
        refine iteF ?_
        refine ⟨_, rfl, ⟨(by show 2 ≤ sizeLine; decide), fun tp htp => ?_⟩⟩
        have k1 : Same H (upd H tp (.tup [.ty "list", .ty "tuple"])) := Same.upd htp
        generalize hH1 : upd H tp (.tup [.ty "list", .ty "tuple"]) = H1 at k1
        have htp1 : H1 tp = some (.tup [.ty "list", .ty "tuple"]) := by rw [← hH1, upd_same]
        have ha1 := k1 _ _ h2
        have hb1 := k1 _ _ h2
        refine ⟨_, tp, _, _, [.type "list", .type "tuple"], true, rfl, htp1, .cons (.ty _) (.cons (.ty _) .nil), ty_tup ha1, kitAny_cons (b := false) (kit_ty (by decide +kernel)) (fun _ => kitAny_cons (b := true) (kit_ty (by decide +kernel)) (fun z => nomatch z) (fun _ => rfl)) (fun z => nomatch z), _, rfl, ?_⟩
        refine iteF ?_
        refine ⟨_, rfl, _, _, _, _, false, rfl, .ty _, ty_tup ha1, kit_ty (by decide +kernel), _, rfl, _, _, _, _, false, rfl, .ty _, ty_tup hb1, kit_ty (by decide +kernel), rfl, _, rfl, ?_⟩
        refine iteF ?_
        refine ⟨_, rfl, a, xs, rfl, .inr (SqT.of ha1), _, rfl, a, xs, rfl, .inr (SqT.of hb1), rfl, _, rfl, ?_⟩
        refine ite_ne_self ?_
        refine ⟨_, rfl, a, xs, rfl, .inr (SqT.of hb1), _, rfl, (by omega), (by have := h3; omega), fun D hD => ?_⟩
        refine lc_range (lo := 0) (n := (xs.length : Int).toNat) (fun i H' => Same H1 H' ∧ H' D = some (.lst [])) ⟨Same.upd hD, upd_same⟩ (fun i H2 hi hP => ?_) (fun H2 hP => ?_)
        · obtain ⟨k2, hD2⟩ := hP
          have ha2 := k2 _ _ ha1
          have hb2 := k2 _ _ hb1
          have hil : i < xs.length := by omega
          obtain ⟨z, hz⟩ : ∃ z, xs[i]? = some z := ⟨_, List.getElem?_eq_getElem hil⟩
          have hat : atI xs (0 + (i : Int)) = some z := by rw [Int.zero_add]; exact atI_nat hz
          have hm : z ∈ xs := List.mem_of_getElem? hz
          refine ⟨rfl, ?_⟩
          refine ⟨_, rfl, _, rfl, .inr (.inl ⟨a, xs, _, z, rfl, rfl, SqT.of ha2, hat, ⟨_, rfl, _, rfl, .inr (.inl ⟨a, xs, _, z, rfl, rfl, SqT.of hb2, hat, ?_⟩)⟩⟩)⟩
          refine ⟨z, z, _, _, rfl, hm1, .inl ⟨rfl, (h4 z hm).same (k1.trans k2)⟩, fun H3 k3 => ⟨_, rfl, ?_⟩⟩
          refine iteF ?_
          exact ⟨k2.trans k3, k3 _ _ hD2⟩
        · obtain ⟨k2, hD2⟩ := hP
          refine ⟨Nat.zero_le _, fun p hp => ⟨.list [], .list [], .lst (SqL.of (Same.upd hp _ _ hD2)) .nil, .lst (SqL.of upd_same) .nil, rfl, rfl, ?_⟩⟩
          exact q _ ((k1.trans k2).trans (Same.upd hp))
      | @dct n a kvs h1 h2 h3 h4 h5 h6 =>
        refine ⟨_, rfl, rfl, _, rfl, ?_⟩
        refine iteF ?_
        refine ⟨_, rfl, _, _, _, _, false, rfl, .ty _, ty_dct h2, kit_ty (by decide +kernel), _, rfl, ?_⟩
        refine iteF ?_
        refine ⟨_, rfl, _, _, _, _, false, rfl, .ty _, ty_dct h2, kit_ty (by decide +kernel), _, rfl, ?_⟩
        refine iteF ?_
        refine ⟨_, rfl, _, _, _, _, false, rfl, .ty _, ty_dct h2, kit_ty (by decide +kernel), _, rfl, ?_⟩
        refine iteF ?_
        refine ⟨_, rfl, _, _, _, _, true, rfl, .ty _, ty_dct h2, kit_ty (by decide +kernel), _, rfl, ?_⟩
        refine iteT ?_
        refine ⟨_, rfl, _, _, _, _, true, rfl, .ty _, ty_dct h2, kit_ty (by decide +kernel),_, rfl, ?_⟩
        refine iteT ?_
        refine ⟨_, rfl, a, kvs, rfl, h2, _, rfl, a, kvs, rfl, h2, rfl, _, rfl, ?_⟩
        refine ite_eq_self ?_
        refine ⟨a, .dK kvs, h2, True.intro, fun od => ?_⟩
        have hv : ∀ p ∈ kvs, Gd (fun c => S c ∧ c ≠ a) m (upd H a (.frz od (.dK kvs))) n p.2 := fun p hp => (Gd.dct_in h1 h2 h3 h4 h5 h6 p hp).apart
        refine ⟨_, rfl, a, od, rfl, .inl ⟨kvs, upd_same, fun D hD => ?_⟩⟩
        have hDa : D ≠ a := fun z => by
          rw [z, upd_same] at hD
          cases hD
        refine lc_it walk_keys (fun i H' => Same (upd H a (.frz od (.dK kvs))) H' ∧ H' D = some (.lst [])) ⟨Same.upd hD, upd_same⟩ (fun i H' _ hP => hP.1 _ _ upd_same) (fun i x H2 H3 hi hP hY => ?_) (fun H2 hP => ?_)
        · obtain ⟨e3, ky, v, hk, ex⟩ := hY
          subst e3 ex
          obtain ⟨k2, hD2⟩ := hP
          have hg : DGet H3 a (kV ky) (some v) := .inl ⟨kvs, ky, .inr ⟨od, k2 _ _ upd_same⟩, rfl, (valV_at h4 hk).symm⟩
          refine ⟨rfl, ?_⟩
          refine ⟨_, rfl, _, rfl, a, some v, rfl, hg, _, rfl, ?_⟩
          refine iteF ?_
          refine ⟨_, rfl, _, rfl, a, v, rfl, hg, _, rfl, _, rfl, a, v, rfl, hg, ?_⟩
          refine ⟨v, v, _, _, rfl, hm1, .inl ⟨rfl, (hv _ (List.mem_of_getElem? hk)).same k2⟩, fun H4 k4 => ⟨_, rfl, ?_⟩⟩
          refine iteF ?_
          exact ⟨k2.trans k4, k4 _ _ hD2⟩
        · obtain ⟨k2, hD2⟩ := hP
          refine ⟨k2 _ _ upd_same, Nat.zero_le _, fun p hp => ?_⟩
          have hDu : upd H2 a (.dK kvs) D = some (.lst []) := by
            rw [upd_ne hDa]
            exact hD2
          refine ⟨.list [], .list [], .lst (SqL.of (Same.upd hp _ _ hDu)) .nil, .lst (SqL.of upd_same) .nil, rfl, rfl, ?_⟩
          refine q _ fun b o e => Same.upd hp _ _ ?_
          by_cases hba : b = a
          · rw [hba] at e ⊢
            rw [upd_same, ← e, h2]
          · rw [upd_ne hba]
            exact k2 _ _ (by rw [upd_ne hba]; exact e)
    · obtain ⟨n, rfl⟩ : ∃ j, n = j + 1 := ⟨n - 1, by omega⟩
      refine ⟨_, rfl, rfl, _, rfl, ?_⟩
      refine iteF ?_
      refine ⟨_, rfl, _, _, _, _, false, rfl, .ty _, ty_lst hb, kit_ty (by decide +kernel), _, rfl, ?_⟩
      refine iteF ?_
      refine ⟨_, rfl, _, _, _, _, false, rfl, .ty _, ty_lst hb, kit_ty (by decide +kernel), _, rfl, ?_⟩
      refine iteF ?_
      refine ⟨_, rfl, _, _, _, _, false, rfl, .ty _, ty_lst hb, kit_ty (by decide +kernel), _, rfl, ?_⟩
      refine iteF ?_
      refine ⟨_, rfl, _, _, _, _, false, rfl, .ty _, ty_lst hb, kit_ty (by decide +kernel), _, rfl, ?_⟩
      refine iteF ?_
      refine ⟨_, rfl, ⟨(by show 2 ≤ sizeLine; decide), fun tp htp => ?_⟩⟩
      have k1 : Same H (upd H tp (.tup [.ty "list", .ty "tuple"])) := Same.upd htp
      generalize hH1 : upd H tp (.tup [.ty "list", .ty "tuple"]) = H1 at k1
      have htp1 : H1 tp = some (.tup [.ty "list", .ty "tuple"]) := by rw [← hH1, upd_same]
      have ha1 := k1 _ _ ha
      have hb1 := k1 _ _ hb
      refine ⟨_, tp, _, _, [.type "list", .type "tuple"], true, rfl, htp1, .cons (.ty _) (.cons (.ty _) .nil), ty_lst ha1, kitAny_cons (b := true) (kit_ty (by decide +kernel)) (fun z => nomatch z) (fun _ => rfl), _, rfl, ?_⟩
      refine iteF ?_
      refine ⟨_, rfl, _, _, _, _, true, rfl, .ty _, ty_lst ha1, kit_ty (by decide +kernel), _, rfl, _, _, _, _, true, rfl, .ty _, ty_lst hb1, kit_ty (by decide +kernel), rfl, _, rfl, ?_⟩
      refine iteF ?_
      refine ⟨_, rfl, a, xs, rfl, .inl (SqL.of ha1), _, rfl, b, xs, rfl, .inl (SqL.of hb1), rfl, _, rfl, ?_⟩
      refine ite_ne_self ?_
      refine ⟨_, rfl, b, xs, rfl, .inl (SqL.of hb1), _, rfl, (by omega), (by have := hx; omega), fun D hD => ?_⟩
      refine lc_range (lo := 0) (n := (xs.length : Int).toNat) (fun i H' => Same H1 H' ∧ H' D = some (.lst [])) ⟨Same.upd hD, upd_same⟩ (fun i H2 hi hP => ?_) (fun H2 hP => ?_)
      · obtain ⟨k2, hD2⟩ := hP
        have ha2 := k2 _ _ ha1
        have hb2 := k2 _ _ hb1
        have hil : i < xs.length := by omega
        obtain ⟨z, hz⟩ : ∃ z, xs[i]? = some z := ⟨_, List.getElem?_eq_getElem hil⟩
        have hat : atI xs (0 + (i : Int)) = some z := by rw [Int.zero_add]; exact atI_nat hz
        have hm : z ∈ xs := List.mem_of_getElem? hz
        refine ⟨rfl, ?_⟩
        refine ⟨_, rfl, _, rfl, .inl ⟨a, xs, _, z, rfl, rfl, SqL.of ha2, hat, ⟨_, rfl, _, rfl, .inl ⟨b, xs, _, z, rfl, rfl, SqL.of hb2, hat, ?_⟩⟩⟩⟩
        refine ⟨z, z, _, _, rfl, hm1, .inl ⟨rfl, (gz z hm).same (k1.trans k2)⟩, fun H3 k3 => ⟨_, rfl, ?_⟩⟩
        refine iteF ?_
        exact ⟨k2.trans k3, k3 _ _ hD2⟩
      · obtain ⟨k2, hD2⟩ := hP
        refine ⟨Nat.zero_le _, fun p hp => ⟨.list [], .list [], .lst (SqL.of (Same.upd hp _ _ hD2)) .nil, .lst (SqL.of upd_same) .nil, rfl, rfl, ?_⟩⟩
        exact q _ ((k1.trans k2).trans (Same.upd hp))
end
end L2.K9

set_option Elab.async false
set_option linter.all false
set_option maxRecDepth 100000
set_option maxHeartbeats 8000000
/-! _law_copy. -/
namespace L2.K9
open PySem PySem.Spec PyProof.Rows L2
abbrev sCopy : Stmt := top 65
def spCopy : Nat → Sp
  | 0 => fun _ _ _ _ => False
  | n + 1 => fun vs H Q _ => ∃ (x : V) (S : Addr → Prop) (m : Nat), vs = [x] ∧ m ≤ 100 ∧ (∀ a, H a = none → S a) ∧ Gd S m H n x ∧ ∀ v' H', Same H H' → Gd S m H' n v' → Q v' H'
/-- an address where nothing stands is none of it -/
theorem Gd.ne_none {S : Addr → Prop} {m : Nat} {H : Hp} {n : Nat} {v : V} {d : Addr} (g : Gd S m H n v) (h : H d = none) : Gd (fun a => S a ∧ a ≠ d) m H n v := by
  induction g with
  | non n => exact .non n
  | bl n b => exact .bl n b
  | int n i => exact .int n i
  | str n z => exact .str n z
  | lst h1 h2 h3 _ ih => exact .lst ⟨h1, ne_of_none h2 h⟩ h2 h3 ih
  | tup h1 h2 h3 _ ih => exact .tup ⟨h1, ne_of_none h2 h⟩ h2 h3 ih
  | dct h1 h2 h3 h4 h5 _ ih => exact .dct ⟨h1, ne_of_none h2 h⟩ h2 h3 h4 h5 ih
theorem mergeK_new : ∀ {kvs acc : List (Key × V)}, ((acc ++ kvs).map (·.1)).Nodup → mergeK acc kvs = acc ++ kvs
  | [], acc, _ => by simp [mergeK]
  | p :: r, acc, nd => by
    have h0 : valV acc p.1 = none := by
      unfold valV
      rw [Option.map_eq_none_iff, List.find?_eq_none]
      intro q hq e
      have e2 : q.1 = p.1 := by simpa using e
      rw [List.map_append, List.nodup_append] at nd
      exact nd.2.2 q.1 (List.mem_map.mpr ⟨q, hq, rfl⟩) p.1 (List.mem_map.mpr ⟨p, List.mem_cons_self, rfl⟩) e2
    have ih := mergeK_new (kvs := r) (acc := acc ++ [(p.1, p.2)]) (by simpa using nd)
    unfold mergeK at ih ⊢
    rw [List.foldl_cons, putK_new p.2 h0, ih]
    simp
section
variable {P : Program} {w : World} {K : PySem.W.Frag} {mg : Str → Option Value} {base : Heap}
theorem scCopy : FnScope ["value", "key", "item"] ["value"] (defScope sCopy) := ⟨rfl, rfl, rfl, by decide +kernel, rfl, by decide +kernel, by decide +kernel⟩
theorem ok_copy {f : Addr} {fd : FuncData} (F : Fun K "_law_copy" "_law_copy" sCopy f fd) (G : GL mg) (mgS : mg "_law_copy" = some (.ref f)) (bS : Binds K fd ["value"] []) : ∀ n, FnOk P w K mg base CX0 (n + 1) f fd ["value"] (spCopy n) := by
  intro n
  induction n with
  | zero => exact ⟨fun _ _ _ _ h => h.elim, fun _ _ _ _ _ _ _ _ _ _ _ _ _ h => h.elim⟩
  | succ n ih =>
  refine F.ok scCopy (fun vs H Q E h => ?_) (fun cdv A outer s H vs Q E hr h => ?_)
  · obtain ⟨x, S, m, rfl, _⟩ := h
    rfl
  · refine ⟨_, (pss_cons (ps_if (pt_val (pe_callB call_isi (by rfl) G.isinstance (by decide +kernel) (pa_cons (pv 0) (pa_cons (pe_bltn (v := .ty "dict") (by rfl) G.dict (by decide +kernel) rfl) pa_nil))))
        (pss_one (ps_ret (pe_callTy (call_dictP rfl) (by rfl) G.dict (by decide +kernel) (pa_cons (pe_lock (pe_lc (own := [("key", 1)]) (g := gName 1) (by rfl) scCopy.nd (pi_keys (pv 0)) (blkOk_by (N := ["value", "key", "item"]) (sc := defScope sCopy) (by decide +kernel)) (fun _ _ _ _ _ => by exact (pg_name (i := 1) scCopy.nd rfl (.inl rfl))) (fun _ _ _ _ _ => by exact pts_nil) (fun _ _ _ _ _ => by exact (pe_tup (pa_cons (pv 1) (pa_cons (by exact pe_call ih hr (by rfl) mgS F.kp bS .nil pass0 (pa_cons (pe_dget (hu_of hr) (pv 0) (pv 1) (fun _ _ => rfl)) pa_nil)) pa_nil)))))) pa_nil))))
        pss_nil)
      (pss_one (ps_ret (pe_ifExp (pt_val (pe_callB call_isi (by rfl) G.isinstance (by decide +kernel) (pa_cons (pv 0) (pa_cons (pe_bltn (v := .ty "list") (by rfl) G.list (by decide +kernel) rfl) pa_nil)))) (pe_lc (own := [("item", 2)]) (g := gName 2) (by rfl) scCopy.nd (pi_list (pv 0)) (blkOk_by (N := ["value", "key", "item"]) (sc := defScope sCopy) (by decide +kernel)) (fun _ _ _ _ _ => by exact (pg_name (i := 2) scCopy.nd rfl (.inl rfl))) (fun _ _ _ _ _ => by exact pts_nil) (fun _ _ _ _ _ => by exact (by exact pe_call ih hr (by rfl) mgS F.kp bS .nil pass0 (pa_cons (pv 2) pa_nil)))) (pv 0))))), ?_⟩
    obtain ⟨x, S, m, rfl, hm1, hS, g, q⟩ := h
    cases g with
      | non n =>
        refine ⟨_, rfl, _, _, _, _, false, rfl, .ty _, ty_non, kit_ty (by decide +kernel), _, rfl, ?_⟩
        refine iteF ?_
        refine ⟨_, rfl, _, _, _, _, false, rfl, .ty _, ty_non, kit_ty (by decide +kernel), _, rfl, ?_⟩
        refine iteF ?_
        exact ⟨_, rfl, q _ H (Same.refl H) (.non _)⟩
      | bl n b =>
        refine ⟨_, rfl, _, _, _, _, false, rfl, .ty _, ty_bl b, kit_ty (by decide +kernel), _, rfl, ?_⟩
        refine iteF ?_
        refine ⟨_, rfl, _, _, _, _, false, rfl, .ty _, ty_bl b, kit_ty (by decide +kernel), _, rfl, ?_⟩
        refine iteF ?_
        exact ⟨_, rfl, q _ H (Same.refl H) (.bl _ b)⟩
      | int n i =>
        refine ⟨_, rfl, _, _, _, _, false, rfl, .ty _, ty_int i, kit_ty (by decide +kernel), _, rfl, ?_⟩
        refine iteF ?_
        refine ⟨_, rfl, _, _, _, _, false, rfl, .ty _, ty_int i, kit_ty (by decide +kernel), _, rfl, ?_⟩
        refine iteF ?_
        exact ⟨_, rfl, q _ H (Same.refl H) (.int _ i)⟩
      | str n z =>
        refine ⟨_, rfl, _, _, _, _, false, rfl, .ty _, ty_str z, kit_ty (by decide +kernel), _, rfl, ?_⟩
        refine iteF ?_
        refine ⟨_, rfl, _, _, _, _, false, rfl, .ty _, ty_str z, kit_ty (by decide +kernel), _, rfl, ?_⟩
        refine iteF ?_
        exact ⟨_, rfl, q _ H (Same.refl H) (.str _ z)⟩
      | tup h1 h2 h3 h4 =>
        refine ⟨_, rfl, _, _, _, _, false, rfl, .ty _, ty_tup h2, kit_ty (by decide +kernel), _, rfl, ?_⟩
        refine iteF ?_
        refine ⟨_, rfl, _, _, _, _, false, rfl, .ty _, ty_tup h2, kit_ty (by decide +kernel), _, rfl, ?_⟩
        refine iteF ?_
        exact ⟨_, rfl, q _ H (Same.refl H) (.tup h1 h2 h3 h4)⟩
      | @lst n a xs h1 h2 h3 h4 =>
        refine ⟨_, rfl, _, _, _, _, false, rfl, .ty _, ty_lst h2, kit_ty (by decide +kernel), _, rfl, ?_⟩
        refine iteF ?_
        refine ⟨_, rfl, _, _, _, _, true, rfl, .ty _, ty_lst h2, kit_ty (by decide +kernel), _, rfl, ?_⟩
        refine iteT ?_
        refine ⟨_, rfl, a, rfl, ⟨_, SqL.of h2⟩, fun D hD => ?_⟩
        refine lc_list (K := K) (a := a) (xs := xs) (fun i H' => Same H H' ∧ ∃ acc, H' D = some (.lst acc) ∧ acc.length = i ∧ ∀ z ∈ acc, Gd (fun c => S c ∧ c ≠ D) m H' n z) ⟨Same.upd hD, [], upd_same, rfl, fun z hz => by cases hz⟩ (fun i H' _ hP => SqL.of (hP.1 _ _ h2)) (fun i x H' hx hP => ?_) (fun H' hP => ?_)
        · obtain ⟨k, acc, hD', hl, ga⟩ := hP
          have hxm := List.mem_of_getElem? hx
          have hil : i < xs.length := (List.getElem?_eq_some_iff.mp hx).1
          refine ⟨rfl, ?_⟩
          refine ⟨_, rfl, x, fun c => S c ∧ c ≠ D, m, rfl, hm1, fun c hc => ⟨hS c (k.free hc), fun z => ?_⟩, ((h4 x hxm).ne_none hD).same k, fun v' H3 k3 g3 => ?_⟩
          · rw [z, hD'] at hc
            cases hc
          · have hD3 := k3 _ _ hD'
            refine ⟨acc, hD3, Nat.lt_of_lt_of_le (by omega : acc.length < 1000) (by decide), ?_, acc ++ [v'], upd_same, by simp [hl], fun z hz => ?_⟩
            · intro b o e
              have nb : b ≠ D := fun z => by
                rw [z, hD] at e
                cases e
              rw [upd_ne nb]
              exact k3 _ _ (k _ _ e)
            · rcases List.mem_append.mp hz with hz | hz
              · exact ((ga z hz).same k3).apart
              · have e : z = v' := by simpa using hz
                rw [e]
                exact g3.apart
        · obtain ⟨k, acc, hD', hl, ga⟩ := hP
          exact q _ _ k (.lst (hS D hD) hD' (by omega) fun z hz => (ga z hz).mono (Nat.le_refl m) (fun _ q => q.1) (fun _ _ _ q => q) n (Nat.le_refl n))
      | @dct n a kvs h1 h2 h3 h4 h5 h6 =>
        refine ⟨_, rfl, _, _, _, _, true, rfl, .ty _, ty_dct h2, kit_ty (by decide +kernel), _, rfl, ?_⟩
        refine iteT ?_
        refine ⟨a, .dK kvs, h2, True.intro, fun od => ?_⟩
        have hv : ∀ p ∈ kvs, Gd (fun c => S c ∧ c ≠ a) m (upd H a (.frz od (.dK kvs))) n p.2 := fun p hp => (Gd.dct_in h1 h2 h3 h4 h5 h6 p hp).apart
        refine ⟨_, rfl, a, od, rfl, .inl ⟨kvs, upd_same, fun D hD => ?_⟩⟩
        have hDa : D ≠ a := fun z => by
          rw [z, upd_same] at hD
          cases hD
        have hD0 : H D = none := by
          rw [upd_ne hDa] at hD
          exact hD
        have hfree : ∀ {H' : Hp}, Same (upd H a (.frz od (.dK kvs))) H' → ∀ c, H' c = none → c ≠ a ∧ S c := fun {H'} k c hc => by
          have h0 := k.free hc
          have ca : c ≠ a := fun z => by
            rw [z, upd_same] at h0
            cases h0
          rw [upd_ne ca] at h0
          exact ⟨ca, hS c h0⟩
        refine lc_it walk_keys (fun i H' => Same (upd H a (.frz od (.dK kvs))) H' ∧ ∃ (ps : List Addr) (kv' : List (Key × V)), H' D = some (.lst (ps.map V.ref)) ∧ ps.length = i ∧ Paired (fun p r => H' p = some (.tup [kV r.1, r.2])) ps kv' ∧ kv'.map (·.1) = (kvs.take i).map (·.1) ∧ ∀ r ∈ kv', Gd (fun c => (S c ∧ c ≠ a) ∧ c ≠ D) m H' n r.2)
          ⟨Same.upd hD, [], [], upd_same, rfl, .nil, rfl, fun r hr => by cases hr⟩ (fun i H' _ hP => hP.1 _ _ upd_same) (fun i x H2 H3 hi hP hY => ?_) (fun H2 hP => ?_)
        · obtain ⟨e3, ky, v, hk, ex⟩ := hY
          subst e3 ex
          obtain ⟨k, ps, kv', hD', hl, hp, hkk, ga⟩ := hP
          have hg : DGet H3 a (kV ky) (some v) := .inl ⟨kvs, ky, .inr ⟨od, k _ _ upd_same⟩, rfl, (valV_at h4 hk).symm⟩
          refine ⟨rfl, ?_⟩
          refine ⟨_, rfl, _, rfl, _, rfl, a, v, rfl, hg, v, fun c => (S c ∧ c ≠ a) ∧ c ≠ D, m, rfl, hm1, fun c hc => ?_, ((hv _ (List.mem_of_getElem? hk)).ne_none hD).same k, fun v' H4 k4 g4 => ?_⟩
          · obtain ⟨c1, c2⟩ := hfree k c hc
            refine ⟨⟨c2, c1⟩, fun z => ?_⟩
            rw [z, hD'] at hc
            cases hc
          · refine ⟨(by show 2 ≤ sizeLine; decide), fun p hp' => ?_⟩
            have hD4 := k4 _ _ hD'
            have pD : p ≠ D := fun z => by
              rw [z, hD4] at hp'
              cases hp'
            refine ⟨ps.map V.ref, Same.upd hp' _ _ hD4, ?_, ?_, ps ++ [p], kv' ++ [(ky, v')], ?_, by simp [hl], ?_, ?_, fun r hr' => ?_⟩
            · rw [List.length_map, hl]
              exact Nat.lt_of_lt_of_le (by omega : i < 1000) (by decide)
            · intro b o e
              have nb : b ≠ D := fun z => by
                rw [z, hD] at e
                cases e
              rw [upd_ne nb]
              exact Same.upd hp' _ _ (k4 _ _ (k _ _ e))
            · rw [upd_same, List.map_append]
              rfl
            · refine Paired.snoc (Paired.mapP hp fun b r e => ?_) ?_
              · have nb : b ≠ D := fun z => by
                  rw [z, hD'] at e
                  cases e
                rw [upd_ne nb]
                exact Same.upd hp' _ _ (k4 _ _ e)
              · rw [upd_ne pD]
                exact upd_same
            · rw [List.map_append, hkk, List.take_add_one, List.map_append, hk]
              rfl
            · have big : ∀ {u : V}, Gd (fun c => (S c ∧ c ≠ a) ∧ c ≠ D) m H4 n u → Gd (fun c => (S c ∧ c ≠ a) ∧ c ≠ D) m (upd (upd H4 p (.tup [kV ky, v'])) D (.lst (ps.map V.ref ++ [.ref p]))) n u := fun {u} gu =>
                gu.mono (Nat.le_refl m) (fun _ q => q) (fun c o hc e => by
                  rw [upd_ne hc.2]
                  exact Same.upd hp' _ _ e) n (Nat.le_refl n)
              rcases List.mem_append.mp hr' with hr' | hr'
              · exact big ((ga r hr').same k4)
              · have e : r = (ky, v') := by simpa using hr'
                rw [e]
                exact big g4
        · obtain ⟨k, ps, kv', hD', hl, hp, hkk, ga⟩ := hP
          have hkk' : kv'.map (·.1) = kvs.map (·.1) := by
            rw [hkk, List.take_length]
          have ha2 := k _ _ upd_same
          refine ⟨ha2, D, ps, kv', rfl, SqL.of (by rw [upd_ne hDa]; exact hD'), Paired.mapP hp fun b r e => SqT.of ?_, fun p hp' => ?_⟩
          · have nb : b ≠ a := fun z => by
              rw [z, ha2] at e
              cases e
            rw [upd_ne nb]
            exact e
          have em : mergeK [] kv' = kv' := mergeK_new (acc := []) (by rw [List.nil_append, hkk']; exact h4)
          have pa : p ≠ a := fun z => by
            rw [z, upd_same] at hp'
            cases hp'
          have hp2 : H2 p = none := by
            rw [upd_ne pa] at hp'
            exact hp'
          have kl : kv'.length = kvs.length := by
            have e := congrArg List.length hkk'
            simpa using e
          refine q _ _ (fun b o e => Same.upd hp' _ _ ?_) (.dct (hfree k p hp2).2 (upd_same) (by rw [em, kl]; exact h3) (by rw [em, hkk']; exact h4) (fun r hr' => ?_) fun r hr' => ?_)
          · by_cases hba : b = a
            · rw [hba] at e ⊢
              rw [upd_same, ← e, h2]
            · rw [upd_ne hba]
              exact k _ _ (by rw [upd_ne hba]; exact e)
          · rw [em] at hr'
            have hm : r.1 ∈ kvs.map (·.1) := by
              rw [← hkk']
              exact List.mem_map.mpr ⟨r, hr', rfl⟩
            obtain ⟨r2, hr2, e2⟩ := List.mem_map.mp hm
            obtain ⟨z, hz⟩ := h5 r2 hr2
            exact ⟨z, by rw [← e2]; exact hz⟩
          · rw [em] at hr'
            exact (ga r hr').mono (Nat.le_refl m) (fun _ q => q.1.1) (fun c o hc e => Same.upd hp' _ _ (by rw [upd_ne hc.1.2]; exact e)) n (Nat.le_refl n)
end
end L2.K9

set_option Elab.async false
set_option linter.all false
set_option maxRecDepth 100000
set_option maxHeartbeats 8000000
/-! _law_keeps. -/
namespace L2.K9
open PySem PySem.Spec PyProof.Rows L2
abbrev sKeeps : Stmt := top 66
/-- the very value: it grows with it; what is not of it stays -/
def spKeeps (N : Nat) : Sp := fun vs H Q _ => ∃ (x : V) (S : Addr → Prop) (m : Nat), vs = [x, x] ∧ m ≤ 99 ∧ Gd S m H N x ∧ ∀ H', (∀ b o, ¬ S b → H b = some o → H' b = some o) → Gd S (m + 1) H' N x → Q (.bl true) H'
theorem putK_keys (kvs : List (Key × V)) (k : Key) (v : V) : (putK kvs k v).map (·.1) = kvs.map (·.1) ∨ (k ∉ kvs.map (·.1) ∧ putK kvs k v = kvs ++ [(k, v)]) := by
  unfold putK
  by_cases h : (kvs.any fun kv => decide (kv.1 = k)) = true
  · rw [if_pos h]
    left
    rw [List.map_map]
    refine List.map_congr_left fun p _ => ?_
    dsimp only [Function.comp]
    split <;> rfl
  · rw [if_neg h]
    right
    refine ⟨fun hm => h ?_, rfl⟩
    obtain ⟨p, hp, e⟩ := List.mem_map.mp hm
    exact List.any_eq_true.mpr ⟨p, hp, decide_eq_true e⟩
theorem putK_mem {kvs : List (Key × V)} {k : Key} {v : V} {p : Key × V} (h : p ∈ putK kvs k v) : p ∈ kvs ∨ (p.1 = k ∧ p.2 = v) := by
  unfold putK at h
  split at h
  · obtain ⟨r, hr, e⟩ := List.mem_map.mp h
    split at e
    · rename_i q
      right
      rw [← e]
      exact ⟨q, rfl⟩
    · left
      rw [← e]
      exact hr
  · rcases List.mem_append.mp h with h | h
    · exact .inl h
    · right
      have e : p = (k, v) := by simpa using h
      rw [e]
      exact ⟨rfl, rfl⟩
theorem Gd.grown {S : Addr → Prop} {m : Nat} {H : Hp} {n : Nat} {a : Addr} {xs : List V} (h1 : S a) (h2 : H a = some (.lst xs)) (h3 : xs.length ≤ m) (h4 : ∀ z ∈ xs, Gd S m H n z) (i : Int) : Gd S (m + 1) (upd H a (.lst (xs ++ [.int i]))) (n + 1) (.ref a) := by
  refine .lst h1 upd_same (by simp; omega) fun z hz => ?_
  rcases List.mem_append.mp hz with hz | hz
  · rcases (Gd.lst h1 h2 h3 h4).parts with ⟨ys, _, e, _, _, q⟩ | ⟨ys, _, e, _⟩ | ⟨kv, _, e, _⟩
    · rw [h2] at e
      cases e
      exact (q z hz).apart.mono (Nat.le_succ m) (fun _ r => r.1) (fun _ _ _ r => r) _ (Nat.le_refl n)
    · rw [h2] at e
      cases e
    · rw [h2] at e
      cases e
  · have e : z = .int i := by simpa using hz
    rw [e]
    exact .int _ _
theorem Gd.put {S : Addr → Prop} {m : Nat} {H : Hp} {n : Nat} {a : Addr} {kvs : List (Key × V)} (h1 : S a) (h2 : H a = some (.dK kvs)) (h3 : kvs.length ≤ m) (h4 : (kvs.map (·.1)).Nodup) (h5 : ∀ p ∈ kvs, ∃ z, p.1 = .inr z) (h6 : ∀ p ∈ kvs, Gd S m H n p.2) (x : Str) (i : Int) :
    Gd S (m + 1) (upd H a (.dK (putK kvs (.inr x) (.int i)))) (n + 1) (.ref a) := by
  have hv := Gd.dct_in h1 h2 h3 h4 h5 h6
  refine .dct h1 upd_same ?_ ?_ (fun p hp => ?_) fun p hp => ?_
  · rcases putK_keys kvs (.inr x) (.int i) with e | ⟨_, e⟩
    · have e2 := congrArg List.length e
      simp at e2
      omega
    · rw [e]
      simp
      omega
  · rcases putK_keys kvs (.inr x) (.int i) with e | ⟨hn, e⟩
    · rw [e]
      exact h4
    · rw [e, List.map_append, List.nodup_append]
      refine ⟨h4, by simp, fun y hy z hz ez => hn ?_⟩
      have e2 : z = .inr x := by simpa using hz
      rw [← e2, ← ez]
      exact hy
  · rcases putK_mem hp with q | ⟨q, _⟩
    · exact h5 p q
    · exact ⟨x, q⟩
  · rcases putK_mem hp with q | ⟨_, q⟩
    · exact (hv p q).apart.mono (Nat.le_succ m) (fun _ r => r.1) (fun _ _ _ r => r) _ (Nat.le_refl n)
    · rw [q]
      exact .int _ _
section
variable {P : Program} {w : World} {K : PySem.W.Frag} {mg : Str → Option Value} {base : Heap}
theorem scKeeps : FnScope ["field", "value"] ["field", "value"] (defScope sKeeps) := ⟨rfl, rfl, rfl, by decide +kernel, rfl, by decide +kernel, by decide +kernel⟩
theorem ok_keeps {f fS : Addr} {fd fdS : FuncData} {N : Nat} (F : Fun K "_law_keeps" "_law_keeps" sKeeps f fd) (FS : Fun K "_law_same" "_law_same" sSame fS fdS) (G : GL mg) (mgS : mg "_law_same" = some (.ref fS)) (bS : Binds K fdS ["told", "due"] []) :
    FnOk P w K mg base CX0 (N + 3) f fd ["field", "value"] (spKeeps N) := by
  have GS : FnOk P w K mg base CX0 (N + 2) fS fdS ["told", "due"] (spSame (N + 1)) := ok_same FS G mgS bS (N + 1)
  refine F.ok scKeeps (fun vs H Q E h => ?_) (fun cdv A outer s H vs Q E hr h => ?_)
  · obtain ⟨x, S, m, rfl, _⟩ := h
    rfl
  · refine ⟨_, (pss_cons (ps_if (pt_not (pt_val (by exact pe_call GS hr (by rfl) mgS FS.kp bS .nil pass0 (pa_cons (pv 0) (pa_cons (pv 1) pa_nil)))))
        (pss_one (ps_ret pe_bl))
        pss_nil)
      (pss_cons (ps_if (pt_val (pe_callB call_isi (by rfl) G.isinstance (by decide +kernel) (pa_cons (pv 1) (pa_cons (pe_bltn (v := .ty "list") (by rfl) G.list (by decide +kernel) rfl) pa_nil))))
        (pss_one (ps_expr (pe_bm PySem.F.plainAttrs_list PySem.F.slot_list_append PySem.F.type_list_append mt_append (pv 1) (pa_cons pe_int pa_nil))))
        pss_nil)
      (pss_cons (ps_if (pt_val (pe_callB call_isi (by rfl) G.isinstance (by decide +kernel) (pa_cons (pv 1) (pa_cons (pe_bltn (v := .ty "dict") (by rfl) G.dict (by decide +kernel) rfl) pa_nil))))
        (pss_one (ps_dput (hu_of hr) (pv 1) pe_str pe_int rfl))
        pss_nil)
      (pss_one (ps_ret (by exact pe_call GS hr (by rfl) mgS FS.kp bS .nil pass0 (pa_cons (pv 0) (pa_cons (pv 1) pa_nil)))))))), ?_⟩
    obtain ⟨x, S, m, rfl, hm1, g, q⟩ := h
    refine ⟨_, rfl, _, rfl, x, x, S, m, rfl, Nat.le_succ_of_le hm1, .inl ⟨rfl, g⟩, fun H1 k1 => ⟨_, rfl, ?_⟩⟩
    refine iteF ?_
    have g1 := g.same k1
    cases g1 with
      | non n =>
        refine ⟨_, rfl, _, _, _, _, false, rfl, .ty _, ty_non, kit_ty (by decide +kernel), _, rfl, ?_⟩
        refine iteF ?_
        refine ⟨_, rfl, _, _, _, _, false, rfl, .ty _, ty_non, kit_ty (by decide +kernel), _, rfl, ?_⟩
        refine iteF ?_
        have gx := Gd.non (S := S) (m := m) (H := H1) N
        refine ⟨_, rfl, _, rfl, _, _, S, m, rfl, Nat.le_succ_of_le hm1, .inl ⟨rfl, gx⟩, fun H2 k2 => ?_⟩
        exact q _ (fun b o _ e => k2 _ _ (k1 _ _ e)) ((gx.same k2).mono (Nat.le_succ m) (fun _ r => r) (fun _ _ _ r => r) _ (Nat.le_refl _))
      | bl n b =>
        refine ⟨_, rfl, _, _, _, _, false, rfl, .ty _, ty_bl b, kit_ty (by decide +kernel), _, rfl, ?_⟩
        refine iteF ?_
        refine ⟨_, rfl, _, _, _, _, false, rfl, .ty _, ty_bl b, kit_ty (by decide +kernel), _, rfl, ?_⟩
        refine iteF ?_
        have gx := Gd.bl (S := S) (m := m) (H := H1) N b
        refine ⟨_, rfl, _, rfl, _, _, S, m, rfl, Nat.le_succ_of_le hm1, .inl ⟨rfl, gx⟩, fun H2 k2 => ?_⟩
        exact q _ (fun b o _ e => k2 _ _ (k1 _ _ e)) ((gx.same k2).mono (Nat.le_succ m) (fun _ r => r) (fun _ _ _ r => r) _ (Nat.le_refl _))
      | int n i =>
        refine ⟨_, rfl, _, _, _, _, false, rfl, .ty _, ty_int i, kit_ty (by decide +kernel), _, rfl, ?_⟩
        refine iteF ?_
        refine ⟨_, rfl, _, _, _, _, false, rfl, .ty _, ty_int i, kit_ty (by decide +kernel), _, rfl, ?_⟩
        refine iteF ?_
        have gx := Gd.int (S := S) (m := m) (H := H1) N i
        refine ⟨_, rfl, _, rfl, _, _, S, m, rfl, Nat.le_succ_of_le hm1, .inl ⟨rfl, gx⟩, fun H2 k2 => ?_⟩
        exact q _ (fun b o _ e => k2 _ _ (k1 _ _ e)) ((gx.same k2).mono (Nat.le_succ m) (fun _ r => r) (fun _ _ _ r => r) _ (Nat.le_refl _))
      | str n z =>
        refine ⟨_, rfl, _, _, _, _, false, rfl, .ty _, ty_str z, kit_ty (by decide +kernel), _, rfl, ?_⟩
        refine iteF ?_
        refine ⟨_, rfl, _, _, _, _, false, rfl, .ty _, ty_str z, kit_ty (by decide +kernel), _, rfl, ?_⟩
        refine iteF ?_
        have gx := Gd.str (S := S) (m := m) (H := H1) N z
        refine ⟨_, rfl, _, rfl, _, _, S, m, rfl, Nat.le_succ_of_le hm1, .inl ⟨rfl, gx⟩, fun H2 k2 => ?_⟩
        exact q _ (fun b o _ e => k2 _ _ (k1 _ _ e)) ((gx.same k2).mono (Nat.le_succ m) (fun _ r => r) (fun _ _ _ r => r) _ (Nat.le_refl _))
      | tup h1 h2 h3 h4 =>
        refine ⟨_, rfl, _, _, _, _, false, rfl, .ty _, ty_tup h2, kit_ty (by decide +kernel), _, rfl, ?_⟩
        refine iteF ?_
        refine ⟨_, rfl, _, _, _, _, false, rfl, .ty _, ty_tup h2, kit_ty (by decide +kernel), _, rfl, ?_⟩
        refine iteF ?_
        have gx := Gd.tup h1 h2 h3 h4
        refine ⟨_, rfl, _, rfl, _, _, S, m, rfl, Nat.le_succ_of_le hm1, .inl ⟨rfl, gx⟩, fun H2 k2 => ?_⟩
        exact q _ (fun b o _ e => k2 _ _ (k1 _ _ e)) ((gx.same k2).mono (Nat.le_succ m) (fun _ r => r) (fun _ _ _ r => r) _ (Nat.le_refl _))
      | @lst n a xs h1 h2 h3 h4 =>
        refine ⟨_, rfl, _, _, _, _, true, rfl, .ty _, ty_lst h2, kit_ty (by decide +kernel), _, rfl, ?_⟩
        refine iteT ?_
        refine ⟨_, rfl, .inl ⟨rfl, _, SqL.of h2⟩, a, xs, _, rfl, rfl, h2, Nat.lt_of_le_of_lt (Nat.le_trans h3 hm1) (by decide), ?_⟩
        have gx := Gd.grown h1 h2 h3 h4 7
        refine ⟨_, rfl, _, _, _, _, false, rfl, .ty _, ty_lst upd_same, kit_ty (by decide +kernel), _, rfl, ?_⟩
        refine iteF ?_
        refine ⟨_, rfl, _, rfl, _, _, S, m + 1, rfl, by omega, .inl ⟨rfl, gx⟩, fun H2 k2 => ?_⟩
        exact q _ (fun b o hb e => k2 _ _ (by rw [upd_ne (fun z => hb (by rw [z]; exact h1))]; exact k1 _ _ e)) (gx.same k2)
      | @dct n a kvs h1 h2 h3 h4 h5 h6 =>
        refine ⟨_, rfl, _, _, _, _, false, rfl, .ty _, ty_dct h2, kit_ty (by decide +kernel), _, rfl, ?_⟩
        refine iteF ?_
        refine ⟨_, rfl, _, _, _, _, true, rfl, .ty _, ty_dct h2, kit_ty (by decide +kernel), _, rfl, ?_⟩
        refine iteT ?_
        refine ⟨_, rfl, a, _, rfl, DPut.k (k := Sum.inr "z") h2 (Nat.lt_of_le_of_lt (Nat.le_trans h3 hm1) (by decide)), ?_⟩
        have gx := Gd.put h1 h2 h3 h4 h5 h6 "z" 7
        refine ⟨_, rfl, _, rfl, _, _, S, m + 1, rfl, by omega, .inl ⟨rfl, gx⟩, fun H2 k2 => ?_⟩
        exact q _ (fun b o hb e => k2 _ _ (by rw [upd_ne (fun z => hb (by rw [z]; exact h1))]; exact k1 _ _ e)) (gx.same k2)
end
end L2.K9

set_option Elab.async false
set_option linter.all false
set_option maxRecDepth 100000
set_option maxHeartbeats 8000000
/-! _law_value. -/
namespace L2.K9
open PySem PySem.Spec PyProof.Rows L2
abbrev sValue : Stmt := top 67
/-- a new value of some kind; the box is drawn from -/
def spValue : Sp := fun vs H Q _ => ∃ (p : Addr) (n : Int), vs = [.ref p] ∧ n ≤ 90000 ∧ BoxAt H p n ∧ ∀ v H', (∀ b o, b ≠ p → H b = some o → H' b = some o) → BoxAt H' p (n + 1) → Gd (fun a => H a = none) 5 H' 4 v → Q v H'
theorem BoxAt.same {H H' : Hp} {p : Addr} {n : Int} (b : BoxAt H p n) (k : Same H H') : BoxAt H' p n := by
  obtain ⟨a, g, c, d, h, r⟩ := b
  exact ⟨a, g, c, d, k _ _ h, r⟩
theorem BoxAt.ne {H : Hp} {p q : Addr} {n : Int} (b : BoxAt H p n) (h : H q = none) : p ≠ q := by
  obtain ⟨a, g, c, d, e, r⟩ := b
  exact ne_of_none e h
/-- a dict that is written once more behind what was laid meanwhile -/
theorem Same.again {H H' : Hp} {p : Addr} {o u : HO} (h : H p = none) (k : Same (L2.upd H p o) H') : Same H (L2.upd H' p u) := fun b w e => by
  have nb := ne_of_none e h
  rw [upd_ne nb]
  exact k _ _ (by rw [upd_ne nb]; exact e)
section
variable {P : Program} {w : World} {K : PySem.W.Frag} {mg : Str → Option Value} {base : Heap}
theorem scValue : FnScope ["box", "values"] ["box"] (defScope sValue) := ⟨rfl, rfl, rfl, by decide +kernel, rfl, by decide +kernel, by decide +kernel⟩
theorem value_fin {H HZ : Hp} {p p1 p2 p3 p4 p5 p6 p7 p8 p9 p10 p11 p12 p13 : Addr} {n : Int} {Q : VK} (k : Same H HZ) (hn : n ≤ 90000) (hbox : BoxAt H p n)
    (n1 : H p1 = none) (n2 : H p2 = none) (n3 : H p3 = none) (n4 : H p4 = none) (n5 : H p5 = none) (n6 : H p6 = none) (n7 : H p7 = none) (n8 : H p8 = none) (n9 : H p9 = none) (n10 : H p10 = none) (n11 : H p11 = none) (n12 : H p12 = none) (n13 : H p13 = none)
    (f1 : HZ p1 = some (.lst [])) (f2 : HZ p2 = some (.lst [.int 2])) (f3 : HZ p3 = some (.lst [.int 1, .ref p2])) (f4 : HZ p4 = some (.tup [])) (f5 : HZ p5 = some (.tup [.str "say", .str "a"])) (f6 : HZ p6 = some (.tup [.int 0, .ref p5]))
    (f7 : HZ p7 = some (.dK [])) (f8 : HZ p8 = some (.dK (mergeK [] [(.inr "p", .str "ab"), (.inr "q", .ref p9)]))) (f9 : HZ p9 = some (.tup [])) (f10 : HZ p10 = some (.dK (mergeK [] [(.inr "p", .bl true)]))) (f11 : HZ p11 = some (.lst [.int 2, .ref p10]))
    (f12 : HZ p12 = some (.tup [.int 1, .ref p11])) (f13 : HZ p13 = some (.lst [.non, .bl true, .bl false, .int 0, .int (-7), .int (10 ^ (29 : Int).toNat), .str "", .str "abba", .ref p1, .ref p3, .ref p4, .ref p6, .ref p7, .ref p8, .str "let page a", .ref p12]))
    (q : ∀ v H', (∀ b o, b ≠ p → H b = some o → H' b = some o) → BoxAt H' p (n + 1) → Gd (fun a => H a = none) 5 H' 4 v → Q v H') :
    tRet (tCall (spCopy 5) [] E0 (tCons (tOp (rIxL K) (tVar 1) (tCall spTake [] E0 (tCons (tVar 0) (tCons (tC (.int 16)) tNil)))) tNil)) { nx := fun _ H' => Q .non H', rt := Q } [some (.ref p), some (.ref p13)] HZ := by
  have e8 : mergeK [] [((.inr "p" : Key), V.str "ab"), (.inr "q", .ref p9)] = [(.inr "p", V.str "ab"), (.inr "q", .ref p9)] := mergeK_new (acc := []) (by show ([.inr "p", .inr "q"] : List Key).Nodup; decide +kernel)
  have e10 : mergeK [] [((.inr "p" : Key), V.bl true)] = [(.inr "p", V.bl true)] := mergeK_new (acc := []) (by decide +kernel)
  rw [e8] at f8
  rw [e10] at f10
  refine ⟨_, rfl, _, rfl, p, 16, n, rfl, by decide, by decide, by omega, hbox.same k, fun r H1 r0 r1 hb1 k1 => ?_⟩
  have z : ∀ {b o}, H b = none → HZ b = some o → H1 b = some o := fun {b o} nb e => k1 b o (Ne.symm (hbox.ne nb)) e
  obtain ⟨j, rfl⟩ : ∃ j : Nat, r = j := ⟨r.toNat, by omega⟩
  have hj : j < 16 := by omega
  obtain ⟨v, hv⟩ : ∃ v, ([.non, .bl true, .bl false, .int 0, .int (-7), .int (10 ^ (29 : Int).toNat), .str "", .str "abba", .ref p1, .ref p3, .ref p4, .ref p6, .ref p7, .ref p8, .str "let page a", .ref p12] : List V)[j]? = some v := ⟨_, List.getElem?_eq_getElem hj⟩
  have g : Gd (fun a => H a = none) 5 H1 4 v := by
    have c2 : Gd (fun a => H a = none) 5 H1 3 (.ref p2) := .lst n2 (z n2 f2) (by decide) fun y hy => by
      have e : y = .int 2 := by simpa using hy
      rw [e]
      exact .int _ _
    have c5 : Gd (fun a => H a = none) 5 H1 3 (.ref p5) := .tup n5 (z n5 f5) (by decide) fun y hy => by
      have e : y = .str "say" ∨ y = .str "a" := by simpa using hy
      rcases e with e | e <;> rw [e] <;> exact .str _ _
    have c9 : Gd (fun a => H a = none) 5 H1 3 (.ref p9) := .tup n9 (z n9 f9) (by decide) fun y hy => by cases hy
    have c10 : Gd (fun a => H a = none) 5 H1 2 (.ref p10) := .dct n10 (z n10 f10) (by decide) (by decide +kernel) (fun y hy => ⟨"p", by
      have e : y = (.inr "p", .bl true) := by simpa using hy
      rw [e]⟩) fun y hy => by
      have e : y = (.inr "p", .bl true) := by simpa using hy
      rw [e]
      exact .bl _ _
    have c11 : Gd (fun a => H a = none) 5 H1 3 (.ref p11) := .lst n11 (z n11 f11) (by show 2 ≤ 5; omega) fun y hy => by
      have e : y = .int 2 ∨ y = .ref p10 := by simpa using hy
      rcases e with e | e
      · rw [e]
        exact .int _ _
      · rw [e]
        exact c10
    match j, hj, hv with
    | 0, _, hv => cases hv; exact .non _
    | 1, _, hv => cases hv; exact .bl _ _
    | 2, _, hv => cases hv; exact .bl _ _
    | 3, _, hv => cases hv; exact .int _ _
    | 4, _, hv => cases hv; exact .int _ _
    | 5, _, hv => cases hv; exact .int _ _
    | 6, _, hv => cases hv; exact .str _ _
    | 7, _, hv => cases hv; exact .str _ _
    | 8, _, hv => cases hv; exact .lst n1 (z n1 f1) (by decide) fun y hy => by cases hy
    | 9, _, hv =>
      cases hv
      exact .lst n3 (z n3 f3) (by show 2 ≤ 5; omega) fun y hy => by
        have e : y = .int 1 ∨ y = .ref p2 := by simpa using hy
        rcases e with e | e
        · rw [e]
          exact .int _ _
        · rw [e]
          exact c2
    | 10, _, hv => cases hv; exact .tup n4 (z n4 f4) (by decide) fun y hy => by cases hy
    | 11, _, hv =>
      cases hv
      exact .tup n6 (z n6 f6) (by show 2 ≤ 5; omega) fun y hy => by
        have e : y = .int 0 ∨ y = .ref p5 := by simpa using hy
        rcases e with e | e
        · rw [e]
          exact .int _ _
        · rw [e]
          exact c5
    | 12, _, hv => cases hv; exact .dct n7 (z n7 f7) (by decide) (by simp) (fun y hy => by cases hy) fun y hy => by cases hy
    | 13, _, hv =>
      cases hv
      have two : ∀ y ∈ [((.inr "p" : Key), V.str "ab"), (.inr "q", .ref p9)], y = (.inr "p", V.str "ab") ∨ y = (.inr "q", V.ref p9) := fun y hy => by simpa using hy
      exact .dct n8 (z n8 f8) (by show 2 ≤ 5; omega) (by show ([.inr "p", .inr "q"] : List Key).Nodup; decide +kernel) (fun y hy => by
        rcases two y hy with e | e
        · exact ⟨"p", by rw [e]⟩
        · exact ⟨"q", by rw [e]⟩) fun y hy => by
        rcases two y hy with e | e
        · rw [e]
          exact .str _ _
        · rw [e]
          exact c9
    | 14, _, hv => cases hv; exact .str _ _
    | 15, _, hv =>
      cases hv
      exact .tup n12 (z n12 f12) (by show 2 ≤ 5; omega) fun y hy => by
        have e : y = .int 1 ∨ y = .ref p11 := by simpa using hy
        rcases e with e | e
        · rw [e]
          exact .int _ _
        · rw [e]
          exact c11
    | i + 16, hj, _ => omega
  refine ⟨p13, _, _, v, rfl, rfl, SqL.of (z n13 f13), atI_nat hv, v, fun a => H a = none, 5, rfl, by decide, fun a ha => ?_, g, fun v' H2 k2 g2 => ?_⟩
  · cases e : H a with
    | none => exact e
    | some o =>
      by_cases ea : a = p
      · obtain ⟨_, _, _, _, e1, _⟩ := hb1
        rw [ea, e1] at ha
        cases ha
      · have e2 := k1 a o ea (k a o e)
        rw [ha] at e2
        cases e2
  · exact q v' H2 (fun b o hb e => k2 _ _ (k1 _ _ hb (k _ _ e))) (hb1.same k2) g2
theorem ok_value {f fC fT : Addr} {fd fdC fdT : FuncData} (F : Fun K "_law_value" "_law_value" sValue f fd) (G : GL mg) (FC : Fun K "_law_copy" "_law_copy" sCopy fC fdC) (mgC : mg "_law_copy" = some (.ref fC)) (bC : Binds K fdC ["value"] [])
    (FT : Fun K "_law_take" "_law_take" sTake fT fdT) (mgT : mg "_law_take" = some (.ref fT)) (bT : Binds K fdT ["box", "many"] []) : FnOk P w K mg base CX0 7 f fd ["box"] spValue := by
  have GC : FnOk P w K mg base CX0 6 fC fdC ["value"] (spCopy 5) := ok_copy FC G mgC bC 5
  have GT : FnOk P w K mg base CX0 1 fT fdT ["box", "many"] spTake := ok_take FT G
  refine F.ok scValue (fun vs H Q E h => ?_) (fun cdv A outer s H vs Q E hr h => ?_)
  · obtain ⟨p, n, rfl, _⟩ := h
    rfl
  · have hr1 : Room 1 _ := hr.mono (by decide)
    refine ⟨_, (pss_cons (ps_set (i := 1) scValue.nd rfl (Or.inl rfl) (pe_lst (pa_cons pe_non (pa_cons pe_bl (pa_cons pe_bl (pa_cons pe_int (pa_cons (pe_un un_neg pe_int) (pa_cons (pe_op op_pow pe_int pe_int) (pa_cons pe_str (pa_cons pe_str (pa_cons (pe_lst pa_nil) (pa_cons (pe_lst (pa_cons pe_int (pa_cons (pe_lst (pa_cons pe_int pa_nil)) pa_nil))) (pa_cons (pe_tup pa_nil) (pa_cons (pe_tup (pa_cons pe_int (pa_cons (pe_tup (pa_cons pe_str (pa_cons pe_str pa_nil))) pa_nil))) (pa_cons pe_dnewK (pa_cons (pe_disp (pps_cons pe_str pe_str (pps_cons pe_str (pe_tup pa_nil) pps_nil)) (by rfl) (by rfl) (fun z => by cases z) (by decide)) (pa_cons pe_str (pa_cons (pe_tup (pa_cons pe_int (pa_cons (pe_lst (pa_cons pe_int (pa_cons (pe_disp (pps_cons pe_str pe_bl pps_nil) (by rfl) (by rfl) (fun z => by cases z) (by decide)) pa_nil))) pa_nil))) pa_nil))))))))))))))))))
      (pss_one (ps_ret (by exact pe_call GC hr (by rfl) mgC FC.kp bC .nil pass0 (pa_cons (pe_ix ix_list (pv 1) (by exact pe_call GT hr1 (by rfl) mgT FT.kp bT .nil pass0 (pa_cons (pv 0) (pa_cons pe_int pa_nil))) (fun _ _ => rfl)) pa_nil))))), ?_⟩
    obtain ⟨p, n, rfl, hn, hbox, q⟩ := h
    refine ⟨7, rfl, 10, 29, rfl, rfl, ⟨by decide, by decide, by decide⟩, ?_⟩
    refine ⟨Nat.zero_le _, fun p1 h1 => ?_⟩
    have k1 := Same.upd (o := .lst []) h1
    refine ⟨(by show 1 ≤ sizeLine; decide), fun p2 h2 => ⟨(by show 2 ≤ sizeLine; decide), fun p3 h3 => ?_⟩⟩
    have k2 := Same.upd (o := .lst [.int 2]) h2
    have k3 := Same.upd (o := .lst [.int 1, .ref p2]) h3
    refine ⟨Nat.zero_le _, fun p4 h4 => ?_⟩
    have k4 := Same.upd (o := .tup []) h4
    refine ⟨(by show 2 ≤ sizeLine; decide), fun p5 h5 => ⟨(by show 2 ≤ sizeLine; decide), fun p6 h6 => ?_⟩⟩
    have k5 := Same.upd (o := .tup [.str "say", .str "a"]) h5
    have k6 := Same.upd (o := .tup [.int 0, .ref p5]) h6
    refine fun p7 h7 => ?_
    have k7 := Same.upd (o := .dK []) h7
    refine fun p8 h8 => ⟨Nat.zero_le _, fun p9 h9 => ?_⟩
    have k9 := Same.upd (o := .tup []) h9
    have e98 := k9 _ _ (upd_same (a := p8) (o := .dK []))
    have n98 : p9 ≠ p8 := fun z => by
      rw [z, upd_same] at h9
      cases h9
    refine ⟨e98, [(.inr "p", .str "ab"), (.inr "q", .ref p9)], rfl, (by show 2 ≤ 15; decide), ?_⟩
    have k8 := Same.again (u := .dK (mergeK [] [(.inr "p", .str "ab"), (.inr "q", .ref p9)])) h8 k9
    refine fun p10 h10 => ?_
    refine ⟨upd_same, [(.inr "p", .bl true)], rfl, (by show 1 ≤ 15; decide), ?_⟩
    have k10 := Same.again (u := .dK (mergeK [] [(.inr "p", .bl true)])) h10 (Same.refl (upd _ p10 (.dK [])))
    refine ⟨(by show 2 ≤ sizeLine; decide), fun p11 h11 => ⟨(by show 2 ≤ sizeLine; decide), fun p12 h12 => ?_⟩⟩
    have k11 := Same.upd (o := .lst [.int 2, .ref p10]) h11
    have k12 := Same.upd (o := .tup [.int 1, .ref p11]) h12
    refine ⟨(by show 16 ≤ sizeLine; decide), fun p13 h13 => ?_⟩
    have k13 := Same.upd (o := .lst [.non, .bl true, .bl false, .int 0, .int (-7), .int (10 ^ (29 : Int).toNat), .str "", .str "abba", .ref p1, .ref p3, .ref p4, .ref p6, .ref p7, .ref p8, .str "let page a", .ref p12]) h13
    have j12 := k12.trans k13
    have j11 := k11.trans j12
    have j10 := k10.trans j11
    have j8 := k8.trans j10
    have j7 := k7.trans j8
    have j6 := k6.trans j7
    have j5 := k5.trans j6
    have j4 := k4.trans j5
    have j3 := k3.trans j4
    have j2 := k2.trans j3
    have j1 := k1.trans j2
    have f1 := j2 _ _ (upd_same (a := p1) (o := .lst []))
    have f2 := j3 _ _ (upd_same (a := p2) (o := .lst [.int 2]))
    have f3 := j4 _ _ (upd_same (a := p3) (o := .lst [.int 1, .ref p2]))
    have f4 := j5 _ _ (upd_same (a := p4) (o := .tup []))
    have f5 := j6 _ _ (upd_same (a := p5) (o := .tup [.str "say", .str "a"]))
    have f6 := j7 _ _ (upd_same (a := p6) (o := .tup [.int 0, .ref p5]))
    have f7 := j8 _ _ (upd_same (a := p7) (o := .dK []))
    have f8 := j10 _ _ (upd_same (a := p8) (o := .dK (mergeK [] [(.inr "p", .str "ab"), (.inr "q", .ref p9)])))
    have f9 := j10 _ _ ((upd_ne n98).trans (upd_same (a := p9) (o := .tup [])))
    have f10 := j11 _ _ (upd_same (a := p10) (o := .dK (mergeK [] [(.inr "p", .bl true)])))
    have f11 := j12 _ _ (upd_same (a := p11) (o := .lst [.int 2, .ref p10]))
    have f12 := k13 _ _ (upd_same (a := p12) (o := .tup [.int 1, .ref p11]))
    have m3 := k1.trans k2
    have m4 := m3.trans k3
    have m5 := m4.trans k4
    have m6 := m5.trans k5
    have m7 := m6.trans k6
    have m8 := m7.trans k7
    have m9 := m8.trans (Same.upd (o := .dK []) h8)
    have m10 := m8.trans k8
    have m11 := m10.trans k10
    have m12 := m11.trans k11
    exact value_fin (k1.trans j2) hn hbox h1 (k1.free h2) (m3.free h3) (m4.free h4) (m5.free h5) (m6.free h6) (m7.free h7) (m8.free h8) (m9.free h9) (m10.free h10) (m11.free h11) (m12.free h12) ((m12.trans k12).free h13) f1 f2 f3 f4 f5 f6 f7 f8 f9 f10 f11 f12 upd_same q
end
end L2.K9

set_option Elab.async false
set_option linter.all false
set_option maxRecDepth 100000
set_option maxHeartbeats 8000000
/-! The 57 classes as a family; _law_is, _law_fields. -/
namespace L2.K9
open PySem PySem.Spec PyProof.Rows L2
/-- the classes by number, with the attributes that their __init__ stores -/
def CN : List (Str × List Str) :=
  ("InvalidAdded", ["given"]) ::
  ("InvalidBox", ["given"]) ::
  ("InvalidChain", ["given"]) ::
  ("InvalidCode", ["given"]) ::
  ("InvalidCodes", ["given"]) ::
  ("InvalidConfiguration", ["given"]) ::
  ("InvalidConfigurations", ["given"]) ::
  ("InvalidCuts", ["given"]) ::
  ("InvalidEnds", ["given"]) ::
  ("InvalidEscaper", ["given"]) ::
  ("InvalidEvent", ["given"]) ::
  ("InvalidEvents", ["given"]) ::
  ("InvalidFilling", ["given"]) ::
  ("InvalidIndex", ["given"]) ::
  ("InvalidInstructions", ["given"]) ::
  ("InvalidItems", ["given"]) ::
  ("InvalidKinds", ["given"]) ::
  ("InvalidLine", ["given"]) ::
  ("InvalidLines", ["given"]) ::
  ("InvalidMoves", ["given"]) ::
  ("InvalidNumber", ["given"]) ::
  ("InvalidOther", ["given"]) ::
  ("InvalidPieces", ["given"]) ::
  ("InvalidPlace", ["given"]) ::
  ("InvalidReader", ["given"]) ::
  ("InvalidReaders", ["given"]) ::
  ("InvalidRoads", ["given"]) ::
  ("InvalidRoute", ["given"]) ::
  ("InvalidRows", ["given"]) ::
  ("InvalidSign", ["given"]) ::
  ("InvalidState", ["given"]) ::
  ("InvalidString", ["given"]) ::
  ("InvalidText", ["given"]) ::
  ("InvalidTriple", ["given"]) ::
  ("InvalidTriples", ["given"]) ::
  ("InvalidTruths", ["given"]) ::
  ("InvalidWithin", ["given"]) ::
  ("InvalidWord", ["given"]) ::
  ("InvalidClaim", ["index"]) ::
  ("InvalidRecord", ["index"]) ::
  ("BreaksOut", ["filling"]) ::
  ("Mixed", ["state", "sign"]) ::
  ("NoChains", []) ::
  ("NotAtEnd", []) ::
  ("NothingToRedo", []) ::
  ("NothingToUndo", []) ::
  ("NotOneHole", ["count"]) ::
  ("NotRead", ["count"]) ::
  ("OtherSigns", ["one", "other"]) ::
  ("Refused", ["line"]) ::
  ("TakenName", ["name"]) ::
  ("TooLong", ["count"]) ::
  ("TooMany", ["count"]) ::
  ("TwiceNamed", ["name"]) ::
  ("Unfit", ["filling", "place"]) ::
  ("UnknownName", ["name"]) ::
  ("Unreached", ["state"]) :: []
theorem CN_len : CN.length = 57 := rfl
structure Fam (P : Program) (w : World) (K : PySem.W.Frag) (mg : Str → Option Value) (base : Heap) (C : Nat → Addr) (C0 : Addr) : Prop where
  z : CI K mg C0
  x0 : XC K C0 []
  n0 : (PySem.W.clsIn K C0).map (·.name) = some "ChainError"
  c : ∀ (k : Nat) (x : Str) (fl : List Str), CN[k]? = some (x, fl) → ∃ fI fd, XF P w K mg base x fl (C k) C0 fI fd
section
variable {P : Program} {w : World} {K : PySem.W.Frag} {mg : Str → Option Value} {base : Heap} {C : Nat → Addr} {C0 : Addr}
theorem Fam.xc (Z : Fam P w K mg base C C0) {k : Nat} (h : k < 57) : XC K (C k) [C0] := by
  have hk : k < CN.length := h
  obtain ⟨fI, fd, F⟩ := Z.c k CN[k].1 CN[k].2 (List.getElem?_eq_getElem hk)
  exact F.m.xc
theorem Fam.gl (Z : Fam P w K mg base C C0) (k : Nat) {x : Str} {fl : List Str} (h : CN[k]? = some (x, fl) := by rfl) : mg x = some (.ref (C k)) := by
  obtain ⟨fI, fd, F⟩ := Z.c k x fl h
  exact F.m.mgC
theorem CN_names : (CN.map (·.1)).Nodup := by decide +kernel
theorem CN_no : ∀ p ∈ CN, p.1 ≠ "ChainError" := by decide +kernel
theorem Fam.inj (Z : Fam P w K mg base C C0) {i j : Nat} (hi : i < 57) (hj : j < 57) (e : C i = C j) : i = j := by
  have hi' : i < CN.length := hi
  have hj' : j < CN.length := hj
  obtain ⟨_, _, F⟩ := Z.c i CN[i].1 CN[i].2 (List.getElem?_eq_getElem hi')
  obtain ⟨_, _, F'⟩ := Z.c j CN[j].1 CN[j].2 (List.getElem?_eq_getElem hj')
  have h1 := F.nm
  rw [e, F'.nm] at h1
  have h2 : CN[j].1 = CN[i].1 := Option.some.inj h1
  have a1 : (CN.map (·.1))[i]? = some CN[i].1 := by rw [List.getElem?_map, List.getElem?_eq_getElem hi']; rfl
  have a2 : (CN.map (·.1))[j]? = some CN[i].1 := by rw [List.getElem?_map, List.getElem?_eq_getElem hj', ← h2]; rfl
  exact nodup_ix CN_names a1 a2
theorem Fam.ne0 (Z : Fam P w K mg base C C0) {i : Nat} (hi : i < 57) : C0 ≠ C i := fun e => by
  have hi' : i < CN.length := hi
  obtain ⟨_, _, F⟩ := Z.c i CN[i].1 CN[i].2 (List.getElem?_eq_getElem hi')
  have h1 := F.nm
  rw [← e, Z.n0] at h1
  exact CN_no _ (List.getElem_mem hi') (Option.some.inj h1).symm
theorem Fam.is (Z : Fam P w K mg base C C0) {i k : Nat} (hi : i < 57) (hk : k < 57) : [C k, C0].contains (C i) = decide (i = k) := by
  by_cases h : i = k
  · subst h
    simp
  · rw [decide_eq_false h]
    have n1 : ¬ (C i = C k) := fun e => h (Z.inj hi hk e)
    have n2 : ¬ (C i = C0) := fun e => Z.ne0 hi e.symm
    simp [n1, n2]
/-! ### _law_is -/
abbrev sIs : Stmt := top 71
def tIsi (K : PySem.W.Frag) (c : Addr) : TE := tCB (rIsX K) (tCons (tVar 0) (tCons (tC (.ref c)) tNil))
def tIsA (K : PySem.W.Frag) : List Addr → TA
  | [] => tNil
  | c :: r => tCons (tIsi K c) (tIsA K r)
theorem isA_run {σ : L2.St} {H : Hp} {e c : Addr} {fs : List (Str × V)} {b : Bool} {up : List Addr} (h0 : σ[0]? = some (some (.ref e))) (x : ExAt H e c fs b) (T : XC K c up) : ∀ {cs : List Addr} {Q : List V → Hp → Prop}, (∀ d ∈ cs, ∃ up', XC K d up') →
    Q (cs.map fun d => .bl ((c :: up).contains d)) H → tIsA K cs σ H Q
  | [], _, _, q => q
  | d :: r, Q, hc, q => by
    obtain ⟨up', T'⟩ := hc d List.mem_cons_self
    refine ⟨_, h0, e, c, fs, b, up, _, _, _, rfl, x, T, .own d, T.kit T', ?_⟩
    exact isA_run h0 x T (fun d' h => hc d' (List.mem_cons_of_mem _ h)) q
/-- so many are asked, the answers stand at l -/
def IsAt (H0 H : Hp) (l : Addr) (k n : Nat) : Prop := Same H0 H ∧ H l = some (.lst ((List.range n).map fun i => .bl (decide (i = k))))
theorem isS_run (Z : Fam P w K mg base C C0) {H0 H : Hp} {e l : Addr} {k n m : Nat} {fs : List (Str × V)} {b : Bool} {D : Ends} (hm : n + m ≤ 57) (hk : k < 57) (x : ExAt H0 e (C k) fs b) (hl : H0 l = none) (I : IsAt H0 H l k n)
    (q : ∀ H', IsAt H0 H' l k (n + m) → D.nx [some (.ref e), some (.ref l)] H') :
    tDrop (tBM K "list" rExtend (tVar 1) (tCons (tLst (tIsA K ((List.range' n m).map C))) tNil)) D [some (.ref e), some (.ref l)] H := by
  obtain ⟨k0, hL⟩ := I
  refine ⟨_, rfl, .inl ⟨rfl, _, SqL.of hL⟩, ?_⟩
  refine isA_run rfl (x.same k0) (Z.xc hk) (fun d hd => ?_) ⟨?_, fun p hp => ?_⟩
  · obtain ⟨i, hi, rfl⟩ := List.mem_map.mp hd
    have := (List.mem_range'_1.mp hi).2
    exact ⟨_, Z.xc (by omega)⟩
  · rw [List.length_map, List.length_map, List.length_range']
    exact Nat.le_trans (by omega : m ≤ 57) (by decide)
  · have hp' := Same.upd (o := .lst (((List.range' n m).map C).map fun d => V.bl ([C k, C0].contains d))) hp
    refine ⟨l, p, _, _, rfl, rfl, hp' _ _ hL, upd_same, ?_, ?_⟩
    · simp only [List.length_map, List.length_range, List.length_range']
      exact Nat.le_trans hm (by decide)
    · refine q _ ⟨fun c o h => ?_, ?_⟩
      · have nl : c ≠ l := ne_of_none h hl
        rw [upd_ne nl]
        exact hp' _ _ (k0 _ _ h)
      · rw [upd_same]
        congr 2
        rw [List.map_map, List.range_eq_range', List.range_eq_range', ← List.range'_append (step := 1), List.map_append, Nat.zero_add, Nat.one_mul]
        congr 1
        refine List.map_congr_left fun i hi => ?_
        have := (List.mem_range'_1.mp hi).2
        show V.bl ([C k, C0].contains (C i)) = _
        rw [Z.is (by omega) hk]
def spIs (C : Nat → Addr) : Sp := fun vs H Q _ => ∃ (e : Addr) (k : Nat) (fs : List (Str × V)) (b : Bool), vs = [.ref e] ∧ k < 57 ∧ ExAt H e (C k) fs b ∧
  ∀ p H', H p = none → Same H H' → H' p = some (.lst ((List.range 57).map fun i => .bl (decide (i = k)))) → Q (.ref p) H'
theorem scIs : FnScope ["error", "found"] ["error"] (defScope sIs) := ⟨rfl, rfl, rfl, by decide +kernel, rfl, by decide +kernel, by decide +kernel⟩
theorem ok_is {f : Addr} {fd : FuncData} (F : Fun K "_law_is" "_law_is" sIs f fd) (G : GL mg) (Z : Fam P w K mg base C C0) : FnOk P w K mg base CX0 1 f fd ["error"] (spIs C) := by
  refine F.ok scIs (fun vs H Q E h => ?_) (fun cdv A outer s H vs Q E hr h => ?_)
  · obtain ⟨e, k, fs, b, rfl, _⟩ := h
    rfl
  · refine ⟨_, (pss_cons (ps_set (i := 1) scIs.nd rfl (Or.inl rfl) (pe_lst pa_nil))
      (pss_cons (ps_expr (pe_bm PySem.F.plainAttrs_list PySem.F.slot_list_extend PySem.F.type_list_extend mt_extend (pv 1) (pa_cons (pe_lst (pa_cons (pe_callB call_isx (by rfl) G.isinstance (by decide +kernel) (pa_cons (pv 0) (pa_cons (pe_glob (v := .ref (C 0)) (by rfl) (Z.gl 0) rfl) pa_nil))) (pa_cons (pe_callB call_isx (by rfl) G.isinstance (by decide +kernel) (pa_cons (pv 0) (pa_cons (pe_glob (v := .ref (C 1)) (by rfl) (Z.gl 1) rfl) pa_nil))) (pa_cons (pe_callB call_isx (by rfl) G.isinstance (by decide +kernel) (pa_cons (pv 0) (pa_cons (pe_glob (v := .ref (C 2)) (by rfl) (Z.gl 2) rfl) pa_nil))) (pa_cons (pe_callB call_isx (by rfl) G.isinstance (by decide +kernel) (pa_cons (pv 0) (pa_cons (pe_glob (v := .ref (C 3)) (by rfl) (Z.gl 3) rfl) pa_nil))) pa_nil))))) pa_nil)))
      (pss_cons (ps_expr (pe_bm PySem.F.plainAttrs_list PySem.F.slot_list_extend PySem.F.type_list_extend mt_extend (pv 1) (pa_cons (pe_lst (pa_cons (pe_callB call_isx (by rfl) G.isinstance (by decide +kernel) (pa_cons (pv 0) (pa_cons (pe_glob (v := .ref (C 4)) (by rfl) (Z.gl 4) rfl) pa_nil))) (pa_cons (pe_callB call_isx (by rfl) G.isinstance (by decide +kernel) (pa_cons (pv 0) (pa_cons (pe_glob (v := .ref (C 5)) (by rfl) (Z.gl 5) rfl) pa_nil))) (pa_cons (pe_callB call_isx (by rfl) G.isinstance (by decide +kernel) (pa_cons (pv 0) (pa_cons (pe_glob (v := .ref (C 6)) (by rfl) (Z.gl 6) rfl) pa_nil))) (pa_cons (pe_callB call_isx (by rfl) G.isinstance (by decide +kernel) (pa_cons (pv 0) (pa_cons (pe_glob (v := .ref (C 7)) (by rfl) (Z.gl 7) rfl) pa_nil))) pa_nil))))) pa_nil)))
      (pss_cons (ps_expr (pe_bm PySem.F.plainAttrs_list PySem.F.slot_list_extend PySem.F.type_list_extend mt_extend (pv 1) (pa_cons (pe_lst (pa_cons (pe_callB call_isx (by rfl) G.isinstance (by decide +kernel) (pa_cons (pv 0) (pa_cons (pe_glob (v := .ref (C 8)) (by rfl) (Z.gl 8) rfl) pa_nil))) (pa_cons (pe_callB call_isx (by rfl) G.isinstance (by decide +kernel) (pa_cons (pv 0) (pa_cons (pe_glob (v := .ref (C 9)) (by rfl) (Z.gl 9) rfl) pa_nil))) (pa_cons (pe_callB call_isx (by rfl) G.isinstance (by decide +kernel) (pa_cons (pv 0) (pa_cons (pe_glob (v := .ref (C 10)) (by rfl) (Z.gl 10) rfl) pa_nil))) (pa_cons (pe_callB call_isx (by rfl) G.isinstance (by decide +kernel) (pa_cons (pv 0) (pa_cons (pe_glob (v := .ref (C 11)) (by rfl) (Z.gl 11) rfl) pa_nil))) pa_nil))))) pa_nil)))
      (pss_cons (ps_expr (pe_bm PySem.F.plainAttrs_list PySem.F.slot_list_extend PySem.F.type_list_extend mt_extend (pv 1) (pa_cons (pe_lst (pa_cons (pe_callB call_isx (by rfl) G.isinstance (by decide +kernel) (pa_cons (pv 0) (pa_cons (pe_glob (v := .ref (C 12)) (by rfl) (Z.gl 12) rfl) pa_nil))) (pa_cons (pe_callB call_isx (by rfl) G.isinstance (by decide +kernel) (pa_cons (pv 0) (pa_cons (pe_glob (v := .ref (C 13)) (by rfl) (Z.gl 13) rfl) pa_nil))) (pa_cons (pe_callB call_isx (by rfl) G.isinstance (by decide +kernel) (pa_cons (pv 0) (pa_cons (pe_glob (v := .ref (C 14)) (by rfl) (Z.gl 14) rfl) pa_nil))) (pa_cons (pe_callB call_isx (by rfl) G.isinstance (by decide +kernel) (pa_cons (pv 0) (pa_cons (pe_glob (v := .ref (C 15)) (by rfl) (Z.gl 15) rfl) pa_nil))) pa_nil))))) pa_nil)))
      (pss_cons (ps_expr (pe_bm PySem.F.plainAttrs_list PySem.F.slot_list_extend PySem.F.type_list_extend mt_extend (pv 1) (pa_cons (pe_lst (pa_cons (pe_callB call_isx (by rfl) G.isinstance (by decide +kernel) (pa_cons (pv 0) (pa_cons (pe_glob (v := .ref (C 16)) (by rfl) (Z.gl 16) rfl) pa_nil))) (pa_cons (pe_callB call_isx (by rfl) G.isinstance (by decide +kernel) (pa_cons (pv 0) (pa_cons (pe_glob (v := .ref (C 17)) (by rfl) (Z.gl 17) rfl) pa_nil))) (pa_cons (pe_callB call_isx (by rfl) G.isinstance (by decide +kernel) (pa_cons (pv 0) (pa_cons (pe_glob (v := .ref (C 18)) (by rfl) (Z.gl 18) rfl) pa_nil))) (pa_cons (pe_callB call_isx (by rfl) G.isinstance (by decide +kernel) (pa_cons (pv 0) (pa_cons (pe_glob (v := .ref (C 19)) (by rfl) (Z.gl 19) rfl) pa_nil))) pa_nil))))) pa_nil)))
      (pss_cons (ps_expr (pe_bm PySem.F.plainAttrs_list PySem.F.slot_list_extend PySem.F.type_list_extend mt_extend (pv 1) (pa_cons (pe_lst (pa_cons (pe_callB call_isx (by rfl) G.isinstance (by decide +kernel) (pa_cons (pv 0) (pa_cons (pe_glob (v := .ref (C 20)) (by rfl) (Z.gl 20) rfl) pa_nil))) (pa_cons (pe_callB call_isx (by rfl) G.isinstance (by decide +kernel) (pa_cons (pv 0) (pa_cons (pe_glob (v := .ref (C 21)) (by rfl) (Z.gl 21) rfl) pa_nil))) (pa_cons (pe_callB call_isx (by rfl) G.isinstance (by decide +kernel) (pa_cons (pv 0) (pa_cons (pe_glob (v := .ref (C 22)) (by rfl) (Z.gl 22) rfl) pa_nil))) (pa_cons (pe_callB call_isx (by rfl) G.isinstance (by decide +kernel) (pa_cons (pv 0) (pa_cons (pe_glob (v := .ref (C 23)) (by rfl) (Z.gl 23) rfl) pa_nil))) pa_nil))))) pa_nil)))
      (pss_cons (ps_expr (pe_bm PySem.F.plainAttrs_list PySem.F.slot_list_extend PySem.F.type_list_extend mt_extend (pv 1) (pa_cons (pe_lst (pa_cons (pe_callB call_isx (by rfl) G.isinstance (by decide +kernel) (pa_cons (pv 0) (pa_cons (pe_glob (v := .ref (C 24)) (by rfl) (Z.gl 24) rfl) pa_nil))) (pa_cons (pe_callB call_isx (by rfl) G.isinstance (by decide +kernel) (pa_cons (pv 0) (pa_cons (pe_glob (v := .ref (C 25)) (by rfl) (Z.gl 25) rfl) pa_nil))) (pa_cons (pe_callB call_isx (by rfl) G.isinstance (by decide +kernel) (pa_cons (pv 0) (pa_cons (pe_glob (v := .ref (C 26)) (by rfl) (Z.gl 26) rfl) pa_nil))) (pa_cons (pe_callB call_isx (by rfl) G.isinstance (by decide +kernel) (pa_cons (pv 0) (pa_cons (pe_glob (v := .ref (C 27)) (by rfl) (Z.gl 27) rfl) pa_nil))) pa_nil))))) pa_nil)))
      (pss_cons (ps_expr (pe_bm PySem.F.plainAttrs_list PySem.F.slot_list_extend PySem.F.type_list_extend mt_extend (pv 1) (pa_cons (pe_lst (pa_cons (pe_callB call_isx (by rfl) G.isinstance (by decide +kernel) (pa_cons (pv 0) (pa_cons (pe_glob (v := .ref (C 28)) (by rfl) (Z.gl 28) rfl) pa_nil))) (pa_cons (pe_callB call_isx (by rfl) G.isinstance (by decide +kernel) (pa_cons (pv 0) (pa_cons (pe_glob (v := .ref (C 29)) (by rfl) (Z.gl 29) rfl) pa_nil))) (pa_cons (pe_callB call_isx (by rfl) G.isinstance (by decide +kernel) (pa_cons (pv 0) (pa_cons (pe_glob (v := .ref (C 30)) (by rfl) (Z.gl 30) rfl) pa_nil))) (pa_cons (pe_callB call_isx (by rfl) G.isinstance (by decide +kernel) (pa_cons (pv 0) (pa_cons (pe_glob (v := .ref (C 31)) (by rfl) (Z.gl 31) rfl) pa_nil))) pa_nil))))) pa_nil)))
      (pss_cons (ps_expr (pe_bm PySem.F.plainAttrs_list PySem.F.slot_list_extend PySem.F.type_list_extend mt_extend (pv 1) (pa_cons (pe_lst (pa_cons (pe_callB call_isx (by rfl) G.isinstance (by decide +kernel) (pa_cons (pv 0) (pa_cons (pe_glob (v := .ref (C 32)) (by rfl) (Z.gl 32) rfl) pa_nil))) (pa_cons (pe_callB call_isx (by rfl) G.isinstance (by decide +kernel) (pa_cons (pv 0) (pa_cons (pe_glob (v := .ref (C 33)) (by rfl) (Z.gl 33) rfl) pa_nil))) (pa_cons (pe_callB call_isx (by rfl) G.isinstance (by decide +kernel) (pa_cons (pv 0) (pa_cons (pe_glob (v := .ref (C 34)) (by rfl) (Z.gl 34) rfl) pa_nil))) (pa_cons (pe_callB call_isx (by rfl) G.isinstance (by decide +kernel) (pa_cons (pv 0) (pa_cons (pe_glob (v := .ref (C 35)) (by rfl) (Z.gl 35) rfl) pa_nil))) pa_nil))))) pa_nil)))
      (pss_cons (ps_expr (pe_bm PySem.F.plainAttrs_list PySem.F.slot_list_extend PySem.F.type_list_extend mt_extend (pv 1) (pa_cons (pe_lst (pa_cons (pe_callB call_isx (by rfl) G.isinstance (by decide +kernel) (pa_cons (pv 0) (pa_cons (pe_glob (v := .ref (C 36)) (by rfl) (Z.gl 36) rfl) pa_nil))) (pa_cons (pe_callB call_isx (by rfl) G.isinstance (by decide +kernel) (pa_cons (pv 0) (pa_cons (pe_glob (v := .ref (C 37)) (by rfl) (Z.gl 37) rfl) pa_nil))) (pa_cons (pe_callB call_isx (by rfl) G.isinstance (by decide +kernel) (pa_cons (pv 0) (pa_cons (pe_glob (v := .ref (C 38)) (by rfl) (Z.gl 38) rfl) pa_nil))) (pa_cons (pe_callB call_isx (by rfl) G.isinstance (by decide +kernel) (pa_cons (pv 0) (pa_cons (pe_glob (v := .ref (C 39)) (by rfl) (Z.gl 39) rfl) pa_nil))) pa_nil))))) pa_nil)))
      (pss_cons (ps_expr (pe_bm PySem.F.plainAttrs_list PySem.F.slot_list_extend PySem.F.type_list_extend mt_extend (pv 1) (pa_cons (pe_lst (pa_cons (pe_callB call_isx (by rfl) G.isinstance (by decide +kernel) (pa_cons (pv 0) (pa_cons (pe_glob (v := .ref (C 40)) (by rfl) (Z.gl 40) rfl) pa_nil))) (pa_cons (pe_callB call_isx (by rfl) G.isinstance (by decide +kernel) (pa_cons (pv 0) (pa_cons (pe_glob (v := .ref (C 41)) (by rfl) (Z.gl 41) rfl) pa_nil))) (pa_cons (pe_callB call_isx (by rfl) G.isinstance (by decide +kernel) (pa_cons (pv 0) (pa_cons (pe_glob (v := .ref (C 42)) (by rfl) (Z.gl 42) rfl) pa_nil))) (pa_cons (pe_callB call_isx (by rfl) G.isinstance (by decide +kernel) (pa_cons (pv 0) (pa_cons (pe_glob (v := .ref (C 43)) (by rfl) (Z.gl 43) rfl) pa_nil))) pa_nil))))) pa_nil)))
      (pss_cons (ps_expr (pe_bm PySem.F.plainAttrs_list PySem.F.slot_list_extend PySem.F.type_list_extend mt_extend (pv 1) (pa_cons (pe_lst (pa_cons (pe_callB call_isx (by rfl) G.isinstance (by decide +kernel) (pa_cons (pv 0) (pa_cons (pe_glob (v := .ref (C 44)) (by rfl) (Z.gl 44) rfl) pa_nil))) (pa_cons (pe_callB call_isx (by rfl) G.isinstance (by decide +kernel) (pa_cons (pv 0) (pa_cons (pe_glob (v := .ref (C 45)) (by rfl) (Z.gl 45) rfl) pa_nil))) (pa_cons (pe_callB call_isx (by rfl) G.isinstance (by decide +kernel) (pa_cons (pv 0) (pa_cons (pe_glob (v := .ref (C 46)) (by rfl) (Z.gl 46) rfl) pa_nil))) (pa_cons (pe_callB call_isx (by rfl) G.isinstance (by decide +kernel) (pa_cons (pv 0) (pa_cons (pe_glob (v := .ref (C 47)) (by rfl) (Z.gl 47) rfl) pa_nil))) pa_nil))))) pa_nil)))
      (pss_cons (ps_expr (pe_bm PySem.F.plainAttrs_list PySem.F.slot_list_extend PySem.F.type_list_extend mt_extend (pv 1) (pa_cons (pe_lst (pa_cons (pe_callB call_isx (by rfl) G.isinstance (by decide +kernel) (pa_cons (pv 0) (pa_cons (pe_glob (v := .ref (C 48)) (by rfl) (Z.gl 48) rfl) pa_nil))) (pa_cons (pe_callB call_isx (by rfl) G.isinstance (by decide +kernel) (pa_cons (pv 0) (pa_cons (pe_glob (v := .ref (C 49)) (by rfl) (Z.gl 49) rfl) pa_nil))) (pa_cons (pe_callB call_isx (by rfl) G.isinstance (by decide +kernel) (pa_cons (pv 0) (pa_cons (pe_glob (v := .ref (C 50)) (by rfl) (Z.gl 50) rfl) pa_nil))) (pa_cons (pe_callB call_isx (by rfl) G.isinstance (by decide +kernel) (pa_cons (pv 0) (pa_cons (pe_glob (v := .ref (C 51)) (by rfl) (Z.gl 51) rfl) pa_nil))) pa_nil))))) pa_nil)))
      (pss_cons (ps_expr (pe_bm PySem.F.plainAttrs_list PySem.F.slot_list_extend PySem.F.type_list_extend mt_extend (pv 1) (pa_cons (pe_lst (pa_cons (pe_callB call_isx (by rfl) G.isinstance (by decide +kernel) (pa_cons (pv 0) (pa_cons (pe_glob (v := .ref (C 52)) (by rfl) (Z.gl 52) rfl) pa_nil))) (pa_cons (pe_callB call_isx (by rfl) G.isinstance (by decide +kernel) (pa_cons (pv 0) (pa_cons (pe_glob (v := .ref (C 53)) (by rfl) (Z.gl 53) rfl) pa_nil))) (pa_cons (pe_callB call_isx (by rfl) G.isinstance (by decide +kernel) (pa_cons (pv 0) (pa_cons (pe_glob (v := .ref (C 54)) (by rfl) (Z.gl 54) rfl) pa_nil))) (pa_cons (pe_callB call_isx (by rfl) G.isinstance (by decide +kernel) (pa_cons (pv 0) (pa_cons (pe_glob (v := .ref (C 55)) (by rfl) (Z.gl 55) rfl) pa_nil))) pa_nil))))) pa_nil)))
      (pss_cons (ps_expr (pe_bm PySem.F.plainAttrs_list PySem.F.slot_list_extend PySem.F.type_list_extend mt_extend (pv 1) (pa_cons (pe_lst (pa_cons (pe_callB call_isx (by rfl) G.isinstance (by decide +kernel) (pa_cons (pv 0) (pa_cons (pe_glob (v := .ref (C 56)) (by rfl) (Z.gl 56) rfl) pa_nil))) pa_nil)) pa_nil)))
      (pss_one (ps_ret (pv 1))))))))))))))))))), ?_⟩
    obtain ⟨e, k, fs, b, rfl, hk, x, q⟩ := h
    refine ⟨Nat.zero_le _, fun l hl => ?_⟩
    have I0 : IsAt H (upd H l (.lst [])) l k 0 := ⟨Same.upd hl, upd_same⟩
    refine isS_run (n := 0) (m := 4) Z (by decide) hk x hl I0 fun H1 I1 => ?_
    refine isS_run (n := 4) (m := 4) Z (by decide) hk x hl I1 fun H2 I2 => ?_
    refine isS_run (n := 8) (m := 4) Z (by decide) hk x hl I2 fun H3 I3 => ?_
    refine isS_run (n := 12) (m := 4) Z (by decide) hk x hl I3 fun H4 I4 => ?_
    refine isS_run (n := 16) (m := 4) Z (by decide) hk x hl I4 fun H5 I5 => ?_
    refine isS_run (n := 20) (m := 4) Z (by decide) hk x hl I5 fun H6 I6 => ?_
    refine isS_run (n := 24) (m := 4) Z (by decide) hk x hl I6 fun H7 I7 => ?_
    refine isS_run (n := 28) (m := 4) Z (by decide) hk x hl I7 fun H8 I8 => ?_
    refine isS_run (n := 32) (m := 4) Z (by decide) hk x hl I8 fun H9 I9 => ?_
    refine isS_run (n := 36) (m := 4) Z (by decide) hk x hl I9 fun H10 I10 => ?_
    refine isS_run (n := 40) (m := 4) Z (by decide) hk x hl I10 fun H11 I11 => ?_
    refine isS_run (n := 44) (m := 4) Z (by decide) hk x hl I11 fun H12 I12 => ?_
    refine isS_run (n := 48) (m := 4) Z (by decide) hk x hl I12 fun H13 I13 => ?_
    refine isS_run (n := 52) (m := 4) Z (by decide) hk x hl I13 fun H14 I14 => ?_
    refine isS_run (n := 56) (m := 1) Z (by decide) hk x hl I14 fun H15 I15 => ?_
    exact ⟨_, rfl, q l _ hl I15.1 I15.2⟩
end
end L2.K9

set_option Elab.async false
set_option linter.all false
set_option maxRecDepth 100000
set_option maxHeartbeats 4000000
/-! The __init__ of each class. -/
namespace L2.K9
open PySem PySem.Spec PyProof.Rows L2
section
variable {P : Program} {w : World} {K : PySem.W.Frag} {mg : Str → Option Value} {base : Heap} {C C0 f : Addr} {fd : FuncData} {up : List Addr}
theorem sc_i0 : FnScope ["self", "given"] ["self", "given"] (defScope (ini 2)) := ⟨rfl, rfl, rfl, by decide +kernel, rfl, by decide +kernel, by decide +kernel⟩
theorem ok_i0 (T : XC K C up) (Z : CI K mg C0) (no0 : PySem.W.findIn K (.ref C) "given" = some none) (F : Fun K "__init__" "InvalidAdded.__init__" (ini 2) f fd) : FnOk P w K mg base CX0 1 f fd ["self", "given"] (spI C ["given"]) :=
  F.ok sc_i0 (fun vs H Q E h => len_I h) fun cdv A outer s H vs Q E hr h => ⟨_, (pss_cons (ps_expr (pe_chi Z rfl (pa_cons (pv 0) (pa_cons pe_str pa_nil)))) (pss_one (ps_ost (pv 0) (pv 1)))), pure_i1 T no0 vs H Q E h⟩
theorem sc_i1 : FnScope ["self", "given"] ["self", "given"] (defScope (ini 3)) := ⟨rfl, rfl, rfl, by decide +kernel, rfl, by decide +kernel, by decide +kernel⟩
theorem ok_i1 (T : XC K C up) (Z : CI K mg C0) (no0 : PySem.W.findIn K (.ref C) "given" = some none) (F : Fun K "__init__" "InvalidBox.__init__" (ini 3) f fd) : FnOk P w K mg base CX0 1 f fd ["self", "given"] (spI C ["given"]) :=
  F.ok sc_i1 (fun vs H Q E h => len_I h) fun cdv A outer s H vs Q E hr h => ⟨_, (pss_cons (ps_expr (pe_chi Z rfl (pa_cons (pv 0) (pa_cons pe_str pa_nil)))) (pss_one (ps_ost (pv 0) (pv 1)))), pure_i1 T no0 vs H Q E h⟩
theorem sc_i2 : FnScope ["self", "given"] ["self", "given"] (defScope (ini 4)) := ⟨rfl, rfl, rfl, by decide +kernel, rfl, by decide +kernel, by decide +kernel⟩
theorem ok_i2 (T : XC K C up) (Z : CI K mg C0) (no0 : PySem.W.findIn K (.ref C) "given" = some none) (F : Fun K "__init__" "InvalidChain.__init__" (ini 4) f fd) : FnOk P w K mg base CX0 1 f fd ["self", "given"] (spI C ["given"]) :=
  F.ok sc_i2 (fun vs H Q E h => len_I h) fun cdv A outer s H vs Q E hr h => ⟨_, (pss_cons (ps_expr (pe_chi Z rfl (pa_cons (pv 0) (pa_cons pe_str pa_nil)))) (pss_one (ps_ost (pv 0) (pv 1)))), pure_i1 T no0 vs H Q E h⟩
theorem sc_i3 : FnScope ["self", "given"] ["self", "given"] (defScope (ini 6)) := ⟨rfl, rfl, rfl, by decide +kernel, rfl, by decide +kernel, by decide +kernel⟩
theorem ok_i3 (T : XC K C up) (Z : CI K mg C0) (no0 : PySem.W.findIn K (.ref C) "given" = some none) (F : Fun K "__init__" "InvalidCode.__init__" (ini 6) f fd) : FnOk P w K mg base CX0 1 f fd ["self", "given"] (spI C ["given"]) :=
  F.ok sc_i3 (fun vs H Q E h => len_I h) fun cdv A outer s H vs Q E hr h => ⟨_, (pss_cons (ps_expr (pe_chi Z rfl (pa_cons (pv 0) (pa_cons pe_str pa_nil)))) (pss_one (ps_ost (pv 0) (pv 1)))), pure_i1 T no0 vs H Q E h⟩
theorem sc_i4 : FnScope ["self", "given"] ["self", "given"] (defScope (ini 7)) := ⟨rfl, rfl, rfl, by decide +kernel, rfl, by decide +kernel, by decide +kernel⟩
theorem ok_i4 (T : XC K C up) (Z : CI K mg C0) (no0 : PySem.W.findIn K (.ref C) "given" = some none) (F : Fun K "__init__" "InvalidCodes.__init__" (ini 7) f fd) : FnOk P w K mg base CX0 1 f fd ["self", "given"] (spI C ["given"]) :=
  F.ok sc_i4 (fun vs H Q E h => len_I h) fun cdv A outer s H vs Q E hr h => ⟨_, (pss_cons (ps_expr (pe_chi Z rfl (pa_cons (pv 0) (pa_cons pe_str pa_nil)))) (pss_one (ps_ost (pv 0) (pv 1)))), pure_i1 T no0 vs H Q E h⟩
theorem sc_i5 : FnScope ["self", "given"] ["self", "given"] (defScope (ini 8)) := ⟨rfl, rfl, rfl, by decide +kernel, rfl, by decide +kernel, by decide +kernel⟩
theorem ok_i5 (T : XC K C up) (Z : CI K mg C0) (no0 : PySem.W.findIn K (.ref C) "given" = some none) (F : Fun K "__init__" "InvalidConfiguration.__init__" (ini 8) f fd) : FnOk P w K mg base CX0 1 f fd ["self", "given"] (spI C ["given"]) :=
  F.ok sc_i5 (fun vs H Q E h => len_I h) fun cdv A outer s H vs Q E hr h => ⟨_, (pss_cons (ps_expr (pe_chi Z rfl (pa_cons (pv 0) (pa_cons pe_str pa_nil)))) (pss_one (ps_ost (pv 0) (pv 1)))), pure_i1 T no0 vs H Q E h⟩
theorem sc_i6 : FnScope ["self", "given"] ["self", "given"] (defScope (ini 9)) := ⟨rfl, rfl, rfl, by decide +kernel, rfl, by decide +kernel, by decide +kernel⟩
theorem ok_i6 (T : XC K C up) (Z : CI K mg C0) (no0 : PySem.W.findIn K (.ref C) "given" = some none) (F : Fun K "__init__" "InvalidConfigurations.__init__" (ini 9) f fd) : FnOk P w K mg base CX0 1 f fd ["self", "given"] (spI C ["given"]) :=
  F.ok sc_i6 (fun vs H Q E h => len_I h) fun cdv A outer s H vs Q E hr h => ⟨_, (pss_cons (ps_expr (pe_chi Z rfl (pa_cons (pv 0) (pa_cons pe_str pa_nil)))) (pss_one (ps_ost (pv 0) (pv 1)))), pure_i1 T no0 vs H Q E h⟩
theorem sc_i7 : FnScope ["self", "given"] ["self", "given"] (defScope (ini 10)) := ⟨rfl, rfl, rfl, by decide +kernel, rfl, by decide +kernel, by decide +kernel⟩
theorem ok_i7 (T : XC K C up) (Z : CI K mg C0) (no0 : PySem.W.findIn K (.ref C) "given" = some none) (F : Fun K "__init__" "InvalidCuts.__init__" (ini 10) f fd) : FnOk P w K mg base CX0 1 f fd ["self", "given"] (spI C ["given"]) :=
  F.ok sc_i7 (fun vs H Q E h => len_I h) fun cdv A outer s H vs Q E hr h => ⟨_, (pss_cons (ps_expr (pe_chi Z rfl (pa_cons (pv 0) (pa_cons pe_str pa_nil)))) (pss_one (ps_ost (pv 0) (pv 1)))), pure_i1 T no0 vs H Q E h⟩
theorem sc_i8 : FnScope ["self", "given"] ["self", "given"] (defScope (ini 11)) := ⟨rfl, rfl, rfl, by decide +kernel, rfl, by decide +kernel, by decide +kernel⟩
theorem ok_i8 (T : XC K C up) (Z : CI K mg C0) (no0 : PySem.W.findIn K (.ref C) "given" = some none) (F : Fun K "__init__" "InvalidEnds.__init__" (ini 11) f fd) : FnOk P w K mg base CX0 1 f fd ["self", "given"] (spI C ["given"]) :=
  F.ok sc_i8 (fun vs H Q E h => len_I h) fun cdv A outer s H vs Q E hr h => ⟨_, (pss_cons (ps_expr (pe_chi Z rfl (pa_cons (pv 0) (pa_cons pe_str pa_nil)))) (pss_one (ps_ost (pv 0) (pv 1)))), pure_i1 T no0 vs H Q E h⟩
theorem sc_i9 : FnScope ["self", "given"] ["self", "given"] (defScope (ini 12)) := ⟨rfl, rfl, rfl, by decide +kernel, rfl, by decide +kernel, by decide +kernel⟩
theorem ok_i9 (T : XC K C up) (Z : CI K mg C0) (no0 : PySem.W.findIn K (.ref C) "given" = some none) (F : Fun K "__init__" "InvalidEscaper.__init__" (ini 12) f fd) : FnOk P w K mg base CX0 1 f fd ["self", "given"] (spI C ["given"]) :=
  F.ok sc_i9 (fun vs H Q E h => len_I h) fun cdv A outer s H vs Q E hr h => ⟨_, (pss_cons (ps_expr (pe_chi Z rfl (pa_cons (pv 0) (pa_cons pe_str pa_nil)))) (pss_one (ps_ost (pv 0) (pv 1)))), pure_i1 T no0 vs H Q E h⟩
theorem sc_i10 : FnScope ["self", "given"] ["self", "given"] (defScope (ini 13)) := ⟨rfl, rfl, rfl, by decide +kernel, rfl, by decide +kernel, by decide +kernel⟩
theorem ok_i10 (T : XC K C up) (Z : CI K mg C0) (no0 : PySem.W.findIn K (.ref C) "given" = some none) (F : Fun K "__init__" "InvalidEvent.__init__" (ini 13) f fd) : FnOk P w K mg base CX0 1 f fd ["self", "given"] (spI C ["given"]) :=
  F.ok sc_i10 (fun vs H Q E h => len_I h) fun cdv A outer s H vs Q E hr h => ⟨_, (pss_cons (ps_expr (pe_chi Z rfl (pa_cons (pv 0) (pa_cons pe_str pa_nil)))) (pss_one (ps_ost (pv 0) (pv 1)))), pure_i1 T no0 vs H Q E h⟩
theorem sc_i11 : FnScope ["self", "given"] ["self", "given"] (defScope (ini 14)) := ⟨rfl, rfl, rfl, by decide +kernel, rfl, by decide +kernel, by decide +kernel⟩
theorem ok_i11 (T : XC K C up) (Z : CI K mg C0) (no0 : PySem.W.findIn K (.ref C) "given" = some none) (F : Fun K "__init__" "InvalidEvents.__init__" (ini 14) f fd) : FnOk P w K mg base CX0 1 f fd ["self", "given"] (spI C ["given"]) :=
  F.ok sc_i11 (fun vs H Q E h => len_I h) fun cdv A outer s H vs Q E hr h => ⟨_, (pss_cons (ps_expr (pe_chi Z rfl (pa_cons (pv 0) (pa_cons pe_str pa_nil)))) (pss_one (ps_ost (pv 0) (pv 1)))), pure_i1 T no0 vs H Q E h⟩
theorem sc_i12 : FnScope ["self", "given"] ["self", "given"] (defScope (ini 15)) := ⟨rfl, rfl, rfl, by decide +kernel, rfl, by decide +kernel, by decide +kernel⟩
theorem ok_i12 (T : XC K C up) (Z : CI K mg C0) (no0 : PySem.W.findIn K (.ref C) "given" = some none) (F : Fun K "__init__" "InvalidFilling.__init__" (ini 15) f fd) : FnOk P w K mg base CX0 1 f fd ["self", "given"] (spI C ["given"]) :=
  F.ok sc_i12 (fun vs H Q E h => len_I h) fun cdv A outer s H vs Q E hr h => ⟨_, (pss_cons (ps_expr (pe_chi Z rfl (pa_cons (pv 0) (pa_cons pe_str pa_nil)))) (pss_one (ps_ost (pv 0) (pv 1)))), pure_i1 T no0 vs H Q E h⟩
theorem sc_i13 : FnScope ["self", "given"] ["self", "given"] (defScope (ini 16)) := ⟨rfl, rfl, rfl, by decide +kernel, rfl, by decide +kernel, by decide +kernel⟩
theorem ok_i13 (T : XC K C up) (Z : CI K mg C0) (no0 : PySem.W.findIn K (.ref C) "given" = some none) (F : Fun K "__init__" "InvalidIndex.__init__" (ini 16) f fd) : FnOk P w K mg base CX0 1 f fd ["self", "given"] (spI C ["given"]) :=
  F.ok sc_i13 (fun vs H Q E h => len_I h) fun cdv A outer s H vs Q E hr h => ⟨_, (pss_cons (ps_expr (pe_chi Z rfl (pa_cons (pv 0) (pa_cons pe_str pa_nil)))) (pss_one (ps_ost (pv 0) (pv 1)))), pure_i1 T no0 vs H Q E h⟩
theorem sc_i14 : FnScope ["self", "given"] ["self", "given"] (defScope (ini 17)) := ⟨rfl, rfl, rfl, by decide +kernel, rfl, by decide +kernel, by decide +kernel⟩
theorem ok_i14 (T : XC K C up) (Z : CI K mg C0) (no0 : PySem.W.findIn K (.ref C) "given" = some none) (F : Fun K "__init__" "InvalidInstructions.__init__" (ini 17) f fd) : FnOk P w K mg base CX0 1 f fd ["self", "given"] (spI C ["given"]) :=
  F.ok sc_i14 (fun vs H Q E h => len_I h) fun cdv A outer s H vs Q E hr h => ⟨_, (pss_cons (ps_expr (pe_chi Z rfl (pa_cons (pv 0) (pa_cons pe_str pa_nil)))) (pss_one (ps_ost (pv 0) (pv 1)))), pure_i1 T no0 vs H Q E h⟩
theorem sc_i15 : FnScope ["self", "given"] ["self", "given"] (defScope (ini 18)) := ⟨rfl, rfl, rfl, by decide +kernel, rfl, by decide +kernel, by decide +kernel⟩
theorem ok_i15 (T : XC K C up) (Z : CI K mg C0) (no0 : PySem.W.findIn K (.ref C) "given" = some none) (F : Fun K "__init__" "InvalidItems.__init__" (ini 18) f fd) : FnOk P w K mg base CX0 1 f fd ["self", "given"] (spI C ["given"]) :=
  F.ok sc_i15 (fun vs H Q E h => len_I h) fun cdv A outer s H vs Q E hr h => ⟨_, (pss_cons (ps_expr (pe_chi Z rfl (pa_cons (pv 0) (pa_cons pe_str pa_nil)))) (pss_one (ps_ost (pv 0) (pv 1)))), pure_i1 T no0 vs H Q E h⟩
theorem sc_i16 : FnScope ["self", "given"] ["self", "given"] (defScope (ini 19)) := ⟨rfl, rfl, rfl, by decide +kernel, rfl, by decide +kernel, by decide +kernel⟩
theorem ok_i16 (T : XC K C up) (Z : CI K mg C0) (no0 : PySem.W.findIn K (.ref C) "given" = some none) (F : Fun K "__init__" "InvalidKinds.__init__" (ini 19) f fd) : FnOk P w K mg base CX0 1 f fd ["self", "given"] (spI C ["given"]) :=
  F.ok sc_i16 (fun vs H Q E h => len_I h) fun cdv A outer s H vs Q E hr h => ⟨_, (pss_cons (ps_expr (pe_chi Z rfl (pa_cons (pv 0) (pa_cons pe_str pa_nil)))) (pss_one (ps_ost (pv 0) (pv 1)))), pure_i1 T no0 vs H Q E h⟩
theorem sc_i17 : FnScope ["self", "given"] ["self", "given"] (defScope (ini 20)) := ⟨rfl, rfl, rfl, by decide +kernel, rfl, by decide +kernel, by decide +kernel⟩
theorem ok_i17 (T : XC K C up) (Z : CI K mg C0) (no0 : PySem.W.findIn K (.ref C) "given" = some none) (F : Fun K "__init__" "InvalidLine.__init__" (ini 20) f fd) : FnOk P w K mg base CX0 1 f fd ["self", "given"] (spI C ["given"]) :=
  F.ok sc_i17 (fun vs H Q E h => len_I h) fun cdv A outer s H vs Q E hr h => ⟨_, (pss_cons (ps_expr (pe_chi Z rfl (pa_cons (pv 0) (pa_cons pe_str pa_nil)))) (pss_one (ps_ost (pv 0) (pv 1)))), pure_i1 T no0 vs H Q E h⟩
theorem sc_i18 : FnScope ["self", "given"] ["self", "given"] (defScope (ini 21)) := ⟨rfl, rfl, rfl, by decide +kernel, rfl, by decide +kernel, by decide +kernel⟩
theorem ok_i18 (T : XC K C up) (Z : CI K mg C0) (no0 : PySem.W.findIn K (.ref C) "given" = some none) (F : Fun K "__init__" "InvalidLines.__init__" (ini 21) f fd) : FnOk P w K mg base CX0 1 f fd ["self", "given"] (spI C ["given"]) :=
  F.ok sc_i18 (fun vs H Q E h => len_I h) fun cdv A outer s H vs Q E hr h => ⟨_, (pss_cons (ps_expr (pe_chi Z rfl (pa_cons (pv 0) (pa_cons pe_str pa_nil)))) (pss_one (ps_ost (pv 0) (pv 1)))), pure_i1 T no0 vs H Q E h⟩
theorem sc_i19 : FnScope ["self", "given"] ["self", "given"] (defScope (ini 22)) := ⟨rfl, rfl, rfl, by decide +kernel, rfl, by decide +kernel, by decide +kernel⟩
theorem ok_i19 (T : XC K C up) (Z : CI K mg C0) (no0 : PySem.W.findIn K (.ref C) "given" = some none) (F : Fun K "__init__" "InvalidMoves.__init__" (ini 22) f fd) : FnOk P w K mg base CX0 1 f fd ["self", "given"] (spI C ["given"]) :=
  F.ok sc_i19 (fun vs H Q E h => len_I h) fun cdv A outer s H vs Q E hr h => ⟨_, (pss_cons (ps_expr (pe_chi Z rfl (pa_cons (pv 0) (pa_cons pe_str pa_nil)))) (pss_one (ps_ost (pv 0) (pv 1)))), pure_i1 T no0 vs H Q E h⟩
theorem sc_i20 : FnScope ["self", "given"] ["self", "given"] (defScope (ini 23)) := ⟨rfl, rfl, rfl, by decide +kernel, rfl, by decide +kernel, by decide +kernel⟩
theorem ok_i20 (T : XC K C up) (Z : CI K mg C0) (no0 : PySem.W.findIn K (.ref C) "given" = some none) (F : Fun K "__init__" "InvalidNumber.__init__" (ini 23) f fd) : FnOk P w K mg base CX0 1 f fd ["self", "given"] (spI C ["given"]) :=
  F.ok sc_i20 (fun vs H Q E h => len_I h) fun cdv A outer s H vs Q E hr h => ⟨_, (pss_cons (ps_expr (pe_chi Z rfl (pa_cons (pv 0) (pa_cons pe_str pa_nil)))) (pss_one (ps_ost (pv 0) (pv 1)))), pure_i1 T no0 vs H Q E h⟩
theorem sc_i21 : FnScope ["self", "given"] ["self", "given"] (defScope (ini 24)) := ⟨rfl, rfl, rfl, by decide +kernel, rfl, by decide +kernel, by decide +kernel⟩
theorem ok_i21 (T : XC K C up) (Z : CI K mg C0) (no0 : PySem.W.findIn K (.ref C) "given" = some none) (F : Fun K "__init__" "InvalidOther.__init__" (ini 24) f fd) : FnOk P w K mg base CX0 1 f fd ["self", "given"] (spI C ["given"]) :=
  F.ok sc_i21 (fun vs H Q E h => len_I h) fun cdv A outer s H vs Q E hr h => ⟨_, (pss_cons (ps_expr (pe_chi Z rfl (pa_cons (pv 0) (pa_cons pe_str pa_nil)))) (pss_one (ps_ost (pv 0) (pv 1)))), pure_i1 T no0 vs H Q E h⟩
theorem sc_i22 : FnScope ["self", "given"] ["self", "given"] (defScope (ini 25)) := ⟨rfl, rfl, rfl, by decide +kernel, rfl, by decide +kernel, by decide +kernel⟩
theorem ok_i22 (T : XC K C up) (Z : CI K mg C0) (no0 : PySem.W.findIn K (.ref C) "given" = some none) (F : Fun K "__init__" "InvalidPieces.__init__" (ini 25) f fd) : FnOk P w K mg base CX0 1 f fd ["self", "given"] (spI C ["given"]) :=
  F.ok sc_i22 (fun vs H Q E h => len_I h) fun cdv A outer s H vs Q E hr h => ⟨_, (pss_cons (ps_expr (pe_chi Z rfl (pa_cons (pv 0) (pa_cons pe_str pa_nil)))) (pss_one (ps_ost (pv 0) (pv 1)))), pure_i1 T no0 vs H Q E h⟩
theorem sc_i23 : FnScope ["self", "given"] ["self", "given"] (defScope (ini 26)) := ⟨rfl, rfl, rfl, by decide +kernel, rfl, by decide +kernel, by decide +kernel⟩
theorem ok_i23 (T : XC K C up) (Z : CI K mg C0) (no0 : PySem.W.findIn K (.ref C) "given" = some none) (F : Fun K "__init__" "InvalidPlace.__init__" (ini 26) f fd) : FnOk P w K mg base CX0 1 f fd ["self", "given"] (spI C ["given"]) :=
  F.ok sc_i23 (fun vs H Q E h => len_I h) fun cdv A outer s H vs Q E hr h => ⟨_, (pss_cons (ps_expr (pe_chi Z rfl (pa_cons (pv 0) (pa_cons pe_str pa_nil)))) (pss_one (ps_ost (pv 0) (pv 1)))), pure_i1 T no0 vs H Q E h⟩
theorem sc_i24 : FnScope ["self", "given"] ["self", "given"] (defScope (ini 27)) := ⟨rfl, rfl, rfl, by decide +kernel, rfl, by decide +kernel, by decide +kernel⟩
theorem ok_i24 (T : XC K C up) (Z : CI K mg C0) (no0 : PySem.W.findIn K (.ref C) "given" = some none) (F : Fun K "__init__" "InvalidReader.__init__" (ini 27) f fd) : FnOk P w K mg base CX0 1 f fd ["self", "given"] (spI C ["given"]) :=
  F.ok sc_i24 (fun vs H Q E h => len_I h) fun cdv A outer s H vs Q E hr h => ⟨_, (pss_cons (ps_expr (pe_chi Z rfl (pa_cons (pv 0) (pa_cons pe_str pa_nil)))) (pss_one (ps_ost (pv 0) (pv 1)))), pure_i1 T no0 vs H Q E h⟩
theorem sc_i25 : FnScope ["self", "given"] ["self", "given"] (defScope (ini 28)) := ⟨rfl, rfl, rfl, by decide +kernel, rfl, by decide +kernel, by decide +kernel⟩
theorem ok_i25 (T : XC K C up) (Z : CI K mg C0) (no0 : PySem.W.findIn K (.ref C) "given" = some none) (F : Fun K "__init__" "InvalidReaders.__init__" (ini 28) f fd) : FnOk P w K mg base CX0 1 f fd ["self", "given"] (spI C ["given"]) :=
  F.ok sc_i25 (fun vs H Q E h => len_I h) fun cdv A outer s H vs Q E hr h => ⟨_, (pss_cons (ps_expr (pe_chi Z rfl (pa_cons (pv 0) (pa_cons pe_str pa_nil)))) (pss_one (ps_ost (pv 0) (pv 1)))), pure_i1 T no0 vs H Q E h⟩
theorem sc_i26 : FnScope ["self", "given"] ["self", "given"] (defScope (ini 30)) := ⟨rfl, rfl, rfl, by decide +kernel, rfl, by decide +kernel, by decide +kernel⟩
theorem ok_i26 (T : XC K C up) (Z : CI K mg C0) (no0 : PySem.W.findIn K (.ref C) "given" = some none) (F : Fun K "__init__" "InvalidRoads.__init__" (ini 30) f fd) : FnOk P w K mg base CX0 1 f fd ["self", "given"] (spI C ["given"]) :=
  F.ok sc_i26 (fun vs H Q E h => len_I h) fun cdv A outer s H vs Q E hr h => ⟨_, (pss_cons (ps_expr (pe_chi Z rfl (pa_cons (pv 0) (pa_cons pe_str pa_nil)))) (pss_one (ps_ost (pv 0) (pv 1)))), pure_i1 T no0 vs H Q E h⟩
theorem sc_i27 : FnScope ["self", "given"] ["self", "given"] (defScope (ini 31)) := ⟨rfl, rfl, rfl, by decide +kernel, rfl, by decide +kernel, by decide +kernel⟩
theorem ok_i27 (T : XC K C up) (Z : CI K mg C0) (no0 : PySem.W.findIn K (.ref C) "given" = some none) (F : Fun K "__init__" "InvalidRoute.__init__" (ini 31) f fd) : FnOk P w K mg base CX0 1 f fd ["self", "given"] (spI C ["given"]) :=
  F.ok sc_i27 (fun vs H Q E h => len_I h) fun cdv A outer s H vs Q E hr h => ⟨_, (pss_cons (ps_expr (pe_chi Z rfl (pa_cons (pv 0) (pa_cons pe_str pa_nil)))) (pss_one (ps_ost (pv 0) (pv 1)))), pure_i1 T no0 vs H Q E h⟩
theorem sc_i28 : FnScope ["self", "given"] ["self", "given"] (defScope (ini 32)) := ⟨rfl, rfl, rfl, by decide +kernel, rfl, by decide +kernel, by decide +kernel⟩
theorem ok_i28 (T : XC K C up) (Z : CI K mg C0) (no0 : PySem.W.findIn K (.ref C) "given" = some none) (F : Fun K "__init__" "InvalidRows.__init__" (ini 32) f fd) : FnOk P w K mg base CX0 1 f fd ["self", "given"] (spI C ["given"]) :=
  F.ok sc_i28 (fun vs H Q E h => len_I h) fun cdv A outer s H vs Q E hr h => ⟨_, (pss_cons (ps_expr (pe_chi Z rfl (pa_cons (pv 0) (pa_cons pe_str pa_nil)))) (pss_one (ps_ost (pv 0) (pv 1)))), pure_i1 T no0 vs H Q E h⟩
theorem sc_i29 : FnScope ["self", "given"] ["self", "given"] (defScope (ini 33)) := ⟨rfl, rfl, rfl, by decide +kernel, rfl, by decide +kernel, by decide +kernel⟩
theorem ok_i29 (T : XC K C up) (Z : CI K mg C0) (no0 : PySem.W.findIn K (.ref C) "given" = some none) (F : Fun K "__init__" "InvalidSign.__init__" (ini 33) f fd) : FnOk P w K mg base CX0 1 f fd ["self", "given"] (spI C ["given"]) :=
  F.ok sc_i29 (fun vs H Q E h => len_I h) fun cdv A outer s H vs Q E hr h => ⟨_, (pss_cons (ps_expr (pe_chi Z rfl (pa_cons (pv 0) (pa_cons pe_str pa_nil)))) (pss_one (ps_ost (pv 0) (pv 1)))), pure_i1 T no0 vs H Q E h⟩
theorem sc_i30 : FnScope ["self", "given"] ["self", "given"] (defScope (ini 34)) := ⟨rfl, rfl, rfl, by decide +kernel, rfl, by decide +kernel, by decide +kernel⟩
theorem ok_i30 (T : XC K C up) (Z : CI K mg C0) (no0 : PySem.W.findIn K (.ref C) "given" = some none) (F : Fun K "__init__" "InvalidState.__init__" (ini 34) f fd) : FnOk P w K mg base CX0 1 f fd ["self", "given"] (spI C ["given"]) :=
  F.ok sc_i30 (fun vs H Q E h => len_I h) fun cdv A outer s H vs Q E hr h => ⟨_, (pss_cons (ps_expr (pe_chi Z rfl (pa_cons (pv 0) (pa_cons pe_str pa_nil)))) (pss_one (ps_ost (pv 0) (pv 1)))), pure_i1 T no0 vs H Q E h⟩
theorem sc_i31 : FnScope ["self", "given"] ["self", "given"] (defScope (ini 35)) := ⟨rfl, rfl, rfl, by decide +kernel, rfl, by decide +kernel, by decide +kernel⟩
theorem ok_i31 (T : XC K C up) (Z : CI K mg C0) (no0 : PySem.W.findIn K (.ref C) "given" = some none) (F : Fun K "__init__" "InvalidString.__init__" (ini 35) f fd) : FnOk P w K mg base CX0 1 f fd ["self", "given"] (spI C ["given"]) :=
  F.ok sc_i31 (fun vs H Q E h => len_I h) fun cdv A outer s H vs Q E hr h => ⟨_, (pss_cons (ps_expr (pe_chi Z rfl (pa_cons (pv 0) (pa_cons pe_str pa_nil)))) (pss_one (ps_ost (pv 0) (pv 1)))), pure_i1 T no0 vs H Q E h⟩
theorem sc_i32 : FnScope ["self", "given"] ["self", "given"] (defScope (ini 36)) := ⟨rfl, rfl, rfl, by decide +kernel, rfl, by decide +kernel, by decide +kernel⟩
theorem ok_i32 (T : XC K C up) (Z : CI K mg C0) (no0 : PySem.W.findIn K (.ref C) "given" = some none) (F : Fun K "__init__" "InvalidText.__init__" (ini 36) f fd) : FnOk P w K mg base CX0 1 f fd ["self", "given"] (spI C ["given"]) :=
  F.ok sc_i32 (fun vs H Q E h => len_I h) fun cdv A outer s H vs Q E hr h => ⟨_, (pss_cons (ps_expr (pe_chi Z rfl (pa_cons (pv 0) (pa_cons pe_str pa_nil)))) (pss_one (ps_ost (pv 0) (pv 1)))), pure_i1 T no0 vs H Q E h⟩
theorem sc_i33 : FnScope ["self", "given"] ["self", "given"] (defScope (ini 37)) := ⟨rfl, rfl, rfl, by decide +kernel, rfl, by decide +kernel, by decide +kernel⟩
theorem ok_i33 (T : XC K C up) (Z : CI K mg C0) (no0 : PySem.W.findIn K (.ref C) "given" = some none) (F : Fun K "__init__" "InvalidTriple.__init__" (ini 37) f fd) : FnOk P w K mg base CX0 1 f fd ["self", "given"] (spI C ["given"]) :=
  F.ok sc_i33 (fun vs H Q E h => len_I h) fun cdv A outer s H vs Q E hr h => ⟨_, (pss_cons (ps_expr (pe_chi Z rfl (pa_cons (pv 0) (pa_cons pe_str pa_nil)))) (pss_one (ps_ost (pv 0) (pv 1)))), pure_i1 T no0 vs H Q E h⟩
theorem sc_i34 : FnScope ["self", "given"] ["self", "given"] (defScope (ini 38)) := ⟨rfl, rfl, rfl, by decide +kernel, rfl, by decide +kernel, by decide +kernel⟩
theorem ok_i34 (T : XC K C up) (Z : CI K mg C0) (no0 : PySem.W.findIn K (.ref C) "given" = some none) (F : Fun K "__init__" "InvalidTriples.__init__" (ini 38) f fd) : FnOk P w K mg base CX0 1 f fd ["self", "given"] (spI C ["given"]) :=
  F.ok sc_i34 (fun vs H Q E h => len_I h) fun cdv A outer s H vs Q E hr h => ⟨_, (pss_cons (ps_expr (pe_chi Z rfl (pa_cons (pv 0) (pa_cons pe_str pa_nil)))) (pss_one (ps_ost (pv 0) (pv 1)))), pure_i1 T no0 vs H Q E h⟩
theorem sc_i35 : FnScope ["self", "given"] ["self", "given"] (defScope (ini 39)) := ⟨rfl, rfl, rfl, by decide +kernel, rfl, by decide +kernel, by decide +kernel⟩
theorem ok_i35 (T : XC K C up) (Z : CI K mg C0) (no0 : PySem.W.findIn K (.ref C) "given" = some none) (F : Fun K "__init__" "InvalidTruths.__init__" (ini 39) f fd) : FnOk P w K mg base CX0 1 f fd ["self", "given"] (spI C ["given"]) :=
  F.ok sc_i35 (fun vs H Q E h => len_I h) fun cdv A outer s H vs Q E hr h => ⟨_, (pss_cons (ps_expr (pe_chi Z rfl (pa_cons (pv 0) (pa_cons pe_str pa_nil)))) (pss_one (ps_ost (pv 0) (pv 1)))), pure_i1 T no0 vs H Q E h⟩
theorem sc_i36 : FnScope ["self", "given"] ["self", "given"] (defScope (ini 40)) := ⟨rfl, rfl, rfl, by decide +kernel, rfl, by decide +kernel, by decide +kernel⟩
theorem ok_i36 (T : XC K C up) (Z : CI K mg C0) (no0 : PySem.W.findIn K (.ref C) "given" = some none) (F : Fun K "__init__" "InvalidWithin.__init__" (ini 40) f fd) : FnOk P w K mg base CX0 1 f fd ["self", "given"] (spI C ["given"]) :=
  F.ok sc_i36 (fun vs H Q E h => len_I h) fun cdv A outer s H vs Q E hr h => ⟨_, (pss_cons (ps_expr (pe_chi Z rfl (pa_cons (pv 0) (pa_cons pe_str pa_nil)))) (pss_one (ps_ost (pv 0) (pv 1)))), pure_i1 T no0 vs H Q E h⟩
theorem sc_i37 : FnScope ["self", "given"] ["self", "given"] (defScope (ini 41)) := ⟨rfl, rfl, rfl, by decide +kernel, rfl, by decide +kernel, by decide +kernel⟩
theorem ok_i37 (T : XC K C up) (Z : CI K mg C0) (no0 : PySem.W.findIn K (.ref C) "given" = some none) (F : Fun K "__init__" "InvalidWord.__init__" (ini 41) f fd) : FnOk P w K mg base CX0 1 f fd ["self", "given"] (spI C ["given"]) :=
  F.ok sc_i37 (fun vs H Q E h => len_I h) fun cdv A outer s H vs Q E hr h => ⟨_, (pss_cons (ps_expr (pe_chi Z rfl (pa_cons (pv 0) (pa_cons pe_str pa_nil)))) (pss_one (ps_ost (pv 0) (pv 1)))), pure_i1 T no0 vs H Q E h⟩
theorem sc_i38 : FnScope ["self", "index"] ["self", "index"] (defScope (ini 5)) := ⟨rfl, rfl, rfl, by decide +kernel, rfl, by decide +kernel, by decide +kernel⟩
theorem ok_i38 (T : XC K C up) (Z : CI K mg C0) (no0 : PySem.W.findIn K (.ref C) "index" = some none) (F : Fun K "__init__" "InvalidClaim.__init__" (ini 5) f fd) : FnOk P w K mg base CX0 1 f fd ["self", "index"] (spI C ["index"]) :=
  F.ok sc_i38 (fun vs H Q E h => len_I h) fun cdv A outer s H vs Q E hr h => ⟨_, (pss_cons (ps_expr (pe_chi Z rfl (pa_cons (pv 0) (pa_cons pe_str pa_nil)))) (pss_one (ps_ost (pv 0) (pv 1)))), pure_i1 T no0 vs H Q E h⟩
theorem sc_i39 : FnScope ["self", "index"] ["self", "index"] (defScope (ini 29)) := ⟨rfl, rfl, rfl, by decide +kernel, rfl, by decide +kernel, by decide +kernel⟩
theorem ok_i39 (T : XC K C up) (Z : CI K mg C0) (no0 : PySem.W.findIn K (.ref C) "index" = some none) (F : Fun K "__init__" "InvalidRecord.__init__" (ini 29) f fd) : FnOk P w K mg base CX0 1 f fd ["self", "index"] (spI C ["index"]) :=
  F.ok sc_i39 (fun vs H Q E h => len_I h) fun cdv A outer s H vs Q E hr h => ⟨_, (pss_cons (ps_expr (pe_chi Z rfl (pa_cons (pv 0) (pa_cons pe_str pa_nil)))) (pss_one (ps_ost (pv 0) (pv 1)))), pure_i1 T no0 vs H Q E h⟩
theorem sc_i40 : FnScope ["self", "filling"] ["self", "filling"] (defScope (ini 43)) := ⟨rfl, rfl, rfl, by decide +kernel, rfl, by decide +kernel, by decide +kernel⟩
theorem ok_i40 (T : XC K C up) (Z : CI K mg C0) (no0 : PySem.W.findIn K (.ref C) "filling" = some none) (F : Fun K "__init__" "BreaksOut.__init__" (ini 43) f fd) : FnOk P w K mg base CX0 1 f fd ["self", "filling"] (spI C ["filling"]) :=
  F.ok sc_i40 (fun vs H Q E h => len_I h) fun cdv A outer s H vs Q E hr h => ⟨_, (pss_cons (ps_expr (pe_chi Z rfl (pa_cons (pv 0) (pa_cons pe_str pa_nil)))) (pss_one (ps_ost (pv 0) (pv 1)))), pure_i1 T no0 vs H Q E h⟩
theorem sc_i41 : FnScope ["self", "state", "sign"] ["self", "state", "sign"] (defScope (ini 44)) := ⟨rfl, rfl, rfl, by decide +kernel, rfl, by decide +kernel, by decide +kernel⟩
theorem ok_i41 (T : XC K C up) (Z : CI K mg C0) (no0 : PySem.W.findIn K (.ref C) "state" = some none) (no1 : PySem.W.findIn K (.ref C) "sign" = some none) (F : Fun K "__init__" "Mixed.__init__" (ini 44) f fd) : FnOk P w K mg base CX0 1 f fd ["self", "state", "sign"] (spI C ["state", "sign"]) :=
  F.ok sc_i41 (fun vs H Q E h => len_I h) fun cdv A outer s H vs Q E hr h => ⟨_, (pss_cons (ps_expr (pe_chi Z rfl (pa_cons (pv 0) (pa_cons pe_str pa_nil)))) (pss_cons (ps_ost (pv 0) (pv 1)) (pss_one (ps_ost (pv 0) (pv 2))))), pure_i2 T no0 no1 vs H Q E h⟩
theorem sc_i42 : FnScope ["self"] ["self"] (defScope (ini 45)) := ⟨rfl, rfl, rfl, by decide +kernel, rfl, by decide +kernel, by decide +kernel⟩
theorem ok_i42 (T : XC K C up) (Z : CI K mg C0) (F : Fun K "__init__" "NoChains.__init__" (ini 45) f fd) : FnOk P w K mg base CX0 1 f fd ["self"] (spI C []) :=
  F.ok sc_i42 (fun vs H Q E h => len_I h) fun cdv A outer s H vs Q E hr h => ⟨_, (pss_one (ps_expr (pe_chi Z rfl (pa_cons (pv 0) (pa_cons pe_str pa_nil))))), pure_i0 T vs H Q E h⟩
theorem sc_i43 : FnScope ["self"] ["self"] (defScope (ini 46)) := ⟨rfl, rfl, rfl, by decide +kernel, rfl, by decide +kernel, by decide +kernel⟩
theorem ok_i43 (T : XC K C up) (Z : CI K mg C0) (F : Fun K "__init__" "NotAtEnd.__init__" (ini 46) f fd) : FnOk P w K mg base CX0 1 f fd ["self"] (spI C []) :=
  F.ok sc_i43 (fun vs H Q E h => len_I h) fun cdv A outer s H vs Q E hr h => ⟨_, (pss_one (ps_expr (pe_chi Z rfl (pa_cons (pv 0) (pa_cons pe_str pa_nil))))), pure_i0 T vs H Q E h⟩
theorem sc_i44 : FnScope ["self"] ["self"] (defScope (ini 49)) := ⟨rfl, rfl, rfl, by decide +kernel, rfl, by decide +kernel, by decide +kernel⟩
theorem ok_i44 (T : XC K C up) (Z : CI K mg C0) (F : Fun K "__init__" "NothingToRedo.__init__" (ini 49) f fd) : FnOk P w K mg base CX0 1 f fd ["self"] (spI C []) :=
  F.ok sc_i44 (fun vs H Q E h => len_I h) fun cdv A outer s H vs Q E hr h => ⟨_, (pss_one (ps_expr (pe_chi Z rfl (pa_cons (pv 0) (pa_cons pe_str pa_nil))))), pure_i0 T vs H Q E h⟩
theorem sc_i45 : FnScope ["self"] ["self"] (defScope (ini 50)) := ⟨rfl, rfl, rfl, by decide +kernel, rfl, by decide +kernel, by decide +kernel⟩
theorem ok_i45 (T : XC K C up) (Z : CI K mg C0) (F : Fun K "__init__" "NothingToUndo.__init__" (ini 50) f fd) : FnOk P w K mg base CX0 1 f fd ["self"] (spI C []) :=
  F.ok sc_i45 (fun vs H Q E h => len_I h) fun cdv A outer s H vs Q E hr h => ⟨_, (pss_one (ps_expr (pe_chi Z rfl (pa_cons (pv 0) (pa_cons pe_str pa_nil))))), pure_i0 T vs H Q E h⟩
theorem sc_i46 : FnScope ["self", "count"] ["self", "count"] (defScope (ini 47)) := ⟨rfl, rfl, rfl, by decide +kernel, rfl, by decide +kernel, by decide +kernel⟩
theorem ok_i46 (T : XC K C up) (Z : CI K mg C0) (no0 : PySem.W.findIn K (.ref C) "count" = some none) (F : Fun K "__init__" "NotOneHole.__init__" (ini 47) f fd) : FnOk P w K mg base CX0 1 f fd ["self", "count"] (spI C ["count"]) :=
  F.ok sc_i46 (fun vs H Q E h => len_I h) fun cdv A outer s H vs Q E hr h => ⟨_, (pss_cons (ps_expr (pe_chi Z rfl (pa_cons (pv 0) (pa_cons pe_str pa_nil)))) (pss_one (ps_ost (pv 0) (pv 1)))), pure_i1 T no0 vs H Q E h⟩
theorem sc_i47 : FnScope ["self", "count"] ["self", "count"] (defScope (ini 48)) := ⟨rfl, rfl, rfl, by decide +kernel, rfl, by decide +kernel, by decide +kernel⟩
theorem ok_i47 (T : XC K C up) (Z : CI K mg C0) (no0 : PySem.W.findIn K (.ref C) "count" = some none) (F : Fun K "__init__" "NotRead.__init__" (ini 48) f fd) : FnOk P w K mg base CX0 1 f fd ["self", "count"] (spI C ["count"]) :=
  F.ok sc_i47 (fun vs H Q E h => len_I h) fun cdv A outer s H vs Q E hr h => ⟨_, (pss_cons (ps_expr (pe_chi Z rfl (pa_cons (pv 0) (pa_cons pe_str pa_nil)))) (pss_one (ps_ost (pv 0) (pv 1)))), pure_i1 T no0 vs H Q E h⟩
theorem sc_i48 : FnScope ["self", "one", "other"] ["self", "one", "other"] (defScope (ini 51)) := ⟨rfl, rfl, rfl, by decide +kernel, rfl, by decide +kernel, by decide +kernel⟩
theorem ok_i48 (T : XC K C up) (Z : CI K mg C0) (no0 : PySem.W.findIn K (.ref C) "one" = some none) (no1 : PySem.W.findIn K (.ref C) "other" = some none) (F : Fun K "__init__" "OtherSigns.__init__" (ini 51) f fd) : FnOk P w K mg base CX0 1 f fd ["self", "one", "other"] (spI C ["one", "other"]) :=
  F.ok sc_i48 (fun vs H Q E h => len_I h) fun cdv A outer s H vs Q E hr h => ⟨_, (pss_cons (ps_expr (pe_chi Z rfl (pa_cons (pv 0) (pa_cons pe_str pa_nil)))) (pss_cons (ps_ost (pv 0) (pv 1)) (pss_one (ps_ost (pv 0) (pv 2))))), pure_i2 T no0 no1 vs H Q E h⟩
theorem sc_i49 : FnScope ["self", "line"] ["self", "line"] (defScope (ini 52)) := ⟨rfl, rfl, rfl, by decide +kernel, rfl, by decide +kernel, by decide +kernel⟩
theorem ok_i49 (T : XC K C up) (Z : CI K mg C0) (no0 : PySem.W.findIn K (.ref C) "line" = some none) (F : Fun K "__init__" "Refused.__init__" (ini 52) f fd) : FnOk P w K mg base CX0 1 f fd ["self", "line"] (spI C ["line"]) :=
  F.ok sc_i49 (fun vs H Q E h => len_I h) fun cdv A outer s H vs Q E hr h => ⟨_, (pss_cons (ps_expr (pe_chi Z rfl (pa_cons (pv 0) (pa_cons pe_str pa_nil)))) (pss_one (ps_ost (pv 0) (pv 1)))), pure_i1 T no0 vs H Q E h⟩
theorem sc_i50 : FnScope ["self", "name"] ["self", "name"] (defScope (ini 53)) := ⟨rfl, rfl, rfl, by decide +kernel, rfl, by decide +kernel, by decide +kernel⟩
theorem ok_i50 (T : XC K C up) (Z : CI K mg C0) (no0 : PySem.W.findIn K (.ref C) "name" = some none) (F : Fun K "__init__" "TakenName.__init__" (ini 53) f fd) : FnOk P w K mg base CX0 1 f fd ["self", "name"] (spI C ["name"]) :=
  F.ok sc_i50 (fun vs H Q E h => len_I h) fun cdv A outer s H vs Q E hr h => ⟨_, (pss_cons (ps_expr (pe_chi Z rfl (pa_cons (pv 0) (pa_cons pe_str pa_nil)))) (pss_one (ps_ost (pv 0) (pv 1)))), pure_i1 T no0 vs H Q E h⟩
theorem sc_i51 : FnScope ["self", "count"] ["self", "count"] (defScope (ini 54)) := ⟨rfl, rfl, rfl, by decide +kernel, rfl, by decide +kernel, by decide +kernel⟩
theorem ok_i51 (T : XC K C up) (Z : CI K mg C0) (no0 : PySem.W.findIn K (.ref C) "count" = some none) (F : Fun K "__init__" "TooLong.__init__" (ini 54) f fd) : FnOk P w K mg base CX0 1 f fd ["self", "count"] (spI C ["count"]) :=
  F.ok sc_i51 (fun vs H Q E h => len_I h) fun cdv A outer s H vs Q E hr h => ⟨_, (pss_cons (ps_expr (pe_chi Z rfl (pa_cons (pv 0) (pa_cons pe_str pa_nil)))) (pss_one (ps_ost (pv 0) (pv 1)))), pure_i1 T no0 vs H Q E h⟩
theorem sc_i52 : FnScope ["self", "count"] ["self", "count"] (defScope (ini 55)) := ⟨rfl, rfl, rfl, by decide +kernel, rfl, by decide +kernel, by decide +kernel⟩
theorem ok_i52 (T : XC K C up) (Z : CI K mg C0) (no0 : PySem.W.findIn K (.ref C) "count" = some none) (F : Fun K "__init__" "TooMany.__init__" (ini 55) f fd) : FnOk P w K mg base CX0 1 f fd ["self", "count"] (spI C ["count"]) :=
  F.ok sc_i52 (fun vs H Q E h => len_I h) fun cdv A outer s H vs Q E hr h => ⟨_, (pss_cons (ps_expr (pe_chi Z rfl (pa_cons (pv 0) (pa_cons pe_str pa_nil)))) (pss_one (ps_ost (pv 0) (pv 1)))), pure_i1 T no0 vs H Q E h⟩
theorem sc_i53 : FnScope ["self", "name"] ["self", "name"] (defScope (ini 56)) := ⟨rfl, rfl, rfl, by decide +kernel, rfl, by decide +kernel, by decide +kernel⟩
theorem ok_i53 (T : XC K C up) (Z : CI K mg C0) (no0 : PySem.W.findIn K (.ref C) "name" = some none) (F : Fun K "__init__" "TwiceNamed.__init__" (ini 56) f fd) : FnOk P w K mg base CX0 1 f fd ["self", "name"] (spI C ["name"]) :=
  F.ok sc_i53 (fun vs H Q E h => len_I h) fun cdv A outer s H vs Q E hr h => ⟨_, (pss_cons (ps_expr (pe_chi Z rfl (pa_cons (pv 0) (pa_cons pe_str pa_nil)))) (pss_one (ps_ost (pv 0) (pv 1)))), pure_i1 T no0 vs H Q E h⟩
theorem sc_i54 : FnScope ["self", "filling", "place"] ["self", "filling", "place"] (defScope (ini 57)) := ⟨rfl, rfl, rfl, by decide +kernel, rfl, by decide +kernel, by decide +kernel⟩
theorem ok_i54 (T : XC K C up) (Z : CI K mg C0) (no0 : PySem.W.findIn K (.ref C) "filling" = some none) (no1 : PySem.W.findIn K (.ref C) "place" = some none) (F : Fun K "__init__" "Unfit.__init__" (ini 57) f fd) : FnOk P w K mg base CX0 1 f fd ["self", "filling", "place"] (spI C ["filling", "place"]) :=
  F.ok sc_i54 (fun vs H Q E h => len_I h) fun cdv A outer s H vs Q E hr h => ⟨_, (pss_cons (ps_expr (pe_chi Z rfl (pa_cons (pv 0) (pa_cons pe_str pa_nil)))) (pss_cons (ps_ost (pv 0) (pv 1)) (pss_one (ps_ost (pv 0) (pv 2))))), pure_i2 T no0 no1 vs H Q E h⟩
theorem sc_i55 : FnScope ["self", "name"] ["self", "name"] (defScope (ini 58)) := ⟨rfl, rfl, rfl, by decide +kernel, rfl, by decide +kernel, by decide +kernel⟩
theorem ok_i55 (T : XC K C up) (Z : CI K mg C0) (no0 : PySem.W.findIn K (.ref C) "name" = some none) (F : Fun K "__init__" "UnknownName.__init__" (ini 58) f fd) : FnOk P w K mg base CX0 1 f fd ["self", "name"] (spI C ["name"]) :=
  F.ok sc_i55 (fun vs H Q E h => len_I h) fun cdv A outer s H vs Q E hr h => ⟨_, (pss_cons (ps_expr (pe_chi Z rfl (pa_cons (pv 0) (pa_cons pe_str pa_nil)))) (pss_one (ps_ost (pv 0) (pv 1)))), pure_i1 T no0 vs H Q E h⟩
theorem sc_i56 : FnScope ["self", "state"] ["self", "state"] (defScope (ini 59)) := ⟨rfl, rfl, rfl, by decide +kernel, rfl, by decide +kernel, by decide +kernel⟩
theorem ok_i56 (T : XC K C up) (Z : CI K mg C0) (no0 : PySem.W.findIn K (.ref C) "state" = some none) (F : Fun K "__init__" "Unreached.__init__" (ini 59) f fd) : FnOk P w K mg base CX0 1 f fd ["self", "state"] (spI C ["state"]) :=
  F.ok sc_i56 (fun vs H Q E h => len_I h) fun cdv A outer s H vs Q E hr h => ⟨_, (pss_cons (ps_expr (pe_chi Z rfl (pa_cons (pv 0) (pa_cons pe_str pa_nil)))) (pss_one (ps_ost (pv 0) (pv 1)))), pure_i1 T no0 vs H Q E h⟩
end
end L2.K9

set_option Elab.async false
set_option linter.all false
set_option maxRecDepth 100000
set_option maxHeartbeats 8000000
/-! _law_fields. -/
namespace L2.K9
open PySem PySem.Spec PyProof.Rows L2
abbrev sFields : Stmt := top 72
theorem CN_f {j : Nat} {x : Str} {fl gl : List Str} (h : CN[j]? = some (x, fl)) (e : (CN[j]?).map (·.2) = some gl) : fl = gl := by
  rw [h] at e
  exact Option.some.inj e
theorem fld1 {f : Str} {ws : List V} (h : ws.length = [f].length) : ∃ v, ws = [v] ∧ (flds [f] ws).lookup f = some v := by
  match ws, h with
  | [v], _ => exact ⟨v, rfl, by simp [flds, List.lookup]⟩
theorem fld2 {f g : Str} {ws : List V} (n : (f == g) = false) (h : ws.length = [f, g].length) : ∃ v w, ws = [v, w] ∧ (flds [f, g] ws).lookup f = some v ∧ (flds [f, g] ws).lookup g = some w := by
  match ws, h with
  | [v, w], _ => exact ⟨v, w, rfl, by simp [flds, List.lookup, n], by simp [flds, List.lookup]⟩
def spFields (C : Nat → Addr) : Sp := fun vs H Q _ => ∃ (j : Nat) (e : Addr) (x : Str) (fl : List Str) (ws : List V) (b : Bool), vs = [.int (j : Int), .ref e] ∧ j < 57 ∧ CN[j]? = some (x, fl) ∧ ws.length = fl.length ∧ ExAt H e (C j) (flds fl ws) b ∧
  ∀ p H', H p = none → Same H H' → H' p = some (.lst ws) → Q (.ref p) H'
section
variable {P : Program} {w : World} {K : PySem.W.Frag} {mg : Str → Option Value} {base : Heap} {C : Nat → Addr} {C0 : Addr}
theorem Fam.no (Z : Fam P w K mg base C C0) {k : Nat} {x f : Str} {fl : List Str} (h : CN[k]? = some (x, fl)) (hf : f ∈ fl) : PySem.W.findIn K (.ref (C k)) f = some none := by
  obtain ⟨fI, fd, F⟩ := Z.c k x fl h
  exact F.no f hf
theorem scFields : FnScope ["k", "error"] ["k", "error"] (defScope sFields) := ⟨rfl, rfl, rfl, by decide +kernel, rfl, by decide +kernel, by decide +kernel⟩
theorem ok_fields {f : Addr} {fd : FuncData} (F : Fun K "_law_fields" "_law_fields" sFields f fd) (Z : Fam P w K mg base C C0) : FnOk P w K mg base CX0 1 f fd ["k", "error"] (spFields C) := by
  refine F.ok scFields (fun vs H Q E h => ?_) (fun cdv A outer s H vs Q E hr h => ?_)
  · obtain ⟨j, e, x, fl, ws, b, rfl, _⟩ := h
    rfl
  · refine ⟨_, (pss_cons (ps_if (pt_cmpR op_in_seq (pv 0) (pe_tup (pa_cons pe_int (pa_cons pe_int pa_nil))) (by rfl))
        (pss_one (ps_ret (pe_lst (pa_cons (pe_exf (pv 1)) pa_nil))))
        pss_nil)
      (pss_cons (ps_if (pt_cmpR op_in_seq (pv 0) (pe_tup (pa_cons pe_int pa_nil)) (by rfl))
        (pss_one (ps_ret (pe_lst (pa_cons (pe_exf (pv 1)) pa_nil))))
        pss_nil)
      (pss_cons (ps_if (pt_cmpR op_in_seq (pv 0) (pe_tup (pa_cons pe_int pa_nil)) (by rfl))
        (pss_one (ps_ret (pe_lst (pa_cons (pe_exf (pv 1)) (pa_cons (pe_exf (pv 1)) pa_nil)))))
        pss_nil)
      (pss_cons (ps_if (pt_cmpR op_in_seq (pv 0) (pe_tup (pa_cons pe_int (pa_cons pe_int (pa_cons pe_int (pa_cons pe_int pa_nil))))) (by rfl))
        (pss_one (ps_ret (pe_lst pa_nil)))
        pss_nil)
      (pss_cons (ps_if (pt_cmpR op_in_seq (pv 0) (pe_tup (pa_cons pe_int (pa_cons pe_int (pa_cons pe_int (pa_cons pe_int pa_nil))))) (by rfl))
        (pss_one (ps_ret (pe_lst (pa_cons (pe_exf (pv 1)) pa_nil))))
        pss_nil)
      (pss_cons (ps_if (pt_cmpR op_in_seq (pv 0) (pe_tup (pa_cons pe_int pa_nil)) (by rfl))
        (pss_one (ps_ret (pe_lst (pa_cons (pe_exf (pv 1)) (pa_cons (pe_exf (pv 1)) pa_nil)))))
        pss_nil)
      (pss_cons (ps_if (pt_cmpR op_in_seq (pv 0) (pe_tup (pa_cons pe_int pa_nil)) (by rfl))
        (pss_one (ps_ret (pe_lst (pa_cons (pe_exf (pv 1)) pa_nil))))
        pss_nil)
      (pss_cons (ps_if (pt_cmpR op_in_seq (pv 0) (pe_tup (pa_cons pe_int (pa_cons pe_int (pa_cons pe_int pa_nil)))) (by rfl))
        (pss_one (ps_ret (pe_lst (pa_cons (pe_exf (pv 1)) pa_nil))))
        pss_nil)
      (pss_cons (ps_if (pt_cmpR op_in_seq (pv 0) (pe_tup (pa_cons pe_int pa_nil)) (by rfl))
        (pss_one (ps_ret (pe_lst (pa_cons (pe_exf (pv 1)) (pa_cons (pe_exf (pv 1)) pa_nil)))))
        pss_nil)
      (pss_cons (ps_if (pt_cmpR op_in_seq (pv 0) (pe_tup (pa_cons pe_int pa_nil)) (by rfl))
        (pss_one (ps_ret (pe_lst (pa_cons (pe_exf (pv 1)) pa_nil))))
        pss_nil)
      (pss_one (ps_ret (pe_lst (pa_cons (pe_exf (pv 1)) pa_nil)))))))))))))), ?_⟩
    obtain ⟨j, e, x, fl, ws, b, rfl, hj, hc, hw, xa, q⟩ := h
    have k0 := Same.refl H
    refine ⟨_, rfl, ⟨(by show 2 ≤ sizeLine; decide), fun p0 h0 => ?_⟩⟩
    have k1 := k0.trans (Same.upd (o := .tup [.int 38, .int 39]) h0)
    refine ⟨p0, [.int 38, .int 39], rfl, .inr (SqT.of upd_same), rfl, rfl, _, rfl, ?_⟩
    refine ite2 (fun hy => ?_) (fun hn0 => ?_)
    · have hd : j = 38 ∨ j = 39 := by
        have z : inV (.int (j : Int)) [.int 38, .int 39] = true := hy
        simp [inV, eqV] at z
        omega
      have hf : fl = [("index" : Str)] := CN_f (gl := [("index" : Str)]) hc (by rcases hd with rfl | rfl <;> decide +kernel)
      subst hf
      obtain ⟨v, rfl, l1⟩ := fld1 hw
      refine ⟨_, rfl, e, C j, _, b, [C0], v, rfl, xa.same k1, Z.xc hj, Z.no hc (by simp), l1, ?_⟩
      exact ⟨(by show 1 ≤ sizeLine; decide), fun p hp => q p _ (k1.free hp) (k1.trans (Same.upd hp)) upd_same⟩
    refine ⟨_, rfl, ⟨(by show 1 ≤ sizeLine; decide), fun p1 h1 => ?_⟩⟩
    have k2 := k1.trans (Same.upd (o := .tup [.int 40]) h1)
    refine ⟨p1, [.int 40], rfl, .inr (SqT.of upd_same), rfl, rfl, _, rfl, ?_⟩
    refine ite2 (fun hy => ?_) (fun hn1 => ?_)
    · have hd : j = 40 := by
        have z : inV (.int (j : Int)) [.int 40] = true := hy
        simp [inV, eqV] at z
        omega
      have hf : fl = [("filling" : Str)] := CN_f (gl := [("filling" : Str)]) hc (by subst hd; decide +kernel)
      subst hf
      obtain ⟨v, rfl, l1⟩ := fld1 hw
      refine ⟨_, rfl, e, C j, _, b, [C0], v, rfl, xa.same k2, Z.xc hj, Z.no hc (by simp), l1, ?_⟩
      exact ⟨(by show 1 ≤ sizeLine; decide), fun p hp => q p _ (k2.free hp) (k2.trans (Same.upd hp)) upd_same⟩
    refine ⟨_, rfl, ⟨(by show 1 ≤ sizeLine; decide), fun p2 h2 => ?_⟩⟩
    have k3 := k2.trans (Same.upd (o := .tup [.int 41]) h2)
    refine ⟨p2, [.int 41], rfl, .inr (SqT.of upd_same), rfl, rfl, _, rfl, ?_⟩
    refine ite2 (fun hy => ?_) (fun hn2 => ?_)
    · have hd : j = 41 := by
        have z : inV (.int (j : Int)) [.int 41] = true := hy
        simp [inV, eqV] at z
        omega
      have hf : fl = [("state" : Str), ("sign" : Str)] := CN_f (gl := [("state" : Str), ("sign" : Str)]) hc (by subst hd; decide +kernel)
      subst hf
      obtain ⟨v, u, rfl, l1, l2⟩ := fld2 (by decide +kernel) hw
      refine ⟨_, rfl, e, C j, _, b, [C0], v, rfl, xa.same k3, Z.xc hj, Z.no hc (by simp), l1, _, rfl, e, C j, _, b, [C0], u, rfl, xa.same k3, Z.xc hj, Z.no hc (by simp), l2, ?_⟩
      exact ⟨(by show 2 ≤ sizeLine; decide), fun p hp => q p _ (k3.free hp) (k3.trans (Same.upd hp)) upd_same⟩
    refine ⟨_, rfl, ⟨(by show 4 ≤ sizeLine; decide), fun p3 h3 => ?_⟩⟩
    have k4 := k3.trans (Same.upd (o := .tup [.int 42, .int 43, .int 44, .int 45]) h3)
    refine ⟨p3, [.int 42, .int 43, .int 44, .int 45], rfl, .inr (SqT.of upd_same), rfl, rfl, _, rfl, ?_⟩
    refine ite2 (fun hy => ?_) (fun hn3 => ?_)
    · have hd : j = 42 ∨ j = 43 ∨ j = 44 ∨ j = 45 := by
        have z : inV (.int (j : Int)) [.int 42, .int 43, .int 44, .int 45] = true := hy
        simp [inV, eqV] at z
        omega
      have hf : fl = [] := CN_f (gl := []) hc (by rcases hd with rfl | rfl | rfl | rfl <;> decide +kernel)
      subst hf
      obtain rfl : ws = [] := List.length_eq_zero_iff.mp hw
      exact ⟨Nat.zero_le _, fun p hp => q p _ (k4.free hp) (k4.trans (Same.upd hp)) upd_same⟩
    refine ⟨_, rfl, ⟨(by show 4 ≤ sizeLine; decide), fun p4 h4 => ?_⟩⟩
    have k5 := k4.trans (Same.upd (o := .tup [.int 46, .int 47, .int 51, .int 52]) h4)
    refine ⟨p4, [.int 46, .int 47, .int 51, .int 52], rfl, .inr (SqT.of upd_same), rfl, rfl, _, rfl, ?_⟩
    refine ite2 (fun hy => ?_) (fun hn4 => ?_)
    · have hd : j = 46 ∨ j = 47 ∨ j = 51 ∨ j = 52 := by
        have z : inV (.int (j : Int)) [.int 46, .int 47, .int 51, .int 52] = true := hy
        simp [inV, eqV] at z
        omega
      have hf : fl = [("count" : Str)] := CN_f (gl := [("count" : Str)]) hc (by rcases hd with rfl | rfl | rfl | rfl <;> decide +kernel)
      subst hf
      obtain ⟨v, rfl, l1⟩ := fld1 hw
      refine ⟨_, rfl, e, C j, _, b, [C0], v, rfl, xa.same k5, Z.xc hj, Z.no hc (by simp), l1, ?_⟩
      exact ⟨(by show 1 ≤ sizeLine; decide), fun p hp => q p _ (k5.free hp) (k5.trans (Same.upd hp)) upd_same⟩
    refine ⟨_, rfl, ⟨(by show 1 ≤ sizeLine; decide), fun p5 h5 => ?_⟩⟩
    have k6 := k5.trans (Same.upd (o := .tup [.int 48]) h5)
    refine ⟨p5, [.int 48], rfl, .inr (SqT.of upd_same), rfl, rfl, _, rfl, ?_⟩
    refine ite2 (fun hy => ?_) (fun hn5 => ?_)
    · have hd : j = 48 := by
        have z : inV (.int (j : Int)) [.int 48] = true := hy
        simp [inV, eqV] at z
        omega
      have hf : fl = [("one" : Str), ("other" : Str)] := CN_f (gl := [("one" : Str), ("other" : Str)]) hc (by subst hd; decide +kernel)
      subst hf
      obtain ⟨v, u, rfl, l1, l2⟩ := fld2 (by decide +kernel) hw
      refine ⟨_, rfl, e, C j, _, b, [C0], v, rfl, xa.same k6, Z.xc hj, Z.no hc (by simp), l1, _, rfl, e, C j, _, b, [C0], u, rfl, xa.same k6, Z.xc hj, Z.no hc (by simp), l2, ?_⟩
      exact ⟨(by show 2 ≤ sizeLine; decide), fun p hp => q p _ (k6.free hp) (k6.trans (Same.upd hp)) upd_same⟩
    refine ⟨_, rfl, ⟨(by show 1 ≤ sizeLine; decide), fun p6 h6 => ?_⟩⟩
    have k7 := k6.trans (Same.upd (o := .tup [.int 49]) h6)
    refine ⟨p6, [.int 49], rfl, .inr (SqT.of upd_same), rfl, rfl, _, rfl, ?_⟩
    refine ite2 (fun hy => ?_) (fun hn6 => ?_)
    · have hd : j = 49 := by
        have z : inV (.int (j : Int)) [.int 49] = true := hy
        simp [inV, eqV] at z
        omega
      have hf : fl = [("line" : Str)] := CN_f (gl := [("line" : Str)]) hc (by subst hd; decide +kernel)
      subst hf
      obtain ⟨v, rfl, l1⟩ := fld1 hw
      refine ⟨_, rfl, e, C j, _, b, [C0], v, rfl, xa.same k7, Z.xc hj, Z.no hc (by simp), l1, ?_⟩
      exact ⟨(by show 1 ≤ sizeLine; decide), fun p hp => q p _ (k7.free hp) (k7.trans (Same.upd hp)) upd_same⟩
    refine ⟨_, rfl, ⟨(by show 3 ≤ sizeLine; decide), fun p7 h7 => ?_⟩⟩
    have k8 := k7.trans (Same.upd (o := .tup [.int 50, .int 53, .int 55]) h7)
    refine ⟨p7, [.int 50, .int 53, .int 55], rfl, .inr (SqT.of upd_same), rfl, rfl, _, rfl, ?_⟩
    refine ite2 (fun hy => ?_) (fun hn7 => ?_)
    · have hd : j = 50 ∨ j = 53 ∨ j = 55 := by
        have z : inV (.int (j : Int)) [.int 50, .int 53, .int 55] = true := hy
        simp [inV, eqV] at z
        omega
      have hf : fl = [("name" : Str)] := CN_f (gl := [("name" : Str)]) hc (by rcases hd with rfl | rfl | rfl <;> decide +kernel)
      subst hf
      obtain ⟨v, rfl, l1⟩ := fld1 hw
      refine ⟨_, rfl, e, C j, _, b, [C0], v, rfl, xa.same k8, Z.xc hj, Z.no hc (by simp), l1, ?_⟩
      exact ⟨(by show 1 ≤ sizeLine; decide), fun p hp => q p _ (k8.free hp) (k8.trans (Same.upd hp)) upd_same⟩
    refine ⟨_, rfl, ⟨(by show 1 ≤ sizeLine; decide), fun p8 h8 => ?_⟩⟩
    have k9 := k8.trans (Same.upd (o := .tup [.int 54]) h8)
    refine ⟨p8, [.int 54], rfl, .inr (SqT.of upd_same), rfl, rfl, _, rfl, ?_⟩
    refine ite2 (fun hy => ?_) (fun hn8 => ?_)
    · have hd : j = 54 := by
        have z : inV (.int (j : Int)) [.int 54] = true := hy
        simp [inV, eqV] at z
        omega
      have hf : fl = [("filling" : Str), ("place" : Str)] := CN_f (gl := [("filling" : Str), ("place" : Str)]) hc (by subst hd; decide +kernel)
      subst hf
      obtain ⟨v, u, rfl, l1, l2⟩ := fld2 (by decide +kernel) hw
      refine ⟨_, rfl, e, C j, _, b, [C0], v, rfl, xa.same k9, Z.xc hj, Z.no hc (by simp), l1, _, rfl, e, C j, _, b, [C0], u, rfl, xa.same k9, Z.xc hj, Z.no hc (by simp), l2, ?_⟩
      exact ⟨(by show 2 ≤ sizeLine; decide), fun p hp => q p _ (k9.free hp) (k9.trans (Same.upd hp)) upd_same⟩
    refine ⟨_, rfl, ⟨(by show 1 ≤ sizeLine; decide), fun p9 h9 => ?_⟩⟩
    have k10 := k9.trans (Same.upd (o := .tup [.int 56]) h9)
    refine ⟨p9, [.int 56], rfl, .inr (SqT.of upd_same), rfl, rfl, _, rfl, ?_⟩
    refine ite2 (fun hy => ?_) (fun hn9 => ?_)
    · have hd : j = 56 := by
        have z : inV (.int (j : Int)) [.int 56] = true := hy
        simp [inV, eqV] at z
        omega
      have hf : fl = [("state" : Str)] := CN_f (gl := [("state" : Str)]) hc (by subst hd; decide +kernel)
      subst hf
      obtain ⟨v, rfl, l1⟩ := fld1 hw
      refine ⟨_, rfl, e, C j, _, b, [C0], v, rfl, xa.same k10, Z.xc hj, Z.no hc (by simp), l1, ?_⟩
      exact ⟨(by show 1 ≤ sizeLine; decide), fun p hp => q p _ (k10.free hp) (k10.trans (Same.upd hp)) upd_same⟩
    have hf : fl = [("given" : Str)] := by
      have all : ∀ j < 57, j ∉ [38, 39, 40, 41, 42, 43, 44, 45, 46, 47, 51, 52, 48, 49, 50, 53, 55, 54, 56] → (CN[j]?).map (·.2) = some [("given" : Str)] := by decide +kernel
      refine CN_f (gl := [("given" : Str)]) hc (all j hj fun hm => ?_)
      have z0 : ¬ (inV (.int (j : Int)) [.int 38, .int 39] = true) := hn0
      have z1 : ¬ (inV (.int (j : Int)) [.int 40] = true) := hn1
      have z2 : ¬ (inV (.int (j : Int)) [.int 41] = true) := hn2
      have z3 : ¬ (inV (.int (j : Int)) [.int 42, .int 43, .int 44, .int 45] = true) := hn3
      have z4 : ¬ (inV (.int (j : Int)) [.int 46, .int 47, .int 51, .int 52] = true) := hn4
      have z5 : ¬ (inV (.int (j : Int)) [.int 48] = true) := hn5
      have z6 : ¬ (inV (.int (j : Int)) [.int 49] = true) := hn6
      have z7 : ¬ (inV (.int (j : Int)) [.int 50, .int 53, .int 55] = true) := hn7
      have z8 : ¬ (inV (.int (j : Int)) [.int 54] = true) := hn8
      have z9 : ¬ (inV (.int (j : Int)) [.int 56] = true) := hn9
      simp [inV, eqV] at z0 z1 z2 z3 z4 z5 z6 z7 z8 z9
      simp at hm
      omega
    subst hf
    obtain ⟨v, rfl, l1⟩ := fld1 hw
    refine ⟨_, rfl, e, C j, _, b, [C0], v, rfl, xa.same k10, Z.xc hj, Z.no hc (by simp), l1, ?_⟩
    exact ⟨(by show 1 ≤ sizeLine; decide), fun p hp => q p _ (k10.free hp) (k10.trans (Same.upd hp)) upd_same⟩
end
end L2.K9

set_option Elab.async false
set_option linter.all false
set_option maxRecDepth 100000
set_option maxHeartbeats 8000000
/-! _law_made_2, _law_made_1, _law_made_0. -/
namespace L2.K9
open PySem PySem.Spec PyProof.Rows L2
theorem Paired.rev {α β : Type} {F : α → β → Prop} : ∀ {l : List α} {r : List β}, Paired F l r → Paired F l.reverse r.reverse
  | _, _, .nil => .nil
  | _, _, .cons h t => by
    rw [List.reverse_cons, List.reverse_cons]
    exact Paired.snoc (Paired.rev t) h
theorem vals_rev {vs : List V} {us : List Value} (h : Vals vs us) : Vals (List.reverse vs) (List.reverse us) := Paired.rev h
theorem CN_eq {j : Nat} {x y : Str} {fl gl : List Str} (h : CN[j]? = some (x, fl)) (e : CN[j]? = some (y, gl)) : y = x ∧ gl = fl := by
  rw [h] at e
  have q := Option.some.inj e
  exact ⟨(congrArg Prod.fst q).symm, (congrArg Prod.snd q).symm⟩
theorem not_int {j i : Nat} (h : ¬ decide (V.int (j : Int) = V.int (i : Int)) = true) : j ≠ i := fun e => h (by rw [e]; exact decide_eq_true rfl)
theorem is_int {j i : Nat} (h : decide (V.int (j : Int) = V.int (i : Int)) = true) : j = i := by
  have e := V.int.inj (of_decide_eq_true h)
  omega
def spMade (C : Nat → Addr) (lo : Nat) : Sp := fun vs H Q _ => ∃ (j : Nat) (one other : V) (b : Bool) (x : Str) (fl : List Str), vs = [.int (j : Int), one, other, .bl b] ∧ lo ≤ j ∧ j < 57 ∧ CN[j]? = some (x, fl) ∧
  ∀ e H', H e = none → Same H H' → ExAt H' e (C j) (flds fl ([one, other].take fl.length)) true → Q (.ref e) H'
section
variable {P : Program} {w : World} {K : PySem.W.Frag} {mg : Str → Option Value} {base : Heap} {C : Nat → Addr} {C0 : Addr}
abbrev sMade2 : Stmt := top 70
theorem scMade2 : FnScope ["k", "one", "other", "by_name"] ["k", "one", "other", "by_name"] (defScope sMade2) := ⟨rfl, rfl, rfl, by decide +kernel, rfl, by decide +kernel, by decide +kernel⟩
theorem ok_made2 {f : Addr} {fd : FuncData} (F : Fun K "_law_made_2" "_law_made_2" sMade2 f fd) (Z : Fam P w K mg base C C0) : FnOk P w K mg base CX0 3 f fd ["k", "one", "other", "by_name"] (spMade C 52) := by
  obtain ⟨fI52, fd52, X52⟩ := Z.c 52 "TooMany" ["count"] rfl
  obtain ⟨fI53, fd53, X53⟩ := Z.c 53 "TwiceNamed" ["name"] rfl
  obtain ⟨fI54, fd54, X54⟩ := Z.c 54 "Unfit" ["filling", "place"] rfl
  obtain ⟨fI55, fd55, X55⟩ := Z.c 55 "UnknownName" ["name"] rfl
  obtain ⟨fI56, fd56, X56⟩ := Z.c 56 "Unreached" ["state"] rfl
  refine F.ok scMade2 (fun vs H Q E h => ?_) (fun cdv A outer s H vs Q E hr h => ?_)
  · obtain ⟨j, one, other, b, x, fl, rfl, _⟩ := h
    rfl
  · have hr2 : Room 2 _ := hr.mono (by decide)
    refine ⟨_, (pss_cons (ps_if (pt_cmpR op_eq (pv 0) pe_int (nomark _))
        (pss_one (ps_ret (pe_ifExp (pt_val (pv 3)) (pe_mkxK (g := fun {_} => List.reverse) X52.m X52.f hr2 pass0 (by rfl) X52.bk vals_rev (pk_cons (pv 1) pk_nil)) (pe_mkx X52.m X52.f hr2 pass0 (by rfl) X52.bp (pa_cons (pv 1) pa_nil)))))
        pss_nil)
      (pss_cons (ps_if (pt_cmpR op_eq (pv 0) pe_int (nomark _))
        (pss_one (ps_ret (pe_ifExp (pt_val (pv 3)) (pe_mkxK (g := fun {_} => List.reverse) X53.m X53.f hr2 pass0 (by rfl) X53.bk vals_rev (pk_cons (pv 1) pk_nil)) (pe_mkx X53.m X53.f hr2 pass0 (by rfl) X53.bp (pa_cons (pv 1) pa_nil)))))
        pss_nil)
      (pss_cons (ps_if (pt_cmpR op_eq (pv 0) pe_int (nomark _))
        (pss_one (ps_ret (pe_ifExp (pt_val (pv 3)) (pe_mkxK (g := fun {_} => List.reverse) X54.m X54.f hr2 pass0 (by rfl) X54.bk vals_rev (pk_cons (pv 2) (pk_cons (pv 1) pk_nil))) (pe_mkx X54.m X54.f hr2 pass0 (by rfl) X54.bp (pa_cons (pv 1) (pa_cons (pv 2) pa_nil))))))
        pss_nil)
      (pss_cons (ps_if (pt_cmpR op_eq (pv 0) pe_int (nomark _))
        (pss_one (ps_ret (pe_ifExp (pt_val (pv 3)) (pe_mkxK (g := fun {_} => List.reverse) X55.m X55.f hr2 pass0 (by rfl) X55.bk vals_rev (pk_cons (pv 1) pk_nil)) (pe_mkx X55.m X55.f hr2 pass0 (by rfl) X55.bp (pa_cons (pv 1) pa_nil)))))
        pss_nil)
      (pss_cons (ps_if (pt_cmpR op_eq (pv 0) pe_int (nomark _))
        (pss_one (ps_ret (pe_ifExp (pt_val (pv 3)) (pe_mkxK (g := fun {_} => List.reverse) X56.m X56.f hr2 pass0 (by rfl) X56.bk vals_rev (pk_cons (pv 1) pk_nil)) (pe_mkx X56.m X56.f hr2 pass0 (by rfl) X56.bp (pa_cons (pv 1) pa_nil)))))
        pss_nil)
      (pss_one (ps_ret pe_non))))))), ?_⟩
    obtain ⟨j, one, other, b, x, fl, rfl, b52, hj, hc, q⟩ := h
    refine ⟨_, rfl, rfl, _, rfl, ?_⟩
    refine ite2 (fun hy => ?_) (fun hn => ?_)
    · obtain rfl := is_int (i := 52) hy
      obtain ⟨rfl, rfl⟩ := CN_eq (y := "TooMany") (gl := [("count" : Str)]) hc rfl
      refine ⟨_, rfl, _, rfl, ?_⟩
      exact ite2 (fun _ => ⟨_, rfl, rfl, (by show 1 ≤ 1000; decide), fun a H2 n k xa => q a H2 n k xa⟩) (fun _ => ⟨_, rfl, rfl, (by show 1 ≤ 1000; decide), fun a H2 n k xa => q a H2 n k xa⟩)
    have n52 := not_int (i := 52) hn
    have b53 : 53 ≤ j := by omega
    clear hn b52 n52
    refine ⟨_, rfl, rfl, _, rfl, ?_⟩
    refine ite2 (fun hy => ?_) (fun hn => ?_)
    · obtain rfl := is_int (i := 53) hy
      obtain ⟨rfl, rfl⟩ := CN_eq (y := "TwiceNamed") (gl := [("name" : Str)]) hc rfl
      refine ⟨_, rfl, _, rfl, ?_⟩
      exact ite2 (fun _ => ⟨_, rfl, rfl, (by show 1 ≤ 1000; decide), fun a H2 n k xa => q a H2 n k xa⟩) (fun _ => ⟨_, rfl, rfl, (by show 1 ≤ 1000; decide), fun a H2 n k xa => q a H2 n k xa⟩)
    have n53 := not_int (i := 53) hn
    have b54 : 54 ≤ j := by omega
    clear hn b53 n53
    refine ⟨_, rfl, rfl, _, rfl, ?_⟩
    refine ite2 (fun hy => ?_) (fun hn => ?_)
    · obtain rfl := is_int (i := 54) hy
      obtain ⟨rfl, rfl⟩ := CN_eq (y := "Unfit") (gl := [("filling" : Str), ("place" : Str)]) hc rfl
      refine ⟨_, rfl, _, rfl, ?_⟩
      exact ite2 (fun _ => ⟨_, rfl, _, rfl, rfl, (by show 2 ≤ 1000; decide), fun a H2 n k xa => q a H2 n k xa⟩) (fun _ => ⟨_, rfl, _, rfl, rfl, (by show 2 ≤ 1000; decide), fun a H2 n k xa => q a H2 n k xa⟩)
    have n54 := not_int (i := 54) hn
    have b55 : 55 ≤ j := by omega
    clear hn b54 n54
    refine ⟨_, rfl, rfl, _, rfl, ?_⟩
    refine ite2 (fun hy => ?_) (fun hn => ?_)
    · obtain rfl := is_int (i := 55) hy
      obtain ⟨rfl, rfl⟩ := CN_eq (y := "UnknownName") (gl := [("name" : Str)]) hc rfl
      refine ⟨_, rfl, _, rfl, ?_⟩
      exact ite2 (fun _ => ⟨_, rfl, rfl, (by show 1 ≤ 1000; decide), fun a H2 n k xa => q a H2 n k xa⟩) (fun _ => ⟨_, rfl, rfl, (by show 1 ≤ 1000; decide), fun a H2 n k xa => q a H2 n k xa⟩)
    have n55 := not_int (i := 55) hn
    have b56 : 56 ≤ j := by omega
    clear hn b55 n55
    refine ⟨_, rfl, rfl, _, rfl, ?_⟩
    refine ite2 (fun hy => ?_) (fun hn => ?_)
    · obtain rfl := is_int (i := 56) hy
      obtain ⟨rfl, rfl⟩ := CN_eq (y := "Unreached") (gl := [("state" : Str)]) hc rfl
      refine ⟨_, rfl, _, rfl, ?_⟩
      exact ite2 (fun _ => ⟨_, rfl, rfl, (by show 1 ≤ 1000; decide), fun a H2 n k xa => q a H2 n k xa⟩) (fun _ => ⟨_, rfl, rfl, (by show 1 ≤ 1000; decide), fun a H2 n k xa => q a H2 n k xa⟩)
    have n56 := not_int (i := 56) hn
    have b57 : 57 ≤ j := by omega
    clear hn b56 n56
    omega
abbrev sMade1 : Stmt := top 69
theorem scMade1 : FnScope ["k", "one", "other", "by_name"] ["k", "one", "other", "by_name"] (defScope sMade1) := ⟨rfl, rfl, rfl, by decide +kernel, rfl, by decide +kernel, by decide +kernel⟩
theorem ok_made1 {f : Addr} {fd : FuncData} (F : Fun K "_law_made_1" "_law_made_1" sMade1 f fd) (Z : Fam P w K mg base C C0) {fN : Addr} {fdN : FuncData} (FN : Fun K "_law_made_2" "_law_made_2" sMade2 fN fdN) (mgN : mg "_law_made_2" = some (.ref fN)) (bN : Binds K fdN ["k", "one", "other", "by_name"] []) (GN : FnOk P w K mg base CX0 3 fN fdN ["k", "one", "other", "by_name"] (spMade C 52)) : FnOk P w K mg base CX0 4 f fd ["k", "one", "other", "by_name"] (spMade C 26) := by
  obtain ⟨fI26, fd26, X26⟩ := Z.c 26 "InvalidRoads" ["given"] rfl
  obtain ⟨fI27, fd27, X27⟩ := Z.c 27 "InvalidRoute" ["given"] rfl
  obtain ⟨fI28, fd28, X28⟩ := Z.c 28 "InvalidRows" ["given"] rfl
  obtain ⟨fI29, fd29, X29⟩ := Z.c 29 "InvalidSign" ["given"] rfl
  obtain ⟨fI30, fd30, X30⟩ := Z.c 30 "InvalidState" ["given"] rfl
  obtain ⟨fI31, fd31, X31⟩ := Z.c 31 "InvalidString" ["given"] rfl
  obtain ⟨fI32, fd32, X32⟩ := Z.c 32 "InvalidText" ["given"] rfl
  obtain ⟨fI33, fd33, X33⟩ := Z.c 33 "InvalidTriple" ["given"] rfl
  obtain ⟨fI34, fd34, X34⟩ := Z.c 34 "InvalidTriples" ["given"] rfl
  obtain ⟨fI35, fd35, X35⟩ := Z.c 35 "InvalidTruths" ["given"] rfl
  obtain ⟨fI36, fd36, X36⟩ := Z.c 36 "InvalidWithin" ["given"] rfl
  obtain ⟨fI37, fd37, X37⟩ := Z.c 37 "InvalidWord" ["given"] rfl
  obtain ⟨fI38, fd38, X38⟩ := Z.c 38 "InvalidClaim" ["index"] rfl
  obtain ⟨fI39, fd39, X39⟩ := Z.c 39 "InvalidRecord" ["index"] rfl
  obtain ⟨fI40, fd40, X40⟩ := Z.c 40 "BreaksOut" ["filling"] rfl
  obtain ⟨fI41, fd41, X41⟩ := Z.c 41 "Mixed" ["state", "sign"] rfl
  obtain ⟨fI42, fd42, X42⟩ := Z.c 42 "NoChains" [] rfl
  obtain ⟨fI43, fd43, X43⟩ := Z.c 43 "NotAtEnd" [] rfl
  obtain ⟨fI44, fd44, X44⟩ := Z.c 44 "NothingToRedo" [] rfl
  obtain ⟨fI45, fd45, X45⟩ := Z.c 45 "NothingToUndo" [] rfl
  obtain ⟨fI46, fd46, X46⟩ := Z.c 46 "NotOneHole" ["count"] rfl
  obtain ⟨fI47, fd47, X47⟩ := Z.c 47 "NotRead" ["count"] rfl
  obtain ⟨fI48, fd48, X48⟩ := Z.c 48 "OtherSigns" ["one", "other"] rfl
  obtain ⟨fI49, fd49, X49⟩ := Z.c 49 "Refused" ["line"] rfl
  obtain ⟨fI50, fd50, X50⟩ := Z.c 50 "TakenName" ["name"] rfl
  obtain ⟨fI51, fd51, X51⟩ := Z.c 51 "TooLong" ["count"] rfl
  refine F.ok scMade1 (fun vs H Q E h => ?_) (fun cdv A outer s H vs Q E hr h => ?_)
  · obtain ⟨j, one, other, b, x, fl, rfl, _⟩ := h
    rfl
  · have hr2 : Room 2 _ := hr.mono (by decide)
    have hrN : Room 3 _ := hr
    refine ⟨_, (pss_cons (ps_if (pt_cmpR op_eq (pv 0) pe_int (nomark _))
        (pss_one (ps_ret (pe_ifExp (pt_val (pv 3)) (pe_mkxK (g := fun {_} => List.reverse) X26.m X26.f hr2 pass0 (by rfl) X26.bk vals_rev (pk_cons (pv 1) pk_nil)) (pe_mkx X26.m X26.f hr2 pass0 (by rfl) X26.bp (pa_cons (pv 1) pa_nil)))))
        pss_nil)
      (pss_cons (ps_if (pt_cmpR op_eq (pv 0) pe_int (nomark _))
        (pss_one (ps_ret (pe_ifExp (pt_val (pv 3)) (pe_mkxK (g := fun {_} => List.reverse) X27.m X27.f hr2 pass0 (by rfl) X27.bk vals_rev (pk_cons (pv 1) pk_nil)) (pe_mkx X27.m X27.f hr2 pass0 (by rfl) X27.bp (pa_cons (pv 1) pa_nil)))))
        pss_nil)
      (pss_cons (ps_if (pt_cmpR op_eq (pv 0) pe_int (nomark _))
        (pss_one (ps_ret (pe_ifExp (pt_val (pv 3)) (pe_mkxK (g := fun {_} => List.reverse) X28.m X28.f hr2 pass0 (by rfl) X28.bk vals_rev (pk_cons (pv 1) pk_nil)) (pe_mkx X28.m X28.f hr2 pass0 (by rfl) X28.bp (pa_cons (pv 1) pa_nil)))))
        pss_nil)
      (pss_cons (ps_if (pt_cmpR op_eq (pv 0) pe_int (nomark _))
        (pss_one (ps_ret (pe_ifExp (pt_val (pv 3)) (pe_mkxK (g := fun {_} => List.reverse) X29.m X29.f hr2 pass0 (by rfl) X29.bk vals_rev (pk_cons (pv 1) pk_nil)) (pe_mkx X29.m X29.f hr2 pass0 (by rfl) X29.bp (pa_cons (pv 1) pa_nil)))))
        pss_nil)
      (pss_cons (ps_if (pt_cmpR op_eq (pv 0) pe_int (nomark _))
        (pss_one (ps_ret (pe_ifExp (pt_val (pv 3)) (pe_mkxK (g := fun {_} => List.reverse) X30.m X30.f hr2 pass0 (by rfl) X30.bk vals_rev (pk_cons (pv 1) pk_nil)) (pe_mkx X30.m X30.f hr2 pass0 (by rfl) X30.bp (pa_cons (pv 1) pa_nil)))))
        pss_nil)
      (pss_cons (ps_if (pt_cmpR op_eq (pv 0) pe_int (nomark _))
        (pss_one (ps_ret (pe_ifExp (pt_val (pv 3)) (pe_mkxK (g := fun {_} => List.reverse) X31.m X31.f hr2 pass0 (by rfl) X31.bk vals_rev (pk_cons (pv 1) pk_nil)) (pe_mkx X31.m X31.f hr2 pass0 (by rfl) X31.bp (pa_cons (pv 1) pa_nil)))))
        pss_nil)
      (pss_cons (ps_if (pt_cmpR op_eq (pv 0) pe_int (nomark _))
        (pss_one (ps_ret (pe_ifExp (pt_val (pv 3)) (pe_mkxK (g := fun {_} => List.reverse) X32.m X32.f hr2 pass0 (by rfl) X32.bk vals_rev (pk_cons (pv 1) pk_nil)) (pe_mkx X32.m X32.f hr2 pass0 (by rfl) X32.bp (pa_cons (pv 1) pa_nil)))))
        pss_nil)
      (pss_cons (ps_if (pt_cmpR op_eq (pv 0) pe_int (nomark _))
        (pss_one (ps_ret (pe_ifExp (pt_val (pv 3)) (pe_mkxK (g := fun {_} => List.reverse) X33.m X33.f hr2 pass0 (by rfl) X33.bk vals_rev (pk_cons (pv 1) pk_nil)) (pe_mkx X33.m X33.f hr2 pass0 (by rfl) X33.bp (pa_cons (pv 1) pa_nil)))))
        pss_nil)
      (pss_cons (ps_if (pt_cmpR op_eq (pv 0) pe_int (nomark _))
        (pss_one (ps_ret (pe_ifExp (pt_val (pv 3)) (pe_mkxK (g := fun {_} => List.reverse) X34.m X34.f hr2 pass0 (by rfl) X34.bk vals_rev (pk_cons (pv 1) pk_nil)) (pe_mkx X34.m X34.f hr2 pass0 (by rfl) X34.bp (pa_cons (pv 1) pa_nil)))))
        pss_nil)
      (pss_cons (ps_if (pt_cmpR op_eq (pv 0) pe_int (nomark _))
        (pss_one (ps_ret (pe_ifExp (pt_val (pv 3)) (pe_mkxK (g := fun {_} => List.reverse) X35.m X35.f hr2 pass0 (by rfl) X35.bk vals_rev (pk_cons (pv 1) pk_nil)) (pe_mkx X35.m X35.f hr2 pass0 (by rfl) X35.bp (pa_cons (pv 1) pa_nil)))))
        pss_nil)
      (pss_cons (ps_if (pt_cmpR op_eq (pv 0) pe_int (nomark _))
        (pss_one (ps_ret (pe_ifExp (pt_val (pv 3)) (pe_mkxK (g := fun {_} => List.reverse) X36.m X36.f hr2 pass0 (by rfl) X36.bk vals_rev (pk_cons (pv 1) pk_nil)) (pe_mkx X36.m X36.f hr2 pass0 (by rfl) X36.bp (pa_cons (pv 1) pa_nil)))))
        pss_nil)
      (pss_cons (ps_if (pt_cmpR op_eq (pv 0) pe_int (nomark _))
        (pss_one (ps_ret (pe_ifExp (pt_val (pv 3)) (pe_mkxK (g := fun {_} => List.reverse) X37.m X37.f hr2 pass0 (by rfl) X37.bk vals_rev (pk_cons (pv 1) pk_nil)) (pe_mkx X37.m X37.f hr2 pass0 (by rfl) X37.bp (pa_cons (pv 1) pa_nil)))))
        pss_nil)
      (pss_cons (ps_if (pt_cmpR op_eq (pv 0) pe_int (nomark _))
        (pss_one (ps_ret (pe_ifExp (pt_val (pv 3)) (pe_mkxK (g := fun {_} => List.reverse) X38.m X38.f hr2 pass0 (by rfl) X38.bk vals_rev (pk_cons (pv 1) pk_nil)) (pe_mkx X38.m X38.f hr2 pass0 (by rfl) X38.bp (pa_cons (pv 1) pa_nil)))))
        pss_nil)
      (pss_cons (ps_if (pt_cmpR op_eq (pv 0) pe_int (nomark _))
        (pss_one (ps_ret (pe_ifExp (pt_val (pv 3)) (pe_mkxK (g := fun {_} => List.reverse) X39.m X39.f hr2 pass0 (by rfl) X39.bk vals_rev (pk_cons (pv 1) pk_nil)) (pe_mkx X39.m X39.f hr2 pass0 (by rfl) X39.bp (pa_cons (pv 1) pa_nil)))))
        pss_nil)
      (pss_cons (ps_if (pt_cmpR op_eq (pv 0) pe_int (nomark _))
        (pss_one (ps_ret (pe_ifExp (pt_val (pv 3)) (pe_mkxK (g := fun {_} => List.reverse) X40.m X40.f hr2 pass0 (by rfl) X40.bk vals_rev (pk_cons (pv 1) pk_nil)) (pe_mkx X40.m X40.f hr2 pass0 (by rfl) X40.bp (pa_cons (pv 1) pa_nil)))))
        pss_nil)
      (pss_cons (ps_if (pt_cmpR op_eq (pv 0) pe_int (nomark _))
        (pss_one (ps_ret (pe_ifExp (pt_val (pv 3)) (pe_mkxK (g := fun {_} => List.reverse) X41.m X41.f hr2 pass0 (by rfl) X41.bk vals_rev (pk_cons (pv 2) (pk_cons (pv 1) pk_nil))) (pe_mkx X41.m X41.f hr2 pass0 (by rfl) X41.bp (pa_cons (pv 1) (pa_cons (pv 2) pa_nil))))))
        pss_nil)
      (pss_cons (ps_if (pt_cmpR op_eq (pv 0) pe_int (nomark _))
        (pss_one (ps_ret (pe_mkx0 X42.m X42.f hr2 pass0 (by rfl) (fun s self => X42.bp s self [] rfl))))
        pss_nil)
      (pss_cons (ps_if (pt_cmpR op_eq (pv 0) pe_int (nomark _))
        (pss_one (ps_ret (pe_mkx0 X43.m X43.f hr2 pass0 (by rfl) (fun s self => X43.bp s self [] rfl))))
        pss_nil)
      (pss_cons (ps_if (pt_cmpR op_eq (pv 0) pe_int (nomark _))
        (pss_one (ps_ret (pe_mkx0 X44.m X44.f hr2 pass0 (by rfl) (fun s self => X44.bp s self [] rfl))))
        pss_nil)
      (pss_cons (ps_if (pt_cmpR op_eq (pv 0) pe_int (nomark _))
        (pss_one (ps_ret (pe_mkx0 X45.m X45.f hr2 pass0 (by rfl) (fun s self => X45.bp s self [] rfl))))
        pss_nil)
      (pss_cons (ps_if (pt_cmpR op_eq (pv 0) pe_int (nomark _))
        (pss_one (ps_ret (pe_ifExp (pt_val (pv 3)) (pe_mkxK (g := fun {_} => List.reverse) X46.m X46.f hr2 pass0 (by rfl) X46.bk vals_rev (pk_cons (pv 1) pk_nil)) (pe_mkx X46.m X46.f hr2 pass0 (by rfl) X46.bp (pa_cons (pv 1) pa_nil)))))
        pss_nil)
      (pss_cons (ps_if (pt_cmpR op_eq (pv 0) pe_int (nomark _))
        (pss_one (ps_ret (pe_ifExp (pt_val (pv 3)) (pe_mkxK (g := fun {_} => List.reverse) X47.m X47.f hr2 pass0 (by rfl) X47.bk vals_rev (pk_cons (pv 1) pk_nil)) (pe_mkx X47.m X47.f hr2 pass0 (by rfl) X47.bp (pa_cons (pv 1) pa_nil)))))
        pss_nil)
      (pss_cons (ps_if (pt_cmpR op_eq (pv 0) pe_int (nomark _))
        (pss_one (ps_ret (pe_ifExp (pt_val (pv 3)) (pe_mkxK (g := fun {_} => List.reverse) X48.m X48.f hr2 pass0 (by rfl) X48.bk vals_rev (pk_cons (pv 2) (pk_cons (pv 1) pk_nil))) (pe_mkx X48.m X48.f hr2 pass0 (by rfl) X48.bp (pa_cons (pv 1) (pa_cons (pv 2) pa_nil))))))
        pss_nil)
      (pss_cons (ps_if (pt_cmpR op_eq (pv 0) pe_int (nomark _))
        (pss_one (ps_ret (pe_ifExp (pt_val (pv 3)) (pe_mkxK (g := fun {_} => List.reverse) X49.m X49.f hr2 pass0 (by rfl) X49.bk vals_rev (pk_cons (pv 1) pk_nil)) (pe_mkx X49.m X49.f hr2 pass0 (by rfl) X49.bp (pa_cons (pv 1) pa_nil)))))
        pss_nil)
      (pss_cons (ps_if (pt_cmpR op_eq (pv 0) pe_int (nomark _))
        (pss_one (ps_ret (pe_ifExp (pt_val (pv 3)) (pe_mkxK (g := fun {_} => List.reverse) X50.m X50.f hr2 pass0 (by rfl) X50.bk vals_rev (pk_cons (pv 1) pk_nil)) (pe_mkx X50.m X50.f hr2 pass0 (by rfl) X50.bp (pa_cons (pv 1) pa_nil)))))
        pss_nil)
      (pss_cons (ps_if (pt_cmpR op_eq (pv 0) pe_int (nomark _))
        (pss_one (ps_ret (pe_ifExp (pt_val (pv 3)) (pe_mkxK (g := fun {_} => List.reverse) X51.m X51.f hr2 pass0 (by rfl) X51.bk vals_rev (pk_cons (pv 1) pk_nil)) (pe_mkx X51.m X51.f hr2 pass0 (by rfl) X51.bp (pa_cons (pv 1) pa_nil)))))
        pss_nil)
      (pss_one (ps_ret (by exact pe_call GN hrN (by rfl) mgN FN.kp bN .nil pass0 (pa_cons (pv 0) (pa_cons (pv 1) (pa_cons (pv 2) (pa_cons (pv 3) pa_nil))))))))))))))))))))))))))))))))), ?_⟩
    obtain ⟨j, one, other, b, x, fl, rfl, b26, hj, hc, q⟩ := h
    refine ⟨_, rfl, rfl, _, rfl, ?_⟩
    refine ite2 (fun hy => ?_) (fun hn => ?_)
    · obtain rfl := is_int (i := 26) hy
      obtain ⟨rfl, rfl⟩ := CN_eq (y := "InvalidRoads") (gl := [("given" : Str)]) hc rfl
      refine ⟨_, rfl, _, rfl, ?_⟩
      exact ite2 (fun _ => ⟨_, rfl, rfl, (by show 1 ≤ 1000; decide), fun a H2 n k xa => q a H2 n k xa⟩) (fun _ => ⟨_, rfl, rfl, (by show 1 ≤ 1000; decide), fun a H2 n k xa => q a H2 n k xa⟩)
    have n26 := not_int (i := 26) hn
    have b27 : 27 ≤ j := by omega
    clear hn b26 n26
    refine ⟨_, rfl, rfl, _, rfl, ?_⟩
    refine ite2 (fun hy => ?_) (fun hn => ?_)
    · obtain rfl := is_int (i := 27) hy
      obtain ⟨rfl, rfl⟩ := CN_eq (y := "InvalidRoute") (gl := [("given" : Str)]) hc rfl
      refine ⟨_, rfl, _, rfl, ?_⟩
      exact ite2 (fun _ => ⟨_, rfl, rfl, (by show 1 ≤ 1000; decide), fun a H2 n k xa => q a H2 n k xa⟩) (fun _ => ⟨_, rfl, rfl, (by show 1 ≤ 1000; decide), fun a H2 n k xa => q a H2 n k xa⟩)
    have n27 := not_int (i := 27) hn
    have b28 : 28 ≤ j := by omega
    clear hn b27 n27
    refine ⟨_, rfl, rfl, _, rfl, ?_⟩
    refine ite2 (fun hy => ?_) (fun hn => ?_)
    · obtain rfl := is_int (i := 28) hy
      obtain ⟨rfl, rfl⟩ := CN_eq (y := "InvalidRows") (gl := [("given" : Str)]) hc rfl
      refine ⟨_, rfl, _, rfl, ?_⟩
      exact ite2 (fun _ => ⟨_, rfl, rfl, (by show 1 ≤ 1000; decide), fun a H2 n k xa => q a H2 n k xa⟩) (fun _ => ⟨_, rfl, rfl, (by show 1 ≤ 1000; decide), fun a H2 n k xa => q a H2 n k xa⟩)
    have n28 := not_int (i := 28) hn
    have b29 : 29 ≤ j := by omega
    clear hn b28 n28
    refine ⟨_, rfl, rfl, _, rfl, ?_⟩
    refine ite2 (fun hy => ?_) (fun hn => ?_)
    · obtain rfl := is_int (i := 29) hy
      obtain ⟨rfl, rfl⟩ := CN_eq (y := "InvalidSign") (gl := [("given" : Str)]) hc rfl
      refine ⟨_, rfl, _, rfl, ?_⟩
      exact ite2 (fun _ => ⟨_, rfl, rfl, (by show 1 ≤ 1000; decide), fun a H2 n k xa => q a H2 n k xa⟩) (fun _ => ⟨_, rfl, rfl, (by show 1 ≤ 1000; decide), fun a H2 n k xa => q a H2 n k xa⟩)
    have n29 := not_int (i := 29) hn
    have b30 : 30 ≤ j := by omega
    clear hn b29 n29
    refine ⟨_, rfl, rfl, _, rfl, ?_⟩
    refine ite2 (fun hy => ?_) (fun hn => ?_)
    · obtain rfl := is_int (i := 30) hy
      obtain ⟨rfl, rfl⟩ := CN_eq (y := "InvalidState") (gl := [("given" : Str)]) hc rfl
      refine ⟨_, rfl, _, rfl, ?_⟩
      exact ite2 (fun _ => ⟨_, rfl, rfl, (by show 1 ≤ 1000; decide), fun a H2 n k xa => q a H2 n k xa⟩) (fun _ => ⟨_, rfl, rfl, (by show 1 ≤ 1000; decide), fun a H2 n k xa => q a H2 n k xa⟩)
    have n30 := not_int (i := 30) hn
    have b31 : 31 ≤ j := by omega
    clear hn b30 n30
    refine ⟨_, rfl, rfl, _, rfl, ?_⟩
    refine ite2 (fun hy => ?_) (fun hn => ?_)
    · obtain rfl := is_int (i := 31) hy
      obtain ⟨rfl, rfl⟩ := CN_eq (y := "InvalidString") (gl := [("given" : Str)]) hc rfl
      refine ⟨_, rfl, _, rfl, ?_⟩
      exact ite2 (fun _ => ⟨_, rfl, rfl, (by show 1 ≤ 1000; decide), fun a H2 n k xa => q a H2 n k xa⟩) (fun _ => ⟨_, rfl, rfl, (by show 1 ≤ 1000; decide), fun a H2 n k xa => q a H2 n k xa⟩)
    have n31 := not_int (i := 31) hn
    have b32 : 32 ≤ j := by omega
    clear hn b31 n31
    refine ⟨_, rfl, rfl, _, rfl, ?_⟩
    refine ite2 (fun hy => ?_) (fun hn => ?_)
    · obtain rfl := is_int (i := 32) hy
      obtain ⟨rfl, rfl⟩ := CN_eq (y := "InvalidText") (gl := [("given" : Str)]) hc rfl
      refine ⟨_, rfl, _, rfl, ?_⟩
      exact ite2 (fun _ => ⟨_, rfl, rfl, (by show 1 ≤ 1000; decide), fun a H2 n k xa => q a H2 n k xa⟩) (fun _ => ⟨_, rfl, rfl, (by show 1 ≤ 1000; decide), fun a H2 n k xa => q a H2 n k xa⟩)
    have n32 := not_int (i := 32) hn
    have b33 : 33 ≤ j := by omega
    clear hn b32 n32
    refine ⟨_, rfl, rfl, _, rfl, ?_⟩
    refine ite2 (fun hy => ?_) (fun hn => ?_)
    · obtain rfl := is_int (i := 33) hy
      obtain ⟨rfl, rfl⟩ := CN_eq (y := "InvalidTriple") (gl := [("given" : Str)]) hc rfl
      refine ⟨_, rfl, _, rfl, ?_⟩
      exact ite2 (fun _ => ⟨_, rfl, rfl, (by show 1 ≤ 1000; decide), fun a H2 n k xa => q a H2 n k xa⟩) (fun _ => ⟨_, rfl, rfl, (by show 1 ≤ 1000; decide), fun a H2 n k xa => q a H2 n k xa⟩)
    have n33 := not_int (i := 33) hn
    have b34 : 34 ≤ j := by omega
    clear hn b33 n33
    refine ⟨_, rfl, rfl, _, rfl, ?_⟩
    refine ite2 (fun hy => ?_) (fun hn => ?_)
    · obtain rfl := is_int (i := 34) hy
      obtain ⟨rfl, rfl⟩ := CN_eq (y := "InvalidTriples") (gl := [("given" : Str)]) hc rfl
      refine ⟨_, rfl, _, rfl, ?_⟩
      exact ite2 (fun _ => ⟨_, rfl, rfl, (by show 1 ≤ 1000; decide), fun a H2 n k xa => q a H2 n k xa⟩) (fun _ => ⟨_, rfl, rfl, (by show 1 ≤ 1000; decide), fun a H2 n k xa => q a H2 n k xa⟩)
    have n34 := not_int (i := 34) hn
    have b35 : 35 ≤ j := by omega
    clear hn b34 n34
    refine ⟨_, rfl, rfl, _, rfl, ?_⟩
    refine ite2 (fun hy => ?_) (fun hn => ?_)
    · obtain rfl := is_int (i := 35) hy
      obtain ⟨rfl, rfl⟩ := CN_eq (y := "InvalidTruths") (gl := [("given" : Str)]) hc rfl
      refine ⟨_, rfl, _, rfl, ?_⟩
      exact ite2 (fun _ => ⟨_, rfl, rfl, (by show 1 ≤ 1000; decide), fun a H2 n k xa => q a H2 n k xa⟩) (fun _ => ⟨_, rfl, rfl, (by show 1 ≤ 1000; decide), fun a H2 n k xa => q a H2 n k xa⟩)
    have n35 := not_int (i := 35) hn
    have b36 : 36 ≤ j := by omega
    clear hn b35 n35
    refine ⟨_, rfl, rfl, _, rfl, ?_⟩
    refine ite2 (fun hy => ?_) (fun hn => ?_)
    · obtain rfl := is_int (i := 36) hy
      obtain ⟨rfl, rfl⟩ := CN_eq (y := "InvalidWithin") (gl := [("given" : Str)]) hc rfl
      refine ⟨_, rfl, _, rfl, ?_⟩
      exact ite2 (fun _ => ⟨_, rfl, rfl, (by show 1 ≤ 1000; decide), fun a H2 n k xa => q a H2 n k xa⟩) (fun _ => ⟨_, rfl, rfl, (by show 1 ≤ 1000; decide), fun a H2 n k xa => q a H2 n k xa⟩)
    have n36 := not_int (i := 36) hn
    have b37 : 37 ≤ j := by omega
    clear hn b36 n36
    refine ⟨_, rfl, rfl, _, rfl, ?_⟩
    refine ite2 (fun hy => ?_) (fun hn => ?_)
    · obtain rfl := is_int (i := 37) hy
      obtain ⟨rfl, rfl⟩ := CN_eq (y := "InvalidWord") (gl := [("given" : Str)]) hc rfl
      refine ⟨_, rfl, _, rfl, ?_⟩
      exact ite2 (fun _ => ⟨_, rfl, rfl, (by show 1 ≤ 1000; decide), fun a H2 n k xa => q a H2 n k xa⟩) (fun _ => ⟨_, rfl, rfl, (by show 1 ≤ 1000; decide), fun a H2 n k xa => q a H2 n k xa⟩)
    have n37 := not_int (i := 37) hn
    have b38 : 38 ≤ j := by omega
    clear hn b37 n37
    refine ⟨_, rfl, rfl, _, rfl, ?_⟩
    refine ite2 (fun hy => ?_) (fun hn => ?_)
    · obtain rfl := is_int (i := 38) hy
      obtain ⟨rfl, rfl⟩ := CN_eq (y := "InvalidClaim") (gl := [("index" : Str)]) hc rfl
      refine ⟨_, rfl, _, rfl, ?_⟩
      exact ite2 (fun _ => ⟨_, rfl, rfl, (by show 1 ≤ 1000; decide), fun a H2 n k xa => q a H2 n k xa⟩) (fun _ => ⟨_, rfl, rfl, (by show 1 ≤ 1000; decide), fun a H2 n k xa => q a H2 n k xa⟩)
    have n38 := not_int (i := 38) hn
    have b39 : 39 ≤ j := by omega
    clear hn b38 n38
    refine ⟨_, rfl, rfl, _, rfl, ?_⟩
    refine ite2 (fun hy => ?_) (fun hn => ?_)
    · obtain rfl := is_int (i := 39) hy
      obtain ⟨rfl, rfl⟩ := CN_eq (y := "InvalidRecord") (gl := [("index" : Str)]) hc rfl
      refine ⟨_, rfl, _, rfl, ?_⟩
      exact ite2 (fun _ => ⟨_, rfl, rfl, (by show 1 ≤ 1000; decide), fun a H2 n k xa => q a H2 n k xa⟩) (fun _ => ⟨_, rfl, rfl, (by show 1 ≤ 1000; decide), fun a H2 n k xa => q a H2 n k xa⟩)
    have n39 := not_int (i := 39) hn
    have b40 : 40 ≤ j := by omega
    clear hn b39 n39
    refine ⟨_, rfl, rfl, _, rfl, ?_⟩
    refine ite2 (fun hy => ?_) (fun hn => ?_)
    · obtain rfl := is_int (i := 40) hy
      obtain ⟨rfl, rfl⟩ := CN_eq (y := "BreaksOut") (gl := [("filling" : Str)]) hc rfl
      refine ⟨_, rfl, _, rfl, ?_⟩
      exact ite2 (fun _ => ⟨_, rfl, rfl, (by show 1 ≤ 1000; decide), fun a H2 n k xa => q a H2 n k xa⟩) (fun _ => ⟨_, rfl, rfl, (by show 1 ≤ 1000; decide), fun a H2 n k xa => q a H2 n k xa⟩)
    have n40 := not_int (i := 40) hn
    have b41 : 41 ≤ j := by omega
    clear hn b40 n40
    refine ⟨_, rfl, rfl, _, rfl, ?_⟩
    refine ite2 (fun hy => ?_) (fun hn => ?_)
    · obtain rfl := is_int (i := 41) hy
      obtain ⟨rfl, rfl⟩ := CN_eq (y := "Mixed") (gl := [("state" : Str), ("sign" : Str)]) hc rfl
      refine ⟨_, rfl, _, rfl, ?_⟩
      exact ite2 (fun _ => ⟨_, rfl, _, rfl, rfl, (by show 2 ≤ 1000; decide), fun a H2 n k xa => q a H2 n k xa⟩) (fun _ => ⟨_, rfl, _, rfl, rfl, (by show 2 ≤ 1000; decide), fun a H2 n k xa => q a H2 n k xa⟩)
    have n41 := not_int (i := 41) hn
    have b42 : 42 ≤ j := by omega
    clear hn b41 n41
    refine ⟨_, rfl, rfl, _, rfl, ?_⟩
    refine ite2 (fun hy => ?_) (fun hn => ?_)
    · obtain rfl := is_int (i := 42) hy
      obtain ⟨rfl, rfl⟩ := CN_eq (y := "NoChains") (gl := []) hc rfl
      exact ⟨rfl, (by show 0 ≤ 1000; decide), fun a H2 n k xa => q a H2 n k xa⟩
    have n42 := not_int (i := 42) hn
    have b43 : 43 ≤ j := by omega
    clear hn b42 n42
    refine ⟨_, rfl, rfl, _, rfl, ?_⟩
    refine ite2 (fun hy => ?_) (fun hn => ?_)
    · obtain rfl := is_int (i := 43) hy
      obtain ⟨rfl, rfl⟩ := CN_eq (y := "NotAtEnd") (gl := []) hc rfl
      exact ⟨rfl, (by show 0 ≤ 1000; decide), fun a H2 n k xa => q a H2 n k xa⟩
    have n43 := not_int (i := 43) hn
    have b44 : 44 ≤ j := by omega
    clear hn b43 n43
    refine ⟨_, rfl, rfl, _, rfl, ?_⟩
    refine ite2 (fun hy => ?_) (fun hn => ?_)
    · obtain rfl := is_int (i := 44) hy
      obtain ⟨rfl, rfl⟩ := CN_eq (y := "NothingToRedo") (gl := []) hc rfl
      exact ⟨rfl, (by show 0 ≤ 1000; decide), fun a H2 n k xa => q a H2 n k xa⟩
    have n44 := not_int (i := 44) hn
    have b45 : 45 ≤ j := by omega
    clear hn b44 n44
    refine ⟨_, rfl, rfl, _, rfl, ?_⟩
    refine ite2 (fun hy => ?_) (fun hn => ?_)
    · obtain rfl := is_int (i := 45) hy
      obtain ⟨rfl, rfl⟩ := CN_eq (y := "NothingToUndo") (gl := []) hc rfl
      exact ⟨rfl, (by show 0 ≤ 1000; decide), fun a H2 n k xa => q a H2 n k xa⟩
    have n45 := not_int (i := 45) hn
    have b46 : 46 ≤ j := by omega
    clear hn b45 n45
    refine ⟨_, rfl, rfl, _, rfl, ?_⟩
    refine ite2 (fun hy => ?_) (fun hn => ?_)
    · obtain rfl := is_int (i := 46) hy
      obtain ⟨rfl, rfl⟩ := CN_eq (y := "NotOneHole") (gl := [("count" : Str)]) hc rfl
      refine ⟨_, rfl, _, rfl, ?_⟩
      exact ite2 (fun _ => ⟨_, rfl, rfl, (by show 1 ≤ 1000; decide), fun a H2 n k xa => q a H2 n k xa⟩) (fun _ => ⟨_, rfl, rfl, (by show 1 ≤ 1000; decide), fun a H2 n k xa => q a H2 n k xa⟩)
    have n46 := not_int (i := 46) hn
    have b47 : 47 ≤ j := by omega
    clear hn b46 n46
    refine ⟨_, rfl, rfl, _, rfl, ?_⟩
    refine ite2 (fun hy => ?_) (fun hn => ?_)
    · obtain rfl := is_int (i := 47) hy
      obtain ⟨rfl, rfl⟩ := CN_eq (y := "NotRead") (gl := [("count" : Str)]) hc rfl
      refine ⟨_, rfl, _, rfl, ?_⟩
      exact ite2 (fun _ => ⟨_, rfl, rfl, (by show 1 ≤ 1000; decide), fun a H2 n k xa => q a H2 n k xa⟩) (fun _ => ⟨_, rfl, rfl, (by show 1 ≤ 1000; decide), fun a H2 n k xa => q a H2 n k xa⟩)
    have n47 := not_int (i := 47) hn
    have b48 : 48 ≤ j := by omega
    clear hn b47 n47
    refine ⟨_, rfl, rfl, _, rfl, ?_⟩
    refine ite2 (fun hy => ?_) (fun hn => ?_)
    · obtain rfl := is_int (i := 48) hy
      obtain ⟨rfl, rfl⟩ := CN_eq (y := "OtherSigns") (gl := [("one" : Str), ("other" : Str)]) hc rfl
      refine ⟨_, rfl, _, rfl, ?_⟩
      exact ite2 (fun _ => ⟨_, rfl, _, rfl, rfl, (by show 2 ≤ 1000; decide), fun a H2 n k xa => q a H2 n k xa⟩) (fun _ => ⟨_, rfl, _, rfl, rfl, (by show 2 ≤ 1000; decide), fun a H2 n k xa => q a H2 n k xa⟩)
    have n48 := not_int (i := 48) hn
    have b49 : 49 ≤ j := by omega
    clear hn b48 n48
    refine ⟨_, rfl, rfl, _, rfl, ?_⟩
    refine ite2 (fun hy => ?_) (fun hn => ?_)
    · obtain rfl := is_int (i := 49) hy
      obtain ⟨rfl, rfl⟩ := CN_eq (y := "Refused") (gl := [("line" : Str)]) hc rfl
      refine ⟨_, rfl, _, rfl, ?_⟩
      exact ite2 (fun _ => ⟨_, rfl, rfl, (by show 1 ≤ 1000; decide), fun a H2 n k xa => q a H2 n k xa⟩) (fun _ => ⟨_, rfl, rfl, (by show 1 ≤ 1000; decide), fun a H2 n k xa => q a H2 n k xa⟩)
    have n49 := not_int (i := 49) hn
    have b50 : 50 ≤ j := by omega
    clear hn b49 n49
    refine ⟨_, rfl, rfl, _, rfl, ?_⟩
    refine ite2 (fun hy => ?_) (fun hn => ?_)
    · obtain rfl := is_int (i := 50) hy
      obtain ⟨rfl, rfl⟩ := CN_eq (y := "TakenName") (gl := [("name" : Str)]) hc rfl
      refine ⟨_, rfl, _, rfl, ?_⟩
      exact ite2 (fun _ => ⟨_, rfl, rfl, (by show 1 ≤ 1000; decide), fun a H2 n k xa => q a H2 n k xa⟩) (fun _ => ⟨_, rfl, rfl, (by show 1 ≤ 1000; decide), fun a H2 n k xa => q a H2 n k xa⟩)
    have n50 := not_int (i := 50) hn
    have b51 : 51 ≤ j := by omega
    clear hn b50 n50
    refine ⟨_, rfl, rfl, _, rfl, ?_⟩
    refine ite2 (fun hy => ?_) (fun hn => ?_)
    · obtain rfl := is_int (i := 51) hy
      obtain ⟨rfl, rfl⟩ := CN_eq (y := "TooLong") (gl := [("count" : Str)]) hc rfl
      refine ⟨_, rfl, _, rfl, ?_⟩
      exact ite2 (fun _ => ⟨_, rfl, rfl, (by show 1 ≤ 1000; decide), fun a H2 n k xa => q a H2 n k xa⟩) (fun _ => ⟨_, rfl, rfl, (by show 1 ≤ 1000; decide), fun a H2 n k xa => q a H2 n k xa⟩)
    have n51 := not_int (i := 51) hn
    have b52 : 52 ≤ j := by omega
    clear hn b51 n51
    exact ⟨_, rfl, _, rfl, _, rfl, _, rfl, j, one, other, b, x, fl, rfl, b52, hj, hc, q⟩
abbrev sMade0 : Stmt := top 68
theorem scMade0 : FnScope ["k", "one", "other", "by_name"] ["k", "one", "other", "by_name"] (defScope sMade0) := ⟨rfl, rfl, rfl, by decide +kernel, rfl, by decide +kernel, by decide +kernel⟩
theorem ok_made0 {f : Addr} {fd : FuncData} (F : Fun K "_law_made_0" "_law_made_0" sMade0 f fd) (Z : Fam P w K mg base C C0) {fN : Addr} {fdN : FuncData} (FN : Fun K "_law_made_1" "_law_made_1" sMade1 fN fdN) (mgN : mg "_law_made_1" = some (.ref fN)) (bN : Binds K fdN ["k", "one", "other", "by_name"] []) (GN : FnOk P w K mg base CX0 4 fN fdN ["k", "one", "other", "by_name"] (spMade C 26)) : FnOk P w K mg base CX0 5 f fd ["k", "one", "other", "by_name"] (spMade C 0) := by
  obtain ⟨fI0, fd0, X0⟩ := Z.c 0 "InvalidAdded" ["given"] rfl
  obtain ⟨fI1, fd1, X1⟩ := Z.c 1 "InvalidBox" ["given"] rfl
  obtain ⟨fI2, fd2, X2⟩ := Z.c 2 "InvalidChain" ["given"] rfl
  obtain ⟨fI3, fd3, X3⟩ := Z.c 3 "InvalidCode" ["given"] rfl
  obtain ⟨fI4, fd4, X4⟩ := Z.c 4 "InvalidCodes" ["given"] rfl
  obtain ⟨fI5, fd5, X5⟩ := Z.c 5 "InvalidConfiguration" ["given"] rfl
  obtain ⟨fI6, fd6, X6⟩ := Z.c 6 "InvalidConfigurations" ["given"] rfl
  obtain ⟨fI7, fd7, X7⟩ := Z.c 7 "InvalidCuts" ["given"] rfl
  obtain ⟨fI8, fd8, X8⟩ := Z.c 8 "InvalidEnds" ["given"] rfl
  obtain ⟨fI9, fd9, X9⟩ := Z.c 9 "InvalidEscaper" ["given"] rfl
  obtain ⟨fI10, fd10, X10⟩ := Z.c 10 "InvalidEvent" ["given"] rfl
  obtain ⟨fI11, fd11, X11⟩ := Z.c 11 "InvalidEvents" ["given"] rfl
  obtain ⟨fI12, fd12, X12⟩ := Z.c 12 "InvalidFilling" ["given"] rfl
  obtain ⟨fI13, fd13, X13⟩ := Z.c 13 "InvalidIndex" ["given"] rfl
  obtain ⟨fI14, fd14, X14⟩ := Z.c 14 "InvalidInstructions" ["given"] rfl
  obtain ⟨fI15, fd15, X15⟩ := Z.c 15 "InvalidItems" ["given"] rfl
  obtain ⟨fI16, fd16, X16⟩ := Z.c 16 "InvalidKinds" ["given"] rfl
  obtain ⟨fI17, fd17, X17⟩ := Z.c 17 "InvalidLine" ["given"] rfl
  obtain ⟨fI18, fd18, X18⟩ := Z.c 18 "InvalidLines" ["given"] rfl
  obtain ⟨fI19, fd19, X19⟩ := Z.c 19 "InvalidMoves" ["given"] rfl
  obtain ⟨fI20, fd20, X20⟩ := Z.c 20 "InvalidNumber" ["given"] rfl
  obtain ⟨fI21, fd21, X21⟩ := Z.c 21 "InvalidOther" ["given"] rfl
  obtain ⟨fI22, fd22, X22⟩ := Z.c 22 "InvalidPieces" ["given"] rfl
  obtain ⟨fI23, fd23, X23⟩ := Z.c 23 "InvalidPlace" ["given"] rfl
  obtain ⟨fI24, fd24, X24⟩ := Z.c 24 "InvalidReader" ["given"] rfl
  obtain ⟨fI25, fd25, X25⟩ := Z.c 25 "InvalidReaders" ["given"] rfl
  refine F.ok scMade0 (fun vs H Q E h => ?_) (fun cdv A outer s H vs Q E hr h => ?_)
  · obtain ⟨j, one, other, b, x, fl, rfl, _⟩ := h
    rfl
  · have hr2 : Room 2 _ := hr.mono (by decide)
    have hrN : Room 4 _ := hr
    refine ⟨_, (pss_cons (ps_if (pt_cmpR op_eq (pv 0) pe_int (nomark _))
        (pss_one (ps_ret (pe_ifExp (pt_val (pv 3)) (pe_mkxK (g := fun {_} => List.reverse) X0.m X0.f hr2 pass0 (by rfl) X0.bk vals_rev (pk_cons (pv 1) pk_nil)) (pe_mkx X0.m X0.f hr2 pass0 (by rfl) X0.bp (pa_cons (pv 1) pa_nil)))))
        pss_nil)
      (pss_cons (ps_if (pt_cmpR op_eq (pv 0) pe_int (nomark _))
        (pss_one (ps_ret (pe_ifExp (pt_val (pv 3)) (pe_mkxK (g := fun {_} => List.reverse) X1.m X1.f hr2 pass0 (by rfl) X1.bk vals_rev (pk_cons (pv 1) pk_nil)) (pe_mkx X1.m X1.f hr2 pass0 (by rfl) X1.bp (pa_cons (pv 1) pa_nil)))))
        pss_nil)
      (pss_cons (ps_if (pt_cmpR op_eq (pv 0) pe_int (nomark _))
        (pss_one (ps_ret (pe_ifExp (pt_val (pv 3)) (pe_mkxK (g := fun {_} => List.reverse) X2.m X2.f hr2 pass0 (by rfl) X2.bk vals_rev (pk_cons (pv 1) pk_nil)) (pe_mkx X2.m X2.f hr2 pass0 (by rfl) X2.bp (pa_cons (pv 1) pa_nil)))))
        pss_nil)
      (pss_cons (ps_if (pt_cmpR op_eq (pv 0) pe_int (nomark _))
        (pss_one (ps_ret (pe_ifExp (pt_val (pv 3)) (pe_mkxK (g := fun {_} => List.reverse) X3.m X3.f hr2 pass0 (by rfl) X3.bk vals_rev (pk_cons (pv 1) pk_nil)) (pe_mkx X3.m X3.f hr2 pass0 (by rfl) X3.bp (pa_cons (pv 1) pa_nil)))))
        pss_nil)
      (pss_cons (ps_if (pt_cmpR op_eq (pv 0) pe_int (nomark _))
        (pss_one (ps_ret (pe_ifExp (pt_val (pv 3)) (pe_mkxK (g := fun {_} => List.reverse) X4.m X4.f hr2 pass0 (by rfl) X4.bk vals_rev (pk_cons (pv 1) pk_nil)) (pe_mkx X4.m X4.f hr2 pass0 (by rfl) X4.bp (pa_cons (pv 1) pa_nil)))))
        pss_nil)
      (pss_cons (ps_if (pt_cmpR op_eq (pv 0) pe_int (nomark _))
        (pss_one (ps_ret (pe_ifExp (pt_val (pv 3)) (pe_mkxK (g := fun {_} => List.reverse) X5.m X5.f hr2 pass0 (by rfl) X5.bk vals_rev (pk_cons (pv 1) pk_nil)) (pe_mkx X5.m X5.f hr2 pass0 (by rfl) X5.bp (pa_cons (pv 1) pa_nil)))))
        pss_nil)
      (pss_cons (ps_if (pt_cmpR op_eq (pv 0) pe_int (nomark _))
        (pss_one (ps_ret (pe_ifExp (pt_val (pv 3)) (pe_mkxK (g := fun {_} => List.reverse) X6.m X6.f hr2 pass0 (by rfl) X6.bk vals_rev (pk_cons (pv 1) pk_nil)) (pe_mkx X6.m X6.f hr2 pass0 (by rfl) X6.bp (pa_cons (pv 1) pa_nil)))))
        pss_nil)
      (pss_cons (ps_if (pt_cmpR op_eq (pv 0) pe_int (nomark _))
        (pss_one (ps_ret (pe_ifExp (pt_val (pv 3)) (pe_mkxK (g := fun {_} => List.reverse) X7.m X7.f hr2 pass0 (by rfl) X7.bk vals_rev (pk_cons (pv 1) pk_nil)) (pe_mkx X7.m X7.f hr2 pass0 (by rfl) X7.bp (pa_cons (pv 1) pa_nil)))))
        pss_nil)
      (pss_cons (ps_if (pt_cmpR op_eq (pv 0) pe_int (nomark _))
        (pss_one (ps_ret (pe_ifExp (pt_val (pv 3)) (pe_mkxK (g := fun {_} => List.reverse) X8.m X8.f hr2 pass0 (by rfl) X8.bk vals_rev (pk_cons (pv 1) pk_nil)) (pe_mkx X8.m X8.f hr2 pass0 (by rfl) X8.bp (pa_cons (pv 1) pa_nil)))))
        pss_nil)
      (pss_cons (ps_if (pt_cmpR op_eq (pv 0) pe_int (nomark _))
        (pss_one (ps_ret (pe_ifExp (pt_val (pv 3)) (pe_mkxK (g := fun {_} => List.reverse) X9.m X9.f hr2 pass0 (by rfl) X9.bk vals_rev (pk_cons (pv 1) pk_nil)) (pe_mkx X9.m X9.f hr2 pass0 (by rfl) X9.bp (pa_cons (pv 1) pa_nil)))))
        pss_nil)
      (pss_cons (ps_if (pt_cmpR op_eq (pv 0) pe_int (nomark _))
        (pss_one (ps_ret (pe_ifExp (pt_val (pv 3)) (pe_mkxK (g := fun {_} => List.reverse) X10.m X10.f hr2 pass0 (by rfl) X10.bk vals_rev (pk_cons (pv 1) pk_nil)) (pe_mkx X10.m X10.f hr2 pass0 (by rfl) X10.bp (pa_cons (pv 1) pa_nil)))))
        pss_nil)
      (pss_cons (ps_if (pt_cmpR op_eq (pv 0) pe_int (nomark _))
        (pss_one (ps_ret (pe_ifExp (pt_val (pv 3)) (pe_mkxK (g := fun {_} => List.reverse) X11.m X11.f hr2 pass0 (by rfl) X11.bk vals_rev (pk_cons (pv 1) pk_nil)) (pe_mkx X11.m X11.f hr2 pass0 (by rfl) X11.bp (pa_cons (pv 1) pa_nil)))))
        pss_nil)
      (pss_cons (ps_if (pt_cmpR op_eq (pv 0) pe_int (nomark _))
        (pss_one (ps_ret (pe_ifExp (pt_val (pv 3)) (pe_mkxK (g := fun {_} => List.reverse) X12.m X12.f hr2 pass0 (by rfl) X12.bk vals_rev (pk_cons (pv 1) pk_nil)) (pe_mkx X12.m X12.f hr2 pass0 (by rfl) X12.bp (pa_cons (pv 1) pa_nil)))))
        pss_nil)
      (pss_cons (ps_if (pt_cmpR op_eq (pv 0) pe_int (nomark _))
        (pss_one (ps_ret (pe_ifExp (pt_val (pv 3)) (pe_mkxK (g := fun {_} => List.reverse) X13.m X13.f hr2 pass0 (by rfl) X13.bk vals_rev (pk_cons (pv 1) pk_nil)) (pe_mkx X13.m X13.f hr2 pass0 (by rfl) X13.bp (pa_cons (pv 1) pa_nil)))))
        pss_nil)
      (pss_cons (ps_if (pt_cmpR op_eq (pv 0) pe_int (nomark _))
        (pss_one (ps_ret (pe_ifExp (pt_val (pv 3)) (pe_mkxK (g := fun {_} => List.reverse) X14.m X14.f hr2 pass0 (by rfl) X14.bk vals_rev (pk_cons (pv 1) pk_nil)) (pe_mkx X14.m X14.f hr2 pass0 (by rfl) X14.bp (pa_cons (pv 1) pa_nil)))))
        pss_nil)
      (pss_cons (ps_if (pt_cmpR op_eq (pv 0) pe_int (nomark _))
        (pss_one (ps_ret (pe_ifExp (pt_val (pv 3)) (pe_mkxK (g := fun {_} => List.reverse) X15.m X15.f hr2 pass0 (by rfl) X15.bk vals_rev (pk_cons (pv 1) pk_nil)) (pe_mkx X15.m X15.f hr2 pass0 (by rfl) X15.bp (pa_cons (pv 1) pa_nil)))))
        pss_nil)
      (pss_cons (ps_if (pt_cmpR op_eq (pv 0) pe_int (nomark _))
        (pss_one (ps_ret (pe_ifExp (pt_val (pv 3)) (pe_mkxK (g := fun {_} => List.reverse) X16.m X16.f hr2 pass0 (by rfl) X16.bk vals_rev (pk_cons (pv 1) pk_nil)) (pe_mkx X16.m X16.f hr2 pass0 (by rfl) X16.bp (pa_cons (pv 1) pa_nil)))))
        pss_nil)
      (pss_cons (ps_if (pt_cmpR op_eq (pv 0) pe_int (nomark _))
        (pss_one (ps_ret (pe_ifExp (pt_val (pv 3)) (pe_mkxK (g := fun {_} => List.reverse) X17.m X17.f hr2 pass0 (by rfl) X17.bk vals_rev (pk_cons (pv 1) pk_nil)) (pe_mkx X17.m X17.f hr2 pass0 (by rfl) X17.bp (pa_cons (pv 1) pa_nil)))))
        pss_nil)
      (pss_cons (ps_if (pt_cmpR op_eq (pv 0) pe_int (nomark _))
        (pss_one (ps_ret (pe_ifExp (pt_val (pv 3)) (pe_mkxK (g := fun {_} => List.reverse) X18.m X18.f hr2 pass0 (by rfl) X18.bk vals_rev (pk_cons (pv 1) pk_nil)) (pe_mkx X18.m X18.f hr2 pass0 (by rfl) X18.bp (pa_cons (pv 1) pa_nil)))))
        pss_nil)
      (pss_cons (ps_if (pt_cmpR op_eq (pv 0) pe_int (nomark _))
        (pss_one (ps_ret (pe_ifExp (pt_val (pv 3)) (pe_mkxK (g := fun {_} => List.reverse) X19.m X19.f hr2 pass0 (by rfl) X19.bk vals_rev (pk_cons (pv 1) pk_nil)) (pe_mkx X19.m X19.f hr2 pass0 (by rfl) X19.bp (pa_cons (pv 1) pa_nil)))))
        pss_nil)
      (pss_cons (ps_if (pt_cmpR op_eq (pv 0) pe_int (nomark _))
        (pss_one (ps_ret (pe_ifExp (pt_val (pv 3)) (pe_mkxK (g := fun {_} => List.reverse) X20.m X20.f hr2 pass0 (by rfl) X20.bk vals_rev (pk_cons (pv 1) pk_nil)) (pe_mkx X20.m X20.f hr2 pass0 (by rfl) X20.bp (pa_cons (pv 1) pa_nil)))))
        pss_nil)
      (pss_cons (ps_if (pt_cmpR op_eq (pv 0) pe_int (nomark _))
        (pss_one (ps_ret (pe_ifExp (pt_val (pv 3)) (pe_mkxK (g := fun {_} => List.reverse) X21.m X21.f hr2 pass0 (by rfl) X21.bk vals_rev (pk_cons (pv 1) pk_nil)) (pe_mkx X21.m X21.f hr2 pass0 (by rfl) X21.bp (pa_cons (pv 1) pa_nil)))))
        pss_nil)
      (pss_cons (ps_if (pt_cmpR op_eq (pv 0) pe_int (nomark _))
        (pss_one (ps_ret (pe_ifExp (pt_val (pv 3)) (pe_mkxK (g := fun {_} => List.reverse) X22.m X22.f hr2 pass0 (by rfl) X22.bk vals_rev (pk_cons (pv 1) pk_nil)) (pe_mkx X22.m X22.f hr2 pass0 (by rfl) X22.bp (pa_cons (pv 1) pa_nil)))))
        pss_nil)
      (pss_cons (ps_if (pt_cmpR op_eq (pv 0) pe_int (nomark _))
        (pss_one (ps_ret (pe_ifExp (pt_val (pv 3)) (pe_mkxK (g := fun {_} => List.reverse) X23.m X23.f hr2 pass0 (by rfl) X23.bk vals_rev (pk_cons (pv 1) pk_nil)) (pe_mkx X23.m X23.f hr2 pass0 (by rfl) X23.bp (pa_cons (pv 1) pa_nil)))))
        pss_nil)
      (pss_cons (ps_if (pt_cmpR op_eq (pv 0) pe_int (nomark _))
        (pss_one (ps_ret (pe_ifExp (pt_val (pv 3)) (pe_mkxK (g := fun {_} => List.reverse) X24.m X24.f hr2 pass0 (by rfl) X24.bk vals_rev (pk_cons (pv 1) pk_nil)) (pe_mkx X24.m X24.f hr2 pass0 (by rfl) X24.bp (pa_cons (pv 1) pa_nil)))))
        pss_nil)
      (pss_cons (ps_if (pt_cmpR op_eq (pv 0) pe_int (nomark _))
        (pss_one (ps_ret (pe_ifExp (pt_val (pv 3)) (pe_mkxK (g := fun {_} => List.reverse) X25.m X25.f hr2 pass0 (by rfl) X25.bk vals_rev (pk_cons (pv 1) pk_nil)) (pe_mkx X25.m X25.f hr2 pass0 (by rfl) X25.bp (pa_cons (pv 1) pa_nil)))))
        pss_nil)
      (pss_one (ps_ret (by exact pe_call GN hrN (by rfl) mgN FN.kp bN .nil pass0 (pa_cons (pv 0) (pa_cons (pv 1) (pa_cons (pv 2) (pa_cons (pv 3) pa_nil))))))))))))))))))))))))))))))))), ?_⟩
    obtain ⟨j, one, other, b, x, fl, rfl, b0, hj, hc, q⟩ := h
    refine ⟨_, rfl, rfl, _, rfl, ?_⟩
    refine ite2 (fun hy => ?_) (fun hn => ?_)
    · obtain rfl := is_int (i := 0) hy
      obtain ⟨rfl, rfl⟩ := CN_eq (y := "InvalidAdded") (gl := [("given" : Str)]) hc rfl
      refine ⟨_, rfl, _, rfl, ?_⟩
      exact ite2 (fun _ => ⟨_, rfl, rfl, (by show 1 ≤ 1000; decide), fun a H2 n k xa => q a H2 n k xa⟩) (fun _ => ⟨_, rfl, rfl, (by show 1 ≤ 1000; decide), fun a H2 n k xa => q a H2 n k xa⟩)
    have n0 := not_int (i := 0) hn
    have b1 : 1 ≤ j := by omega
    clear hn b0 n0
    refine ⟨_, rfl, rfl, _, rfl, ?_⟩
    refine ite2 (fun hy => ?_) (fun hn => ?_)
    · obtain rfl := is_int (i := 1) hy
      obtain ⟨rfl, rfl⟩ := CN_eq (y := "InvalidBox") (gl := [("given" : Str)]) hc rfl
      refine ⟨_, rfl, _, rfl, ?_⟩
      exact ite2 (fun _ => ⟨_, rfl, rfl, (by show 1 ≤ 1000; decide), fun a H2 n k xa => q a H2 n k xa⟩) (fun _ => ⟨_, rfl, rfl, (by show 1 ≤ 1000; decide), fun a H2 n k xa => q a H2 n k xa⟩)
    have n1 := not_int (i := 1) hn
    have b2 : 2 ≤ j := by omega
    clear hn b1 n1
    refine ⟨_, rfl, rfl, _, rfl, ?_⟩
    refine ite2 (fun hy => ?_) (fun hn => ?_)
    · obtain rfl := is_int (i := 2) hy
      obtain ⟨rfl, rfl⟩ := CN_eq (y := "InvalidChain") (gl := [("given" : Str)]) hc rfl
      refine ⟨_, rfl, _, rfl, ?_⟩
      exact ite2 (fun _ => ⟨_, rfl, rfl, (by show 1 ≤ 1000; decide), fun a H2 n k xa => q a H2 n k xa⟩) (fun _ => ⟨_, rfl, rfl, (by show 1 ≤ 1000; decide), fun a H2 n k xa => q a H2 n k xa⟩)
    have n2 := not_int (i := 2) hn
    have b3 : 3 ≤ j := by omega
    clear hn b2 n2
    refine ⟨_, rfl, rfl, _, rfl, ?_⟩
    refine ite2 (fun hy => ?_) (fun hn => ?_)
    · obtain rfl := is_int (i := 3) hy
      obtain ⟨rfl, rfl⟩ := CN_eq (y := "InvalidCode") (gl := [("given" : Str)]) hc rfl
      refine ⟨_, rfl, _, rfl, ?_⟩
      exact ite2 (fun _ => ⟨_, rfl, rfl, (by show 1 ≤ 1000; decide), fun a H2 n k xa => q a H2 n k xa⟩) (fun _ => ⟨_, rfl, rfl, (by show 1 ≤ 1000; decide), fun a H2 n k xa => q a H2 n k xa⟩)
    have n3 := not_int (i := 3) hn
    have b4 : 4 ≤ j := by omega
    clear hn b3 n3
    refine ⟨_, rfl, rfl, _, rfl, ?_⟩
    refine ite2 (fun hy => ?_) (fun hn => ?_)
    · obtain rfl := is_int (i := 4) hy
      obtain ⟨rfl, rfl⟩ := CN_eq (y := "InvalidCodes") (gl := [("given" : Str)]) hc rfl
      refine ⟨_, rfl, _, rfl, ?_⟩
      exact ite2 (fun _ => ⟨_, rfl, rfl, (by show 1 ≤ 1000; decide), fun a H2 n k xa => q a H2 n k xa⟩) (fun _ => ⟨_, rfl, rfl, (by show 1 ≤ 1000; decide), fun a H2 n k xa => q a H2 n k xa⟩)
    have n4 := not_int (i := 4) hn
    have b5 : 5 ≤ j := by omega
    clear hn b4 n4
    refine ⟨_, rfl, rfl, _, rfl, ?_⟩
    refine ite2 (fun hy => ?_) (fun hn => ?_)
    · obtain rfl := is_int (i := 5) hy
      obtain ⟨rfl, rfl⟩ := CN_eq (y := "InvalidConfiguration") (gl := [("given" : Str)]) hc rfl
      refine ⟨_, rfl, _, rfl, ?_⟩
      exact ite2 (fun _ => ⟨_, rfl, rfl, (by show 1 ≤ 1000; decide), fun a H2 n k xa => q a H2 n k xa⟩) (fun _ => ⟨_, rfl, rfl, (by show 1 ≤ 1000; decide), fun a H2 n k xa => q a H2 n k xa⟩)
    have n5 := not_int (i := 5) hn
    have b6 : 6 ≤ j := by omega
    clear hn b5 n5
    refine ⟨_, rfl, rfl, _, rfl, ?_⟩
    refine ite2 (fun hy => ?_) (fun hn => ?_)
    · obtain rfl := is_int (i := 6) hy
      obtain ⟨rfl, rfl⟩ := CN_eq (y := "InvalidConfigurations") (gl := [("given" : Str)]) hc rfl
      refine ⟨_, rfl, _, rfl, ?_⟩
      exact ite2 (fun _ => ⟨_, rfl, rfl, (by show 1 ≤ 1000; decide), fun a H2 n k xa => q a H2 n k xa⟩) (fun _ => ⟨_, rfl, rfl, (by show 1 ≤ 1000; decide), fun a H2 n k xa => q a H2 n k xa⟩)
    have n6 := not_int (i := 6) hn
    have b7 : 7 ≤ j := by omega
    clear hn b6 n6
    refine ⟨_, rfl, rfl, _, rfl, ?_⟩
    refine ite2 (fun hy => ?_) (fun hn => ?_)
    · obtain rfl := is_int (i := 7) hy
      obtain ⟨rfl, rfl⟩ := CN_eq (y := "InvalidCuts") (gl := [("given" : Str)]) hc rfl
      refine ⟨_, rfl, _, rfl, ?_⟩
      exact ite2 (fun _ => ⟨_, rfl, rfl, (by show 1 ≤ 1000; decide), fun a H2 n k xa => q a H2 n k xa⟩) (fun _ => ⟨_, rfl, rfl, (by show 1 ≤ 1000; decide), fun a H2 n k xa => q a H2 n k xa⟩)
    have n7 := not_int (i := 7) hn
    have b8 : 8 ≤ j := by omega
    clear hn b7 n7
    refine ⟨_, rfl, rfl, _, rfl, ?_⟩
    refine ite2 (fun hy => ?_) (fun hn => ?_)
    · obtain rfl := is_int (i := 8) hy
      obtain ⟨rfl, rfl⟩ := CN_eq (y := "InvalidEnds") (gl := [("given" : Str)]) hc rfl
      refine ⟨_, rfl, _, rfl, ?_⟩
      exact ite2 (fun _ => ⟨_, rfl, rfl, (by show 1 ≤ 1000; decide), fun a H2 n k xa => q a H2 n k xa⟩) (fun _ => ⟨_, rfl, rfl, (by show 1 ≤ 1000; decide), fun a H2 n k xa => q a H2 n k xa⟩)
    have n8 := not_int (i := 8) hn
    have b9 : 9 ≤ j := by omega
    clear hn b8 n8
    refine ⟨_, rfl, rfl, _, rfl, ?_⟩
    refine ite2 (fun hy => ?_) (fun hn => ?_)
    · obtain rfl := is_int (i := 9) hy
      obtain ⟨rfl, rfl⟩ := CN_eq (y := "InvalidEscaper") (gl := [("given" : Str)]) hc rfl
      refine ⟨_, rfl, _, rfl, ?_⟩
      exact ite2 (fun _ => ⟨_, rfl, rfl, (by show 1 ≤ 1000; decide), fun a H2 n k xa => q a H2 n k xa⟩) (fun _ => ⟨_, rfl, rfl, (by show 1 ≤ 1000; decide), fun a H2 n k xa => q a H2 n k xa⟩)
    have n9 := not_int (i := 9) hn
    have b10 : 10 ≤ j := by omega
    clear hn b9 n9
    refine ⟨_, rfl, rfl, _, rfl, ?_⟩
    refine ite2 (fun hy => ?_) (fun hn => ?_)
    · obtain rfl := is_int (i := 10) hy
      obtain ⟨rfl, rfl⟩ := CN_eq (y := "InvalidEvent") (gl := [("given" : Str)]) hc rfl
      refine ⟨_, rfl, _, rfl, ?_⟩
      exact ite2 (fun _ => ⟨_, rfl, rfl, (by show 1 ≤ 1000; decide), fun a H2 n k xa => q a H2 n k xa⟩) (fun _ => ⟨_, rfl, rfl, (by show 1 ≤ 1000; decide), fun a H2 n k xa => q a H2 n k xa⟩)
    have n10 := not_int (i := 10) hn
    have b11 : 11 ≤ j := by omega
    clear hn b10 n10
    refine ⟨_, rfl, rfl, _, rfl, ?_⟩
    refine ite2 (fun hy => ?_) (fun hn => ?_)
    · obtain rfl := is_int (i := 11) hy
      obtain ⟨rfl, rfl⟩ := CN_eq (y := "InvalidEvents") (gl := [("given" : Str)]) hc rfl
      refine ⟨_, rfl, _, rfl, ?_⟩
      exact ite2 (fun _ => ⟨_, rfl, rfl, (by show 1 ≤ 1000; decide), fun a H2 n k xa => q a H2 n k xa⟩) (fun _ => ⟨_, rfl, rfl, (by show 1 ≤ 1000; decide), fun a H2 n k xa => q a H2 n k xa⟩)
    have n11 := not_int (i := 11) hn
    have b12 : 12 ≤ j := by omega
    clear hn b11 n11
    refine ⟨_, rfl, rfl, _, rfl, ?_⟩
    refine ite2 (fun hy => ?_) (fun hn => ?_)
    · obtain rfl := is_int (i := 12) hy
      obtain ⟨rfl, rfl⟩ := CN_eq (y := "InvalidFilling") (gl := [("given" : Str)]) hc rfl
      refine ⟨_, rfl, _, rfl, ?_⟩
      exact ite2 (fun _ => ⟨_, rfl, rfl, (by show 1 ≤ 1000; decide), fun a H2 n k xa => q a H2 n k xa⟩) (fun _ => ⟨_, rfl, rfl, (by show 1 ≤ 1000; decide), fun a H2 n k xa => q a H2 n k xa⟩)
    have n12 := not_int (i := 12) hn
    have b13 : 13 ≤ j := by omega
    clear hn b12 n12
    refine ⟨_, rfl, rfl, _, rfl, ?_⟩
    refine ite2 (fun hy => ?_) (fun hn => ?_)
    · obtain rfl := is_int (i := 13) hy
      obtain ⟨rfl, rfl⟩ := CN_eq (y := "InvalidIndex") (gl := [("given" : Str)]) hc rfl
      refine ⟨_, rfl, _, rfl, ?_⟩
      exact ite2 (fun _ => ⟨_, rfl, rfl, (by show 1 ≤ 1000; decide), fun a H2 n k xa => q a H2 n k xa⟩) (fun _ => ⟨_, rfl, rfl, (by show 1 ≤ 1000; decide), fun a H2 n k xa => q a H2 n k xa⟩)
    have n13 := not_int (i := 13) hn
    have b14 : 14 ≤ j := by omega
    clear hn b13 n13
    refine ⟨_, rfl, rfl, _, rfl, ?_⟩
    refine ite2 (fun hy => ?_) (fun hn => ?_)
    · obtain rfl := is_int (i := 14) hy
      obtain ⟨rfl, rfl⟩ := CN_eq (y := "InvalidInstructions") (gl := [("given" : Str)]) hc rfl
      refine ⟨_, rfl, _, rfl, ?_⟩
      exact ite2 (fun _ => ⟨_, rfl, rfl, (by show 1 ≤ 1000; decide), fun a H2 n k xa => q a H2 n k xa⟩) (fun _ => ⟨_, rfl, rfl, (by show 1 ≤ 1000; decide), fun a H2 n k xa => q a H2 n k xa⟩)
    have n14 := not_int (i := 14) hn
    have b15 : 15 ≤ j := by omega
    clear hn b14 n14
    refine ⟨_, rfl, rfl, _, rfl, ?_⟩
    refine ite2 (fun hy => ?_) (fun hn => ?_)
    · obtain rfl := is_int (i := 15) hy
      obtain ⟨rfl, rfl⟩ := CN_eq (y := "InvalidItems") (gl := [("given" : Str)]) hc rfl
      refine ⟨_, rfl, _, rfl, ?_⟩
      exact ite2 (fun _ => ⟨_, rfl, rfl, (by show 1 ≤ 1000; decide), fun a H2 n k xa => q a H2 n k xa⟩) (fun _ => ⟨_, rfl, rfl, (by show 1 ≤ 1000; decide), fun a H2 n k xa => q a H2 n k xa⟩)
    have n15 := not_int (i := 15) hn
    have b16 : 16 ≤ j := by omega
    clear hn b15 n15
    refine ⟨_, rfl, rfl, _, rfl, ?_⟩
    refine ite2 (fun hy => ?_) (fun hn => ?_)
    · obtain rfl := is_int (i := 16) hy
      obtain ⟨rfl, rfl⟩ := CN_eq (y := "InvalidKinds") (gl := [("given" : Str)]) hc rfl
      refine ⟨_, rfl, _, rfl, ?_⟩
      exact ite2 (fun _ => ⟨_, rfl, rfl, (by show 1 ≤ 1000; decide), fun a H2 n k xa => q a H2 n k xa⟩) (fun _ => ⟨_, rfl, rfl, (by show 1 ≤ 1000; decide), fun a H2 n k xa => q a H2 n k xa⟩)
    have n16 := not_int (i := 16) hn
    have b17 : 17 ≤ j := by omega
    clear hn b16 n16
    refine ⟨_, rfl, rfl, _, rfl, ?_⟩
    refine ite2 (fun hy => ?_) (fun hn => ?_)
    · obtain rfl := is_int (i := 17) hy
      obtain ⟨rfl, rfl⟩ := CN_eq (y := "InvalidLine") (gl := [("given" : Str)]) hc rfl
      refine ⟨_, rfl, _, rfl, ?_⟩
      exact ite2 (fun _ => ⟨_, rfl, rfl, (by show 1 ≤ 1000; decide), fun a H2 n k xa => q a H2 n k xa⟩) (fun _ => ⟨_, rfl, rfl, (by show 1 ≤ 1000; decide), fun a H2 n k xa => q a H2 n k xa⟩)
    have n17 := not_int (i := 17) hn
    have b18 : 18 ≤ j := by omega
    clear hn b17 n17
    refine ⟨_, rfl, rfl, _, rfl, ?_⟩
    refine ite2 (fun hy => ?_) (fun hn => ?_)
    · obtain rfl := is_int (i := 18) hy
      obtain ⟨rfl, rfl⟩ := CN_eq (y := "InvalidLines") (gl := [("given" : Str)]) hc rfl
      refine ⟨_, rfl, _, rfl, ?_⟩
      exact ite2 (fun _ => ⟨_, rfl, rfl, (by show 1 ≤ 1000; decide), fun a H2 n k xa => q a H2 n k xa⟩) (fun _ => ⟨_, rfl, rfl, (by show 1 ≤ 1000; decide), fun a H2 n k xa => q a H2 n k xa⟩)
    have n18 := not_int (i := 18) hn
    have b19 : 19 ≤ j := by omega
    clear hn b18 n18
    refine ⟨_, rfl, rfl, _, rfl, ?_⟩
    refine ite2 (fun hy => ?_) (fun hn => ?_)
    · obtain rfl := is_int (i := 19) hy
      obtain ⟨rfl, rfl⟩ := CN_eq (y := "InvalidMoves") (gl := [("given" : Str)]) hc rfl
      refine ⟨_, rfl, _, rfl, ?_⟩
      exact ite2 (fun _ => ⟨_, rfl, rfl, (by show 1 ≤ 1000; decide), fun a H2 n k xa => q a H2 n k xa⟩) (fun _ => ⟨_, rfl, rfl, (by show 1 ≤ 1000; decide), fun a H2 n k xa => q a H2 n k xa⟩)
    have n19 := not_int (i := 19) hn
    have b20 : 20 ≤ j := by omega
    clear hn b19 n19
    refine ⟨_, rfl, rfl, _, rfl, ?_⟩
    refine ite2 (fun hy => ?_) (fun hn => ?_)
    · obtain rfl := is_int (i := 20) hy
      obtain ⟨rfl, rfl⟩ := CN_eq (y := "InvalidNumber") (gl := [("given" : Str)]) hc rfl
      refine ⟨_, rfl, _, rfl, ?_⟩
      exact ite2 (fun _ => ⟨_, rfl, rfl, (by show 1 ≤ 1000; decide), fun a H2 n k xa => q a H2 n k xa⟩) (fun _ => ⟨_, rfl, rfl, (by show 1 ≤ 1000; decide), fun a H2 n k xa => q a H2 n k xa⟩)
    have n20 := not_int (i := 20) hn
    have b21 : 21 ≤ j := by omega
    clear hn b20 n20
    refine ⟨_, rfl, rfl, _, rfl, ?_⟩
    refine ite2 (fun hy => ?_) (fun hn => ?_)
    · obtain rfl := is_int (i := 21) hy
      obtain ⟨rfl, rfl⟩ := CN_eq (y := "InvalidOther") (gl := [("given" : Str)]) hc rfl
      refine ⟨_, rfl, _, rfl, ?_⟩
      exact ite2 (fun _ => ⟨_, rfl, rfl, (by show 1 ≤ 1000; decide), fun a H2 n k xa => q a H2 n k xa⟩) (fun _ => ⟨_, rfl, rfl, (by show 1 ≤ 1000; decide), fun a H2 n k xa => q a H2 n k xa⟩)
    have n21 := not_int (i := 21) hn
    have b22 : 22 ≤ j := by omega
    clear hn b21 n21
    refine ⟨_, rfl, rfl, _, rfl, ?_⟩
    refine ite2 (fun hy => ?_) (fun hn => ?_)
    · obtain rfl := is_int (i := 22) hy
      obtain ⟨rfl, rfl⟩ := CN_eq (y := "InvalidPieces") (gl := [("given" : Str)]) hc rfl
      refine ⟨_, rfl, _, rfl, ?_⟩
      exact ite2 (fun _ => ⟨_, rfl, rfl, (by show 1 ≤ 1000; decide), fun a H2 n k xa => q a H2 n k xa⟩) (fun _ => ⟨_, rfl, rfl, (by show 1 ≤ 1000; decide), fun a H2 n k xa => q a H2 n k xa⟩)
    have n22 := not_int (i := 22) hn
    have b23 : 23 ≤ j := by omega
    clear hn b22 n22
    refine ⟨_, rfl, rfl, _, rfl, ?_⟩
    refine ite2 (fun hy => ?_) (fun hn => ?_)
    · obtain rfl := is_int (i := 23) hy
      obtain ⟨rfl, rfl⟩ := CN_eq (y := "InvalidPlace") (gl := [("given" : Str)]) hc rfl
      refine ⟨_, rfl, _, rfl, ?_⟩
      exact ite2 (fun _ => ⟨_, rfl, rfl, (by show 1 ≤ 1000; decide), fun a H2 n k xa => q a H2 n k xa⟩) (fun _ => ⟨_, rfl, rfl, (by show 1 ≤ 1000; decide), fun a H2 n k xa => q a H2 n k xa⟩)
    have n23 := not_int (i := 23) hn
    have b24 : 24 ≤ j := by omega
    clear hn b23 n23
    refine ⟨_, rfl, rfl, _, rfl, ?_⟩
    refine ite2 (fun hy => ?_) (fun hn => ?_)
    · obtain rfl := is_int (i := 24) hy
      obtain ⟨rfl, rfl⟩ := CN_eq (y := "InvalidReader") (gl := [("given" : Str)]) hc rfl
      refine ⟨_, rfl, _, rfl, ?_⟩
      exact ite2 (fun _ => ⟨_, rfl, rfl, (by show 1 ≤ 1000; decide), fun a H2 n k xa => q a H2 n k xa⟩) (fun _ => ⟨_, rfl, rfl, (by show 1 ≤ 1000; decide), fun a H2 n k xa => q a H2 n k xa⟩)
    have n24 := not_int (i := 24) hn
    have b25 : 25 ≤ j := by omega
    clear hn b24 n24
    refine ⟨_, rfl, rfl, _, rfl, ?_⟩
    refine ite2 (fun hy => ?_) (fun hn => ?_)
    · obtain rfl := is_int (i := 25) hy
      obtain ⟨rfl, rfl⟩ := CN_eq (y := "InvalidReaders") (gl := [("given" : Str)]) hc rfl
      refine ⟨_, rfl, _, rfl, ?_⟩
      exact ite2 (fun _ => ⟨_, rfl, rfl, (by show 1 ≤ 1000; decide), fun a H2 n k xa => q a H2 n k xa⟩) (fun _ => ⟨_, rfl, rfl, (by show 1 ≤ 1000; decide), fun a H2 n k xa => q a H2 n k xa⟩)
    have n25 := not_int (i := 25) hn
    have b26 : 26 ≤ j := by omega
    clear hn b25 n25
    exact ⟨_, rfl, _, rfl, _, rfl, _, rfl, j, one, other, b, x, fl, rfl, b26, hj, hc, q⟩
end
end L2.K9

set_option Elab.async false
set_option linter.all false
set_option maxRecDepth 100000
set_option maxHeartbeats 8000000
/-! raise C(..); _law_raised_0. -/
namespace L2.K9
open PySem PySem.Spec PyProof.Rows L2
/-- the dict of an exception with the attributes fs -/
def DictAt (H : Hp) (d : Option Addr) (fs : List (Str × V)) : Prop := (fs = [] ∧ d = none) ∨ ∃ a, d = some a ∧ H a = some (.xd fs)
section
variable {X : Cx} {C : Addr} {up : List Addr} {fl : List Str} {g : List V → List V} {ta : TA} {e : Expr}
def tPmk (H0 : Hp) (C : Addr) (t : TE) : L2.St → Hp → XK → Prop := fun σ H Q => t σ H fun x H1 => ∃ (a : Addr) (d : Option Addr), x = .ref a ∧ H1 a = some (exi a C d true) ∧ Fr0 H0 a ∧ Q (.ref C) d (delH H1 a)
theorem pmk_mkx (hx : X.ex = []) (T : XC X.K C up) (he : PE X e (tMkx C fl g ta)) : PMk X e (tPmk X.H_0 C (tMkx C fl g ta)) := by
  intro pins s σ H Q I h
  refine wpAny_mono (he.run pins s σ H _ I h) (fun u s1 hu => ?_) fun _ _ x => x
  obtain ⟨v, H1, I1, r1, a, d, rfl, ha, h0, q⟩ := hu
  cases r1
  obtain ⟨oe, vs, ho, hz, hd, h1⟩ := exi_at I1.hok ha
  obtain ⟨G, gs, ga, J⟩ := I1.untrack (show H1 a = some (.ext _) from ha) h0 hx
  exact ⟨a, oe, vs, { s1 with heap := G }, delH H1 a, .ref C, d, rfl, J, gs, ga, ho, hz, hd, h1 rfl, delH_same, rfl, I1.bare, raises_own T.oex.exC T.oex.tyC, q⟩
end
theorem raise_end {H H2 : Hp} {a C : Addr} {fs : List (Str × V)} {E : XK} (n : H a = none) (k : Same H H2) (xa : ExAt H2 a C fs true) (q : ∀ d H', Same H H' → DictAt H' d fs → E (.ref C) d H') :
    ∃ (a' : Addr) (d : Option Addr), V.ref a = .ref a' ∧ H2 a' = some (exi a' C d true) ∧ Fr0 H a' ∧ E (.ref C) d (delH H2 a') := by
  have kd : Same H (delH H2 a) := fun b o e => by
    rw [delH_ne (ne_of_none e n)]
    exact k _ _ e
  rcases xa with ⟨rfl, h⟩ | ⟨d, h, hd⟩
  · exact ⟨a, none, rfl, h, fr0_none n, q _ _ kd (.inl ⟨rfl, rfl⟩)⟩
  · have nd : d ≠ a := fun z => by
      rw [z, h] at hd
      have z2 := Option.some.inj hd
      unfold exi at z2
      cases z2
    exact ⟨a, some d, rfl, h, fr0_none n, q _ _ kd (.inr ⟨d, rfl, by rw [delH_ne nd]; exact hd⟩)⟩
def some24 : List Nat := [2, 5, 8, 11, 14, 17, 20, 23, 26, 29, 32, 35, 38, 41, 42, 43, 44, 45, 47, 48, 50, 53, 54, 56]
def spRaised (C : Nat → Addr) : Sp := fun vs H Q E => ∃ (j : Nat) (one other : V) (x : Str) (fl : List Str), vs = [.int (j : Int), one, other] ∧ j ∈ some24 ∧ CN[j]? = some (x, fl) ∧
  ∀ d H', Same H H' → DictAt H' d (flds fl ([one, other].take fl.length)) → E (.ref (C j)) d H'
section
variable {P : Program} {w : World} {K : PySem.W.Frag} {mg : Str → Option Value} {base : Heap} {C : Nat → Addr} {C0 : Addr}
abbrev sRaised : Stmt := top 73
theorem scRaised : FnScope ["k", "one", "other"] ["k", "one", "other"] (defScope sRaised) := ⟨rfl, rfl, rfl, by decide +kernel, rfl, by decide +kernel, by decide +kernel⟩
theorem ok_raised {f : Addr} {fd : FuncData} (F : Fun K "_law_raised_0" "_law_raised_0" sRaised f fd) (Z : Fam P w K mg base C C0) : FnOk P w K mg base (L2.CX P w) 3 f fd ["k", "one", "other"] (spRaised C) := by
  obtain ⟨fI0, fd0, X0⟩ := Z.c 0 "InvalidAdded" ["given"] rfl
  obtain ⟨fI2, fd2, X2⟩ := Z.c 2 "InvalidChain" ["given"] rfl
  obtain ⟨fI5, fd5, X5⟩ := Z.c 5 "InvalidConfiguration" ["given"] rfl
  obtain ⟨fI8, fd8, X8⟩ := Z.c 8 "InvalidEnds" ["given"] rfl
  obtain ⟨fI11, fd11, X11⟩ := Z.c 11 "InvalidEvents" ["given"] rfl
  obtain ⟨fI14, fd14, X14⟩ := Z.c 14 "InvalidInstructions" ["given"] rfl
  obtain ⟨fI17, fd17, X17⟩ := Z.c 17 "InvalidLine" ["given"] rfl
  obtain ⟨fI20, fd20, X20⟩ := Z.c 20 "InvalidNumber" ["given"] rfl
  obtain ⟨fI23, fd23, X23⟩ := Z.c 23 "InvalidPlace" ["given"] rfl
  obtain ⟨fI26, fd26, X26⟩ := Z.c 26 "InvalidRoads" ["given"] rfl
  obtain ⟨fI29, fd29, X29⟩ := Z.c 29 "InvalidSign" ["given"] rfl
  obtain ⟨fI32, fd32, X32⟩ := Z.c 32 "InvalidText" ["given"] rfl
  obtain ⟨fI35, fd35, X35⟩ := Z.c 35 "InvalidTruths" ["given"] rfl
  obtain ⟨fI38, fd38, X38⟩ := Z.c 38 "InvalidClaim" ["index"] rfl
  obtain ⟨fI41, fd41, X41⟩ := Z.c 41 "Mixed" ["state", "sign"] rfl
  obtain ⟨fI42, fd42, X42⟩ := Z.c 42 "NoChains" [] rfl
  obtain ⟨fI43, fd43, X43⟩ := Z.c 43 "NotAtEnd" [] rfl
  obtain ⟨fI44, fd44, X44⟩ := Z.c 44 "NothingToRedo" [] rfl
  obtain ⟨fI45, fd45, X45⟩ := Z.c 45 "NothingToUndo" [] rfl
  obtain ⟨fI47, fd47, X47⟩ := Z.c 47 "NotRead" ["count"] rfl
  obtain ⟨fI48, fd48, X48⟩ := Z.c 48 "OtherSigns" ["one", "other"] rfl
  obtain ⟨fI50, fd50, X50⟩ := Z.c 50 "TakenName" ["name"] rfl
  obtain ⟨fI53, fd53, X53⟩ := Z.c 53 "TwiceNamed" ["name"] rfl
  obtain ⟨fI54, fd54, X54⟩ := Z.c 54 "Unfit" ["filling", "place"] rfl
  obtain ⟨fI56, fd56, X56⟩ := Z.c 56 "Unreached" ["state"] rfl
  refine F.okX scRaised (fun vs H Q E h => ?_) (fun cdv A outer s H vs Q E hr h => ?_)
  · obtain ⟨j, one, other, x, fl, rfl, _⟩ := h
    rfl
  · have hr2 : Room 2 _ := hr
    refine ⟨_, (pss_cons (ps_if (pt_cmpR op_eq (pv 0) pe_int (nomark _))
        (pss_one (ps_raise rfl (takes_of rfl rfl rfl rfl) (pmk_mkx rfl X2.m.xc (pe_mkx X2.m X2.f hr2 pass0 (by rfl) X2.bp (pa_cons (pv 1) pa_nil)))))
        pss_nil)
      (pss_cons (ps_if (pt_cmpR op_eq (pv 0) pe_int (nomark _))
        (pss_one (ps_raise rfl (takes_of rfl rfl rfl rfl) (pmk_mkx rfl X5.m.xc (pe_mkx X5.m X5.f hr2 pass0 (by rfl) X5.bp (pa_cons (pv 1) pa_nil)))))
        pss_nil)
      (pss_cons (ps_if (pt_cmpR op_eq (pv 0) pe_int (nomark _))
        (pss_one (ps_raise rfl (takes_of rfl rfl rfl rfl) (pmk_mkx rfl X8.m.xc (pe_mkx X8.m X8.f hr2 pass0 (by rfl) X8.bp (pa_cons (pv 1) pa_nil)))))
        pss_nil)
      (pss_cons (ps_if (pt_cmpR op_eq (pv 0) pe_int (nomark _))
        (pss_one (ps_raise rfl (takes_of rfl rfl rfl rfl) (pmk_mkx rfl X11.m.xc (pe_mkx X11.m X11.f hr2 pass0 (by rfl) X11.bp (pa_cons (pv 1) pa_nil)))))
        pss_nil)
      (pss_cons (ps_if (pt_cmpR op_eq (pv 0) pe_int (nomark _))
        (pss_one (ps_raise rfl (takes_of rfl rfl rfl rfl) (pmk_mkx rfl X14.m.xc (pe_mkx X14.m X14.f hr2 pass0 (by rfl) X14.bp (pa_cons (pv 1) pa_nil)))))
        pss_nil)
      (pss_cons (ps_if (pt_cmpR op_eq (pv 0) pe_int (nomark _))
        (pss_one (ps_raise rfl (takes_of rfl rfl rfl rfl) (pmk_mkx rfl X17.m.xc (pe_mkx X17.m X17.f hr2 pass0 (by rfl) X17.bp (pa_cons (pv 1) pa_nil)))))
        pss_nil)
      (pss_cons (ps_if (pt_cmpR op_eq (pv 0) pe_int (nomark _))
        (pss_one (ps_raise rfl (takes_of rfl rfl rfl rfl) (pmk_mkx rfl X20.m.xc (pe_mkx X20.m X20.f hr2 pass0 (by rfl) X20.bp (pa_cons (pv 1) pa_nil)))))
        pss_nil)
      (pss_cons (ps_if (pt_cmpR op_eq (pv 0) pe_int (nomark _))
        (pss_one (ps_raise rfl (takes_of rfl rfl rfl rfl) (pmk_mkx rfl X23.m.xc (pe_mkx X23.m X23.f hr2 pass0 (by rfl) X23.bp (pa_cons (pv 1) pa_nil)))))
        pss_nil)
      (pss_cons (ps_if (pt_cmpR op_eq (pv 0) pe_int (nomark _))
        (pss_one (ps_raise rfl (takes_of rfl rfl rfl rfl) (pmk_mkx rfl X26.m.xc (pe_mkx X26.m X26.f hr2 pass0 (by rfl) X26.bp (pa_cons (pv 1) pa_nil)))))
        pss_nil)
      (pss_cons (ps_if (pt_cmpR op_eq (pv 0) pe_int (nomark _))
        (pss_one (ps_raise rfl (takes_of rfl rfl rfl rfl) (pmk_mkx rfl X29.m.xc (pe_mkx X29.m X29.f hr2 pass0 (by rfl) X29.bp (pa_cons (pv 1) pa_nil)))))
        pss_nil)
      (pss_cons (ps_if (pt_cmpR op_eq (pv 0) pe_int (nomark _))
        (pss_one (ps_raise rfl (takes_of rfl rfl rfl rfl) (pmk_mkx rfl X32.m.xc (pe_mkx X32.m X32.f hr2 pass0 (by rfl) X32.bp (pa_cons (pv 1) pa_nil)))))
        pss_nil)
      (pss_cons (ps_if (pt_cmpR op_eq (pv 0) pe_int (nomark _))
        (pss_one (ps_raise rfl (takes_of rfl rfl rfl rfl) (pmk_mkx rfl X35.m.xc (pe_mkx X35.m X35.f hr2 pass0 (by rfl) X35.bp (pa_cons (pv 1) pa_nil)))))
        pss_nil)
      (pss_cons (ps_if (pt_cmpR op_eq (pv 0) pe_int (nomark _))
        (pss_one (ps_raise rfl (takes_of rfl rfl rfl rfl) (pmk_mkx rfl X38.m.xc (pe_mkx X38.m X38.f hr2 pass0 (by rfl) X38.bp (pa_cons (pv 1) pa_nil)))))
        pss_nil)
      (pss_cons (ps_if (pt_cmpR op_eq (pv 0) pe_int (nomark _))
        (pss_one (ps_raise rfl (takes_of rfl rfl rfl rfl) (pmk_mkx rfl X41.m.xc (pe_mkx X41.m X41.f hr2 pass0 (by rfl) X41.bp (pa_cons (pv 1) (pa_cons (pv 2) pa_nil))))))
        pss_nil)
      (pss_cons (ps_if (pt_cmpR op_eq (pv 0) pe_int (nomark _))
        (pss_one (ps_raise rfl (takes_of rfl rfl rfl rfl) (pmk_mkx rfl X42.m.xc (pe_mkx0 X42.m X42.f hr2 pass0 (by rfl) (fun s self => X42.bp s self [] rfl)))))
        pss_nil)
      (pss_cons (ps_if (pt_cmpR op_eq (pv 0) pe_int (nomark _))
        (pss_one (ps_raise rfl (takes_of rfl rfl rfl rfl) (pmk_mkx rfl X43.m.xc (pe_mkx0 X43.m X43.f hr2 pass0 (by rfl) (fun s self => X43.bp s self [] rfl)))))
        pss_nil)
      (pss_cons (ps_if (pt_cmpR op_eq (pv 0) pe_int (nomark _))
        (pss_one (ps_raise rfl (takes_of rfl rfl rfl rfl) (pmk_mkx rfl X44.m.xc (pe_mkx0 X44.m X44.f hr2 pass0 (by rfl) (fun s self => X44.bp s self [] rfl)))))
        pss_nil)
      (pss_cons (ps_if (pt_cmpR op_eq (pv 0) pe_int (nomark _))
        (pss_one (ps_raise rfl (takes_of rfl rfl rfl rfl) (pmk_mkx rfl X45.m.xc (pe_mkx0 X45.m X45.f hr2 pass0 (by rfl) (fun s self => X45.bp s self [] rfl)))))
        pss_nil)
      (pss_cons (ps_if (pt_cmpR op_eq (pv 0) pe_int (nomark _))
        (pss_one (ps_raise rfl (takes_of rfl rfl rfl rfl) (pmk_mkx rfl X47.m.xc (pe_mkx X47.m X47.f hr2 pass0 (by rfl) X47.bp (pa_cons (pv 1) pa_nil)))))
        pss_nil)
      (pss_cons (ps_if (pt_cmpR op_eq (pv 0) pe_int (nomark _))
        (pss_one (ps_raise rfl (takes_of rfl rfl rfl rfl) (pmk_mkx rfl X48.m.xc (pe_mkx X48.m X48.f hr2 pass0 (by rfl) X48.bp (pa_cons (pv 1) (pa_cons (pv 2) pa_nil))))))
        pss_nil)
      (pss_cons (ps_if (pt_cmpR op_eq (pv 0) pe_int (nomark _))
        (pss_one (ps_raise rfl (takes_of rfl rfl rfl rfl) (pmk_mkx rfl X50.m.xc (pe_mkx X50.m X50.f hr2 pass0 (by rfl) X50.bp (pa_cons (pv 1) pa_nil)))))
        pss_nil)
      (pss_cons (ps_if (pt_cmpR op_eq (pv 0) pe_int (nomark _))
        (pss_one (ps_raise rfl (takes_of rfl rfl rfl rfl) (pmk_mkx rfl X53.m.xc (pe_mkx X53.m X53.f hr2 pass0 (by rfl) X53.bp (pa_cons (pv 1) pa_nil)))))
        pss_nil)
      (pss_cons (ps_if (pt_cmpR op_eq (pv 0) pe_int (nomark _))
        (pss_one (ps_raise rfl (takes_of rfl rfl rfl rfl) (pmk_mkx rfl X54.m.xc (pe_mkx X54.m X54.f hr2 pass0 (by rfl) X54.bp (pa_cons (pv 1) (pa_cons (pv 2) pa_nil))))))
        pss_nil)
      (pss_cons (ps_if (pt_cmpR op_eq (pv 0) pe_int (nomark _))
        (pss_one (ps_raise rfl (takes_of rfl rfl rfl rfl) (pmk_mkx rfl X56.m.xc (pe_mkx X56.m X56.f hr2 pass0 (by rfl) X56.bp (pa_cons (pv 1) pa_nil)))))
        pss_nil)
      (pss_one (ps_raise rfl (takes_of rfl rfl rfl rfl) (pmk_mkx rfl X0.m.xc (pe_mkx X0.m X0.f hr2 pass0 (by rfl) X0.bp (pa_cons (pv 1) pa_nil))))))))))))))))))))))))))))), ?_⟩
    obtain ⟨j, one, other, x, fl, rfl, hm, hc, q⟩ := h
    refine ⟨_, rfl, rfl, _, rfl, ?_⟩
    refine ite2 (fun hy => ?_) (fun hn => ?_)
    · obtain rfl := is_int (i := 2) hy
      obtain ⟨rfl, rfl⟩ := CN_eq (y := "InvalidChain") (gl := [("given" : Str)]) hc rfl
      exact ⟨_, rfl, rfl, (by show 1 ≤ 1000; decide), fun a H2 n k xa => raise_end n k xa q⟩
    have n2 := not_int (i := 2) hn
    clear hn
    refine ⟨_, rfl, rfl, _, rfl, ?_⟩
    refine ite2 (fun hy => ?_) (fun hn => ?_)
    · obtain rfl := is_int (i := 5) hy
      obtain ⟨rfl, rfl⟩ := CN_eq (y := "InvalidConfiguration") (gl := [("given" : Str)]) hc rfl
      exact ⟨_, rfl, rfl, (by show 1 ≤ 1000; decide), fun a H2 n k xa => raise_end n k xa q⟩
    have n5 := not_int (i := 5) hn
    clear hn
    refine ⟨_, rfl, rfl, _, rfl, ?_⟩
    refine ite2 (fun hy => ?_) (fun hn => ?_)
    · obtain rfl := is_int (i := 8) hy
      obtain ⟨rfl, rfl⟩ := CN_eq (y := "InvalidEnds") (gl := [("given" : Str)]) hc rfl
      exact ⟨_, rfl, rfl, (by show 1 ≤ 1000; decide), fun a H2 n k xa => raise_end n k xa q⟩
    have n8 := not_int (i := 8) hn
    clear hn
    refine ⟨_, rfl, rfl, _, rfl, ?_⟩
    refine ite2 (fun hy => ?_) (fun hn => ?_)
    · obtain rfl := is_int (i := 11) hy
      obtain ⟨rfl, rfl⟩ := CN_eq (y := "InvalidEvents") (gl := [("given" : Str)]) hc rfl
      exact ⟨_, rfl, rfl, (by show 1 ≤ 1000; decide), fun a H2 n k xa => raise_end n k xa q⟩
    have n11 := not_int (i := 11) hn
    clear hn
    refine ⟨_, rfl, rfl, _, rfl, ?_⟩
    refine ite2 (fun hy => ?_) (fun hn => ?_)
    · obtain rfl := is_int (i := 14) hy
      obtain ⟨rfl, rfl⟩ := CN_eq (y := "InvalidInstructions") (gl := [("given" : Str)]) hc rfl
      exact ⟨_, rfl, rfl, (by show 1 ≤ 1000; decide), fun a H2 n k xa => raise_end n k xa q⟩
    have n14 := not_int (i := 14) hn
    clear hn
    refine ⟨_, rfl, rfl, _, rfl, ?_⟩
    refine ite2 (fun hy => ?_) (fun hn => ?_)
    · obtain rfl := is_int (i := 17) hy
      obtain ⟨rfl, rfl⟩ := CN_eq (y := "InvalidLine") (gl := [("given" : Str)]) hc rfl
      exact ⟨_, rfl, rfl, (by show 1 ≤ 1000; decide), fun a H2 n k xa => raise_end n k xa q⟩
    have n17 := not_int (i := 17) hn
    clear hn
    refine ⟨_, rfl, rfl, _, rfl, ?_⟩
    refine ite2 (fun hy => ?_) (fun hn => ?_)
    · obtain rfl := is_int (i := 20) hy
      obtain ⟨rfl, rfl⟩ := CN_eq (y := "InvalidNumber") (gl := [("given" : Str)]) hc rfl
      exact ⟨_, rfl, rfl, (by show 1 ≤ 1000; decide), fun a H2 n k xa => raise_end n k xa q⟩
    have n20 := not_int (i := 20) hn
    clear hn
    refine ⟨_, rfl, rfl, _, rfl, ?_⟩
    refine ite2 (fun hy => ?_) (fun hn => ?_)
    · obtain rfl := is_int (i := 23) hy
      obtain ⟨rfl, rfl⟩ := CN_eq (y := "InvalidPlace") (gl := [("given" : Str)]) hc rfl
      exact ⟨_, rfl, rfl, (by show 1 ≤ 1000; decide), fun a H2 n k xa => raise_end n k xa q⟩
    have n23 := not_int (i := 23) hn
    clear hn
    refine ⟨_, rfl, rfl, _, rfl, ?_⟩
    refine ite2 (fun hy => ?_) (fun hn => ?_)
    · obtain rfl := is_int (i := 26) hy
      obtain ⟨rfl, rfl⟩ := CN_eq (y := "InvalidRoads") (gl := [("given" : Str)]) hc rfl
      exact ⟨_, rfl, rfl, (by show 1 ≤ 1000; decide), fun a H2 n k xa => raise_end n k xa q⟩
    have n26 := not_int (i := 26) hn
    clear hn
    refine ⟨_, rfl, rfl, _, rfl, ?_⟩
    refine ite2 (fun hy => ?_) (fun hn => ?_)
    · obtain rfl := is_int (i := 29) hy
      obtain ⟨rfl, rfl⟩ := CN_eq (y := "InvalidSign") (gl := [("given" : Str)]) hc rfl
      exact ⟨_, rfl, rfl, (by show 1 ≤ 1000; decide), fun a H2 n k xa => raise_end n k xa q⟩
    have n29 := not_int (i := 29) hn
    clear hn
    refine ⟨_, rfl, rfl, _, rfl, ?_⟩
    refine ite2 (fun hy => ?_) (fun hn => ?_)
    · obtain rfl := is_int (i := 32) hy
      obtain ⟨rfl, rfl⟩ := CN_eq (y := "InvalidText") (gl := [("given" : Str)]) hc rfl
      exact ⟨_, rfl, rfl, (by show 1 ≤ 1000; decide), fun a H2 n k xa => raise_end n k xa q⟩
    have n32 := not_int (i := 32) hn
    clear hn
    refine ⟨_, rfl, rfl, _, rfl, ?_⟩
    refine ite2 (fun hy => ?_) (fun hn => ?_)
    · obtain rfl := is_int (i := 35) hy
      obtain ⟨rfl, rfl⟩ := CN_eq (y := "InvalidTruths") (gl := [("given" : Str)]) hc rfl
      exact ⟨_, rfl, rfl, (by show 1 ≤ 1000; decide), fun a H2 n k xa => raise_end n k xa q⟩
    have n35 := not_int (i := 35) hn
    clear hn
    refine ⟨_, rfl, rfl, _, rfl, ?_⟩
    refine ite2 (fun hy => ?_) (fun hn => ?_)
    · obtain rfl := is_int (i := 38) hy
      obtain ⟨rfl, rfl⟩ := CN_eq (y := "InvalidClaim") (gl := [("index" : Str)]) hc rfl
      exact ⟨_, rfl, rfl, (by show 1 ≤ 1000; decide), fun a H2 n k xa => raise_end n k xa q⟩
    have n38 := not_int (i := 38) hn
    clear hn
    refine ⟨_, rfl, rfl, _, rfl, ?_⟩
    refine ite2 (fun hy => ?_) (fun hn => ?_)
    · obtain rfl := is_int (i := 41) hy
      obtain ⟨rfl, rfl⟩ := CN_eq (y := "Mixed") (gl := [("state" : Str), ("sign" : Str)]) hc rfl
      exact ⟨_, rfl, _, rfl, rfl, (by show 2 ≤ 1000; decide), fun a H2 n k xa => raise_end n k xa q⟩
    have n41 := not_int (i := 41) hn
    clear hn
    refine ⟨_, rfl, rfl, _, rfl, ?_⟩
    refine ite2 (fun hy => ?_) (fun hn => ?_)
    · obtain rfl := is_int (i := 42) hy
      obtain ⟨rfl, rfl⟩ := CN_eq (y := "NoChains") (gl := []) hc rfl
      exact ⟨rfl, (by show 0 ≤ 1000; decide), fun a H2 n k xa => raise_end n k xa q⟩
    have n42 := not_int (i := 42) hn
    clear hn
    refine ⟨_, rfl, rfl, _, rfl, ?_⟩
    refine ite2 (fun hy => ?_) (fun hn => ?_)
    · obtain rfl := is_int (i := 43) hy
      obtain ⟨rfl, rfl⟩ := CN_eq (y := "NotAtEnd") (gl := []) hc rfl
      exact ⟨rfl, (by show 0 ≤ 1000; decide), fun a H2 n k xa => raise_end n k xa q⟩
    have n43 := not_int (i := 43) hn
    clear hn
    refine ⟨_, rfl, rfl, _, rfl, ?_⟩
    refine ite2 (fun hy => ?_) (fun hn => ?_)
    · obtain rfl := is_int (i := 44) hy
      obtain ⟨rfl, rfl⟩ := CN_eq (y := "NothingToRedo") (gl := []) hc rfl
      exact ⟨rfl, (by show 0 ≤ 1000; decide), fun a H2 n k xa => raise_end n k xa q⟩
    have n44 := not_int (i := 44) hn
    clear hn
    refine ⟨_, rfl, rfl, _, rfl, ?_⟩
    refine ite2 (fun hy => ?_) (fun hn => ?_)
    · obtain rfl := is_int (i := 45) hy
      obtain ⟨rfl, rfl⟩ := CN_eq (y := "NothingToUndo") (gl := []) hc rfl
      exact ⟨rfl, (by show 0 ≤ 1000; decide), fun a H2 n k xa => raise_end n k xa q⟩
    have n45 := not_int (i := 45) hn
    clear hn
    refine ⟨_, rfl, rfl, _, rfl, ?_⟩
    refine ite2 (fun hy => ?_) (fun hn => ?_)
    · obtain rfl := is_int (i := 47) hy
      obtain ⟨rfl, rfl⟩ := CN_eq (y := "NotRead") (gl := [("count" : Str)]) hc rfl
      exact ⟨_, rfl, rfl, (by show 1 ≤ 1000; decide), fun a H2 n k xa => raise_end n k xa q⟩
    have n47 := not_int (i := 47) hn
    clear hn
    refine ⟨_, rfl, rfl, _, rfl, ?_⟩
    refine ite2 (fun hy => ?_) (fun hn => ?_)
    · obtain rfl := is_int (i := 48) hy
      obtain ⟨rfl, rfl⟩ := CN_eq (y := "OtherSigns") (gl := [("one" : Str), ("other" : Str)]) hc rfl
      exact ⟨_, rfl, _, rfl, rfl, (by show 2 ≤ 1000; decide), fun a H2 n k xa => raise_end n k xa q⟩
    have n48 := not_int (i := 48) hn
    clear hn
    refine ⟨_, rfl, rfl, _, rfl, ?_⟩
    refine ite2 (fun hy => ?_) (fun hn => ?_)
    · obtain rfl := is_int (i := 50) hy
      obtain ⟨rfl, rfl⟩ := CN_eq (y := "TakenName") (gl := [("name" : Str)]) hc rfl
      exact ⟨_, rfl, rfl, (by show 1 ≤ 1000; decide), fun a H2 n k xa => raise_end n k xa q⟩
    have n50 := not_int (i := 50) hn
    clear hn
    refine ⟨_, rfl, rfl, _, rfl, ?_⟩
    refine ite2 (fun hy => ?_) (fun hn => ?_)
    · obtain rfl := is_int (i := 53) hy
      obtain ⟨rfl, rfl⟩ := CN_eq (y := "TwiceNamed") (gl := [("name" : Str)]) hc rfl
      exact ⟨_, rfl, rfl, (by show 1 ≤ 1000; decide), fun a H2 n k xa => raise_end n k xa q⟩
    have n53 := not_int (i := 53) hn
    clear hn
    refine ⟨_, rfl, rfl, _, rfl, ?_⟩
    refine ite2 (fun hy => ?_) (fun hn => ?_)
    · obtain rfl := is_int (i := 54) hy
      obtain ⟨rfl, rfl⟩ := CN_eq (y := "Unfit") (gl := [("filling" : Str), ("place" : Str)]) hc rfl
      exact ⟨_, rfl, _, rfl, rfl, (by show 2 ≤ 1000; decide), fun a H2 n k xa => raise_end n k xa q⟩
    have n54 := not_int (i := 54) hn
    clear hn
    refine ⟨_, rfl, rfl, _, rfl, ?_⟩
    refine ite2 (fun hy => ?_) (fun hn => ?_)
    · obtain rfl := is_int (i := 56) hy
      obtain ⟨rfl, rfl⟩ := CN_eq (y := "Unreached") (gl := [("state" : Str)]) hc rfl
      exact ⟨_, rfl, rfl, (by show 1 ≤ 1000; decide), fun a H2 n k xa => raise_end n k xa q⟩
    have n56 := not_int (i := 56) hn
    clear hn
    simp [some24] at hm
    omega
end
end L2.K9

set_option Elab.async false
set_option linter.all false
set_option maxRecDepth 100000
set_option maxHeartbeats 4000000
/-! try: .. except X as n: suite, where the caught exception is kept by another name and read behind the statement. -/
namespace L2.K9
open PySem PySem.Spec PyProof.Rows L2
/-- the wish: each exception of the body is caught; behind the suite it stands at a -/
def wKeep (K : PySem.W.Frag) (c : Value) (i : Nat) (ts : Addr → Value → Option Addr → TS) (D : Ends) : WX := fun cls d σ H => PySem.W.exmOne K cls c = some true ∧ ∃ C : Addr, cls = .ref C ∧ ∀ a, H a = none →
  ts a cls d { nx := fun σ' H' => H' a = none → D.nx (σ'.set i none) (upd H' a (exi a C d false)), rt := fun _ _ => False, bk := fun _ _ => False, ct := fun _ _ => False } (σ.set i (some (.ref a))) H
section
variable {X : Cx} {pins : List (Addr × Obj)} {σ : L2.St} {H : Hp} {s : Shared}
/-- a pinned exception that was not there at the entry is told again -/
theorem Inv.keep_exc {a C : Addr} {d : Option Addr} {oe : Obj} {vs : Array Value} (I : Inv X ((a, oe) :: pins) σ H s) (n0 : X.s_0.heap.get? a = none) (np : ∀ p ∈ X.pn ++ pins, p.1 ≠ a) (hz : Zc (.ref C) d oe) (hd : oe.data = .fields vs) : Inv X pins σ (upd H a (exi a C d false)) s := by
  obtain ⟨ha, na, nL, nF, _⟩ := I.pin (a, oe) (List.mem_append_right _ List.mem_cons_self)
  have nb : ∀ {b : Addr} {o : Obj}, X.s_0.heap.get? b = some o → b ≠ a := fun {b o} e z => by
    rw [z, n0] at e
    cases e
  have nt : ∀ {b : Addr} {o : HO}, H b = some o → b ≠ a := fun {b o} e z => by
    rw [z] at e
    have e2 : H a = some o := e
    have na2 : H a = none := na
    rw [na2] at e2
    cases e2
  refine ⟨I.ok, I.os, I.bare, ⟨I.base.keep, I.base.slot, fun b o e n hx => ?_, I.base.there, fun b xs e => ?_, fun b o u e => ?_, fun b ps e => ?_⟩, I.loc, I.cell, ?_, fun x c e => ?_, fun p hp => ?_, fun b o e => ?_, I.len⟩
  · rw [upd_ne (nb e)]
    exact I.base.free b o e n hx
  · have q := I.base.tups b xs e
    rw [upd_ne (nt q)]
    exact q
  · have q := I.base.frzs b o u e
    rw [upd_ne (nt q)]
    exact q
  · obtain ⟨m, q⟩ := I.base.tbls b ps e
    exact ⟨m, by rw [upd_ne (nt q)]; exact q⟩
  · have nL2 : X.env.locals ≠ a := Ne.symm nL
    rw [upd_ne nL2]
    exact I.free
  · have nc : c ≠ a := fun z => by
      obtain ⟨v, o, ho, hc⟩ := I.cell x c e
      rw [z] at ho
      have ha2 : s.heap.get? a = some oe := ha
      rw [ha2] at ho
      cases ho
      rw [hd] at hc
      cases hc
    rw [upd_ne nc]
    exact I.freeC x c e
  · have hp' : p ∈ X.pn ++ (a, oe) :: pins := by
      rcases List.mem_append.mp hp with q | q
      · exact List.mem_append_left _ q
      · exact List.mem_append_right _ (List.mem_cons_of_mem _ q)
    obtain ⟨h1, h2, h3, h4, h5⟩ := I.pin p hp'
    exact ⟨h1, by rw [upd_ne (np p hp)]; exact h2, h3, h4, h5⟩
  · by_cases hb : b = a
    · subst hb
      rw [upd_same] at e
      cases e
      exact exi_ok ha hz hd fun z => by cases z
    · rw [upd_ne hb] at e
      exact (I.hok b o e).stay (fun _ _ _ q => q) (fun c q => by rw [upd_ne (nt q)]; exact q) fun c xs q => by rw [upd_ne (nt q)]; exact q
end
section
variable {X : Cx} {x n : Str} {c : Value} {i : Nat} {body suite : List Stmt} {b₀ : Stmt} {np pos pos' : Pos} {tb : WX → TS} {ts : Addr → Value → Option Addr → TS}
theorem ps_try_keep (hs : X.stack = X.env :: X.outer) (hf : X.env.frame = some X.env.locals) (hex : X.ex = []) (hN : X.N.Nodup) (hi : X.N[i]? = some n) (hln : X.env.kindOf n = some .local) (hc : Names X x c)
    (hb : ∀ (W : WX) (pn : List (Addr × Obj)) (xe : Value → Shared → Prop), Takes (X.tr pn xe) W → PassesOwn (model X.prog X.w) X.A X.env xe → PSs (X.tr pn xe) body (tb W))
    (hsu : ∀ (a : Addr) (oe : Obj) (cls : Value) (d : Option Addr) (pn : List (Addr × Obj)), Zc cls d oe → (∃ vs, oe.data = .fields vs) → PSs (X.suite a ((a, oe) :: pn)) (b₀ :: suite) (ts a cls d)) :
    PS X (.Try body [.ExceptHandler (some (.Name x np)) (some n) (b₀ :: suite) pos'] [] [] pos) (fun D σ H => tb (wKeep X.K c i ts D) D σ H) := by
  refine ⟨fun pins s σ H D I h => ?_⟩
  have ok := I.ok
  have hfr : X.A.frames = some (X.env :: X.outer) := by
    rw [ok.frames, hs]
  refine wpAny_Try_except ?_
  refine wpAny_mono ((hb (wKeep X.K c i ts D) (X.pn ++ pins)
    (fun e s₁ => wpAny (model X.prog X.w) X.A (noteFrame e X.env) (fun _ s₂ => wpAny (model X.prog X.w) X.A (setFlight e none) (fun _ s₃ => wpAny (model X.prog X.w) X.A (handleBy e X.env [.ExceptHandler (some (.Name x np)) (some n) (b₀ :: suite) pos']) (SP X pins D) X.xe s₃) X.xe s₂) X.xe s₁)
    (fun u s' xx => ?_) PassesOwn.looking).run [] s σ H D (I.toTry _) h) (fun f s1 hsp => ?_) (fun e s1 he => he)
  · obtain ⟨a, B, sI, pins', σ', H', cls, d, rfl, J', nb, up, sky, na, os, ag, hb1, C, rfl, hyes⟩ := xx
    have J : Inv X pins σ' H' sI := J'.ofTry ok
    rw [show (X.tr (X.pn ++ pins) _).stack = X.env :: X.outer from hs] at sky
    show wpAny (model X.prog X.w) X.A (noteFrame (.ref a) X.env) _ _ _
    refine Sky.land Zc.steady hfr hf sky fun h3 fl3 up3 => ?_
    have J3 : Inv X pins σ' H' { s' with heap := h3 } := J.landed nb fl3.1 (up.trans up3) os ag
    obtain ⟨oe3, vs3, he3, hz3, hd3⟩ := fl3.there
    have nfr : a ∉ frs X.stack := fun hm => by
      rw [hs] at hm
      obtain ⟨_, o', e', hnf⟩ := fl3.2.2.1.mem hm
      rw [he3] at e'
      cases e'
      exact hnf _ hd3
    have nL : a ≠ X.env.locals := fun z => nfr (by rw [hs]; exact List.mem_filterMap.mpr ⟨X.env, List.mem_cons_self, by rw [hf, z]⟩)
    have nF : a ∉ X.fs := fun hm => nfr (by
      rw [hs]
      obtain ⟨e, he, q⟩ := List.mem_filterMap.mp hm
      exact List.mem_filterMap.mpr ⟨e, List.mem_cons_of_mem _ he, q⟩)
    have nB : B.get? a = none := fl3.2.1
    have n0 : X.s_0.heap.get? a = none := by
      cases e : X.s_0.heap.get? a with
      | none => rfl
      | some o =>
        obtain ⟨o', e'⟩ := J.base.there a o e (by rw [hex]; exact fun z => nomatch z)
        have e2 := nb a o' e' nfr
        rw [nB] at e2
        cases e2
    have np' : ∀ p ∈ X.pn ++ pins, p.1 ≠ a := fun p hp z => by
      obtain ⟨h1, _, h3, h4, _⟩ := J.pin p hp
      have e2 := nb p.1 p.2 h1 (by rw [z]; exact nfr)
      rw [z, nB] at e2
      cases e2
    have S3 := J3.suite he3 hd3 na nL nF
    refine wpAny_handleBy_cons (codeAny_handlers_test ?_) (by intro q; cases q)
    have LT : PySem.W.Looks (model X.prog X.w) h3 (typeOf (.ref a)) (.ref C) := fun A Q E s k q => wpAny_typeOf_ref (k _ _ he3) (by rw [hz3.1]; exact q)
    have LM := PySem.W.exm_one (M := model X.prog X.w) J3.kIn LT hb1
    have test : ∀ {Q : Value → Shared → Prop} {E : Value → Shared → Prop}, Q c { s' with heap := h3 } → wpAny (model X.prog X.w) (X.A.mark (some (.ref a))) (eval (.Name x np) X.env) Q E { s' with heap := h3 } := fun {Q E} q => by
      obtain ⟨hg, hdbg, hm | ⟨hm, hv, hnn⟩⟩ := hc
      · exact ld_glob (X := X.suite a ((a, oe3) :: (X.pn ++ pins))) S3 hg hm q hdbg
      · exact ld_blt (X := X.suite a ((a, oe3) :: (X.pn ++ pins))) S3 hg hm hv q hnn hdbg
    refine test (LM.here ?_)
    refine codeAny_handlers_suite_as ?_
    refine PySem.HandSPX.lands_againZ fl3 fun h4 fl4 up4 => ?_
    have J4 : Inv X pins σ' H' { s' with heap := h4 } := J.landed nb fl4.1 ((up.trans up3).trans up4) os ag
    obtain ⟨oe4, vs4, he4, hz4, hd4⟩ := fl4.there
    have S4 := J4.suite he4 hd4 na nL nF
    refine store_ok (X := X.suite a ((a, oe4) :: (X.pn ++ pins))) (v := .ref a) S4 hN hi (.inl hln) rfl (fun s5 S5 => ?_) (.inr hln)
    refine wpAny_mono ((hsu a oe4 (.ref C) d (X.pn ++ pins) hz4 ⟨_, hd4⟩).run [] s5 _ H' _ S5 (hyes a na)) (fun f s6 hsp => ?_) (fun _ _ z => False.elim z)
    cases f with
    | next =>
      obtain ⟨σ6, H6, S6, q6⟩ := hsp
      have n6 : H6 a = none := (S6.pin (a, oe4) (List.mem_append_left _ List.mem_cons_self)).2.1
      have S7 : Inv X ((a, oe4) :: pins) σ6 H6 s6 := ⟨ok, S6.os, S6.bare, S6.base, S6.loc, S6.cell, S6.free, S6.freeC, fun p hp => S6.pin p (by
        rcases List.mem_append.mp hp with q | q
        · exact List.mem_append_left _ (List.mem_cons_of_mem _ (List.mem_append_left _ q))
        · rcases List.mem_cons.mp q with q | q
          · rw [q]
            exact List.mem_append_left _ List.mem_cons_self
          · exact List.mem_append_left _ (List.mem_cons_of_mem _ (List.mem_append_right _ q))), S6.hok, S6.len⟩
      exact gone_ok S7 hN hi hln fun s8 S8 => ⟨_, _, Inv.keep_exc S8 n0 np' hz4 hd4, q6 n6⟩
    | brk =>
      obtain ⟨_, _, _, q6⟩ := hsp
      exact q6.elim
    | cont =>
      obtain ⟨_, _, _, q6⟩ := hsp
      exact q6.elim
    | ret u =>
      obtain ⟨_, _, _, _, _, q6⟩ := hsp
      exact q6.elim
  · cases f with
    | next =>
      obtain ⟨σ', H', J', q⟩ := hsp
      exact wpAny_execs_nil ⟨σ', H', J'.ofTry ok, q⟩
    | brk =>
      obtain ⟨σ', H', J', q⟩ := hsp
      exact ⟨σ', H', J'.ofTry ok, q⟩
    | cont =>
      obtain ⟨σ', H', J', q⟩ := hsp
      exact ⟨σ', H', J'.ofTry ok, q⟩
    | ret u =>
      obtain ⟨v, σ', H', J', r, q⟩ := hsp
      exact ⟨v, σ', H', J'.ofTry ok, r, q⟩
end
end L2.K9

set_option Elab.async false
set_option linter.all false
set_option maxRecDepth 100000
set_option maxHeartbeats 4000000
/-! The comprehension that calls _law_keeps; lists of equal bools. -/
namespace L2.K9
open PySem PySem.Spec PyProof.Rows L2
/-- the two values, apart, with all else as in H0 -/
def KS (S1 S2 : Addr → Prop) (m : Nat) (H0 : Hp) (one other : V) (H : Hp) : Prop := (∀ b o, ¬ S1 b → ¬ S2 b → H0 b = some o → H b = some o) ∧ Gd S1 m H 4 one ∧ Gd S2 m H 4 other
section
variable {S1 S2 : Addr → Prop} {m : Nat} {H0 H H' : Hp} {one other : V}
theorem KS.same (k : KS S1 S2 m H0 one other H) (s : Same H H') : KS S1 S2 m H0 one other H' := ⟨fun b o n1 n2 e => s _ _ (k.1 b o n1 n2 e), k.2.1.same s, k.2.2.same s⟩
theorem KS.put {D : Addr} {o : HO} (k : KS S1 S2 m H0 one other H) (h : H0 D = none) (n1 : ¬ S1 D) (n2 : ¬ S2 D) : KS S1 S2 m H0 one other (upd H D o) := by
  refine ⟨fun b u b1 b2 e => ?_, k.2.1.mono (Nat.le_refl _) (fun _ z => z) (fun a u ha e => ?_) 4 (Nat.le_refl _), k.2.2.mono (Nat.le_refl _) (fun _ z => z) (fun a u ha e => ?_) 4 (Nat.le_refl _)⟩
  · rw [upd_ne (ne_of_none e h)]
    exact k.1 b u b1 b2 e
  · rw [upd_ne (fun z => n1 (by rw [← z]; exact ha))]
    exact e
  · rw [upd_ne (fun z => n2 (by rw [← z]; exact ha))]
    exact e
theorem KS.fst (dj : ∀ a, S1 a → ¬ S2 a) (k : KS S1 S2 m H0 one other H) (h : ∀ b o, ¬ S1 b → H b = some o → H' b = some o) (g : Gd S1 (m + 1) H' 4 one) : KS S1 S2 (m + 1) H0 one other H' :=
  ⟨fun b o n1 n2 e => h _ _ n1 (k.1 b o n1 n2 e), g, k.2.2.mono (Nat.le_succ m) (fun _ z => z) (fun a u ha e => h _ _ (fun z => dj a z ha) e) 4 (Nat.le_refl _)⟩
theorem KS.snd (dj : ∀ a, S1 a → ¬ S2 a) (k : KS S1 S2 m H0 one other H) (h : ∀ b o, ¬ S2 b → H b = some o → H' b = some o) (g : Gd S2 (m + 1) H' 4 other) : KS S1 S2 (m + 1) H0 one other H' :=
  ⟨fun b o n1 n2 e => h _ _ n2 (k.1 b o n1 n2 e), k.2.1.mono (Nat.le_succ m) (fun _ z => z) (fun a u ha e => h _ _ (dj a ha) e) 4 (Nat.le_refl _), g⟩
theorem KS.rebase {H1 : Hp} (k : KS S1 S2 m H0 one other H) (g : KS S1 S2 m H one other H1) : KS S1 S2 m H0 one other H1 := ⟨fun b o n1 n2 e => g.1 b o n1 n2 (k.1 b o n1 n2 e), g.2⟩
end
theorem keeps_lc {K : PySem.W.Frag} {σ : L2.St} {vs : List Nat} {i j : Nat} {S1 S2 : Addr → Prop} {m : Nat} {H1 : Hp} {D pF pL : Addr} {one other : V} {n : Nat} {E : XK} {Qd : Hp → Prop}
    (hm : m ≤ 90) (dj : ∀ a, S1 a → ¬ S2 a) (g1 : Gd S1 m H1 4 one) (g2 : Gd S2 m H1 4 other) (hD : H1 D = none) (d1 : ¬ S1 D) (d2 : ¬ S2 D)
    (hF : H1 pF = some (.lst ([one, other].take n))) (f1 : ¬ S1 pF) (f2 : ¬ S2 pF) (hL : H1 pL = some (.lst [one, other])) (l1 : ¬ S1 pL) (l2 : ¬ S2 pL)
    (hw : ∀ x y, wipe (((wipe σ vs).set i (some x)).set j (some y)) vs = wipe σ vs) (hx : ∀ x y, (((wipe σ vs).set i (some x)).set j (some y))[i]? = some (some x)) (hy : ∀ x y, (((wipe σ vs).set i (some x)).set j (some y))[j]? = some (some y))
    (hd : ∀ H', KS S1 S2 (m + 2) H1 one other H' → H' D = some (.lst []) → Qd H') :
    ∃ W : Nat → Nat → Hp → Prop, (∃ m, W 0 m (upd H1 D (.lst []))) ∧ ∀ t m H, W t m H →
      ((Itz K pF pL).stop t H ∧ Qd H) ∨ ((Itz K pF pL).go t H ∧ ∃ Nx : Hp → Prop, (∀ H', Nx H' → ∃ m', m' < m ∧ W (t + 1) m' H') ∧ ∀ x H', (Itz K pF pL).yld t H x H' → gTup K 2 (gCons (gName i) (gCons (gName j) gNil)) x (wipe σ vs) H' fun σ2 H2 => wipe σ2 vs = wipe σ vs ∧ tNot (tB (tCall (spKeeps 4) [] E (tCons (tVar i) (tCons (tVar j) tNil)))) σ2 H2 fun b H3 =>
        if b = true then tVar j σ2 H3 fun y H4 => ∃ acc, H4 D = some (.lst acc) ∧ acc.length < sizeLine ∧ Nx (upd H4 D (.lst (acc ++ [y]))) else Nx H3) := by
  have lt : ([one, other].take n).length ≤ 2 := by simp; omega
  have keep : ∀ {t : Nat} {H H' : Hp}, (KS S1 S2 (m + t) H1 one other H ∧ H D = some (.lst [])) → (∀ b o, ¬ S1 b → ¬ S2 b → H b = some o → H' b = some o) → H' D = some (.lst []) := fun p q => q _ _ d1 d2 p.2
  refine lc_it (walk_zip (xs := [one, other].take n) (ys := [one, other]) rfl) (fun t H => KS S1 S2 (m + t) H1 one other H ∧ H D = some (.lst []))
    ⟨⟨fun b o _ _ e => by rw [upd_ne (ne_of_none e hD)]; exact e, g1.same (Same.upd hD), g2.same (Same.upd hD)⟩, upd_same⟩ (fun t H _ p => ⟨SqL.of (p.1.1 _ _ f1 f2 hF), SqL.of (p.1.1 _ _ l1 l2 hL)⟩) (fun t x H H' ht p y => ?_) (fun H p => ?_)
  · obtain ⟨T, u, v, rfl, hT, rfl, hu, hv⟩ := y
    refine ⟨T, [u, v], rfl, SqT.of upd_same, rfl, u, [v], rfl, v, [], rfl, rfl, hw u v, u, hx u v, v, hy u v, ?_⟩
    have ht2 : t < 2 := by omega
    have euv : u = v := by
      have z : ([one, other].take n)[t]? = some u := hu
      have hv : [one, other][t]? = some v := hv
      rw [List.getElem?_take] at z
      by_cases q : t < n
      · rw [if_pos q, hv] at z
        exact (Option.some.inj z).symm
      · rw [if_neg q] at z
        cases z
    subst euv
    have p1 := KS.same p.1 (Same.upd (o := .tup [u, u]) hT)
    have hD1 : upd H T (.tup [u, u]) D = some (.lst []) := Same.upd hT _ _ p.2
    match t, ht2, hv, p1 with
    | 0, _, hv, p1 =>
      have eu : one = u := Option.some.inj hv
      subst eu
      refine ⟨one, S1, m, rfl, by omega, p1.2.1, fun H2 k2 q2 => ⟨true, rfl, iteF ?_⟩⟩
      exact ⟨KS.fst dj p1 k2 q2, k2 _ _ d1 hD1⟩
    | 1, _, hv, p1 =>
      have eu : other = u := Option.some.inj hv
      subst eu
      refine ⟨other, S2, m + 1, rfl, by omega, p1.2.2, fun H2 k2 q2 => ⟨true, rfl, iteF ?_⟩⟩
      exact ⟨KS.snd dj p1 k2 q2, k2 _ _ d2 hD1⟩
  · refine hd H ⟨p.1.1, p.1.2.1.mono (by omega) (fun _ z => z) (fun _ _ _ z => z) 4 (Nat.le_refl _), p.1.2.2.mono (by omega) (fun _ z => z) (fun _ _ _ z => z) 4 (Nat.le_refl _)⟩ p.2
theorem dp_bools {K : PySem.W.Frag} {H : Hp} : ∀ {n : Nat} {f : Nat → Bool}, DpAll K H ((List.range n).map fun i => .bl (f i)) ((List.range n).map fun i => .bool (f i)) := by
  intro n f
  induction List.range n with
  | nil => exact .nil
  | cons a r ih => exact .cons (.bl _) ih
end L2.K9

set_option Elab.async false
set_option linter.all false
set_option maxRecDepth 100000
set_option maxHeartbeats 8000000
/-! _law_caught_right. -/
namespace L2.K9
open PySem PySem.Spec PyProof.Rows L2
abbrev sCaught : Stmt := top 74
theorem Gd.there {S : Addr → Prop} {m : Nat} {H : Hp} {n : Nat} {v : V} (g : Gd S m H n v) : Gd (fun a => S a ∧ H a ≠ none) m H n v := by
  induction g with
  | non n => exact .non n
  | bl n b => exact .bl n b
  | int n i => exact .int n i
  | str n z => exact .str n z
  | lst h1 h2 h3 _ ih => exact .lst ⟨h1, by rw [h2]; exact fun z => by cases z⟩ h2 h3 ih
  | tup h1 h2 h3 _ ih => exact .tup ⟨h1, by rw [h2]; exact fun z => by cases z⟩ h2 h3 ih
  | dct h1 h2 h3 h4 h5 _ ih => exact .dct ⟨h1, by rw [h2]; exact fun z => by cases z⟩ h2 h3 h4 h5 ih
theorem exm_fam {P : Program} {w : World} {K : PySem.W.Frag} {mg : Str → Option Value} {base : Heap} {C : Nat → Addr} {C0 : Addr} (Z : Fam P w K mg base C C0) {k : Nat} (hk : k < 57) : PySem.W.exmOne K (.ref (C k)) (.ref C0) = some true := by
  have h0 : PySem.W.subIn K (.ref C0) (.type "BaseException") = some true := by
    show PySem.W.mroIn K C0 _ = _
    rw [Z.x0.mro]
    congr 1
  have h1 : PySem.W.subIn K (.ref (C k)) (.ref C0) = some true := by
    show PySem.W.mroIn K (C k) _ = _
    rw [(Z.xc hk).mro]
    simp
  exact PySem.W.exm_ref h0 Z.x0.hd Z.x0.oex.tyC h1
theorem ExAt.of_exi {H : Hp} {a C : Addr} {d : Option Addr} {fs : List (Str × V)} {b : Bool} (h : H a = some (exi a C d b)) (q : DictAt H d fs) : ExAt H a C fs b := by
  rcases q with ⟨rfl, rfl⟩ | ⟨x, rfl, q⟩
  · exact .inl ⟨rfl, h⟩
  · exact .inr ⟨x, h, q⟩
theorem DictAt.same {H H' : Hp} {d : Option Addr} {fs : List (Str × V)} (q : DictAt H d fs) (k : Same H H') : DictAt H' d fs := by
  rcases q with ⟨rfl, rfl⟩ | ⟨x, rfl, q⟩
  · exact .inl ⟨rfl, rfl⟩
  · exact .inr ⟨x, rfl, k _ _ q⟩
/-- [at == k for at in range(57)] -/
theorem at_lc {σ : L2.St} {vs : List Nat} {i j : Nat} {k : Nat} {H1 : Hp} {D : Addr} {Qd : Hp → Prop} (hD : H1 D = none)
    (hw : ∀ x, wipe ((wipe σ vs).set i (some x)) vs = wipe σ vs) (hx : ∀ x, ((wipe σ vs).set i (some x))[i]? = some (some x)) (hy : ∀ x, ((wipe σ vs).set i (some x))[j]? = some (some (.int (k : Int))))
    (hd : ∀ H', Same H1 H' → H' D = some (.lst ((List.range 57).map fun t => .bl (decide (t = k)))) → Qd H') :
    ∃ W : Nat → Nat → Hp → Prop, (∃ m, W 0 m (upd H1 D (.lst []))) ∧ ∀ t m H, W t m H →
      ((Itr 0 57).stop t H ∧ Qd H) ∨ ((Itr 0 57).go t H ∧ ∃ Nx : Hp → Prop, (∀ H', Nx H' → ∃ m', m' < m ∧ W (t + 1) m' H') ∧ ∀ x H', (Itr 0 57).yld t H x H' → gName i x (wipe σ vs) H' fun σ2 H2 => wipe σ2 vs = wipe σ vs ∧ tYes σ2 H2 fun b H3 =>
        if b = true then tOp rEq (tVar i) (tVar j) σ2 H3 fun y H4 => ∃ acc, H4 D = some (.lst acc) ∧ acc.length < sizeLine ∧ Nx (upd H4 D (.lst (acc ++ [y]))) else Nx H3) := by
  refine lc_it (walk_range (lo := 0) (n := 57)) (fun t H => Same H1 H ∧ H D = some (.lst ((List.range t).map fun t => .bl (decide (t = k))))) ⟨Same.upd hD, upd_same⟩ (fun _ _ _ _ => trivial) (fun t x H H' ht p y => ?_) (fun H p => hd H p.1 p.2)
  obtain ⟨rfl, rfl⟩ := y
  refine ⟨hw _, ?_⟩
  refine ⟨_, hx _, _, hy _, rfl, _, p.2, ?_, ?_, ?_⟩
  · rw [List.length_map, List.length_range]
    exact Nat.lt_trans ht (by decide)
  · intro b o e
    rw [upd_ne (ne_of_none e hD)]
    exact p.1 b o e
  · rw [upd_same, List.range_succ, List.map_append]
    have e : decide (V.int (0 + (t : Int)) = V.int (k : Int)) = decide (t = k) := by
      rw [dec_int]
      by_cases z : t = k
      · simp [z]
      · have z2 : ¬ ((0 : Int) + (t : Int) = (k : Int)) := by omega
        rw [decide_eq_false z, beq_eq_false_iff_ne]
        exact z2
    show some (HO.lst (_ ++ [V.bl (decide (V.int (0 + (t : Int)) = V.int (k : Int)))])) = _
    rw [e]
    rfl
theorem bools_lay {f : Nat → Bool} : ∀ l : List Nat, PyData.canLayAll0 (l.map fun i => .bool (f i)) = true ∧ PyData.depthAll (l.map fun i => .bool (f i)) ≤ 1
  | [] => ⟨rfl, Nat.zero_le _⟩
  | a :: r => by
    obtain ⟨h1, h2⟩ := bools_lay r
    refine ⟨by rw [List.map_cons, PyData.canLayAll0, h1]; rfl, ?_⟩
    rw [List.map_cons, PyData.depthAll]
    exact Nat.max_le.mpr ⟨by rw [PyData.depth]; decide, h2⟩
theorem ne_bools {K : PySem.W.Frag} {H : Hp} {a b : Addr} {n : Nat} {f : Nat → Bool} {Q : VK} (ha : H a = some (.lst ((List.range n).map fun i => .bl (f i)))) (hb : H b = some (.lst ((List.range n).map fun i => .bl (f i)))) (q : Q (.bl false) H) : rNeD K (.ref a) (.ref b) H Q := by
  obtain ⟨h1, h2⟩ := bools_lay (f := f) (List.range n)
  have hs : SeqAt.shaped (.list ((List.range n).map fun i => .bool (f i))) = true := by
    unfold SeqAt.shaped
    rw [PyData.canLay0, h1, PyData.depth, Bool.true_and, decide_eq_true_iff]
    omega
  have he : PyData.eqv (.list ((List.range n).map fun i => .bool (f i))) (.list ((List.range n).map fun i => .bool (f i))) = true := PySem.SeqAt.eqv_refl _ (by rw [PyData.canLay0, h1])
  refine ⟨_, _, .lst (SqL.of ha) dp_bools, .lst (SqL.of hb) dp_bools, hs, hs, ?_⟩
  rw [he]
  exact q
def spCaught : Sp := fun vs H Q _ => ∃ (p : Addr) (n : Int), vs = [.ref p] ∧ n ≤ 80000 ∧ BoxAt H p n ∧ ∀ H', (∀ b o, b ≠ p → H b = some o → H' b = some o) → BoxAt H' p (n + 3) → Q (.bl true) H'
section
variable {P : Program} {w : World} {K : PySem.W.Frag} {mg : Str → Option Value} {base : Heap} {C : Nat → Addr} {C0 : Addr}
theorem scCaught : FnScope ["box", "some", "k", "one", "other", "told", "e", "at", "field", "value", "fields"] ["box"] (defScope sCaught) := ⟨rfl, rfl, rfl, by decide +kernel, rfl, by decide +kernel, by decide +kernel⟩
/-- what is known of the helpers -/
structure Helps (P : Program) (w : World) (K : PySem.W.Frag) (mg : Str → Option Value) (base : Heap) (C : Nat → Addr) where
  fT : Addr
  fV : Addr
  fI : Addr
  fF : Addr
  fK : Addr
  fR : Addr
  fM : Addr
  fS : Addr
  fdT : FuncData
  fdV : FuncData
  fdI : FuncData
  fdF : FuncData
  fdK : FuncData
  fdR : FuncData
  fdM : FuncData
  fdS : FuncData
  kT : PySem.W.keepIn K (.ref fT) = true
  kV : PySem.W.keepIn K (.ref fV) = true
  kI : PySem.W.keepIn K (.ref fI) = true
  kF : PySem.W.keepIn K (.ref fF) = true
  kK : PySem.W.keepIn K (.ref fK) = true
  kR : PySem.W.keepIn K (.ref fR) = true
  kM : PySem.W.keepIn K (.ref fM) = true
  kS : PySem.W.keepIn K (.ref fS) = true
  mT : mg "_law_take" = some (.ref fT)
  mV : mg "_law_value" = some (.ref fV)
  mI : mg "_law_is" = some (.ref fI)
  mF : mg "_law_fields" = some (.ref fF)
  mK : mg "_law_keeps" = some (.ref fK)
  mR : mg "_law_raised_0" = some (.ref fR)
  mM : mg "_law_made_0" = some (.ref fM)
  mS : mg "_law_same" = some (.ref fS)
  bT : Binds K fdT ["box", "many"] []
  bV : Binds K fdV ["box"] []
  bI : Binds K fdI ["error"] []
  bF : Binds K fdF ["k", "error"] []
  bK : Binds K fdK ["field", "value"] []
  bR : Binds K fdR ["k", "one", "other"] []
  bM : Binds K fdM ["k", "one", "other", "by_name"] []
  bS : Binds K fdS ["told", "due"] []
  T : FnOk P w K mg base CX0 1 fT fdT ["box", "many"] spTake
  V : FnOk P w K mg base CX0 7 fV fdV ["box"] spValue
  I : FnOk P w K mg base CX0 1 fI fdI ["error"] (spIs C)
  F : FnOk P w K mg base CX0 1 fF fdF ["k", "error"] (spFields C)
  Kp : FnOk P w K mg base CX0 7 fK fdK ["field", "value"] (spKeeps 4)
  R : FnOk P w K mg base (L2.CX P w) 3 fR fdR ["k", "one", "other"] (spRaised C)
  M : FnOk P w K mg base CX0 5 fM fdM ["k", "one", "other", "by_name"] (spMade C 0)
  S : FnOk P w K mg base CX0 7 fS fdS ["told", "due"] (spSame 6)
theorem ok_caught {f : Addr} {fd : FuncData} (FC : Fun K "_law_caught_right" "_law_caught_right" sCaught f fd) (G : GL mg) (Z : Fam P w K mg base C C0) (Y : Helps P w K mg base C) : FnOk P w K mg base CX0 8 f fd ["box"] spCaught := by
  obtain ⟨fT, fV, fI, fF, fK, fR, fM, fS, fdT, fdV, fdI, fdF, fdK, fdR, fdM, fdS, kT, kV, kI, kF, kK, kR, kM, kS, mgT, mgV, mgI, mgF, mgK, mgR, mgM, mgS, bT, bV, bI, bF, bK, bR, bM, bS, GT, GV, GI, GF, GK, GR, GM, GS⟩ := Y
  refine FC.ok scCaught (fun vs H Q E h => ?_) (fun cdv A outer s H vs Q E hr h => ?_)
  · obtain ⟨p, n, rfl, _⟩ := h
    rfl
  · have hr7 : Room 7 _ := hr
    have hr1 : Room 1 _ := hr.mono (by decide)
    have hr3 : Room 3 _ := hr.mono (by decide)
    refine ⟨_, (pss_cons (ps_set (i := 1) scCaught.nd rfl (Or.inl rfl) (pe_lst (pa_cons pe_int (pa_cons pe_int (pa_cons pe_int (pa_cons pe_int (pa_cons pe_int (pa_cons pe_int (pa_cons pe_int (pa_cons pe_int (pa_cons pe_int (pa_cons pe_int (pa_cons pe_int (pa_cons pe_int (pa_cons pe_int (pa_cons pe_int (pa_cons pe_int (pa_cons pe_int (pa_cons pe_int (pa_cons pe_int (pa_cons pe_int (pa_cons pe_int (pa_cons pe_int (pa_cons pe_int (pa_cons pe_int (pa_cons pe_int pa_nil))))))))))))))))))))))))))
      (pss_cons (ps_asg (pe_tup (pa_cons (pe_ix ix_list (pv 1) (by exact pe_call GT hr1 (by rfl) mgT kT bT .nil pass0 (pa_cons (pv 0) (pa_cons (pe_callB call_len (by rfl) G.len (by decide +kernel) (pa_cons (pv 1) pa_nil)) pa_nil))) (fun _ _ => rfl)) (pa_cons (by exact pe_call GV hr7 (by rfl) mgV kV bV .nil pass0 (pa_cons (pv 0) pa_nil)) (pa_cons (by exact pe_call GV hr7 (by rfl) mgV kV bV .nil pass0 (pa_cons (pv 0) pa_nil)) (pa_cons pe_non pa_nil))))) (pg_tup rfl (pgs_cons (pg_name (i := 2) scCaught.nd rfl (.inr rfl)) (pgs_cons (pg_name (i := 3) scCaught.nd rfl (.inl rfl)) (pgs_cons (pg_name (i := 4) scCaught.nd rfl (.inl rfl)) (pgs_cons (pg_name (i := 5) scCaught.nd rfl (.inl rfl)) pgs_nil))))))
      (pss_cons (ps_try_keep (i := 6) rfl rfl rfl scCaught.nd rfl rfl ⟨by rfl, by decide, .inl Z.z.mgC⟩ (fun W pn xe tk _ => pss_one (ps_expr (by exact pe_callS GR hr3 (by rfl) mgR kR bR (fun σ => passAt tk σ) (pa_cons (pv 2) (pa_cons (pv 3) (pa_cons (pv 4) pa_nil))))))
        (fun a oe cls d pn hz hd => pss_one (ps_set (i := 5) scCaught.nd rfl (Or.inl rfl) (pv 6))))
      (pss_cons (ps_if (PW.pt (pw_or (pt_cmpR op_isN (pv 5) pe_non (nomark _)) (pw_or (pt_not (pt_val (pe_callB call_isx (by rfl) G.isinstance (by decide +kernel) (pa_cons (pv 5) (pa_cons (pe_bltn (v := .ty "ValueError") (by rfl) G.ve (by decide +kernel) rfl) pa_nil))))) (pw_or1 (pt_cmpR (op_neD hr.units) (by exact pe_call GI hr1 (by rfl) mgI kI bI .nil pass0 (pa_cons (pv 5) pa_nil)) (pe_lc (own := [("at", 7)]) (g := gName 7) (by rfl) scCaught.nd (pi_range1 (by rfl) G.range (pa_cons pe_int pa_nil)) (blkOk_by (N := ["box", "some", "k", "one", "other", "told", "e", "at", "field", "value", "fields"]) (sc := defScope sCaught) (by decide +kernel)) (fun _ _ _ _ _ => by exact (pg_name (i := 7) scCaught.nd rfl (.inl rfl))) (fun _ _ _ _ _ => by exact pts_nil) (fun _ _ _ _ _ => by exact (pe_cmpR op_eq (pv 7) (pv 2) (nomark _)))) (nomark _))))))
        (pss_one (ps_ret pe_bl))
        pss_nil)
      (pss_cons (ps_set (i := 10) scCaught.nd rfl (Or.inl rfl) (by exact pe_call GF hr1 (by rfl) mgF kF bF .nil pass0 (pa_cons (pv 2) (pa_cons (pv 5) pa_nil))))
      (pss_one (ps_ret (pe_cmpR (op_eqD hr.units) (pe_lc (own := [("field", 8), ("value", 9)]) (g := gTup K 2 (gCons (gName 8) (gCons (gName 9) gNil))) (by rfl) scCaught.nd (pi_zip (by rfl) G.zip (pa_cons (pv 10) (pa_cons (pe_lst (pa_cons (pv 3) (pa_cons (pv 4) pa_nil))) pa_nil))) (blkOk_by (N := ["box", "some", "k", "one", "other", "told", "e", "at", "field", "value", "fields"]) (sc := defScope sCaught) (by decide +kernel)) (fun _ _ _ _ _ => by exact (pg_tup rfl (pgs_cons (pg_name (i := 8) scCaught.nd rfl (.inl rfl)) (pgs_cons (pg_name (i := 9) scCaught.nd rfl (.inl rfl)) pgs_nil)))) (fun _ _ _ _ _ => by exact pts_one (pt_not (pt_val (by exact pe_call GK hr7 (by rfl) mgK kK bK .nil pass0 (pa_cons (pv 8) (pa_cons (pv 9) pa_nil)))))) (fun _ _ _ _ _ => by exact (pv 9))) (pe_lst pa_nil) (nomark _))))))))), ?_⟩
    obtain ⟨p, n, rfl, hn, hbox, q⟩ := h
    refine ⟨(by show 24 ≤ sizeLine; decide), fun ps hps => ?_⟩
    have k0 := Same.upd (o := .lst (some24.map fun i : Nat => V.int (i : Int))) hps
    have e0 : upd H ps (.lst (some24.map fun i : Nat => V.int (i : Int))) ps = some (.lst (some24.map fun i : Nat => V.int (i : Int))) := upd_same
    have hnp : ps ≠ p := fun z => by
      obtain ⟨_, _, _, _, e, _⟩ := hbox
      rw [← z, hps] at e
      cases e
    refine ⟨_, rfl, _, rfl, _, rfl, _, 24, rfl, .inl ⟨_, SqL.of e0, rfl⟩, p, 24, n, rfl, by decide, by decide, by omega, hbox.same k0, fun r H2 hr0 hr2 hb2 k2 => ?_⟩
    obtain ⟨t, rfl⟩ : ∃ t : Nat, r = t := ⟨r.toNat, by omega⟩
    have ht : t < some24.length := by
      show t < 24
      omega
    obtain ⟨j, hj⟩ : ∃ j, some24[t]? = some j := ⟨_, List.getElem?_eq_getElem ht⟩
    have hjm : j ∈ some24 := List.mem_of_getElem? hj
    have hj57 : j < 57 := by
      have a : ∀ x ∈ some24, x < 57 := by decide
      exact a j hjm
    have e2 : (some24.map fun i : Nat => V.int (i : Int))[t]? = some (V.int (j : Int)) := by
      rw [List.getElem?_map, hj]
      rfl
    refine ⟨ps, _, _, _, rfl, rfl, SqL.of (k2 ps _ hnp e0), atI_nat e2, ?_⟩
    refine ⟨_, rfl, p, n + 1, rfl, by omega, hb2, fun one H3 k3 hb3 g1 => ?_⟩
    refine ⟨_, rfl, p, n + 1 + 1, rfl, by omega, hb3, fun other H4 k4 hb4 g2 => ?_⟩
    have np2 : H2 p ≠ none := fun z => by
      obtain ⟨_, _, _, _, e, _⟩ := hb2
      rw [z] at e
      cases e
    have np3 : H3 p ≠ none := fun z => by
      obtain ⟨_, _, _, _, e, _⟩ := hb3
      rw [z] at e
      cases e
    have g1' : Gd (fun a => H2 a = none ∧ H3 a ≠ none) 5 H4 4 one := g1.there.mono (Nat.le_refl _) (fun _ z => z) (fun a o ha e => k4 a o (fun z => np2 (by rw [← z]; exact ha.1)) e) 4 (Nat.le_refl _)
    have g2' : Gd (fun a => H3 a = none ∧ H4 a ≠ none) 5 H4 4 other := g2.there
    have dj : ∀ a, (H2 a = none ∧ H3 a ≠ none) → ¬ (H3 a = none ∧ H4 a ≠ none) := fun a x y => x.2 y.1
    have out1 : ∀ {b o}, b ≠ p → H b = some o → H4 b = some o := fun hb e => k4 _ _ hb (k3 _ _ hb (k2 _ _ hb (k0 _ _ e)))
    refine ⟨(by show 4 ≤ sizeLine; decide), fun pt hpt => ?_⟩
    refine ⟨pt, _, rfl, SqT.of upd_same, rfl, _, _, rfl, _, _, rfl, _, _, rfl, _, _, rfl, rfl, ?_⟩
    have k5 := Same.upd (o := .tup [.int (j : Int), one, other, .non]) hpt
    obtain ⟨x, fl, hc⟩ : ∃ x fl, CN[j]? = some (x, fl) := by
      have hl : j < CN.length := hj57
      exact ⟨CN[j].1, CN[j].2, List.getElem?_eq_getElem hl⟩
    have hlen : fl.length ≤ 2 := by
      have a : ∀ j < 57, ∀ y ∈ CN[j]?, y.2.length ≤ 2 := by decide +kernel
      exact a j hj57 _ hc
    refine ⟨_, rfl, _, rfl, _, rfl, j, one, other, x, fl, rfl, hjm, hc, fun d H6 k6 hd => ?_⟩
    refine ⟨exm_fam Z hj57, _, rfl, fun a ha => ?_⟩
    refine ⟨_, rfl, fun na => ?_⟩
    have k7 := Same.upd (o := exi a (C j) d false) na
    have xa : ExAt (upd H6 a (exi a (C j) d false)) a (C j) (flds fl ([one, other].take fl.length)) false := ExAt.of_exi upd_same (hd.same k7)
    have k47 := (k5.trans k6).trans k7
    refine ⟨_, rfl, rfl, _, rfl, ?_⟩
    refine iteF ?_
    refine ⟨_, rfl, a, C j, _, false, [C0], _, _, true, rfl, xa, Z.xc hj57, .ty _, (Z.xc hj57).kitVE, _, rfl, ?_⟩
    refine iteF ?_
    refine ⟨_, rfl, a, j, _, false, rfl, hj57, xa, fun pI H8 hpI k8 e8 => ?_⟩
    refine ⟨57, rfl, by decide, by decide, fun D hD => ?_⟩
    refine at_lc (j := 2) (k := j) hD (fun _ => rfl) (fun _ => rfl) (fun _ => rfl) fun H9 k9 e9 => ?_
    refine ne_bools (k9 _ _ e8) e9 ⟨_, rfl, ?_⟩
    refine iteF ?_
    have k79 := (k8.trans k9)
    have xa9 := xa.same k79
    refine ⟨_, rfl, _, rfl, j, a, x, fl, _, false, rfl, hj57, hc, (by simp; omega), xa9, fun pF H10 hpF k10 e10 => ?_⟩
    refine ⟨_, rfl, _, rfl, _, rfl, (by show 2 ≤ sizeLine; decide), fun pL hpL => ?_⟩
    have kL := Same.upd (o := .lst [one, other]) hpL
    have k4L := ((k47.trans k79).trans k10).trans kL
    refine ⟨pF, pL, _, _, rfl, SqL.of (kL _ _ e10), SqL.of upd_same, fun D2 hD2 => ?_⟩
    have old : ∀ {b}, H4 b = none → ¬ (H2 b = none ∧ H3 b ≠ none) ∧ ¬ (H3 b = none ∧ H4 b ≠ none) := by
      intro b e
      refine ⟨fun z => ?_, fun z => z.2 e⟩
      cases e3 : H3 b with
      | none => exact z.2 e3
      | some o =>
        have e4 := k4 b o (fun y => np2 (by rw [← y]; exact z.1)) e3
        rw [e] at e4
        cases e4
    have free : ∀ {HH : Hp} {b : Addr}, Same H4 HH → HH b = none → H4 b = none := fun {HH b} k e => by
      cases e4 : H4 b with
      | none => rfl
      | some o =>
        have e5 := k _ _ e4
        rw [e] at e5
        cases e5
    have oF := old (free (k47.trans k79) hpF)
    have oL := old (free ((k47.trans k79).trans k10) hpL)
    have oD := old (free k4L hD2)
    refine keeps_lc (m := 5) (n := fl.length) (by decide) dj (g1'.same k4L) (g2'.same k4L) hD2 oD.1 oD.2 (kL _ _ e10) oF.1 oF.2 upd_same oL.1 oL.2 (fun _ _ => rfl) (fun _ _ => rfl) (fun _ _ => rfl) fun H11 k11 e11 => ?_
    refine ⟨Nat.zero_le _, fun pE hpE => ?_⟩
    have kE := Same.upd (o := .lst []) hpE
    refine ⟨_, _, .lst (SqL.of (kE _ _ e11)) .nil, .lst (SqL.of upd_same) .nil, by decide, by decide, ?_⟩
    show Q (.bl true) _
    refine q _ (fun b o hb e => ?_) ?_
    · have x2 := k2 _ _ hb (k0 _ _ e)
      have x3 := k3 _ _ hb x2
      exact kE _ _ (k11.1 _ _ (fun z => by rw [z.1] at x2; cases x2) (fun z => by rw [z.1] at x3; cases x3) (k4L _ _ (k4 _ _ hb x3)))
    · obtain ⟨i1, i2, i3, i4, e, z⟩ := hb4
      rw [show n + 3 = n + 1 + 1 + 1 by omega]
      exact ⟨i1, i2, i3, i4, kE _ _ (k11.1 _ _ (fun z => np2 z.1) (fun z => np3 z.1) (k4L _ _ e)), z⟩
end
end L2.K9

set_option Elab.async false
set_option linter.all false
set_option maxRecDepth 100000
set_option maxHeartbeats 8000000
/-! _law_class_right. -/
namespace L2.K9
open PySem PySem.Spec PyProof.Rows L2
abbrev sClass : Stmt := top 75
/-- a list, a tuple, a dict -/
def Box3 (o : HO) : Prop := (∃ xs, o = .lst xs) ∨ (∃ xs, o = .tup xs) ∨ ∃ kvs, o = .dK kvs
theorem Gd.box {S : Addr → Prop} {m : Nat} {H : Hp} {n : Nat} {v : V} (g : Gd S m H n v) : Gd (fun a => S a ∧ ∃ o, H a = some o ∧ Box3 o) m H n v := by
  induction g with
  | non n => exact .non n
  | bl n b => exact .bl n b
  | int n i => exact .int n i
  | str n z => exact .str n z
  | lst h1 h2 h3 _ ih => exact .lst ⟨h1, _, h2, .inl ⟨_, rfl⟩⟩ h2 h3 ih
  | tup h1 h2 h3 _ ih => exact .tup ⟨h1, _, h2, .inr (.inl ⟨_, rfl⟩)⟩ h2 h3 ih
  | dct h1 h2 h3 h4 h5 _ ih => exact .dct ⟨h1, _, h2, .inr (.inr ⟨_, rfl⟩)⟩ h2 h3 h4 h5 ih
theorem exi_box {a C : Addr} {d : Option Addr} {b : Bool} : ¬ Box3 (exi a C d b) := by
  rintro (⟨_, e⟩ | ⟨_, e⟩ | ⟨_, e⟩) <;> (unfold exi at e; cases e)
theorem xd_box {fs : List (Str × V)} : ¬ Box3 (.xd fs) := by
  rintro (⟨_, e⟩ | ⟨_, e⟩ | ⟨_, e⟩) <;> cases e
theorem ExAt.off {H H' : Hp} {e C : Addr} {fs : List (Str × V)} {b : Bool} {S1 S2 : Addr → Prop} (x : ExAt H e C fs b) (h1 : ∀ a, S1 a → ∃ o, H a = some o ∧ Box3 o) (h2 : ∀ a, S2 a → ∃ o, H a = some o ∧ Box3 o)
    (k : ∀ a o, ¬ S1 a → ¬ S2 a → H a = some o → H' a = some o) : ExAt H' e C fs b := by
  have go : ∀ {a o}, H a = some o → ¬ Box3 o → H' a = some o := fun {a o} e n => by
    refine k a o (fun z => ?_) (fun z => ?_) e
    · obtain ⟨o', e', hb⟩ := h1 a z
      rw [e] at e'
      cases e'
      exact n hb
    · obtain ⟨o', e', hb⟩ := h2 a z
      rw [e] at e'
      cases e'
      exact n hb
  rcases x with ⟨a, q⟩ | ⟨d, q, r⟩
  · exact .inl ⟨a, go q exi_box⟩
  · exact .inr ⟨d, go q exi_box, go r xd_box⟩
theorem cut_take {one other : V} {n : Nat} (h : n ≤ 2) : cutV [one, other] none (some (([one, other].take n).length : Nat)) = [one, other].take n := by
  match n, h with
  | 0, _ => rfl
  | 1, _ => rfl
  | 2, _ => rfl
def spClass : Sp := fun vs H Q _ => ∃ (p : Addr) (n : Int) (k : Nat), vs = [.ref p, .int (k : Int)] ∧ k < 57 ∧ n ≤ 80000 ∧ BoxAt H p n ∧ ∀ H', (∀ b o, b ≠ p → H b = some o → H' b = some o) → BoxAt H' p (n + 3) → Q (.bl true) H'
section
variable {P : Program} {w : World} {K : PySem.W.Frag} {mg : Str → Option Value} {base : Heap} {C : Nat → Addr} {C0 : Addr}
theorem Fam.kit0 (Z : Fam P w K mg base C C0) {k : Nat} (hk : k < 57) : PySem.W.kitOne K (.ref (C k)) (.ref C0) = some true := by
  rw [(Z.xc hk).kit Z.x0]
  simp
theorem scClass : FnScope ["box", "k", "one", "other", "way", "error", "more", "due", "at", "fields", "field", "value"] ["box", "k"] (defScope sClass) := ⟨rfl, rfl, rfl, by decide +kernel, rfl, by decide +kernel, by decide +kernel⟩
theorem ok_class {f : Addr} {fd : FuncData} (FC : Fun K "_law_class_right" "_law_class_right" sClass f fd) (G : GL mg) (Z : Fam P w K mg base C C0) (Y : Helps P w K mg base C) : FnOk P w K mg base CX0 8 f fd ["box", "k"] spClass := by
  obtain ⟨fT, fV, fI, fF, fK, fR, fM, fS, fdT, fdV, fdI, fdF, fdK, fdR, fdM, fdS, kT, kV, kI, kF, kK, kR, kM, kS, mgT, mgV, mgI, mgF, mgK, mgR, mgM, mgS, bT, bV, bI, bF, bK, bR, bM, bS, GT, GV, GI, GF, GK, GR, GM, GS⟩ := Y
  refine FC.ok scClass (fun vs H Q E h => ?_) (fun cdv A outer s H vs Q E hr h => ?_)
  · obtain ⟨p, n, k, rfl, _⟩ := h
    rfl
  · have hr7 : Room 7 _ := hr
    have hr1 : Room 1 _ := hr.mono (by decide)
    have hr5 : Room 5 _ := hr.mono (by decide)
    refine ⟨_, (pss_cons (ps_par3 (i := 2) (j := 3) (l := 4) (by rfl) scClass.nd rfl rfl rfl (by decide) (by decide) (by decide) rfl rfl rfl (pa_cons (by exact pe_call GV hr7 (by rfl) mgV kV bV .nil pass0 (pa_cons (pv 0) pa_nil)) (pa_cons (by exact pe_call GV hr7 (by rfl) mgV kV bV .nil pass0 (pa_cons (pv 0) pa_nil)) (pa_cons (by exact pe_call GT hr1 (by rfl) mgT kT bT .nil pass0 (pa_cons (pv 0) (pa_cons pe_int pa_nil))) pa_nil))) (by rfl))
      (pss_cons (ps_set (i := 5) scClass.nd rfl (Or.inl rfl) (by exact pe_call GM hr5 (by rfl) mgM kM bM .nil pass0 (pa_cons (pv 1) (pa_cons (pv 2) (pa_cons (pv 3) (pa_cons (pe_cmpR op_eq (pv 4) pe_int (nomark _)) pa_nil))))))
      (pss_cons (ps_set (i := 6) scClass.nd rfl (Or.inl rfl) (by exact pe_call GM hr5 (by rfl) mgM kM bM .nil pass0 (pa_cons (pv 1) (pa_cons pe_int (pa_cons pe_str (pa_cons (pe_cmpR op_eq (pv 4) pe_int (nomark _)) pa_nil))))))
      (pss_cons (ps_if (PW.pt (pw_or (pt_not (pt_val (pe_callB call_isx (by rfl) G.isinstance (by decide +kernel) (pa_cons (pv 5) (pa_cons (pe_glob (v := .ref C0) (by rfl) Z.z.mgC rfl) pa_nil))))) (pw_or (pt_not (pt_val (pe_callB call_isx (by rfl) G.isinstance (by decide +kernel) (pa_cons (pv 5) (pa_cons (pe_bltn (v := .ty "ValueError") (by rfl) G.ve (by decide +kernel) rfl) pa_nil))))) (pw_or1 (pt_not (pt_val (pe_callB call_isx (by rfl) G.isinstance (by decide +kernel) (pa_cons (pv 6) (pa_cons (pe_glob (v := .ref C0) (by rfl) Z.z.mgC rfl) pa_nil)))))))))
        (pss_one (ps_ret pe_bl))
        pss_nil)
      (pss_cons (ps_setLc (i := 7) (own := [("at", 8)]) (g := gName 8) (by rfl) scClass.nd rfl rfl (sw_true rfl rfl rfl (by decide +kernel)) (pi_range1 (by rfl) G.range (pa_cons pe_int pa_nil)) (blkOk_by (N := ["box", "k", "one", "other", "way", "error", "more", "due", "at", "fields", "field", "value"]) (sc := defScope sClass) (by decide +kernel)) (fun _ _ _ _ _ => by exact (pg_name (i := 8) scClass.nd rfl (.inl rfl))) (fun _ _ _ _ _ => by exact pts_nil) (fun _ _ _ _ _ => by exact (pe_cmpR op_eq (pv 8) (pv 1) (nomark _))))
      (pss_cons (ps_if (PW.pt (pw_or (pt_cmpR (op_neD hr.units) (by exact pe_call GI hr1 (by rfl) mgI kI bI .nil pass0 (pa_cons (pv 5) pa_nil)) (pv 7) (nomark _)) (pw_or1 (pt_cmpR (op_neD hr.units) (by exact pe_call GI hr1 (by rfl) mgI kI bI .nil pass0 (pa_cons (pv 6) pa_nil)) (pv 7) (nomark _)))))
        (pss_one (ps_ret pe_bl))
        pss_nil)
      (pss_cons (ps_set (i := 9) scClass.nd rfl (Or.inl rfl) (by exact pe_call GF hr1 (by rfl) mgF kF bF .nil pass0 (pa_cons (pv 1) (pa_cons (pv 5) pa_nil))))
      (pss_cons (ps_if (pt_not (pt_val (by exact pe_call GS hr7 (by rfl) mgS kS bS .nil pass0 (pa_cons (pv 9) (pa_cons (pe_slice sl_list (pe_lst (pa_cons (pv 2) (pa_cons (pv 3) pa_nil))) po_none (po_some (pe_callB call_len (by rfl) G.len (by decide +kernel) (pa_cons (pv 9) pa_nil)))) pa_nil)))))
        (pss_one (ps_ret pe_bl))
        pss_nil)
      (pss_cons (ps_if (pt_cmpR (op_neD hr.units) (pe_lc (own := [("field", 10), ("value", 11)]) (g := gTup K 2 (gCons (gName 10) (gCons (gName 11) gNil))) (by rfl) scClass.nd (pi_zip (by rfl) G.zip (pa_cons (pv 9) (pa_cons (pe_lst (pa_cons (pv 2) (pa_cons (pv 3) pa_nil))) pa_nil))) (blkOk_by (N := ["box", "k", "one", "other", "way", "error", "more", "due", "at", "fields", "field", "value"]) (sc := defScope sClass) (by decide +kernel)) (fun _ _ _ _ _ => by exact (pg_tup rfl (pgs_cons (pg_name (i := 10) scClass.nd rfl (.inl rfl)) (pgs_cons (pg_name (i := 11) scClass.nd rfl (.inl rfl)) pgs_nil)))) (fun _ _ _ _ _ => by exact pts_one (pt_not (pt_val (by exact pe_call GK hr7 (by rfl) mgK kK bK .nil pass0 (pa_cons (pv 10) (pa_cons (pv 11) pa_nil)))))) (fun _ _ _ _ _ => by exact (pv 11))) (pe_lst pa_nil) (nomark _))
        (pss_one (ps_ret pe_bl))
        pss_nil)
      (pss_one (ps_ret (pe_and (by exact pe_call GS hr7 (by rfl) mgS kS bS .nil pass0 (pa_cons (by exact pe_call GF hr1 (by rfl) mgF kF bF .nil pass0 (pa_cons (pv 1) (pa_cons (pv 6) pa_nil))) (pa_cons (pe_slice sl_list (pe_lst (pa_cons pe_int (pa_cons pe_str pa_nil))) po_none (po_some (pe_callB call_len (by rfl) G.len (by decide +kernel) (pa_cons (pv 9) pa_nil)))) pa_nil))) (pe_one (by exact pe_call GS hr7 (by rfl) mgS kS bS .nil pass0 (pa_cons (by exact pe_call GF hr1 (by rfl) mgF kF bF .nil pass0 (pa_cons (pv 1) (pa_cons (pv 5) pa_nil))) (pa_cons (pe_slice sl_list (pe_lst (pa_cons (pv 2) (pa_cons (pv 3) pa_nil))) po_none (po_some (pe_callB call_len (by rfl) G.len (by decide +kernel) (pa_cons (pv 9) pa_nil)))) pa_nil)))))))))))))))), ?_⟩
    obtain ⟨p, n, k, rfl, hk, hn, hbox, q⟩ := h
    obtain ⟨x, fl, hc⟩ : ∃ x fl, CN[k]? = some (x, fl) := by
      have hl : k < CN.length := hk
      exact ⟨CN[k].1, CN[k].2, List.getElem?_eq_getElem hl⟩
    have hlen : fl.length ≤ 2 := by
      have a : ∀ j < 57, ∀ y ∈ CN[j]?, y.2.length ≤ 2 := by decide +kernel
      exact a k hk _ hc
    refine ⟨_, rfl, p, n, rfl, by omega, hbox, fun one H1 k1 hb1 g1 => ?_⟩
    refine ⟨_, rfl, p, n + 1, rfl, by omega, hb1, fun other H2 k2 hb2 g2 => ?_⟩
    refine ⟨_, rfl, p, 2, n + 1 + 1, rfl, by decide, by decide, by omega, hb2, fun r H3 hr0 hr2 hb3 k3 => ?_⟩
    refine ⟨_, _, _, rfl, ?_⟩
    have np0 : H p ≠ none := fun z => by
      obtain ⟨_, _, _, _, e, _⟩ := hbox
      rw [z] at e
      cases e
    have np1 : H1 p ≠ none := fun z => by
      obtain ⟨_, _, _, _, e, _⟩ := hb1
      rw [z] at e
      cases e
    have k13 : ∀ b o, b ≠ p → H1 b = some o → H3 b = some o := fun b o hb e => k3 _ _ hb (k2 _ _ hb e)
    have g1' : Gd (fun a => H a = none ∧ ∃ o, H1 a = some o ∧ Box3 o) 5 H3 4 one := g1.box.mono (Nat.le_refl _) (fun _ z => z) (fun a o ha e => k13 a o (fun z => np0 (by rw [← z]; exact ha.1)) e) 4 (Nat.le_refl _)
    have g2' : Gd (fun a => H1 a = none ∧ ∃ o, H2 a = some o ∧ Box3 o) 5 H3 4 other := g2.box.mono (Nat.le_refl _) (fun _ z => z) (fun a o ha e => k3 a o (fun z => np1 (by rw [← z]; exact ha.1)) e) 4 (Nat.le_refl _)
    have s1 : ∀ a, (H a = none ∧ ∃ o, H1 a = some o ∧ Box3 o) → ∃ o, H3 a = some o ∧ Box3 o := fun a ⟨h0, o, e, hb⟩ => ⟨o, k13 a o (fun z => np0 (by rw [← z]; exact h0)) e, hb⟩
    have s2 : ∀ a, (H1 a = none ∧ ∃ o, H2 a = some o ∧ Box3 o) → ∃ o, H3 a = some o ∧ Box3 o := fun a ⟨h0, o, e, hb⟩ => ⟨o, k3 a o (fun z => np1 (by rw [← z]; exact h0)) e, hb⟩
    have dj : ∀ a, (H a = none ∧ ∃ o, H1 a = some o ∧ Box3 o) → ¬ (H1 a = none ∧ ∃ o, H2 a = some o ∧ Box3 o) := fun a ⟨_, o, e, _⟩ ⟨h1, _⟩ => by
      rw [h1] at e
      cases e
    have nS : ¬ (H p = none ∧ ∃ o, H1 p = some o ∧ Box3 o) ∧ ¬ (H1 p = none ∧ ∃ o, H2 p = some o ∧ Box3 o) := ⟨fun z => np0 z.1, fun z => np1 z.1⟩
    have keep0 : ∀ b o, b ≠ p → H b = some o → H3 b = some o ∧ ¬ (H b = none ∧ ∃ o, H1 b = some o ∧ Box3 o) ∧ ¬ (H1 b = none ∧ ∃ o, H2 b = some o ∧ Box3 o) := fun b o hb e => by
      have e1 := k1 _ _ hb e
      refine ⟨k13 _ _ hb e1, fun z => ?_, fun z => ?_⟩
      · rw [z.1] at e
        cases e
      · rw [z.1] at e1
        cases e1
    obtain ⟨S1, S2, g1', g2', s1, s2, dj, nS, keep0⟩ : ∃ S1 S2 : Addr → Prop, Gd S1 5 H3 4 one ∧ Gd S2 5 H3 4 other ∧ (∀ a, S1 a → ∃ o, H3 a = some o ∧ Box3 o) ∧ (∀ a, S2 a → ∃ o, H3 a = some o ∧ Box3 o) ∧ (∀ a, S1 a → ¬ S2 a) ∧ (¬ S1 p ∧ ¬ S2 p) ∧
        (∀ b o, b ≠ p → H b = some o → H3 b = some o ∧ ¬ S1 b ∧ ¬ S2 b) := ⟨_, _, g1', g2', s1, s2, dj, nS, keep0⟩
    have new : ∀ {b}, H3 b = none → ¬ S1 b ∧ ¬ S2 b := by
      intro b e
      constructor
      · intro z
        obtain ⟨o, e', _⟩ := s1 b z
        rw [e] at e'
        cases e'
      · intro z
        obtain ⟨o, e', _⟩ := s2 b z
        rw [e] at e'
        cases e'
    have free : ∀ {HH : Hp} {b : Addr}, Same H3 HH → HH b = none → H3 b = none := fun {HH b} k e => by
      cases e4 : H3 b with
      | none => rfl
      | some o =>
        have e5 := k _ _ e4
        rw [e] at e5
        cases e5
    refine ⟨_, rfl, _, rfl, _, rfl, _, rfl, rfl, k, one, other, _, x, fl, rfl, Nat.zero_le _, hk, hc, fun er H4 her k4 xe => ?_⟩
    refine ⟨_, rfl, _, rfl, rfl, k, .int 5, .str "x", _, x, fl, rfl, Nat.zero_le _, hk, hc, fun mo H5 hmo k5 xm => ?_⟩
    have xe5 := xe.same k5
    refine ⟨_, rfl, er, C k, _, true, [C0], _, _, true, rfl, xe5, Z.xc hk, .own C0, Z.kit0 hk, _, rfl, ?_⟩
    refine iteF ?_
    refine ⟨_, rfl, er, C k, _, true, [C0], _, _, true, rfl, xe5, Z.xc hk, .ty _, (Z.xc hk).kitVE, _, rfl, ?_⟩
    refine iteF ?_
    refine ⟨_, rfl, mo, C k, _, true, [C0], _, _, true, rfl, xm, Z.xc hk, .own C0, Z.kit0 hk, _, rfl, ?_⟩
    refine iteF ?_
    refine ⟨57, rfl, by decide, by decide, fun D hD => ?_⟩
    refine at_lc (j := 1) (k := k) hD (fun _ => rfl) (fun _ => rfl) (fun _ => rfl) fun H6 k6 e6 => ?_
    have xe6 := xe5.same k6
    have xm6 := xm.same k6
    refine ⟨_, rfl, er, k, _, true, rfl, hk, xe6, fun pI H7 hpI k7 e7 => ?_⟩
    refine ⟨_, rfl, ne_bools e7 (k7 _ _ e6) ⟨_, rfl, ?_⟩⟩
    refine iteF ?_
    refine ⟨_, rfl, mo, k, _, true, rfl, hk, xm6.same k7, fun pJ H8 hpJ k8 e8 => ?_⟩
    refine ⟨_, rfl, ne_bools e8 (k8 _ _ (k7 _ _ e6)) ⟨_, rfl, ?_⟩⟩
    refine iteF ?_
    have k68 := k7.trans k8
    refine ⟨_, rfl, _, rfl, k, er, x, fl, _, true, rfl, hk, hc, (by simp; omega), xe6.same k68, fun pF H9 hpF k9 e9 => ?_⟩
    have k39 := (((k4.trans k5).trans k6).trans k68).trans k9
    have xe9 := (xe6.same k68).same k9
    have xm9 := (xm6.same k68).same k9
    refine ⟨_, rfl, _, rfl, _, rfl, (by show 2 ≤ sizeLine; decide), fun pL hpL => ?_⟩
    have kL := Same.upd (o := .lst [one, other]) hpL
    refine ⟨_, rfl, _, _, rfl, .inl ⟨_, SqL.of (kL _ _ e9), rfl⟩, _, rfl, pL, _, rfl, SqL.of upd_same, fun pS hpS => ?_⟩
    rw [cut_take hlen]
    have kS' := Same.upd (o := .lst ([one, other].take fl.length)) hpS
    have k3S := (k39.trans kL).trans kS'
    have gd1 : ∀ {HH : Hp}, Same H3 HH → ∀ z ∈ [one, other].take fl.length, Gd (fun a => S1 a ∨ S2 a) 5 HH 4 z := fun {HH} kk z hz => by
      have hz2 : z ∈ [one, other] := List.mem_of_mem_take hz
      rcases List.mem_cons.mp hz2 with rfl | hz2
      · exact g1'.mono (Nat.le_refl _) (fun _ z => .inl z) (fun a o _ e => kk _ _ e) 4 (Nat.le_refl _)
      · rcases List.mem_cons.mp hz2 with rfl | hz2
        · exact g2'.mono (Nat.le_refl _) (fun _ z => .inr z) (fun a o _ e => kk _ _ e) 4 (Nat.le_refl _)
        · cases hz2
    have l5 : ∀ ws : List V, ws.length = 2 → (ws.take fl.length).length ≤ 5 := fun ws hw => by
      rw [List.length_take, hw]
      omega
    refine ⟨_, _, fun a => S1 a ∨ S2 a, 5, rfl, by decide, .inr ⟨pF, pS, _, rfl, rfl, kS' _ _ (kL _ _ e9), upd_same, l5 _ rfl, by decide, gd1 k3S⟩, fun H10 k10 => ⟨_, rfl, ?_⟩⟩
    refine iteF ?_
    have xe10 := ((xe9.same kL).same kS').same k10
    have xm10 := ((xm9.same kL).same kS').same k10
    have k3T := k3S.trans k10
    have kF10 := (kS'.trans k10)
    refine ⟨_, rfl, _, rfl, _, rfl, (by show 2 ≤ sizeLine; decide), fun pM hpM => ?_⟩
    have kM' := Same.upd (o := .lst [one, other]) hpM
    have k3M := k3T.trans kM'
    refine ⟨pF, pM, _, _, rfl, SqL.of (kM' _ _ (kF10 _ _ (kL _ _ e9))), SqL.of upd_same, fun D2 hD2 => ?_⟩
    have oF := new (free ((((k4.trans k5).trans k6).trans k68)) hpF)
    have oM := new (free k3T hpM)
    have oD := new (free k3M hD2)
    refine keeps_lc (m := 5) (n := fl.length) (by decide) dj (g1'.same k3M) (g2'.same k3M) hD2 oD.1 oD.2 (kM' _ _ (kF10 _ _ (kL _ _ e9))) oF.1 oF.2 upd_same oM.1 oM.2 (fun _ _ => rfl) (fun _ _ => rfl) (fun _ _ => rfl) fun H11 k11 e11 => ?_
    have off : ∀ b o, ¬ S1 b → ¬ S2 b → upd H10 pM (.lst [one, other]) b = some o → H11 b = some o := k11.1
    have xe11 : ExAt H11 er (C k) _ true := (xe10.same kM').off (fun a z => by
        obtain ⟨o, e, hb⟩ := s1 a z
        exact ⟨o, k3M _ _ e, hb⟩) (fun a z => by
        obtain ⟨o, e, hb⟩ := s2 a z
        exact ⟨o, k3M _ _ e, hb⟩) off
    have xm11 : ExAt H11 mo (C k) _ true := (xm10.same kM').off (fun a z => by
        obtain ⟨o, e, hb⟩ := s1 a z
        exact ⟨o, k3M _ _ e, hb⟩) (fun a z => by
        obtain ⟨o, e, hb⟩ := s2 a z
        exact ⟨o, k3M _ _ e, hb⟩) off
    have eF11 : H11 pF = some (.lst ([one, other].take fl.length)) := off _ _ oF.1 oF.2 (kM' _ _ (kF10 _ _ (kL _ _ e9)))
    refine ⟨Nat.zero_le _, fun pE hpE => ?_⟩
    have kE := Same.upd (o := .lst []) hpE
    refine ⟨_, _, .lst (SqL.of (kE _ _ e11)) .nil, .lst (SqL.of upd_same) .nil, by decide, by decide, _, rfl, ?_⟩
    refine iteF ?_
    refine ⟨_, rfl, _, rfl, k, mo, x, fl, _, true, rfl, hk, hc, (by simp; omega), xm11.same kE, fun pF2 H13 hpF2 k13' e13 => ?_⟩
    have kE13 := kE.trans k13'
    refine ⟨(by show 2 ≤ sizeLine; decide), fun pL3 hpL3 => ?_⟩
    have kL3 := Same.upd (o := .lst [.int 5, .str "x"]) hpL3
    refine ⟨_, rfl, _, _, rfl, .inl ⟨_, SqL.of (kL3 _ _ (kE13 _ _ eF11)), rfl⟩, _, rfl, pL3, _, rfl, SqL.of upd_same, fun pS3 hpS3 => ?_⟩
    have elen : ([one, other].take fl.length).length = ([V.int 5, V.str "x"].take fl.length).length := by simp
    rw [elen, cut_take hlen]
    have kS3 := Same.upd (o := .lst ([V.int 5, V.str "x"].take fl.length)) hpS3
    refine ⟨_, _, fun _ => False, 5, rfl, by decide, .inr ⟨pF2, pS3, _, rfl, rfl, kS3 _ _ (kL3 _ _ e13), upd_same, l5 _ rfl, by decide, fun z hz => ?_⟩, fun H14 k14 => ⟨_, rfl, ?_⟩⟩
    · have hz2 : z ∈ [V.int 5, V.str "x"] := List.mem_of_mem_take hz
      rcases List.mem_cons.mp hz2 with rfl | hz2
      · exact .int _ _
      · rcases List.mem_cons.mp hz2 with rfl | hz2
        · exact .str _ _
        · cases hz2
    have kE14 := ((kE13.trans kL3).trans kS3).trans k14
    refine ⟨_, rfl, _, rfl, k, er, x, fl, _, true, rfl, hk, hc, (by simp; omega), xe11.same kE14, fun pF3 H15 hpF3 k15 e15 => ?_⟩
    have kE15 := kE14.trans k15
    refine ⟨_, rfl, _, rfl, (by show 2 ≤ sizeLine; decide), fun pL4 hpL4 => ?_⟩
    have kL4 := Same.upd (o := .lst [one, other]) hpL4
    refine ⟨_, rfl, _, _, rfl, .inl ⟨_, SqL.of (kL4 _ _ (kE15 _ _ eF11)), rfl⟩, _, rfl, pL4, _, rfl, SqL.of upd_same, fun pS4 hpS4 => ?_⟩
    rw [cut_take hlen]
    have kS4 := Same.upd (o := .lst ([one, other].take fl.length)) hpS4
    have kE4 := (kE15.trans kL4).trans kS4
    refine ⟨_, _, fun a => S1 a ∨ S2 a, 7, rfl, by decide, .inr ⟨pF3, pS4, _, rfl, rfl, kS4 _ _ (kL4 _ _ e15), upd_same, Nat.le_trans (l5 _ rfl) (by decide), by decide, fun z hz => ?_⟩, fun H16 k16 => ?_⟩
    · have hz2 : z ∈ [one, other] := List.mem_of_mem_take hz
      rcases List.mem_cons.mp hz2 with rfl | hz2
      · exact k11.2.1.mono (Nat.le_refl _) (fun _ z => .inl z) (fun a o _ e => kE4 _ _ e) 4 (Nat.le_refl _)
      · rcases List.mem_cons.mp hz2 with rfl | hz2
        · exact k11.2.2.mono (Nat.le_refl _) (fun _ z => .inr z) (fun a o _ e => kE4 _ _ e) 4 (Nat.le_refl _)
        · cases hz2
    have kEnd := kE4.trans k16
    refine q _ (fun b o hb e => ?_) ?_
    · obtain ⟨e3, n1, n2⟩ := keep0 b o hb e
      exact kEnd _ _ (off _ _ n1 n2 (k3M _ _ e3))
    · obtain ⟨i1, i2, i3, i4, e, z⟩ := hb3
      rw [show n + 3 = n + 1 + 1 + 1 by omega]
      exact ⟨i1, i2, i3, i4, kEnd _ _ (off _ _ nS.1 nS.2 (k3M _ _ e)), z⟩
end
end L2.K9

set_option Elab.async false
set_option linter.all false
set_option maxRecDepth 100000
set_option maxHeartbeats 8000000
/-! law. -/
namespace L2.K9
open PySem PySem.Spec PyProof.Rows L2
abbrev sLaw : Stmt := top 76
def spLaw (K : PySem.W.Frag) : Sp := fun vs H Q _ => ∃ (a : Addr) (ns : List Int), vs = [.ref a] ∧ ns.length ≤ 63 ∧ SqL K H a (ns.map V.int) ∧ ∀ H', Q (.bl true) H'
theorem SqL_same {K : PySem.W.Frag} {H H' : Hp} {a : Addr} {xs : List V} (h : SqL K H a xs) (k : Same H H') : SqL K H' a xs :=
  h.elim (fun h => .inl (h.elim (fun h => .inl (k _ _ h)) fun ⟨o, h⟩ => .inr ⟨o, k _ _ h⟩)) fun h => .inr h
/-- the further helpers -/
structure Helps2 (P : Program) (w : World) (K : PySem.W.Frag) (mg : Str → Option Value) (base : Heap) where
  fT : Addr
  fB : Addr
  fCe : Addr
  fCl : Addr
  fCa : Addr
  fdT : FuncData
  fdB : FuncData
  fdCe : FuncData
  fdCl : FuncData
  fdCa : FuncData
  kT : PySem.W.keepIn K (.ref fT) = true
  kB : PySem.W.keepIn K (.ref fB) = true
  kCe : PySem.W.keepIn K (.ref fCe) = true
  kCl : PySem.W.keepIn K (.ref fCl) = true
  kCa : PySem.W.keepIn K (.ref fCa) = true
  mT : mg "_law_take" = some (.ref fT)
  mB : mg "_law_box" = some (.ref fB)
  mCe : mg "_law_cell" = some (.ref fCe)
  mCl : mg "_law_class_right" = some (.ref fCl)
  mCa : mg "_law_caught_right" = some (.ref fCa)
  bT : Binds K fdT ["box", "many"] []
  bB : Binds K fdB ["great"] []
  bCe : Binds K fdCe ["script", "k"] []
  bCl : Binds K fdCl ["box", "k"] []
  bCa : Binds K fdCa ["box"] []
  T : FnOk P w K mg base CX0 1 fT fdT ["box", "many"] spTake
  B : FnOk P w K mg base CX0 1 fB fdB ["great"] spBox
  Ce : FnOk P w K mg base CX0 1 fCe fdCe ["script", "k"] (spCell9 K)
  Cl : FnOk P w K mg base CX0 8 fCl fdCl ["box", "k"] spClass
  Ca : FnOk P w K mg base CX0 8 fCa fdCa ["box"] spCaught
section
variable {P : Program} {w : World} {K : PySem.W.Frag} {mg : Str → Option Value} {base : Heap}
theorem scLaw : FnScope ["script", "k", "box", "first", "step", "turn"] ["script"] (defScope sLaw) := ⟨rfl, rfl, rfl, by decide +kernel, rfl, by decide +kernel, by decide +kernel⟩
theorem ok_law {f : Addr} {fd : FuncData} (FL : Fun K "law" "law" sLaw f fd) (G : GL mg) (Y : Helps2 P w K mg base) : FnOk P w K mg base CX0 9 f fd ["script"] (spLaw K) := by
  obtain ⟨fT, fB, fCe, fCl, fCa, fdT, fdB, fdCe, fdCl, fdCa, kT, kB, kCe, kCl, kCa, mgT, mgB, mgCe, mgCl, mgCa, bT, bB, bCe, bCl, bCa, GT, GB, GCe, GCl, GCa⟩ := Y
  refine FL.ok scLaw (fun vs H Q E h => ?_) (fun cdv A outer s H vs Q E hr h => ?_)
  · obtain ⟨a, ns, rfl, _⟩ := h
    rfl
  · have hr1 : Room 1 _ := hr.mono (by decide)
    refine ⟨_, (pss_cons (ps_for PassesOwn.never rfl (pi_range1 (by rfl) G.range (pa_cons (pe_callB (call_max2 rfl) (by rfl) G.max (by decide +kernel) (pa_cons pe_int (pa_cons (pe_callB (call_min2 rfl) (by rfl) G.min (by decide +kernel) (pa_cons (pe_callB call_len (by rfl) G.len (by decide +kernel) (pa_cons (pv 0) pa_nil)) (pa_cons pe_int pa_nil))) pa_nil))) pa_nil)) (pg_name (i := 1) scLaw.nd rfl (.inl rfl))
        (pss_cons (ps_set (i := 2) scLaw.nd rfl (Or.inl rfl) (by exact pe_call GB hr1 (by rfl) mgB kB bB .nil pass0 (pa_cons (by exact pe_call GCe hr1 (by rfl) mgCe kCe bCe .nil pass0 (pa_cons (pv 0) (pa_cons (pv 1) pa_nil))) pa_nil)))
        (pss_cons (ps_set (i := 3) scLaw.nd rfl (Or.inl rfl) (by exact pe_call GT hr1 (by rfl) mgT kT bT .nil pass0 (pa_cons (pv 2) (pa_cons pe_int pa_nil))))
        (pss_cons (ps_for PassesOwn.never rfl (pi_range1 (by rfl) G.range (pa_cons pe_int pa_nil)) (pg_name (i := 4) scLaw.nd rfl (.inl rfl))
          (pss_one (ps_if (pt_not (pt_val (by exact pe_call GCl hr (by rfl) mgCl kCl bCl .nil pass0 (pa_cons (pv 2) (pa_cons (pe_op op_mod (pe_callTy call_int1 (by rfl) G.int (by decide +kernel) (pa_cons (pe_op op_add (pv 3) (pv 4)) pa_nil)) pe_int) pa_nil)))))
            (pss_one (ps_ret pe_bl))
            pss_nil)))
        (pss_one (ps_for PassesOwn.never rfl (pi_range1 (by rfl) G.range (pa_cons pe_int pa_nil)) (pg_name (i := 5) scLaw.nd rfl (.inl rfl))
          (pss_one (ps_if (pt_not (pt_val (by exact pe_call GCa hr (by rfl) mgCa kCa bCa .nil pass0 (pa_cons (pv 2) pa_nil))))
            (pss_one (ps_ret pe_bl))
            pss_nil))))))))
      (pss_one (ps_ret pe_bl))), ?_⟩
    obtain ⟨a, ns, rfl, hl, hS, q⟩ := h
    have low : ∀ L : Int, 0 ≤ L → L ≤ 63 → 0 ≤ (if (if 4 < L then (4 : Int) else L) > 2 then (if 4 < L then (4 : Int) else L) else 2) ∧ (if (if 4 < L then (4 : Int) else L) > 2 then (if 4 < L then (4 : Int) else L) else 2) ≤ 63 := by
      intro L h1 h2
      split <;> (try split) <;> omega
    have lw := low (((ns.map V.int).length : Nat) : Int) (by omega) (by rw [List.length_map]; omega)
    refine ⟨_, rfl, _, (ns.map V.int).length, rfl, .inl ⟨_, hS, rfl⟩, _, _, rfl, _, _, rfl, _, rfl, by omega, by omega, ?_⟩
    refine for_it walk_range (fun _ σ H' => ∃ v1 v2 v3 v4 v5 : Option V, σ = [some (.ref a), v1, v2, v3, v4, v5] ∧ Same H H') ⟨_, _, _, _, _, rfl, Same.refl H⟩ (fun _ _ _ _ _ => trivial) (fun i x σ' H0 Hb hi pv y => ?_) (fun σ' H' _ => q H')
    obtain ⟨rfl, rfl⟩ := y
    obtain ⟨v1, v2, v3, v4, v5, rfl, kk⟩ := pv
    refine ⟨_, rfl, _, rfl, a, ns, _, rfl, SqL_same hS kk, by omega, by omega, fun ci H1 k1 => ⟨_, rfl, fun p H2 hp k2 hb => ?_⟩⟩
    refine ⟨_, rfl, p, 57, 0, rfl, by decide, by decide, by decide, hb, fun f0 H3 hf0 hf1 hb3 k3 => ?_⟩
    have out : ∀ b o, b ≠ p → H b = some o → H3 b = some o := fun b o n e => k3 _ _ n (k2 _ _ (k1 _ _ (kk _ _ e)))
    have npH : ∀ b o, H b = some o → b ≠ p := fun b o e z => by
      have e2 := k1 _ _ (kk _ _ e)
      rw [z, hp] at e2
      cases e2
    refine ⟨57, rfl, by decide, by decide, ?_⟩
    refine for_it (walk_range (lo := 0) (n := 57)) (fun t σ H' => ∃ v4 v5 : Option V, σ = [some (.ref a), some (.int (0 + (i : Int))), some (.ref p), some (.int f0), v4, v5] ∧ (∀ b o, b ≠ p → H b = some o → H' b = some o) ∧ BoxAt H' p (0 + 1 + 3 * (t : Int))) ⟨_, _, rfl, out, (by rw [show (0 : Int) + 1 + 3 * ((0 : Nat) : Int) = 0 + 1 by omega]; exact hb3)⟩ (fun _ _ _ _ _ => trivial) (fun t x σ' H4 Hb ht pv y => ?_) (fun σ' H4 pv => ?_)
    · obtain ⟨rfl, rfl⟩ := y
      obtain ⟨w4, w5, rfl, o4, hb4⟩ := pv
      have hm : 0 ≤ (f0 + (0 + (t : Int))) % 57 ∧ (f0 + (0 + (t : Int))) % 57 < 57 := ⟨Int.emod_nonneg _ (by decide), Int.emod_lt_of_pos _ (by decide)⟩
      refine ⟨_, rfl, _, rfl, _, rfl, _, _, rfl, rfl, .inl ⟨_, rfl, _, _, rfl, rfl, (by show (0 : Int) < 57; decide), ?_⟩⟩
      refine ⟨p, 0 + 1 + 3 * (t : Int), ((f0 + (0 + (t : Int))) % 57).toNat, ?_, by omega, by omega, hb4, fun H5 k5 hb5 => ⟨_, rfl, ?_⟩⟩
      · rw [Int.toNat_of_nonneg hm.1]
        rfl
      refine iteF ?_
      exact ⟨_, _, rfl, fun b o n e => k5 _ _ n (o4 _ _ n e), by rw [show (0 : Int) + 1 + 3 * ((t + 1 : Nat) : Int) = 0 + 1 + 3 * (t : Int) + 3 by omega]; exact hb5⟩
    · obtain ⟨w4, w5, rfl, o4, hb4⟩ := pv
      refine ⟨6, rfl, by decide, by decide, ?_⟩
      refine for_it (walk_range (lo := 0) (n := 6)) (fun t σ H' => ∃ v4 v5 : Option V, σ = [some (.ref a), some (.int (0 + (i : Int))), some (.ref p), some (.int f0), v4, v5] ∧ (∀ b o, b ≠ p → H b = some o → H' b = some o) ∧ BoxAt H' p (172 + 3 * (t : Int))) ⟨_, _, rfl, o4, (by rw [show (172 : Int) + 3 * ((0 : Nat) : Int) = 0 + 1 + 3 * ((57 : Nat) : Int) by omega]; exact hb4)⟩ (fun _ _ _ _ _ => trivial) (fun t x σ' H5 Hb ht pv y => ?_) (fun σ' H5 pv => ?_)
      · obtain ⟨rfl, rfl⟩ := y
        obtain ⟨u4, u5, rfl, o5, hb5⟩ := pv
        refine ⟨_, rfl, p, 172 + 3 * (t : Int), rfl, by omega, hb5, fun H6 k6 hb6 => ⟨_, rfl, ?_⟩⟩
        refine iteF ?_
        exact ⟨_, _, rfl, fun b o n e => k6 _ _ n (o5 _ _ n e), by rw [show (172 : Int) + 3 * ((t + 1 : Nat) : Int) = 172 + 3 * (t : Int) + 3 by omega]; exact hb6⟩
      · obtain ⟨u4, u5, rfl, o5, hb5⟩ := pv
        exact ⟨_, _, _, _, _, rfl, fun b o e => o5 b o (npH b o e) e⟩
end
end L2.K9

set_option Elab.async false
set_option linter.all false
set_option maxRecDepth 100000
set_option maxHeartbeats 8000000
/-! From what was looked at to what the proofs ask. -/
namespace L2.K9
open PySem PySem.Spec PyProof.Rows L2
section
variable {K : PySem.W.Frag} {C C0 f : Addr} {x q : Str} {st : Stmt} {ns : List Str}
theorem fun_of (h : fnV (gK K) f = fnVal x q st) : (∃ fd, Fun K x q st f fd) ∧ PySem.W.typeIn K (.ref f) = some (.type "function") := by
  unfold fnV at h
  split at h
  · rename_i c od fd sl e
    split at h
    · rename_i cd ec
      split at h
      · rename_i c2 od2 vs sl2 e2
        split at h
        · rename_i v n t r ev
          obtain ⟨n1, n2, n3, n4, n5, n6, n7, n8, n9, n10, n11, n12, n13, n14, n15⟩ := fd
          dsimp only at ec h
          unfold fnVal at h
          simp only [Option.some.injEq, Prod.mk.injEq] at h
          obtain ⟨h0, h1, h2, h3, h4, h5, h6, h7, h8, h9, h10⟩ := h
          subst h0 h1 h2 h3 h4 h5 h6 h7 h8 h9 h10
          have e' : K.lookup f = some ⟨.type "function", od, .func (PySem.W.fnOf n1 n (defArgs st) (defBody st) (defScope st) .none n9 n10 n11 n12 n13 n14), sl⟩ := e
          have ck : PySem.W.codeIn K n13 n = true := by
            rw [ec]
            have e2' : K.lookup cd = some ⟨c2, od2, .fields vs, sl2⟩ := e2
            unfold PySem.W.codeIn
            dsimp only
            rw [e2']
            dsimp only
            rw [ev]
            exact beq_self_eq_true _
          refine ⟨⟨_, fun_mk e' ck ?_⟩, ?_⟩
          · unfold PySem.W.keepIn
            dsimp only
            rw [e']
          · show (K.lookup f).map (·.cls) = _
            rw [e']
            rfl
        · cases h
      · cases h
    · cases h
  · cases h
theorem clsV_ok (h : clsV (gK K) C0 C ns = some (.type "type", x, true, false, true, veT, some (.builtin "ValueError.__new__"), true, fnVal "__init__" q st)) :
    CL K C [C0] x ns ∧ ∃ fI fd, PySem.W.ownIn K "__init__" (.ref C) = some (some (.ref fI)) ∧ Fun K "__init__" q st fI fd ∧ PySem.W.typeIn K (.ref fI) = some (.type "function") := by
  unfold clsV at h
  split at h
  · rename_i c od cd sl e
    split at h
    · rename_i es ed
      split at h
      · rename_i fI er
        split at h
        · rename_i a b tl em
          obtain ⟨n1, n2, n3, n4, n5, n6, n7, n8, n9, n10, n11⟩ := cd
          dsimp only at em h ed
          simp only [Option.some.injEq, Prod.mk.injEq] at h
          obtain ⟨h0, h1, h2, h3, h4, h5, h6, h7, h8⟩ := h
          obtain ⟨ha, hb⟩ := Bool.and_eq_true_iff.mp h4
          have ha := isRef_ok ha
          have hb := isRef_ok hb
          subst ha hb h0 h1 h2 h3 h5 em
          obtain ⟨k0, k1, k2, k3, k5, rfl⟩ := slot4_ok h6
          obtain ⟨⟨fd, F⟩, ty⟩ := fun_of h8
          have e' : K.lookup C = some (excClassObj n1 n5 C n4 n2 ([C0].map Value.ref ++ veT) true n7 n8 n9 n10 od k0 k1 k2 k3 k5 "ValueError.__new__") := e
          refine ⟨⟨⟨_, _, _, _, _, _, _, _, _, _, _, _, _, e'⟩, fun n hn => ?_⟩, fI, fd, ?_, F, ty⟩
          · rw [own_in e']
            exact nsIn_no ed h7 hn
          · rw [own_in e']
            exact nsIn_ref ed er
        · cases h
      · cases h
    · cases h
  · cases h
theorem baseV_ok (h : baseV (gK K) C ns = some (.type "type", x, true, false, true, veT, some (.builtin "ValueError.__new__"), true, none)) : CL K C [] x ns := by
  unfold baseV at h
  split at h
  · rename_i c od cd sl e
    split at h
    · rename_i es ed
      split at h
      · rename_i a tl em
        obtain ⟨n1, n2, n3, n4, n5, n6, n7, n8, n9, n10, n11⟩ := cd
        dsimp only at em h ed
        simp only [Option.some.injEq, Prod.mk.injEq] at h
        obtain ⟨h0, h1, h2, h3, h4, h5, h6, h7, h8⟩ := h
        have ha := isRef_ok h4
        subst ha h0 h1 h2 h3 h5 em
        obtain ⟨k0, k1, k2, k3, k5, rfl⟩ := slot4_ok h6
        have e' : K.lookup C = some (excClassObj n1 n5 C n4 n2 (([] : List Addr).map Value.ref ++ veT) true n7 n8 n9 n10 od k0 k1 k2 k3 k5 "ValueError.__new__") := e
        refine ⟨⟨_, _, _, _, _, _, _, _, _, _, _, _, _, e'⟩, fun n hn => ?_⟩
        rw [own_in e']
        exact nsIn_no ed h7 hn
      · cases h
    · cases h
  · cases h
theorem init_in (T : CL K C [C0] x ns) {fI : Addr} (h : PySem.W.ownIn K "__init__" (.ref C) = some (some (.ref fI))) : PySem.W.findIn K (.ref C) "__init__" = some (some (.ref fI)) := by
  obtain ⟨q, N, bs, sn, sub, ab, col, dd, k0, k1, k2, k3, k5, e⟩ := T.obj
  rw [find_in e]
  exact along_yes h
theorem tail_f {n : Str} (h : n ∈ allF) : PySem.W.alongIn K n veT = some none := by
  have a : ∀ n ∈ allF, PySem.W.alongIn [] n veT = some none := by decide +kernel
  exact a n h
end
section
variable {P : Program} {w : World} {K : PySem.W.Frag} {mg : Str → Option Value} {base : Heap} {C C0 : Addr}
/-- a class of the list, all of it -/
def ClsAll (K : PySem.W.Frag) (mg : Str → Option Value) (C0 C : Addr) (x q : Str) (fl : List Str) (st : Stmt) : Prop := mg x = some (.ref C) ∧ CL K C [C0] x (fl ++ hid) ∧ ∃ fI fd, PySem.W.ownIn K "__init__" (.ref C) = some (some (.ref fI)) ∧ Fun K "__init__" q st fI fd ∧ PySem.W.typeIn K (.ref fI) = some (.type "function")
theorem xf0 (Z : CI K mg C0) (T0 : CL K C0 [] "ChainError" ("__init__" :: (hid ++ allF))) (A : ClsAll K mg C0 C "InvalidAdded" "InvalidAdded.__init__" ["given"] (ini 2)) : ∃ fI fd, XF P w K mg base "InvalidAdded" ["given"] C C0 fI fd := by
  obtain ⟨hm, T, fI, fd, ho, F, ty⟩ := A
  have xc := T.xc1 T0 (by decide) (by decide)
  have no0 : PySem.W.findIn K (.ref C) "given" = some none := (T.findNo1 T0 (by decide) (by decide)).trans (tail_f (by decide))
  refine ⟨fI, fd, ⟨xc, hm, init_in T ho, ty⟩, ok_i0 xc Z no0 F, ?_, ?_, ?_, ?_⟩
  · obtain ⟨oc, od, kV, doc, pm, an, cdv, ct, osl, rfl, _, _⟩ := F.ex
    exact fun s self us hl => match us, hl with
      | [u], _ => .of_eq rfl
  · obtain ⟨oc, od, kV, doc, pm, an, cdv, ct, osl, rfl, _, _⟩ := F.ex
    exact fun s self us hl => match us, (show us.length = 1 by simpa using hl) with
      | [u], _ => .of_eq rfl
  · intro f hf
    rw [List.mem_singleton.mp hf]
    exact no0
  · obtain ⟨cd, h1, _, _, h4⟩ := T.cd
    rw [h1, ← h4]
    rfl
theorem xf1 (Z : CI K mg C0) (T0 : CL K C0 [] "ChainError" ("__init__" :: (hid ++ allF))) (A : ClsAll K mg C0 C "InvalidBox" "InvalidBox.__init__" ["given"] (ini 3)) : ∃ fI fd, XF P w K mg base "InvalidBox" ["given"] C C0 fI fd := by
  obtain ⟨hm, T, fI, fd, ho, F, ty⟩ := A
  have xc := T.xc1 T0 (by decide) (by decide)
  have no0 : PySem.W.findIn K (.ref C) "given" = some none := (T.findNo1 T0 (by decide) (by decide)).trans (tail_f (by decide))
  refine ⟨fI, fd, ⟨xc, hm, init_in T ho, ty⟩, ok_i1 xc Z no0 F, ?_, ?_, ?_, ?_⟩
  · obtain ⟨oc, od, kV, doc, pm, an, cdv, ct, osl, rfl, _, _⟩ := F.ex
    exact fun s self us hl => match us, hl with
      | [u], _ => .of_eq rfl
  · obtain ⟨oc, od, kV, doc, pm, an, cdv, ct, osl, rfl, _, _⟩ := F.ex
    exact fun s self us hl => match us, (show us.length = 1 by simpa using hl) with
      | [u], _ => .of_eq rfl
  · intro f hf
    rw [List.mem_singleton.mp hf]
    exact no0
  · obtain ⟨cd, h1, _, _, h4⟩ := T.cd
    rw [h1, ← h4]
    rfl
theorem xf2 (Z : CI K mg C0) (T0 : CL K C0 [] "ChainError" ("__init__" :: (hid ++ allF))) (A : ClsAll K mg C0 C "InvalidChain" "InvalidChain.__init__" ["given"] (ini 4)) : ∃ fI fd, XF P w K mg base "InvalidChain" ["given"] C C0 fI fd := by
  obtain ⟨hm, T, fI, fd, ho, F, ty⟩ := A
  have xc := T.xc1 T0 (by decide) (by decide)
  have no0 : PySem.W.findIn K (.ref C) "given" = some none := (T.findNo1 T0 (by decide) (by decide)).trans (tail_f (by decide))
  refine ⟨fI, fd, ⟨xc, hm, init_in T ho, ty⟩, ok_i2 xc Z no0 F, ?_, ?_, ?_, ?_⟩
  · obtain ⟨oc, od, kV, doc, pm, an, cdv, ct, osl, rfl, _, _⟩ := F.ex
    exact fun s self us hl => match us, hl with
      | [u], _ => .of_eq rfl
  · obtain ⟨oc, od, kV, doc, pm, an, cdv, ct, osl, rfl, _, _⟩ := F.ex
    exact fun s self us hl => match us, (show us.length = 1 by simpa using hl) with
      | [u], _ => .of_eq rfl
  · intro f hf
    rw [List.mem_singleton.mp hf]
    exact no0
  · obtain ⟨cd, h1, _, _, h4⟩ := T.cd
    rw [h1, ← h4]
    rfl
theorem xf3 (Z : CI K mg C0) (T0 : CL K C0 [] "ChainError" ("__init__" :: (hid ++ allF))) (A : ClsAll K mg C0 C "InvalidCode" "InvalidCode.__init__" ["given"] (ini 6)) : ∃ fI fd, XF P w K mg base "InvalidCode" ["given"] C C0 fI fd := by
  obtain ⟨hm, T, fI, fd, ho, F, ty⟩ := A
  have xc := T.xc1 T0 (by decide) (by decide)
  have no0 : PySem.W.findIn K (.ref C) "given" = some none := (T.findNo1 T0 (by decide) (by decide)).trans (tail_f (by decide))
  refine ⟨fI, fd, ⟨xc, hm, init_in T ho, ty⟩, ok_i3 xc Z no0 F, ?_, ?_, ?_, ?_⟩
  · obtain ⟨oc, od, kV, doc, pm, an, cdv, ct, osl, rfl, _, _⟩ := F.ex
    exact fun s self us hl => match us, hl with
      | [u], _ => .of_eq rfl
  · obtain ⟨oc, od, kV, doc, pm, an, cdv, ct, osl, rfl, _, _⟩ := F.ex
    exact fun s self us hl => match us, (show us.length = 1 by simpa using hl) with
      | [u], _ => .of_eq rfl
  · intro f hf
    rw [List.mem_singleton.mp hf]
    exact no0
  · obtain ⟨cd, h1, _, _, h4⟩ := T.cd
    rw [h1, ← h4]
    rfl
theorem xf4 (Z : CI K mg C0) (T0 : CL K C0 [] "ChainError" ("__init__" :: (hid ++ allF))) (A : ClsAll K mg C0 C "InvalidCodes" "InvalidCodes.__init__" ["given"] (ini 7)) : ∃ fI fd, XF P w K mg base "InvalidCodes" ["given"] C C0 fI fd := by
  obtain ⟨hm, T, fI, fd, ho, F, ty⟩ := A
  have xc := T.xc1 T0 (by decide) (by decide)
  have no0 : PySem.W.findIn K (.ref C) "given" = some none := (T.findNo1 T0 (by decide) (by decide)).trans (tail_f (by decide))
  refine ⟨fI, fd, ⟨xc, hm, init_in T ho, ty⟩, ok_i4 xc Z no0 F, ?_, ?_, ?_, ?_⟩
  · obtain ⟨oc, od, kV, doc, pm, an, cdv, ct, osl, rfl, _, _⟩ := F.ex
    exact fun s self us hl => match us, hl with
      | [u], _ => .of_eq rfl
  · obtain ⟨oc, od, kV, doc, pm, an, cdv, ct, osl, rfl, _, _⟩ := F.ex
    exact fun s self us hl => match us, (show us.length = 1 by simpa using hl) with
      | [u], _ => .of_eq rfl
  · intro f hf
    rw [List.mem_singleton.mp hf]
    exact no0
  · obtain ⟨cd, h1, _, _, h4⟩ := T.cd
    rw [h1, ← h4]
    rfl
theorem xf5 (Z : CI K mg C0) (T0 : CL K C0 [] "ChainError" ("__init__" :: (hid ++ allF))) (A : ClsAll K mg C0 C "InvalidConfiguration" "InvalidConfiguration.__init__" ["given"] (ini 8)) : ∃ fI fd, XF P w K mg base "InvalidConfiguration" ["given"] C C0 fI fd := by
  obtain ⟨hm, T, fI, fd, ho, F, ty⟩ := A
  have xc := T.xc1 T0 (by decide) (by decide)
  have no0 : PySem.W.findIn K (.ref C) "given" = some none := (T.findNo1 T0 (by decide) (by decide)).trans (tail_f (by decide))
  refine ⟨fI, fd, ⟨xc, hm, init_in T ho, ty⟩, ok_i5 xc Z no0 F, ?_, ?_, ?_, ?_⟩
  · obtain ⟨oc, od, kV, doc, pm, an, cdv, ct, osl, rfl, _, _⟩ := F.ex
    exact fun s self us hl => match us, hl with
      | [u], _ => .of_eq rfl
  · obtain ⟨oc, od, kV, doc, pm, an, cdv, ct, osl, rfl, _, _⟩ := F.ex
    exact fun s self us hl => match us, (show us.length = 1 by simpa using hl) with
      | [u], _ => .of_eq rfl
  · intro f hf
    rw [List.mem_singleton.mp hf]
    exact no0
  · obtain ⟨cd, h1, _, _, h4⟩ := T.cd
    rw [h1, ← h4]
    rfl
theorem xf6 (Z : CI K mg C0) (T0 : CL K C0 [] "ChainError" ("__init__" :: (hid ++ allF))) (A : ClsAll K mg C0 C "InvalidConfigurations" "InvalidConfigurations.__init__" ["given"] (ini 9)) : ∃ fI fd, XF P w K mg base "InvalidConfigurations" ["given"] C C0 fI fd := by
  obtain ⟨hm, T, fI, fd, ho, F, ty⟩ := A
  have xc := T.xc1 T0 (by decide) (by decide)
  have no0 : PySem.W.findIn K (.ref C) "given" = some none := (T.findNo1 T0 (by decide) (by decide)).trans (tail_f (by decide))
  refine ⟨fI, fd, ⟨xc, hm, init_in T ho, ty⟩, ok_i6 xc Z no0 F, ?_, ?_, ?_, ?_⟩
  · obtain ⟨oc, od, kV, doc, pm, an, cdv, ct, osl, rfl, _, _⟩ := F.ex
    exact fun s self us hl => match us, hl with
      | [u], _ => .of_eq rfl
  · obtain ⟨oc, od, kV, doc, pm, an, cdv, ct, osl, rfl, _, _⟩ := F.ex
    exact fun s self us hl => match us, (show us.length = 1 by simpa using hl) with
      | [u], _ => .of_eq rfl
  · intro f hf
    rw [List.mem_singleton.mp hf]
    exact no0
  · obtain ⟨cd, h1, _, _, h4⟩ := T.cd
    rw [h1, ← h4]
    rfl
theorem xf7 (Z : CI K mg C0) (T0 : CL K C0 [] "ChainError" ("__init__" :: (hid ++ allF))) (A : ClsAll K mg C0 C "InvalidCuts" "InvalidCuts.__init__" ["given"] (ini 10)) : ∃ fI fd, XF P w K mg base "InvalidCuts" ["given"] C C0 fI fd := by
  obtain ⟨hm, T, fI, fd, ho, F, ty⟩ := A
  have xc := T.xc1 T0 (by decide) (by decide)
  have no0 : PySem.W.findIn K (.ref C) "given" = some none := (T.findNo1 T0 (by decide) (by decide)).trans (tail_f (by decide))
  refine ⟨fI, fd, ⟨xc, hm, init_in T ho, ty⟩, ok_i7 xc Z no0 F, ?_, ?_, ?_, ?_⟩
  · obtain ⟨oc, od, kV, doc, pm, an, cdv, ct, osl, rfl, _, _⟩ := F.ex
    exact fun s self us hl => match us, hl with
      | [u], _ => .of_eq rfl
  · obtain ⟨oc, od, kV, doc, pm, an, cdv, ct, osl, rfl, _, _⟩ := F.ex
    exact fun s self us hl => match us, (show us.length = 1 by simpa using hl) with
      | [u], _ => .of_eq rfl
  · intro f hf
    rw [List.mem_singleton.mp hf]
    exact no0
  · obtain ⟨cd, h1, _, _, h4⟩ := T.cd
    rw [h1, ← h4]
    rfl
theorem xf8 (Z : CI K mg C0) (T0 : CL K C0 [] "ChainError" ("__init__" :: (hid ++ allF))) (A : ClsAll K mg C0 C "InvalidEnds" "InvalidEnds.__init__" ["given"] (ini 11)) : ∃ fI fd, XF P w K mg base "InvalidEnds" ["given"] C C0 fI fd := by
  obtain ⟨hm, T, fI, fd, ho, F, ty⟩ := A
  have xc := T.xc1 T0 (by decide) (by decide)
  have no0 : PySem.W.findIn K (.ref C) "given" = some none := (T.findNo1 T0 (by decide) (by decide)).trans (tail_f (by decide))
  refine ⟨fI, fd, ⟨xc, hm, init_in T ho, ty⟩, ok_i8 xc Z no0 F, ?_, ?_, ?_, ?_⟩
  · obtain ⟨oc, od, kV, doc, pm, an, cdv, ct, osl, rfl, _, _⟩ := F.ex
    exact fun s self us hl => match us, hl with
      | [u], _ => .of_eq rfl
  · obtain ⟨oc, od, kV, doc, pm, an, cdv, ct, osl, rfl, _, _⟩ := F.ex
    exact fun s self us hl => match us, (show us.length = 1 by simpa using hl) with
      | [u], _ => .of_eq rfl
  · intro f hf
    rw [List.mem_singleton.mp hf]
    exact no0
  · obtain ⟨cd, h1, _, _, h4⟩ := T.cd
    rw [h1, ← h4]
    rfl
theorem xf9 (Z : CI K mg C0) (T0 : CL K C0 [] "ChainError" ("__init__" :: (hid ++ allF))) (A : ClsAll K mg C0 C "InvalidEscaper" "InvalidEscaper.__init__" ["given"] (ini 12)) : ∃ fI fd, XF P w K mg base "InvalidEscaper" ["given"] C C0 fI fd := by
  obtain ⟨hm, T, fI, fd, ho, F, ty⟩ := A
  have xc := T.xc1 T0 (by decide) (by decide)
  have no0 : PySem.W.findIn K (.ref C) "given" = some none := (T.findNo1 T0 (by decide) (by decide)).trans (tail_f (by decide))
  refine ⟨fI, fd, ⟨xc, hm, init_in T ho, ty⟩, ok_i9 xc Z no0 F, ?_, ?_, ?_, ?_⟩
  · obtain ⟨oc, od, kV, doc, pm, an, cdv, ct, osl, rfl, _, _⟩ := F.ex
    exact fun s self us hl => match us, hl with
      | [u], _ => .of_eq rfl
  · obtain ⟨oc, od, kV, doc, pm, an, cdv, ct, osl, rfl, _, _⟩ := F.ex
    exact fun s self us hl => match us, (show us.length = 1 by simpa using hl) with
      | [u], _ => .of_eq rfl
  · intro f hf
    rw [List.mem_singleton.mp hf]
    exact no0
  · obtain ⟨cd, h1, _, _, h4⟩ := T.cd
    rw [h1, ← h4]
    rfl
theorem xf10 (Z : CI K mg C0) (T0 : CL K C0 [] "ChainError" ("__init__" :: (hid ++ allF))) (A : ClsAll K mg C0 C "InvalidEvent" "InvalidEvent.__init__" ["given"] (ini 13)) : ∃ fI fd, XF P w K mg base "InvalidEvent" ["given"] C C0 fI fd := by
  obtain ⟨hm, T, fI, fd, ho, F, ty⟩ := A
  have xc := T.xc1 T0 (by decide) (by decide)
  have no0 : PySem.W.findIn K (.ref C) "given" = some none := (T.findNo1 T0 (by decide) (by decide)).trans (tail_f (by decide))
  refine ⟨fI, fd, ⟨xc, hm, init_in T ho, ty⟩, ok_i10 xc Z no0 F, ?_, ?_, ?_, ?_⟩
  · obtain ⟨oc, od, kV, doc, pm, an, cdv, ct, osl, rfl, _, _⟩ := F.ex
    exact fun s self us hl => match us, hl with
      | [u], _ => .of_eq rfl
  · obtain ⟨oc, od, kV, doc, pm, an, cdv, ct, osl, rfl, _, _⟩ := F.ex
    exact fun s self us hl => match us, (show us.length = 1 by simpa using hl) with
      | [u], _ => .of_eq rfl
  · intro f hf
    rw [List.mem_singleton.mp hf]
    exact no0
  · obtain ⟨cd, h1, _, _, h4⟩ := T.cd
    rw [h1, ← h4]
    rfl
theorem xf11 (Z : CI K mg C0) (T0 : CL K C0 [] "ChainError" ("__init__" :: (hid ++ allF))) (A : ClsAll K mg C0 C "InvalidEvents" "InvalidEvents.__init__" ["given"] (ini 14)) : ∃ fI fd, XF P w K mg base "InvalidEvents" ["given"] C C0 fI fd := by
  obtain ⟨hm, T, fI, fd, ho, F, ty⟩ := A
  have xc := T.xc1 T0 (by decide) (by decide)
  have no0 : PySem.W.findIn K (.ref C) "given" = some none := (T.findNo1 T0 (by decide) (by decide)).trans (tail_f (by decide))
  refine ⟨fI, fd, ⟨xc, hm, init_in T ho, ty⟩, ok_i11 xc Z no0 F, ?_, ?_, ?_, ?_⟩
  · obtain ⟨oc, od, kV, doc, pm, an, cdv, ct, osl, rfl, _, _⟩ := F.ex
    exact fun s self us hl => match us, hl with
      | [u], _ => .of_eq rfl
  · obtain ⟨oc, od, kV, doc, pm, an, cdv, ct, osl, rfl, _, _⟩ := F.ex
    exact fun s self us hl => match us, (show us.length = 1 by simpa using hl) with
      | [u], _ => .of_eq rfl
  · intro f hf
    rw [List.mem_singleton.mp hf]
    exact no0
  · obtain ⟨cd, h1, _, _, h4⟩ := T.cd
    rw [h1, ← h4]
    rfl
theorem xf12 (Z : CI K mg C0) (T0 : CL K C0 [] "ChainError" ("__init__" :: (hid ++ allF))) (A : ClsAll K mg C0 C "InvalidFilling" "InvalidFilling.__init__" ["given"] (ini 15)) : ∃ fI fd, XF P w K mg base "InvalidFilling" ["given"] C C0 fI fd := by
  obtain ⟨hm, T, fI, fd, ho, F, ty⟩ := A
  have xc := T.xc1 T0 (by decide) (by decide)
  have no0 : PySem.W.findIn K (.ref C) "given" = some none := (T.findNo1 T0 (by decide) (by decide)).trans (tail_f (by decide))
  refine ⟨fI, fd, ⟨xc, hm, init_in T ho, ty⟩, ok_i12 xc Z no0 F, ?_, ?_, ?_, ?_⟩
  · obtain ⟨oc, od, kV, doc, pm, an, cdv, ct, osl, rfl, _, _⟩ := F.ex
    exact fun s self us hl => match us, hl with
      | [u], _ => .of_eq rfl
  · obtain ⟨oc, od, kV, doc, pm, an, cdv, ct, osl, rfl, _, _⟩ := F.ex
    exact fun s self us hl => match us, (show us.length = 1 by simpa using hl) with
      | [u], _ => .of_eq rfl
  · intro f hf
    rw [List.mem_singleton.mp hf]
    exact no0
  · obtain ⟨cd, h1, _, _, h4⟩ := T.cd
    rw [h1, ← h4]
    rfl
theorem xf13 (Z : CI K mg C0) (T0 : CL K C0 [] "ChainError" ("__init__" :: (hid ++ allF))) (A : ClsAll K mg C0 C "InvalidIndex" "InvalidIndex.__init__" ["given"] (ini 16)) : ∃ fI fd, XF P w K mg base "InvalidIndex" ["given"] C C0 fI fd := by
  obtain ⟨hm, T, fI, fd, ho, F, ty⟩ := A
  have xc := T.xc1 T0 (by decide) (by decide)
  have no0 : PySem.W.findIn K (.ref C) "given" = some none := (T.findNo1 T0 (by decide) (by decide)).trans (tail_f (by decide))
  refine ⟨fI, fd, ⟨xc, hm, init_in T ho, ty⟩, ok_i13 xc Z no0 F, ?_, ?_, ?_, ?_⟩
  · obtain ⟨oc, od, kV, doc, pm, an, cdv, ct, osl, rfl, _, _⟩ := F.ex
    exact fun s self us hl => match us, hl with
      | [u], _ => .of_eq rfl
  · obtain ⟨oc, od, kV, doc, pm, an, cdv, ct, osl, rfl, _, _⟩ := F.ex
    exact fun s self us hl => match us, (show us.length = 1 by simpa using hl) with
      | [u], _ => .of_eq rfl
  · intro f hf
    rw [List.mem_singleton.mp hf]
    exact no0
  · obtain ⟨cd, h1, _, _, h4⟩ := T.cd
    rw [h1, ← h4]
    rfl
theorem xf14 (Z : CI K mg C0) (T0 : CL K C0 [] "ChainError" ("__init__" :: (hid ++ allF))) (A : ClsAll K mg C0 C "InvalidInstructions" "InvalidInstructions.__init__" ["given"] (ini 17)) : ∃ fI fd, XF P w K mg base "InvalidInstructions" ["given"] C C0 fI fd := by
  obtain ⟨hm, T, fI, fd, ho, F, ty⟩ := A
  have xc := T.xc1 T0 (by decide) (by decide)
  have no0 : PySem.W.findIn K (.ref C) "given" = some none := (T.findNo1 T0 (by decide) (by decide)).trans (tail_f (by decide))
  refine ⟨fI, fd, ⟨xc, hm, init_in T ho, ty⟩, ok_i14 xc Z no0 F, ?_, ?_, ?_, ?_⟩
  · obtain ⟨oc, od, kV, doc, pm, an, cdv, ct, osl, rfl, _, _⟩ := F.ex
    exact fun s self us hl => match us, hl with
      | [u], _ => .of_eq rfl
  · obtain ⟨oc, od, kV, doc, pm, an, cdv, ct, osl, rfl, _, _⟩ := F.ex
    exact fun s self us hl => match us, (show us.length = 1 by simpa using hl) with
      | [u], _ => .of_eq rfl
  · intro f hf
    rw [List.mem_singleton.mp hf]
    exact no0
  · obtain ⟨cd, h1, _, _, h4⟩ := T.cd
    rw [h1, ← h4]
    rfl
theorem xf15 (Z : CI K mg C0) (T0 : CL K C0 [] "ChainError" ("__init__" :: (hid ++ allF))) (A : ClsAll K mg C0 C "InvalidItems" "InvalidItems.__init__" ["given"] (ini 18)) : ∃ fI fd, XF P w K mg base "InvalidItems" ["given"] C C0 fI fd := by
  obtain ⟨hm, T, fI, fd, ho, F, ty⟩ := A
  have xc := T.xc1 T0 (by decide) (by decide)
  have no0 : PySem.W.findIn K (.ref C) "given" = some none := (T.findNo1 T0 (by decide) (by decide)).trans (tail_f (by decide))
  refine ⟨fI, fd, ⟨xc, hm, init_in T ho, ty⟩, ok_i15 xc Z no0 F, ?_, ?_, ?_, ?_⟩
  · obtain ⟨oc, od, kV, doc, pm, an, cdv, ct, osl, rfl, _, _⟩ := F.ex
    exact fun s self us hl => match us, hl with
      | [u], _ => .of_eq rfl
  · obtain ⟨oc, od, kV, doc, pm, an, cdv, ct, osl, rfl, _, _⟩ := F.ex
    exact fun s self us hl => match us, (show us.length = 1 by simpa using hl) with
      | [u], _ => .of_eq rfl
  · intro f hf
    rw [List.mem_singleton.mp hf]
    exact no0
  · obtain ⟨cd, h1, _, _, h4⟩ := T.cd
    rw [h1, ← h4]
    rfl
theorem xf16 (Z : CI K mg C0) (T0 : CL K C0 [] "ChainError" ("__init__" :: (hid ++ allF))) (A : ClsAll K mg C0 C "InvalidKinds" "InvalidKinds.__init__" ["given"] (ini 19)) : ∃ fI fd, XF P w K mg base "InvalidKinds" ["given"] C C0 fI fd := by
  obtain ⟨hm, T, fI, fd, ho, F, ty⟩ := A
  have xc := T.xc1 T0 (by decide) (by decide)
  have no0 : PySem.W.findIn K (.ref C) "given" = some none := (T.findNo1 T0 (by decide) (by decide)).trans (tail_f (by decide))
  refine ⟨fI, fd, ⟨xc, hm, init_in T ho, ty⟩, ok_i16 xc Z no0 F, ?_, ?_, ?_, ?_⟩
  · obtain ⟨oc, od, kV, doc, pm, an, cdv, ct, osl, rfl, _, _⟩ := F.ex
    exact fun s self us hl => match us, hl with
      | [u], _ => .of_eq rfl
  · obtain ⟨oc, od, kV, doc, pm, an, cdv, ct, osl, rfl, _, _⟩ := F.ex
    exact fun s self us hl => match us, (show us.length = 1 by simpa using hl) with
      | [u], _ => .of_eq rfl
  · intro f hf
    rw [List.mem_singleton.mp hf]
    exact no0
  · obtain ⟨cd, h1, _, _, h4⟩ := T.cd
    rw [h1, ← h4]
    rfl
theorem xf17 (Z : CI K mg C0) (T0 : CL K C0 [] "ChainError" ("__init__" :: (hid ++ allF))) (A : ClsAll K mg C0 C "InvalidLine" "InvalidLine.__init__" ["given"] (ini 20)) : ∃ fI fd, XF P w K mg base "InvalidLine" ["given"] C C0 fI fd := by
  obtain ⟨hm, T, fI, fd, ho, F, ty⟩ := A
  have xc := T.xc1 T0 (by decide) (by decide)
  have no0 : PySem.W.findIn K (.ref C) "given" = some none := (T.findNo1 T0 (by decide) (by decide)).trans (tail_f (by decide))
  refine ⟨fI, fd, ⟨xc, hm, init_in T ho, ty⟩, ok_i17 xc Z no0 F, ?_, ?_, ?_, ?_⟩
  · obtain ⟨oc, od, kV, doc, pm, an, cdv, ct, osl, rfl, _, _⟩ := F.ex
    exact fun s self us hl => match us, hl with
      | [u], _ => .of_eq rfl
  · obtain ⟨oc, od, kV, doc, pm, an, cdv, ct, osl, rfl, _, _⟩ := F.ex
    exact fun s self us hl => match us, (show us.length = 1 by simpa using hl) with
      | [u], _ => .of_eq rfl
  · intro f hf
    rw [List.mem_singleton.mp hf]
    exact no0
  · obtain ⟨cd, h1, _, _, h4⟩ := T.cd
    rw [h1, ← h4]
    rfl
theorem xf18 (Z : CI K mg C0) (T0 : CL K C0 [] "ChainError" ("__init__" :: (hid ++ allF))) (A : ClsAll K mg C0 C "InvalidLines" "InvalidLines.__init__" ["given"] (ini 21)) : ∃ fI fd, XF P w K mg base "InvalidLines" ["given"] C C0 fI fd := by
  obtain ⟨hm, T, fI, fd, ho, F, ty⟩ := A
  have xc := T.xc1 T0 (by decide) (by decide)
  have no0 : PySem.W.findIn K (.ref C) "given" = some none := (T.findNo1 T0 (by decide) (by decide)).trans (tail_f (by decide))
  refine ⟨fI, fd, ⟨xc, hm, init_in T ho, ty⟩, ok_i18 xc Z no0 F, ?_, ?_, ?_, ?_⟩
  · obtain ⟨oc, od, kV, doc, pm, an, cdv, ct, osl, rfl, _, _⟩ := F.ex
    exact fun s self us hl => match us, hl with
      | [u], _ => .of_eq rfl
  · obtain ⟨oc, od, kV, doc, pm, an, cdv, ct, osl, rfl, _, _⟩ := F.ex
    exact fun s self us hl => match us, (show us.length = 1 by simpa using hl) with
      | [u], _ => .of_eq rfl
  · intro f hf
    rw [List.mem_singleton.mp hf]
    exact no0
  · obtain ⟨cd, h1, _, _, h4⟩ := T.cd
    rw [h1, ← h4]
    rfl
theorem xf19 (Z : CI K mg C0) (T0 : CL K C0 [] "ChainError" ("__init__" :: (hid ++ allF))) (A : ClsAll K mg C0 C "InvalidMoves" "InvalidMoves.__init__" ["given"] (ini 22)) : ∃ fI fd, XF P w K mg base "InvalidMoves" ["given"] C C0 fI fd := by
  obtain ⟨hm, T, fI, fd, ho, F, ty⟩ := A
  have xc := T.xc1 T0 (by decide) (by decide)
  have no0 : PySem.W.findIn K (.ref C) "given" = some none := (T.findNo1 T0 (by decide) (by decide)).trans (tail_f (by decide))
  refine ⟨fI, fd, ⟨xc, hm, init_in T ho, ty⟩, ok_i19 xc Z no0 F, ?_, ?_, ?_, ?_⟩
  · obtain ⟨oc, od, kV, doc, pm, an, cdv, ct, osl, rfl, _, _⟩ := F.ex
    exact fun s self us hl => match us, hl with
      | [u], _ => .of_eq rfl
  · obtain ⟨oc, od, kV, doc, pm, an, cdv, ct, osl, rfl, _, _⟩ := F.ex
    exact fun s self us hl => match us, (show us.length = 1 by simpa using hl) with
      | [u], _ => .of_eq rfl
  · intro f hf
    rw [List.mem_singleton.mp hf]
    exact no0
  · obtain ⟨cd, h1, _, _, h4⟩ := T.cd
    rw [h1, ← h4]
    rfl
theorem xf20 (Z : CI K mg C0) (T0 : CL K C0 [] "ChainError" ("__init__" :: (hid ++ allF))) (A : ClsAll K mg C0 C "InvalidNumber" "InvalidNumber.__init__" ["given"] (ini 23)) : ∃ fI fd, XF P w K mg base "InvalidNumber" ["given"] C C0 fI fd := by
  obtain ⟨hm, T, fI, fd, ho, F, ty⟩ := A
  have xc := T.xc1 T0 (by decide) (by decide)
  have no0 : PySem.W.findIn K (.ref C) "given" = some none := (T.findNo1 T0 (by decide) (by decide)).trans (tail_f (by decide))
  refine ⟨fI, fd, ⟨xc, hm, init_in T ho, ty⟩, ok_i20 xc Z no0 F, ?_, ?_, ?_, ?_⟩
  · obtain ⟨oc, od, kV, doc, pm, an, cdv, ct, osl, rfl, _, _⟩ := F.ex
    exact fun s self us hl => match us, hl with
      | [u], _ => .of_eq rfl
  · obtain ⟨oc, od, kV, doc, pm, an, cdv, ct, osl, rfl, _, _⟩ := F.ex
    exact fun s self us hl => match us, (show us.length = 1 by simpa using hl) with
      | [u], _ => .of_eq rfl
  · intro f hf
    rw [List.mem_singleton.mp hf]
    exact no0
  · obtain ⟨cd, h1, _, _, h4⟩ := T.cd
    rw [h1, ← h4]
    rfl
theorem xf21 (Z : CI K mg C0) (T0 : CL K C0 [] "ChainError" ("__init__" :: (hid ++ allF))) (A : ClsAll K mg C0 C "InvalidOther" "InvalidOther.__init__" ["given"] (ini 24)) : ∃ fI fd, XF P w K mg base "InvalidOther" ["given"] C C0 fI fd := by
  obtain ⟨hm, T, fI, fd, ho, F, ty⟩ := A
  have xc := T.xc1 T0 (by decide) (by decide)
  have no0 : PySem.W.findIn K (.ref C) "given" = some none := (T.findNo1 T0 (by decide) (by decide)).trans (tail_f (by decide))
  refine ⟨fI, fd, ⟨xc, hm, init_in T ho, ty⟩, ok_i21 xc Z no0 F, ?_, ?_, ?_, ?_⟩
  · obtain ⟨oc, od, kV, doc, pm, an, cdv, ct, osl, rfl, _, _⟩ := F.ex
    exact fun s self us hl => match us, hl with
      | [u], _ => .of_eq rfl
  · obtain ⟨oc, od, kV, doc, pm, an, cdv, ct, osl, rfl, _, _⟩ := F.ex
    exact fun s self us hl => match us, (show us.length = 1 by simpa using hl) with
      | [u], _ => .of_eq rfl
  · intro f hf
    rw [List.mem_singleton.mp hf]
    exact no0
  · obtain ⟨cd, h1, _, _, h4⟩ := T.cd
    rw [h1, ← h4]
    rfl
theorem xf22 (Z : CI K mg C0) (T0 : CL K C0 [] "ChainError" ("__init__" :: (hid ++ allF))) (A : ClsAll K mg C0 C "InvalidPieces" "InvalidPieces.__init__" ["given"] (ini 25)) : ∃ fI fd, XF P w K mg base "InvalidPieces" ["given"] C C0 fI fd := by
  obtain ⟨hm, T, fI, fd, ho, F, ty⟩ := A
  have xc := T.xc1 T0 (by decide) (by decide)
  have no0 : PySem.W.findIn K (.ref C) "given" = some none := (T.findNo1 T0 (by decide) (by decide)).trans (tail_f (by decide))
  refine ⟨fI, fd, ⟨xc, hm, init_in T ho, ty⟩, ok_i22 xc Z no0 F, ?_, ?_, ?_, ?_⟩
  · obtain ⟨oc, od, kV, doc, pm, an, cdv, ct, osl, rfl, _, _⟩ := F.ex
    exact fun s self us hl => match us, hl with
      | [u], _ => .of_eq rfl
  · obtain ⟨oc, od, kV, doc, pm, an, cdv, ct, osl, rfl, _, _⟩ := F.ex
    exact fun s self us hl => match us, (show us.length = 1 by simpa using hl) with
      | [u], _ => .of_eq rfl
  · intro f hf
    rw [List.mem_singleton.mp hf]
    exact no0
  · obtain ⟨cd, h1, _, _, h4⟩ := T.cd
    rw [h1, ← h4]
    rfl
theorem xf23 (Z : CI K mg C0) (T0 : CL K C0 [] "ChainError" ("__init__" :: (hid ++ allF))) (A : ClsAll K mg C0 C "InvalidPlace" "InvalidPlace.__init__" ["given"] (ini 26)) : ∃ fI fd, XF P w K mg base "InvalidPlace" ["given"] C C0 fI fd := by
  obtain ⟨hm, T, fI, fd, ho, F, ty⟩ := A
  have xc := T.xc1 T0 (by decide) (by decide)
  have no0 : PySem.W.findIn K (.ref C) "given" = some none := (T.findNo1 T0 (by decide) (by decide)).trans (tail_f (by decide))
  refine ⟨fI, fd, ⟨xc, hm, init_in T ho, ty⟩, ok_i23 xc Z no0 F, ?_, ?_, ?_, ?_⟩
  · obtain ⟨oc, od, kV, doc, pm, an, cdv, ct, osl, rfl, _, _⟩ := F.ex
    exact fun s self us hl => match us, hl with
      | [u], _ => .of_eq rfl
  · obtain ⟨oc, od, kV, doc, pm, an, cdv, ct, osl, rfl, _, _⟩ := F.ex
    exact fun s self us hl => match us, (show us.length = 1 by simpa using hl) with
      | [u], _ => .of_eq rfl
  · intro f hf
    rw [List.mem_singleton.mp hf]
    exact no0
  · obtain ⟨cd, h1, _, _, h4⟩ := T.cd
    rw [h1, ← h4]
    rfl
theorem xf24 (Z : CI K mg C0) (T0 : CL K C0 [] "ChainError" ("__init__" :: (hid ++ allF))) (A : ClsAll K mg C0 C "InvalidReader" "InvalidReader.__init__" ["given"] (ini 27)) : ∃ fI fd, XF P w K mg base "InvalidReader" ["given"] C C0 fI fd := by
  obtain ⟨hm, T, fI, fd, ho, F, ty⟩ := A
  have xc := T.xc1 T0 (by decide) (by decide)
  have no0 : PySem.W.findIn K (.ref C) "given" = some none := (T.findNo1 T0 (by decide) (by decide)).trans (tail_f (by decide))
  refine ⟨fI, fd, ⟨xc, hm, init_in T ho, ty⟩, ok_i24 xc Z no0 F, ?_, ?_, ?_, ?_⟩
  · obtain ⟨oc, od, kV, doc, pm, an, cdv, ct, osl, rfl, _, _⟩ := F.ex
    exact fun s self us hl => match us, hl with
      | [u], _ => .of_eq rfl
  · obtain ⟨oc, od, kV, doc, pm, an, cdv, ct, osl, rfl, _, _⟩ := F.ex
    exact fun s self us hl => match us, (show us.length = 1 by simpa using hl) with
      | [u], _ => .of_eq rfl
  · intro f hf
    rw [List.mem_singleton.mp hf]
    exact no0
  · obtain ⟨cd, h1, _, _, h4⟩ := T.cd
    rw [h1, ← h4]
    rfl
theorem xf25 (Z : CI K mg C0) (T0 : CL K C0 [] "ChainError" ("__init__" :: (hid ++ allF))) (A : ClsAll K mg C0 C "InvalidReaders" "InvalidReaders.__init__" ["given"] (ini 28)) : ∃ fI fd, XF P w K mg base "InvalidReaders" ["given"] C C0 fI fd := by
  obtain ⟨hm, T, fI, fd, ho, F, ty⟩ := A
  have xc := T.xc1 T0 (by decide) (by decide)
  have no0 : PySem.W.findIn K (.ref C) "given" = some none := (T.findNo1 T0 (by decide) (by decide)).trans (tail_f (by decide))
  refine ⟨fI, fd, ⟨xc, hm, init_in T ho, ty⟩, ok_i25 xc Z no0 F, ?_, ?_, ?_, ?_⟩
  · obtain ⟨oc, od, kV, doc, pm, an, cdv, ct, osl, rfl, _, _⟩ := F.ex
    exact fun s self us hl => match us, hl with
      | [u], _ => .of_eq rfl
  · obtain ⟨oc, od, kV, doc, pm, an, cdv, ct, osl, rfl, _, _⟩ := F.ex
    exact fun s self us hl => match us, (show us.length = 1 by simpa using hl) with
      | [u], _ => .of_eq rfl
  · intro f hf
    rw [List.mem_singleton.mp hf]
    exact no0
  · obtain ⟨cd, h1, _, _, h4⟩ := T.cd
    rw [h1, ← h4]
    rfl
theorem xf26 (Z : CI K mg C0) (T0 : CL K C0 [] "ChainError" ("__init__" :: (hid ++ allF))) (A : ClsAll K mg C0 C "InvalidRoads" "InvalidRoads.__init__" ["given"] (ini 30)) : ∃ fI fd, XF P w K mg base "InvalidRoads" ["given"] C C0 fI fd := by
  obtain ⟨hm, T, fI, fd, ho, F, ty⟩ := A
  have xc := T.xc1 T0 (by decide) (by decide)
  have no0 : PySem.W.findIn K (.ref C) "given" = some none := (T.findNo1 T0 (by decide) (by decide)).trans (tail_f (by decide))
  refine ⟨fI, fd, ⟨xc, hm, init_in T ho, ty⟩, ok_i26 xc Z no0 F, ?_, ?_, ?_, ?_⟩
  · obtain ⟨oc, od, kV, doc, pm, an, cdv, ct, osl, rfl, _, _⟩ := F.ex
    exact fun s self us hl => match us, hl with
      | [u], _ => .of_eq rfl
  · obtain ⟨oc, od, kV, doc, pm, an, cdv, ct, osl, rfl, _, _⟩ := F.ex
    exact fun s self us hl => match us, (show us.length = 1 by simpa using hl) with
      | [u], _ => .of_eq rfl
  · intro f hf
    rw [List.mem_singleton.mp hf]
    exact no0
  · obtain ⟨cd, h1, _, _, h4⟩ := T.cd
    rw [h1, ← h4]
    rfl
theorem xf27 (Z : CI K mg C0) (T0 : CL K C0 [] "ChainError" ("__init__" :: (hid ++ allF))) (A : ClsAll K mg C0 C "InvalidRoute" "InvalidRoute.__init__" ["given"] (ini 31)) : ∃ fI fd, XF P w K mg base "InvalidRoute" ["given"] C C0 fI fd := by
  obtain ⟨hm, T, fI, fd, ho, F, ty⟩ := A
  have xc := T.xc1 T0 (by decide) (by decide)
  have no0 : PySem.W.findIn K (.ref C) "given" = some none := (T.findNo1 T0 (by decide) (by decide)).trans (tail_f (by decide))
  refine ⟨fI, fd, ⟨xc, hm, init_in T ho, ty⟩, ok_i27 xc Z no0 F, ?_, ?_, ?_, ?_⟩
  · obtain ⟨oc, od, kV, doc, pm, an, cdv, ct, osl, rfl, _, _⟩ := F.ex
    exact fun s self us hl => match us, hl with
      | [u], _ => .of_eq rfl
  · obtain ⟨oc, od, kV, doc, pm, an, cdv, ct, osl, rfl, _, _⟩ := F.ex
    exact fun s self us hl => match us, (show us.length = 1 by simpa using hl) with
      | [u], _ => .of_eq rfl
  · intro f hf
    rw [List.mem_singleton.mp hf]
    exact no0
  · obtain ⟨cd, h1, _, _, h4⟩ := T.cd
    rw [h1, ← h4]
    rfl
theorem xf28 (Z : CI K mg C0) (T0 : CL K C0 [] "ChainError" ("__init__" :: (hid ++ allF))) (A : ClsAll K mg C0 C "InvalidRows" "InvalidRows.__init__" ["given"] (ini 32)) : ∃ fI fd, XF P w K mg base "InvalidRows" ["given"] C C0 fI fd := by
  obtain ⟨hm, T, fI, fd, ho, F, ty⟩ := A
  have xc := T.xc1 T0 (by decide) (by decide)
  have no0 : PySem.W.findIn K (.ref C) "given" = some none := (T.findNo1 T0 (by decide) (by decide)).trans (tail_f (by decide))
  refine ⟨fI, fd, ⟨xc, hm, init_in T ho, ty⟩, ok_i28 xc Z no0 F, ?_, ?_, ?_, ?_⟩
  · obtain ⟨oc, od, kV, doc, pm, an, cdv, ct, osl, rfl, _, _⟩ := F.ex
    exact fun s self us hl => match us, hl with
      | [u], _ => .of_eq rfl
  · obtain ⟨oc, od, kV, doc, pm, an, cdv, ct, osl, rfl, _, _⟩ := F.ex
    exact fun s self us hl => match us, (show us.length = 1 by simpa using hl) with
      | [u], _ => .of_eq rfl
  · intro f hf
    rw [List.mem_singleton.mp hf]
    exact no0
  · obtain ⟨cd, h1, _, _, h4⟩ := T.cd
    rw [h1, ← h4]
    rfl
theorem xf29 (Z : CI K mg C0) (T0 : CL K C0 [] "ChainError" ("__init__" :: (hid ++ allF))) (A : ClsAll K mg C0 C "InvalidSign" "InvalidSign.__init__" ["given"] (ini 33)) : ∃ fI fd, XF P w K mg base "InvalidSign" ["given"] C C0 fI fd := by
  obtain ⟨hm, T, fI, fd, ho, F, ty⟩ := A
  have xc := T.xc1 T0 (by decide) (by decide)
  have no0 : PySem.W.findIn K (.ref C) "given" = some none := (T.findNo1 T0 (by decide) (by decide)).trans (tail_f (by decide))
  refine ⟨fI, fd, ⟨xc, hm, init_in T ho, ty⟩, ok_i29 xc Z no0 F, ?_, ?_, ?_, ?_⟩
  · obtain ⟨oc, od, kV, doc, pm, an, cdv, ct, osl, rfl, _, _⟩ := F.ex
    exact fun s self us hl => match us, hl with
      | [u], _ => .of_eq rfl
  · obtain ⟨oc, od, kV, doc, pm, an, cdv, ct, osl, rfl, _, _⟩ := F.ex
    exact fun s self us hl => match us, (show us.length = 1 by simpa using hl) with
      | [u], _ => .of_eq rfl
  · intro f hf
    rw [List.mem_singleton.mp hf]
    exact no0
  · obtain ⟨cd, h1, _, _, h4⟩ := T.cd
    rw [h1, ← h4]
    rfl
theorem xf30 (Z : CI K mg C0) (T0 : CL K C0 [] "ChainError" ("__init__" :: (hid ++ allF))) (A : ClsAll K mg C0 C "InvalidState" "InvalidState.__init__" ["given"] (ini 34)) : ∃ fI fd, XF P w K mg base "InvalidState" ["given"] C C0 fI fd := by
  obtain ⟨hm, T, fI, fd, ho, F, ty⟩ := A
  have xc := T.xc1 T0 (by decide) (by decide)
  have no0 : PySem.W.findIn K (.ref C) "given" = some none := (T.findNo1 T0 (by decide) (by decide)).trans (tail_f (by decide))
  refine ⟨fI, fd, ⟨xc, hm, init_in T ho, ty⟩, ok_i30 xc Z no0 F, ?_, ?_, ?_, ?_⟩
  · obtain ⟨oc, od, kV, doc, pm, an, cdv, ct, osl, rfl, _, _⟩ := F.ex
    exact fun s self us hl => match us, hl with
      | [u], _ => .of_eq rfl
  · obtain ⟨oc, od, kV, doc, pm, an, cdv, ct, osl, rfl, _, _⟩ := F.ex
    exact fun s self us hl => match us, (show us.length = 1 by simpa using hl) with
      | [u], _ => .of_eq rfl
  · intro f hf
    rw [List.mem_singleton.mp hf]
    exact no0
  · obtain ⟨cd, h1, _, _, h4⟩ := T.cd
    rw [h1, ← h4]
    rfl
theorem xf31 (Z : CI K mg C0) (T0 : CL K C0 [] "ChainError" ("__init__" :: (hid ++ allF))) (A : ClsAll K mg C0 C "InvalidString" "InvalidString.__init__" ["given"] (ini 35)) : ∃ fI fd, XF P w K mg base "InvalidString" ["given"] C C0 fI fd := by
  obtain ⟨hm, T, fI, fd, ho, F, ty⟩ := A
  have xc := T.xc1 T0 (by decide) (by decide)
  have no0 : PySem.W.findIn K (.ref C) "given" = some none := (T.findNo1 T0 (by decide) (by decide)).trans (tail_f (by decide))
  refine ⟨fI, fd, ⟨xc, hm, init_in T ho, ty⟩, ok_i31 xc Z no0 F, ?_, ?_, ?_, ?_⟩
  · obtain ⟨oc, od, kV, doc, pm, an, cdv, ct, osl, rfl, _, _⟩ := F.ex
    exact fun s self us hl => match us, hl with
      | [u], _ => .of_eq rfl
  · obtain ⟨oc, od, kV, doc, pm, an, cdv, ct, osl, rfl, _, _⟩ := F.ex
    exact fun s self us hl => match us, (show us.length = 1 by simpa using hl) with
      | [u], _ => .of_eq rfl
  · intro f hf
    rw [List.mem_singleton.mp hf]
    exact no0
  · obtain ⟨cd, h1, _, _, h4⟩ := T.cd
    rw [h1, ← h4]
    rfl
theorem xf32 (Z : CI K mg C0) (T0 : CL K C0 [] "ChainError" ("__init__" :: (hid ++ allF))) (A : ClsAll K mg C0 C "InvalidText" "InvalidText.__init__" ["given"] (ini 36)) : ∃ fI fd, XF P w K mg base "InvalidText" ["given"] C C0 fI fd := by
  obtain ⟨hm, T, fI, fd, ho, F, ty⟩ := A
  have xc := T.xc1 T0 (by decide) (by decide)
  have no0 : PySem.W.findIn K (.ref C) "given" = some none := (T.findNo1 T0 (by decide) (by decide)).trans (tail_f (by decide))
  refine ⟨fI, fd, ⟨xc, hm, init_in T ho, ty⟩, ok_i32 xc Z no0 F, ?_, ?_, ?_, ?_⟩
  · obtain ⟨oc, od, kV, doc, pm, an, cdv, ct, osl, rfl, _, _⟩ := F.ex
    exact fun s self us hl => match us, hl with
      | [u], _ => .of_eq rfl
  · obtain ⟨oc, od, kV, doc, pm, an, cdv, ct, osl, rfl, _, _⟩ := F.ex
    exact fun s self us hl => match us, (show us.length = 1 by simpa using hl) with
      | [u], _ => .of_eq rfl
  · intro f hf
    rw [List.mem_singleton.mp hf]
    exact no0
  · obtain ⟨cd, h1, _, _, h4⟩ := T.cd
    rw [h1, ← h4]
    rfl
theorem xf33 (Z : CI K mg C0) (T0 : CL K C0 [] "ChainError" ("__init__" :: (hid ++ allF))) (A : ClsAll K mg C0 C "InvalidTriple" "InvalidTriple.__init__" ["given"] (ini 37)) : ∃ fI fd, XF P w K mg base "InvalidTriple" ["given"] C C0 fI fd := by
  obtain ⟨hm, T, fI, fd, ho, F, ty⟩ := A
  have xc := T.xc1 T0 (by decide) (by decide)
  have no0 : PySem.W.findIn K (.ref C) "given" = some none := (T.findNo1 T0 (by decide) (by decide)).trans (tail_f (by decide))
  refine ⟨fI, fd, ⟨xc, hm, init_in T ho, ty⟩, ok_i33 xc Z no0 F, ?_, ?_, ?_, ?_⟩
  · obtain ⟨oc, od, kV, doc, pm, an, cdv, ct, osl, rfl, _, _⟩ := F.ex
    exact fun s self us hl => match us, hl with
      | [u], _ => .of_eq rfl
  · obtain ⟨oc, od, kV, doc, pm, an, cdv, ct, osl, rfl, _, _⟩ := F.ex
    exact fun s self us hl => match us, (show us.length = 1 by simpa using hl) with
      | [u], _ => .of_eq rfl
  · intro f hf
    rw [List.mem_singleton.mp hf]
    exact no0
  · obtain ⟨cd, h1, _, _, h4⟩ := T.cd
    rw [h1, ← h4]
    rfl
theorem xf34 (Z : CI K mg C0) (T0 : CL K C0 [] "ChainError" ("__init__" :: (hid ++ allF))) (A : ClsAll K mg C0 C "InvalidTriples" "InvalidTriples.__init__" ["given"] (ini 38)) : ∃ fI fd, XF P w K mg base "InvalidTriples" ["given"] C C0 fI fd := by
  obtain ⟨hm, T, fI, fd, ho, F, ty⟩ := A
  have xc := T.xc1 T0 (by decide) (by decide)
  have no0 : PySem.W.findIn K (.ref C) "given" = some none := (T.findNo1 T0 (by decide) (by decide)).trans (tail_f (by decide))
  refine ⟨fI, fd, ⟨xc, hm, init_in T ho, ty⟩, ok_i34 xc Z no0 F, ?_, ?_, ?_, ?_⟩
  · obtain ⟨oc, od, kV, doc, pm, an, cdv, ct, osl, rfl, _, _⟩ := F.ex
    exact fun s self us hl => match us, hl with
      | [u], _ => .of_eq rfl
  · obtain ⟨oc, od, kV, doc, pm, an, cdv, ct, osl, rfl, _, _⟩ := F.ex
    exact fun s self us hl => match us, (show us.length = 1 by simpa using hl) with
      | [u], _ => .of_eq rfl
  · intro f hf
    rw [List.mem_singleton.mp hf]
    exact no0
  · obtain ⟨cd, h1, _, _, h4⟩ := T.cd
    rw [h1, ← h4]
    rfl
theorem xf35 (Z : CI K mg C0) (T0 : CL K C0 [] "ChainError" ("__init__" :: (hid ++ allF))) (A : ClsAll K mg C0 C "InvalidTruths" "InvalidTruths.__init__" ["given"] (ini 39)) : ∃ fI fd, XF P w K mg base "InvalidTruths" ["given"] C C0 fI fd := by
  obtain ⟨hm, T, fI, fd, ho, F, ty⟩ := A
  have xc := T.xc1 T0 (by decide) (by decide)
  have no0 : PySem.W.findIn K (.ref C) "given" = some none := (T.findNo1 T0 (by decide) (by decide)).trans (tail_f (by decide))
  refine ⟨fI, fd, ⟨xc, hm, init_in T ho, ty⟩, ok_i35 xc Z no0 F, ?_, ?_, ?_, ?_⟩
  · obtain ⟨oc, od, kV, doc, pm, an, cdv, ct, osl, rfl, _, _⟩ := F.ex
    exact fun s self us hl => match us, hl with
      | [u], _ => .of_eq rfl
  · obtain ⟨oc, od, kV, doc, pm, an, cdv, ct, osl, rfl, _, _⟩ := F.ex
    exact fun s self us hl => match us, (show us.length = 1 by simpa using hl) with
      | [u], _ => .of_eq rfl
  · intro f hf
    rw [List.mem_singleton.mp hf]
    exact no0
  · obtain ⟨cd, h1, _, _, h4⟩ := T.cd
    rw [h1, ← h4]
    rfl
theorem xf36 (Z : CI K mg C0) (T0 : CL K C0 [] "ChainError" ("__init__" :: (hid ++ allF))) (A : ClsAll K mg C0 C "InvalidWithin" "InvalidWithin.__init__" ["given"] (ini 40)) : ∃ fI fd, XF P w K mg base "InvalidWithin" ["given"] C C0 fI fd := by
  obtain ⟨hm, T, fI, fd, ho, F, ty⟩ := A
  have xc := T.xc1 T0 (by decide) (by decide)
  have no0 : PySem.W.findIn K (.ref C) "given" = some none := (T.findNo1 T0 (by decide) (by decide)).trans (tail_f (by decide))
  refine ⟨fI, fd, ⟨xc, hm, init_in T ho, ty⟩, ok_i36 xc Z no0 F, ?_, ?_, ?_, ?_⟩
  · obtain ⟨oc, od, kV, doc, pm, an, cdv, ct, osl, rfl, _, _⟩ := F.ex
    exact fun s self us hl => match us, hl with
      | [u], _ => .of_eq rfl
  · obtain ⟨oc, od, kV, doc, pm, an, cdv, ct, osl, rfl, _, _⟩ := F.ex
    exact fun s self us hl => match us, (show us.length = 1 by simpa using hl) with
      | [u], _ => .of_eq rfl
  · intro f hf
    rw [List.mem_singleton.mp hf]
    exact no0
  · obtain ⟨cd, h1, _, _, h4⟩ := T.cd
    rw [h1, ← h4]
    rfl
theorem xf37 (Z : CI K mg C0) (T0 : CL K C0 [] "ChainError" ("__init__" :: (hid ++ allF))) (A : ClsAll K mg C0 C "InvalidWord" "InvalidWord.__init__" ["given"] (ini 41)) : ∃ fI fd, XF P w K mg base "InvalidWord" ["given"] C C0 fI fd := by
  obtain ⟨hm, T, fI, fd, ho, F, ty⟩ := A
  have xc := T.xc1 T0 (by decide) (by decide)
  have no0 : PySem.W.findIn K (.ref C) "given" = some none := (T.findNo1 T0 (by decide) (by decide)).trans (tail_f (by decide))
  refine ⟨fI, fd, ⟨xc, hm, init_in T ho, ty⟩, ok_i37 xc Z no0 F, ?_, ?_, ?_, ?_⟩
  · obtain ⟨oc, od, kV, doc, pm, an, cdv, ct, osl, rfl, _, _⟩ := F.ex
    exact fun s self us hl => match us, hl with
      | [u], _ => .of_eq rfl
  · obtain ⟨oc, od, kV, doc, pm, an, cdv, ct, osl, rfl, _, _⟩ := F.ex
    exact fun s self us hl => match us, (show us.length = 1 by simpa using hl) with
      | [u], _ => .of_eq rfl
  · intro f hf
    rw [List.mem_singleton.mp hf]
    exact no0
  · obtain ⟨cd, h1, _, _, h4⟩ := T.cd
    rw [h1, ← h4]
    rfl
theorem xf38 (Z : CI K mg C0) (T0 : CL K C0 [] "ChainError" ("__init__" :: (hid ++ allF))) (A : ClsAll K mg C0 C "InvalidClaim" "InvalidClaim.__init__" ["index"] (ini 5)) : ∃ fI fd, XF P w K mg base "InvalidClaim" ["index"] C C0 fI fd := by
  obtain ⟨hm, T, fI, fd, ho, F, ty⟩ := A
  have xc := T.xc1 T0 (by decide) (by decide)
  have no0 : PySem.W.findIn K (.ref C) "index" = some none := (T.findNo1 T0 (by decide) (by decide)).trans (tail_f (by decide))
  refine ⟨fI, fd, ⟨xc, hm, init_in T ho, ty⟩, ok_i38 xc Z no0 F, ?_, ?_, ?_, ?_⟩
  · obtain ⟨oc, od, kV, doc, pm, an, cdv, ct, osl, rfl, _, _⟩ := F.ex
    exact fun s self us hl => match us, hl with
      | [u], _ => .of_eq rfl
  · obtain ⟨oc, od, kV, doc, pm, an, cdv, ct, osl, rfl, _, _⟩ := F.ex
    exact fun s self us hl => match us, (show us.length = 1 by simpa using hl) with
      | [u], _ => .of_eq rfl
  · intro f hf
    rw [List.mem_singleton.mp hf]
    exact no0
  · obtain ⟨cd, h1, _, _, h4⟩ := T.cd
    rw [h1, ← h4]
    rfl
theorem xf39 (Z : CI K mg C0) (T0 : CL K C0 [] "ChainError" ("__init__" :: (hid ++ allF))) (A : ClsAll K mg C0 C "InvalidRecord" "InvalidRecord.__init__" ["index"] (ini 29)) : ∃ fI fd, XF P w K mg base "InvalidRecord" ["index"] C C0 fI fd := by
  obtain ⟨hm, T, fI, fd, ho, F, ty⟩ := A
  have xc := T.xc1 T0 (by decide) (by decide)
  have no0 : PySem.W.findIn K (.ref C) "index" = some none := (T.findNo1 T0 (by decide) (by decide)).trans (tail_f (by decide))
  refine ⟨fI, fd, ⟨xc, hm, init_in T ho, ty⟩, ok_i39 xc Z no0 F, ?_, ?_, ?_, ?_⟩
  · obtain ⟨oc, od, kV, doc, pm, an, cdv, ct, osl, rfl, _, _⟩ := F.ex
    exact fun s self us hl => match us, hl with
      | [u], _ => .of_eq rfl
  · obtain ⟨oc, od, kV, doc, pm, an, cdv, ct, osl, rfl, _, _⟩ := F.ex
    exact fun s self us hl => match us, (show us.length = 1 by simpa using hl) with
      | [u], _ => .of_eq rfl
  · intro f hf
    rw [List.mem_singleton.mp hf]
    exact no0
  · obtain ⟨cd, h1, _, _, h4⟩ := T.cd
    rw [h1, ← h4]
    rfl
theorem xf40 (Z : CI K mg C0) (T0 : CL K C0 [] "ChainError" ("__init__" :: (hid ++ allF))) (A : ClsAll K mg C0 C "BreaksOut" "BreaksOut.__init__" ["filling"] (ini 43)) : ∃ fI fd, XF P w K mg base "BreaksOut" ["filling"] C C0 fI fd := by
  obtain ⟨hm, T, fI, fd, ho, F, ty⟩ := A
  have xc := T.xc1 T0 (by decide) (by decide)
  have no0 : PySem.W.findIn K (.ref C) "filling" = some none := (T.findNo1 T0 (by decide) (by decide)).trans (tail_f (by decide))
  refine ⟨fI, fd, ⟨xc, hm, init_in T ho, ty⟩, ok_i40 xc Z no0 F, ?_, ?_, ?_, ?_⟩
  · obtain ⟨oc, od, kV, doc, pm, an, cdv, ct, osl, rfl, _, _⟩ := F.ex
    exact fun s self us hl => match us, hl with
      | [u], _ => .of_eq rfl
  · obtain ⟨oc, od, kV, doc, pm, an, cdv, ct, osl, rfl, _, _⟩ := F.ex
    exact fun s self us hl => match us, (show us.length = 1 by simpa using hl) with
      | [u], _ => .of_eq rfl
  · intro f hf
    rw [List.mem_singleton.mp hf]
    exact no0
  · obtain ⟨cd, h1, _, _, h4⟩ := T.cd
    rw [h1, ← h4]
    rfl
theorem xf41 (Z : CI K mg C0) (T0 : CL K C0 [] "ChainError" ("__init__" :: (hid ++ allF))) (A : ClsAll K mg C0 C "Mixed" "Mixed.__init__" ["state", "sign"] (ini 44)) : ∃ fI fd, XF P w K mg base "Mixed" ["state", "sign"] C C0 fI fd := by
  obtain ⟨hm, T, fI, fd, ho, F, ty⟩ := A
  have xc := T.xc1 T0 (by decide) (by decide)
  have no0 : PySem.W.findIn K (.ref C) "state" = some none := (T.findNo1 T0 (by decide) (by decide)).trans (tail_f (by decide))
  have no1 : PySem.W.findIn K (.ref C) "sign" = some none := (T.findNo1 T0 (by decide) (by decide)).trans (tail_f (by decide))
  refine ⟨fI, fd, ⟨xc, hm, init_in T ho, ty⟩, ok_i41 xc Z no0 no1 F, ?_, ?_, ?_, ?_⟩
  · obtain ⟨oc, od, kV, doc, pm, an, cdv, ct, osl, rfl, _, _⟩ := F.ex
    exact fun s self us hl => match us, hl with
      | [u, v], _ => .of_eq rfl
  · obtain ⟨oc, od, kV, doc, pm, an, cdv, ct, osl, rfl, _, _⟩ := F.ex
    exact fun s self us hl => match us, (show us.length = 2 by simpa using hl) with
      | [u, v], _ => .of_eq rfl
  · intro f hf
    rcases List.mem_cons.mp hf with rfl | hf
    · exact no0
    · rw [List.mem_singleton.mp hf]
      exact no1
  · obtain ⟨cd, h1, _, _, h4⟩ := T.cd
    rw [h1, ← h4]
    rfl
theorem xf42 (Z : CI K mg C0) (T0 : CL K C0 [] "ChainError" ("__init__" :: (hid ++ allF))) (A : ClsAll K mg C0 C "NoChains" "NoChains.__init__" [] (ini 45)) : ∃ fI fd, XF P w K mg base "NoChains" [] C C0 fI fd := by
  obtain ⟨hm, T, fI, fd, ho, F, ty⟩ := A
  have xc := T.xc1 T0 (by decide) (by decide)
  refine ⟨fI, fd, ⟨xc, hm, init_in T ho, ty⟩, ok_i42 xc Z F, ?_, ?_, ?_, ?_⟩
  · obtain ⟨oc, od, kV, doc, pm, an, cdv, ct, osl, rfl, _, _⟩ := F.ex
    exact fun s self us hl => match us, hl with
      | [], _ => .of_eq rfl
  · obtain ⟨oc, od, kV, doc, pm, an, cdv, ct, osl, rfl, _, _⟩ := F.ex
    exact fun s self us hl => match us, (show us.length = 0 by simpa using hl) with
      | [], _ => .of_eq rfl
  · intro f hf
    cases hf
  · obtain ⟨cd, h1, _, _, h4⟩ := T.cd
    rw [h1, ← h4]
    rfl
theorem xf43 (Z : CI K mg C0) (T0 : CL K C0 [] "ChainError" ("__init__" :: (hid ++ allF))) (A : ClsAll K mg C0 C "NotAtEnd" "NotAtEnd.__init__" [] (ini 46)) : ∃ fI fd, XF P w K mg base "NotAtEnd" [] C C0 fI fd := by
  obtain ⟨hm, T, fI, fd, ho, F, ty⟩ := A
  have xc := T.xc1 T0 (by decide) (by decide)
  refine ⟨fI, fd, ⟨xc, hm, init_in T ho, ty⟩, ok_i43 xc Z F, ?_, ?_, ?_, ?_⟩
  · obtain ⟨oc, od, kV, doc, pm, an, cdv, ct, osl, rfl, _, _⟩ := F.ex
    exact fun s self us hl => match us, hl with
      | [], _ => .of_eq rfl
  · obtain ⟨oc, od, kV, doc, pm, an, cdv, ct, osl, rfl, _, _⟩ := F.ex
    exact fun s self us hl => match us, (show us.length = 0 by simpa using hl) with
      | [], _ => .of_eq rfl
  · intro f hf
    cases hf
  · obtain ⟨cd, h1, _, _, h4⟩ := T.cd
    rw [h1, ← h4]
    rfl
theorem xf44 (Z : CI K mg C0) (T0 : CL K C0 [] "ChainError" ("__init__" :: (hid ++ allF))) (A : ClsAll K mg C0 C "NothingToRedo" "NothingToRedo.__init__" [] (ini 49)) : ∃ fI fd, XF P w K mg base "NothingToRedo" [] C C0 fI fd := by
  obtain ⟨hm, T, fI, fd, ho, F, ty⟩ := A
  have xc := T.xc1 T0 (by decide) (by decide)
  refine ⟨fI, fd, ⟨xc, hm, init_in T ho, ty⟩, ok_i44 xc Z F, ?_, ?_, ?_, ?_⟩
  · obtain ⟨oc, od, kV, doc, pm, an, cdv, ct, osl, rfl, _, _⟩ := F.ex
    exact fun s self us hl => match us, hl with
      | [], _ => .of_eq rfl
  · obtain ⟨oc, od, kV, doc, pm, an, cdv, ct, osl, rfl, _, _⟩ := F.ex
    exact fun s self us hl => match us, (show us.length = 0 by simpa using hl) with
      | [], _ => .of_eq rfl
  · intro f hf
    cases hf
  · obtain ⟨cd, h1, _, _, h4⟩ := T.cd
    rw [h1, ← h4]
    rfl
theorem xf45 (Z : CI K mg C0) (T0 : CL K C0 [] "ChainError" ("__init__" :: (hid ++ allF))) (A : ClsAll K mg C0 C "NothingToUndo" "NothingToUndo.__init__" [] (ini 50)) : ∃ fI fd, XF P w K mg base "NothingToUndo" [] C C0 fI fd := by
  obtain ⟨hm, T, fI, fd, ho, F, ty⟩ := A
  have xc := T.xc1 T0 (by decide) (by decide)
  refine ⟨fI, fd, ⟨xc, hm, init_in T ho, ty⟩, ok_i45 xc Z F, ?_, ?_, ?_, ?_⟩
  · obtain ⟨oc, od, kV, doc, pm, an, cdv, ct, osl, rfl, _, _⟩ := F.ex
    exact fun s self us hl => match us, hl with
      | [], _ => .of_eq rfl
  · obtain ⟨oc, od, kV, doc, pm, an, cdv, ct, osl, rfl, _, _⟩ := F.ex
    exact fun s self us hl => match us, (show us.length = 0 by simpa using hl) with
      | [], _ => .of_eq rfl
  · intro f hf
    cases hf
  · obtain ⟨cd, h1, _, _, h4⟩ := T.cd
    rw [h1, ← h4]
    rfl
theorem xf46 (Z : CI K mg C0) (T0 : CL K C0 [] "ChainError" ("__init__" :: (hid ++ allF))) (A : ClsAll K mg C0 C "NotOneHole" "NotOneHole.__init__" ["count"] (ini 47)) : ∃ fI fd, XF P w K mg base "NotOneHole" ["count"] C C0 fI fd := by
  obtain ⟨hm, T, fI, fd, ho, F, ty⟩ := A
  have xc := T.xc1 T0 (by decide) (by decide)
  have no0 : PySem.W.findIn K (.ref C) "count" = some none := (T.findNo1 T0 (by decide) (by decide)).trans (tail_f (by decide))
  refine ⟨fI, fd, ⟨xc, hm, init_in T ho, ty⟩, ok_i46 xc Z no0 F, ?_, ?_, ?_, ?_⟩
  · obtain ⟨oc, od, kV, doc, pm, an, cdv, ct, osl, rfl, _, _⟩ := F.ex
    exact fun s self us hl => match us, hl with
      | [u], _ => .of_eq rfl
  · obtain ⟨oc, od, kV, doc, pm, an, cdv, ct, osl, rfl, _, _⟩ := F.ex
    exact fun s self us hl => match us, (show us.length = 1 by simpa using hl) with
      | [u], _ => .of_eq rfl
  · intro f hf
    rw [List.mem_singleton.mp hf]
    exact no0
  · obtain ⟨cd, h1, _, _, h4⟩ := T.cd
    rw [h1, ← h4]
    rfl
theorem xf47 (Z : CI K mg C0) (T0 : CL K C0 [] "ChainError" ("__init__" :: (hid ++ allF))) (A : ClsAll K mg C0 C "NotRead" "NotRead.__init__" ["count"] (ini 48)) : ∃ fI fd, XF P w K mg base "NotRead" ["count"] C C0 fI fd := by
  obtain ⟨hm, T, fI, fd, ho, F, ty⟩ := A
  have xc := T.xc1 T0 (by decide) (by decide)
  have no0 : PySem.W.findIn K (.ref C) "count" = some none := (T.findNo1 T0 (by decide) (by decide)).trans (tail_f (by decide))
  refine ⟨fI, fd, ⟨xc, hm, init_in T ho, ty⟩, ok_i47 xc Z no0 F, ?_, ?_, ?_, ?_⟩
  · obtain ⟨oc, od, kV, doc, pm, an, cdv, ct, osl, rfl, _, _⟩ := F.ex
    exact fun s self us hl => match us, hl with
      | [u], _ => .of_eq rfl
  · obtain ⟨oc, od, kV, doc, pm, an, cdv, ct, osl, rfl, _, _⟩ := F.ex
    exact fun s self us hl => match us, (show us.length = 1 by simpa using hl) with
      | [u], _ => .of_eq rfl
  · intro f hf
    rw [List.mem_singleton.mp hf]
    exact no0
  · obtain ⟨cd, h1, _, _, h4⟩ := T.cd
    rw [h1, ← h4]
    rfl
theorem xf48 (Z : CI K mg C0) (T0 : CL K C0 [] "ChainError" ("__init__" :: (hid ++ allF))) (A : ClsAll K mg C0 C "OtherSigns" "OtherSigns.__init__" ["one", "other"] (ini 51)) : ∃ fI fd, XF P w K mg base "OtherSigns" ["one", "other"] C C0 fI fd := by
  obtain ⟨hm, T, fI, fd, ho, F, ty⟩ := A
  have xc := T.xc1 T0 (by decide) (by decide)
  have no0 : PySem.W.findIn K (.ref C) "one" = some none := (T.findNo1 T0 (by decide) (by decide)).trans (tail_f (by decide))
  have no1 : PySem.W.findIn K (.ref C) "other" = some none := (T.findNo1 T0 (by decide) (by decide)).trans (tail_f (by decide))
  refine ⟨fI, fd, ⟨xc, hm, init_in T ho, ty⟩, ok_i48 xc Z no0 no1 F, ?_, ?_, ?_, ?_⟩
  · obtain ⟨oc, od, kV, doc, pm, an, cdv, ct, osl, rfl, _, _⟩ := F.ex
    exact fun s self us hl => match us, hl with
      | [u, v], _ => .of_eq rfl
  · obtain ⟨oc, od, kV, doc, pm, an, cdv, ct, osl, rfl, _, _⟩ := F.ex
    exact fun s self us hl => match us, (show us.length = 2 by simpa using hl) with
      | [u, v], _ => .of_eq rfl
  · intro f hf
    rcases List.mem_cons.mp hf with rfl | hf
    · exact no0
    · rw [List.mem_singleton.mp hf]
      exact no1
  · obtain ⟨cd, h1, _, _, h4⟩ := T.cd
    rw [h1, ← h4]
    rfl
theorem xf49 (Z : CI K mg C0) (T0 : CL K C0 [] "ChainError" ("__init__" :: (hid ++ allF))) (A : ClsAll K mg C0 C "Refused" "Refused.__init__" ["line"] (ini 52)) : ∃ fI fd, XF P w K mg base "Refused" ["line"] C C0 fI fd := by
  obtain ⟨hm, T, fI, fd, ho, F, ty⟩ := A
  have xc := T.xc1 T0 (by decide) (by decide)
  have no0 : PySem.W.findIn K (.ref C) "line" = some none := (T.findNo1 T0 (by decide) (by decide)).trans (tail_f (by decide))
  refine ⟨fI, fd, ⟨xc, hm, init_in T ho, ty⟩, ok_i49 xc Z no0 F, ?_, ?_, ?_, ?_⟩
  · obtain ⟨oc, od, kV, doc, pm, an, cdv, ct, osl, rfl, _, _⟩ := F.ex
    exact fun s self us hl => match us, hl with
      | [u], _ => .of_eq rfl
  · obtain ⟨oc, od, kV, doc, pm, an, cdv, ct, osl, rfl, _, _⟩ := F.ex
    exact fun s self us hl => match us, (show us.length = 1 by simpa using hl) with
      | [u], _ => .of_eq rfl
  · intro f hf
    rw [List.mem_singleton.mp hf]
    exact no0
  · obtain ⟨cd, h1, _, _, h4⟩ := T.cd
    rw [h1, ← h4]
    rfl
theorem xf50 (Z : CI K mg C0) (T0 : CL K C0 [] "ChainError" ("__init__" :: (hid ++ allF))) (A : ClsAll K mg C0 C "TakenName" "TakenName.__init__" ["name"] (ini 53)) : ∃ fI fd, XF P w K mg base "TakenName" ["name"] C C0 fI fd := by
  obtain ⟨hm, T, fI, fd, ho, F, ty⟩ := A
  have xc := T.xc1 T0 (by decide) (by decide)
  have no0 : PySem.W.findIn K (.ref C) "name" = some none := (T.findNo1 T0 (by decide) (by decide)).trans (tail_f (by decide))
  refine ⟨fI, fd, ⟨xc, hm, init_in T ho, ty⟩, ok_i50 xc Z no0 F, ?_, ?_, ?_, ?_⟩
  · obtain ⟨oc, od, kV, doc, pm, an, cdv, ct, osl, rfl, _, _⟩ := F.ex
    exact fun s self us hl => match us, hl with
      | [u], _ => .of_eq rfl
  · obtain ⟨oc, od, kV, doc, pm, an, cdv, ct, osl, rfl, _, _⟩ := F.ex
    exact fun s self us hl => match us, (show us.length = 1 by simpa using hl) with
      | [u], _ => .of_eq rfl
  · intro f hf
    rw [List.mem_singleton.mp hf]
    exact no0
  · obtain ⟨cd, h1, _, _, h4⟩ := T.cd
    rw [h1, ← h4]
    rfl
theorem xf51 (Z : CI K mg C0) (T0 : CL K C0 [] "ChainError" ("__init__" :: (hid ++ allF))) (A : ClsAll K mg C0 C "TooLong" "TooLong.__init__" ["count"] (ini 54)) : ∃ fI fd, XF P w K mg base "TooLong" ["count"] C C0 fI fd := by
  obtain ⟨hm, T, fI, fd, ho, F, ty⟩ := A
  have xc := T.xc1 T0 (by decide) (by decide)
  have no0 : PySem.W.findIn K (.ref C) "count" = some none := (T.findNo1 T0 (by decide) (by decide)).trans (tail_f (by decide))
  refine ⟨fI, fd, ⟨xc, hm, init_in T ho, ty⟩, ok_i51 xc Z no0 F, ?_, ?_, ?_, ?_⟩
  · obtain ⟨oc, od, kV, doc, pm, an, cdv, ct, osl, rfl, _, _⟩ := F.ex
    exact fun s self us hl => match us, hl with
      | [u], _ => .of_eq rfl
  · obtain ⟨oc, od, kV, doc, pm, an, cdv, ct, osl, rfl, _, _⟩ := F.ex
    exact fun s self us hl => match us, (show us.length = 1 by simpa using hl) with
      | [u], _ => .of_eq rfl
  · intro f hf
    rw [List.mem_singleton.mp hf]
    exact no0
  · obtain ⟨cd, h1, _, _, h4⟩ := T.cd
    rw [h1, ← h4]
    rfl
theorem xf52 (Z : CI K mg C0) (T0 : CL K C0 [] "ChainError" ("__init__" :: (hid ++ allF))) (A : ClsAll K mg C0 C "TooMany" "TooMany.__init__" ["count"] (ini 55)) : ∃ fI fd, XF P w K mg base "TooMany" ["count"] C C0 fI fd := by
  obtain ⟨hm, T, fI, fd, ho, F, ty⟩ := A
  have xc := T.xc1 T0 (by decide) (by decide)
  have no0 : PySem.W.findIn K (.ref C) "count" = some none := (T.findNo1 T0 (by decide) (by decide)).trans (tail_f (by decide))
  refine ⟨fI, fd, ⟨xc, hm, init_in T ho, ty⟩, ok_i52 xc Z no0 F, ?_, ?_, ?_, ?_⟩
  · obtain ⟨oc, od, kV, doc, pm, an, cdv, ct, osl, rfl, _, _⟩ := F.ex
    exact fun s self us hl => match us, hl with
      | [u], _ => .of_eq rfl
  · obtain ⟨oc, od, kV, doc, pm, an, cdv, ct, osl, rfl, _, _⟩ := F.ex
    exact fun s self us hl => match us, (show us.length = 1 by simpa using hl) with
      | [u], _ => .of_eq rfl
  · intro f hf
    rw [List.mem_singleton.mp hf]
    exact no0
  · obtain ⟨cd, h1, _, _, h4⟩ := T.cd
    rw [h1, ← h4]
    rfl
theorem xf53 (Z : CI K mg C0) (T0 : CL K C0 [] "ChainError" ("__init__" :: (hid ++ allF))) (A : ClsAll K mg C0 C "TwiceNamed" "TwiceNamed.__init__" ["name"] (ini 56)) : ∃ fI fd, XF P w K mg base "TwiceNamed" ["name"] C C0 fI fd := by
  obtain ⟨hm, T, fI, fd, ho, F, ty⟩ := A
  have xc := T.xc1 T0 (by decide) (by decide)
  have no0 : PySem.W.findIn K (.ref C) "name" = some none := (T.findNo1 T0 (by decide) (by decide)).trans (tail_f (by decide))
  refine ⟨fI, fd, ⟨xc, hm, init_in T ho, ty⟩, ok_i53 xc Z no0 F, ?_, ?_, ?_, ?_⟩
  · obtain ⟨oc, od, kV, doc, pm, an, cdv, ct, osl, rfl, _, _⟩ := F.ex
    exact fun s self us hl => match us, hl with
      | [u], _ => .of_eq rfl
  · obtain ⟨oc, od, kV, doc, pm, an, cdv, ct, osl, rfl, _, _⟩ := F.ex
    exact fun s self us hl => match us, (show us.length = 1 by simpa using hl) with
      | [u], _ => .of_eq rfl
  · intro f hf
    rw [List.mem_singleton.mp hf]
    exact no0
  · obtain ⟨cd, h1, _, _, h4⟩ := T.cd
    rw [h1, ← h4]
    rfl
theorem xf54 (Z : CI K mg C0) (T0 : CL K C0 [] "ChainError" ("__init__" :: (hid ++ allF))) (A : ClsAll K mg C0 C "Unfit" "Unfit.__init__" ["filling", "place"] (ini 57)) : ∃ fI fd, XF P w K mg base "Unfit" ["filling", "place"] C C0 fI fd := by
  obtain ⟨hm, T, fI, fd, ho, F, ty⟩ := A
  have xc := T.xc1 T0 (by decide) (by decide)
  have no0 : PySem.W.findIn K (.ref C) "filling" = some none := (T.findNo1 T0 (by decide) (by decide)).trans (tail_f (by decide))
  have no1 : PySem.W.findIn K (.ref C) "place" = some none := (T.findNo1 T0 (by decide) (by decide)).trans (tail_f (by decide))
  refine ⟨fI, fd, ⟨xc, hm, init_in T ho, ty⟩, ok_i54 xc Z no0 no1 F, ?_, ?_, ?_, ?_⟩
  · obtain ⟨oc, od, kV, doc, pm, an, cdv, ct, osl, rfl, _, _⟩ := F.ex
    exact fun s self us hl => match us, hl with
      | [u, v], _ => .of_eq rfl
  · obtain ⟨oc, od, kV, doc, pm, an, cdv, ct, osl, rfl, _, _⟩ := F.ex
    exact fun s self us hl => match us, (show us.length = 2 by simpa using hl) with
      | [u, v], _ => .of_eq rfl
  · intro f hf
    rcases List.mem_cons.mp hf with rfl | hf
    · exact no0
    · rw [List.mem_singleton.mp hf]
      exact no1
  · obtain ⟨cd, h1, _, _, h4⟩ := T.cd
    rw [h1, ← h4]
    rfl
theorem xf55 (Z : CI K mg C0) (T0 : CL K C0 [] "ChainError" ("__init__" :: (hid ++ allF))) (A : ClsAll K mg C0 C "UnknownName" "UnknownName.__init__" ["name"] (ini 58)) : ∃ fI fd, XF P w K mg base "UnknownName" ["name"] C C0 fI fd := by
  obtain ⟨hm, T, fI, fd, ho, F, ty⟩ := A
  have xc := T.xc1 T0 (by decide) (by decide)
  have no0 : PySem.W.findIn K (.ref C) "name" = some none := (T.findNo1 T0 (by decide) (by decide)).trans (tail_f (by decide))
  refine ⟨fI, fd, ⟨xc, hm, init_in T ho, ty⟩, ok_i55 xc Z no0 F, ?_, ?_, ?_, ?_⟩
  · obtain ⟨oc, od, kV, doc, pm, an, cdv, ct, osl, rfl, _, _⟩ := F.ex
    exact fun s self us hl => match us, hl with
      | [u], _ => .of_eq rfl
  · obtain ⟨oc, od, kV, doc, pm, an, cdv, ct, osl, rfl, _, _⟩ := F.ex
    exact fun s self us hl => match us, (show us.length = 1 by simpa using hl) with
      | [u], _ => .of_eq rfl
  · intro f hf
    rw [List.mem_singleton.mp hf]
    exact no0
  · obtain ⟨cd, h1, _, _, h4⟩ := T.cd
    rw [h1, ← h4]
    rfl
theorem xf56 (Z : CI K mg C0) (T0 : CL K C0 [] "ChainError" ("__init__" :: (hid ++ allF))) (A : ClsAll K mg C0 C "Unreached" "Unreached.__init__" ["state"] (ini 59)) : ∃ fI fd, XF P w K mg base "Unreached" ["state"] C C0 fI fd := by
  obtain ⟨hm, T, fI, fd, ho, F, ty⟩ := A
  have xc := T.xc1 T0 (by decide) (by decide)
  have no0 : PySem.W.findIn K (.ref C) "state" = some none := (T.findNo1 T0 (by decide) (by decide)).trans (tail_f (by decide))
  refine ⟨fI, fd, ⟨xc, hm, init_in T ho, ty⟩, ok_i56 xc Z no0 F, ?_, ?_, ?_, ?_⟩
  · obtain ⟨oc, od, kV, doc, pm, an, cdv, ct, osl, rfl, _, _⟩ := F.ex
    exact fun s self us hl => match us, hl with
      | [u], _ => .of_eq rfl
  · obtain ⟨oc, od, kV, doc, pm, an, cdv, ct, osl, rfl, _, _⟩ := F.ex
    exact fun s self us hl => match us, (show us.length = 1 by simpa using hl) with
      | [u], _ => .of_eq rfl
  · intro f hf
    rw [List.mem_singleton.mp hf]
    exact no0
  · obtain ⟨cd, h1, _, _, h4⟩ := T.cd
    rw [h1, ← h4]
    rfl
end
end L2.K9

set_option Elab.async false
set_option linter.all false
set_option maxRecDepth 100000
set_option maxHeartbeats 8000000
/-! All of it together. -/
namespace L2.K9
open PySem PySem.Spec PyProof.Rows L2
section
variable {K : PySem.W.Frag} {es : List DictEntry} {C0 : Addr}
structure Seen (K : PySem.W.Frag) (es : List DictEntry) (C0 : Addr) : Prop where
  he : dictE (gK K) mainGlobals = some es
  c0 : refAt es "ChainError" = some C0
  fr : noKeys frees es = true
  b0 : CL K C0 [] "ChainError" ("__init__" :: (hid ++ allF))
  ct : ∀ p ∈ CT, ∃ C, refAt es p.1 = some C ∧ clsV (gK K) C0 C (p.2.1 ++ hid) = some (.type "type", p.1, true, false, true, veT, some (.builtin "ValueError.__new__"), true, fnVal "__init__" (p.1 ++ ".__init__") (ini p.2.2))
  lt : ∀ p ∈ LT, ∃ f, refAt es p.1 = some f ∧ fnV (gK K) f = fnVal p.1 p.1 (top p.2)
  st : PySem.W.nsIn K PySem.cStatics "thirdparty.any" = some none
theorem seen_of (h : obsG (gK K) = valG) : ∃ es C0, Seen K es C0 := by
  unfold obsG valG at h
  split at h
  · rename_i es e1
    split at h
    · rename_i C0 e2
      rw [Option.some.injEq, Prod.mk.injEq, Prod.mk.injEq, Prod.mk.injEq, Prod.mk.injEq] at h
      obtain ⟨h1, h2, h3, h4, h5⟩ := h
      refine ⟨es, C0, e1, e2, h1, baseV_ok h2, fun p hp => ?_, fun p hp => ?_, ?_⟩
      · have z := List.map_inj_left.mp h3 p hp
        cases e : refAt es p.1 with
        | none =>
          rw [e] at z
          cases z
        | some C =>
          rw [e] at z
          exact ⟨C, rfl, z⟩
      · have z := List.map_inj_left.mp h4 p hp
        cases e : refAt es p.1 with
        | none =>
          rw [e] at z
          cases z
        | some C =>
          rw [e] at z
          exact ⟨C, rfl, z⟩
      · split at h5
        · rename_i ss e5
          exact nsIn_no e5 h5 (by decide)
        · cases h5
    · cases h
  · cases h
def Cf (es : List DictEntry) (k : Nat) : Addr := ((CT[k]?).bind fun p => refAt es p.1).getD 0
end
section
variable {P : Program} {w : World} {K : PySem.W.Frag} {mg : Str → Option Value} {h base : Heap} {es : List DictEntry} {C0 : Addr}
theorem cl_at (X : K.In h) (G : h.Ns mainGlobals mg) (S : Seen K es C0) {k i : Nat} {x q : Str} {fl : List Str} (hk : CT[k]? = some (x, fl, i)) (hq : x ++ ".__init__" = q) : ClsAll K mg C0 (Cf es k) x q fl (ini i) := by
  obtain ⟨C, hr, hv⟩ := S.ct _ (List.mem_of_getElem? hk)
  have e : Cf es k = C := by
    unfold Cf
    rw [hk]
    show (refAt es x).getD 0 = C
    have hr' : refAt es x = some C := hr
    rw [hr']
    rfl
  rw [e, ← hq]
  obtain ⟨T, fI, fd, a, b, c⟩ := clsV_ok hv
  exact ⟨PySem.W.mg_of X G (nsIn_ref S.he hr), T, fI, fd, a, b, c⟩
theorem gl_of (X : K.In h) (G : h.Ns mainGlobals mg) (S : Seen K es C0) : GL mg := by
  have a : ∀ x ∈ frees, mg x = none := fun x hx => PySem.W.mg_none_of X G (nsIn_no S.he S.fr hx)
  exact ⟨a _ (by decide), a _ (by decide), a _ (by decide), a _ (by decide), a _ (by decide), a _ (by decide), a _ (by decide), a _ (by decide), a _ (by decide), a _ (by decide), a _ (by decide), a _ (by decide), a _ (by decide), a _ (by decide), a _ (by decide)⟩
theorem fam_of (X : K.In h) (G : h.Ns mainGlobals mg) (S : Seen K es C0) : Fam P w K mg base (Cf es) C0 := by
  have m0 : mg "ChainError" = some (.ref C0) := PySem.W.mg_of X G (nsIn_ref S.he S.c0)
  have T0 := S.b0
  have Z : CI K mg C0 := T0.ci m0 (by decide) S.st
  refine ⟨Z, T0.xc0 (by decide), ?_, fun k x fl hk => ?_⟩
  · obtain ⟨cd, h1, _, _, h4⟩ := T0.cd
    rw [h1]
    show some cd.name = some ("ChainError" : Str)
    rw [h4]
  · have hl : k < 57 := by
      have z := (List.getElem?_eq_some_iff.mp hk).1
      exact z
    match k, hl, hk with
    | 0, _, hk =>
      obtain ⟨rfl, rfl⟩ := CN_eq (y := "InvalidAdded") (gl := [("given" : Str)]) hk rfl
      exact xf0 Z T0 (cl_at X G S (k := 0) rfl (by decide +kernel))
    | 1, _, hk =>
      obtain ⟨rfl, rfl⟩ := CN_eq (y := "InvalidBox") (gl := [("given" : Str)]) hk rfl
      exact xf1 Z T0 (cl_at X G S (k := 1) rfl (by decide +kernel))
    | 2, _, hk =>
      obtain ⟨rfl, rfl⟩ := CN_eq (y := "InvalidChain") (gl := [("given" : Str)]) hk rfl
      exact xf2 Z T0 (cl_at X G S (k := 2) rfl (by decide +kernel))
    | 3, _, hk =>
      obtain ⟨rfl, rfl⟩ := CN_eq (y := "InvalidCode") (gl := [("given" : Str)]) hk rfl
      exact xf3 Z T0 (cl_at X G S (k := 3) rfl (by decide +kernel))
    | 4, _, hk =>
      obtain ⟨rfl, rfl⟩ := CN_eq (y := "InvalidCodes") (gl := [("given" : Str)]) hk rfl
      exact xf4 Z T0 (cl_at X G S (k := 4) rfl (by decide +kernel))
    | 5, _, hk =>
      obtain ⟨rfl, rfl⟩ := CN_eq (y := "InvalidConfiguration") (gl := [("given" : Str)]) hk rfl
      exact xf5 Z T0 (cl_at X G S (k := 5) rfl (by decide +kernel))
    | 6, _, hk =>
      obtain ⟨rfl, rfl⟩ := CN_eq (y := "InvalidConfigurations") (gl := [("given" : Str)]) hk rfl
      exact xf6 Z T0 (cl_at X G S (k := 6) rfl (by decide +kernel))
    | 7, _, hk =>
      obtain ⟨rfl, rfl⟩ := CN_eq (y := "InvalidCuts") (gl := [("given" : Str)]) hk rfl
      exact xf7 Z T0 (cl_at X G S (k := 7) rfl (by decide +kernel))
    | 8, _, hk =>
      obtain ⟨rfl, rfl⟩ := CN_eq (y := "InvalidEnds") (gl := [("given" : Str)]) hk rfl
      exact xf8 Z T0 (cl_at X G S (k := 8) rfl (by decide +kernel))
    | 9, _, hk =>
      obtain ⟨rfl, rfl⟩ := CN_eq (y := "InvalidEscaper") (gl := [("given" : Str)]) hk rfl
      exact xf9 Z T0 (cl_at X G S (k := 9) rfl (by decide +kernel))
    | 10, _, hk =>
      obtain ⟨rfl, rfl⟩ := CN_eq (y := "InvalidEvent") (gl := [("given" : Str)]) hk rfl
      exact xf10 Z T0 (cl_at X G S (k := 10) rfl (by decide +kernel))
    | 11, _, hk =>
      obtain ⟨rfl, rfl⟩ := CN_eq (y := "InvalidEvents") (gl := [("given" : Str)]) hk rfl
      exact xf11 Z T0 (cl_at X G S (k := 11) rfl (by decide +kernel))
    | 12, _, hk =>
      obtain ⟨rfl, rfl⟩ := CN_eq (y := "InvalidFilling") (gl := [("given" : Str)]) hk rfl
      exact xf12 Z T0 (cl_at X G S (k := 12) rfl (by decide +kernel))
    | 13, _, hk =>
      obtain ⟨rfl, rfl⟩ := CN_eq (y := "InvalidIndex") (gl := [("given" : Str)]) hk rfl
      exact xf13 Z T0 (cl_at X G S (k := 13) rfl (by decide +kernel))
    | 14, _, hk =>
      obtain ⟨rfl, rfl⟩ := CN_eq (y := "InvalidInstructions") (gl := [("given" : Str)]) hk rfl
      exact xf14 Z T0 (cl_at X G S (k := 14) rfl (by decide +kernel))
    | 15, _, hk =>
      obtain ⟨rfl, rfl⟩ := CN_eq (y := "InvalidItems") (gl := [("given" : Str)]) hk rfl
      exact xf15 Z T0 (cl_at X G S (k := 15) rfl (by decide +kernel))
    | 16, _, hk =>
      obtain ⟨rfl, rfl⟩ := CN_eq (y := "InvalidKinds") (gl := [("given" : Str)]) hk rfl
      exact xf16 Z T0 (cl_at X G S (k := 16) rfl (by decide +kernel))
    | 17, _, hk =>
      obtain ⟨rfl, rfl⟩ := CN_eq (y := "InvalidLine") (gl := [("given" : Str)]) hk rfl
      exact xf17 Z T0 (cl_at X G S (k := 17) rfl (by decide +kernel))
    | 18, _, hk =>
      obtain ⟨rfl, rfl⟩ := CN_eq (y := "InvalidLines") (gl := [("given" : Str)]) hk rfl
      exact xf18 Z T0 (cl_at X G S (k := 18) rfl (by decide +kernel))
    | 19, _, hk =>
      obtain ⟨rfl, rfl⟩ := CN_eq (y := "InvalidMoves") (gl := [("given" : Str)]) hk rfl
      exact xf19 Z T0 (cl_at X G S (k := 19) rfl (by decide +kernel))
    | 20, _, hk =>
      obtain ⟨rfl, rfl⟩ := CN_eq (y := "InvalidNumber") (gl := [("given" : Str)]) hk rfl
      exact xf20 Z T0 (cl_at X G S (k := 20) rfl (by decide +kernel))
    | 21, _, hk =>
      obtain ⟨rfl, rfl⟩ := CN_eq (y := "InvalidOther") (gl := [("given" : Str)]) hk rfl
      exact xf21 Z T0 (cl_at X G S (k := 21) rfl (by decide +kernel))
    | 22, _, hk =>
      obtain ⟨rfl, rfl⟩ := CN_eq (y := "InvalidPieces") (gl := [("given" : Str)]) hk rfl
      exact xf22 Z T0 (cl_at X G S (k := 22) rfl (by decide +kernel))
    | 23, _, hk =>
      obtain ⟨rfl, rfl⟩ := CN_eq (y := "InvalidPlace") (gl := [("given" : Str)]) hk rfl
      exact xf23 Z T0 (cl_at X G S (k := 23) rfl (by decide +kernel))
    | 24, _, hk =>
      obtain ⟨rfl, rfl⟩ := CN_eq (y := "InvalidReader") (gl := [("given" : Str)]) hk rfl
      exact xf24 Z T0 (cl_at X G S (k := 24) rfl (by decide +kernel))
    | 25, _, hk =>
      obtain ⟨rfl, rfl⟩ := CN_eq (y := "InvalidReaders") (gl := [("given" : Str)]) hk rfl
      exact xf25 Z T0 (cl_at X G S (k := 25) rfl (by decide +kernel))
    | 26, _, hk =>
      obtain ⟨rfl, rfl⟩ := CN_eq (y := "InvalidRoads") (gl := [("given" : Str)]) hk rfl
      exact xf26 Z T0 (cl_at X G S (k := 26) rfl (by decide +kernel))
    | 27, _, hk =>
      obtain ⟨rfl, rfl⟩ := CN_eq (y := "InvalidRoute") (gl := [("given" : Str)]) hk rfl
      exact xf27 Z T0 (cl_at X G S (k := 27) rfl (by decide +kernel))
    | 28, _, hk =>
      obtain ⟨rfl, rfl⟩ := CN_eq (y := "InvalidRows") (gl := [("given" : Str)]) hk rfl
      exact xf28 Z T0 (cl_at X G S (k := 28) rfl (by decide +kernel))
    | 29, _, hk =>
      obtain ⟨rfl, rfl⟩ := CN_eq (y := "InvalidSign") (gl := [("given" : Str)]) hk rfl
      exact xf29 Z T0 (cl_at X G S (k := 29) rfl (by decide +kernel))
    | 30, _, hk =>
      obtain ⟨rfl, rfl⟩ := CN_eq (y := "InvalidState") (gl := [("given" : Str)]) hk rfl
      exact xf30 Z T0 (cl_at X G S (k := 30) rfl (by decide +kernel))
    | 31, _, hk =>
      obtain ⟨rfl, rfl⟩ := CN_eq (y := "InvalidString") (gl := [("given" : Str)]) hk rfl
      exact xf31 Z T0 (cl_at X G S (k := 31) rfl (by decide +kernel))
    | 32, _, hk =>
      obtain ⟨rfl, rfl⟩ := CN_eq (y := "InvalidText") (gl := [("given" : Str)]) hk rfl
      exact xf32 Z T0 (cl_at X G S (k := 32) rfl (by decide +kernel))
    | 33, _, hk =>
      obtain ⟨rfl, rfl⟩ := CN_eq (y := "InvalidTriple") (gl := [("given" : Str)]) hk rfl
      exact xf33 Z T0 (cl_at X G S (k := 33) rfl (by decide +kernel))
    | 34, _, hk =>
      obtain ⟨rfl, rfl⟩ := CN_eq (y := "InvalidTriples") (gl := [("given" : Str)]) hk rfl
      exact xf34 Z T0 (cl_at X G S (k := 34) rfl (by decide +kernel))
    | 35, _, hk =>
      obtain ⟨rfl, rfl⟩ := CN_eq (y := "InvalidTruths") (gl := [("given" : Str)]) hk rfl
      exact xf35 Z T0 (cl_at X G S (k := 35) rfl (by decide +kernel))
    | 36, _, hk =>
      obtain ⟨rfl, rfl⟩ := CN_eq (y := "InvalidWithin") (gl := [("given" : Str)]) hk rfl
      exact xf36 Z T0 (cl_at X G S (k := 36) rfl (by decide +kernel))
    | 37, _, hk =>
      obtain ⟨rfl, rfl⟩ := CN_eq (y := "InvalidWord") (gl := [("given" : Str)]) hk rfl
      exact xf37 Z T0 (cl_at X G S (k := 37) rfl (by decide +kernel))
    | 38, _, hk =>
      obtain ⟨rfl, rfl⟩ := CN_eq (y := "InvalidClaim") (gl := [("index" : Str)]) hk rfl
      exact xf38 Z T0 (cl_at X G S (k := 38) rfl (by decide +kernel))
    | 39, _, hk =>
      obtain ⟨rfl, rfl⟩ := CN_eq (y := "InvalidRecord") (gl := [("index" : Str)]) hk rfl
      exact xf39 Z T0 (cl_at X G S (k := 39) rfl (by decide +kernel))
    | 40, _, hk =>
      obtain ⟨rfl, rfl⟩ := CN_eq (y := "BreaksOut") (gl := [("filling" : Str)]) hk rfl
      exact xf40 Z T0 (cl_at X G S (k := 40) rfl (by decide +kernel))
    | 41, _, hk =>
      obtain ⟨rfl, rfl⟩ := CN_eq (y := "Mixed") (gl := [("state" : Str), ("sign" : Str)]) hk rfl
      exact xf41 Z T0 (cl_at X G S (k := 41) rfl (by decide +kernel))
    | 42, _, hk =>
      obtain ⟨rfl, rfl⟩ := CN_eq (y := "NoChains") (gl := []) hk rfl
      exact xf42 Z T0 (cl_at X G S (k := 42) rfl (by decide +kernel))
    | 43, _, hk =>
      obtain ⟨rfl, rfl⟩ := CN_eq (y := "NotAtEnd") (gl := []) hk rfl
      exact xf43 Z T0 (cl_at X G S (k := 43) rfl (by decide +kernel))
    | 44, _, hk =>
      obtain ⟨rfl, rfl⟩ := CN_eq (y := "NothingToRedo") (gl := []) hk rfl
      exact xf44 Z T0 (cl_at X G S (k := 44) rfl (by decide +kernel))
    | 45, _, hk =>
      obtain ⟨rfl, rfl⟩ := CN_eq (y := "NothingToUndo") (gl := []) hk rfl
      exact xf45 Z T0 (cl_at X G S (k := 45) rfl (by decide +kernel))
    | 46, _, hk =>
      obtain ⟨rfl, rfl⟩ := CN_eq (y := "NotOneHole") (gl := [("count" : Str)]) hk rfl
      exact xf46 Z T0 (cl_at X G S (k := 46) rfl (by decide +kernel))
    | 47, _, hk =>
      obtain ⟨rfl, rfl⟩ := CN_eq (y := "NotRead") (gl := [("count" : Str)]) hk rfl
      exact xf47 Z T0 (cl_at X G S (k := 47) rfl (by decide +kernel))
    | 48, _, hk =>
      obtain ⟨rfl, rfl⟩ := CN_eq (y := "OtherSigns") (gl := [("one" : Str), ("other" : Str)]) hk rfl
      exact xf48 Z T0 (cl_at X G S (k := 48) rfl (by decide +kernel))
    | 49, _, hk =>
      obtain ⟨rfl, rfl⟩ := CN_eq (y := "Refused") (gl := [("line" : Str)]) hk rfl
      exact xf49 Z T0 (cl_at X G S (k := 49) rfl (by decide +kernel))
    | 50, _, hk =>
      obtain ⟨rfl, rfl⟩ := CN_eq (y := "TakenName") (gl := [("name" : Str)]) hk rfl
      exact xf50 Z T0 (cl_at X G S (k := 50) rfl (by decide +kernel))
    | 51, _, hk =>
      obtain ⟨rfl, rfl⟩ := CN_eq (y := "TooLong") (gl := [("count" : Str)]) hk rfl
      exact xf51 Z T0 (cl_at X G S (k := 51) rfl (by decide +kernel))
    | 52, _, hk =>
      obtain ⟨rfl, rfl⟩ := CN_eq (y := "TooMany") (gl := [("count" : Str)]) hk rfl
      exact xf52 Z T0 (cl_at X G S (k := 52) rfl (by decide +kernel))
    | 53, _, hk =>
      obtain ⟨rfl, rfl⟩ := CN_eq (y := "TwiceNamed") (gl := [("name" : Str)]) hk rfl
      exact xf53 Z T0 (cl_at X G S (k := 53) rfl (by decide +kernel))
    | 54, _, hk =>
      obtain ⟨rfl, rfl⟩ := CN_eq (y := "Unfit") (gl := [("filling" : Str), ("place" : Str)]) hk rfl
      exact xf54 Z T0 (cl_at X G S (k := 54) rfl (by decide +kernel))
    | 55, _, hk =>
      obtain ⟨rfl, rfl⟩ := CN_eq (y := "UnknownName") (gl := [("name" : Str)]) hk rfl
      exact xf55 Z T0 (cl_at X G S (k := 55) rfl (by decide +kernel))
    | 56, _, hk =>
      obtain ⟨rfl, rfl⟩ := CN_eq (y := "Unreached") (gl := [("state" : Str)]) hk rfl
      exact xf56 Z T0 (cl_at X G S (k := 56) rfl (by decide +kernel))
theorem lt_at (X : K.In h) (G : h.Ns mainGlobals mg) (S : Seen K es C0) {k i : Nat} {x : Str} (hk : LT[k]? = some (x, i)) : ∃ f fd, mg x = some (.ref f) ∧ Fun K x x (top i) f fd := by
  obtain ⟨f, hr, hv⟩ := S.lt _ (List.mem_of_getElem? hk)
  obtain ⟨⟨fd, F⟩, _⟩ := fun_of hv
  exact ⟨f, fd, PySem.W.mg_of X G (nsIn_ref S.he hr), F⟩
theorem law_fn (X : K.In h) (G : h.Ns mainGlobals mg) (S : Seen K es C0) {fa : Addr} (hmg : mg "law" = some (.ref fa)) :
    ∃ fd, (∀ (s : Shared) (u : Value), BindsTo s fd ⟨[u], []⟩ [("script", u)]) ∧ ∀ base : Heap, K.In base → base.Ns mainGlobals mg → FnOk P w K mg base CX0 9 fa fd ["script"] (spLaw K) := by
  have GG : GL mg := gl_of X G S
  obtain ⟨f0, d0, m0, F0⟩ := lt_at X G S (k := 0) rfl
  have b0 : Binds K d0 ["script", "k"] [] := F0.binds fun _ _ _ _ _ _ us hl => match us, hl with | [_, _], _ => rfl
  obtain ⟨f1, d1, m1, F1⟩ := lt_at X G S (k := 1) rfl
  have b1 : Binds K d1 ["great"] [] := F1.binds fun _ _ _ _ _ _ us hl => match us, hl with | [_], _ => rfl
  obtain ⟨f2, d2, m2, F2⟩ := lt_at X G S (k := 2) rfl
  have b2 : Binds K d2 ["box", "many"] [] := F2.binds fun _ _ _ _ _ _ us hl => match us, hl with | [_, _], _ => rfl
  obtain ⟨f3, d3, m3, F3⟩ := lt_at X G S (k := 3) rfl
  have b3 : Binds K d3 ["told", "due"] [] := F3.binds fun _ _ _ _ _ _ us hl => match us, hl with | [_, _], _ => rfl
  obtain ⟨f4, d4, m4, F4⟩ := lt_at X G S (k := 4) rfl
  have b4 : Binds K d4 ["value"] [] := F4.binds fun _ _ _ _ _ _ us hl => match us, hl with | [_], _ => rfl
  obtain ⟨f5, d5, m5, F5⟩ := lt_at X G S (k := 5) rfl
  have b5 : Binds K d5 ["field", "value"] [] := F5.binds fun _ _ _ _ _ _ us hl => match us, hl with | [_, _], _ => rfl
  obtain ⟨f6, d6, m6, F6⟩ := lt_at X G S (k := 6) rfl
  have b6 : Binds K d6 ["box"] [] := F6.binds fun _ _ _ _ _ _ us hl => match us, hl with | [_], _ => rfl
  obtain ⟨f7, d7, m7, F7⟩ := lt_at X G S (k := 7) rfl
  have b7 : Binds K d7 ["k", "one", "other", "by_name"] [] := F7.binds fun _ _ _ _ _ _ us hl => match us, hl with | [_, _, _, _], _ => rfl
  obtain ⟨f8, d8, m8, F8⟩ := lt_at X G S (k := 8) rfl
  have b8 : Binds K d8 ["k", "one", "other", "by_name"] [] := F8.binds fun _ _ _ _ _ _ us hl => match us, hl with | [_, _, _, _], _ => rfl
  obtain ⟨f9, d9, m9, F9⟩ := lt_at X G S (k := 9) rfl
  have b9 : Binds K d9 ["k", "one", "other", "by_name"] [] := F9.binds fun _ _ _ _ _ _ us hl => match us, hl with | [_, _, _, _], _ => rfl
  obtain ⟨f10, d10, m10, F10⟩ := lt_at X G S (k := 10) rfl
  have b10 : Binds K d10 ["error"] [] := F10.binds fun _ _ _ _ _ _ us hl => match us, hl with | [_], _ => rfl
  obtain ⟨f11, d11, m11, F11⟩ := lt_at X G S (k := 11) rfl
  have b11 : Binds K d11 ["k", "error"] [] := F11.binds fun _ _ _ _ _ _ us hl => match us, hl with | [_, _], _ => rfl
  obtain ⟨f12, d12, m12, F12⟩ := lt_at X G S (k := 12) rfl
  have b12 : Binds K d12 ["k", "one", "other"] [] := F12.binds fun _ _ _ _ _ _ us hl => match us, hl with | [_, _, _], _ => rfl
  obtain ⟨f13, d13, m13, F13⟩ := lt_at X G S (k := 13) rfl
  have b13 : Binds K d13 ["box"] [] := F13.binds fun _ _ _ _ _ _ us hl => match us, hl with | [_], _ => rfl
  obtain ⟨f14, d14, m14, F14⟩ := lt_at X G S (k := 14) rfl
  have b14 : Binds K d14 ["box", "k"] [] := F14.binds fun _ _ _ _ _ _ us hl => match us, hl with | [_, _], _ => rfl
  obtain ⟨f15, d15, m15, F15⟩ := lt_at X G S (k := 15) rfl
  have b15 : Binds K d15 ["script"] [] := F15.binds fun _ _ _ _ _ _ us hl => match us, hl with | [_], _ => rfl
  have e15 : f15 = fa := by
    rw [m15] at hmg
    cases hmg
    rfl
  subst e15
  refine ⟨d15, ?_, fun base _ _ => ?_⟩
  · obtain ⟨oc, od, kV, doc, pm, an, cdv, ct, osl, rfl, _, _⟩ := F15.ex
    exact fun s u => .of_eq rfl
  · have Z : Fam P w K mg base (Cf es) C0 := fam_of X G S
    have oT : FnOk P w K mg base CX0 1 f2 d2 ["box", "many"] spTake := ok_take F2 GG
    have oM2 : FnOk P w K mg base CX0 3 f9 d9 ["k", "one", "other", "by_name"] (spMade (Cf es) 52) := ok_made2 F9 Z
    have oM1 : FnOk P w K mg base CX0 4 f8 d8 ["k", "one", "other", "by_name"] (spMade (Cf es) 26) := ok_made1 F8 Z F9 m9 b9 oM2
    have Y : Helps P w K mg base (Cf es) := ⟨f2, f6, f10, f11, f5, f12, f7, f3, d2, d6, d10, d11, d5, d12, d7, d3, F2.kp, F6.kp, F10.kp, F11.kp, F5.kp, F12.kp, F7.kp, F3.kp, m2, m6, m10, m11, m5, m12, m7, m3, b2, b6, b10, b11, b5, b12, b7, b3,
      oT, ok_value F6 GG F4 m4 b4 F2 m2 b2, ok_is F10 GG Z, ok_fields F11 Z, ok_keeps (N := 4) F5 F3 GG m3 b3, ok_raised F12 Z, ok_made0 F7 Z F8 m8 b8 oM1, ok_same F3 GG m3 b3 6⟩
    exact ok_law F15 GG ⟨f2, f1, f0, f14, f13, d2, d1, d0, d14, d13, F2.kp, F1.kp, F0.kp, F14.kp, F13.kp, m2, m1, m0, m14, m13, b2, b1, b0, b14, b13, oT, ok_box F1 GG, ok_cell F0 GG, ok_class F14 GG Z Y, ok_caught F13 GG Z Y⟩
end
/-! ### the head -/
theorem frG_mem {g : Addr → Option Obj} {a : Addr} : ∀ {as : List Addr}, a ∈ as → (He.frG g as).lookup a = g a
  | b :: r, hm => by
    cases hg : g b with
    | none =>
      have e : He.frG g (b :: r) = He.frG g r := by
        unfold He.frG
        rw [List.filterMap_cons, hg]
        rfl
      rw [e]
      by_cases hab : a = b
      · cases q : (He.frG g r).lookup a with
        | none =>
          rw [hab, hg]
        | some o => exact (He.frG_at r q).symm
      · exact frG_mem (by
          rcases List.mem_cons.mp hm with z | z
          · exact absurd z hab
          · exact z)
    | some o =>
      have e : He.frG g (b :: r) = (b, o) :: He.frG g r := by
        unfold He.frG
        rw [List.filterMap_cons, hg]
        rfl
      rw [e, List.lookup_cons]
      by_cases hab : a = b
      · subst hab
        rw [beq_self_eq_true, hg]
      · rw [show (a == b) = false from beq_eq_false_iff_ne.mpr hab]
        exact frG_mem (by
          rcases List.mem_cons.mp hm with z | z
          · exact absurd z hab
          · exact z)
theorem frG_no {g : Addr → Option Obj} {a : Addr} (hg : g a = none) (as : List Addr) : (He.frG g as).lookup a = none := by
  cases q : (He.frG g as).lookup a with
  | none => rfl
  | some o =>
    have e := He.frG_at as q
    rw [hg] at e
    cases e
theorem gK_heap (h : Heap) : gK (He.frG h.get? (List.range h.objs.size)) = h.get? := by
  funext a
  by_cases ha : a < h.objs.size
  · exact frG_mem (List.mem_range.mpr ha)
  · have hg : h.get? a = none := by
      cases e : h.get? a with
      | none => rfl
      | some o => exact absurd (Heap.lt_size e) ha
    rw [hg]
    exact frG_no hg _
def hkK : PySem.W.Hook where
  α := OT
  obs := fun s => obsG s.heap.get?
  val := fun _ => valG
  says := fun _ h => ∃ K : PySem.W.Frag, K.In h ∧ obsG (gK K) = valG
  of := fun _ s e => ⟨He.frG s.heap.get? (List.range s.heap.objs.size), He.frG_in, by rw [gK_heap]; exact e⟩
  keeps := fun _ _ _ ⟨K, hK, c⟩ k => ⟨K, PySem.W.Frag.In.keeps hK k, c⟩
theorem runK (w : World) : HandSHeadRun.RunEq RR qK hkK (fun s => obsG (HandSHeadRun.getT s)) 20000 looseK w := by
  intro os
  have h1 := runH w os
  have h2 := runO w os
  cases e : HandSHeadRun.endF (HandSHeadRun.stepQ (HandSHeadRun.denQ HandSHeadRun.tabQ) RR.prog w) 20000 RR.prog w os with
  | none =>
    rw [e] at h2
    cases h2
  | some s =>
    rw [e] at h1 h2
    obtain ⟨a1, a2⟩ := Prod.mk.inj (Option.some.inj h1)
    have a3 := (Prod.mk.inj a2).1
    have a4 : obsG (HandSHeadRun.getT s) = valG := Option.some.inj h2
    show some (_, _, obsG (HandSHeadRun.getT s)) = some (true, PySem.W.openGood qK looseK, valG)
    rw [a4]
    exact congrArg (fun z => some (z, _, valG)) a1 |>.trans (congrArg (fun z => some (true, z, valG)) a3)
theorem ob_eq (s : PySem.W.SharedT) : obsG (HandSHeadRun.getT s) = hkK.obs s.abs := by
  show obsG (HandSHeadRun.getT s) = obsG s.abs.heap.get?
  rw [show HandSHeadRun.getT s = s.abs.heap.get? from funext (HandSHeadRun.getT_eq s)]
end L2.K9
open PySem PySem.W PySem.Calls PyProof.Rows
theorem PySem.Challenge.cw_escapechains_k99_errors_holds : PySem.Challenge.rw_escapechains_k99_errors.Holds := by
  w_on; o_law
  refine HandSHeadRun.head_any (r := OpenLaw.row PySem.Challenge.rw_escapechains_k99_errors) (q := view (OpenLaw.row PySem.Challenge.rw_escapechains_k99_errors).prog [76]) (H := L2.K9.hkK) (ob := fun s => L2.K9.obsG (HandSHeadRun.getT s)) (M := 20000) (loose := L2.K9.looseK)
    (d := HandSHeadRun.topDef (OpenLaw.row PySem.Challenge.rw_escapechains_k99_errors).prog 76) (kwd := []) L2.K9.ob_eq
    (by kernel_rfl) (fun s => by kernel_rfl) L2.K9.runK (by kernel_rfl) (by kernel_rfl) (by kernel_rfl) (by rfl) (by first | assumption | decide +kernel) (by decide +kernel) ⟨rfl, rfl, rfl, rfl, rfl, by decide +kernel⟩ ?hw ?hc
  case hw => w_witness2
  case hc =>
    refine L2.walk_ofE (l := PySem.Challenge.rw_escapechains_k99_errors) (n := 63) (k := 9) (x := "script") (CX := L2.CX0) rfl (by decide) (by kernel_rfl) ⟨rfl, by decide, by decide⟩ ?F (fun _ _ _ _ z => z)
    intro w mg fa h Y G hmg0
    obtain ⟨K, KX, c⟩ := Y
    obtain ⟨es, C0, S⟩ := L2.K9.seen_of c
    have hmg : mg ("law" : PySem.Str) = some (.ref fa) := by
      have e : (HandSHeadRun.topDef (OpenLaw.row PySem.Challenge.rw_escapechains_k99_errors).prog 76).name = ("law" : PySem.Str) := by kernel_rfl
      rw [← e]
      exact hmg0
    obtain ⟨fd, hb, hF⟩ := L2.K9.law_fn (P := (PySem.Challenge.rw_escapechains_k99_errors).prog) (w := w) KX G S hmg
    exact ⟨K, fd, L2.K9.spLaw K, KX, hb, fun H a ns hl _ hS => ⟨a, ns, rfl, hl, hS, fun _ => rfl⟩, hF⟩
