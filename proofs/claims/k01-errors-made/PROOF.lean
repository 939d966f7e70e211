import PyProof.Rows.All
import Wide.All
import OpenK.AllK
import Wide.FinOn
import HandS.ForMost
import HandS.Flow
import HandS.Exc
import HandS.ExcInit
import KE.KExcSuper
import HandS.ExcOwn
import HandS.ExcValueHot
import HandS.IsInst
import HandS.Head0
import HandS.Head1
import HandS.Head2
import HandS.HeadEnd
import HandS.HeadHook1
import HandS.HeadHook2
import HandS.HeadHook3
import HandS.HeadHook4
import HandS.HeadWalk
import KE.KStateDown
import HandS.Wide
import HandS.WideBits
import HandS.Star
import HandS.Deep
import HandS.SortRule
import HandS.DictTup
import HandS.Conv
import HandS.TupLen
import HandS.Lambda
import HandS.Style
import KE.SortData
import KE.SortKeyHeap
import KE.KDictCopyH
import KE.KDictPairs
import HandS.Steps
import HandS.TupLe
import HandS.AnyAll
import HandS.SortKw
import KE.DataMinMax
import HandS.Zip
import HandS.Defaults
import HandS.EndTab
import HandS.Iter
import HandS.TryOnly
import HandS.More
import HandS.Dict
import KE.KeyNested
import KE.KDictDisplayH
import KE.KDictKeyed
import HandS.ExcValue
import HandS.ExcIs
import HandS.ExcField
import KE.KExcIs
import KE.DataFind
import PyProof.ReprRoads
import PyProof.CallFns
import HandS.EndBits
import HandS.Text
import PyProof.StrLawsRepr
import PyProof.FitsInt
import PySem.Challenge.RW_shiftfolds_k01_errors_made
set_option Elab.async false
set_option linter.all false
set_option maxRecDepth 100000
set_option maxHeartbeats 0
/-! The text of an __init__ of an exception class. -/
namespace Dl
open PySem PySem.Spec PyProof.Rows L2
/-! ### the text of such an __init__ -/
def iniArgs (p : Nat → Pos) : Arguments := { posonlyargs := [], args := [{ arg := "self", annotation := none, pos := p 0 }, { arg := "value", annotation := none, pos := p 1 }], vararg := none, kwonlyargs := [], kw_defaults := [], kwarg := none, defaults := [.Constant .none 0 (p 2)] }
def iniBody (p : Nat → Pos) : List Stmt := [.Expr (.Call (.Attribute (.Call (.Name "super" (p 3)) [] [] (p 4)) "__init__" (p 5)) [] [] (p 6)) (p 7), .Assign [.Attribute (.Name "self" (p 8)) "value" (p 9)] (.Name "value" (p 10)) (p 11)]
def iniScope : Scope := { kind := .function, names := [("self", .local), ("value", .local), ("__class__", .free), ("super", .globalImplicit)], isGenerator := false, isCoroutine := false, more := [] }
abbrev veB : List Value := [.type "ValueError", .type "Exception", .type "BaseException", .type "object"]
end Dl
/-! The defs of the text by their places; the classes. -/
namespace Dl
open PySem PySem.Spec PyProof.Rows L2
def top (i : Nat) : Stmt := PySem.Challenge.pw_shiftfolds_k01_errors_made.main.body.getD i (.Pass ⟨0, 0, 0, 0⟩)
abbrev s__law_purse : Stmt := top 44
abbrev s__law_mixed : Stmt := top 45
abbrev s__law_draw : Stmt := top 46
abbrev s__law_purses : Stmt := top 47
abbrev s__law_one_of : Stmt := top 48
abbrev s__law_word : Stmt := top 49
abbrev s__law_first : Stmt := top 50
abbrev s__law_called : Stmt := top 51
abbrev s__law_bare : Stmt := top 52
abbrev s__law_code : Stmt := top 53
abbrev s__law_is_error : Stmt := top 54
abbrev s__law_right : Stmt := top 55
abbrev s_law : Stmt := top 56
abbrev nsV : List Str := [("InvalidValue" : Str), ("InvalidOperation" : Str), ("InvalidLikeness" : Str), ("InvalidKind" : Str), ("InvalidTable" : Str), ("InvalidKinds" : Str), ("InvalidHolding" : Str), ("InvalidTyping" : Str), ("InvalidFolding" : Str), ("InvalidMap" : Str), ("InvalidTriples" : Str), ("InvalidBase" : Str), ("InvalidWord" : Str), ("InvalidRow" : Str), ("InvalidGrouping" : Str), ("InvalidBlock" : Str), ("InvalidBlocks" : Str), ("InvalidCut" : Str), ("InvalidDeed" : Str), ("InvalidInputs" : Str), ("InvalidPrices" : Str), ("InvalidWeights" : Str), ("InvalidHands" : Str), ("InvalidLosses" : Str), ("InvalidCount" : Str), ("InvalidProgram" : Str), ("InvalidName" : Str), ("InvalidPlan" : Str), ("InvalidChange" : Str), ("InvalidChanges" : Str), ("InvalidWorks" : Str), ("InvalidSpot" : Str), ("InvalidScript" : Str), ("InvalidText" : Str), ("InvalidLog" : Str), ("Unlike" : Str), ("Unsettled" : Str), ("Apart" : Str), ("Refused" : Str)]
abbrev ns0 : List Str := [("NothingToUndo" : Str), ("NothingToRedo" : Str), ("FoldError" : Str)]
end Dl
/-! The head: facts of each def and of each class of errors by its name. -/
namespace Dl
open PySem PySem.Spec PyProof.Rows L2 LamX
def dd (x : Str) (st : Stmt) (dv : List He.Dv) : He.DefD := ⟨(x, none), x, x, defArgs st, defBody st, defScope st, dv, []⟩
def hfn : List He.DefD := [dd "_law_purse" s__law_purse [], dd "_law_mixed" s__law_mixed [], dd "_law_draw" s__law_draw [], dd "_law_purses" s__law_purses [], dd "_law_one_of" s__law_one_of [], dd "_law_word" s__law_word [], dd "_law_first" s__law_first [], dd "_law_called" s__law_called [], dd "_law_bare" s__law_bare [], dd "_law_code" s__law_code [], dd "_law_is_error" s__law_is_error [], dd "_law_right" s__law_right [], dd "law" s_law []]
def hfa0 : List He.Fa := [.glo "_law_purse", .glo "_law_mixed", .glo "_law_draw", .glo "_law_purses", .glo "_law_one_of", .glo "_law_word", .glo "_law_first", .glo "_law_called", .glo "_law_bare", .glo "_law_code", .glo "_law_is_error", .glo "_law_right", .glo "law", .free "len", .free "all", .free "any", .free "sum", .free "max", .free "min", .free "isinstance", .free "sorted", .free "list", .free "int", .free "str", .free "range", .free "enumerate", .free "zip", .free "tuple", .free "bool", .free "dict", .free "repr", .free "ValueError", .free "super"]
def nsA : List Str := nsV ++ ns0
def hfa : List He.Fa := hfa0 ++ nsA.map He.Fa.glo
/-! ### classes of errors -/
/-- the places of the text of an __init__ -/
def iniPos (st : Stmt) (i : Nat) : Pos := match st with
  | .ClassDef _ _ _ (.FunctionDef _ a b _ _ _ _ _ _ _ :: _) _ _ _ _ _ _ _ => (match a.args, a.defaults, b with
    | [a0, a1], [.Constant _ _ p2], [.Expr (.Call (.Attribute (.Call (.Name _ p3) _ _ p4) _ p5) _ _ p6) p7, .Assign [.Attribute (.Name _ p8) _ p9] (.Name _ p10) p11] =>
      [a0.pos, a1.pos, p2, p3, p4, p5, p6, p7, p8, p9, p10, p11].getD i default
    | _, _, _ => default)
  | _ => default
abbrev FnE : Type := Option (Str × Str × Arguments × FuncBody × Scope × Addr × List Str × Addr)
/-- the __init__ of x -/
def fnE (K : PySem.W.Frag) (x : Str) : FnE := match K.lookup (He.ma K (He.ga K x) "__init__") with
  | some ⟨_, _, .func fd, _⟩ => some (fd.name, fd.qualname, fd.params, fd.body, fd.scope, fd.globals, fd.closure.map (·.1), fd.builtins)
  | _ => none
/-- a class of errors: its name, its __init__'s qualified name, its text -/
structure ClE where
  x : Str
  q : Str
  st : Stmt
def ClE.val (c : ClE) : FnE := some ("__init__", c.q, iniArgs (iniPos c.st), .stmts (iniBody (iniPos c.st)), iniScope, mainGlobals, ["__class__"], builtinsNs)
def eqVB (a b : Option Bool) : Bool := decide (a = b)
/-- what the class at C must say -/
def clB (K : PySem.W.Frag) (C : Addr) : Bool :=
  PySem.W.excInitIn K C veB "ValueError.__new__" && ((match K.lookup C with
    | some ⟨_, _, .cls cd, _⟩ => cd.hasDict && PySem.HandSPX.refsVE (cd.mro.drop 1)
    | _ => false) && (He.eqO (PySem.W.findIn K (.ref C) "__setattr__") (some (some (.builtin "object.__setattr__"))) && (eqVB (PySem.W.subIn K (.ref C) (.type "BaseException")) (some true) && (decide (PySem.W.typeIn K (.ref C) = some (.type "type")) && (PySem.W.keepIn K (.ref C) &&
  (He.eqO (PySem.W.ks_superIn K C C "__init__") (some (some (.builtin "ValueError.__init__"))) && (eqVB (PySem.W.subIn K (.ref C) (.type "ValueError")) (some true) && (eqVB (PySem.W.subIn K (.ref C) (.ref C)) (some true) && He.eqO (PySem.W.findIn K (.ref C) "value") (some none)))))))))
def clExB (K : PySem.W.Frag) (C : Addr) : Bool :=
  He.eqO (PySem.W.findIn K (.ref C) "__getattribute__") (some (some (.builtin "BaseException.__getattribute__"))) && (He.eqO (PySem.W.findIn K (.ref C) "__getattr__") (some none) && (PySem.W.hasDictIn K C && (He.eqO (PySem.W.findIn K (.ref C) "__class__") (some (some (.builtin "object.__class__"))) &&
  (He.eqO (PySem.W.specialIn K (.builtin "object.__class__") "__get__") (some (some (.builtin "getset_descriptor.__get__"))) && (eqVB (PySem.W.takesIn K (.builtin "object.__class__")) (some true) && eqVB (PySem.W.mroIn K C (.type "object")) (some true))))))
/-- its __init__ at fI -/
def clInB (K : PySem.W.Frag) (C fI : Addr) (q file : Str) : Bool :=
  He.eqO (PySem.W.findIn K (.ref C) "__init__") (some (some (.ref fI))) && (decide (PySem.W.typeIn K (.ref fI) = some (.type "function")) && (match K.lookup fI with
    | some ⟨_, _, .func fd, _⟩ => PySem.W.codeIn K fd.code q && (He.dflB K fd.defaults [.non] && ((match fd.code with
      | .ref c => (match K.lookup c with
        | some ⟨_, _, .fields vs, _⟩ => (match (vs[2]? : Option Value) with
          | some (Value.str f _) => file == f
          | _ => false)
        | _ => false)
      | _ => false) && (match fd.closure with
      | [(_, cc)] => (match K.lookup cc with
        | some ⟨_, _, .cell (some (.ref C')), _⟩ => decide (C' = C)
        | _ => false)
      | _ => false)))
    | _ => false))
def clsB (file : Str) (K : PySem.W.Frag) (c : ClE) : Bool := clB K (He.ga K c.x) && (clExB K (He.ga K c.x) && clInB K (He.ga K c.x) (He.ma K (He.ga K c.x) "__init__") c.q file)
/-- a class without own __init__ -/
def ex0B (K : PySem.W.Frag) (C : Addr) : Bool := PySem.W.excIn K C veB "ValueError.__new__" && (PySem.W.keepIn K (.ref C) && (decide (PySem.W.typeIn K (.ref C) = some (.type "type")) && (eqVB (PySem.W.subIn K (.ref C) (.type "BaseException")) (some true) && clExB K C)))
def rowsB (K : PySem.W.Frag) (cs : List Addr) : Bool := (List.range 42).all fun i => (List.range 41).all fun j => eqVB (PySem.W.kitOne K (.ref (cs.getD i 0)) (.ref (cs.getD j 0))) (some (decide (i = j)))
def amB (K : PySem.W.Frag) (cs : List Addr) : Bool := (List.range 42).all (fun i => eqVB (PySem.W.kitOne K (.ref (cs.getD i 0)) (.ref (cs.getD 41 0))) (some true) && eqVB (PySem.W.kitOne K (.ref (cs.getD i 0)) (.type "ValueError")) (some true)) && rowsB K cs
def hexA (file : Str) (cs : List ClE) (K : PySem.W.Frag) : Bool := He.eqO (PySem.W.nsIn K cStatics "thirdparty.any") (some none) && ((K.lookup sysModules).isSome && ((cs.take 20).all (clsB file K) && ns0.all (fun x => ex0B K (He.ga K x))))
def hexC (file : Str) (cs : List ClE) (K : PySem.W.Frag) : Bool := (cs.drop 20).all (clsB file K)
def hexB (K : PySem.W.Frag) : Bool := amB K (nsA.map (He.ga K))
def allB (file : Str) (cs : List ClE) (K : PySem.W.Frag) : Bool := hexA file cs K && (hexC file cs K && hexB K)
/-! ### the Hook -/
/-- the object of sys.modules -/
def smO : Option Obj → PySem.W.Frag
  | some o => [(sysModules, o)]
  | none => []
def frC (g : Addr → Option Obj) (n : Nat) : PySem.W.Frag := He.frT g (cStatics :: He.asD g n) ++ smO (g sysModules)
theorem frC_in {h : Heap} {n : Nat} : (frC h.get? n).In h := fun a o e => by
  unfold frC at e
  rw [List.lookup_append] at e
  cases z : (He.frT h.get? (cStatics :: He.asD h.get? n)).lookup a with
  | some u =>
    rw [z] at e
    have e : some u = some o := e
    exact He.frT_in a o (z.trans e)
  | none =>
    rw [z] at e
    cases q : h.get? sysModules with
    | none => rw [q] at e; cases e
    | some u =>
      rw [q] at e
      have e : List.lookup a [(sysModules, u)] = some o := e
      unfold List.lookup at e
      cases y : a == sysModules with
      | true =>
        rw [y] at e
        have e : some u = some o := e
        rw [eq_of_beq y, q, e]
      | false =>
        rw [y] at e
        cases e
abbrev AlC : Type := He.AlX × List FnE
def obsC (n : Nat) (fa : List He.Fa) (fn : List He.DefD) (ex : PySem.W.Frag → Bool) (xs : List Str) (g : Addr → Option Obj) : AlC := ((He.obsT fa fn [] (frC g n), ex (frC g n)), xs.map (fnE (frC g n)))
def valC (fn : List He.DefD) (cs : List ClE) (w : World) : AlC := (He.valX fn [] w, cs.map ClE.val)
theorem saysC_of {n : Nat} {fa : List He.Fa} {fn : List He.DefD} {ex : PySem.W.Frag → Bool} {w : World} {h : Heap} (e : (He.obsT fa fn [] (frC h.get? n), ex (frC h.get? n)) = He.valX fn [] w) : He.SaysX fa fn [] [] ex w h (frC h.get? n) :=
  ⟨congrArg (fun z : He.AlX => z.1) e, congrArg (fun z : He.AlX => z.2) e, (fun _ hp => nomatch hp), (fun _ hp => nomatch hp), (fun _ hp => nomatch hp)⟩
def hookC (n : Nat) (fa : List He.Fa) (fn : List He.DefD) (ex : PySem.W.Frag → Bool) (cs : List ClE) : PySem.W.Hook where
  α := AlC
  obs := fun s => obsC n fa fn ex (cs.map ClE.x) s.heap.get?
  val := fun w => valC fn cs w
  says := fun w h => ∃ K : PySem.W.Frag, K.In h ∧ (He.SaysX fa fn [] [] ex w h K ∧ (cs.map ClE.x).map (fnE K) = cs.map ClE.val)
  of := fun _ _ e => ⟨_, frC_in, saysC_of (congrArg (fun z : AlC => z.1) e), congrArg (fun z : AlC => z.2) e⟩
  keeps := fun _ _ _ ⟨K, hK, c, e⟩ k => ⟨K, PySem.W.Frag.In.keeps hK k, ⟨c.t, c.more, c.hd, c.out, (fun _ hp => nomatch hp)⟩, e⟩
theorem obsC_eq {n : Nat} {fa : List He.Fa} {fn : List He.DefD} {ex : PySem.W.Frag → Bool} {cs : List ClE} {g : Addr → Option Obj} {s : Shared} (h : ∀ a, g a = s.heap.get? a) : obsC n fa fn ex (cs.map ClE.x) g = (hookC n fa fn ex cs).obs s := by
  have e : g = s.heap.get? := funext h
  rw [e] <;> rfl
def hcl : List ClE := [(⟨"InvalidValue", "InvalidValue.__init__", top 2⟩ : ClE), (⟨"InvalidOperation", "InvalidOperation.__init__", top 3⟩ : ClE), (⟨"InvalidLikeness", "InvalidLikeness.__init__", top 4⟩ : ClE), (⟨"InvalidKind", "InvalidKind.__init__", top 5⟩ : ClE), (⟨"InvalidTable", "InvalidTable.__init__", top 6⟩ : ClE), (⟨"InvalidKinds", "InvalidKinds.__init__", top 7⟩ : ClE), (⟨"InvalidHolding", "InvalidHolding.__init__", top 8⟩ : ClE), (⟨"InvalidTyping", "InvalidTyping.__init__", top 9⟩ : ClE), (⟨"InvalidFolding", "InvalidFolding.__init__", top 10⟩ : ClE), (⟨"InvalidMap", "InvalidMap.__init__", top 11⟩ : ClE), (⟨"InvalidTriples", "InvalidTriples.__init__", top 12⟩ : ClE), (⟨"InvalidBase", "InvalidBase.__init__", top 13⟩ : ClE), (⟨"InvalidWord", "InvalidWord.__init__", top 14⟩ : ClE), (⟨"InvalidRow", "InvalidRow.__init__", top 15⟩ : ClE), (⟨"InvalidGrouping", "InvalidGrouping.__init__", top 16⟩ : ClE), (⟨"InvalidBlock", "InvalidBlock.__init__", top 17⟩ : ClE), (⟨"InvalidBlocks", "InvalidBlocks.__init__", top 18⟩ : ClE), (⟨"InvalidCut", "InvalidCut.__init__", top 19⟩ : ClE), (⟨"InvalidDeed", "InvalidDeed.__init__", top 20⟩ : ClE), (⟨"InvalidInputs", "InvalidInputs.__init__", top 21⟩ : ClE), (⟨"InvalidPrices", "InvalidPrices.__init__", top 22⟩ : ClE), (⟨"InvalidWeights", "InvalidWeights.__init__", top 23⟩ : ClE), (⟨"InvalidHands", "InvalidHands.__init__", top 24⟩ : ClE), (⟨"InvalidLosses", "InvalidLosses.__init__", top 25⟩ : ClE), (⟨"InvalidCount", "InvalidCount.__init__", top 26⟩ : ClE), (⟨"InvalidProgram", "InvalidProgram.__init__", top 27⟩ : ClE), (⟨"InvalidName", "InvalidName.__init__", top 28⟩ : ClE), (⟨"InvalidPlan", "InvalidPlan.__init__", top 29⟩ : ClE), (⟨"InvalidChange", "InvalidChange.__init__", top 30⟩ : ClE), (⟨"InvalidChanges", "InvalidChanges.__init__", top 31⟩ : ClE), (⟨"InvalidWorks", "InvalidWorks.__init__", top 32⟩ : ClE), (⟨"InvalidSpot", "InvalidSpot.__init__", top 33⟩ : ClE), (⟨"InvalidScript", "InvalidScript.__init__", top 34⟩ : ClE), (⟨"InvalidText", "InvalidText.__init__", top 35⟩ : ClE), (⟨"InvalidLog", "InvalidLog.__init__", top 36⟩ : ClE), (⟨"Unlike", "Unlike.__init__", top 37⟩ : ClE), (⟨"Unsettled", "Unsettled.__init__", top 38⟩ : ClE), (⟨"Apart", "Apart.__init__", top 39⟩ : ClE), (⟨"Refused", "Refused.__init__", top 40⟩ : ClE)]
def loose1 : List PySem.Str := ["FoldError", "InvalidValue", "InvalidOperation", "InvalidLikeness", "InvalidKind", "InvalidTable", "InvalidKinds", "InvalidHolding", "InvalidTyping", "InvalidFolding", "InvalidMap", "InvalidTriples", "InvalidBase", "InvalidWord", "InvalidRow", "InvalidGrouping", "InvalidBlock", "InvalidBlocks", "InvalidCut", "InvalidDeed", "InvalidInputs", "InvalidPrices", "InvalidWeights", "InvalidHands", "InvalidLosses", "InvalidCount", "InvalidProgram", "InvalidName", "InvalidPlan", "InvalidChange"]
def loose2 : List PySem.Str := ["InvalidChanges", "InvalidWorks", "InvalidSpot", "InvalidScript", "InvalidText", "InvalidLog", "Unlike", "Unsettled", "Apart", "Refused", "NothingToUndo", "NothingToRedo", "_law_purse", "_law_mixed", "_law_draw", "_law_purses", "_law_one_of", "_law_word", "_law_first", "_law_called", "_law_bare", "_law_code", "_law_is_error", "_law_right"]
abbrev hR : PySem.W.OpenRow := PySem.W.OpenLaw.row PySem.Challenge.rw_shiftfolds_k01_errors_made
abbrev hex (K : PySem.W.Frag) : Bool := allB hR.prog.main.file hcl K
abbrev hhk : PySem.W.Hook := hookC 4 hfa hfn hex hcl
def hob (s : PySem.W.SharedT) : AlC := obsC 4 hfa hfn hex (hcl.map ClE.x) (HandSHeadRun.getT s)
theorem hob_eq (s : PySem.W.SharedT) : hob s = hhk.obs s.abs := obsC_eq (HandSHeadRun.getT_eq s)
theorem comb {S A B C D : Type} {o : Option S} {f1 : S → A} {f2 : S → B} {f3 : S → C} {x y z : S → Bool} {f4 : S → D} {a : A} {b : B} {c : C} {d : D} (h1 : o.map (fun s => (f1 s, f2 s)) = some (a, b)) (h2 : o.map f3 = some c) (h3 : o.map f4 = some d) (h4 : o.map x = some true) (h5 : o.map y = some true) (h6 : o.map z = some true) :
    o.map (fun s => (f1 s, f2 s, ((f3 s, x s && (y s && z s)), f4 s))) = some (a, b, ((c, true), d)) := by
  cases o with
  | none => cases h1
  | some s =>
    have h1 := Option.some.inj h1
    have e1 : f1 s = a := congrArg (fun z => z.1) h1
    have e2 : f2 s = b := congrArg (fun z => z.2) h1
    have e3 : f3 s = c := Option.some.inj h2
    have e5 : f4 s = d := Option.some.inj h3
    have e4 : x s = true := Option.some.inj h4
    have e6 : y s = true := Option.some.inj h5
    have e7 : z s = true := Option.some.inj h6
    show some (f1 s, f2 s, ((f3 s, x s && (y s && z s)), f4 s)) = _
    rw [e1, e2, e3, e4, e5, e6, e7]
    rfl
noncomputable abbrev runN (w : World) (os : OsState) : Option PySem.W.SharedT := HandSHeadRun.endF (HandSHeadRun.stepQ (HandSHeadRun.denQ HandSHeadRun.tabQ) hR.prog w) 12000 hR.prog w os
end Dl
namespace Dl
open PySem PySem.Spec PyProof.Rows L2 LamX
theorem hrun1 (w : World) (os : OsState) : (runN w os).map (fun s => (HandSHeadRun.looksF hR.prog (PySem.W.boot_heap w.params) s.abs, HandSHeadRun.seenQ (PySem.W.view hR.prog [56]) (loose1 ++ loose2) (importedModules hR.prog.main.body) (fun s => PySem.W.xlAt (PySem.W.view hR.prog [56]) [] s && PySem.W.recOk hR.toRowW.records s) s.abs)) = some (true, PySem.W.openGood (PySem.W.view hR.prog [56]) (loose1 ++ loose2)) := by
  kernel_rfl
end Dl
namespace Dl
open PySem PySem.Spec PyProof.Rows L2 LamX
theorem hrun2 (w : World) (os : OsState) : (runN w os).map (fun s => He.obsT hfa hfn [] (frC (HandSHeadRun.getT s) 4)) = some (He.valT hfn [] w) := by
  kernel_rfl
end Dl
namespace Dl
open PySem PySem.Spec PyProof.Rows L2 LamX
theorem hrun3 (w : World) (os : OsState) : (runN w os).map (fun s => (hcl.map ClE.x).map (fnE (frC (HandSHeadRun.getT s) 4))) = some (hcl.map ClE.val) := by
  kernel_rfl
end Dl
namespace Dl
open PySem PySem.Spec PyProof.Rows L2 LamX
theorem hrun4 (w : World) (os : OsState) : (runN w os).map (fun s => hexA hR.prog.main.file hcl (frC (HandSHeadRun.getT s) 4)) = some true := by
  kernel_rfl
end Dl
namespace Dl
open PySem PySem.Spec PyProof.Rows L2 LamX
theorem hrun5 (w : World) (os : OsState) : (runN w os).map (fun s => hexC hR.prog.main.file hcl (frC (HandSHeadRun.getT s) 4)) = some true := by
  kernel_rfl
end Dl
namespace Dl
open PySem PySem.Spec PyProof.Rows L2 LamX
theorem hrun6 (w : World) (os : OsState) : (runN w os).map (fun s => hexB (frC (HandSHeadRun.getT s) 4)) = some true := by
  kernel_rfl
theorem hrun (w : World) : HandSHeadRun.RunEq hR (PySem.W.view hR.prog [56]) hhk hob 12000 (loose1 ++ loose2) w := fun os => comb (hrun1 w os) (hrun2 w os) (hrun3 w os) (hrun4 w os) (hrun5 w os) (hrun6 w os)
end Dl
/-! Data at any depth, what holds it, and the judgements over it. -/
namespace Dl
open PySem L2
/-- the written part; the tables of code objects, with the name that each one's code objects bear -/
structure Cfg where
  K : PySem.W.Frag
  T : List (Addr × Str)
instance : Coe Cfg PySem.W.Frag := ⟨Cfg.K⟩
/-! ### data -/
inductive D where
  | non | bl (b : Bool) | int (i : Int) | str (x : Str)
  | lst (xs : List D) | tup (xs : List D)
  | dT (ks : List (List Key)) (xs : List D)
  | dK (ks : List Key) (xs : List D)
  | ob (R : Addr → Hp → Prop)
/-- all that is tracked stays, but for tables of code objects -/
def Kp (H H' : Hp) : Prop := ∀ a o, H a = some o → (∀ ps, o ≠ .tbl ps) → H' a = some o
mutual
inductive Rp (K : Cfg) (H : Hp) : V → D → Prop
  | non : Rp K H .non .non
  | bl (b : Bool) : Rp K H (.bl b) (.bl b)
  | int (i : Int) : Rp K H (.int i) (.int i)
  | str (x : Str) : Rp K H (.str x) (.str x)
  | lst {a : Addr} {vs : List V} {ds : List D} : H a = some (.lst vs) → RpA K H vs ds → Rp K H (.ref a) (.lst ds)
  | tup {a : Addr} {vs : List V} {ds : List D} : H a = some (.tup vs) → RpA K H vs ds → Rp K H (.ref a) (.tup ds)
  | dT {a : Addr} {ks : List (List Key)} {vs : List V} {ds : List D} : H a = some (.dT (ks.zip vs)) → ks.length = vs.length → RpA K H vs ds → Rp K H (.ref a) (.dT ks ds)
  | dK {a : Addr} {ks : List Key} {vs : List V} {ds : List D} : H a = some (.dK (ks.zip vs)) → ks.length = vs.length → RpA K H vs ds → Rp K H (.ref a) (.dK ks ds)
  | ob {a : Addr} {R : Addr → Hp → Prop} : (∀ G, Kp H G → R a G) → Rp K H (.ref a) (.ob R)
inductive RpA (K : Cfg) (H : Hp) : List V → List D → Prop
  | nil : RpA K H [] []
  | cons {v : V} {vs : List V} {d : D} {ds : List D} : Rp K H v d → RpA K H vs ds → RpA K H (v :: vs) (d :: ds)
end
theorem Kp.refl (H : Hp) : Kp H H := fun _ _ h _ => h
theorem Kp.trans {H H1 H2 : Hp} (a : Kp H H1) (b : Kp H1 H2) : Kp H H2 := fun x o h n => b x o (a x o h n) n
theorem Kp.lst {H H' : Hp} {a : Addr} {xs : List V} (e : Kp H H') (h : H a = some (.lst xs)) : H' a = some (.lst xs) := e a _ h fun _ q => nomatch q
theorem Kp.tup {H H' : Hp} {a : Addr} {xs : List V} (e : Kp H H') (h : H a = some (.tup xs)) : H' a = some (.tup xs) := e a _ h fun _ q => nomatch q
theorem Kp.dT {H H' : Hp} {a : Addr} {xs : List (List Key × V)} (e : Kp H H') (h : H a = some (.dT xs)) : H' a = some (.dT xs) := e a _ h fun _ q => nomatch q
theorem Kp.dK {H H' : Hp} {a : Addr} {xs : List (Key × V)} (e : Kp H H') (h : H a = some (.dK xs)) : H' a = some (.dK xs) := e a _ h fun _ q => nomatch q
theorem Kp.frz {H H' : Hp} {a : Addr} {o : Obj} {u : HO} (e : Kp H H') (h : H a = some (.frz o u)) : H' a = some (.frz o u) := e a _ h fun _ q => nomatch q
/-- .. and nothing is lost -/
structure Ge (H H' : Hp) : Prop where
  kp : Kp H H'
  th : ∀ a, H a ≠ none → H' a ≠ none
theorem Ge.refl (H : Hp) : Ge H H := ⟨Kp.refl H, fun _ h => h⟩
theorem Ge.trans {H H1 H2 : Hp} (a : Ge H H1) (b : Ge H1 H2) : Ge H H2 := ⟨a.kp.trans b.kp, fun x h => b.th x (a.th x h)⟩
theorem Ge.all {H H' : Hp} (e : ∀ a o, H a = some o → H' a = some o) : Ge H H' := ⟨fun a o h _ => e a o h, fun a h z => by
  cases q : H a with
  | none => exact h q
  | some o => rw [e a o q] at z; cases z⟩
theorem Ge.back {H H' : Hp} {p : Addr} (e : Ge H H') (h : H' p = none) : H p = none := by
  cases h1 : H p with
  | none => rfl
  | some o => exact (e.th p (by rw [h1]; simp) h).elim
/-- .. and the tables stay in order -/
structure Ex (K : Cfg) (H H' : Hp) : Prop where
  ge : Ge H H'
  tb : LamX.Tabs K.T H → LamX.Tabs K.T H'
section
variable {K : Cfg}
theorem Ex.kp {H H' : Hp} (e : Ex K H H') : Kp H H' := e.ge.kp
theorem Ex.refl {H : Hp} : Ex K H H := ⟨Ge.refl H, id⟩
theorem Ex.trans {H H1 H2 : Hp} (a : Ex K H H1) (b : Ex K H1 H2) : Ex K H H2 := ⟨a.ge.trans b.ge, fun h => b.tb (a.tb h)⟩
theorem Ex.all {H H' : Hp} (e : ∀ a o, H a = some o → H' a = some o) : Ex K H H' := ⟨Ge.all e, fun h => h.ext e⟩
theorem new_all {H : Hp} {p : Addr} {o : HO} (h : H p = none) : ∀ a u, H a = some u → upd H p o a = some u := fun a u e => by
  rw [upd_ne (ne_of_none e h)]
  exact e
theorem Ex.new {H : Hp} {p : Addr} {o : HO} (h : H p = none) : Ex K H (upd H p o) := Ex.all (new_all h)
theorem Kp.new {H : Hp} {p : Addr} {o : HO} (h : H p = none) : Kp H (upd H p o) := fun a u e _ => new_all h a u e
/-- a list or dict: nothing that a table leans on -/
def Lk : HO → Prop
  | .lst _ => True
  | .dT _ => True
  | .dK _ => True
  | .ext φ => ∃ h : Heap, φ h ∧ ∀ c oc vs, h.get? c = some oc → oc.data ≠ .fields vs
  | _ => False
theorem tabs_mut {T : List (Addr × Str)} {H : Hp} {p : Addr} {o u : HO} (h : H p = some o) (k : Lk o) (t : LamX.Tabs T H) : LamX.Tabs T (upd H p u) := fun q hq => by
  obtain ⟨ps, h1, h2, h3⟩ := t q hq
  have n1 : q.1 ≠ p := fun z => by rw [z, h] at h1; cases h1; exact k
  refine ⟨ps, by rw [upd_ne n1]; exact h1, h2, fun pos cv hc => ?_⟩
  obtain ⟨c, e1, e2⟩ := h3 pos cv hc
  have n2 : c ≠ p := fun z => by
    rw [z, h] at e2
    cases e2
    obtain ⟨h', ⟨oc, vs, t, h1, h2, _⟩, h3⟩ := k
    exact h3 _ _ _ h1 h2
  exact ⟨c, e1, by rw [upd_ne n2]; exact e2⟩
theorem Ge.mut {H H' : Hp} {p : Addr} {u : HO} (e : Ge H H') (h : H p = none) : Ge H (upd H' p u) := ⟨fun a o ha n => by
  rw [upd_ne (ne_of_none ha h)]
  exact e.kp a o ha n, fun a ha => by
  have ne : a ≠ p := fun z => ha (by rw [z]; exact h)
  rw [upd_ne ne]
  exact e.th a ha⟩
theorem Ex.mut {H H' : Hp} {p : Addr} {o u : HO} (e : Ex K H H') (h : H p = none) (h' : H' p = some o) (k : Lk o) : Ex K H (upd H' p u) := ⟨e.ge.mut h, fun t => tabs_mut h' k (e.tb t)⟩
theorem Ex.back {H H' : Hp} {p : Addr} (e : Ex K H H') (h : H' p = none) : H p = none := e.ge.back h
end
theorem ex_rd {H H' : Hp} {a : Addr} {u : HO} (e : Kp H H') (n : ∀ ps, u ≠ .tbl ps) (h : Rd H a u) : Rd H' a u := by
  rcases h with h | ⟨o, h⟩
  · exact Or.inl (e a _ h n)
  · exact Or.inr ⟨o, e.frz h⟩
theorem ex_l {K : Cfg} {H H' : Hp} {a : Addr} {xs : List V} (e : Kp H H') (h : SqL K H a xs) : SqL K H' a xs := by
  rcases h with h | h
  · exact Or.inl (ex_rd e (fun _ q => nomatch q) h)
  · exact Or.inr h
theorem ex_t {K : Cfg} {H H' : Hp} {a : Addr} {xs : List V} (e : Kp H H') (h : SqT K H a xs) : SqT K H' a xs := by
  rcases h with h | h
  · exact Or.inl (ex_rd e (fun _ q => nomatch q) h)
  · exact Or.inr h
theorem sq_of {K : Cfg} {H : Hp} {a : Addr} {xs : List V} (h : H a = some (.lst xs)) : SqL K H a xs := Or.inl (Or.inl h)
theorem st_of {K : Cfg} {H : Hp} {a : Addr} {xs : List V} (h : H a = some (.tup xs)) : SqT K H a xs := Or.inl (Or.inl h)
theorem sz_of {n : Nat} (h : n ≤ 100000) : n ≤ sizeLine := Nat.le_trans h (by decide)
theorem sz_lt {n : Nat} (h : n < 100000) : n < sizeLine := Nat.lt_of_lt_of_le h (by decide)
section
variable {K : Cfg} {H H' : Hp}
mutual
theorem Rp.mono (e : Kp H H') : ∀ (d : D) (v : V), Rp K H v d → Rp K H' v d
  | .non, _, h => by cases h; exact .non
  | .bl b, _, h => by cases h; exact .bl b
  | .int i, _, h => by cases h; exact .int i
  | .str x, _, h => by cases h; exact .str x
  | .lst ds, _, h => by cases h with | lst h1 h2 => exact .lst (e.lst h1) (RpA.mono e ds _ h2)
  | .tup ds, _, h => by cases h with | tup h1 h2 => exact .tup (e.tup h1) (RpA.mono e ds _ h2)
  | .dT ks ds, _, h => by cases h with | dT h1 h2 h3 => exact .dT (e.dT h1) h2 (RpA.mono e ds _ h3)
  | .dK ks ds, _, h => by cases h with | dK h1 h2 h3 => exact .dK (e.dK h1) h2 (RpA.mono e ds _ h3)
  | .ob R, _, h => by cases h with | ob h => exact .ob fun G g => h G (e.trans g)
theorem RpA.mono (e : Kp H H') : ∀ (ds : List D) (vs : List V), RpA K H vs ds → RpA K H' vs ds
  | [], _, h => by cases h; exact .nil
  | d :: ds, _, h => by cases h with | cons h1 h2 => exact .cons (Rp.mono e d _ h1) (RpA.mono e ds _ h2)
end
theorem Rp.ex {v : V} {d : D} (h : Rp K H v d) (e : Kp H H') : Rp K H' v d := Rp.mono e d v h
theorem RpA.ex {vs : List V} {ds : List D} (h : RpA K H vs ds) (e : Kp H H') : RpA K H' vs ds := RpA.mono e ds vs h
theorem RpA.len : ∀ {vs : List V} {ds : List D}, RpA K H vs ds → vs.length = ds.length
  | _, _, .nil => rfl
  | _, _, .cons _ t => congrArg (· + 1) (RpA.len t)
theorem RpA.get : ∀ {vs : List V} {ds : List D} {i : Nat} {d : D}, RpA K H vs ds → ds[i]? = some d → ∃ v, vs[i]? = some v ∧ Rp K H v d
  | _, _, _, _, .nil, e => by simp at e
  | _, _, 0, _, .cons r _, e => by simp at e; subst e; exact ⟨_, rfl, r⟩
  | _, _, i + 1, d, .cons _ t, e => by
    obtain ⟨v, h1, h2⟩ := RpA.get (i := i) (d := d) t (by simpa using e)
    exact ⟨v, by simpa using h1, h2⟩
theorem RpA.getV : ∀ {vs : List V} {ds : List D} {i : Nat} {v : V}, RpA K H vs ds → vs[i]? = some v → ∃ d, ds[i]? = some d ∧ Rp K H v d
  | _, _, _, _, .nil, e => by simp at e
  | _, _, 0, _, .cons r _, e => by simp at e; subst e; exact ⟨_, rfl, r⟩
  | _, _, i + 1, d, .cons _ t, e => by
    obtain ⟨v, h1, h2⟩ := RpA.getV (i := i) (v := d) t (by simpa using e)
    exact ⟨v, by simpa using h1, h2⟩
theorem RpA.app : ∀ {vs ws : List V} {ds es : List D}, RpA K H vs ds → RpA K H ws es → RpA K H (vs ++ ws) (ds ++ es)
  | _, _, _, _, .nil, h => h
  | _, _, _, _, .cons r t, h => .cons r (RpA.app t h)
theorem RpA.take : ∀ {vs : List V} {ds : List D} (n : Nat), RpA K H vs ds → RpA K H (vs.take n) (ds.take n)
  | _, _, 0, _ => .nil
  | _, _, _ + 1, .nil => .nil
  | _, _, n + 1, .cons r t => .cons r (RpA.take n t)
theorem RpA.drop : ∀ {vs : List V} {ds : List D} (n : Nat), RpA K H vs ds → RpA K H (vs.drop n) (ds.drop n)
  | _, _, 0, r => r
  | _, _, _ + 1, .nil => .nil
  | _, _, n + 1, .cons _ t => RpA.drop n t
theorem RpA.rev {vs : List V} {ds : List D} (h : RpA K H vs ds) : RpA K H vs.reverse ds.reverse := by
  induction vs generalizing ds with
  | nil => cases h; exact .nil
  | cons v vs ih =>
    cases h with
    | cons r t =>
      rw [List.reverse_cons, List.reverse_cons]
      exact (ih t).app (.cons r .nil)
theorem RpA.set {v : V} {d : D} (r : Rp K H v d) : ∀ {vs : List V} {ds : List D} (i : Nat), RpA K H vs ds → RpA K H (vs.set i v) (ds.set i d)
  | _, _, _, .nil => .nil
  | _, _, 0, .cons _ t => .cons r t
  | _, _, i + 1, .cons q t => .cons q (RpA.set r i t)
theorem RpA.ints : ∀ {vs : List V} {ns : List Int}, RpA K H vs (ns.map D.int) → vs = ns.map V.int
  | _, [], h => by cases h; rfl
  | _, n :: ns, h => by
    cases h with
    | cons r t =>
      cases r
      rw [RpA.ints t]
      rfl
theorem RpA.of_ints : ∀ ns : List Int, RpA K H (ns.map V.int) (ns.map D.int)
  | [] => .nil
  | n :: ns => .cons (.int n) (RpA.of_ints ns)
theorem RpA.bls : ∀ {vs : List V} {bs : List Bool}, RpA K H vs (bs.map D.bl) → vs = bs.map V.bl
  | _, [], h => by cases h; rfl
  | _, n :: ns, h => by
    cases h with
    | cons r t =>
      cases r
      rw [RpA.bls t]
      rfl
theorem RpA.strs : ∀ {vs : List V} {bs : List Str}, RpA K H vs (bs.map D.str) → vs = bs.map V.str
  | _, [], h => by cases h; rfl
  | _, n :: ns, h => by
    cases h with
    | cons r t =>
      cases r
      rw [RpA.strs t]
      rfl
theorem RpA.of_strs : ∀ ns : List Str, RpA K H (ns.map V.str) (ns.map D.str)
  | [] => .nil
  | n :: ns => .cons (.str n) (RpA.of_strs ns)
end
/-! ### the heap without some addresses -/
def hid (H : Hp) (M : List Addr) : Hp := fun a => if a ∈ M then none else H a
theorem hid_in {H : Hp} {M : List Addr} {a : Addr} (h : a ∈ M) : hid H M a = none := by unfold hid; rw [if_pos h]
theorem hid_out {H : Hp} {M : List Addr} {a : Addr} (h : a ∉ M) : hid H M a = H a := by unfold hid; rw [if_neg h]
theorem hid_some {H : Hp} {M : List Addr} {a : Addr} {o : HO} (h : hid H M a = some o) : a ∉ M ∧ H a = some o := by
  by_cases m : a ∈ M
  · rw [hid_in m] at h; cases h
  · rw [hid_out m] at h; exact ⟨m, h⟩
theorem hid_all {H : Hp} {M : List Addr} : ∀ a o, hid H M a = some o → H a = some o := fun _ _ h => (hid_some h).2
theorem hid_sub {H : Hp} {M : List Addr} : Kp (hid H M) H := fun _ _ h _ => (hid_some h).2
theorem hid_kp {H H' : Hp} {M : List Addr} (e : Kp H H') : Kp (hid H M) (hid H' M) := fun a o h n => by
  obtain ⟨m, q⟩ := hid_some h
  rw [hid_out m]
  exact e a o q n
theorem hid_ex {K : Cfg} {H H' : Hp} {M : List Addr} (e : Ex K H H') : Kp (hid H M) (hid H' M) := hid_kp e.kp
theorem hid_less {H : Hp} {M M' : List Addr} (s : ∀ a ∈ M', a ∈ M) : Kp (hid H M) (hid H M') := fun a o h _ => by
  obtain ⟨m, q⟩ := hid_some h
  rw [hid_out fun z => m (s a z)]
  exact q
/-- an object of M changes -/
theorem hid_upd {H : Hp} {M : List Addr} {a : Addr} {o : HO} (h : a ∈ M) : Kp (hid H M) (hid (upd H a o) M) := fun b u q _ => by
  obtain ⟨m, q⟩ := hid_some q
  have ne : b ≠ a := fun z => m (by rw [z]; exact h)
  rw [hid_out m, upd_ne ne]
  exact q
/-- what is tracked outside M -/
theorem ex_hid {B H : Hp} {M : List Addr} (e : Kp B H) (f : ∀ a ∈ M, B a = none) : Kp B (hid H M) := fun a o h n => by
  rw [hid_out fun z => by rw [f a z] at h; cases h]
  exact e a o h n
theorem ge_hid {B H : Hp} {M : List Addr} (e : Ge B H) (f : ∀ a ∈ M, B a = none) : Ge B (hid H M) := ⟨ex_hid e.kp f, fun a h => by
  rw [hid_out fun z => h (f a z)]
  exact e.th a h⟩
theorem hid_ge {H : Hp} {M : List Addr} : Ge (hid H M) H := Ge.all hid_all
structure MOk (K : Cfg) (M : List Addr) (H : Hp) : Prop where
  m : ∀ a ∈ M, H a ≠ none
  t : LamX.Tabs K.T H
theorem MOk.ex {K : Cfg} {M : List Addr} {H H' : Hp} (m : MOk K M H) (e : Ex K H H') : MOk K M H' := ⟨fun a h => e.ge.th a (m.m a h), e.tb m.t⟩
theorem MOk.new {K : Cfg} {M : List Addr} {H : Hp} {p : Addr} (m : MOk K M H) (h : H p = none) : p ∉ M := fun z => m.m p z h
theorem MOk.upd {K : Cfg} {M : List Addr} {H : Hp} {a : Addr} {o u : HO} (m : MOk K M H) (h : H a = some u) (k : Lk u) : MOk K M (L2.upd H a o) := ⟨fun b hb z => by
  by_cases e : b = a
  · subst e; rw [upd_same] at z; cases z
  · rw [upd_ne e] at z; exact m.m b hb z, tabs_mut h k m.t⟩
theorem hid_new {K : Cfg} {H : Hp} {M : List Addr} {p : Addr} {o : HO} (m : MOk K M H) (h : H p = none) : hid (upd H p o) M p = some o := by
  rw [hid_out (m.new h)]
  exact upd_same
/-! ### lists within lists that one slot owns -/
def D.isL : D → Bool
  | .lst _ => true
  | _ => false
mutual
/-- v stands for d; its own lists stand in H at the addresses told, all else in G -/
inductive Own (K : Cfg) (H G : Hp) : V → D → List Addr → Prop
  | dat {v : V} {d : D} : d.isL = false → Rp K G v d → Own K H G v d []
  | lst {a : Addr} {vs : List V} {ds : List D} {as : List Addr} : H a = some (.lst vs) → OwnA K H G vs ds as → Own K H G (.ref a) (.lst ds) (a :: as)
inductive OwnA (K : Cfg) (H G : Hp) : List V → List D → List Addr → Prop
  | nil : OwnA K H G [] [] []
  | cons {v : V} {vs : List V} {d : D} {ds : List D} {as bs : List Addr} : Own K H G v d as → OwnA K H G vs ds bs → OwnA K H G (v :: vs) (d :: ds) (as ++ bs)
end
section
variable {K : Cfg} {H H' G G' : Hp}
mutual
theorem Own.mono (e2 : Kp G G') : ∀ (d : D) (v : V) (as : List Addr), (∀ a ∈ as, ∀ vs, H a = some (.lst vs) → H' a = some (.lst vs)) → Own K H G v d as → Own K H' G' v d as
  | d, v, as, e1, h => by
    cases h with
    | dat n r => exact .dat n (r.ex e2)
    | lst h1 h2 => exact .lst (e1 _ List.mem_cons_self _ h1) (OwnA.mono e2 _ _ _ (fun a ha => e1 a (List.mem_cons_of_mem _ ha)) h2)
theorem OwnA.mono (e2 : Kp G G') : ∀ (ds : List D) (vs : List V) (as : List Addr), (∀ a ∈ as, ∀ vs, H a = some (.lst vs) → H' a = some (.lst vs)) → OwnA K H G vs ds as → OwnA K H' G' vs ds as
  | [], _, _, _, h => by cases h; exact .nil
  | d :: ds, _, _, e1, h => by
    cases h with
    | cons h1 h2 => exact .cons (Own.mono e2 d _ _ (fun a ha => e1 a (List.mem_append_left _ ha)) h1) (OwnA.mono e2 ds _ _ (fun a ha => e1 a (List.mem_append_right _ ha)) h2)
end
end
section
variable {K : Cfg} {H G : Hp}
mutual
theorem Own.at_ : ∀ (d : D) (v : V) (as : List Addr), Own K H G v d as → ∀ a ∈ as, ∃ vs, H a = some (.lst vs)
  | d, v, as, h => by
    cases h with
    | dat n r => intro a h; cases h
    | lst h1 h2 =>
      intro a h
      rcases List.mem_cons.mp h with rfl | h
      · exact ⟨_, h1⟩
      · exact OwnA.at_ _ _ _ h2 a h
theorem OwnA.at_ : ∀ (ds : List D) (vs : List V) (as : List Addr), OwnA K H G vs ds as → ∀ a ∈ as, ∃ vs, H a = some (.lst vs)
  | [], _, _, h => by cases h; intro a h; cases h
  | d :: ds, _, _, h => by
    cases h with
    | cons h1 h2 =>
      intro a h
      rcases List.mem_append.mp h with h | h
      · exact Own.at_ d _ _ h1 a h
      · exact OwnA.at_ ds _ _ h2 a h
end
theorem Own.ups {H' G' : Hp} {v : V} {d : D} {as : List Addr} (h : Own K H G v d as) (e1 : ∀ a ∈ as, ∀ vs, H a = some (.lst vs) → H' a = some (.lst vs)) (e2 : Kp G G') : Own K H' G' v d as := Own.mono e2 d v as e1 h
end
/-! ### slots -/
inductive Sl where
  | no | dat (d : D) | own (a : Addr) (xs : List D) | ownT (a : Addr) (ks : List (List Key)) (xs : List D) | ownK (a : Addr) (ks : List Key) (xs : List D) | raw (v : V) | deep (as : List Addr) (d : D) | fix (v : V) (d : D) | ownG (a : Addr) (R : HO → Hp → Prop)
abbrev Env := List Sl
def Sl.adr : Sl → List Addr
  | .own a _ => [a]
  | .ownT a _ _ => [a]
  | .ownK a _ _ => [a]
  | .ownG a _ => [a]
  | .deep as _ => as
  | _ => []
def owns (ρ : Env) : List Addr := ρ.flatMap Sl.adr
def SlOk (K : Cfg) (M : List Addr) (H : Hp) : Sl → Option V → Prop
  | .no, _ => True
  | .dat d, o => ∃ v, o = some v ∧ Rp K (hid H M) v d
  | .own a xs, o => o = some (.ref a) ∧ a ∈ M ∧ ∃ vs, H a = some (.lst vs) ∧ RpA K (hid H M) vs xs
  | .ownT a ks xs, o => o = some (.ref a) ∧ a ∈ M ∧ ∃ vs, H a = some (.dT (ks.zip vs)) ∧ ks.length = vs.length ∧ RpA K (hid H M) vs xs
  | .ownK a ks xs, o => o = some (.ref a) ∧ a ∈ M ∧ ∃ vs, H a = some (.dK (ks.zip vs)) ∧ ks.length = vs.length ∧ RpA K (hid H M) vs xs
  | .ownG a R, o => o = some (.ref a) ∧ a ∈ M ∧ ∃ u, H a = some u ∧ (∀ ps, u ≠ .tbl ps) ∧ ∀ G, Kp (hid H M) G → R u G
  | .raw v, o => o = some v
  | .fix v d, o => o = some v ∧ Rp K (hid H M) v d
  | .deep as d, o => ∃ v, o = some v ∧ (∀ a ∈ as, a ∈ M) ∧ Own K H (hid H M) v d as
def EOk (K : Cfg) (M : List Addr) (H : Hp) (ρ : Env) (σ : L2.St) : Prop := Paired (SlOk K M H) ρ σ
section
variable {K : Cfg} {M M' : List Addr} {H H' : Hp} {ρ : Env} {σ : L2.St}
theorem SlOk.ex {s : Sl} {o : Option V} (h : SlOk K M H s o) (e : Ex K H H') : SlOk K M H' s o := by
  cases s with
  | no => trivial
  | dat d => obtain ⟨v, e1, r⟩ := h; exact ⟨v, e1, r.ex (hid_ex e)⟩
  | own a xs => obtain ⟨e1, m, vs, q, r⟩ := h; exact ⟨e1, m, vs, e.kp.lst q, r.ex (hid_ex e)⟩
  | ownT a ks xs => obtain ⟨e1, m, vs, q, l, r⟩ := h; exact ⟨e1, m, vs, e.kp.dT q, l, r.ex (hid_ex e)⟩
  | ownK a ks xs => obtain ⟨e1, m, vs, q, l, r⟩ := h; exact ⟨e1, m, vs, e.kp.dK q, l, r.ex (hid_ex e)⟩
  | ownG a R => obtain ⟨e1, m, u, q, n, r⟩ := h; exact ⟨e1, m, u, e.kp _ _ q n, n, fun G g => r G ((hid_ex e).trans g)⟩
  | deep as d => obtain ⟨v, e1, m, r⟩ := h; exact ⟨v, e1, m, r.ups (fun a _ vs h => e.kp.lst h) (hid_ex e)⟩
  | raw v => exact h
  | fix v d => exact ⟨h.1, h.2.ex (hid_ex e)⟩
theorem Paired.imp' {α β : Type} {F G : α → β → Prop} : ∀ {l : List α} {m : List β}, Paired F l m → (∀ a ∈ l, ∀ b, F a b → G a b) → Paired G l m
  | _, _, .nil, _ => .nil
  | _, _, .cons r t, f => .cons (f _ List.mem_cons_self _ r) (Paired.imp' t fun a h => f a (List.mem_cons_of_mem _ h))
theorem Paired.get' {α β : Type} {F : α → β → Prop} : ∀ {l : List α} {m : List β} {i : Nat} {x : α}, Paired F l m → l[i]? = some x → ∃ y, m[i]? = some y ∧ F x y
  | _, _, _, _, .nil, e => by simp at e
  | _, _, 0, _, .cons r _, e => by simp at e; subst e; exact ⟨_, rfl, r⟩
  | _, _, i + 1, x, .cons _ t, e => by
    obtain ⟨v, h1, h2⟩ := Paired.get' (i := i) (x := x) t (by simpa using e)
    exact ⟨v, by simpa using h1, h2⟩
theorem Paired.set' {α β : Type} {F : α → β → Prop} {x : α} {y : β} (r : F x y) : ∀ {l : List α} {m : List β} (i : Nat), Paired F l m → Paired F (l.set i x) (m.set i y)
  | _, _, _, .nil => .nil
  | _, _, 0, .cons _ t => .cons r t
  | _, _, i + 1, .cons q t => .cons q (Paired.set' r i t)
theorem EOk.ex (h : EOk K M H ρ σ) (e : Ex K H H') : EOk K M H' ρ σ := Paired.imp' h fun _ _ _ r => r.ex e
theorem EOk.get {i : Nat} {s : Sl} (h : EOk K M H ρ σ) (e : ρ[i]? = some s) : ∃ o, σ[i]? = some o ∧ SlOk K M H s o := Paired.get' h e
theorem EOk.set {i : Nat} {s : Sl} {o : Option V} (h : EOk K M H ρ σ) (r : SlOk K M H s o) : EOk K M H (ρ.set i s) (σ.set i o) := Paired.set' r i h
theorem mem_owns {a : Addr} : a ∈ owns ρ ↔ ∃ s ∈ ρ, a ∈ s.adr := by unfold owns; exact List.mem_flatMap
/-- fewer addresses are hidden -/
theorem SlOk.less {s : Sl} {o : Option V} (h : SlOk K M H s o) (sub : ∀ a ∈ M', a ∈ M) (k : ∀ a ∈ s.adr, a ∈ M') : SlOk K M' H s o := by
  have e : Kp (hid H M) (hid H M') := hid_less sub
  cases s with
  | no => trivial
  | dat d => obtain ⟨v, e1, r⟩ := h; exact ⟨v, e1, r.ex e⟩
  | own a xs => obtain ⟨e1, m, vs, q, r⟩ := h; exact ⟨e1, k a (by simp [Sl.adr]), vs, q, r.ex e⟩
  | ownT a ks xs => obtain ⟨e1, m, vs, q, l, r⟩ := h; exact ⟨e1, k a (by simp [Sl.adr]), vs, q, l, r.ex e⟩
  | ownK a ks xs => obtain ⟨e1, m, vs, q, l, r⟩ := h; exact ⟨e1, k a (by simp [Sl.adr]), vs, q, l, r.ex e⟩
  | ownG a R => obtain ⟨e1, m, u, q, n, r⟩ := h; exact ⟨e1, k a (by simp [Sl.adr]), u, q, n, fun G g => r G (e.trans g)⟩
  | deep as d => obtain ⟨v, e1, m, r⟩ := h; exact ⟨v, e1, fun a ha => k a ha, r.ups (fun a _ vs h => h) e⟩
  | raw v => exact h
  | fix v d => exact ⟨h.1, h.2.ex e⟩
theorem EOk.less (h : EOk K M H ρ σ) (sub : ∀ a ∈ M', a ∈ M) (k : ∀ a ∈ owns ρ, a ∈ M') : EOk K M' H ρ σ :=
  Paired.imp' h fun s hs _ r => r.less sub fun a ha => k a (mem_owns.mpr ⟨s, hs, ha⟩)
theorem EOk.owned (h : EOk K M H ρ σ) : ∀ a ∈ owns ρ, a ∈ M ∧ H a ≠ none := fun a ha => by
  obtain ⟨s, hs, ha⟩ := mem_owns.mp ha
  obtain ⟨i, hi⟩ := List.getElem?_of_mem hs
  obtain ⟨o, _, r⟩ := h.get hi
  cases s with
  | no => simp [Sl.adr] at ha
  | dat d => simp [Sl.adr] at ha
  | raw d => simp [Sl.adr] at ha
  | fix v d => simp [Sl.adr] at ha
  | deep as d =>
    obtain ⟨v, e1, m, r⟩ := r
    obtain ⟨vs, q⟩ := Own.at_ _ _ _ r a ha
    exact ⟨m a ha, by rw [q]; simp⟩
  | own b xs =>
    have e : a = b := by simpa [Sl.adr] using ha
    subst e
    obtain ⟨_, m, vs, q, _⟩ := r
    exact ⟨m, by rw [q]; simp⟩
  | ownT b ks xs =>
    have e : a = b := by simpa [Sl.adr] using ha
    subst e
    obtain ⟨_, m, vs, q, _⟩ := r
    exact ⟨m, by rw [q]; simp⟩
  | ownK b ks xs =>
    have e : a = b := by simpa [Sl.adr] using ha
    subst e
    obtain ⟨_, m, vs, q, _⟩ := r
    exact ⟨m, by rw [q]; simp⟩
  | ownG b R =>
    have e : a = b := by simpa [Sl.adr] using ha
    subst e
    obtain ⟨_, m, u, q, _⟩ := r
    exact ⟨m, by rw [q]; simp⟩
/-- a changes, no slot's but those that own it -/
theorem SlOk.mut {s : Sl} {o : Option V} {a : Addr} {u : HO} (h : SlOk K M H s o) (m : a ∈ M) (n : a ∉ s.adr) : SlOk K M (upd H a u) s o := by
  have e : Kp (hid H M) (hid (upd H a u) M) := hid_upd m
  cases s with
  | no => trivial
  | dat d => obtain ⟨v, e1, r⟩ := h; exact ⟨v, e1, r.ex e⟩
  | own b xs => obtain ⟨e1, m, vs, q, r⟩ := h; exact ⟨e1, m, vs, by rw [upd_ne (fun z => n (by simp [Sl.adr, z]))]; exact q, r.ex e⟩
  | ownT b ks xs => obtain ⟨e1, m, vs, q, l, r⟩ := h; exact ⟨e1, m, vs, by rw [upd_ne (fun z => n (by simp [Sl.adr, z]))]; exact q, l, r.ex e⟩
  | ownK b ks xs => obtain ⟨e1, m, vs, q, l, r⟩ := h; exact ⟨e1, m, vs, by rw [upd_ne (fun z => n (by simp [Sl.adr, z]))]; exact q, l, r.ex e⟩
  | ownG b R => obtain ⟨e1, m, u', q, n', r⟩ := h; exact ⟨e1, m, u', by rw [upd_ne (fun z => n (by simp [Sl.adr, z]))]; exact q, n', fun G g => r G (e.trans g)⟩
  | deep as d => obtain ⟨v, e1, m1, r⟩ := h; exact ⟨v, e1, m1, r.ups (fun b hb vs q => by rw [upd_ne (fun z : b = a => n (by rw [← z]; exact hb))]; exact q) e⟩
  | raw v => exact h
  | fix v d => exact ⟨h.1, h.2.ex e⟩
end
end Dl
/-! Judgements: what an expression, a test, arguments come to; what holds ahead of a statement. -/
namespace Dl
open PySem L2
variable {K : Cfg}
def EvD (K : Cfg) (t : TE) (ρ : Env) (d : D) : Prop := ∀ (M : List Addr) (σ : L2.St) (H : Hp), MOk K M H → EOk K M H ρ σ → ∀ Q : VK, (∀ v H2, Ex K H H2 → Rp K (hid H2 M) v d → Q v H2) → t σ H Q
def EvT (K : Cfg) (t : TT) (ρ : Env) (b : Bool) : Prop := ∀ (M : List Addr) (σ : L2.St) (H : Hp), MOk K M H → EOk K M H ρ σ → ∀ Q : Bool → Hp → Prop, (∀ H2, Ex K H H2 → Q b H2) → t σ H Q
def EvA (K : Cfg) (t : TA) (ρ : Env) (ds : List D) : Prop := ∀ (M : List Addr) (σ : L2.St) (H : Hp), MOk K M H → EOk K M H ρ σ → ∀ Q : List V → Hp → Prop, (∀ vs H2, Ex K H H2 → RpA K (hid H2 M) vs ds → Q vs H2) → t σ H Q
/-- a list's reference, hidden or not -/
def LsV (K : Cfg) (M : List Addr) (H : Hp) (v : V) (xs : List D) : Prop := ∃ a vs, v = .ref a ∧ H a = some (.lst vs) ∧ RpA K (hid H M) vs xs
def EvL (K : Cfg) (t : TE) (ρ : Env) (xs : List D) : Prop := ∀ (M : List Addr) (σ : L2.St) (H : Hp), MOk K M H → EOk K M H ρ σ → ∀ Q : VK, (∀ v H2, Ex K H H2 → LsV K M H2 v xs → Q v H2) → t σ H Q
/-- a list or a tuple -/
def SqV (K : Cfg) (M : List Addr) (H : Hp) (v : V) (xs : List D) : Prop := ∃ a vs, v = .ref a ∧ (SqL K H a vs ∨ SqT K H a vs) ∧ RpA K (hid H M) vs xs
def EvS (K : Cfg) (t : TE) (ρ : Env) (xs : List D) : Prop := ∀ (M : List Addr) (σ : L2.St) (H : Hp), MOk K M H → EOk K M H ρ σ → ∀ Q : VK, (∀ v H2, Ex K H H2 → SqV K M H2 v xs → Q v H2) → t σ H Q
/-- a dict with tuple keys -/
def DtV (K : Cfg) (M : List Addr) (H : Hp) (v : V) (ks : List (List Key)) (xs : List D) : Prop := ∃ a vs, v = .ref a ∧ H a = some (.dT (ks.zip vs)) ∧ ks.length = vs.length ∧ RpA K (hid H M) vs xs
def EvDt (K : Cfg) (t : TE) (ρ : Env) (ks : List (List Key)) (xs : List D) : Prop := ∀ (M : List Addr) (σ : L2.St) (H : Hp), MOk K M H → EOk K M H ρ σ → ∀ Q : VK, (∀ v H2, Ex K H H2 → DtV K M H2 v ks xs → Q v H2) → t σ H Q
/-- a value just so -/
def EvV (K : Cfg) (t : TE) (ρ : Env) (v : V) : Prop := ∀ (M : List Addr) (σ : L2.St) (H : Hp), MOk K M H → EOk K M H ρ σ → ∀ Q : VK, (∀ H2, Ex K H H2 → Q v H2) → t σ H Q
def EvO (K : Cfg) (t : TO) (ρ : Env) (o : Option Int) : Prop := ∀ (M : List Addr) (σ : L2.St) (H : Hp), MOk K M H → EOk K M H ρ σ → ∀ Q : Option Int → Hp → Prop, (∀ H2, Ex K H H2 → Q o H2) → t σ H Q
theorem Rp.lsV {M : List Addr} {H : Hp} {v : V} {xs : List D} (h : Rp K (hid H M) v (.lst xs)) : LsV K M H v xs := by
  cases h with
  | lst h1 h2 => exact ⟨_, _, rfl, (hid_some h1).2, h2⟩
theorem LsV.sqV {M : List Addr} {H : Hp} {v : V} {xs : List D} (h : LsV K M H v xs) : SqV K M H v xs := by
  obtain ⟨a, vs, e, q, r⟩ := h
  exact ⟨a, vs, e, .inl (sq_of q), r⟩
theorem Rp.sqV {M : List Addr} {H : Hp} {v : V} {xs : List D} (h : Rp K (hid H M) v (.tup xs)) : SqV K M H v xs := by
  cases h with
  | tup h1 h2 => exact ⟨_, _, rfl, .inr (st_of (hid_some h1).2), h2⟩
theorem LsV.ex {M : List Addr} {H H2 : Hp} {v : V} {xs : List D} (h : LsV K M H v xs) (e : Ex K H H2) : LsV K M H2 v xs := by
  obtain ⟨a, vs, e1, q, r⟩ := h
  exact ⟨a, vs, e1, e.kp.lst q, r.ex (hid_ex e)⟩
theorem SqV.ex {M : List Addr} {H H2 : Hp} {v : V} {xs : List D} (h : SqV K M H v xs) (e : Ex K H H2) : SqV K M H2 v xs := by
  obtain ⟨a, vs, e1, q, r⟩ := h
  exact ⟨a, vs, e1, q.imp (ex_l e.kp) (ex_t e.kp), r.ex (hid_ex e)⟩
theorem DtV.ex {M : List Addr} {H H2 : Hp} {v : V} {ks : List (List Key)} {xs : List D} (h : DtV K M H v ks xs) (e : Ex K H H2) : DtV K M H2 v ks xs := by
  obtain ⟨a, vs, e1, q, l, r⟩ := h
  exact ⟨a, vs, e1, e.kp.dT q, l, r.ex (hid_ex e)⟩
section
variable {ρ : Env} {ta tb te : TE} {d d' : D}
theorem EvD.l {xs : List D} (h : EvD K te ρ (.lst xs)) : EvL K te ρ xs := fun M σ H m e Q q => h M σ H m e Q fun v H2 e2 r => q v H2 e2 r.lsV
theorem EvL.s {xs : List D} (h : EvL K te ρ xs) : EvS K te ρ xs := fun M σ H m e Q q => h M σ H m e Q fun v H2 e2 r => q v H2 e2 r.sqV
theorem EvD.s {xs : List D} (h : EvD K te ρ (.lst xs)) : EvS K te ρ xs := h.l.s
theorem EvD.u {xs : List D} (h : EvD K te ρ (.tup xs)) : EvS K te ρ xs := fun M σ H m e Q q => h M σ H m e Q fun v H2 e2 r => q v H2 e2 r.sqV
theorem EvD.cast (h : EvD K te ρ d) (e : d = d') : EvD K te ρ d' := by rw [← e]; exact h
theorem EvT.cast {t : TT} {b b' : Bool} (h : EvT K t ρ b) (e : b = b') : EvT K t ρ b' := by rw [← e]; exact h
theorem EvL.cast {xs ys : List D} (h : EvL K te ρ xs) (e : xs = ys) : EvL K te ρ ys := by rw [← e]; exact h
theorem EvD.dt {ks : List (List Key)} {xs : List D} (h : EvD K te ρ (.dT ks xs)) : EvDt K te ρ ks xs := fun M σ H m e Q q => h M σ H m e Q fun v H2 e2 r => by
  cases r with
  | dT h1 h2 h3 => exact q _ H2 e2 ⟨_, _, rfl, (hid_some h1).2, h2, h3⟩
/-! names, constants -/
theorem ev_var {i : Nat} (h : ρ[i]? = some (.dat d)) : EvD K (tVar i) ρ d := fun M σ H m e Q q => by
  obtain ⟨o, e1, v, rfl, r⟩ := e.get h
  exact ⟨v, e1, q v H Ex.refl r⟩
theorem el_own {i : Nat} {a : Addr} {xs : List D} (h : ρ[i]? = some (.own a xs)) : EvL K (tVar i) ρ xs := fun M σ H m e Q q => by
  obtain ⟨o, e1, rfl, _, vs, q1, r⟩ := e.get h
  exact ⟨_, e1, q _ H Ex.refl ⟨a, vs, rfl, q1, r⟩⟩
theorem edt_own {i : Nat} {a : Addr} {ks : List (List Key)} {xs : List D} (h : ρ[i]? = some (.ownT a ks xs)) : EvDt K (tVar i) ρ ks xs := fun M σ H m e Q q => by
  obtain ⟨o, e1, rfl, _, vs, q1, l, r⟩ := e.get h
  exact ⟨_, e1, q _ H Ex.refl ⟨a, vs, rfl, q1, l, r⟩⟩
theorem evv_own {i : Nat} {a : Addr} {xs : List D} (h : ρ[i]? = some (.own a xs)) : EvV K (tVar i) ρ (.ref a) := fun M σ H m e Q q => by
  obtain ⟨o, e1, rfl, _, vs, q1, r⟩ := e.get h
  exact ⟨_, e1, q H Ex.refl⟩
theorem evv_raw {i : Nat} {v : V} (h : ρ[i]? = some (.raw v)) : EvV K (tVar i) ρ v := fun M σ H m e Q q => by
  obtain ⟨o, e1, rfl⟩ := e.get h
  exact ⟨_, e1, q H Ex.refl⟩
theorem evv_c {v : V} : EvV K (tC v) ρ v := fun M σ H m e Q q => q H Ex.refl
theorem ev_int {i : Int} : EvD K (tC (.int i)) ρ (.int i) := fun M σ H m e Q q => q _ H Ex.refl (.int i)
theorem ev_bl {b : Bool} : EvD K (tC (.bl b)) ρ (.bl b) := fun M σ H m e Q q => q _ H Ex.refl (.bl b)
theorem ev_non : EvD K (tC .non) ρ .non := fun M σ H m e Q q => q _ H Ex.refl .non
theorem ev_str {x : Str} : EvD K (tC (.str x)) ρ (.str x) := fun M σ H m e Q q => q _ H Ex.refl (.str x)
/-! arguments, displays -/
theorem ea_nil : EvA K tNil ρ [] := fun M σ H m e Q q => q [] H Ex.refl .nil
theorem ea_cons {t : TA} {ds : List D} (h : EvD K te ρ d) (ht : EvA K t ρ ds) : EvA K (tCons te t) ρ (d :: ds) := fun M σ H m e Q q =>
  h M σ H m e _ fun v H1 e1 r1 => ht M σ H1 (m.ex e1) (e.ex e1) _ fun vs H2 e2 r2 => q _ H2 (e1.trans e2) (.cons (r1.ex (hid_ex e2)) r2)
theorem new_lst {M : List Addr} {H H1 : Hp} {vs : List V} {ds : List D} {Q : VK} (m : MOk K M H1) (e : Ex K H H1) (r : RpA K (hid H1 M) vs ds) (q : ∀ v H2, Ex K H H2 → Rp K (hid H2 M) v (.lst ds) → Q v H2) :
    ∀ p, H1 p = none → Q (.ref p) (upd H1 p (.lst vs)) := fun p hp => q _ _ (e.trans (Ex.new hp)) (.lst (hid_new m hp) (r.ex (hid_kp (Kp.new hp))))
theorem new_tup {M : List Addr} {H H1 : Hp} {vs : List V} {ds : List D} {Q : VK} (m : MOk K M H1) (e : Ex K H H1) (r : RpA K (hid H1 M) vs ds) (q : ∀ v H2, Ex K H H2 → Rp K (hid H2 M) v (.tup ds) → Q v H2) :
    ∀ p, H1 p = none → Q (.ref p) (upd H1 p (.tup vs)) := fun p hp => q _ _ (e.trans (Ex.new hp)) (.tup (hid_new m hp) (r.ex (hid_kp (Kp.new hp))))
theorem ev_tup {t : TA} {ds : List D} (h : EvA K t ρ ds) (hl : ds.length ≤ 100000) : EvD K (tTup t) ρ (.tup ds) := fun M σ H m e Q q =>
  h M σ H m e _ fun vs H1 e1 r => ⟨sz_of (by rw [r.len]; exact hl), new_tup (m.ex e1) e1 r q⟩
theorem ev_lst {t : TA} {ds : List D} (h : EvA K t ρ ds) (hl : ds.length ≤ 100000) : EvD K (tLst t) ρ (.lst ds) := fun M σ H m e Q q =>
  h M σ H m e _ fun vs H1 e1 r => ⟨sz_of (by rw [r.len]; exact hl), new_lst (m.ex e1) e1 r q⟩
theorem ea_star {t : TA} {xs ds : List D} (h : EvS K te ρ xs) (ht : EvA K t ρ ds) : EvA K (StX.tStar K te t) ρ (xs ++ ds) := fun M σ H m e Q q =>
  h M σ H m e _ fun v H1 e1 r1 => by
    obtain ⟨a, vs, rfl, hs, r⟩ := r1
    exact ⟨a, vs, rfl, hs.symm, ht M σ H1 (m.ex e1) (e.ex e1) _ fun ws H2 e2 r2 => q _ H2 (e1.trans e2) ((r.ex (hid_ex e2)).app r2)⟩
/-! operators -/
theorem ev_opI {g : Int → Int → V} {i j : Int} {z : D} (ha : EvD K ta ρ (.int i)) (hb : EvD K tb ρ (.int j)) (hz : ∀ H, Rp K H (g i j) z) : EvD K (tOp (rI0 g) ta tb) ρ z := fun M σ H m e Q q =>
  ha M σ H m e _ fun v H1 e1 r1 => by
    cases r1
    exact hb M σ H1 (m.ex e1) (e.ex e1) _ fun w H2 e2 r2 => by
      cases r2
      exact ⟨i, j, rfl, rfl, q _ H2 (e1.trans e2) (hz _)⟩
theorem ev_opC {C : Int → Int → Prop} {g : Int → Int → V} {i j : Int} {z : D} (ha : EvD K ta ρ (.int i)) (hb : EvD K tb ρ (.int j)) (hc : C i j) (hz : ∀ H, Rp K H (g i j) z) : EvD K (tOp (rI C g) ta tb) ρ z := fun M σ H m e Q q =>
  ha M σ H m e _ fun v H1 e1 r1 => by
    cases r1
    exact hb M σ H1 (m.ex e1) (e.ex e1) _ fun w H2 e2 r2 => by
      cases r2
      exact ⟨i, j, rfl, rfl, hc, q _ H2 (e1.trans e2) (hz _)⟩
theorem ev_neg {i : Int} (ha : EvD K ta ρ (.int i)) : EvD K (tUn (rU fun i => .int (-i)) ta) ρ (.int (-i)) := fun M σ H m e Q q =>
  ha M σ H m e _ fun v H1 e1 r1 => by
    cases r1
    exact ⟨i, rfl, q _ H1 e1 (.int _)⟩
/-- two lists glued -/
theorem ev_cat {xs ys : List D} (ha : EvL K ta ρ xs) (hb : EvL K tb ρ ys) (hl : xs.length + ys.length ≤ 100000) : EvD K (tOp rCat ta tb) ρ (.lst (xs ++ ys)) := fun M σ H m e Q q =>
  ha M σ H m e _ fun v H1 e1 r1 => hb M σ H1 (m.ex e1) (e.ex e1) _ fun w H2 e2 r2 => by
    obtain ⟨a, vs, rfl, h1, r1⟩ := r1.ex e2
    obtain ⟨b, ws, rfl, h2, r2⟩ := r2
    exact ⟨a, b, vs, ws, rfl, rfl, h1, h2, sz_of (by rw [r1.len, r2.len]; exact hl), new_lst ((m.ex e1).ex e2) (e1.trans e2) (r1.app r2) q⟩
/-- a list times a number -/
theorem rp_rep {H : Hp} {vs : List V} {xs : List D} (r : RpA K H vs xs) : ∀ n : Nat, RpA K H (List.replicate n vs).flatten (List.replicate n xs).flatten
  | 0 => .nil
  | n + 1 => by
    rw [List.replicate_succ, List.replicate_succ, List.flatten_cons, List.flatten_cons]
    exact r.app (rp_rep r n)
theorem ev_rep {xs : List D} {n : Nat} (ha : EvL K ta ρ xs) (hb : EvD K tb ρ (.int n)) (hl : xs.length * n ≤ 100000) (hn : n ≤ 100000) : EvD K (tOp rRep ta tb) ρ (.lst (List.replicate n xs).flatten) := fun M σ H m e Q q =>
  ha M σ H m e _ fun v H1 e1 r1 => hb M σ H1 (m.ex e1) (e.ex e1) _ fun w H2 e2 r2 => by
    obtain ⟨a, vs, rfl, h1, r1⟩ := r1.ex e2
    cases r2
    exact ⟨a, n, vs, rfl, rfl, h1, by omega, by omega, sz_of (by rw [r1.len]; simpa using hl), by
      rw [show ((n : Int)).toNat = n by omega]
      exact new_lst ((m.ex e1).ex e2) (e1.trans e2) (rp_rep r1 n) q⟩
/-! tests -/
theorem et_test {b : Bool} (h : EvD K te ρ (.bl b)) : EvT K (tTest te) ρ b := fun M σ H m e Q q => h M σ H m e _ fun v H1 e1 r => by
  cases r
  exact ⟨b, rfl, q H1 e1⟩
theorem et_B {b : Bool} (h : EvD K te ρ (.bl b)) : EvT K (tB te) ρ b := fun M σ H m e Q q => h M σ H m e _ fun v H1 e1 r => by
  cases r
  exact ⟨b, rfl, q H1 e1⟩
theorem et_and {t u : TT} {a b : Bool} (h1 : EvT K t ρ a) (h2 : a = true → EvT K u ρ b) : EvT K (L2.tAnd t u) ρ (a && b) := fun M σ H m e Q q => h1 M σ H m e _ fun H1 e1 => by
  cases a with
  | true =>
    show u σ H1 Q
    exact h2 rfl M σ H1 (m.ex e1) (e.ex e1) Q fun H2 e2 => q H2 (e1.trans e2)
  | false =>
    show Q false H1
    exact q H1 e1
theorem et_or {t u : TT} {a b : Bool} (h1 : EvT K t ρ a) (h2 : a = false → EvT K u ρ b) : EvT K (L2.tOr t u) ρ (a || b) := fun M σ H m e Q q => h1 M σ H m e _ fun H1 e1 => by
  cases a with
  | true =>
    show Q true H1
    exact q H1 e1
  | false =>
    show u σ H1 Q
    exact h2 rfl M σ H1 (m.ex e1) (e.ex e1) Q fun H2 e2 => q H2 (e1.trans e2)
theorem et_not {t : TT} {a : Bool} (h1 : EvT K t ρ a) : EvT K (L2.tNot t) ρ (!a) := fun M σ H m e Q q => h1 M σ H m e _ fun H1 e1 => q H1 e1
theorem et_yes : EvT K tYes ρ true := fun M σ H m e Q q => q H Ex.refl
theorem ev_andV {a b : Bool} (h1 : EvD K ta ρ (.bl a)) (h2 : a = true → EvD K tb ρ (.bl b)) : EvD K (tAndV ta tb) ρ (.bl (a && b)) := fun M σ H m e Q q => h1 M σ H m e _ fun v H1 e1 r => by
  cases r
  refine ⟨a, rfl, ?_⟩
  cases a with
  | true =>
    show tb σ H1 Q
    exact h2 rfl M σ H1 (m.ex e1) (e.ex e1) Q fun v H2 e2 => q v H2 (e1.trans e2)
  | false =>
    show Q (.bl false) H1
    exact q _ H1 e1 (.bl false)
theorem ev_orV {a b : Bool} (h1 : EvD K ta ρ (.bl a)) (h2 : a = false → EvD K tb ρ (.bl b)) : EvD K (tOrV ta tb) ρ (.bl (a || b)) := fun M σ H m e Q q => h1 M σ H m e _ fun v H1 e1 r => by
  cases r
  refine ⟨a, rfl, ?_⟩
  cases a with
  | true =>
    show Q (.bl true) H1
    exact q _ H1 e1 (.bl true)
  | false =>
    show tb σ H1 Q
    exact h2 rfl M σ H1 (m.ex e1) (e.ex e1) Q fun v H2 e2 => q v H2 (e1.trans e2)
theorem ev_notV {a : Bool} (h1 : EvD K ta ρ (.bl a)) : EvD K (tNotV ta) ρ (.bl (!a)) := fun M σ H m e Q q => h1 M σ H m e _ fun v H1 e1 r => by
  cases r
  exact ⟨a, rfl, q _ H1 e1 (.bl _)⟩
theorem ev_if {t : TT} {b : Bool} (h : EvT K t ρ b) (h1 : b = true → EvD K ta ρ d) (h2 : b = false → EvD K tb ρ d') : EvD K (tIf t ta tb) ρ (if b = true then d else d') := fun M σ H m e Q q => h M σ H m e _ fun H1 e1 => by
  cases b with
  | true =>
    show ta σ H1 Q
    exact h1 rfl M σ H1 (m.ex e1) (e.ex e1) Q fun v H2 e2 r => q v H2 (e1.trans e2) r
  | false =>
    show tb σ H1 Q
    exact h2 rfl M σ H1 (m.ex e1) (e.ex e1) Q fun v H2 e2 r => q v H2 (e1.trans e2) r
theorem ev_chain {r r' : R2} {tc : TE} {d1 d2 d3 : D} {a b : Bool} (ha : EvD K ta ρ d1) (hb : EvD K tb ρ d2) (hc : EvD K tc ρ d3)
    (hr : ∀ (M : List Addr) (H : Hp) (x y : V), MOk K M H → Rp K (hid H M) x d1 → Rp K (hid H M) y d2 → ∀ Q : VK, Q (.bl a) H → r x y H Q)
    (hr' : a = true → ∀ (M : List Addr) (H : Hp) (x y : V), MOk K M H → Rp K (hid H M) x d2 → Rp K (hid H M) y d3 → ∀ Q : VK, Q (.bl b) H → r' x y H Q) : EvD K (tChain r r' ta tb tc) ρ (.bl (a && b)) := fun M σ H m e Q q =>
  ha M σ H m e _ fun x H1 e1 r1 => hb M σ H1 (m.ex e1) (e.ex e1) _ fun y H2 e2 r2 => hr M H2 x y ((m.ex e1).ex e2) (r1.ex (hid_ex e2)) r2 _ ⟨a, rfl, by
    cases a with
    | true =>
      exact hc M σ H2 ((m.ex e1).ex e2) ((e.ex e1).ex e2) _ fun z H3 e3 r3 => hr' rfl M H3 y z (((m.ex e1).ex e2).ex e3) (r2.ex (hid_ex e3)) r3 _ (q _ H3 ((e1.trans e2).trans e3) (.bl b))
    | false => exact q _ H2 (e1.trans e2) (.bl false)⟩
/-! parts of slices -/
theorem eo_none : EvO K tNoPart ρ none := fun M σ H m e Q q => q H Ex.refl
theorem eo_some {i : Int} (h : EvD K te ρ (.int i)) : EvO K (tPart te) ρ (some i) := fun M σ H m e Q q => h M σ H m e _ fun v H1 e1 r => by
  cases r
  exact ⟨i, rfl, q H1 e1⟩
end
end Dl
/-! What holds ahead of a statement; loops; comprehensions; calls. -/
namespace Dl
open PySem L2
variable {K : Cfg}
/-- the frame's slots are ρ; B stays; what ρ owns is none of B's nor of M's -/
structure StOk (K : Cfg) (B : Hp) (M : List Addr) (ρ : Env) (σ : L2.St) (H : Hp) : Prop where
  ex : Ge B H
  fr : ∀ a ∈ owns ρ, B a = none
  nd : (owns ρ).Nodup
  ap : ∀ a ∈ owns ρ, a ∉ M
  mo : MOk K M H
  ev : EOk K (owns ρ ++ M) H ρ σ
theorem StOk.mok {B H : Hp} {M : List Addr} {ρ : Env} {σ : L2.St} (s : StOk K B M ρ σ H) : MOk K (owns ρ ++ M) H := ⟨fun a h => by
  rcases List.mem_append.mp h with h | h
  · exact (s.ev.owned a h).2
  · exact s.mo.m a h, s.mo.t⟩
theorem StOk.less {B B' H : Hp} {M : List Addr} {ρ : Env} {σ : L2.St} (s : StOk K B' M ρ σ H) (e : Ge B B') : StOk K B M ρ σ H :=
  ⟨e.trans s.ex, fun a h => e.back (s.fr a h), s.nd, s.ap, s.mo, s.ev⟩
theorem StOk.grow {B H H2 : Hp} {M : List Addr} {ρ : Env} {σ : L2.St} (s : StOk K B M ρ σ H) (e : Ex K H H2) : StOk K B M ρ σ H2 :=
  ⟨s.ex.trans e.ge, s.fr, s.nd, s.ap, s.mo.ex e, s.ev.ex e⟩
def Hold (K : Cfg) (B : Hp) (M : List Addr) (ρ : Env) (P : L2.St → Hp → Prop) : Prop := ∀ B', Ge B B' → ∀ σ H, StOk K B' M ρ σ H → P σ H
theorem Hold.mono {B B' : Hp} {M : List Addr} {ρ : Env} {P : L2.St → Hp → Prop} (h : Hold K B M ρ P) (e : Ge B B') : Hold K B' M ρ P := fun C c => h C (e.trans c)
/-- what is wanted of a returned d -/
def Rets (K : Cfg) (B : Hp) (M : List Addr) (De : Ends) (d : D) : Prop := ∀ v H2, Ge B H2 → LamX.Tabs K.T H2 → Rp K (hid H2 M) v d → De.rt v H2
theorem Rets.mono {B B' : Hp} {M : List Addr} {De : Ends} {d : D} (h : Rets K B M De d) (e : Ge B B') : Rets K B' M De d := fun v H2 x t r => h v H2 (e.trans x) t r
/-! owned addresses of a changed environment -/
theorem owns_set_sub {ρ : Env} {i : Nat} {s : Sl} {a : Addr} (h : a ∈ owns (ρ.set i s)) : a ∈ owns ρ ∨ a ∈ s.adr := by
  obtain ⟨t, ht, ha⟩ := mem_owns.mp h
  rcases List.mem_or_eq_of_mem_set ht with h1 | h1
  · exact .inl (mem_owns.mpr ⟨t, h1, ha⟩)
  · exact .inr (h1 ▸ ha)
theorem owns_nil_cons (s : Sl) (ρ : Env) : owns (s :: ρ) = s.adr ++ owns ρ := rfl
theorem owns_set_nd : ∀ {ρ : Env} (i : Nat) {s : Sl}, (owns ρ).Nodup → s.adr.Nodup → (∀ a ∈ s.adr, ∀ j t, j ≠ i → ρ[j]? = some t → a ∉ t.adr) → (owns (ρ.set i s)).Nodup
  | [], _, _, h, _, _ => h
  | t :: ρ, 0, s, h, hs, ha => by
    show (owns (s :: ρ)).Nodup
    rw [owns_nil_cons] at h ⊢
    refine List.nodup_append.mpr ⟨hs, (List.nodup_append.mp h).2.1, fun a ha1 b hb e => ?_⟩
    subst e
    obtain ⟨u, hu, hau⟩ := mem_owns.mp hb
    obtain ⟨j, hj⟩ := List.getElem?_of_mem hu
    exact ha a ha1 (j + 1) u (by omega) (by simpa using hj) hau
  | t :: ρ, i + 1, s, h, hs, ha => by
    show (owns (t :: ρ.set i s)).Nodup
    rw [owns_nil_cons] at h ⊢
    have hh := List.nodup_append.mp h
    refine List.nodup_append.mpr ⟨hh.1, owns_set_nd i hh.2.1 hs fun a ha1 j u hj hu => ha a ha1 (j + 1) u (by omega) (by simpa using hu), fun a ha1 b hb e => ?_⟩
    subst e
    rcases owns_set_sub hb with h1 | h1
    · exact hh.2.2 a ha1 a h1 rfl
    · exact ha a h1 0 t (by omega) rfl ha1
section
variable {B : Hp} {M : List Addr} {ρ : Env} {σ : L2.St} {H : Hp} {d : D} {De : Ends} {te ta tb : TE}
/-- a slot without a share of its own is stored -/
theorem StOk.set {i : Nat} {s : Sl} {o : Option V} (st : StOk K B M ρ σ H) (hs : s.adr = []) (r : SlOk K (owns ρ ++ M) H s o) : StOk K B M (ρ.set i s) (σ.set i o) H := by
  have sub : ∀ a ∈ owns (ρ.set i s), a ∈ owns ρ := fun a h => by
    rcases owns_set_sub h with h | h
    · exact h
    · rw [hs] at h; cases h
  refine ⟨st.ex, fun a h => st.fr a (sub a h), owns_set_nd i st.nd (by rw [hs]; exact List.nodup_nil) (by rw [hs]; intro a h; cases h), fun a h => st.ap a (sub a h), st.mo, ?_⟩
  refine (st.ev.set r).less (fun a h => ?_) fun a h => List.mem_append_left _ h
  rcases List.mem_append.mp h with h | h
  · exact List.mem_append_left _ (sub a h)
  · exact List.mem_append_right _ h
/-- a new object that the slot owns is stored -/
theorem StOk.setOwn {i : Nat} {s : Sl} {o : Option V} {p : Addr} (st : StOk K B M ρ σ H) (hs : s.adr = [p]) (hp : B p = none) (hm : p ∉ M) (hn : p ∉ owns ρ) (r : SlOk K (p :: (owns ρ ++ M)) H s o) (hev : EOk K (p :: (owns ρ ++ M)) H ρ σ) : StOk K B M (ρ.set i s) (σ.set i o) H := by
  have sub : ∀ a ∈ owns (ρ.set i s), a ∈ owns ρ ∨ a = p := fun a h => by
    rcases owns_set_sub h with h | h
    · exact .inl h
    · rw [hs] at h; exact .inr (by simpa using h)
  refine ⟨st.ex, fun a h => (sub a h).elim (st.fr a) (fun e => e ▸ hp), owns_set_nd i st.nd (by rw [hs]; simp) ?_, fun a h => (sub a h).elim (st.ap a) (fun e => e ▸ hm), st.mo, ?_⟩
  · rw [hs]
    intro a ha j t hj ht hat
    have e : a = p := by simpa using ha
    subst e
    exact hn (mem_owns.mpr ⟨t, List.mem_of_getElem? ht, hat⟩)
  · refine (hev.set r).less (fun a h => ?_) fun a h => List.mem_append_left _ h
    rcases List.mem_append.mp h with h | h
    · rcases sub a h with h | h
      · exact List.mem_cons_of_mem _ (List.mem_append_left _ h)
      · rw [h]; exact List.mem_cons_self
    · exact List.mem_cons_of_mem _ (List.mem_append_right _ h)
/-! statements -/
theorem h_seq {t u : TS} (h : Hold K B M ρ (t { De with nx := u De })) : Hold K B M ρ (tSeq t u De) := h
theorem h_next (h : Hold K B M ρ De.nx) : Hold K B M ρ (tNext De) := h
theorem h_set {i : Nat} (h : EvD K te ρ d) (k : Hold K B M (ρ.set i (.dat d)) De.nx) : Hold K B M ρ (tAsg te (gName i) De) := fun B' b σ H st =>
  h _ σ H st.mok st.ev _ fun v H1 e1 r => k B' b _ H1 ((st.grow e1).set rfl ⟨v, rfl, r⟩)
theorem h_drop (h : EvD K te ρ d) (k : Hold K B M ρ De.nx) : Hold K B M ρ (tDrop te De) := fun B' b σ H st =>
  h _ σ H st.mok st.ev _ fun v H1 e1 r => k B' b _ H1 (st.grow e1)
theorem h_if {t : TT} {u w : TS} {b : Bool} (h : EvT K t ρ b) (h1 : b = true → Hold K B M ρ (u De)) (h2 : b = false → Hold K B M ρ (w De)) : Hold K B M ρ (tIfS t u w De) := fun B' x σ H st =>
  h _ σ H st.mok st.ev _ fun H1 e1 => by
    cases b with
    | true =>
      show u De σ H1
      exact h1 rfl B' x σ H1 (st.grow e1)
    | false =>
      show w De σ H1
      exact h2 rfl B' x σ H1 (st.grow e1)
theorem h_ret (h : EvD K te ρ d) (k : Rets K B M De d) : Hold K B M ρ (tRet te De) := fun B' b σ H st =>
  h _ σ H st.mok st.ev _ fun v H1 e1 r => k v H1 ((b.trans st.ex).trans e1.ge) (e1.tb st.mo.t) (r.ex (hid_less fun a h => List.mem_append_right _ h))
theorem h_retN (k : Rets K B M De .non) : Hold K B M ρ (tRetN De) := fun B' b σ H st => k .non H (b.trans st.ex) st.mo.t .non
/-- a returned list of ours -/
theorem LsV.rp {M' : List Addr} {v : V} {xs : List D} (h : LsV K M H v xs) (sub : ∀ a ∈ M', a ∈ M) (n : ∀ a, v = .ref a → a ∉ M') : Rp K (hid H M') v (.lst xs) := by
  obtain ⟨a, vs, rfl, q, r⟩ := h
  exact .lst (by rw [hid_out (n a rfl)]; exact q) (r.ex (hid_less sub))
theorem h_retOwn {i : Nat} {a : Addr} {xs : List D} (h : ρ[i]? = some (.own a xs)) (k : Rets K B M De (.lst xs)) : Hold K B M ρ (tRet (tVar i) De) := fun B' b σ H st => by
  obtain ⟨o, e1, rfl, _, vs, q1, r⟩ := st.ev.get h
  have ha : a ∈ owns ρ := mem_owns.mpr ⟨_, List.mem_of_getElem? h, by simp [Sl.adr]⟩
  exact ⟨_, e1, k _ H (b.trans st.ex) st.mo.t (.lst (by rw [hid_out (st.ap a ha)]; exact q1) (r.ex (hid_less fun c hc => List.mem_append_right _ hc)))⟩
theorem h_retOwnT {i : Nat} {a : Addr} {ks : List (List Key)} {xs : List D} (h : ρ[i]? = some (.ownT a ks xs)) (k : Rets K B M De (.dT ks xs)) : Hold K B M ρ (tRet (tVar i) De) := fun B' b σ H st => by
  obtain ⟨o, e1, rfl, _, vs, q1, l, r⟩ := st.ev.get h
  have ha : a ∈ owns ρ := mem_owns.mpr ⟨_, List.mem_of_getElem? h, by simp [Sl.adr]⟩
  exact ⟨_, e1, k _ H (b.trans st.ex) st.mo.t (.dT (by rw [hid_out (st.ap a ha)]; exact q1) l (r.ex (hid_less fun c hc => List.mem_append_right _ hc)))⟩
/-- no two slots own one -/
theorem owns_inj {a : Addr} : ∀ {ρ : Env} {i j : Nat} {s t : Sl}, (owns ρ).Nodup → i ≠ j → ρ[i]? = some s → ρ[j]? = some t → a ∈ s.adr → a ∈ t.adr → False
  | [], i, j, s, t, _, _, h1, _, _, _ => by simp at h1
  | x :: ρ, 0, 0, s, t, _, hij, _, _, _, _ => hij rfl
  | x :: ρ, 0, j + 1, s, t, nd, _, h1, h2, a1, a2 => by
    rw [owns_nil_cons] at nd
    have e : x = s := by simpa using h1
    subst e
    exact (List.nodup_append.mp nd).2.2 a a1 a (mem_owns.mpr ⟨t, List.mem_of_getElem? (i := j) (by simpa using h2), a2⟩) rfl
  | x :: ρ, i + 1, 0, s, t, nd, _, h1, h2, a1, a2 => by
    rw [owns_nil_cons] at nd
    have e : x = t := by simpa using h2
    subst e
    exact (List.nodup_append.mp nd).2.2 a a2 a (mem_owns.mpr ⟨s, List.mem_of_getElem? (i := i) (by simpa using h1), a1⟩) rfl
  | x :: ρ, i + 1, j + 1, s, t, nd, hij, h1, h2, a1, a2 => by
    rw [owns_nil_cons] at nd
    exact owns_inj (ρ := ρ) (i := i) (j := j) (List.nodup_append.mp nd).2.1 (by omega) (by simpa using h1) (by simpa using h2) a1 a2
theorem set_self {σ : L2.St} {i : Nat} {o : Option V} (h : σ[i]? = some o) : σ.set i o = σ := by
  obtain ⟨h1, h2⟩ := List.getElem?_eq_some_iff.mp h
  rw [← h2]
  exact List.set_getElem_self h1
/-- what a slot owns is ours no more: it is data from here on -/
theorem StOk.freeze {i : Nat} {a : Addr} {s : Sl} {v : V} {d : D} (st : StOk K B M ρ σ H) (h : ρ[i]? = some s) (hs : s.adr = [a]) (hσ : σ[i]? = some (some v)) (hr : ∀ M', (∀ c ∈ M', c ∈ owns ρ ++ M) → a ∉ M' → Rp K (hid H M') v d) : StOk K B M (ρ.set i (.dat d)) σ H := by
  have ha : a ∈ owns ρ := mem_owns.mpr ⟨_, List.mem_of_getElem? h, by rw [hs]; simp⟩
  have at_ : ∀ (u : Sl) {j : Nat} {t : Sl}, (ρ.set i u)[j]? = some t → (j = i ∧ t = u) ∨ (j ≠ i ∧ ρ[j]? = some t) := fun u j t hj => by
    by_cases hji : j = i
    · subst hji
      rw [List.getElem?_set_self (List.getElem?_eq_some_iff.mp h).1] at hj
      exact .inl ⟨rfl, (Option.some.inj hj).symm⟩
    · rw [List.getElem?_set_ne (Ne.symm hji)] at hj
      exact .inr ⟨hji, hj⟩
  have nin : a ∉ owns (ρ.set i (.dat d)) := fun z => by
    obtain ⟨t, ht, hat⟩ := mem_owns.mp z
    obtain ⟨j, hj⟩ := List.getElem?_of_mem ht
    rcases at_ _ hj with ⟨_, e⟩ | ⟨n, hj⟩
    · rw [e] at hat; simp [Sl.adr] at hat
    · exact owns_inj st.nd (Ne.symm n) h hj (by rw [hs]; simp) hat
  have sub : ∀ c ∈ owns (ρ.set i (.dat d)), c ∈ owns ρ := fun c hc => by
    rcases owns_set_sub hc with hc | hc
    · exact hc
    · simp [Sl.adr] at hc
  have sub2 : ∀ c ∈ owns (ρ.set i (.dat d)) ++ M, c ∈ owns ρ ++ M := fun c hc => by
    rcases List.mem_append.mp hc with hc | hc
    · exact List.mem_append_left _ (sub c hc)
    · exact List.mem_append_right _ hc
  have nM : a ∉ owns (ρ.set i (.dat d)) ++ M := fun z => (List.mem_append.mp z).elim nin (st.ap a ha)
  refine ⟨st.ex, fun c hc => st.fr c (sub c hc), owns_set_nd i st.nd List.nodup_nil (fun c hc => by simp [Sl.adr] at hc), fun c hc => st.ap c (sub c hc), st.mo, ?_⟩
  have hno : EOk K (owns ρ ++ M) H (ρ.set i .no) (σ.set i (some v)) := st.ev.set trivial
  have step : EOk K (owns (ρ.set i (.dat d)) ++ M) H (ρ.set i .no) (σ.set i (some v)) := by
    refine hno.less sub2 fun c hc => List.mem_append_left _ ?_
    obtain ⟨t, ht, hat⟩ := mem_owns.mp hc
    obtain ⟨j, hj⟩ := List.getElem?_of_mem ht
    rcases at_ _ hj with ⟨_, e⟩ | ⟨n, hj⟩
    · rw [e] at hat; simp [Sl.adr] at hat
    · refine mem_owns.mpr ⟨t, List.mem_of_getElem? (i := j) ?_, hat⟩
      rw [List.getElem?_set_ne (Ne.symm n)]
      exact hj
  have fin := step.set (i := i) (s := .dat d) (o := some v) ⟨_, rfl, hr _ sub2 nM⟩
  rw [List.set_set, List.set_set, set_self hσ] at fin
  exact fin
/-- a list of ours is changed no more -/
theorem h_freeze (i : Nat) {a : Addr} {xs : List D} {P : L2.St → Hp → Prop} (h : ρ[i]? = some (.own a xs)) (k : Hold K B M (ρ.set i (.dat (.lst xs))) P) : Hold K B M ρ P := fun B' b σ H st => by
  obtain ⟨o, e1, rfl, _, vs, q1, r⟩ := st.ev.get h
  exact k B' b σ H (st.freeze h rfl e1 fun M' sub n => .lst (by rw [hid_out n]; exact q1) (r.ex (hid_less sub)))
theorem h_freezeT (i : Nat) {a : Addr} {ks : List (List Key)} {xs : List D} {P : L2.St → Hp → Prop} (h : ρ[i]? = some (.ownT a ks xs)) (k : Hold K B M (ρ.set i (.dat (.dT ks xs))) P) : Hold K B M ρ P := fun B' b σ H st => by
  obtain ⟨o, e1, rfl, _, vs, q1, l, r⟩ := st.ev.get h
  exact k B' b σ H (st.freeze h rfl e1 fun M' sub n => .dT (by rw [hid_out n]; exact q1) l (r.ex (hid_less sub)))
/-- slots are forgotten -/
def Sl.wk : Sl → Sl → Prop
  | .no, _ => True
  | s, t => s = t
theorem h_weak {ρ' : Env} {P : L2.St → Hp → Prop} (w : Paired (fun s t => s = .no ∨ s = t) ρ' ρ) (k : Hold K B M ρ' P) : Hold K B M ρ P := fun B' b σ H st => by
  have sub : ∀ {ρ' ρ : Env}, Paired (fun s t => s = Sl.no ∨ s = t) ρ' ρ → ∀ a ∈ owns ρ', a ∈ owns ρ := by
    intro ρ' ρ w
    induction w with
    | nil => intro a h; exact h
    | @cons s t l m r p ih =>
      intro a h
      rw [owns_nil_cons] at h ⊢
      rcases List.mem_append.mp h with h | h
      · rcases r with r | r
        · rw [r] at h; simp [Sl.adr] at h
        · exact List.mem_append_left _ (r ▸ h)
      · exact List.mem_append_right _ (ih a h)
  have nd : ∀ {ρ' ρ : Env}, Paired (fun s t => s = Sl.no ∨ s = t) ρ' ρ → (owns ρ).Nodup → (owns ρ').Nodup := by
    intro ρ' ρ w
    induction w with
    | nil => intro h; exact h
    | @cons s t l m r p ih =>
      intro h
      rw [owns_nil_cons] at h ⊢
      have hh := List.nodup_append.mp h
      rcases r with r | r
      · rw [r]
        exact ih hh.2.1
      · rw [r]
        exact List.nodup_append.mpr ⟨hh.1, ih hh.2.1, fun a ha b hb => hh.2.2 a ha b (sub p b hb)⟩
  have ev : ∀ {ρ' ρ : Env} {σ : L2.St} {N : List Addr}, Paired (fun s t => s = Sl.no ∨ s = t) ρ' ρ → EOk K N H ρ σ → EOk K N H ρ' σ := by
    intro ρ' ρ σ N w
    induction w generalizing σ with
    | nil => intro h; exact h
    | @cons s t l m r p ih =>
      intro h
      cases h with
      | cons h1 h2 =>
        refine .cons ?_ (ih h2)
        rcases r with r | r
        · rw [r]; trivial
        · rw [r]; exact h1
  refine k B' b σ H ⟨st.ex, fun a h => st.fr a (sub w a h), nd w st.nd, fun a h => st.ap a (sub w a h), st.mo, (ev w st.ev).less (fun a h => ?_) fun a h => List.mem_append_left _ h⟩
  rcases List.mem_append.mp h with h | h
  · exact List.mem_append_left _ (sub w a h)
  · exact List.mem_append_right _ h
/-! new lists and dicts of ours -/
theorem h_own {i : Nat} {xs : List D} (h : ∀ M' σ H, MOk K M' H → EOk K M' H ρ σ → ∀ Q : VK, (∀ p vs H2, H p = none → Ex K H H2 → H2 p = some (.lst vs) → RpA K (hid H2 (p :: M')) vs xs → Q (.ref p) H2) → te σ H Q)
    (k : ∀ p, B p = none → Hold K B M (ρ.set i (.own p xs)) De.nx) : Hold K B M ρ (tAsg te (gName i) De) := fun B' b σ H st =>
  h _ σ H st.mok st.ev _ fun p vs H2 hp e hq r => by
    have st2 := st.grow e
    have hpB : B' p = none := st.ex.back hp
    have hpM : p ∉ owns ρ ++ M := st.mok.new hp
    have low : ∀ (σ' : L2.St) (ρ' : Env), EOk K (owns ρ ++ M) H ρ' σ' → EOk K (p :: (owns ρ ++ M)) H2 ρ' σ' := fun σ' ρ' ev => by
      have e2 : Kp (hid H (owns ρ ++ M)) (hid H2 (p :: (owns ρ ++ M))) := fun a o q n => by
        obtain ⟨m, q⟩ := hid_some q
        have na : a ∉ p :: (owns ρ ++ M) := fun z => by
          rcases List.mem_cons.mp z with z | z
          · rw [z, hp] at q; cases q
          · exact m z
        rw [hid_out na]
        exact e.kp a o q n
      refine Paired.imp' ev fun s _ o r => ?_
      cases s with
      | no => trivial
      | dat d => obtain ⟨v, e1, r⟩ := r; exact ⟨v, e1, r.ex e2⟩
      | own a xs => obtain ⟨e1, m, vs, q, r⟩ := r; exact ⟨e1, List.mem_cons_of_mem _ m, vs, e.kp.lst q, r.ex e2⟩
      | ownT a ks xs => obtain ⟨e1, m, vs, q, l, r⟩ := r; exact ⟨e1, List.mem_cons_of_mem _ m, vs, e.kp.dT q, l, r.ex e2⟩
      | ownK a ks xs => obtain ⟨e1, m, vs, q, l, r⟩ := r; exact ⟨e1, List.mem_cons_of_mem _ m, vs, e.kp.dK q, l, r.ex e2⟩
      | ownG a R => obtain ⟨e1, m, u, q, n, r⟩ := r; exact ⟨e1, List.mem_cons_of_mem _ m, u, e.kp _ _ q n, n, fun G g => r G (e2.trans g)⟩
      | raw v => exact r
      | fix v d => exact ⟨r.1, r.2.ex e2⟩
      | deep as d => obtain ⟨v, e1, m, r⟩ := r; exact ⟨v, e1, fun a h => List.mem_cons_of_mem _ (m a h), r.ups (fun a _ vs h => e.kp.lst h) e2⟩
    exact k p (b.back hpB) B' b _ H2 (st2.setOwn rfl hpB (fun z => hpM (List.mem_append_right _ z)) (fun z => hpM (List.mem_append_left _ z)) ⟨rfl, List.mem_cons_self, vs, hq, r⟩ (low σ ρ st.ev))
end
end Dl
/-! What is walked; targets; comprehensions; loops; calls; a def's promise. -/
namespace Dl
open PySem L2
variable {K : Cfg}
/-! ### targets -/
/-- d bound by g turns ρ to ρ'; slots at ix alone change -/
structure Bnd (K : Cfg) (g : TG) (d : D) (ρ ρ' : Env) (ix : List Nat) : Prop where
  run : ∀ (M : List Addr) (σ : L2.St) (H : Hp) (v : V), MOk K M H → EOk K M H ρ σ → Rp K (hid H M) v d → ∀ Q : L2.St → Hp → Prop, (∀ σ', EOk K M H ρ' σ' → (∀ vs : List Nat, (∀ i ∈ ix, i ∈ vs) → wipe σ' vs = wipe σ vs) → Q σ' H) → g v σ H Q
  sub : ∀ a ∈ owns ρ', a ∈ owns ρ
  nd : (owns ρ).Nodup → (owns ρ').Nodup
theorem wipe_get {σ : L2.St} {j : Nat} : ∀ (vs : List Nat), (wipe σ vs)[j]? = if j ∈ vs then σ[j]?.map (fun _ => none) else σ[j]?
  | [] => by simp [wipe]
  | v :: vs => by
    unfold wipe
    by_cases e : v = j
    · subst e
      rw [if_pos List.mem_cons_self]
      by_cases hl : v < (wipe σ vs).length
      · rw [List.getElem?_set_self hl]
        have hl' : v < σ.length := by rw [wipe_length] at hl; exact hl
        rw [List.getElem?_eq_getElem hl']
        rfl
      · rw [List.getElem?_eq_none (by simpa using hl)]
        have hl' : ¬ v < σ.length := by rw [wipe_length] at hl; exact hl
        rw [List.getElem?_eq_none (by omega)]
        rfl
    · rw [List.getElem?_set_ne e, wipe_get vs]
      have : (j ∈ v :: vs) = (j ∈ vs) := by simp [Ne.symm e]
      simp only [this]
theorem wipe_ext {σ τ : L2.St} {vs : List Nat} (h : ∀ j, j ∉ vs → σ[j]? = τ[j]?) (hl : σ.length = τ.length) : wipe σ vs = wipe τ vs := by
  refine List.ext_getElem? fun j => ?_
  rw [wipe_get, wipe_get]
  by_cases m : j ∈ vs
  · rw [if_pos m, if_pos m]
    by_cases q : j < σ.length
    · rw [List.getElem?_eq_getElem q, List.getElem?_eq_getElem (hl ▸ q)]
      rfl
    · rw [List.getElem?_eq_none (by omega), List.getElem?_eq_none (by omega)]
  · rw [if_neg m, if_neg m]
    exact h j m
theorem wipe_set {σ : L2.St} {vs : List Nat} {i : Nat} {o : Option V} (h : i ∈ vs) : wipe (σ.set i o) vs = wipe σ vs :=
  wipe_ext (fun j m => List.getElem?_set_ne fun e => m (by rw [← e]; exact h)) (by rw [List.length_set])
theorem wipe_wipe {σ : L2.St} {vs : List Nat} : wipe (wipe σ vs) vs = wipe σ vs :=
  wipe_ext (fun j m => by rw [wipe_get, if_neg m]) (wipe_length σ vs)
def wipeE (ρ : Env) : List Nat → Env
  | [] => ρ
  | v :: vs => (wipeE ρ vs).set v .no
theorem EOk.wipe {M : List Addr} {H : Hp} {ρ : Env} {σ : L2.St} (h : EOk K M H ρ σ) : ∀ vs : List Nat, EOk K M H (wipeE ρ vs) (L2.wipe σ vs)
  | [] => h
  | v :: vs => (EOk.wipe h vs).set trivial
theorem set_sub {ρ : Env} {i : Nat} {d : D} : ∀ a ∈ owns (ρ.set i (.dat d)), a ∈ owns ρ := fun a h => (owns_set_sub h).elim id fun h => by simp [Sl.adr] at h
theorem set_nd {ρ : Env} {i : Nat} {d : D} (h : (owns ρ).Nodup) : (owns (ρ.set i (.dat d))).Nodup := owns_set_nd i h List.nodup_nil fun a h => by simp [Sl.adr] at h
theorem b_name {ρ : Env} {d : D} {i : Nat} : Bnd K (gName i) d ρ (ρ.set i (.dat d)) [i] :=
  ⟨fun M σ H v m e r Q q => q _ (e.set ⟨v, rfl, r⟩) fun vs h => wipe_set (h i (by simp)), set_sub, set_nd⟩
/-- a, b = d -/
theorem b_tup2 {ρ ρ1 ρ2 : Env} {x y : D} {g h : TG} {i j : List Nat} (h1 : Bnd K g x ρ ρ1 i) (h2 : Bnd K h y ρ1 ρ2 j) : Bnd K (gTup K 2 (gCons g (gCons h gNil))) (.tup [x, y]) ρ ρ2 (i ++ j) :=
  ⟨fun M σ H v m e r Q q => by
    cases r with
    | tup hs ha =>
      cases ha with
      | cons r1 ha =>
        cases ha with
        | cons r2 ha =>
          cases ha
          exact ⟨_, _, rfl, st_of (hid_some hs).2, rfl, _, _, rfl, h1.run M σ H _ m e r1 _ fun σ1 e1 w1 => ⟨_, _, rfl, h2.run M σ1 H _ m e1 r2 _ fun σ2 e2 w2 => ⟨rfl, q σ2 e2 fun vs hv => (w2 vs fun k hk => hv k (List.mem_append_right _ hk)).trans (w1 vs fun k hk => hv k (List.mem_append_left _ hk))⟩⟩⟩,
  fun a ha => h1.sub a (h2.sub a ha), fun h => h2.nd (h1.nd h)⟩
theorem b_tup3 {ρ ρ1 ρ2 ρ3 : Env} {x y z : D} {g h f : TG} {i j k : List Nat} (h1 : Bnd K g x ρ ρ1 i) (h2 : Bnd K h y ρ1 ρ2 j) (h3 : Bnd K f z ρ2 ρ3 k) : Bnd K (gTup K 3 (gCons g (gCons h (gCons f gNil)))) (.tup [x, y, z]) ρ ρ3 (i ++ (j ++ k)) :=
  ⟨fun M σ H v m e r Q q => by
    cases r with
    | tup hs ha =>
      cases ha with
      | cons r1 ha =>
        cases ha with
        | cons r2 ha =>
          cases ha with
          | cons r3 ha =>
            cases ha
            exact ⟨_, _, rfl, st_of (hid_some hs).2, rfl, _, _, rfl, h1.run M σ H _ m e r1 _ fun σ1 e1 w1 => ⟨_, _, rfl, h2.run M σ1 H _ m e1 r2 _ fun σ2 e2 w2 => ⟨_, _, rfl, h3.run M σ2 H _ m e2 r3 _ fun σ3 e3 w3 => ⟨rfl, q σ3 e3 fun vs hv =>
              (w3 vs fun l hl => hv l (List.mem_append_right _ (List.mem_append_right _ hl))).trans ((w2 vs fun l hl => hv l (List.mem_append_right _ (List.mem_append_left _ hl))).trans (w1 vs fun l hl => hv l (List.mem_append_left _ hl)))⟩⟩⟩⟩,
  fun a ha => h1.sub a (h2.sub a (h3.sub a ha)), fun h => h3.nd (h2.nd (h1.nd h))⟩
/-! ### what is walked -/
/-- over heaps that keep B, whatever N hides -/
structure JOk (K : Cfg) (B : Hp) (M : List Addr) (J : It) (xs : List D) : Prop where
  turn : ∀ (N : List Addr) (H : Hp), Kp B H → (∀ a ∈ N, hid B M a = none) → MOk K N H → ∀ i d, xs[i]? = some d → J.go i H ∧ ∀ x H', J.yld i H x H' → Ex K H H' ∧ Rp K (hid H' N) x d
  stop : ∀ (H : Hp), Kp B H → J.stop xs.length H
/-- for a loop: what is hidden may change -/
def Src (K : Cfg) (wi : TI) (ρ : Env) (xs : List D) : Prop := ∀ (M : List Addr) (σ : L2.St) (H : Hp), MOk K M H → EOk K M H ρ σ → ∀ R : It → Hp → Prop, (∀ J H1, Ex K H H1 → JOk K (hid H1 M) [] J xs → R J H1) → wi σ H R
/-- for a comprehension: all stays -/
def SrcC (K : Cfg) (wi : TI) (ρ : Env) (xs : List D) : Prop := ∀ (M : List Addr) (σ : L2.St) (H : Hp), MOk K M H → EOk K M H ρ σ → ∀ R : It → Hp → Prop, (∀ J H1, Ex K H H1 → JOk K H1 M J xs → R J H1) → wi σ H R
theorem hid_nil {H : Hp} : hid H [] = H := by funext a; exact hid_out (by simp)
theorem Src.c {wi : TI} {ρ : Env} {xs : List D} (h : Src K wi ρ xs) : SrcC K wi ρ xs := fun M σ H m e R q => h M σ H m e R fun J H1 e1 j => q J H1 e1
  ⟨fun N H2 e2 f n i d hd => j.turn N H2 (hid_sub.trans e2) (fun a ha => by rw [hid_nil]; exact f a ha) n i d hd, fun H2 e2 => j.stop H2 (hid_sub.trans e2)⟩
theorem Src.cast {wi : TI} {ρ : Env} {xs ys : List D} (h : Src K wi ρ xs) (e : xs = ys) : Src K wi ρ ys := by rw [← e]; exact h
theorem SrcC.cast {wi : TI} {ρ : Env} {xs ys : List D} (h : SrcC K wi ρ xs) (e : xs = ys) : SrcC K wi ρ ys := by rw [← e]; exact h
theorem jok_list {B : Hp} {M : List Addr} {a : Addr} {vs : List V} {xs : List D} (hq : B a = some (.lst vs)) (r : RpA K (hid B M) vs xs) : JOk K B M (Itl K a) xs :=
  ⟨fun N H e f n i d hd => by
    obtain ⟨v, hv, rv⟩ := r.get hd
    have hH : SqL K H a vs := sq_of (e.lst hq)
    refine ⟨⟨vs, v, hH, hv⟩, fun x H' y => ?_⟩
    obtain ⟨rfl, y⟩ := y
    have ex : some x = some v := (y vs hH).symm.trans hv
    cases ex
    exact ⟨Ex.refl, rv.ex (ex_hid (hid_sub.trans e) f)⟩,
  fun H e => ⟨vs, sq_of (e.lst hq), by rw [r.len]; exact Nat.le_refl _⟩⟩
theorem jok_tup {B : Hp} {M : List Addr} {a : Addr} {vs : List V} {xs : List D} (hq : SqT K B a vs) (r : RpA K (hid B M) vs xs) : JOk K B M (Itt K a) xs :=
  ⟨fun N H e f n i d hd => by
    obtain ⟨v, hv, rv⟩ := r.get hd
    have hH : SqT K H a vs := ex_t e hq
    refine ⟨⟨vs, v, hH, hv⟩, fun x H' y => ?_⟩
    obtain ⟨rfl, y⟩ := y
    have ex : some x = some v := (y vs hH).symm.trans hv
    cases ex
    exact ⟨Ex.refl, rv.ex (ex_hid (hid_sub.trans e) f)⟩,
  fun H e => ⟨vs, ex_t e hq, by rw [r.len]; exact Nat.le_refl _⟩⟩
theorem src_list {te : TE} {ρ : Env} {xs : List D} (h : EvD K te ρ (.lst xs)) : Src K (iList K te) ρ xs := fun M σ H m e R q => h M σ H m e _ fun v H1 e1 r => by
  cases r with
  | lst hq ha => exact ⟨_, rfl, ⟨_, sq_of (hid_some hq).2⟩, q _ H1 e1 (jok_list hq (by rw [hid_nil]; exact ha))⟩
theorem srcC_list {te : TE} {ρ : Env} {xs : List D} (h : EvL K te ρ xs) : SrcC K (iList K te) ρ xs := fun M σ H m e R q => h M σ H m e _ fun v H1 e1 r => by
  obtain ⟨a, vs, rfl, hq, ha⟩ := r
  exact ⟨_, rfl, ⟨_, sq_of hq⟩, q _ H1 e1 (jok_list hq ha)⟩
theorem src_tup {te : TE} {ρ : Env} {xs : List D} (h : EvD K te ρ (.tup xs)) : Src K (iTup K te) ρ xs := fun M σ H m e R q => h M σ H m e _ fun v H1 e1 r => by
  cases r with
  | tup hq ha => exact ⟨_, rfl, ⟨_, st_of (hid_some hq).2⟩, q _ H1 e1 (jok_tup (st_of hq) (by rw [hid_nil]; exact ha))⟩
theorem jok_rng {B : Hp} {M : List Addr} {lo : Int} {n : Nat} : JOk K B M (Itr lo n) ((List.range n).map fun i : Nat => D.int (lo + (i : Nat))) :=
  ⟨fun N H e f nn i d hd => by
    rw [List.getElem?_map] at hd
    have hi : i < n := by
      by_cases hi : i < n
      · exact hi
      · rw [List.getElem?_eq_none (by simpa using hi)] at hd; cases hd
    rw [List.getElem?_range hi] at hd
    cases hd
    refine ⟨hi, fun x H' y => ?_⟩
    obtain ⟨rfl, rfl⟩ := y
    exact ⟨Ex.refl, .int _⟩,
  fun H e => by
    show n ≤ _
    simp⟩
theorem src_rng1 {t : TA} {ρ : Env} {n : Int} (h : EvA K t ρ [.int n]) (hn : -(2 ^ 62) ≤ n ∧ n < 2 ^ 62) : Src K (iRng1 t) ρ ((List.range n.toNat).map fun i : Nat => D.int (0 + (i : Nat))) := fun M σ H m e R q => h M σ H m e _ fun vs H1 e1 r => by
  cases r with
  | cons r1 r => cases r; cases r1; exact ⟨n, rfl, hn.1, hn.2, q _ H1 e1 jok_rng⟩
theorem src_rng2 {t : TA} {ρ : Env} {lo n : Int} (h : EvA K t ρ [.int lo, .int n]) (hn : -(2 ^ 62) ≤ lo ∧ lo < 2 ^ 62 ∧ -(2 ^ 62) ≤ n ∧ n < 2 ^ 62) : Src K (iRng2 t) ρ ((List.range (n - lo).toNat).map fun i : Nat => D.int (lo + (i : Nat))) := fun M σ H m e R q => h M σ H m e _ fun vs H1 e1 r => by
  cases r with
  | cons r1 r => cases r with
    | cons r2 r => cases r; cases r1; cases r2; exact ⟨lo, n, rfl, hn, q _ H1 e1 jok_rng⟩
/-! ### comprehensions -/
theorem lc_atN {α : Type} {wi : TI} {g : TG} {tt : TT} {te : TE} {vs ix : List Nat} {ρ : Env} {L : List α} {enc : α → D} (f : α → Bool) (v : α → D) (hl : L.length ≤ 100000)
    (ht : ∀ x ∈ L, ∃ ρ', Bnd K g (enc x) (wipeE ρ vs) ρ' ix ∧ EvT K tt ρ' (f x) ∧ (f x = true → EvD K te ρ' (v x))) (hix : ∀ i ∈ ix, i ∈ vs) {M : List Addr} {σ : L2.St} {H : Hp} (m : MOk K M H) (e : EOk K M H ρ σ) {Q : VK} (q : ∀ p vs' H2, H p = none → Ex K H H2 → H2 p = some (.lst vs') → RpA K (hid H2 (p :: M)) vs' ((L.filter f).map v) → Q (.ref p) H2)
    (hs : ∀ R : It → Hp → Prop, (∀ J H1, Ex K H H1 → JOk K H1 M J (L.map enc) → R J H1) → wi σ H R) : tLc wi g tt te vs σ H Q :=
  hs _ fun J H1 e1 j A hA => by
    have nAM : A ∉ M := (m.ex e1).new hA
    refine ⟨fun i k H2 => i + k = L.length ∧ ∃ acc, H2 A = some (.lst acc) ∧ RpA K (hid H2 (A :: M)) acc (((L.take i).filter f).map v) ∧ Ex K H1 H2, ⟨L.length, by omega, [], upd_same, by simp; exact .nil, Ex.new hA⟩, fun i k H2 hw => ?_⟩
    obtain ⟨hik, acc, hacc, hr, hex⟩ := hw
    have fA : ∀ a ∈ A :: M, hid H1 M a = none := fun a ha => by
      rcases List.mem_cons.mp ha with rfl | ha
      · rw [hid_out nAM]; exact hA
      · exact hid_in ha
    have mo2 : MOk K (A :: M) H2 := ⟨fun a ha => by
      rcases List.mem_cons.mp ha with rfl | ha
      · rw [hacc]; simp
      · exact ((m.ex e1).ex hex).m a ha, ((m.ex e1).ex hex).t⟩
    by_cases hi : i < L.length
    · obtain ⟨x, hx⟩ : ∃ x, L[i]? = some x := ⟨_, List.getElem?_eq_getElem hi⟩
      obtain ⟨go, yl⟩ := j.turn (A :: M) H2 hex.kp fA mo2 i (enc x) (by rw [List.getElem?_map, hx]; rfl)
      obtain ⟨ρ', hb, ht1, ht2⟩ := ht x (List.mem_of_getElem? hx)
      refine .inr ⟨go, fun H' => (∃ acc, H' A = some (.lst acc) ∧ RpA K (hid H' (A :: M)) acc (((L.take (i + 1)).filter f).map v) ∧ Ex K H1 H'), fun H' hN => ⟨k - 1, by omega, by omega, hN⟩, fun y H' hy => ?_⟩
      obtain ⟨e2, ry⟩ := yl y H' hy
      have mo3 : MOk K (A :: M) H' := mo2.ex e2
      have ew : EOk K (A :: M) H' (wipeE ρ vs) (L2.wipe σ vs) := by
        refine EOk.wipe ?_ vs
        have e3 : Kp (hid H M) (hid H' (A :: M)) := fun a o q n => by
          obtain ⟨m1, q⟩ := hid_some q
          have na : a ∉ A :: M := fun z => by
            rcases List.mem_cons.mp z with z | z
            · rw [z, e1.back hA] at q; cases q
            · exact m1 z
          rw [hid_out na]
          exact e2.kp _ _ (hex.kp _ _ (e1.kp _ _ q n) n) n
        have e4 : Ex K H H' := (e1.trans hex).trans e2
        refine Paired.imp' e fun s _ o r => ?_
        cases s with
        | no => trivial
        | dat d => obtain ⟨v, e1, r⟩ := r; exact ⟨v, e1, r.ex e3⟩
        | own a xs => obtain ⟨e1, m, vs, q, r⟩ := r; exact ⟨e1, List.mem_cons_of_mem _ m, vs, e4.kp.lst q, r.ex e3⟩
        | ownT a ks xs => obtain ⟨e1, m, vs, q, l, r⟩ := r; exact ⟨e1, List.mem_cons_of_mem _ m, vs, e4.kp.dT q, l, r.ex e3⟩
        | ownK a ks xs => obtain ⟨e1, m, vs, q, l, r⟩ := r; exact ⟨e1, List.mem_cons_of_mem _ m, vs, e4.kp.dK q, l, r.ex e3⟩
        | ownG a R => obtain ⟨e1, m, u, q, n, r⟩ := r; exact ⟨e1, List.mem_cons_of_mem _ m, u, e4.kp _ _ q n, n, fun G g => r G (e3.trans g)⟩
        | raw v => exact r
        | fix v d => exact ⟨r.1, r.2.ex e3⟩
        | deep as d => obtain ⟨v, e1, m, r⟩ := r; exact ⟨v, e1, fun a h => List.mem_cons_of_mem _ (m a h), r.ups (fun a _ vs h => e4.kp.lst h) e3⟩
      have hacc' : H' A = some (.lst acc) := e2.kp.lst hacc
      have hr' : RpA K (hid H' (A :: M)) acc (((L.take i).filter f).map v) := hr.ex (hid_ex e2)
      have htk : L.take (i + 1) = L.take i ++ [x] := by rw [List.take_succ, hx]; rfl
      refine hb.run (A :: M) _ H' y mo3 ew ry _ fun σ2 eo hw2 => ⟨(hw2 vs hix).trans wipe_wipe, ?_⟩
      refine ht1 (A :: M) σ2 H' mo3 eo _ fun H3 e3 => ?_
      cases hf : f x with
      | true =>
        show te σ2 H3 _
        refine ht2 hf (A :: M) σ2 H3 (mo3.ex e3) (eo.ex e3) _ fun z H4 e4 rz => ⟨acc, e4.kp.lst (e3.kp.lst hacc'), ?_, ?_⟩
        · have h1 := hr.len
          rw [List.length_map] at h1
          have h2 := List.length_filter_le f (L.take i)
          rw [List.length_take] at h2
          exact sz_lt (by omega)
        · refine ⟨acc ++ [z], upd_same, ?_, ((hex.trans e2).trans (e3.trans e4)).mut hA (e4.kp.lst (e3.kp.lst hacc')) True.intro⟩
          rw [htk, List.filter_append, List.map_append, List.filter_cons, if_pos hf]
          exact ((hr'.ex (hid_ex (e3.trans e4))).app (.cons rz .nil)).ex (hid_upd List.mem_cons_self)
      | false =>
        show ∃ acc, _
        refine ⟨acc, e3.kp.lst hacc', ?_, (hex.trans e2).trans e3⟩
        rw [htk, List.filter_append, List.map_append, List.filter_cons, if_neg (by rw [hf]; decide)]
        simp only [List.filter_nil, List.map_nil, List.append_nil]
        exact hr'.ex (hid_ex e3)
    · have hi' : i = L.length := by omega
      subst hi'
      refine .inl ⟨by have := j.stop H2 hex.kp; rw [List.length_map] at this; exact this, ?_⟩
      rw [List.take_length] at hr
      exact q A acc H2 (e1.back hA) (e1.trans hex) hacc hr
theorem lc_at {α : Type} {wi : TI} {g : TG} {tt : TT} {te : TE} {vs ix : List Nat} {ρ : Env} {L : List α} {enc : α → D} (f : α → Bool) (v : α → D) (hl : L.length ≤ 100000)
    (ht : ∀ x ∈ L, ∃ ρ', Bnd K g (enc x) (wipeE ρ vs) ρ' ix ∧ EvT K tt ρ' (f x) ∧ (f x = true → EvD K te ρ' (v x))) (hix : ∀ i ∈ ix, i ∈ vs) {M : List Addr} {σ : L2.St} {H : Hp} (m : MOk K M H) (e : EOk K M H ρ σ) {Q : VK} (q : ∀ v' H2, Ex K H H2 → Rp K (hid H2 M) v' (.lst ((L.filter f).map v)) → Q v' H2)
    (hs : ∀ R : It → Hp → Prop, (∀ J H1, Ex K H H1 → JOk K H1 M J (L.map enc) → R J H1) → wi σ H R) : tLc wi g tt te vs σ H Q :=
  lc_atN f v hl ht hix m e (fun p vs' H2 hp e2 hq r => q _ H2 e2 (.lst (by rw [hid_out (m.new hp)]; exact hq) (r.ex (hid_less fun a ha => List.mem_cons_of_mem _ ha)))) hs
theorem ev_lc {α : Type} {wi : TI} {g : TG} {tt : TT} {te : TE} {vs ix : List Nat} {ρ : Env} {L : List α} {enc : α → D} (f : α → Bool) (v : α → D) (hs : SrcC K wi ρ (L.map enc)) (hl : L.length ≤ 100000)
    (ht : ∀ x ∈ L, ∃ ρ', Bnd K g (enc x) (wipeE ρ vs) ρ' ix ∧ EvT K tt ρ' (f x) ∧ (f x = true → EvD K te ρ' (v x))) (hix : ∀ i ∈ ix, i ∈ vs := by decide) : EvD K (tLc wi g tt te vs) ρ (.lst ((L.filter f).map v)) := fun M σ H m e Q q =>
  lc_at f v hl ht hix m e q fun R r => hs M σ H m e R r
/-- no test -/
theorem ev_lcm {α : Type} {wi : TI} {g : TG} {te : TE} {vs ix : List Nat} {ρ : Env} {L : List α} {enc : α → D} (v : α → D) (hs : SrcC K wi ρ (L.map enc)) (hl : L.length ≤ 100000)
    (ht : ∀ x ∈ L, ∃ ρ', Bnd K g (enc x) (wipeE ρ vs) ρ' ix ∧ EvD K te ρ' (v x)) (hix : ∀ i ∈ ix, i ∈ vs := by decide) : EvD K (tLc wi g tYes te vs) ρ (.lst (L.map v)) := by
  have h := ev_lc (K := K) (te := te) (fun _ => true) v hs hl (fun x hx => by
    obtain ⟨ρ', h1, h2⟩ := ht x hx
    exact ⟨ρ', h1, et_yes, fun _ => h2⟩) hix
  rw [List.filter_eq_self.mpr (fun _ _ => rfl)] at h
  exact h
/-! ### loops -/
def Lp (K : Cfg) (B : Hp) (M : List Addr) (P : Env → Prop) : L2.St → Hp → Prop := fun σ H => ∃ ρ, P ρ ∧ StOk K B M ρ σ H
theorem h_end {B : Hp} {M : List Addr} {ρ : Env} {P : Env → Prop} (h : P ρ) : Hold K B M ρ (Lp K B M P) := fun B' b σ H st => ⟨ρ, h, st.less b⟩
def loopE (De : Ends) (N : L2.St → Hp → Prop) : Ends := { De with nx := N, ct := N, bk := De.nx }
/-- what is owned is hidden: a base for a loop -/
theorem StOk.base {B H : Hp} {M : List Addr} {ρ : Env} {σ : L2.St} (st : StOk K B M ρ σ H) : Ge B (hid H (owns ρ)) ∧ StOk K (hid H (owns ρ)) M ρ σ H :=
  ⟨ge_hid st.ex st.fr, ⟨hid_ge, fun a h => hid_in h, st.nd, st.ap, st.mo, st.ev⟩⟩
theorem hid_app {H : Hp} {M N : List Addr} : hid (hid H M) N = hid H (M ++ N) := by
  funext a
  unfold hid
  by_cases h1 : a ∈ M
  · simp [h1]
  · by_cases h2 : a ∈ N
    · simp [h2]
    · simp [h1, h2]
theorem h_for {B : Hp} {M : List Addr} {ρ : Env} {De : Ends} {wi : TI} {g : TG} {tb : TS} {xs : List D} (I : Nat → Env → Prop) (hs : Src K wi ρ xs) (h0 : I 0 ρ)
    (ht : ∀ B', Ge B B' → ∀ i d ρ1, xs[i]? = some d → I i ρ1 → ∃ ρ2 ix, Bnd K g d ρ1 ρ2 ix ∧ Hold K B' M ρ2 (tb (loopE De (Lp K B' M (I (i + 1))))))
    (hd : ∀ ρ1, I xs.length ρ1 → Hold K B M ρ1 De.nx) : Hold K B M ρ (tFor wi g tb De) := fun B' b σ H st =>
  hs _ σ H st.mok st.ev _ fun J H1 e1 j => by
    have st1 := st.grow e1
    obtain ⟨eb, sb⟩ := st1.base
    have eB : Ge B (hid H1 (owns ρ)) := b.trans eb
    refine ⟨fun i m σ H => i + m = xs.length ∧ ∃ ρ1, I i ρ1 ∧ StOk K (hid H1 (owns ρ)) M ρ1 σ H, ⟨xs.length, by omega, ρ, h0, sb⟩, fun i m σ2 H2 hw => ?_⟩
    obtain ⟨him, ρ1, hI, s1⟩ := hw
    have exJ : Kp (hid H1 (owns ρ ++ M)) H2 := fun a o q n => by
      obtain ⟨m1, q⟩ := hid_some q
      exact s1.ex.kp a o (by rw [hid_out fun z => m1 (List.mem_append_left _ z)]; exact q) n
    by_cases hi : i < xs.length
    · obtain ⟨d, hd1⟩ : ∃ d, xs[i]? = some d := ⟨_, List.getElem?_eq_getElem hi⟩
      have fN : ∀ a ∈ owns ρ1 ++ M, hid (hid H1 (owns ρ ++ M)) [] a = none := fun a ha => by
        rw [hid_nil]
        rcases List.mem_append.mp ha with ha | ha
        · have q := s1.fr a ha
          by_cases m1 : a ∈ owns ρ ++ M
          · exact hid_in m1
          · rw [hid_out m1]
            rw [hid_out fun z => m1 (List.mem_append_left _ z)] at q
            exact q
        · exact hid_in (List.mem_append_right _ ha)
      obtain ⟨go, yl⟩ := j.turn (owns ρ1 ++ M) H2 exJ fN s1.mok i d hd1
      obtain ⟨ρ2, ix, hb, hh⟩ := ht (hid H1 (owns ρ)) eB i d ρ1 hd1 hI
      refine .inr ⟨go, Lp K (hid H1 (owns ρ)) M (I (i + 1)), fun σ' H' hN => ⟨m - 1, by omega, by omega, hN⟩, fun x H' hy => ?_⟩
      obtain ⟨e2, rx⟩ := yl x H' hy
      have s2 := s1.grow e2
      refine hb.run (owns ρ1 ++ M) σ2 H' x s2.mok s2.ev rx _ fun σ3 e3 _ => hh _ (Ge.refl _) σ3 H' ⟨s2.ex, fun a h => s2.fr a (hb.sub a h), hb.nd s2.nd, fun a h => s2.ap a (hb.sub a h), s2.mo, ?_⟩
      refine e3.less (fun a ha => ?_) fun a ha => List.mem_append_left _ ha
      rcases List.mem_append.mp ha with ha | ha
      · exact List.mem_append_left _ (hb.sub a ha)
      · exact List.mem_append_right _ ha
    · have hi' : i = xs.length := by omega
      subst hi'
      exact .inl ⟨j.stop H2 exJ, hd ρ1 hI B' b σ2 H2 (s1.less eb)⟩
/-- while, by a number that falls -/
theorem h_while {B : Hp} {M : List Addr} {ρ : Env} {De : Ends} {tc : TT} {tb : TS} (I : Nat → Env → Prop) (m0 : Nat) (h0 : I m0 ρ)
    (ht : ∀ m ρ1, I m ρ1 → ∃ b, EvT K tc ρ1 b ∧ (b = true → ∀ B', Ge B B' → Hold K B' M ρ1 (tb (loopE De (Lp K B' M fun ρ2 => ∃ m', m' < m ∧ I m' ρ2)))) ∧ (b = false → Hold K B M ρ1 De.nx)) : Hold K B M ρ (tWhile tc tb De) := fun B' b σ H st => by
  refine ⟨fun m σ H => ∃ ρ1, I m ρ1 ∧ StOk K B' M ρ1 σ H, ⟨m0, ρ, h0, st⟩, fun m σ1 H1 hw => ?_⟩
  obtain ⟨ρ1, hI, s1⟩ := hw
  obtain ⟨k, hk, h1, h2⟩ := ht m ρ1 hI
  refine hk _ σ1 H1 s1.mok s1.ev _ fun H2 e2 => ?_
  cases k with
  | true =>
    show ∃ N, _
    refine ⟨Lp K B' M fun ρ2 => ∃ m', m' < m ∧ I m' ρ2, fun σ' H' hN => ?_, h1 rfl B' b B' (Ge.refl _) σ1 H2 (s1.grow e2)⟩
    obtain ⟨ρ2, ⟨m', hm, hI'⟩, s'⟩ := hN
    exact ⟨m', hm, ρ2, hI', s'⟩
  | false =>
    show De.nx σ1 H2
    exact h2 rfl B' b σ1 H2 (s1.grow e2)
theorem h_break {B : Hp} {M : List Addr} {ρ : Env} {De : Ends} (h : Hold K B M ρ De.bk) : Hold K B M ρ (tBreak De) := h
theorem h_cont {B : Hp} {M : List Addr} {ρ : Env} {De : Ends} (h : Hold K B M ρ De.ct) : Hold K B M ρ (tCont De) := h
/-! ### a def that only tells -/
/-- called with data ds it hands back G ds; all stays -/
def spF (K : Cfg) (n : Nat) (G : List D → D → Prop) : Sp := fun vs H Q _ => ∃ (M : List Addr) (ds : List D) (d : D), vs.length = n ∧ MOk K M H ∧ RpA K (hid H M) vs ds ∧ G ds d ∧ ∀ v H2, Ex K H H2 → Rp K (hid H2 M) v d → Q v H2
theorem ev_call {n : Nat} {G : List D → D → Prop} {dvs : List V} {E : XK} {t : TA} {ρ : Env} {ds es : List D} {d : D} (h : EvA K t ρ ds) (hd : ∀ H, RpA K H dvs es) (hn : (ds ++ es).length = n) (hG : G (ds ++ es) d) : EvD K (tCall (spF K n G) dvs E t) ρ d := fun M σ H m e Q q =>
  h M σ H m e _ fun vs H1 e1 r => ⟨M, ds ++ es, d, by rw [List.length_append, r.len, (hd H1).len, ← List.length_append]; exact hn, m.ex e1, r.app (hd _), hG, fun v H2 e2 r2 => q v H2 (e1.trans e2) r2⟩
theorem ev_call0 {n : Nat} {G : List D → D → Prop} {E : XK} {t : TA} {ρ : Env} {ds : List D} {d : D} (h : EvA K t ρ ds) (hn : ds.length = n) (hG : G ds d) : EvD K (tCall (spF K n G) [] E t) ρ d :=
  ev_call (es := []) h (fun _ => .nil) (by rw [List.append_nil]; exact hn) (by rw [List.append_nil]; exact hG)
def startE (n : Nat) (ds : List D) : Env := ds.map Sl.dat ++ List.replicate (n - ds.length) .no
theorem owns_dats : ∀ ds : List D, owns (ds.map Sl.dat) = []
  | [] => rfl
  | d :: ds => owns_dats ds
theorem owns_app {ρ τ : Env} : owns (ρ ++ τ) = owns ρ ++ owns τ := by unfold owns; exact List.flatMap_append
theorem owns_nos : ∀ n : Nat, owns (List.replicate n Sl.no) = []
  | 0 => rfl
  | n + 1 => owns_nos n
theorem startE_owns (n : Nat) (ds : List D) : owns (startE n ds) = [] := by unfold startE; rw [owns_app, owns_dats, owns_nos]; rfl
theorem paired_app {α β : Type} {F : α → β → Prop} : ∀ {l l' : List α} {m m' : List β}, Paired F l m → Paired F l' m' → Paired F (l ++ l') (m ++ m')
  | _, _, _, _, .nil, h => h
  | _, _, _, _, .cons r t, h => .cons r (paired_app t h)
theorem start_dats {M : List Addr} {H : Hp} : ∀ {vs : List V} {ds : List D}, RpA K (hid H M) vs ds → Paired (SlOk K M H) (ds.map Sl.dat) (vs.map some)
  | _, _, .nil => .nil
  | _, _, .cons r t => .cons ⟨_, rfl, r⟩ (start_dats t)
theorem start_nos {M : List Addr} {H : Hp} : ∀ n : Nat, Paired (SlOk K M H) (List.replicate n Sl.no) (List.replicate n none)
  | 0 => .nil
  | n + 1 => .cons trivial (start_nos n)
theorem start_ok {N : List Str} {M : List Addr} {H : Hp} {vs : List V} {ds : List D} (m : MOk K M H) (r : RpA K (hid H M) vs ds) : StOk K H M (startE N.length ds) (start N vs) H := by
  have e := startE_owns N.length ds
  refine ⟨Ge.refl H, (fun a h => by rw [e] at h; exact nomatch h), (by rw [e]; exact List.nodup_nil), (fun a h => by rw [e] at h; exact nomatch h), m, ?_⟩
  rw [e]
  show EOk K M H (startE N.length ds) (start N vs)
  unfold startE L2.start
  rw [← r.len]
  exact paired_app (start_dats r) (start_nos _)
/-- what falls off its end hands back None -/
def EndOk (K : Cfg) (B : Hp) (M : List Addr) (De : Ends) : Prop := ∀ ρ, Rets K B M De .non → Hold K B M ρ De.nx
section
open PySem PySem.Spec PyProof.Rows
variable {P : Program} {w : World} {mg : Str → Option Value} {base : Heap}
theorem fn_pure {x qual : Str} {st : Stmt} {f : Addr} {fd : FuncData} {N ps : List Str} {k : Nat} {G : List D → D → Prop} (F : Fun K x qual st f fd) (S : FnScope N ps (defScope st))
    (hbody : ∀ (cdv : Value) (A : Around) (outer : List PySem.Env) (s : Shared) (H : Hp) (E : XK), Room k (A.deeper (envOfC qual (defScope st) s.heap.objs.size f cdv)) →
      ∃ t, PSs (cxOf CX0 P w K mg base N qual (defScope st) f cdv A outer s H E).nox (defBody st) t ∧ ∀ ds d, ds.length = ps.length → G ds d → ∀ (B : Hp) (M : List Addr) (De : Ends), EndOk K B M De → Rets K B M De d → Hold K B M (startE N.length ds) (t De)) :
    FnOk P w K mg base CX0 (k + 1) f fd ps (spF K ps.length G) := by
  refine F.ok S (fun vs H Q E h => ?_) (fun cdv A outer s H vs Q E hr h => ?_)
  · obtain ⟨M, ds, d, hl, _⟩ := h
    exact hl
  · obtain ⟨M, ds, d, hl, m, r, hG, q⟩ := h
    obtain ⟨t, h1, h2⟩ := hbody cdv A outer s H E hr
    refine ⟨t, h1, h2 ds d (by rw [← r.len]; exact hl) hG H M { nx := fun _ H' => Q .non H', rt := Q, bk := fun _ _ => False, ct := fun _ _ => False } (fun ρ h B b σ H' st => h .non H' (b.trans st.ex) st.mo.t .non) (fun v H2 e t r => q v H2 ⟨e, fun _ => t⟩ r) H (Ge.refl H) _ H (start_ok m r)⟩
end
end Dl
/-! Operators, subscripts, built-in functions over data. -/
namespace Dl
open PySem L2
variable {K : Cfg} {ρ : Env} {ta tb te : TE}
/-! ### plain data -/
mutual
def D.pd : D → PyData
  | .non => .none
  | .bl b => .bool b
  | .int i => .int i
  | .str x => .str x
  | .lst xs => .list (D.pdA xs)
  | .tup xs => .tuple (D.pdA xs)
  | .dT _ _ => .none
  | .dK _ _ => .none
  | .ob _ => .none
def D.pdA : List D → List PyData
  | [] => []
  | x :: xs => D.pd x :: D.pdA xs
end
mutual
/-- no dict in it, no deeper than n -/
def D.ok : D → Nat → Bool
  | .non, _ => true
  | .bl _, _ => true
  | .int _, _ => true
  | .str x, _ => PyData.strOk x
  | .lst xs, n + 1 => D.okA xs n
  | .tup xs, n + 1 => D.okA xs n
  | .lst _, 0 => false
  | .tup _, 0 => false
  | .dT _ _, _ => false
  | .dK _ _, _ => false
  | .ob _, _ => false
def D.okA : List D → Nat → Bool
  | [], _ => true
  | x :: xs, n => D.ok x n && D.okA xs n
end
theorem D.pdA_eq : ∀ xs : List D, D.pdA xs = xs.map D.pd
  | [] => by simp [D.pdA]
  | x :: xs => by simp [D.pdA, D.pdA_eq xs]
theorem D.okA_iff {n : Nat} : ∀ {xs : List D}, D.okA xs n = true ↔ ∀ x ∈ xs, D.ok x n = true
  | [] => by simp [D.okA]
  | x :: xs => by simp [D.okA, D.okA_iff (xs := xs)]
mutual
theorem D.lay : ∀ (d : D) (n : Nat), D.ok d n = true → (D.pd d).canLay0 = true ∧ (D.pd d).depth ≤ n
  | .non, _, _ => by simp [D.pd, PyData.canLay0, PyData.depth]
  | .bl _, _, _ => by simp [D.pd, PyData.canLay0, PyData.depth]
  | .int _, _, _ => by simp [D.pd, PyData.canLay0, PyData.depth]
  | .str x, _, h => by
    have h' : PyData.strOk x = true := by simpa [D.ok] using h
    simp [D.pd, PyData.canLay0, PyData.depth, h']
  | .lst xs, 0, h => by simp [D.ok] at h
  | .tup xs, 0, h => by simp [D.ok] at h
  | .lst xs, n + 1, h => by
    have q := D.layA xs n (by simpa [D.ok] using h)
    simp only [D.pd, PyData.canLay0, PyData.depth]
    exact ⟨q.1, by omega⟩
  | .tup xs, n + 1, h => by
    have q := D.layA xs n (by simpa [D.ok] using h)
    simp only [D.pd, PyData.canLay0, PyData.depth]
    exact ⟨q.1, by omega⟩
  | .dT _ _, _, h => by simp [D.ok] at h
  | .dK _ _, _, h => by simp [D.ok] at h
  | .ob _, _, h => by simp [D.ok] at h
theorem D.layA : ∀ (ds : List D) (n : Nat), D.okA ds n = true → PyData.canLayAll0 (D.pdA ds) = true ∧ PyData.depthAll (D.pdA ds) ≤ n
  | [], _, _ => by simp [D.pdA, PyData.canLayAll0, PyData.depthAll]
  | d :: ds, n, h => by
    have h' : D.ok d n = true ∧ D.okA ds n = true := by simpa [D.okA] using h
    have q1 := D.lay d n h'.1
    have q2 := D.layA ds n h'.2
    simp only [D.pdA, PyData.canLayAll0, PyData.depthAll, q1.1, q2.1, Bool.and_self, true_and]
    omega
end
theorem D.shaped {d : D} {n : Nat} (h : d.ok n = true) (hn : n ≤ 64) : SeqAt.shaped d.pd = true := by
  have q := D.lay d n h
  show ((D.pd d).canLay0 && decide ((D.pd d).depth ≤ 64)) = true
  rw [Bool.and_eq_true]
  exact ⟨q.1, decide_eq_true (by omega)⟩
mutual
theorem Rp.dp {H : Hp} : ∀ (d : D) (n : Nat) (v : V), d.ok n = true → Rp K H v d → Dp K H v d.pd
  | .non, _, _, _, h => by cases h; simp only [D.pd]; exact .non
  | .bl b, _, _, _, h => by cases h; simp only [D.pd]; exact .bl b
  | .int i, _, _, _, h => by cases h; simp only [D.pd]; exact .int i
  | .str x, _, _, _, h => by cases h; simp only [D.pd]; exact .str x
  | .lst xs, 0, _, k, _ => by simp [D.ok] at k
  | .tup xs, 0, _, k, _ => by simp [D.ok] at k
  | .lst xs, n + 1, _, k, h => by cases h with | lst h1 h2 => simp only [D.pd]; exact .lst (sq_of h1) (RpA.dp xs n _ (by simpa [D.ok] using k) h2)
  | .tup xs, n + 1, _, k, h => by cases h with | tup h1 h2 => simp only [D.pd]; exact .tup (st_of h1) (RpA.dp xs n _ (by simpa [D.ok] using k) h2)
  | .dT _ _, _, _, k, _ => by simp [D.ok] at k
  | .dK _ _, _, _, k, _ => by simp [D.ok] at k
  | .ob _, _, _, k, _ => by simp [D.ok] at k
theorem RpA.dp {H : Hp} : ∀ (ds : List D) (n : Nat) (vs : List V), D.okA ds n = true → RpA K H vs ds → DpAll K H vs (D.pdA ds)
  | [], _, _, _, h => by cases h; simp only [D.pdA]; exact .nil
  | d :: ds, n, _, k, h => by
    have k' : D.ok d n = true ∧ D.okA ds n = true := by simpa [D.okA] using k
    cases h with
    | cons h1 h2 => simp only [D.pdA]; exact .cons (Rp.dp d n _ k'.1 h1) (RpA.dp ds n _ k'.2 h2)
end
theorem Dp.mono' {H : Hp} {v : V} {d : D} {n : Nat} {M : List Addr} (h : Rp K (hid H M) v d) (k : d.ok n = true) : Dp K H v d.pd := Rp.dp d n v k (h.ex hid_sub)
/-- == of data -/
def D.eq (x y : D) : Bool := PyData.eqv x.pd y.pd
theorem ev_eq {x y : D} (n : Nat) (ha : EvD K ta ρ x) (hb : EvD K tb ρ y) (hx : x.ok n = true) (hy : y.ok n = true) (hn : n ≤ 64 := by decide) : EvD K (tOp (rEqD K) ta tb) ρ (.bl (D.eq x y)) := fun M σ H m e Q q =>
  ha M σ H m e _ fun v H1 e1 r1 => hb M σ H1 (m.ex e1) (e.ex e1) _ fun w H2 e2 r2 =>
    ⟨_, _, Dp.mono' (r1.ex (hid_ex e2)) hx, Dp.mono' r2 hy, D.shaped hx hn, D.shaped hy hn, q _ H2 (e1.trans e2) (.bl _)⟩
theorem ev_ne {x y : D} (n : Nat) (ha : EvD K ta ρ x) (hb : EvD K tb ρ y) (hx : x.ok n = true) (hy : y.ok n = true) (hn : n ≤ 64 := by decide) : EvD K (tOp (rNeD K) ta tb) ρ (.bl (!D.eq x y)) := fun M σ H m e Q q =>
  ha M σ H m e _ fun v H1 e1 r1 => hb M σ H1 (m.ex e1) (e.ex e1) _ fun w H2 e2 r2 =>
    ⟨_, _, Dp.mono' (r1.ex (hid_ex e2)) hx, Dp.mono' r2 hy, D.shaped hx hn, D.shaped hy hn, q _ H2 (e1.trans e2) (.bl _)⟩
/-- .. of lists of ours -/
theorem ev_neL {xs ys : List D} (n : Nat) (ha : EvL K ta ρ xs) (hb : EvL K tb ρ ys) (hx : D.okA xs n = true) (hy : D.okA ys n = true) (hn : n ≤ 63 := by decide) : EvD K (tOp (rNeD K) ta tb) ρ (.bl (!D.eq (.lst xs) (.lst ys))) := fun M σ H m e Q q =>
  ha M σ H m e _ fun v H1 e1 r1 => hb M σ H1 (m.ex e1) (e.ex e1) _ fun w H2 e2 r2 => by
    obtain ⟨a, vs, rfl, h1, r1⟩ := r1.ex e2
    obtain ⟨b, ws, rfl, h2, r2⟩ := r2
    have kx : D.ok (.lst xs) (n + 1) = true := by simpa [D.ok] using hx
    have ky : D.ok (.lst ys) (n + 1) = true := by simpa [D.ok] using hy
    exact ⟨_, _, Rp.dp _ _ _ kx (.lst h1 (r1.ex hid_sub)), Rp.dp _ _ _ ky (.lst h2 (r2.ex hid_sub)), D.shaped kx (by omega), D.shaped ky (by omega), q _ H2 (e1.trans e2) (.bl _)⟩
theorem ev_in {x : D} {xs : List D} (n : Nat) (ha : EvD K ta ρ x) (hb : EvL K tb ρ xs) (hx : x.ok n = true) (hy : D.okA xs n = true) (hn : n ≤ 63 := by decide) : EvD K (tOp (rInD K) ta tb) ρ (.bl (xs.any fun z => D.eq z x)) := fun M σ H m e Q q =>
  ha M σ H m e _ fun v H1 e1 r1 => hb M σ H1 (m.ex e1) (e.ex e1) _ fun w H2 e2 r2 => by
    obtain ⟨b, ws, rfl, h2, r2⟩ := r2
    have ky : D.ok (.lst xs) (n + 1) = true := by simpa [D.ok] using hy
    have sh := D.shaped ky (by omega)
    have dp : Dp K H2 (.ref b) (.list (D.pdA xs)) := by
      have := Rp.dp _ _ _ ky (.lst h2 (r2.ex hid_sub) : Rp K H2 (.ref b) (.lst xs))
      simpa only [D.pd] using this
    refine ⟨_, _, Dp.mono' (r1.ex (hid_ex e2)) hx, dp, D.shaped hx (by omega), by simpa only [D.pd] using sh, ?_⟩
    have eq : ((D.pdA xs).any fun z => PyData.eqv z x.pd) = (xs.any fun z => D.eq z x) := by
      rw [D.pdA_eq, List.any_map]
      rfl
    rw [eq]
    exact q _ H2 (e1.trans e2) (.bl _)
theorem ev_nin {x : D} {xs : List D} (n : Nat) (ha : EvD K ta ρ x) (hb : EvL K tb ρ xs) (hx : x.ok n = true) (hy : D.okA xs n = true) (hn : n ≤ 63 := by decide) : EvD K (tOp (rNotInD K) ta tb) ρ (.bl (!xs.any fun z => D.eq z x)) := fun M σ H m e Q q =>
  ha M σ H m e _ fun v H1 e1 r1 => hb M σ H1 (m.ex e1) (e.ex e1) _ fun w H2 e2 r2 => by
    obtain ⟨b, ws, rfl, h2, r2⟩ := r2
    have ky : D.ok (.lst xs) (n + 1) = true := by simpa [D.ok] using hy
    have sh := D.shaped ky (by omega)
    have dp : Dp K H2 (.ref b) (.list (D.pdA xs)) := by
      have := Rp.dp _ _ _ ky (.lst h2 (r2.ex hid_sub) : Rp K H2 (.ref b) (.lst xs))
      simpa only [D.pd] using this
    refine ⟨_, _, Dp.mono' (r1.ex (hid_ex e2)) hx, dp, D.shaped hx (by omega), by simpa only [D.pd] using sh, ?_⟩
    have eq : ((D.pdA xs).any fun z => PyData.eqv z x.pd) = (xs.any fun z => D.eq z x) := by
      rw [D.pdA_eq, List.any_map]
      rfl
    rw [eq]
    exact q _ H2 (e1.trans e2) (.bl _)
/-- tuples of ints, < -/
theorem RpA.tint {H : Hp} {ns : List Int} {v : V} (h : Rp K H v (.tup (ns.map D.int))) : ∃ a, v = .ref a ∧ SqT K H a (ns.map V.int) := by
  cases h with
  | tup h1 h2 => exact ⟨_, rfl, by rw [← RpA.ints h2]; exact st_of h1⟩
theorem ev_ltT {ns ms : List Int} (ha : EvD K ta ρ (.tup (ns.map D.int))) (hb : EvD K tb ρ (.tup (ms.map D.int))) : EvD K (tOp (rLtT K) ta tb) ρ (.bl (HT.lexLt ns ms)) := fun M σ H m e Q q =>
  ha M σ H m e _ fun v H1 e1 r1 => hb M σ H1 (m.ex e1) (e.ex e1) _ fun w H2 e2 r2 => by
    obtain ⟨a, rfl, h1⟩ := RpA.tint (r1.ex ((hid_ex e2).trans hid_sub))
    obtain ⟨b, rfl, h2⟩ := RpA.tint (r2.ex hid_sub)
    exact ⟨a, b, ns, ms, rfl, rfl, h1, h2, q _ H2 (e1.trans e2) (.bl _)⟩
/-- x is None -/
def D.isNon : D → Bool
  | .non => true
  | _ => false
theorem Rp.isNon {H : Hp} {v : V} {d : D} (h : Rp K H v d) : decide (v = .non) = d.isNon := by
  cases h <;> simp [D.isNon]
theorem ev_is {r : R2} {d : D} (hr : r = fun x y H Q => y = V.non ∧ Q (.bl (decide (x = V.non))) H) (ha : EvD K ta ρ d) (hb : EvV K tb ρ .non) : EvD K (tOp r ta tb) ρ (.bl d.isNon) := fun M σ H m e Q q =>
  ha M σ H m e _ fun v H1 e1 r1 => hb M σ H1 (m.ex e1) (e.ex e1) _ fun H2 e2 => by
    rw [hr]
    exact ⟨rfl, by rw [r1.isNon]; exact q _ H2 (e1.trans e2) (.bl _)⟩
theorem ev_isnt {r : R2} {d : D} (hr : r = fun x y H Q => y = V.non ∧ Q (.bl (!decide (x = V.non))) H) (ha : EvD K ta ρ d) (hb : EvV K tb ρ .non) : EvD K (tOp r ta tb) ρ (.bl (!d.isNon)) := fun M σ H m e Q q =>
  ha M σ H m e _ fun v H1 e1 r1 => hb M σ H1 (m.ex e1) (e.ex e1) _ fun H2 e2 => by
    rw [hr]
    exact ⟨rfl, by rw [r1.isNon]; exact q _ H2 (e1.trans e2) (.bl _)⟩
/-! ### subscripts, slices -/
theorem atI_rp {H : Hp} {vs : List V} {ds : List D} {i : Int} {d : D} (r : RpA K H vs ds) (h : atI ds i = some d) : ∃ v, atI vs i = some v ∧ Rp K H v d := by
  unfold atI at h ⊢
  rw [r.len]
  cases hx : ixN ds.length i with
  | none => rw [hx] at h; cases h
  | some j =>
    rw [hx] at h
    obtain ⟨v, h1, h2⟩ := r.get (show ds[j]? = some d from h)
    exact ⟨v, h1, h2⟩
theorem ev_ixL {xs : List D} {i : Int} {d : D} (ha : EvL K ta ρ xs) (hb : EvD K tb ρ (.int i)) (h : atI xs i = some d) : EvD K (tOp (rIxL K) ta tb) ρ d := fun M σ H m e Q q =>
  ha M σ H m e _ fun v H1 e1 r1 => hb M σ H1 (m.ex e1) (e.ex e1) _ fun w H2 e2 r2 => by
    obtain ⟨a, vs, rfl, h1, r1⟩ := r1.ex e2
    cases r2
    obtain ⟨z, h2, h3⟩ := atI_rp r1 h
    exact ⟨a, vs, i, z, rfl, rfl, sq_of h1, h2, q _ H2 (e1.trans e2) h3⟩
theorem ev_ixT {xs : List D} {i : Int} {d : D} (ha : EvD K ta ρ (.tup xs)) (hb : EvD K tb ρ (.int i)) (h : atI xs i = some d) : EvD K (tOp (rIxT K) ta tb) ρ d := fun M σ H m e Q q =>
  ha M σ H m e _ fun v H1 e1 r1 => hb M σ H1 (m.ex e1) (e.ex e1) _ fun w H2 e2 r2 => by
    have r1 := r1.ex (hid_ex e2)
    cases r1 with
    | tup h1 h2 =>
      cases r2
      obtain ⟨z, h3, h4⟩ := atI_rp h2 h
      exact ⟨_, _, i, z, rfl, rfl, st_of (hid_some h1).2, h3, q _ H2 (e1.trans e2) h4⟩
/-- list or tuple, as it comes -/
theorem ev_orL {r r' : R2} {d : D} (h : EvD K (tOp r ta tb) ρ d) : EvD K (tOp (fun x y H Q => r x y H Q ∨ r' x y H Q) ta tb) ρ d → EvD K (tOp (fun x y H Q => r x y H Q ∨ r' x y H Q) ta tb) ρ d := id
def cutD (xs : List D) (lo hi : Option Int) : List D := (xs.drop (HT.sIx xs.length 0 lo)).take (HT.sIx xs.length xs.length hi - HT.sIx xs.length 0 lo)
theorem ev_slL {xs : List D} {lo hi : Option Int} {tl th : TO} (ha : EvL K ta ρ xs) (hl : EvO K tl ρ lo) (hh : EvO K th ρ hi) : EvD K (tSl (rSlL K) ta tl th) ρ (.lst (cutD xs lo hi)) := fun M σ H m e Q q =>
  ha M σ H m e _ fun v H1 e1 r1 => hl M σ H1 (m.ex e1) (e.ex e1) _ fun H2 e2 => hh M σ H2 ((m.ex e1).ex e2) ((e.ex e1).ex e2) _ fun H3 e3 => by
    obtain ⟨a, vs, rfl, h1, r1⟩ := (r1.ex e2).ex e3
    refine ⟨a, vs, rfl, sq_of h1, new_lst (((m.ex e1).ex e2).ex e3) ((e1.trans e2).trans e3) ?_ q⟩
    unfold cutV cutD
    rw [r1.len]
    exact (r1.drop _).take _
/-- a dict with tuple keys, read -/
def dget {κ : Type} [DecidableEq κ] (ks : List κ) (xs : List D) (k : κ) : Option D := ((ks.zip xs).find? fun kv => decide (kv.1 = k)).map (·.2)
theorem valV_zip {κ : Type} [DecidableEq κ] {H : Hp} {k : κ} {d : D} : ∀ {ks : List κ} {vs : List V} {ds : List D}, RpA K H vs ds → dget ks ds k = some d → ∃ v, valV (ks.zip vs) k = some v ∧ Rp K H v d
  | [], _, _, _, h => by cases h
  | _ :: _, _, _, .nil, h => by cases h
  | k' :: ks, _, _, .cons r t, h => by
    unfold valV
    unfold dget at h
    rw [List.zip_cons_cons, List.find?_cons] at h ⊢
    by_cases e : k' = k
    · subst e
      simp only [decide_true, Option.map_some, Option.some.injEq] at h ⊢
      subst h
      exact ⟨_, rfl, r⟩
    · simp only [e, decide_false] at h ⊢
      exact valV_zip (ks := ks) t h
def kD : Key → D
  | .inl i => .int i
  | .inr x => .str x
theorem keys_rp {H : Hp} : ∀ {k : List Key} {vs : List V}, RpA K H vs (k.map kD) → vs = k.map kV
  | [], _, h => by cases h; rfl
  | .inl i :: k, _, h => by
    cases h with
    | cons r t => cases r; rw [keys_rp t]; rfl
  | .inr i :: k, _, h => by
    cases h with
    | cons r t => cases r; rw [keys_rp t]; rfl
/-- where a key's tuple has to stand in the tracked part -/
def TrT (t : TE) (K : Cfg) (ρ : Env) (k : List Key) : Prop := ∀ (M : List Addr) (σ : L2.St) (H : Hp), MOk K M H → EOk K M H ρ σ → ∀ Q : VK, (∀ b H2, Ex K H H2 → H2 b = some (.tup (k.map kV)) → Q (.ref b) H2) → t σ H Q
theorem tr_tup {t : TA} {k : List Key} (h : EvA K t ρ (k.map kD)) (hl : k.length ≤ 100000) : TrT (tTup t) K ρ k := fun M σ H m e Q q =>
  h M σ H m e _ fun vs H1 e1 r => by
    have ev := keys_rp r
    subst ev
    exact ⟨sz_of (by rw [List.length_map]; exact hl), fun p hp => q p _ (e1.trans (Ex.new hp)) upd_same⟩
theorem ev_dget {ks : List (List Key)} {xs : List D} {k : List Key} {d : D} (ha : EvDt K ta ρ ks xs) (hb : TrT tb K ρ k) (h : dget ks xs k = some d) : EvD K (tDGet ta tb) ρ d := fun M σ H m e Q q =>
  ha M σ H m e _ fun v H1 e1 r1 => hb M σ H1 (m.ex e1) (e.ex e1) _ fun b H2 e2 hb2 => by
    obtain ⟨a, vs, rfl, h1, l, r1⟩ := r1.ex e2
    obtain ⟨z, h2, h3⟩ := valV_zip r1 h
    refine ⟨a, z, rfl, ?_, q _ H2 (e1.trans e2) h3⟩
    have := DGet.t h1 hb2
    rw [h2] at this
    exact this
/-! ### built-in functions -/
theorem ev_len {xs : List D} {r : List V → Hp → VK → Prop} (hr : r = fun xs H Q => ∃ p ys, xs = [V.ref p] ∧ (SqL K H p ys ∨ SqT K H p ys) ∧ Q (.int ys.length) H) (h : EvS K te ρ xs) : EvD K (tCB r (tCons te tNil)) ρ (.int (xs.length : Int)) := fun M σ H m e Q q =>
  h M σ H m e _ fun v H1 e1 r1 => by
    obtain ⟨a, vs, rfl, h1, r1⟩ := r1
    rw [hr]
    exact ⟨a, vs, rfl, h1, by rw [r1.len]; exact q _ H1 e1 (.int _)⟩
theorem ev_all {bs : List Bool} (h : EvL K te ρ (bs.map D.bl)) : EvD K (tCB (rAll K) (tCons te tNil)) ρ (.bl (bs.all id)) := fun M σ H m e Q q =>
  h M σ H m e _ fun v H1 e1 r1 => by
    obtain ⟨a, vs, rfl, h1, r1⟩ := r1
    exact ⟨a, bs, rfl, by rw [← RpA.bls r1]; exact sq_of h1, q _ H1 e1 (.bl _)⟩
theorem ev_any {bs : List Bool} (h : EvL K te ρ (bs.map D.bl)) : EvD K (tCB (rAny K) (tCons te tNil)) ρ (.bl (bs.any id)) := fun M σ H m e Q q =>
  h M σ H m e _ fun v H1 e1 r1 => by
    obtain ⟨a, vs, rfl, h1, r1⟩ := r1
    exact ⟨a, bs, rfl, by rw [← RpA.bls r1]; exact sq_of h1, q _ H1 e1 (.bl _)⟩
theorem ev_max {ns : List Int} {mx : Int} (h : EvL K te ρ (ns.map D.int)) (h1 : mx ∈ ns) (h2 : ∀ y ∈ ns, y ≤ mx) : EvD K (tCB (rMax K) (tCons te tNil)) ρ (.int mx) := fun M σ H m e Q q =>
  h M σ H m e _ fun v H1 e1 r1 => by
    obtain ⟨a, vs, rfl, hq, r1⟩ := r1
    refine ⟨a, ns, rfl, by rw [← RpA.ints r1]; exact sq_of hq, List.length_pos_of_mem h1, fun m' hm' hle => ?_⟩
    have : m' = mx := Int.le_antisymm (h2 m' hm') (hle mx h1)
    subst this
    exact q _ H1 e1 (.int _)
theorem ev_sum {ns : List Int} (h : EvL K te ρ (ns.map D.int)) : EvD K (tCB (rSum K) (tCons te tNil)) ρ (.int ns.sum) := fun M σ H m e Q q =>
  h M σ H m e _ fun v H1 e1 r1 => by
    obtain ⟨a, vs, rfl, hq, r1⟩ := r1
    exact ⟨a, ns, rfl, by rw [← RpA.ints r1]; exact sq_of hq, q _ H1 e1 (.int _)⟩
theorem ev_list {xs : List D} {r : List V → Hp → VK → Prop} (hr : r = fun xs H Q => ∃ p ys, xs = [V.ref p] ∧ (SqL K H p ys ∨ SqT K H p ys) ∧ ∀ l, H l = none → Q (.ref l) (upd H l (.lst ys))) (h : EvS K te ρ xs) : EvD K (tCB r (tCons te tNil)) ρ (.lst xs) := fun M σ H m e Q q =>
  h M σ H m e _ fun v H1 e1 r1 => by
    obtain ⟨a, vs, rfl, h1, r1⟩ := r1
    rw [hr]
    exact ⟨a, vs, rfl, h1, new_lst (m.ex e1) e1 r1 q⟩
/-- isinstance -/
def D.ty : D → String
  | .non => "NoneType"
  | .bl _ => "bool"
  | .int _ => "int"
  | .str _ => "str"
  | .lst _ => "list"
  | .tup _ => "tuple"
  | .dT _ _ => "dict"
  | .dK _ _ => "dict"
  | .ob _ => "object"
/-- no object of a class of the program -/
def D.noOb : D → Bool
  | .ob _ => false
  | _ => true
theorem sqT_ty {H : Hp} {a : Addr} {vs : List V} (h : SqT K H a vs) : TyX K H (.ref a) (.type "tuple") := by
  rcases h with (h | ⟨o, h⟩) | h
  · exact .base (.tup h)
  · exact .fTuple h
  · obtain ⟨o, its, n, h1, h2, h3, _⟩ := h
    exact .kTuple h1 h2
theorem Rp.ty {H : Hp} {v : V} {d : D} (h : Rp K H v d) (hp : d.noOb = true) : TyX K H v (.type d.ty) := by
  cases h with
  | non => exact .base .non
  | bl b => exact .base (.bl b)
  | int i => exact .base (.int i)
  | str x => exact .base (.str x)
  | lst h1 h2 => exact .base (.lst h1)
  | tup h1 h2 => exact sqT_ty (st_of h1)
  | dT h1 h2 h3 => exact .base (.dT h1)
  | dK h1 h2 h3 => exact .base (.dK h1)
  | ob h => cases hp
/-- is it of the type c -/
def D.isA (d : D) (c : String) : Bool := d.ty == c || (d.ty == "bool" && c == "int")
theorem kit_tab : ∀ t ∈ (["NoneType", "bool", "int", "str", "list", "tuple", "dict"] : List String), ∀ c ∈ (["int", "bool", "str", "list", "tuple", "dict"] : List String), kitB t c = some (t == c || (t == "bool" && c == "int")) := by decide +kernel
theorem D.ty_mem (d : D) (hp : d.noOb = true) : d.ty ∈ (["NoneType", "bool", "int", "str", "list", "tuple", "dict"] : List String) := by cases d <;> first | (cases hp; done) | simp [D.ty]
theorem kit_isA {d : D} {c : String} (hp : d.noOb = true) (hc : c = "int" ∨ c = "bool" ∨ c = "str" ∨ c = "list" ∨ c = "tuple" ∨ c = "dict") : PySem.W.kitOne K (.type d.ty) (.type c) = some (d.isA c) :=
  kit_ty (kit_tab d.ty (d.ty_mem hp) c (by rcases hc with rfl | rfl | rfl | rfl | rfl | rfl <;> simp))
theorem ev_isi {d : D} {c : String} (h : EvD K ta ρ d) (hc : c = "int" ∨ c = "bool" ∨ c = "str" ∨ c = "list" ∨ c = "tuple" ∨ c = "dict") (hp : d.noOb = true := by first | rfl | assumption) : EvD K (tCB (rIsi K) (tCons ta (tCons (tC (.ty c)) tNil))) ρ (.bl (d.isA c)) := fun M σ H m e Q q =>
  h M σ H m e _ fun v H1 e1 r1 => ⟨v, .ty c, _, _, _, rfl, .ty c, (r1.ex hid_sub).ty hp, kit_isA hp hc, q _ H1 e1 (.bl _)⟩
/-- .. of one of two -/
theorem ev_isi2 {d : D} {c c' : String} (h : EvD K ta ρ d) (hc : c = "int" ∨ c = "bool" ∨ c = "str" ∨ c = "list" ∨ c = "tuple" ∨ c = "dict") (hc' : c' = "int" ∨ c' = "bool" ∨ c' = "str" ∨ c' = "list" ∨ c' = "tuple" ∨ c' = "dict") (hp : d.noOb = true := by first | rfl | assumption) :
    EvD K (tCB (rIsiT K) (tCons ta (tCons (tTup (tCons (tC (.ty c)) (tCons (tC (.ty c')) tNil))) tNil))) ρ (.bl (d.isA c || d.isA c')) := fun M σ H m e Q q =>
  h M σ H m e _ fun v H1 e1 r1 => ⟨(by show 2 ≤ sizeLine; decide), fun p hpp => by
    refine ⟨v, p, _, .type d.ty, [.type c, .type c'], d.isA c || d.isA c', rfl, upd_same, .cons (.ty c) (.cons (.ty c') .nil), ?_, ?_, q _ _ (e1.trans (Ex.new hpp)) (.bl _)⟩
    · exact (r1.ex (hid_sub.trans (Kp.new hpp))).ty hp
    · refine kitAny_cons (kit_isA hp hc) (fun h1 => ?_) (fun h1 => by rw [h1]; rfl)
      refine kitAny_cons (kit_isA hp hc') (fun h2 => ?_) (fun h2 => by rw [h2, Bool.or_true])
      rw [h1, h2]
      exact kitAny_nil⟩
end Dl
/-! Lists and dicts of one's own: made, changed. -/
namespace Dl
open PySem L2
variable {K : Cfg} {ρ : Env} {ta tb te : TE} {B : Hp} {M : List Addr} {De : Ends}
/-- a new list -/
def EvN (K : Cfg) (t : TE) (ρ : Env) (xs : List D) : Prop := ∀ (M : List Addr) (σ : L2.St) (H : Hp), MOk K M H → EOk K M H ρ σ → ∀ Q : VK, (∀ p vs H2, H p = none → Ex K H H2 → H2 p = some (.lst vs) → RpA K (hid H2 (p :: M)) vs xs → Q (.ref p) H2) → t σ H Q
theorem hid_new2 {H1 : Hp} {M : List Addr} {p : Addr} {o : HO} (hp : H1 p = none) : Kp (hid H1 M) (hid (upd H1 p o) (p :: M)) := fun a u q _ => by
  obtain ⟨m1, q⟩ := hid_some q
  have na : a ≠ p := fun z => by rw [z, hp] at q; cases q
  rw [hid_out (by simp [na, m1]), upd_ne na]
  exact q
theorem en_lst {t : TA} {ds : List D} (h : EvA K t ρ ds) (hl : ds.length ≤ 100000) : EvN K (tLst t) ρ ds := fun M σ H m e Q q =>
  h M σ H m e _ fun vs H1 e1 r => ⟨sz_of (by rw [r.len]; exact hl), fun p hp => q p vs _ (e1.back hp) (e1.trans (Ex.new hp)) upd_same (r.ex (hid_new2 hp))⟩
theorem en_cat {xs ys : List D} (ha : EvL K ta ρ xs) (hb : EvL K tb ρ ys) (hl : xs.length + ys.length ≤ 100000) : EvN K (tOp rCat ta tb) ρ (xs ++ ys) := fun M σ H m e Q q =>
  ha M σ H m e _ fun v H1 e1 r1 => hb M σ H1 (m.ex e1) (e.ex e1) _ fun w H2 e2 r2 => by
    obtain ⟨a, vs, rfl, h1, r1⟩ := r1.ex e2
    obtain ⟨b, ws, rfl, h2, r2⟩ := r2
    exact ⟨a, b, vs, ws, rfl, rfl, h1, h2, sz_of (by rw [r1.len, r2.len]; exact hl), fun p hp => q p _ _ (e1.back (e2.back hp)) ((e1.trans e2).trans (Ex.new hp)) upd_same ((r1.app r2).ex (hid_new2 hp))⟩
theorem EvN.d {xs : List D} (h : EvN K te ρ xs) : EvD K te ρ (.lst xs) := fun M σ H m e Q q => h M σ H m e Q fun p vs H2 hp e2 hq r =>
  q _ H2 e2 (.lst (by rw [hid_out (m.new hp)]; exact hq) (r.ex (hid_less fun a h => List.mem_cons_of_mem _ h)))
theorem h_ownN {i : Nat} {xs : List D} (h : EvN K te ρ xs) (k : ∀ p, B p = none → Hold K B M (ρ.set i (.own p xs)) De.nx) : Hold K B M ρ (tAsg te (gName i) De) := h_own h k
/-- an owned slot's own object is changed -/
theorem StOk.mut {i : Nat} {a : Addr} {s s' : Sl} {o u : HO} {σ : L2.St} {H : Hp} (st : StOk K B M ρ σ H) (ho : H a = some o) (hk : Lk o) (h : ρ[i]? = some s) (hs : s.adr = [a]) (hs' : s'.adr = [a]) (r : SlOk K (owns ρ ++ M) (upd H a u) s' (σ[i]?.join)) : StOk K B M (ρ.set i s') σ (upd H a u) := by
  have ha : a ∈ owns ρ := mem_owns.mpr ⟨_, List.mem_of_getElem? h, by rw [hs]; simp⟩
  have hi := (List.getElem?_eq_some_iff.mp h).1
  have sub : ∀ c ∈ owns (ρ.set i s'), c ∈ owns ρ := fun c hc => by
    rcases owns_set_sub hc with hc | hc
    · exact hc
    · rw [hs'] at hc
      have e : c = a := by simpa using hc
      rw [e]; exact ha
  have nd : (owns (ρ.set i s')).Nodup := owns_set_nd i st.nd (by rw [hs']; simp) fun c hc j t hj ht hat => by
    rw [hs'] at hc
    have e : c = a := by simpa using hc
    subst e
    exact owns_inj st.nd (Ne.symm hj) h ht (by rw [hs]; simp) hat
  have aB : B a = none := st.fr a ha
  refine ⟨st.ex.mut aB, fun c hc => st.fr c (sub c hc), nd, fun c hc => st.ap c (sub c hc), st.mo.upd ho hk, ?_⟩
  -- all slots but i
  have key : ∀ {l : Env} {m : L2.St} (j : Nat), Paired (SlOk K (owns ρ ++ M) H) l m → (∀ n t, l[n]? = some t → n ≠ j → a ∉ t.adr) → (∀ o, m[j]? = some o → SlOk K (owns ρ ++ M) (upd H a u) s' o) → Paired (SlOk K (owns ρ ++ M) (upd H a u)) (l.set j s') m := by
    intro l m j p
    induction p generalizing j with
    | nil => intro _ _; exact .nil
    | @cons x y l m r p ih =>
      intro h1 h2
      cases j with
      | zero =>
        refine .cons (h2 y rfl) ?_
        have : ∀ {l : Env} {m : L2.St}, Paired (SlOk K (owns ρ ++ M) H) l m → (∀ t ∈ l, a ∉ t.adr) → Paired (SlOk K (owns ρ ++ M) (upd H a u)) l m := fun p h => Paired.imp' p fun t ht o r => r.mut (List.mem_append_left _ ha) (h t ht)
        refine this p fun t ht => ?_
        obtain ⟨n, hn⟩ := List.getElem?_of_mem ht
        exact h1 (n + 1) t (by simpa using hn) (by omega)
      | succ j =>
        refine .cons (r.mut (List.mem_append_left _ ha) (h1 0 x rfl (by omega))) (ih j (fun n t hn hj => h1 (n + 1) t (by simpa using hn) (by omega)) fun o ho => h2 o (by simpa using ho))
  have ev1 : EOk K (owns ρ ++ M) (upd H a u) (ρ.set i s') σ := key i st.ev (fun n t hn hj hat => owns_inj st.nd (Ne.symm hj) h hn (by rw [hs]; simp) hat) fun o ho => by
    rw [ho] at r
    exact r
  refine ev1.less (fun c hc => ?_) fun c hc => List.mem_append_left _ hc
  rcases List.mem_append.mp hc with hc | hc
  · exact List.mem_append_left _ (sub c hc)
  · exact List.mem_append_right _ hc
/-- the object of an owned list -/
theorem StOk.own {i : Nat} {a : Addr} {xs : List D} {σ : L2.St} {H : Hp} (st : StOk K B M ρ σ H) (h : ρ[i]? = some (.own a xs)) : σ[i]? = some (some (.ref a)) ∧ ∃ vs, H a = some (.lst vs) ∧ RpA K (hid H (owns ρ ++ M)) vs xs := by
  obtain ⟨o, e1, rfl, _, vs, q1, r⟩ := st.ev.get h
  exact ⟨e1, vs, q1, r⟩
theorem own_mem {i : Nat} {a : Addr} {s : Sl} (h : ρ[i]? = some s) (hs : a ∈ s.adr) : a ∈ owns ρ := mem_owns.mpr ⟨_, List.mem_of_getElem? h, hs⟩
/-- xs.append(e) -/
theorem h_app {i : Nat} {a : Addr} {xs : List D} {d : D} (h : ρ[i]? = some (.own a xs)) (he : EvD K te ρ d) (hl : xs.length < 100000) (k : Hold K B M (ρ.set i (.own a (xs ++ [d]))) De.nx) : Hold K B M ρ (tDrop (tBM K "list" rAppend (tVar i) (tCons te tNil)) De) := fun B' b σ H st => by
  obtain ⟨e1, vs, q1, r1⟩ := st.own h
  refine ⟨_, e1, Or.inl ⟨rfl, vs, sq_of q1⟩, he _ σ H st.mok st.ev _ fun v H2 e2 r2 => ?_⟩
  have st2 := st.grow e2
  have q2 : H2 a = some (.lst vs) := e2.kp.lst q1
  refine ⟨a, vs, v, rfl, rfl, q2, sz_lt (by rw [r1.len]; exact hl), k B' b σ _ (st2.mut q2 True.intro h rfl rfl ?_)⟩
  rw [e1]
  exact ⟨rfl, List.mem_append_left _ (own_mem h (by simp [Sl.adr])), _, upd_same, ((r1.ex (hid_ex e2)).app (.cons r2 .nil)).ex (hid_upd (List.mem_append_left _ (own_mem h (by simp [Sl.adr]))))⟩
/-- xs.insert(j, e), j within -/
theorem h_ins {i : Nat} {a : Addr} {xs : List D} {d : D} {j : Int} {r : V → List V → Hp → VK → Prop} (hr : r = fun x vs H Q => ∃ (l : Addr) (xs : List V) (i : Int) (y : V), x = .ref l ∧ vs = [.int i, y] ∧ H l = some (.lst xs) ∧ xs.length < sizeLine ∧ 0 ≤ i ∧ i < 2 ^ 63 ∧
    Q .non (upd H l (.lst (xs.take i.toNat ++ [y] ++ xs.drop i.toNat)))) (h : ρ[i]? = some (.own a xs)) (hj : EvD K ta ρ (.int j)) (he : EvD K te ρ d) (hl : xs.length < 100000) (h0 : 0 ≤ j) (h1 : j < 100000)
    (k : Hold K B M (ρ.set i (.own a (xs.take j.toNat ++ [d] ++ xs.drop j.toNat))) De.nx) : Hold K B M ρ (tDrop (tBM K "list" r (tVar i) (tCons ta (tCons te tNil))) De) := fun B' b σ H st => by
  obtain ⟨e1, vs, q1, r1⟩ := st.own h
  refine ⟨_, e1, Or.inl ⟨rfl, vs, sq_of q1⟩, hj _ σ H st.mok st.ev _ fun w H1 e0 r0 => he _ σ H1 (st.mok.ex e0) (st.ev.ex e0) _ fun v H2 e2 r2 => ?_⟩
  cases r0
  have st2 := (st.grow e0).grow e2
  have q2 : H2 a = some (.lst vs) := e2.kp.lst (e0.kp.lst q1)
  have r1 := (r1.ex (hid_ex e0)).ex (hid_ex e2)
  rw [hr]
  refine ⟨a, vs, j, v, rfl, rfl, q2, sz_lt (by rw [r1.len]; exact hl), h0, by omega, k B' b σ _ (st2.mut q2 True.intro h rfl rfl ?_)⟩
  rw [e1]
  exact ⟨rfl, List.mem_append_left _ (own_mem h (by simp [Sl.adr])), _, upd_same, (((r1.take _).app (.cons r2 .nil)).app (r1.drop _)).ex (hid_upd (List.mem_append_left _ (own_mem h (by simp [Sl.adr]))))⟩
/-- g = xs.pop() -/
theorem h_pop {i : Nat} {a : Addr} {xs : List D} {d : D} {g : TG} {ρ2 : Env} {ix : List Nat} (h : ρ[i]? = some (.own a (xs ++ [d]))) (hb : Bnd K g d (ρ.set i (.own a xs)) ρ2 ix) (k : Hold K B M ρ2 De.nx) : Hold K B M ρ (tAsg (tBM0 K "list" rPop (tVar i)) g De) := fun B' b σ H st => by
  obtain ⟨e1, vs, q1, r1⟩ := st.own h
  have hl := r1.len
  rw [List.length_append, List.length_singleton] at hl
  obtain ⟨v, hv, rv⟩ := r1.get (i := xs.length) (d := d) (by simp)
  have hdl : RpA K (hid H (owns ρ ++ M)) vs.dropLast xs := by
    have q := r1.take xs.length
    rw [List.take_left] at q
    rw [List.dropLast_eq_take, show vs.length - 1 = xs.length by omega]
    exact q
  have am : a ∈ owns ρ ++ M := List.mem_append_left _ (own_mem h (by simp [Sl.adr]))
  refine ⟨_, e1, Or.inl ⟨rfl, vs, sq_of q1⟩, a, vs, v, rfl, rfl, q1, by rw [show vs.length - 1 = xs.length by omega]; exact hv, ?_⟩
  have st2 : StOk K B' M (ρ.set i (.own a xs)) σ (upd H a (.lst vs.dropLast)) := st.mut q1 True.intro h rfl rfl (by
    rw [e1]
    exact ⟨rfl, am, _, upd_same, hdl.ex (hid_upd am)⟩)
  have sub : ∀ c ∈ owns (ρ.set i (.own a xs)) ++ M, c ∈ owns ρ ++ M := fun c hc => by
    rcases List.mem_append.mp hc with hc | hc
    · rcases owns_set_sub hc with hc | hc
      · exact List.mem_append_left _ hc
      · have e : c = a := by simpa [Sl.adr] using hc
        rw [e]; exact am
    · exact List.mem_append_right _ hc
  refine hb.run _ σ _ v st2.mok st2.ev ((rv.ex (hid_upd am)).ex (hid_less sub)) _ fun σ3 e3 _ => k B' b σ3 _ ⟨st2.ex, fun c hc => st2.fr c (hb.sub c hc), hb.nd st2.nd, fun c hc => st2.ap c (hb.sub c hc), st2.mo, ?_⟩
  refine e3.less (fun c hc => ?_) fun c hc => List.mem_append_left _ hc
  rcases List.mem_append.mp hc with hc | hc
  · exact List.mem_append_left _ (hb.sub c hc)
  · exact List.mem_append_right _ hc
/-- g = e, any target -/
theorem h_bind {d : D} {g : TG} {ρ2 : Env} {ix : List Nat} (h : EvD K te ρ d) (hb : Bnd K g d ρ ρ2 ix) (k : Hold K B M ρ2 De.nx) : Hold K B M ρ (tAsg te g De) := fun B' b σ H st =>
  h _ σ H st.mok st.ev _ fun v H1 e1 r => by
    have st2 := st.grow e1
    refine hb.run _ σ _ v st2.mok st2.ev r _ fun σ3 e3 _ => k B' b σ3 _ ⟨st2.ex, fun c hc => st2.fr c (hb.sub c hc), hb.nd st2.nd, fun c hc => st2.ap c (hb.sub c hc), st2.mo, ?_⟩
    refine e3.less (fun c hc => ?_) fun c hc => List.mem_append_left _ hc
    rcases List.mem_append.mp hc with hc | hc
    · exact List.mem_append_left _ (hb.sub c hc)
    · exact List.mem_append_right _ hc
/-! dicts with tuple keys -/
theorem h_ownT {i : Nat} (k : ∀ p, B p = none → Hold K B M (ρ.set i (.ownT p [] [])) De.nx) : Hold K B M ρ (tAsg tDNewT (gName i) De) := fun B' b σ H st => fun p hp => by
  have st2 := st.grow (Ex.new (o := .dT []) hp)
  have hpB : B' p = none := st.ex.back hp
  have hpM : p ∉ owns ρ ++ M := st.mok.new hp
  refine k p (b.back hpB) B' b _ _ (st2.setOwn rfl hpB (fun z => hpM (List.mem_append_right _ z)) (fun z => hpM (List.mem_append_left _ z)) ⟨rfl, List.mem_cons_self, [], upd_same, rfl, .nil⟩ ?_)
  have e2 : Kp (hid H (owns ρ ++ M)) (hid (upd H p (.dT [])) (p :: (owns ρ ++ M))) := hid_new2 hp
  refine Paired.imp' st.ev fun s _ o r => ?_
  have e : Kp H (upd H p (.dT [])) := Kp.new hp
  cases s with
  | no => trivial
  | dat d => obtain ⟨v, e1, r⟩ := r; exact ⟨v, e1, r.ex e2⟩
  | own a xs => obtain ⟨e1, m, vs, q, r⟩ := r; exact ⟨e1, List.mem_cons_of_mem _ m, vs, e.lst q, r.ex e2⟩
  | ownT a ks xs => obtain ⟨e1, m, vs, q, l, r⟩ := r; exact ⟨e1, List.mem_cons_of_mem _ m, vs, e.dT q, l, r.ex e2⟩
  | ownK a ks xs => obtain ⟨e1, m, vs, q, l, r⟩ := r; exact ⟨e1, List.mem_cons_of_mem _ m, vs, e.dK q, l, r.ex e2⟩
  | ownG a R => obtain ⟨e1, m, u, q, n, r⟩ := r; exact ⟨e1, List.mem_cons_of_mem _ m, u, e _ _ q n, n, fun G g => r G (e2.trans g)⟩
  | raw v => exact r
  | fix v d => exact ⟨r.1, r.2.ex e2⟩
  | deep as d => obtain ⟨v, e1, m, r⟩ := r; exact ⟨v, e1, fun a h => List.mem_cons_of_mem _ (m a h), r.ups (fun a _ vs h => e.lst h) e2⟩
theorem put_zip {κ : Type} [DecidableEq κ] {H : Hp} {k : κ} {v : V} {d : D} {ks : List κ} {vs : List V} {ds : List D} (r : RpA K H vs ds) (rv : Rp K H v d) (hl : ks.length = vs.length) (hk : k ∉ ks) : putK (ks.zip vs) k v = (ks ++ [k]).zip (vs ++ [v]) ∧ RpA K H (vs ++ [v]) (ds ++ [d]) := by
  refine ⟨?_, r.app (.cons rv .nil)⟩
  unfold putK
  rw [if_neg, List.zip_append hl]
  · rfl
  · intro h
    obtain ⟨p, hp, e⟩ := List.any_eq_true.mp h
    have e : p.1 = k := of_decide_eq_true e
    exact hk (e ▸ (List.of_mem_zip hp).1)
/-- d[k] = e, a new key -/
theorem h_put {i : Nat} {a : Addr} {ks : List (List Key)} {xs : List D} {k : List Key} {d : D} (h : ρ[i]? = some (.ownT a ks xs)) (he : EvD K te ρ d) (hk : TrT tb K ρ k) (hl : ks.length < 100000) (hn : k ∉ ks) (kk : Hold K B M (ρ.set i (.ownT a (ks ++ [k]) (xs ++ [d]))) De.nx) :
    Hold K B M ρ (sDPut (tVar i) tb te De) := fun B' b σ H st =>
  he _ σ H st.mok st.ev _ fun v H1 e1 r1 => by
    obtain ⟨o, e2, rfl, _, vs, q1, l, r2⟩ := (st.ev.ex e1).get h
    refine ⟨_, e2, hk _ σ H1 (st.mok.ex e1) (st.ev.ex e1) _ fun c H2 e3 hc => ?_⟩
    have st2 := (st.grow e1).grow e3
    have q2 : H2 a = some (.dT (ks.zip vs)) := e3.kp.dT q1
    have am : a ∈ owns ρ ++ M := List.mem_append_left _ (own_mem h (by simp [Sl.adr]))
    obtain ⟨p1, p2⟩ := put_zip (r2.ex (hid_ex e3)) (r1.ex (hid_ex e3)) l hn
    refine ⟨a, _, rfl, DPut.t q2 hc (sz_lt (by rw [List.length_zip, ← l, Nat.min_self]; exact hl)), kk B' b σ _ (st2.mut q2 True.intro h rfl rfl ?_)⟩
    rw [e2]
    exact ⟨rfl, am, vs ++ [v], by rw [upd_same, p1], by rw [List.length_append, List.length_append, l]; rfl, p2.ex (hid_upd am)⟩
/-! two names at once -/
theorem h_par {i j : Nat} {x y : D} {t : TA} (h : EvA K t ρ [x, y]) (k : Hold K B M ((ρ.set i (.dat x)).set j (.dat y)) De.nx) : Hold K B M ρ (tPar i j t De) := fun B' b σ H st =>
  h _ σ H st.mok st.ev _ fun vs H1 e1 r => by
    cases r with
    | cons r1 r => cases r with
      | cons r2 r =>
        cases r
        refine ⟨_, _, rfl, k B' b _ H1 ?_⟩
        have s1 := (st.grow e1).set (i := i) (s := .dat x) rfl ⟨_, rfl, r1⟩
        refine s1.set rfl ⟨_, rfl, r2.ex (hid_less fun c hc => ?_)⟩
        rcases List.mem_append.mp hc with hc | hc
        · exact List.mem_append_left _ (set_sub c hc)
        · exact List.mem_append_right _ hc
end Dl
/-! Several names at once, some of them owning. -/
namespace Dl
open PySem L2
variable {K : Cfg} {ρ : Env} {ta tb te : TE} {B : Hp} {M : List Addr} {De : Ends}
inductive Kd where
  | dat (d : D) | new (xs : List D)
def Kd.sl : Kd → Addr → Sl
  | .dat d, _ => .dat d
  | .new xs, p => .own p xs
def Kd.adr : Kd → Addr → List Addr
  | .dat _, _ => []
  | .new _, p => [p]
theorem Kd.adr_sl (k : Kd) (p : Addr) : (k.sl p).adr = k.adr p := by cases k <;> rfl
theorem Kd.nd (k : Kd) (p : Addr) : (k.adr p).Nodup := by cases k <;> simp [Kd.adr]
def EvX (K : Cfg) (t : TE) (ρ : Env) (k : Kd) : Prop := ∀ (M : List Addr) (σ : L2.St) (H : Hp), MOk K M H → EOk K M H ρ σ → ∀ Q : VK,
  (∀ p v H2, Ex K H H2 → (∀ a ∈ k.adr p, H a = none) → SlOk K (k.adr p ++ M) H2 (k.sl p) (some v) → Kp (hid H M) (hid H2 (k.adr p ++ M)) → MOk K (k.adr p ++ M) H2 → Q v H2) → t σ H Q
theorem EvD.x {d : D} (h : EvD K te ρ d) : EvX K te ρ (.dat d) := fun M σ H m e Q q => h M σ H m e Q fun v H2 e2 r =>
  q 0 v H2 e2 (fun a h => nomatch h) ⟨v, rfl, r⟩ (hid_ex e2) (m.ex e2)
theorem EvN.x {xs : List D} (h : EvN K te ρ xs) : EvX K te ρ (.new xs) := fun M σ H m e Q q => h M σ H m e Q fun p vs H2 hp e2 hq r => by
  refine q p _ H2 e2 (fun a h => by rw [show a = p by simpa [Kd.adr] using h]; exact hp) ⟨rfl, List.mem_cons_self, vs, hq, r⟩ (fun a o q n => ?_) ⟨fun a h => ?_, (m.ex e2).t⟩
  · obtain ⟨m1, q⟩ := hid_some q
    have na : a ≠ p := fun z => by rw [z, hp] at q; cases q
    rw [hid_out (by simp [Kd.adr, na, m1])]
    exact e2.kp _ _ q n
  · rcases List.mem_append.mp h with h | h
    · rw [show a = p by simpa [Kd.adr] using h, hq]; simp
    · exact (m.ex e2).m a h
/-- known addresses are hidden besides, all else grows -/
theorem SlOk.up {N N' : List Addr} {H H2 : Hp} {s : Sl} {o : Option V} (h : SlOk K N H s o) (e : Ex K H H2) (e2 : Kp (hid H N) (hid H2 N')) (sub : ∀ a ∈ N, a ∈ N') : SlOk K N' H2 s o := by
  cases s with
  | no => trivial
  | dat d => obtain ⟨v, e1, r⟩ := h; exact ⟨v, e1, r.ex e2⟩
  | own a xs => obtain ⟨e1, m, vs, q, r⟩ := h; exact ⟨e1, sub _ m, vs, e.kp.lst q, r.ex e2⟩
  | ownT a ks xs => obtain ⟨e1, m, vs, q, l, r⟩ := h; exact ⟨e1, sub _ m, vs, e.kp.dT q, l, r.ex e2⟩
  | ownK a ks xs => obtain ⟨e1, m, vs, q, l, r⟩ := h; exact ⟨e1, sub _ m, vs, e.kp.dK q, l, r.ex e2⟩
  | ownG a R => obtain ⟨e1, m, u, q, n, r⟩ := h; exact ⟨e1, sub _ m, u, e.kp _ _ q n, n, fun G g => r G (e2.trans g)⟩
  | raw v => exact h
  | fix v d => exact ⟨h.1, h.2.ex e2⟩
  | deep as d => obtain ⟨v, e1, m, r⟩ := h; exact ⟨v, e1, fun a h => sub _ (m a h), r.ups (fun a _ vs h => e.kp.lst h) e2⟩
theorem EOk.up {N N' : List Addr} {H H2 : Hp} {σ : L2.St} (h : EOk K N H ρ σ) (e : Ex K H H2) (e2 : Kp (hid H N) (hid H2 N')) (sub : ∀ a ∈ N, a ∈ N') : EOk K N' H2 ρ σ := Paired.imp' h fun _ _ _ r => r.up e e2 sub
/-- a slot that may own new addresses -/
theorem StOk.setG {i : Nat} {s : Sl} {o : Option V} {σ : L2.St} {H : Hp} {N : List Addr} (st : StOk K B M ρ σ H) (hB : ∀ a ∈ s.adr, B a = none) (hM : ∀ a ∈ s.adr, a ∉ M) (hn : ∀ a ∈ s.adr, a ∉ owns ρ) (nd : s.adr.Nodup)
    (sub : ∀ a ∈ owns ρ ++ M, a ∈ N) (sub2 : ∀ a ∈ s.adr, a ∈ N) (r : SlOk K N H s o) (hev : EOk K N H ρ σ) : StOk K B M (ρ.set i s) (σ.set i o) H := by
  have sb : ∀ a ∈ owns (ρ.set i s), a ∈ owns ρ ∨ a ∈ s.adr := fun a h => owns_set_sub h
  refine ⟨st.ex, fun a h => (sb a h).elim (st.fr a) (hB a), owns_set_nd i st.nd nd (fun a ha j t hj ht hat => hn a ha (mem_owns.mpr ⟨t, List.mem_of_getElem? ht, hat⟩)), fun a h => (sb a h).elim (st.ap a) (hM a), st.mo, ?_⟩
  refine (hev.set r).less (fun a h => ?_) fun a h => List.mem_append_left _ h
  rcases List.mem_append.mp h with h | h
  · rcases sb a h with h | h
    · exact sub a (List.mem_append_left _ h)
    · exact sub2 a h
  · exact sub a (List.mem_append_right _ h)
theorem h_par2 {i j : Nat} {t1 t2 : TE} {k1 k2 : Kd} (h1 : EvX K t1 ρ k1) (h2 : EvX K t2 ρ k2) (k : ∀ p q, Hold K B M ((ρ.set i (k1.sl p)).set j (k2.sl q)) De.nx) : Hold K B M ρ (tPar i j (tCons t1 (tCons t2 tNil)) De) := fun B' b σ H st =>
  h1 _ σ H st.mok st.ev _ fun p v H1 e1 f1 s1 x1 m1 => h2 _ σ H1 m1 (st.ev.up e1 x1 fun a h => List.mem_append_right _ h) _ fun q w H2 e2 f2 s2 x2 m2 => by
    refine ⟨v, w, rfl, k p q B' b _ H2 ?_⟩
    have st2 := (st.grow e1).grow e2
    have ev2 : EOk K (k2.adr q ++ (k1.adr p ++ (owns ρ ++ M))) H2 ρ σ := (st.ev.up e1 x1 fun a h => List.mem_append_right _ h).up e2 x2 fun a h => List.mem_append_right _ h
    have s1' : SlOk K (k2.adr q ++ (k1.adr p ++ (owns ρ ++ M))) H2 (k1.sl p) (some v) := s1.up e2 x2 fun a h => List.mem_append_right _ h
    have g1 : StOk K B' M (ρ.set i (k1.sl p)) (σ.set i (some v)) H2 := st2.setG (N := k2.adr q ++ (k1.adr p ++ (owns ρ ++ M)))
      (fun a h => st.ex.back (f1 a (by rw [← k1.adr_sl]; exact h))) (fun a h z => st.mok.m a (List.mem_append_right _ z) (f1 a (by rw [← k1.adr_sl]; exact h))) (fun a h z => st.mok.m a (List.mem_append_left _ z) (f1 a (by rw [← k1.adr_sl]; exact h)))
      (by rw [k1.adr_sl]; exact k1.nd p) (fun a h => List.mem_append_right _ (List.mem_append_right _ h)) (fun a h => by rw [k1.adr_sl] at h; exact List.mem_append_right _ (List.mem_append_left _ h)) s1' ev2
    refine g1.setG (N := k2.adr q ++ (k1.adr p ++ (owns ρ ++ M))) (fun a h => st.ex.back (e1.back (f2 a (by rw [← k2.adr_sl]; exact h)))) (fun a h z => m1.m a (List.mem_append_right _ (List.mem_append_right _ z)) (f2 a (by rw [← k2.adr_sl]; exact h)))
      (fun a h z => ?_) (by rw [k2.adr_sl]; exact k2.nd q) (fun a h => ?_) (fun a h => by rw [k2.adr_sl] at h; exact List.mem_append_left _ h) s2 (ev2.set s1')
    · have fa := f2 a (by rw [← k2.adr_sl]; exact h)
      rcases owns_set_sub z with z | z
      · exact m1.m a (List.mem_append_right _ (List.mem_append_left _ z)) fa
      · rw [k1.adr_sl] at z; exact m1.m a (List.mem_append_left _ z) fa
    · rcases List.mem_append.mp h with h | h
      · rcases owns_set_sub h with h | h
        · exact List.mem_append_right _ (List.mem_append_right _ (List.mem_append_left _ h))
        · rw [k1.adr_sl] at h; exact List.mem_append_right _ (List.mem_append_left _ h)
      · exact List.mem_append_right _ (List.mem_append_right _ (List.mem_append_right _ h))
/-- three, the last of them owning or not, the others data -/
theorem h_par3 {i j l : Nat} {t1 t2 t3 : TE} {x y : D} {k3 : Kd} (h1 : EvD K t1 ρ x) (h2 : EvD K t2 ρ y) (h3 : EvX K t3 ρ k3) (k : ∀ q, Hold K B M (((ρ.set i (.dat x)).set j (.dat y)).set l (k3.sl q)) De.nx) : Hold K B M ρ (tPar3 i j l (tCons t1 (tCons t2 (tCons t3 tNil))) De) := fun B' b σ H st =>
  h1 _ σ H st.mok st.ev _ fun v H1 e1 r1 => h2 _ σ H1 (st.mok.ex e1) (st.ev.ex e1) _ fun w H2 e2 r2 => h3 _ σ H2 ((st.mok.ex e1).ex e2) ((st.ev.ex e1).ex e2) _ fun q z H3 e3 f3 s3 x3 m3 => by
    refine ⟨v, w, z, rfl, k q B' b _ H3 ?_⟩
    have st2 := ((st.grow e1).grow e2).grow e3
    have ev3 : EOk K (k3.adr q ++ (owns ρ ++ M)) H3 ρ σ := ((st.ev.ex e1).ex e2).up e3 x3 fun a h => List.mem_append_right _ h
    have rx : SlOk K (k3.adr q ++ (owns ρ ++ M)) H3 (.dat x) (some v) := ⟨v, rfl, (r1.ex (hid_ex e2)).ex x3⟩
    have ry : SlOk K (k3.adr q ++ (owns ρ ++ M)) H3 (.dat y) (some w) := ⟨w, rfl, r2.ex x3⟩
    have g1 := st2.set (i := i) (s := .dat x) (o := some v) rfl ⟨v, rfl, ((r1.ex (hid_ex e2)).ex (hid_ex e3))⟩
    have sub1 : ∀ a ∈ owns (ρ.set i (.dat x)) ++ M, a ∈ owns ρ ++ M := fun c hc => by
      rcases List.mem_append.mp hc with hc | hc
      · exact List.mem_append_left _ (set_sub c hc)
      · exact List.mem_append_right _ hc
    have g2 := g1.set (i := j) (s := .dat y) (o := some w) rfl ⟨w, rfl, (r2.ex (hid_ex e3)).ex (hid_less sub1)⟩
    refine g2.setG (N := k3.adr q ++ (owns ρ ++ M)) (fun a h => st.ex.back (e1.back (e2.back (f3 a (by rw [← k3.adr_sl]; exact h))))) (fun a h z => ((st.mok.ex e1).ex e2).m a (List.mem_append_right _ z) (f3 a (by rw [← k3.adr_sl]; exact h)))
      (fun a h z => ((st.mok.ex e1).ex e2).m a (List.mem_append_left _ (set_sub a (set_sub a z))) (f3 a (by rw [← k3.adr_sl]; exact h))) (by rw [k3.adr_sl]; exact k3.nd q) (fun a h => ?_) (fun a h => by rw [k3.adr_sl] at h; exact List.mem_append_left _ h) s3 ((ev3.set rx).set ry)
    rcases List.mem_append.mp h with h | h
    · exact List.mem_append_right _ (List.mem_append_left _ (set_sub a (set_sub a h)))
    · exact List.mem_append_right _ (List.mem_append_right _ h)
end Dl
/-! sorted over data of any depth. -/
namespace Dl
open PySem PySem.Spec PyProof.Rows L2
/-- sorted(xs), data of one shape: a new list -/
def rSortD (K : PySem.W.Frag) : List V → Hp → VK → Prop := fun vs H Q => ∃ (a : Addr) (ws : List V) (ds : List PyData), vs = [.ref a] ∧ SqL K H a ws ∧ DpAll K H ws ds ∧ PySem.W.AllAlike ds ∧ PySem.W.Sortable ds ∧ (∀ d ∈ ds, d.depth ≤ 60) ∧
  ∀ p, H p = none → Q (.ref p) (upd H p (.lst (((ws.zip ds).mergeSort (PySem.W.dataLe false fun b => b.2)).map (·.1))))
theorem dpAll_len {K : PySem.W.Frag} {H : Hp} : ∀ {vs : List V} {ds : List PyData}, DpAll K H vs ds → vs.length = ds.length
  | _, _, .nil => rfl
  | _, _, .cons _ t => congrArg (· + 1) (dpAll_len t)
theorem each_zip : ∀ {ws : List V} {its : List Value} {ds : List PyData}, Vals ws its → ws.length = ds.length → PySem.W.EachIs (fun (v : Value) (b : V × PyData) => RelV b.1 v) its (ws.zip ds)
  | _, _, [], .nil, _ => .nil
  | _, _, d :: ds, .cons r t, h => .cons r (each_zip t (by simpa using h))
theorem zip_snd {α β : Type} : ∀ {l : List α} {m : List β}, l.length = m.length → (l.zip m).map (·.2) = m
  | [], [], _ => rfl
  | x :: l, y :: m, h => by simp only [List.zip_cons_cons, List.map_cons]; rw [zip_snd (by simpa using h)]
theorem each_vals : ∀ {out : List Value} {bs : List (V × PyData)}, PySem.W.EachIs (fun (v : Value) (b : V × PyData) => RelV b.1 v) out bs → Vals (bs.map (·.1)) out
  | _, _, .nil => .nil
  | _, _, .cons r t => .cons r (each_vals t)
theorem cr_sortD {X : Cx} (hu : X.A.units + 64 < cLine) : CallR X (.builtin "sorted") (rSortD X.K) := by
  intro pins s σ H vs us Q I r h
  obtain ⟨a, ws, ds, rfl, hs, hd, hal, hk, hdep, q⟩ := h
  obtain ⟨its, rv, hl, hz⟩ := I.list hs
  obtain ⟨u, rfl, ru⟩ := vals1 r
  obtain rfl : u = Value.ref a := ru
  obtain ⟨as, ra⟩ := Dp.readsAll I ds ws its hd rv
  have hlen := dpAll_len hd
  have e2 : (ws.zip ds).map (fun b => b.2) = ds := zip_snd hlen
  have er : PySem.W.EachIs (fun v (b : V × PyData) => ∃ as, Reads s.heap v b.2 as) its (ws.zip ds) := PySem.W.readsAll_each (h := s.heap) (fun b : V × PyData => b.2) (as := as) (by rw [e2]; exact ra)
  refine PySem.W.sorted_data (R := fun v (b : V × PyData) => RelV b.1 v) (bs := ws.zip ds) (enc := fun b => b.2) (vs := its) hl.isList (each_zip rv hlen) er (by rw [e2]; exact hal) (by rw [e2]; exact hk) (by rw [List.length_zip]; omega) (fun b hb => ?_) fun out ho eo => ?_
  · have := hdep b.2 (List.of_mem_zip hb).2
    omega
  · obtain ⟨c, hc⟩ := sortedAll_at s.heap its out.toArray
    have kp : ∀ b o, s.heap.get? b = some o → (sortedAll s.heap its out.toArray).get? b = some o := fun _ _ => sortedAll_old
    have hp : s.heap.objs.size ≤ s.heap.objs.size + 1 := Nat.le_succ _
    refine ⟨.ref _, upd H (s.heap.objs.size + 1) (.lst (((ws.zip ds).mergeSort (PySem.W.dataLe false fun b => b.2)).map (·.1))), I.laid (t' := s.toks) kp hp ⟨?_, out, c, each_vals eo, hc⟩, rfl, q _ (I.hok.fresh hp)⟩
    rw [List.length_map, List.length_mergeSort, List.length_zip]
    omega
theorem mem_zip_rp {K : Cfg} {H : Hp} : ∀ {vs : List V} {ds : List D}, RpA K H vs ds → ∀ p ∈ vs.zip ds, Rp K H p.1 p.2
  | _, _, .nil, p, h => by simp at h
  | _, _, .cons r t, p, h => by
    rcases List.mem_cons.mp h with e | h
    · rw [e]; exact r
    · exact mem_zip_rp t p h
theorem rpA_maps {K : Cfg} {H : Hp} : ∀ {ps : List (V × D)}, (∀ p ∈ ps, Rp K H p.1 p.2) → RpA K H (ps.map (·.1)) (ps.map (·.2))
  | [], _ => .nil
  | p :: ps, h => .cons (h p List.mem_cons_self) (rpA_maps fun q hq => h q (List.mem_cons_of_mem _ hq))
def sortD (xs : List D) : List D := xs.mergeSort (PySem.W.dataLe false D.pd)
theorem sort_rp {K : Cfg} {H : Hp} {vs : List V} {xs : List D} (r : RpA K H vs xs) : RpA K H (((vs.zip (xs.map D.pd)).mergeSort (PySem.W.dataLe false fun b => b.2)).map (·.1)) (sortD xs) := by
  have e1 : ((vs.zip xs).mergeSort (PySem.W.dataLe false fun b => b.2.pd)).map (·.2) = sortD xs := by
    have h := PySem.W.sort_maps (r := PySem.W.dataLe false fun b : V × D => b.2.pd) (s := PySem.W.dataLe false D.pd) (fun b : V × D => b.2) (l := vs.zip xs) fun a _ b _ => rfl
    rw [zip_snd r.len] at h
    exact h
  have e2 : ((vs.zip xs).mergeSort (PySem.W.dataLe false fun b => b.2.pd)).map (·.1) = ((vs.zip (xs.map D.pd)).mergeSort (PySem.W.dataLe false fun b => b.2)).map (·.1) := by
    have e3 : vs.zip (xs.map D.pd) = (vs.zip xs).map fun b => (b.1, b.2.pd) := by
      rw [List.zip_map_right]
      rfl
    rw [e3, ← PySem.W.sort_maps (r := PySem.W.dataLe false fun b : V × D => b.2.pd) (s := PySem.W.dataLe false fun b : V × PyData => b.2) (fun b : V × D => (b.1, b.2.pd)) (fun a _ b _ => rfl), List.map_map]
    rfl
  rw [← e1, ← e2]
  exact rpA_maps fun p hp => mem_zip_rp r p ((List.mergeSort_perm _ _).mem_iff.mp hp)
theorem ev_sorted {K : Cfg} {te : TE} {ρ : Env} {xs : List D} (n : Nat) (h : EvL K te ρ xs) (hok : D.okA xs n = true) (hal : PySem.W.AllAlike (xs.map D.pd)) (hk : PySem.W.Sortable (xs.map D.pd)) (hn : n ≤ 60 := by decide) : EvD K (tCB (rSortD K) (tCons te tNil)) ρ (.lst (sortD xs)) := fun M σ H m e Q q =>
  h M σ H m e _ fun v H1 e1 r1 => by
    obtain ⟨a, vs, rfl, hq, r1⟩ := r1
    have dp : DpAll K H1 vs (xs.map D.pd) := by rw [← D.pdA_eq]; exact RpA.dp xs n vs hok (r1.ex hid_sub)
    refine ⟨a, vs, xs.map D.pd, rfl, sq_of hq, dp, hal, hk, fun d hd => ?_, new_lst (m.ex e1) e1 (sort_rp r1) q⟩
    obtain ⟨x, hx, rfl⟩ := List.mem_map.mp hd
    exact Nat.le_trans (D.lay x n (D.okA_iff.mp hok x hx)).2 hn
end Dl
/-! list(d.values()), whatever the keys are. -/
namespace Dl
open PySem PySem.Spec PyProof.Rows L2
def DictV (H : Hp) (d : Addr) (vs : List V) : Prop := (∃ ks : List (List Key), H d = some (.dT (ks.zip vs)) ∧ ks.length = vs.length) ∨ ∃ ks : List Key, H d = some (.dK (ks.zip vs)) ∧ ks.length = vs.length
def tListVals (te : TE) : TE := fun σ H Q => te σ H fun x H1 => ∃ d vs, x = .ref d ∧ DictV H1 d vs ∧ ∀ p, H1 p = none → Q (.ref p) (upd H1 p (.lst vs))
theorem paired_at {α β : Type} {F : α → β → Prop} : ∀ {l : List α} {m : List β} {i : Nat} {x : α} {y : β}, Paired F l m → l[i]? = some x → m[i]? = some y → F x y
  | _, _, i, _, _, .nil, e, _ => by simp at e
  | _, _, 0, _, _, .cons r _, e, f => by
    have e1 := Option.some.inj e
    have f1 := Option.some.inj f
    subst e1
    subst f1
    exact r
  | _, _, i + 1, _, _, .cons _ t, e, f => paired_at (i := i) t (by simpa using e) (by simpa using f)
theorem vals_of {vs : List V} : ∀ {acc : List Value}, acc.length = vs.length → (∀ (j : Nat) u, acc[j]? = some u → ∃ v, vs[j]? = some v ∧ RelV v u) → Vals vs acc := by
  induction vs with
  | nil =>
    intro acc h _
    cases acc with
    | nil => exact .nil
    | cons _ _ => simp at h
  | cons v vs ih =>
    intro acc h hx
    cases acc with
    | nil => simp at h
    | cons u acc =>
      obtain ⟨v', e, r⟩ := hx 0 u rfl
      have e1 : v = v' := by simpa using e
      rw [← e1] at r
      exact .cons r (ih (by simpa using h) fun j w hw => by
        obtain ⟨z, e2, r2⟩ := hx (j + 1) w (by simpa using hw)
        exact ⟨z, by simpa using e2, r2⟩)
/-- the dict's entries, by the heap -/
theorem dictV_raw {P : Program} {w : World} {H : Hp} {h : Heap} {d : Addr} {vs : List V} (ok : HOk P w H h) (e : DictV H d vs) :
    (d == sysModules) = false ∧ vs.length ≤ sizeLine ∧ ∃ es ep, h.DictRaw d es ep ∧ es.size = vs.length ∧ ∀ (i : Nat) (hi : i < es.size), ∃ v, vs[i]? = some v ∧ RelV v es[i].val := by
  rcases e with ⟨ks, e, hl⟩ | ⟨ks, e, hl⟩
  · obtain ⟨hz, hd, xs, kt, hh⟩ := dt_of ok e
    obtain ⟨es, ep, hr, hs, hx⟩ := hh.raw
    have l1 : (ks.zip vs).length = xs.length := Paired.length kt
    rw [List.length_zip] at l1 hz
    refine ⟨hd, by omega, es, ep, hr, by omega, fun i hi => ?_⟩
    obtain ⟨y, hy, _, hv, _⟩ := hx i hi
    have hi2 : i < vs.length := by omega
    have hz2 : (ks.zip vs)[i]? = some (ks[i]'(by omega), vs[i]) := by
      rw [List.getElem?_eq_getElem (by rw [List.length_zip]; omega), List.getElem_zip]
    have r := paired_at kt hz2 hy
    exact ⟨vs[i], List.getElem?_eq_getElem hi2, by rw [hv]; exact r.2.2⟩
  · obtain ⟨hz, hd, xs, kv, hh⟩ := dk_of ok e
    obtain ⟨es, ep, hr, hs, hx⟩ := hh.raw
    have l1 : (ks.zip vs).length = xs.length := Paired.length kv
    rw [List.length_zip] at l1 hz
    refine ⟨hd, by omega, es, ep, hr, by omega, fun i hi => ?_⟩
    have hi2 : i < vs.length := by omega
    have hi3 : i < xs.length := by omega
    have hz2 : (ks.zip vs)[i]? = some (ks[i]'(by omega), vs[i]) := by
      rw [List.getElem?_eq_getElem (by rw [List.length_zip]; omega), List.getElem_zip]
    have hy : xs[i]? = some (xs[i].1, xs[i].2) := List.getElem?_eq_getElem hi3
    have r := paired_at kv hz2 hy
    obtain ⟨_, hv⟩ := hx i hi _ _ hy
    exact ⟨vs[i], List.getElem?_eq_getElem hi2, by rw [hv]; exact r.2⟩
section
variable {X : Cx} {e : Expr} {te : TE} {p apos cpos pos : Pos}
theorem pe_listVals (hc : X.calm = true) (he : PE X e te) (hg : Gl X "list") (hm : X.mg "list" = none) (hv : bootBuiltins "list" = some (.type "list")) (hbase : attributeBase e "values" X.env (eval e X.env) = eval e X.env := by rfl) (hline : (apos.endLine == cpos.line) = true := by rfl)
    (hs : starEach [.Call (.Attribute e "values" apos) [] [] cpos] X.env = (false, eval (.Call (.Attribute e "values" apos) [] [] cpos) X.env) :: starEach [] X.env := by rfl) :
    PE X (.Call (.Name "list" p) [.Call (.Attribute e "values" apos) [] [] cpos] [] pos) (tListVals te) := by
  refine ⟨fun pins s σ H Q I hq => ?_⟩
  refine wpAny_Call_Name_kw (ld_blt I hg hm hv ?_)
  refine PyProof.Rows.callWith_type1 ?_ hs rfl
  rw [hs]
  show wpAny _ _ (spliced ((false, eval (.Call (.Attribute e "values" apos) [] [] cpos) X.env) :: backTo pos (starEach [] X.env))) _ _ s
  refine Calls.spliced_cons ?_
  refine wpAny_Call_method (T := "dict") (id := "dict.values") hbase rfl hline F.plainAttrs_dict F.slot_dict_values F.type_dict_values (thn (he.run pins s σ H _ I hq) fun u s1 ⟨x, H1, I1, rx, d, vs, ex, hd, q⟩ => ?_)
  subst ex
  obtain rfl : u = Value.ref d := rx
  obtain ⟨hs0, hz, es, ep, hraw, hes, hval⟩ := dictV_raw I1.hok hd
  have I2 : Inv X pins σ H1 { s1 with heap := s1.heap.push { cls := .type "dict_values", data := .fields #[.ref d] } } := I1.kept (t' := s1.toks) fun b ob q => Heap.get?_push_of_some _ q
  have nodict : ∀ b, Value.ref d = .ref b → ∃ ob, s1.heap.get? b = some ob ∧ ob.dict = none := fun b eb => by
    cases eb
    obtain ⟨o, ho, hx, _⟩ := hraw
    exact ⟨o, ho, hx.2.1⟩
  refine ⟨hraw.typeIs, nodict, ?_⟩
  show wpAny _ _ (callWith cpos (.builtin "dict.values") [.ref d] [] []) _ X.xe s1
  refine method_meetsIn F.slot_dict_values F.entry_dict_values rfl (PySem.evalArgs_none ⟨rfl, hraw.typeIs, F.args_dict_values_1 _, _, meets_dict_values_raw d hs0, ⟨es, ep, hraw⟩, ?_⟩)
  refine Calls.spliced_nil ?_
  refine PySem.W.kdl_call (PySem.KdlSrc.rawValues (es := es) (ep := ep)) (I1.ok.hd hc) ⟨⟨_, Heap.get?_push_size _ rfl, rfl, rfl⟩, hraw.at fun o ho => Heap.get?_push_of_some _ ho⟩ (by omega) fun h' tk acc c hk hS hacc => ?_
  obtain ⟨ha, hb⟩ := hacc
  refine ⟨.ref _, upd H1 _ (.lst vs), I2.laid (t' := tk) hk (Nat.le_refl _) ⟨hz, acc.toList, c, vals_of (by rw [Array.length_toList]; omega) (fun j u hu => ?_), by rw [Array.toArray_toList]; exact hS⟩, rfl, q _ (I2.hok.fresh (Nat.le_refl _))⟩
  obtain ⟨hi, e1⟩ := hb j u (by rw [← Array.getElem?_toList]; exact hu)
  rw [e1]
  exact hval j hi
end
theorem ev_listVals {K : Cfg} {te : TE} {ρ : Env} {ks : List (List Key)} {xs : List D} (h : EvDt K te ρ ks xs) : EvD K (tListVals te) ρ (.lst xs) := fun M σ H m e Q q =>
  h M σ H m e _ fun v H1 e1 r1 => by
    obtain ⟨a, vs, rfl, h1, l, r⟩ := r1
    exact ⟨a, vs, rfl, .inl ⟨ks, h1, l⟩, new_lst (m.ex e1) e1 r q⟩
end Dl
/-! sorted(xs, key=lambda x: ..): the lambda's body reckoned over the very heap. -/
namespace Dl
open PySem PySem.Spec PyProof.Rows L2 LamX
/-- while the lambda runs at a heap that keeps s's: its frame L, its parameter x holding u -/
structure LamAt (x : Str) (u : Value) (s : Shared) (L : Addr) (h : Heap) : Prop where
  old : ∀ b o, s.heap.get? b = some o → h.get? b = some o
  fr : h.Ns L fun y => ([(x, u)] : List (Str × Value)).reverse.lookup y
/-- the body e comes to an r of which Pv says what it is; all objects stay -/
def KE (X : Cx) (scope : Scope) (x : Str) (s : Shared) (u : Value) (e : Expr) (Pv : Heap → Value → Prop) : Prop := ∀ (A : Around) (L f c' : Addr) (h : Heap) (tk : Nat) (E : Value → Shared → Prop), A.units + 64 < cLine → LamAt x u s L h →
  ∀ Q : Value → Shared → Prop, (∀ r h' tk', (∀ b o, h.get? b = some o → h'.get? b = some o) → Pv h' r → Q r { s with heap := h', toks := tk' }) → wpAny (model X.prog X.w) A (eval e (lamEnv X scope L f c')) Q E { s with heap := h, toks := tk }
theorem LamAt.up {x : Str} {u : Value} {s : Shared} {L : Addr} {h h' : Heap} (l : LamAt x u s L h) (k : ∀ b o, h.get? b = some o → h'.get? b = some o) : LamAt x u s L h' :=
  ⟨fun b o e => k b o (l.old b o e), let ⟨o, es, ep, ho, r⟩ := l.fr; ⟨o, es, ep, k _ _ ho, r⟩⟩
section
variable {X : Cx} {scope : Scope} {x : Str} {s : Shared} {u : Value} {pins : List (Addr × Obj)} {σ : L2.St} {H : Hp} {pos p p2 : Pos}
theorem ke_par (hk : scope.kind = .function) (hx : scope.names.lookup x = some .local) (hd : (x == ("__debug__" : Str)) = false := by decide) : KE X scope x s u (.Name x p) fun _ r => r = u := fun A L f c' h tk E hu l Q q => by
  refine wpAny_Name (wpAny_loadName_local (s := { s with heap := h, toks := tk }) hk hx l.fr (v := u) ?_ (q u h tk (fun _ _ e => e) rfl)) hd
  show List.lookup x [(x, u)] = some u
  simp
theorem ke_free {d : Str} {i : Nat} {v : V} (I : Inv X pins σ H s) (hk : scope.kind = .function) (hx : scope.names.lookup d = some .free) (hsc : X.env.scope.names.lookup d = some .cell) (hfree : ∀ y ∈ scope.names, y.2 = .free → ∃ c, X.env.cells.lookup y.1 = some c)
    (hN : X.N[i]? = some d) (hv : σ[i]? = some (some v)) (hd : (d == ("__debug__" : Str)) = false := by decide) (hcd : (d == ("__classdict__" : Str)) = false := by decide) : KE X scope x s u (.Name d p) fun _ r => RelV v r := fun A L f c' h tk E hu l Q q => by
  obtain ⟨m, hn, hl⟩ := I.loc
  obtain ⟨w', r, lk⟩ := hl i d v hN hv (.inr (.inl hsc))
  have hm : (d, NameKind.free) ∈ scope.names := PySem.mem_of_lookup hx
  obtain ⟨c2, h2⟩ := mem_lookup (cloFrom_has (cells := X.env.cells) (acc := []) hm)
  have c1 : X.env.cells.lookup d = some c2 := by
    rcases cloFrom_mem (PySem.mem_of_lookup h2) with hm | ⟨h1, h3⟩
    · cases hm
    · obtain ⟨c1, hc⟩ := hfree _ h1 rfl
      have hc : X.env.cells.lookup d = some c1 := hc
      rw [hc] at h3
      have e : c2 = c1 := h3
      rw [e]
      exact hc
  rcases lk with ⟨k', _⟩ | ⟨_, c3, e', z⟩
  · have k' : X.env.scope.names.lookup d = some .local := k'
    rw [hsc] at k'; cases k'
  · rw [c1] at e'
    cases e'
    obtain ⟨o, ho, hdat⟩ := z
    exact wpAny_Name (wpAny_loadName_free (s := { s with heap := h, toks := tk }) hk hx h2 ⟨o, l.old _ _ ho, hdat⟩ (q w' h tk (fun _ _ e => e) r) hcd) hd
theorem ke_neg {a : Expr} {i : Int} (ha : KE X scope x s u a fun _ r => ∃ t, r = .int i t) : KE X scope x s u (.UnaryOp .USub a p) fun _ r => ∃ t, r = .int (-i) t := fun A L f c' h tk E hu l Q q => by
  refine UnaryOp_ (ha A L f c' h tk E hu l _ fun r h' tk' k hr => ?_)
  obtain ⟨t, rfl⟩ := hr
  exact neg_int (q _ h' _ k ⟨_, rfl⟩)
theorem ke_sub {a b : Expr} {i j : Int} (ha : KE X scope x s u a fun _ r => ∃ t, r = .int i t) (hb : KE X scope x s u b fun _ r => ∃ t, r = .int j t) : KE X scope x s u (.BinOp a .Sub b p) fun _ r => ∃ t, r = .int (i - j) t := fun A L f c' h tk E hu l Q q => by
  refine wpAny_BinOp (ha A L f c' h tk E hu l _ fun r h1 tk1 k1 hr => hb A L f c' h1 tk1 E hu (l.up k1) _ fun r2 h2 tk2 k2 hr2 => ?_)
  obtain ⟨t, rfl⟩ := hr
  obtain ⟨t2, rfl⟩ := hr2
  exact sub_int (q _ h2 _ (fun b o e => k2 b o (k1 b o e)) ⟨_, rfl⟩)
/-- a tuple of two -/
theorem ke_tup2 {a b : Expr} {x1 : _} {k1 k2 : PyData} (ha : KE X scope x s u a fun h r => Reads h r k1 []) (hb : KE X scope x s u b fun h r => Reads h r k2 [])
    (he1 : ∀ env, starEach [a, b] env = (false, eval a env) :: starEach [b] env := by intro _; rfl) (he2 : ∀ env, starEach [b] env = (false, eval b env) :: starEach [] env := by intro _; rfl) : KE X scope x s u (.Tuple [a, b] x1 p) fun h r => Reads h r (.tuple [k1, k2]) [] := fun A L f c' h tk E hu l Q q => by
  refine wpAny_Tuple_spliced ?_
  rw [he1]
  show wpAny _ _ (spliced ((false, eval a (lamEnv X scope L f c')) :: backTo p (starEach [b] (lamEnv X scope L f c')))) _ _ _
  refine Calls.spliced_cons (ha A L f c' h tk E hu l _ fun r h1 tk1 e1 hr => ?_)
  rw [he2]
  show wpAny _ _ (spliced ((false, eval b (lamEnv X scope L f c')) :: backTo p (starEach [] (lamEnv X scope L f c')))) _ _ _
  refine Calls.spliced_cons (hb A L f c' h1 tk1 E hu (l.up e1) _ fun r2 h2 tk2 e2 hr2 => ?_)
  refine Calls.spliced_nil ⟨by show 2 ≤ sizeLine; decide, ?_⟩
  refine q _ _ _ (fun b o e => Heap.get?_push_of_some _ (e2 b o (e1 b o e))) ?_
  have kp : ∀ b o, h2.get? b = some o → (h2.push { cls := .type "tuple", data := .seq [r, r2].toArray }).get? b = some o := fun b o e => Heap.get?_push_of_some _ e
  have ra : ReadsAll (h2.push { cls := .type "tuple", data := .seq [r, r2].toArray }) [r, r2] [k1, k2] ([] ++ ([] ++ [])) := .cons (PyProof.Rows.Reads.keeps (fun b o e => kp b o (e2 b o e)) hr) (.cons (PyProof.Rows.Reads.keeps kp hr2) .nil)
  exact Reads.tuple (Heap.get?_push_size _ rfl) rfl rfl (by simpa using ra)
theorem reads_int {h : Heap} {r : Value} {i : Int} (e : ∃ t, r = .int i t) : Reads h r (.int i) [] := by
  obtain ⟨t, rfl⟩ := e
  exact Reads.int i t
/-- d[y], d a dict with tuple keys whose value there is an int -/
theorem ke_dget {a b : Expr} {d t : Addr} {kvs : List (List Key × V)} {k : List Key} {i : Int} (I : Inv X pins σ H s) (hd : H d = some (.dT kvs)) (ht : H t = some (.tup (k.map kV))) (hv : valV kvs k = some (.int i))
    (ha : KE X scope x s u a fun _ r => r = .ref d) (hb : KE X scope x s u b fun _ r => r = .ref t) (hs : NoSl b) : KE X scope x s u (.Subscript a b p) fun _ r => ∃ t, r = .int i t := fun A L f c' h tk E hu l Q q => by
  refine subD_of PySem.F.slot_dict_getitem.lookup hs (ha A L f c' h tk E hu l _ fun r h1 tk1 e1 hr => hb A L f c' h1 tk1 E hu (l.up e1) _ fun r2 h2 tk2 e2 hr2 => ?_)
  subst hr
  subst hr2
  have old : ∀ b o, s.heap.get? b = some o → h2.get? b = some o := fun b o e => e2 b o (e1 b o (l.old b o e))
  obtain ⟨z, hd', xs, rel, dd⟩ := dt_of I.hok hd
  have dd2 : h2.DictOfH (tupleKind (mixKind X.prog X.w)) d xs := by
    obtain ⟨o, es, ep, ho, hx, hdat, hes, his, hn⟩ := dd
    exact ⟨o, es, ep, old _ _ ho, hx, hdat, hes, fun y hy => by
      obtain ⟨o', vs', n', ho', q1, q2, q3⟩ := his y hy
      exact ⟨o', vs', n', old _ _ ho', q1, q2, q3⟩, hn⟩
  have hkey : (tupleKind (mixKind X.prog X.w)).is h2 k t := by
    obtain ⟨o', vs', n', ho', q1, q2, q3⟩ := key_of I.hok ht
    exact ⟨o', vs', n', old _ _ ho', q1, q2, q3⟩
  obtain ⟨w', hw, rw'⟩ := RelO.some_of (v := .int i) (o := (atKey xs k).map (·.2)) (by rw [← hv]; exact rel.val k)
  obtain ⟨pp, hp, hp2⟩ := Option.map_eq_some_iff.mp hw
  refine ⟨dd2.typeIs, wpAny_getItem_heap (s := { s with heap := h2, toks := tk2 }) (tupleKind_room_in1 (by omega)) hkey dd2 hp ?_⟩
  rw [hp2]
  exact q w' h2 _ (fun b o e => e2 b o (e1 b o e)) rw'
/-- t[n], t a tuple of ints -/
theorem ke_ixT {a : Expr} {t : Addr} {ns : List Int} {i : Int} {n : Nat} {j : _} (I : Inv X pins σ H s) (ht : SqT X.K H t (ns.map V.int)) (hi : ns[n]? = some i) (ha : KE X scope x s u a fun _ r => r = .ref t) : KE X scope x s u (.Subscript a (.Constant (.int (n : Int)) j p2) p) fun _ r => ∃ t, r = .int i t := fun A L f c' h tk E hu l Q q => by
  refine Subscript_ (ha A L f c' h tk E hu l _ fun r h1 tk1 e1 hr => wpAny_Constant_int ?_)
  subst hr
  obtain ⟨its, r, pl, hz⟩ := I.tuple ht
  have old : ∀ b o, s.heap.get? b = some o → h1.get? b = some o := fun b o e => e1 b o (l.old b o e)
  have pl1 : IsTup h1 t its.toArray := by
    obtain ⟨o, ho, q1, n', q2⟩ := pl
    exact ⟨o, old _ _ ho, q1, n', q2⟩
  have he : (ns.map V.int)[n]? = some (.int i) := by rw [List.getElem?_map, hi]; rfl
  obtain ⟨w, ew, rw'⟩ := r.get he
  have hl := r.length
  have hn := line63
  have hlt : n < its.length := by
    obtain ⟨h1, _⟩ := List.getElem?_eq_some_iff.mp ew
    exact h1
  have fin : ∀ tk', Q w { s with heap := h1, toks := tk' } := fun tk' => q w h1 tk' e1 rw'
  exact subscriptTail_builtinR (x := w) pl1.typeIs slot_tuple_getitem.lookup
    (getItem_tuple (j := n) (Q := fun r s' => r = w ∧ Q r s') pl1 (by omega) (by omega) (by rw [List.size_toArray, seqIndex_of (by omega) (by omega)]; simp) (by simpa using ew) ⟨rfl, fin _⟩) rfl
end
end Dl
/-! A lambda made where only its code's table may grow; sorted with it as key. -/
namespace Dl
open PySem PySem.Spec PyProof.Rows L2 LamX
abbrev LamObj (X : Cx) (params : Arguments) (body : Expr) (scope : Scope) (c' : Addr) (pm ctv : Value) : Obj :=
  PySem.W.kla_obj "<lambda>" (X.env.qual ++ "<lambda>") params body scope (cloFrom X.env.cells scope.names []) pm c' ctv
section
variable {X : Cx} {pins : List (Addr × Obj)} {σ : L2.St} {H : Hp} {s : Shared}
theorem lam_mk {T : List (Addr × Str)} {c P : Addr} {params : Arguments} {body : Expr} {scope : Scope} {pos : Pos} {E Q : Value → Shared → Prop} (I : Inv X pins σ H s) (TB : TabB X.base X.mg c P) (hcode : X.env.code = .ref c) (hm : (P, X.env.qual ++ "<lambda>") ∈ T)
    (hu : ∀ p ∈ T, p.1 = P → p.2 = X.env.qual ++ "<lambda>") (hT : Tabs T H) (hdef : defaultsOf params X.env = ([], [])) (hfree : ∀ y ∈ scope.names, y.2 = .free → ∃ c, X.env.cells.lookup y.1 = some c)
    (k : ∀ (f c' : Addr) (pm ctv : Value) (H1 : Hp) (s' : Shared), Inv X pins σ H1 s' → Ge H H1 → Tabs T H1 → s'.heap.get? f = some (LamObj X params body scope c' pm ctv) → H1 c' = some (CodeO c' (X.env.qual ++ "<lambda>")) → Q (.ref f) s') :
    wpAny (model X.prog X.w) X.A (eval (.Lambda params body scope pos) X.env) Q E s := by
  obtain ⟨ps, tabAt, trip, among⟩ := hT (P, X.env.qual ++ "<lambda>") hm
  have heapP := I.hok P (.tbl ps) tabAt
  have bltP := TB.bm.keeps I.bk
  have globs := I.mod.glob.keeps I.bk
  have codeP := TB.code.keeps I.bk
  apply PySem.W.kla_eval hdef
  rcases found : codeAmong pos ps.toList with _ | cv
  · apply PySem.W.kla_makeFunction (mg := X.mg) (c := c) (P := P) (ps := ps) (closure_ok hfree) I.ok.glob globs hcode codeP heapP trip found TB.gP bltP
    rintro c' ctv g tk keepBut szLow szHigh ⟨c2, oc, vs, tt, same, atC, dat, named⟩ tabNew
    cases same
    have newC : H c' = none := I.hok.fresh szLow
    have apart : P ≠ c' := ne_of_none tabAt newC
    let lam := LamObj X params body scope c' ((X.mg "__name__").getD .none) ctv
    have up : ∀ {b : Addr} {o : Obj}, g.get? b = some o → (g.push lam).get? b = some o := fun e => Heap.get?_push_of_some _ e
    have I1 := inv_table (t' := tk) (q := X.env.qual ++ "<lambda>") (more := #[rawInt pos.line, rawInt pos.col, .ref c']) (h' := g.push lam) I tabAt (fun b o ne e => up (keepBut b o ne e)) (up tabNew) szLow ⟨oc, vs, tt, up atC, dat, named⟩
    let H1 := upd (upd H P (.tbl (ps ++ #[rawInt pos.line, rawInt pos.col, .ref c']))) c' (CodeO c' (X.env.qual ++ "<lambda>"))
    have atOld : ∀ b u, H b = some u → b ≠ P → H1 b = some u := fun b u e ne => by
      show upd (upd H P _) c' _ b = some u
      rw [upd_ne (ne_of_none e newC), upd_ne ne, e]
    have atP : H1 P = some (.tbl (ps ++ #[rawInt pos.line, rawInt pos.col, .ref c'])) := by
      show upd (upd H P _) c' _ P = _
      rw [upd_ne apart, upd_same]
    have coKept : ∀ b q, H b = some (CodeO b q) → H1 b = some (CodeO b q) := fun b q e => atOld b _ e fun z => by
      rw [z, tabAt] at e
      exact codeO_ne ps (Option.some.inj e).symm
    have grows : Ge H H1 := by
      constructor
      · intro b u e notTab
        exact atOld b u e fun z => notTab ps (Option.some.inj (e.symm.trans (z ▸ tabAt)))
      · intro b hb
        by_cases z : b = P
        · rw [z, atP]; simp
        · cases e : H b with
          | none => exact absurd e hb
          | some u => rw [atOld b u e z]; simp
    refine k g.objs.size c' ((X.mg "__name__").getD .none) ctv H1 _ I1 grows (fun pr mem => ?_) (Heap.get?_push_size _ rfl) upd_same
    by_cases z : pr.1 = P
    · rw [hu pr mem z, z]
      have asList : (ps ++ #[rawInt pos.line, rawInt pos.col, .ref c']).toList = ps.toList ++ [rawInt pos.line, rawInt pos.col, .ref c'] := by simp
      refine ⟨_, atP, ?_, ?_⟩
      · rw [asList]
        exact PySem.TriplesOk_snoc _ _ _ _ trip
      · intro at' cv hit
        rw [asList] at hit
        rcases among_app _ trip hit with old | new
        · obtain ⟨d, eq, rec⟩ := among at' cv old
          exact ⟨d, eq, coKept d _ rec⟩
        · exact ⟨c', new, upd_same⟩
    · obtain ⟨qs, tb, tr, am⟩ := hT pr mem
      refine ⟨qs, atOld pr.1 _ tb z, tr, fun at' cv hit => ?_⟩
      obtain ⟨d, eq, rec⟩ := am at' cv hit
      exact ⟨d, eq, coKept d _ rec⟩
  · obtain ⟨c', isRef, rec⟩ := among pos cv found
    subst isRef
    apply PySem.W.kla_makeFunctionHit (mg := X.mg) (c := c) (P := P) (ps := ps) (closure_ok hfree) I.ok.glob globs hcode codeP heapP trip found bltP
    intro ctv g tk keepAll szLow
    refine k g.objs.size c' ((X.mg "__name__").getD .none) ctv H _ (I.kept fun b o e => Heap.get?_push_of_some _ (keepAll b o e)) (Ge.refl H) hT (Heap.get?_push_size _ rfl) rec
/-- the key that a lambda's body gives for an item -/
structure PKey (X : Cx) (scope : Scope) (x : Str) (body : Expr) (R : L2.St → Hp → V → PyData → Prop) : Prop where
  run : ∀ {pins : List (Addr × Obj)} {s : Shared} {σ : L2.St} {H : Hp} {v : V} {u : Value} {k : PyData}, Inv X pins σ H s → RelV v u → R σ H v k → KE X scope x s u body fun h r => Reads h r k []
/-- sorted(e, key=lambda x: body) -/
def tSortKey (K : PySem.W.Frag) (T : List (Addr × Str)) (te : TE) (R : L2.St → Hp → V → PyData → Prop) : TE := fun σ H Q => te σ H fun x H1 => Tabs T H1 ∧ ∃ (a : Addr) (ws : List V) (ks : List PyData), x = .ref a ∧ SqL K H1 a ws ∧ ws.length = ks.length ∧
  PySem.W.AllAlike ks ∧ PySem.W.Sortable ks ∧ (∀ k ∈ ks, k.depth ≤ 60) ∧ ∀ H2, Ge H1 H2 → Tabs T H2 → (∀ pr ∈ ws.zip ks, R σ H2 pr.1 pr.2) ∧ SqL K H2 a ws ∧ ∀ p, H2 p = none → Q (.ref p) (upd H2 p (.lst (((ws.zip ks).mergeSort (PySem.W.dataLe false fun b => b.2)).map (·.1))))
theorem pe_sortKey {T : List (Addr × Str)} {c P : Addr} {params : Arguments} {body e : Expr} {scope : Scope} {x : Str} {lpos kpos p pos : Pos} {te : TE} {R : L2.St → Hp → V → PyData → Prop} (hr : Room 4 X.A) (he : PE X e te) (hk : PKey X scope x body R)
    (hg : Gl X "sorted") (hmg : X.mg "sorted" = none) (TB : TabB X.base X.mg c P) (hcode : X.env.code = .ref c) (hm : (P, X.env.qual ++ "<lambda>") ∈ T) (hu : ∀ p ∈ T, p.1 = P → p.2 = X.env.qual ++ "<lambda>") (hdef : defaultsOf params X.env = ([], []))
    (hkind : scope.kind = .function) (hco : scope.isCoroutine = false) (hgen : scope.isGenerator = false) (hcell : ∀ y ∈ scope.names, y.2 ≠ .cell) (hx : scope.names.lookup x = some .local) (hsub : ∀ y ∈ scope.names, y.2 = .free → X.env.scope.names.lookup y.1 = some .cell)
    (hbind : ∀ (u : Value) (pm ctv : Value) (c' : Addr), bindArgs (PySem.W.kla_fn "<lambda>" (X.env.qual ++ "<lambda>") params body scope (cloFrom X.env.cells scope.names []) pm (.ref c') ctv) ⟨[u], []⟩ = pure [(x, u)])
    (hst : backTo pos (starEach [e] X.env) = (false, eval e X.env) :: backTo pos (starEach [] X.env) := by rfl) (hpl : (backTo pos (starEach [e] X.env)).any (·.1) = false := by rfl) :
    PE X (.Call (.Name "sorted" p) [e] [⟨some "key", .Lambda params body scope lpos, kpos⟩] pos) (tSortKey X.K T te R) := by
  refine ⟨fun pins s σ H Q I hq => ?_⟩
  refine wpAny_Call_Name_kw (ld_blt I hg hmg (by decide +kernel) (u := .builtin "sorted") ?_)
  refine PyProof.Rows.callWith_kw (A := X.A) ?_ hst hpl (by rfl) (by rfl)
  rw [hst]
  show wpAny _ _ (spliced ((false, eval e X.env) :: backTo pos (starEach [] X.env))) _ _ s
  refine Calls.spliced_cons (thn (he.run pins s σ H _ I hq) fun u s1 ⟨v, H1, I1, r1, hT, a, ws, ks, ev, hs, hl, hal, hsk, hdep, q⟩ => Calls.spliced_nil ?_)
  subst ev
  obtain rfl : u = Value.ref a := r1
  show wpAny _ _ (evalAll [do let v ← eval (.Lambda params body scope lpos) X.env; standAt pos; pure v]) _ _ s1
  have hfree : ∀ y ∈ scope.names, y.2 = .free → ∃ c, X.env.cells.lookup y.1 = some c := fun y hy ef => I1.ok.has y.1 (.inl (hsub y hy ef))
  refine wpAny_evalAll_cons (wpAny_bind (lam_mk I1 TB hcode hm hu hT hdef hfree fun f c' pm ctv H2 s2 I2 ge2 hT2 hf hc2 => wpAny_bind (wpAny_standAt (wpAny_pure (wpAny_evalAll_nil ?_)))))
  obtain ⟨hR, hs2, q2⟩ := q H2 ge2 hT2
  show wpAny _ _ (call (.builtin "sorted") [.ref a] [(Str.ofString "key", .ref f)]) _ _ s2
  obtain ⟨its, rv, hlist, hz⟩ := I2.list hs2
  have e2 : (ws.zip ks).map (fun b => b.2) = ks := zip_snd hl
  have hdz : ∀ b ∈ ws.zip ks, b.2.depth ≤ 60 := fun b hb => hdep b.2 (List.of_mem_zip hb).2
  have hrec : ∃ (oc : Obj) (vs : Array Value) (t : Tok), s2.heap.get? c' = some oc ∧ oc.data = .fields vs ∧ vs[1]? = some (.str (X.env.qual ++ "<lambda>") t) := (I2.hok c' _ hc2).1
  refine PySem.W.sorted_key_data (b := false) (f := .ref f) (R := fun v (b : V × PyData) => RelV b.1 v) (bs := ws.zip ks) (vs := its) (fun b => b.2) hlist.isList (each_zip rv hl) (by rw [e2]; exact hal) (by rw [e2]; exact hsk) (by rw [List.length_zip]; omega) (fun b hb => by have := hdz b hb; have := hr.un; omega)
    (ksk_s1 _ _) (fun y => ksk_l1 _ _) (fun y => ksk_t1 f y) ?turn ?done
  case done =>
    intro out n h' tk keep _ atNew len each
    have le : s2.heap.objs.size ≤ s2.heap.objs.size + 1 := Nat.le_succ _
    refine ⟨.ref _, upd H2 (s2.heap.objs.size + 1) (.lst (((ws.zip ks).mergeSort (PySem.W.dataLe false fun b => b.2)).map (·.1))), I2.laid (t' := tk) keep le ⟨?_, out, n, each_vals each, atNew⟩, rfl, q2 _ (I2.hok.fresh le)⟩
    rw [List.length_map, List.length_mergeSort, List.length_zip]
    omega
  case turn =>
    intro v b hv hb h tk keep
    have hR' := hR b hb
    obtain ⟨oc, vs, tt, h1, h2, h3⟩ := hrec
    refine wpAny_call (codeAny_mono (PySem.W.kla_callFunE (R := fun r s' => ∃ z, r = .ok (.ret z) ∧ PySem.W.KeyPure b.2 { s2 with heap := h, toks := tk } z s') (by show X.A.in1.in1.depth < recursionLimit; exact hr.in1.in1.depth) (keep f _ hf) rfl hco hgen rfl ⟨c', oc, vs, tt, rfl, keep _ _ h1, h2, h3⟩ ?_) fun r s' hz => by
      obtain ⟨z, rfl, kp⟩ := hz
      exact kp)
    rw [hbind]
    refine wpAny_pure (wpAny_newFunctionEnv hcell (fun y hy => ?_) (fun h₁ hns hsb => ⟨?_, ?_⟩) hkind)
    · have : y = (x, v) := by simpa using hy
      rw [this]
      exact hx
    · exact ((I2.nolimit.keeps keep).fresh _ hsb)
    · have kp : ∀ b o, h.get? b = some o → h₁.get? b = some o := fun b o e => hsb.extBut b o (Nat.ne_of_lt (Heap.lt_size e)) (Heap.get?_push_of_some _ e)
      refine PySem.W.kla_codeExpr ?_
      refine (hk.run I2 hv hR') _ _ f c' h₁ _ _ ?_ ⟨fun b o e => kp b o (keep b o e), hns⟩ _ fun r h' tk' kp2 hr => ⟨r, rfl, h', tk', rfl, fun b o e => kp2 b o (kp b o e), hr⟩
      · exact (hr.in1.in1.deeper _).units
end
end Dl
/-! Calls of the module's own defs; the rules with the written part named ahead (in a block it is the frame's own). -/
theorem L2.Room.units1 {k : Nat} {A : PySem.Around} (r : L2.Room k A) : A.units + 65 < PySem.cLine := by have := r.un; omega
namespace Dl
open PySem PySem.Spec PyProof.Rows L2 LamX
theorem pe_no {X : Cx} {e : Expr} : PE X e (fun _ _ _ => False) := ⟨fun _ _ _ _ _ _ h => h.elim⟩
/-- a def under its name, with the defaults that stand for what is not written -/
structure Fd (P : Program) (w : World) (K : PySem.W.Frag) (mg : Str → Option Value) (base : Heap) (k : Nat) (x : Str) (sp : Sp) (dvs : List V) : Prop where
  ex : ∃ (f : Addr) (fd : FuncData) (ps : List Str) (ds : List Value), FnOk P w K mg base CX0 k f fd ps sp ∧ mg x = some (.ref f) ∧ PySem.W.keepIn K (.ref f) = true ∧ Binds K fd ps ds ∧ Vals dvs ds
theorem pe_f {X : Cx} {k j : Nat} {x : Str} {sp : Sp} {dvs : List V} {p pos : Pos} {e : Expr} {es : List Expr} {t : TA} (c : Fd X.prog X.w X.K X.mg X.base k x sp dvs) (hr : Room j X.A) (hk : k ≤ j) (hg : Gl X x) (ha : PA X (e :: es) t)
    (hdb : (x == ("__debug__" : Str)) = false := by decide) (he : starEach (e :: es) X.env = (false, eval e X.env) :: starEach es X.env := by rfl) (hpl : (backTo pos (starEach es X.env)).any (·.1) = false := by rfl) :
    PE X (.Call (.Name x p) (e :: es) [] pos) (tCall sp dvs E0 t) := by
  obtain ⟨f, fd, ps, ds, F, hm, kp, b, d⟩ := c.ex
  exact pe_call F (hr.mono hk) hg hm kp b d pass0 ha hdb he hpl
section
variable {X : Cx} (κ : PySem.W.Frag) (h : X.K = κ)
include h
theorem k_ltT (hu : X.A.units < cLine) : OpR X (compareOp .Lt) (rLtT κ) := h ▸ op_ltT hu
theorem k_eqD (hu : X.A.units + 64 < cLine) : OpR X (compareOp .Eq) (rEqD κ) := h ▸ op_eqD hu
theorem k_neD (hu : X.A.units + 64 < cLine) : OpR X (compareOp .NotEq) (rNeD κ) := h ▸ op_neD hu
theorem k_inD (hu : X.A.units + 65 < cLine) : OpR X (compareOp .In) (rInD κ) := h ▸ op_inD hu
theorem k_ninD (hu : X.A.units + 65 < cLine) : OpR X (compareOp .NotIn) (rNotInD κ) := h ▸ op_notInD hu
theorem k_ixL : IxR X (rIxL κ) := h ▸ ix_list
theorem k_ixT : IxR X (rIxT κ) := h ▸ ix_tup
theorem k_slL : SlR X (rSlL κ) := h ▸ sl_list
theorem k_slT : SlR X (rSlT κ) := h ▸ sl_tup
theorem k_all (hc : X.calm = true) : CallR X (.builtin "all") (rAll κ) := h ▸ cr_all hc
theorem k_any (hc : X.calm = true) : CallR X (.builtin "any") (rAny κ) := h ▸ cr_any hc
theorem k_sum (hc : X.calm = true) : CallR X (.builtin "sum") (rSum κ) := h ▸ cr_sum hc
theorem k_max (hc : X.calm = true) : CallR X (.builtin "max") (rMax κ) := h ▸ cr_max hc
theorem k_min (hc : X.calm = true) : CallR X (.builtin "min") (rMin κ) := h ▸ cr_min hc
theorem k_sort (hu : X.A.units + 64 < cLine) : CallR X (.builtin "sorted") (rSortD κ) := h ▸ cr_sortD hu
theorem k_isi : CallR X (.builtin "isinstance") (rIsi κ) := h ▸ call_isi
theorem k_isiT : CallR X (.builtin "isinstance") (rIsiT κ) := h ▸ call_isiT
theorem k_index (hu : X.A.units + 65 < cLine) : MtR X "list.index" (rIndexD κ) := h ▸ mt_indexD hu
def rLen (κ : PySem.W.Frag) : List V → Hp → VK → Prop := fun xs H Q => ∃ p ys, xs = [V.ref p] ∧ (SqL κ H p ys ∨ SqT κ H p ys) ∧ Q (.int ys.length) H
def rListOf (κ : PySem.W.Frag) : List V → Hp → VK → Prop := fun xs H Q => ∃ p ys, xs = [V.ref p] ∧ (SqL κ H p ys ∨ SqT κ H p ys) ∧ ∀ l, H l = none → Q (.ref l) (upd H l (.lst ys))
theorem k_len : CallR X (.builtin "len") (rLen κ) := h ▸ call_len_seq
theorem k_list : CallR X (.type "list") (rListOf κ) := h ▸ call_list_of
theorem k_pil {tg l : Expr} {tl : TE} (hl : PE X l tl) : PI X tg l (iList κ tl) := h ▸ pi_list hl
theorem k_pit {tg l : Expr} {tl : TE} (hl : PE X l tl) : PI X tg l (iTup κ tl) := h ▸ pi_tup hl
theorem k_enum {e : Expr} {ta : TA} {p pos tpos : Pos} {elts : List Expr} {kk : Nat} (hg : Gl X "enumerate") (hm : X.mg "enumerate" = none) (ha : PA X [e] ta) (hs : starEach [e] X.env = [(false, eval e X.env)] := by rfl) :
    PI X (.Tuple elts kk tpos) (.Call (.Name "enumerate" p) [e] [] pos) (iEnum κ ta) := h ▸ pi_enum hg hm ha hs
theorem k_zip {e e2 : Expr} {ta : TA} {p pos tpos : Pos} {elts : List Expr} {kk : Nat} (hg : Gl X "zip") (hm : X.mg "zip" = none) (ha : PA X [e, e2] ta)
    (hs : starEach [e, e2] X.env = (false, eval e X.env) :: starEach [e2] X.env := by rfl) (hpl : (backTo pos (starEach [e2] X.env)).any (·.1) = false := by rfl) :
    PI X (.Tuple elts kk tpos) (.Call (.Name "zip" p) [e, e2] [] pos) (iZip κ ta) := h ▸ pi_zip hg hm ha hs hpl
theorem k_gtup {es : List Expr} {k : Nat} {t : TGs} {n : Nat} {pos : Pos} (hc : X.calm = true) (hh : PGs X es t)
    (hn : (assignEach es X.env).length = n := by rfl) (hst : (assignEach es X.env).findIdx? (·.1) = none := by rfl) : PG X (.Tuple es k pos) (gTup κ n t) := h ▸ pg_tup hc hh hn hst
theorem k_star {e : Expr} {es : List Expr} {te : TE} {t : TA} {p : Pos} (he : PE X e te) (hr : PA X es t) (hs : starEach (.Starred e p :: es) X.env = (true, eval e X.env) :: starEach es X.env := by rfl) : PA X (.Starred e p :: es) (StX.tStar κ te t) := h ▸ StX.pa_star he hr hs
theorem k_bm0 {T name id : String} {r : V → List V → Hp → VK → Prop} {o : Expr} {to : TE} {apos cpos : Pos} (pa : PlainAttrs T) (slot : Slot T name id) (hty : typeOf (.builtin id) = pure (.type "method_descriptor")) (hm : MtR X id r) (ho : PE X o to)
    (hbase : attributeBase o name X.env (eval o X.env) = eval o X.env := by rfl) (hline : (apos.endLine == cpos.line) = true := by rfl) : PE X (.Call (.Attribute o name apos) [] [] cpos) (tBM0 κ T r to) := h ▸ pe_bm0 pa slot hty hm ho hbase hline
theorem k_bm {T name id : String} {r : V → List V → Hp → VK → Prop} {o e : Expr} {es : List Expr} {to : TE} {t : TA} {apos cpos : Pos} (pa : PlainAttrs T) (slot : Slot T name id) (hty : typeOf (.builtin id) = pure (.type "method_descriptor")) (hm : MtR X id r) (ho : PE X o to) (ha : PA X (e :: es) t)
    (hbase : attributeBase o name X.env (eval o X.env) = eval o X.env := by rfl)
    (hfew : ((backTo cpos (starEach (e :: es) X.env)).all (fun x => !x.1) && (backToKw cpos (keywordEach [] X.env)).all (fun x => x.1.isSome)
      && decide ((e :: es).length + ([] : List Keyword).length + (if ([] : List Keyword).isEmpty then 0 else 1) < 30)) = true := by rfl)
    (hline : (apos.endLine == cpos.line) = true := by rfl) (hs : starEach (e :: es) X.env = (false, eval e X.env) :: starEach es X.env := by rfl) (hplain : (backTo cpos (starEach es X.env)).any (·.1) = false := by rfl) :
    PE X (.Call (.Attribute o name apos) (e :: es) [] cpos) (tBM κ T r to t) := h ▸ pe_bm pa slot hty hm ho ha hbase hfew hline hs hplain
end
end Dl
/-! max with a default, list(range(..)), small built-ins, sorted with a lambda: rule and reading. -/
namespace Dl
open PySem PySem.Spec PyProof.Rows L2 LamX
/-! ### max(xs, default=d) of ints -/
def mxD (d : Int) : List Int → Int
  | [] => d
  | y :: ys => ys.foldl max y
def rMaxDef (κ : PySem.W.Frag) : List V → List V → Hp → VK → Prop := fun vs zs H Q => ∃ (a : Addr) (ns : List Int) (d : Int), vs = [.ref a] ∧ zs = [.int d] ∧ SqL κ H a (ns.map V.int) ∧ Q (.int (mxD d ns)) H
theorem reads_ints {h : Heap} : ∀ {ns : List Int} {its : List Value}, Vals (ns.map V.int) its → ReadsAll h its (ns.map PyData.int) []
  | [], _, r => by cases r; exact .nil
  | n :: ns, _, r => by
    cases r with
    | cons r t =>
      obtain ⟨k, rfl⟩ := r
      exact ReadsAll.cons (as := []) (bs := []) (.int n k) (reads_ints t)
theorem depth_ints : ∀ ns : List Int, PyData.depthAll (ns.map PyData.int) = 0
  | [] => by simp [PyData.depthAll]
  | n :: ns => by simp [PyData.depthAll, PyData.depth, depth_ints ns]
theorem alike_int1 (i j : Int) : PySem.W.alike (.int i) (.int j) = true := by simp [PySem.W.alike]
theorem k_maxDef {X : Cx} (κ : PySem.W.Frag) (hk : X.K = κ) (hc : X.calm = true) (hu : X.A.units + 64 < cLine) : CallRK X (.builtin "max") [Str.ofString "default"] (rMaxDef κ) := by
  subst hk
  intro pins s σ H vs zs us ws Q I r rz h
  obtain ⟨a, ns, d, rfl, rfl, hs, q⟩ := h
  obtain rfl := Vals.ref1 r
  obtain ⟨w1, rfl, t, rfl⟩ := vals1 rz
  obtain ⟨its, rv, hl, _⟩ := I.list hs
  have ra : ReadsAll s.heap its.toArray.toList (ns.map PyData.int) [] := reads_ints rv
  refine PySem.W.max_list_default (I.ok.hd hc) hl.isList ra ⟨fun x hx y hy => ?_, fun x hx => ?_⟩ (by rw [depth_ints]; omega) (fun e h' tk kp => ?_) fun y ys i v h' tk bs e hv hr kp => ?_
  · obtain ⟨i, _, rfl⟩ := List.mem_map.mp hx
    obtain ⟨j, _, rfl⟩ := List.mem_map.mp hy
    exact alike_int1 i j
  · obtain ⟨i, _, rfl⟩ := List.mem_map.mp hx
    exact fun z => by cases z
  · have e0 : ns = [] := by cases ns with
      | nil => rfl
      | cons _ _ => cases e
    subst e0
    exact ⟨.int d, H, I.kept kp, ⟨t, rfl⟩, q⟩
  · cases ns with
    | nil => cases e
    | cons n ns =>
      rw [List.map_cons] at e
      injection e with e1 e2
      subst e1
      subst e2
      rw [PySem.W.maxD_ints] at hr
      cases hr with
      | int _ t' => exact ⟨.int _, H, I.kept kp, ⟨t', rfl⟩, q⟩
theorem pe_maxDef {X : Cx} {κ : PySem.W.Frag} {e f : Expr} {p pos kpos : Pos} {te tf : TE} (hk : X.K = κ) (hc : X.calm = true) (hu : X.A.units + 64 < cLine) (hg : Gl X "max") (hm : X.mg "max" = none) (he : PE X e te) (hf : PE X f tf)
    (h1 : backTo pos (starEach [e] X.env) = (false, eval e X.env) :: backTo pos (starEach [] X.env) := by rfl) (hpl : (backTo pos (starEach [e] X.env)).any (·.1) = false := by rfl)
    (h0 : starEach [e] X.env = (false, eval e X.env) :: starEach [] X.env := by rfl) :
    PE X (.Call (.Name "max" p) [e] [⟨some "default", f, kpos⟩] pos) (tCKw (rMaxDef κ) (tCons te tNil) (tCons tf tNil)) :=
  pe_callBK (k_maxDef κ hk hc hu) hg hm rfl (pa_cons he pa_nil h0) (pk_cons hf pk_nil) (by decide) (by decide) h1 hpl (by rfl) (by rfl) (by rfl)
section
variable {K : Cfg} {ρ : Env} {te ta tb : TE}
theorem ev_maxDef {ns : List Int} {d : Int} (h : EvL K te ρ (ns.map D.int)) (hd : EvD K ta ρ (.int d)) : EvD K (tCKw (rMaxDef K) (tCons te tNil) (tCons ta tNil)) ρ (.int (mxD d ns)) := fun M σ H m e Q q =>
  h M σ H m e _ fun v H1 e1 r1 => hd M σ H1 (m.ex e1) (e.ex e1) _ fun w H2 e2 r2 => by
    obtain ⟨a, vs, rfl, hq, r1⟩ := r1.ex e2
    cases r2
    rw [r1.ints] at hq
    exact ⟨a, ns, d, rfl, rfl, sq_of hq, q _ H2 (e1.trans e2) (.int _)⟩
/-! ### list(range(n)) -/
theorem rgV_eq (a b : Int) : rgV a b = ((List.range (b - a).toNat).map fun i : Nat => a + (i : Int)).map V.int := by unfold rgV; rw [List.map_map]; rfl
theorem ev_listRg {n : Int} (h : EvD K te ρ (.int n)) (h0 : 0 ≤ n) (h1 : n ≤ 100000) : EvD K (tLstRg (tRg1 te)) ρ (.lst ((List.range n.toNat).map fun i : Nat => D.int ((0 : Int) + (i : Int)))) := fun M σ H m e Q q =>
  h M σ H m e _ fun v H1 e1 r1 => by
    cases r1
    refine ⟨n, rfl, RgOk.of_le (by decide) (by omega) (by decide) h0, ?_⟩
    refine new_lst (m.ex e1) e1 ?_ q
    rw [rgV_eq, Int.sub_zero]
    have := RpA.of_ints (K := K) (H := hid H1 M) ((List.range n.toNat).map fun i : Nat => (0 : Int) + (i : Int))
    rw [show (List.range n.toNat).map (fun i : Nat => D.int ((0 : Int) + (i : Int))) = ((List.range n.toNat).map fun i : Nat => (0 : Int) + (i : Int)).map D.int by rw [List.map_map]; rfl]
    exact this
/-! ### max, min of two; int, str of an int -/
theorem ev_max2 {r : List V → Hp → VK → Prop} {i j : Int} (hr : r = fun xs H Q => ∃ i j, xs = [V.int i, V.int j] ∧ Q (.int (if j > i then j else i)) H) (ha : EvD K ta ρ (.int i)) (hb : EvD K tb ρ (.int j)) : EvD K (tCB r (tCons ta (tCons tb tNil))) ρ (.int (max i j)) := fun M σ H m e Q q =>
  ha M σ H m e _ fun v H1 e1 r1 => hb M σ H1 (m.ex e1) (e.ex e1) _ fun w H2 e2 r2 => by
    cases r1
    cases r2
    rw [hr]
    refine ⟨i, j, rfl, ?_⟩
    rw [show (if j > i then j else i) = max i j by by_cases h : j > i <;> simp [h] <;> omega]
    exact q _ H2 (e1.trans e2) (.int _)
theorem ev_min2 {r : List V → Hp → VK → Prop} {i j : Int} (hr : r = fun xs H Q => ∃ i j, xs = [V.int i, V.int j] ∧ Q (.int (if j < i then j else i)) H) (ha : EvD K ta ρ (.int i)) (hb : EvD K tb ρ (.int j)) : EvD K (tCB r (tCons ta (tCons tb tNil))) ρ (.int (min i j)) := fun M σ H m e Q q =>
  ha M σ H m e _ fun v H1 e1 r1 => hb M σ H1 (m.ex e1) (e.ex e1) _ fun w H2 e2 r2 => by
    cases r1
    cases r2
    rw [hr]
    refine ⟨i, j, rfl, ?_⟩
    rw [show (if j < i then j else i) = min i j by by_cases h : j < i <;> simp [h] <;> omega]
    exact q _ H2 (e1.trans e2) (.int _)
theorem ev_toInt {r : List V → Hp → VK → Prop} {i : Int} (hr : r = fun xs H Q => (∃ i, xs = [V.int i] ∧ Q (.int i) H) ∨ ∃ k, xs = [V.bl k] ∧ Q (.int (if k then 1 else 0)) H) (ha : EvD K ta ρ (.int i)) : EvD K (tCB r (tCons ta tNil)) ρ (.int i) := fun M σ H m e Q q =>
  ha M σ H m e _ fun v H1 e1 r1 => by
    cases r1
    rw [hr]
    exact .inl ⟨i, rfl, q _ H1 e1 (.int _)⟩
theorem ev_toStr {r : List V → Hp → VK → Prop} {i : Int} (hr : r = fun xs H Q => ∃ i, xs = [V.int i] ∧ i.natAbs.log2 < 1920 ∧ Q (.str (toString i)) H) (ha : EvD K ta ρ (.int i)) (h : i.natAbs.log2 < 1920) : EvD K (tCB r (tCons ta tNil)) ρ (.str (toString i : String)) := fun M σ H m e Q q =>
  ha M σ H m e _ fun v H1 e1 r1 => by
    cases r1
    rw [hr]
    exact ⟨i, rfl, h, q _ H1 e1 (.str _)⟩
theorem evv_pow {r : R2} {i j : Int} (hr : r = rI CPow fun i j => .int (i ^ j.toNat)) (ha : EvD K ta ρ (.int i)) (hb : EvD K tb ρ (.int j)) (hc : CPow i j) : EvD K (tOp r ta tb) ρ (.int (i ^ j.toNat)) := by
  rw [hr]
  exact ev_opC ha hb hc fun _ => .int _
/-! ### sorted(e, key=lambda x: body) -/
theorem ev_sortKey {κ : PySem.W.Frag} {T : List (Addr × Str)} {R : L2.St → Hp → V → PyData → Prop} {xs : List D} (key : D → PyData) (hK : κ = K.K) (hT : T = K.T) (h : EvL K te ρ xs) (hal : PySem.W.AllAlike (xs.map key)) (hs : PySem.W.Sortable (xs.map key)) (hd : ∀ x ∈ xs, (key x).depth ≤ 60)
    (hR : ∀ (M : List Addr) (σ : L2.St) (H : Hp), MOk K M H → EOk K M H ρ σ → ∀ x ∈ xs, ∀ v, Rp K (hid H M) v x → R σ H v (key x)) :
    EvD K (tSortKey κ T te R) ρ (.lst (xs.mergeSort (PySem.W.dataLe false key))) := fun M σ H m e Q q =>
  h M σ H m e _ fun v H1 e1 r1 => by
    subst hK
    subst hT
    obtain ⟨a, ws, rfl, hq, r1⟩ := r1
    refine ⟨(m.ex e1).t, a, ws, xs.map key, rfl, sq_of hq, by rw [List.length_map, r1.len], hal, hs, fun k hk => ?_, fun H2 g2 t2 => ?_⟩
    · obtain ⟨x, hx, rfl⟩ := List.mem_map.mp hk
      exact hd x hx
    · have e2 : Ex K H1 H2 := ⟨g2, fun _ => t2⟩
      have r2 : RpA K (hid H2 M) ws xs := r1.ex (hid_ex e2)
      refine ⟨fun pr hp => ?_, ex_l e2.kp (sq_of hq), ?_⟩
      · have hz : ws.zip (xs.map key) = (ws.zip xs).map fun b => (b.1, key b.2) := by rw [List.zip_map_right]; rfl
        rw [hz] at hp
        obtain ⟨b, hb, rfl⟩ := List.mem_map.mp hp
        exact hR M σ H2 ((m.ex e1).ex e2) ((e.ex e1).ex e2) b.2 (List.of_mem_zip hb).2 b.1 (mem_zip_rp r2 b hb)
      · refine new_lst ((m.ex e1).ex e2) (e1.trans e2) ?_ q
        have e3 : ((ws.zip xs).mergeSort (PySem.W.dataLe false fun b => key b.2)).map (·.2) = xs.mergeSort (PySem.W.dataLe false key) := by
          have h := PySem.W.sort_maps (r := PySem.W.dataLe false fun b : V × D => key b.2) (s := PySem.W.dataLe false key) (fun b : V × D => b.2) (l := ws.zip xs) fun a _ b _ => rfl
          rw [zip_snd r2.len] at h
          exact h
        have e4 : ((ws.zip xs).mergeSort (PySem.W.dataLe false fun b => key b.2)).map (·.1) = ((ws.zip (xs.map key)).mergeSort (PySem.W.dataLe false fun b => b.2)).map (·.1) := by
          have e5 : ws.zip (xs.map key) = (ws.zip xs).map fun b => (b.1, key b.2) := by rw [List.zip_map_right]; rfl
          rw [e5, ← PySem.W.sort_maps (r := PySem.W.dataLe false fun b : V × D => key b.2) (s := PySem.W.dataLe false fun b : V × PyData => b.2) (fun b : V × D => (b.1, key b.2)) (fun a _ b _ => rfl), List.map_map]
          rfl
        rw [← e3, ← e4]
        exact rpA_maps fun p hp => mem_zip_rp r2 p ((List.mergeSort_perm _ _).mem_iff.mp hp)
end
end Dl
/-! enumerate, zip, two clauses, a built tuple unpacked, is, index. -/
namespace Dl
open PySem PySem.Spec PyProof.Rows L2 LamX RZ
theorem k_zipA {X : Cx} (κ : PySem.W.Frag) (h : X.K = κ) {e e2 : Expr} {ta : TA} {p pos tpos : Pos} {elts : List Expr} {kk : Nat} (hg : Gl X "zip") (hm : X.mg "zip" = none) (ha : PA X [e, e2] ta)
    (hs : starEach [e, e2] X.env = (false, eval e X.env) :: starEach [e2] X.env := by rfl) (hpl : (backTo pos (starEach [e2] X.env)).any (·.1) = false := by rfl) :
    PI X (.Tuple elts kk tpos) (.Call (.Name "zip" p) [e, e2] [] pos) (iZipA κ ta) := h ▸ pi_zipA hg hm ha hs hpl
variable {K : Cfg}
/-! ### a pair made anew at each turn -/
theorem new_pair {H : Hp} {N : List Addr} {T : Addr} {v w : V} {x y : D} (m : MOk K N H) (hT : H T = none) (r1 : Rp K (hid H N) v x) (r2 : Rp K (hid H N) w y) : Ex K H (upd H T (.tup [v, w])) ∧ Rp K (hid (upd H T (.tup [v, w])) N) (.ref T) (.tup [x, y]) :=
  ⟨Ex.new hT, .tup (hid_new m hT) (.cons (r1.ex (hid_kp (Kp.new hT))) (.cons (r2.ex (hid_kp (Kp.new hT))) .nil))⟩
def enumD (xs : List D) : List D := (xs.zipIdx).map fun p => .tup [.int (p.2 : Int), p.1]
theorem enumD_get {xs : List D} {i : Nat} {d : D} (h : (enumD xs)[i]? = some d) : ∃ x, xs[i]? = some x ∧ d = .tup [.int (i : Int), x] := by
  unfold enumD at h
  rw [List.getElem?_map, List.getElem?_zipIdx] at h
  cases e : xs[i]? with
  | none => rw [e] at h; cases h
  | some x =>
    rw [e] at h
    refine ⟨x, rfl, ?_⟩
    have := Option.some.inj h
    rw [← this]
    simp
theorem enumD_len {xs : List D} : (enumD xs).length = xs.length := by unfold enumD; simp
theorem jok_enum {B : Hp} {M : List Addr} {a : Addr} {vs : List V} {xs : List D} (hq : SqL K B a vs) (r : RpA K (hid B M) vs xs) : JOk K B M (Ite K a) (enumD xs) :=
  ⟨fun N H e f n i d hd => by
    obtain ⟨x, hx, rfl⟩ := enumD_get hd
    obtain ⟨v, hv, rv⟩ := r.get hx
    have hH : SqL K H a vs := ex_l e hq
    refine ⟨⟨vs, v, hH, hv⟩, fun y H' hy => ?_⟩
    obtain ⟨T, z, rfl, nT, rfl, hz⟩ := hy
    have ez : some z = some v := (hz vs hH).symm.trans hv
    cases ez
    exact new_pair n nT (.int _) (rv.ex (ex_hid (hid_sub.trans e) f)),
  fun H e => ⟨vs, ex_l e hq, by rw [enumD_len, r.len]; exact Nat.le_refl _⟩⟩
theorem srcC_enum {t : TA} {te : TE} {ρ : Env} {xs : List D} (h : EvL K te ρ xs) : SrcC K (iEnum K (tCons te tNil)) ρ (enumD xs) := fun M σ H m e R q => h M σ H m e _ fun v H1 e1 r => by
  obtain ⟨a, vs, rfl, hq, ha⟩ := r
  exact ⟨a, vs, rfl, sq_of hq, q _ H1 e1 (jok_enum (sq_of hq) ha)⟩
theorem src_enum {te : TE} {ρ : Env} {xs : List D} (h : EvD K te ρ (.lst xs)) : Src K (iEnum K (tCons te tNil)) ρ (enumD xs) := fun M σ H m e R q => h M σ H m e _ fun v H1 e1 r => by
  cases r with
  | lst hq ha => exact ⟨_, _, rfl, sq_of (hid_some hq).2, q _ H1 e1 (jok_enum (sq_of hq) (by rw [hid_nil]; exact ha))⟩
def zipD (xs ys : List D) : List D := (xs.zip ys).map fun p => .tup [p.1, p.2]
theorem zipD_len {xs ys : List D} : (zipD xs ys).length = min xs.length ys.length := by unfold zipD; simp
theorem zipD_get {xs ys : List D} {i : Nat} {d : D} (h : (zipD xs ys)[i]? = some d) : ∃ x y, xs[i]? = some x ∧ ys[i]? = some y ∧ d = .tup [x, y] := by
  unfold zipD at h
  rw [List.getElem?_map] at h
  cases e : (xs.zip ys)[i]? with
  | none => rw [e] at h; cases h
  | some p =>
    rw [e] at h
    obtain ⟨h1, h2⟩ := List.getElem?_zip_eq_some.mp e
    exact ⟨p.1, p.2, h1, h2, (Option.some.inj h).symm⟩
theorem jok_zip {B : Hp} {M : List Addr} {a b : Addr} {vs ws : List V} {xs ys : List D} (h1 : SqL K B a vs) (r1 : RpA K (hid B M) vs xs) (h2 : SqL K B b ws) (r2 : RpA K (hid B M) ws ys) : JOk K B M (Itz K a b) (zipD xs ys) :=
  ⟨fun N H e f n i d hd => by
    obtain ⟨x, y, hx, hy, rfl⟩ := zipD_get hd
    obtain ⟨v, hv, rv⟩ := r1.get hx
    obtain ⟨w, hw, rw_⟩ := r2.get hy
    refine ⟨⟨vs, ws, v, w, ex_l e h1, ex_l e h2, hv, hw⟩, fun z H' hz => ?_⟩
    obtain ⟨T, p, q, rfl, nT, rfl, f1, f2⟩ := hz
    have e1 : some p = some v := (f1 vs (ex_l e h1)).symm.trans hv
    have e2 : some q = some w := (f2 ws (ex_l e h2)).symm.trans hw
    cases e1
    cases e2
    exact new_pair n nT (rv.ex (ex_hid (hid_sub.trans e) f)) (rw_.ex (ex_hid (hid_sub.trans e) f)),
  fun H e => ⟨vs, ws, ex_l e h1, ex_l e h2, by rw [zipD_len, r1.len, r2.len]; omega⟩⟩
theorem jok_zipT {B : Hp} {M : List Addr} {a b : Addr} {vs ws : List V} {xs ys : List D} (h1 : SqT K B a vs) (r1 : RpA K (hid B M) vs xs) (h2 : SqT K B b ws) (r2 : RpA K (hid B M) ws ys) : JOk K B M (ItzT K a b) (zipD xs ys) :=
  ⟨fun N H e f n i d hd => by
    obtain ⟨x, y, hx, hy, rfl⟩ := zipD_get hd
    obtain ⟨v, hv, rv⟩ := r1.get hx
    obtain ⟨w, hw, rw_⟩ := r2.get hy
    refine ⟨⟨vs, ws, v, w, ex_t e h1, ex_t e h2, hv, hw⟩, fun z H' hz => ?_⟩
    obtain ⟨T, p, q, rfl, nT, rfl, f1, f2⟩ := hz
    have e1 : some p = some v := (f1 vs (ex_t e h1)).symm.trans hv
    have e2 : some q = some w := (f2 ws (ex_t e h2)).symm.trans hw
    cases e1
    cases e2
    exact new_pair n nT (rv.ex (ex_hid (hid_sub.trans e) f)) (rw_.ex (ex_hid (hid_sub.trans e) f)),
  fun H e => ⟨vs, ws, ex_t e h1, ex_t e h2, by rw [zipD_len, r1.len, r2.len]; omega⟩⟩
theorem srcC_zip {ta tb : TE} {ρ : Env} {xs ys : List D} (h : EvL K ta ρ xs) (h' : EvL K tb ρ ys) : SrcC K (iZipA K (tCons ta (tCons tb tNil))) ρ (zipD xs ys) := fun M σ H m e R q => h M σ H m e _ fun v H1 e1 r => h' M σ H1 (m.ex e1) (e.ex e1) _ fun w H2 e2 r2 => by
  obtain ⟨a, vs, rfl, hq, ha⟩ := r.ex e2
  obtain ⟨b, ws, rfl, hq2, ha2⟩ := r2
  exact ⟨a, b, vs, ws, rfl, .inl ⟨sq_of hq, sq_of hq2, q _ H2 (e1.trans e2) (jok_zip (sq_of hq) ha (sq_of hq2) ha2)⟩⟩
theorem srcC_zipT {ta tb : TE} {ρ : Env} {xs ys : List D} (h : EvD K ta ρ (.tup xs)) (h' : EvD K tb ρ (.tup ys)) : SrcC K (iZipA K (tCons ta (tCons tb tNil))) ρ (zipD xs ys) := fun M σ H m e R q => h M σ H m e _ fun v H1 e1 r => h' M σ H1 (m.ex e1) (e.ex e1) _ fun w H2 e2 r2 => by
  have r := r.ex (hid_ex e2)
  cases r with
  | tup hq ha =>
    cases r2 with
    | tup hq2 ha2 => exact ⟨_, _, _, _, rfl, .inr ⟨st_of (hid_some hq).2, st_of (hid_some hq2).2, q _ H2 (e1.trans e2) (jok_zipT (st_of (hid_some hq).2) ha (st_of (hid_some hq2).2) ha2)⟩⟩
/-! ### is, is not (of truth values); index -/
section
variable {ρ : Env} {ta tb : TE}
theorem ev_isB {r : R2} {a b : Bool} (hr : r = fun x y H Q => ∃ a b : Bool, x = V.bl a ∧ y = V.bl b ∧ Q (.bl (decide (a = b))) H) (ha : EvD K ta ρ (.bl a)) (hb : EvD K tb ρ (.bl b)) : EvD K (tOp r ta tb) ρ (.bl (decide (a = b))) := fun M σ H m e Q q =>
  ha M σ H m e _ fun v H1 e1 r1 => hb M σ H1 (m.ex e1) (e.ex e1) _ fun w H2 e2 r2 => by
    cases r1
    cases r2
    rw [hr]
    exact ⟨a, b, rfl, rfl, q _ H2 (e1.trans e2) (.bl _)⟩
theorem ev_isntB {r : R2} {a b : Bool} (hr : r = fun x y H Q => ∃ a b : Bool, x = V.bl a ∧ y = V.bl b ∧ Q (.bl (!decide (a = b))) H) (ha : EvD K ta ρ (.bl a)) (hb : EvD K tb ρ (.bl b)) : EvD K (tOp r ta tb) ρ (.bl (!decide (a = b))) := fun M σ H m e Q q =>
  ha M σ H m e _ fun v H1 e1 r1 => hb M σ H1 (m.ex e1) (e.ex e1) _ fun w H2 e2 r2 => by
    cases r1
    cases r2
    rw [hr]
    exact ⟨a, b, rfl, rfl, q _ H2 (e1.trans e2) (.bl _)⟩
theorem ev_index {xs : List D} {d : D} {j : Nat} {z : D} (n : Nat) (ha : EvL K ta ρ xs) (hb : EvD K tb ρ d) (hx : D.okA xs n = true) (hd : d.ok n = true) (hj : xs[j]? = some z) (hz : D.eq z d = true) (hno : ∀ m z', m < j → xs[m]? = some z' → D.eq z' d = false) (hn : n ≤ 63 := by decide) :
    EvD K (tBM K "list" (rIndexD K) ta (tCons tb tNil)) ρ (.int (j : Int)) := fun M σ H m e Q q =>
  ha M σ H m e _ fun v H1 e1 r1 => by
    obtain ⟨a, vs, rfl, hq, r1⟩ := r1
    refine ⟨.inl ⟨rfl, vs, sq_of hq⟩, hb M σ H1 (m.ex e1) (e.ex e1) _ fun w H2 e2 r2 => ?_⟩
    have hq2 := e2.kp.lst hq
    have dl : Dp K H2 (V.ref a) (.list (xs.map D.pd)) := by
      rw [← D.pdA_eq]
      exact .lst (sq_of hq2) (RpA.dp xs n vs hx ((r1.ex (hid_ex e2)).ex hid_sub))
    have sh : SeqAt.shaped (.list (xs.map D.pd)) = true := by
      have : (D.lst xs).ok (n + 1) = true := by simpa [D.ok] using hx
      have q := D.shaped (d := .lst xs) this (by omega)
      simpa [D.pd, D.pdA_eq] using q
    refine ⟨a, w, d.pd, xs.map D.pd, j, z.pd, rfl, rfl, dl, Dp.mono' r2 hd, sh, D.shaped hd (by omega), by rw [List.getElem?_map, hj]; rfl, hz, fun k z' hk hz' => ?_, q _ H2 (e1.trans e2) (.int _)⟩
    rw [List.getElem?_map] at hz'
    cases ek : xs[k]? with
    | none => rw [ek] at hz'; cases hz'
    | some y =>
      rw [ek] at hz'
      rw [← Option.some.inj hz']
      exact hno k y hk ek
end
end Dl
/-! Comprehensions of two clauses; a tuple built and unpacked at once. -/
namespace Dl
open PySem PySem.Spec PyProof.Rows L2 LamX
variable {K : Cfg}
def row2 {α β : Type} (f : α → Bool) (L1 : α → List β) (f1 : α → β → Bool) (v : α → β → D) (x : α) : List D := if f x = true then ((L1 x).filter (f1 x)).map (v x) else []
theorem row2_len {α β : Type} {f : α → Bool} {L1 : α → List β} {f1 : α → β → Bool} {v : α → β → D} {x : α} (h : (L1 x).length ≤ 300) : (row2 f L1 f1 v x).length ≤ 300 := by
  unfold row2
  split
  · rw [List.length_map]
    exact Nat.le_trans (List.length_filter_le _ _) h
  · exact Nat.zero_le _
theorem flat_len {α : Type} (r : α → List D) : ∀ (l : List α), (∀ x ∈ l, (r x).length ≤ 300) → (l.flatMap r).length ≤ l.length * 300
  | [], _ => by simp
  | x :: l, h => by
    rw [List.flatMap_cons, List.length_append, List.length_cons]
    have h1 := h x List.mem_cons_self
    have h2 := flat_len r l fun y hy => h y (List.mem_cons_of_mem _ hy)
    omega
theorem EOk.low {M : List Addr} {A : Addr} {H H' : Hp} {ρ : Env} {σ : L2.St} (e : EOk K M H ρ σ) (x : Ex K H H') (hA : H A = none) : EOk K (A :: M) H' ρ σ := by
  have e3 : Kp (hid H M) (hid H' (A :: M)) := fun a o q n => by
    obtain ⟨m1, q⟩ := hid_some q
    have na : a ∉ A :: M := fun z => by
      rcases List.mem_cons.mp z with z | z
      · rw [z, hA] at q; cases q
      · exact m1 z
    rw [hid_out na]
    exact x.kp _ _ q n
  exact e.up x e3 fun a h => List.mem_cons_of_mem _ h
theorem EOk.mutA {M : List Addr} {A : Addr} {H : Hp} {ρ : Env} {σ : L2.St} {u : HO} (e : EOk K M H ρ σ) (h : A ∈ M) (n : A ∉ owns ρ) : EOk K M (upd H A u) ρ σ :=
  Paired.imp' e fun s hs o r => r.mut h fun z => n (mem_owns.mpr ⟨s, hs, z⟩)
theorem ev_lc2 {α β : Type} {wi wi1 : TI} {g g1 : TG} {tt tt1 : TT} {te : TE} {vs vs1 ix ix1 : List Nat} {ρ : Env} {L : List α} {enc : α → D} (f : α → Bool) (L1 : α → List β) (enc1 : α → β → D) (f1 : α → β → Bool) (v : α → β → D) (hs : SrcC K wi ρ (L.map enc)) (hl : L.length ≤ 300) (hl1 : ∀ x ∈ L, (L1 x).length ≤ 300)
    (ht : ∀ x ∈ L, ∃ ρ', Bnd K g (enc x) (wipeE ρ vs) ρ' ix ∧ EvT K tt ρ' (f x) ∧ (f x = true → Src K wi1 ρ' ((L1 x).map (enc1 x)) ∧
      ∀ y ∈ L1 x, ∃ ρ'', Bnd K g1 (enc1 x y) (wipeE ρ' vs1) ρ'' ix1 ∧ EvT K tt1 ρ'' (f1 x y) ∧ (f1 x y = true → EvD K te ρ'' (v x y)))) (hix : ∀ i ∈ ix, i ∈ vs := by decide) (hix1 : ∀ i ∈ ix1, i ∈ vs1 := by decide) :
    EvD K (tLc2 wi g tt wi1 g1 tt1 te vs vs1) ρ (.lst (L.flatMap (row2 f L1 f1 v))) := fun M σ H m e Q q =>
  hs M σ H m e _ fun J H1 e1 j A hA => by
    have nAM : A ∉ M := (m.ex e1).new hA
    refine ⟨fun i k H2 => i + k = L.length ∧ ∃ acc, H2 A = some (.lst acc) ∧ RpA K (hid H2 (A :: M)) acc ((L.take i).flatMap (row2 f L1 f1 v)) ∧ Ex K H1 H2, ⟨L.length, by omega, [], upd_same, by simp; exact .nil, Ex.new hA⟩, fun i k H2 hw => ?_⟩
    obtain ⟨hik, acc, hacc, hr, hex⟩ := hw
    have fA : ∀ a ∈ A :: M, hid H1 M a = none := fun a ha => by
      rcases List.mem_cons.mp ha with rfl | ha
      · rw [hid_out nAM]; exact hA
      · exact hid_in ha
    have moA : ∀ {H2 : Hp} {acc : List V}, Ex K H1 H2 → H2 A = some (.lst acc) → MOk K (A :: M) H2 := fun hex hacc => ⟨fun a ha => by
      rcases List.mem_cons.mp ha with rfl | ha
      · rw [hacc]; simp
      · exact ((m.ex e1).ex hex).m a ha, ((m.ex e1).ex hex).t⟩
    have mo2 := moA hex hacc
    by_cases hi : i < L.length
    · obtain ⟨x, hx⟩ : ∃ x, L[i]? = some x := ⟨_, List.getElem?_eq_getElem hi⟩
      have hxL : x ∈ L := List.mem_of_getElem? hx
      obtain ⟨go, yl⟩ := j.turn (A :: M) H2 hex.kp fA mo2 i (enc x) (by rw [List.getElem?_map, hx]; rfl)
      obtain ⟨ρ', hb, ht1, ht2⟩ := ht x hxL
      have htk : L.take (i + 1) = L.take i ++ [x] := by rw [List.take_succ, hx]; rfl
      refine .inr ⟨go, fun H' => (∃ acc, H' A = some (.lst acc) ∧ RpA K (hid H' (A :: M)) acc ((L.take (i + 1)).flatMap (row2 f L1 f1 v)) ∧ Ex K H1 H'), fun H' hN => ⟨k - 1, by omega, by omega, hN⟩, fun y H' hy => ?_⟩
      obtain ⟨e2, ry⟩ := yl y H' hy
      have mo3 : MOk K (A :: M) H' := mo2.ex e2
      have ew : EOk K (A :: M) H' (wipeE ρ vs) (L2.wipe σ vs) := EOk.wipe (e.low ((e1.trans hex).trans e2) (e1.back hA)) vs
      have hacc' : H' A = some (.lst acc) := e2.kp.lst hacc
      have hr' : RpA K (hid H' (A :: M)) acc ((L.take i).flatMap (row2 f L1 f1 v)) := hr.ex (hid_ex e2)
      refine hb.run (A :: M) _ H' y mo3 ew ry _ fun σ2 eo hw2 => ⟨(hw2 vs hix).trans wipe_wipe, ?_⟩
      refine ht1 (A :: M) σ2 H' mo3 eo _ fun H3 e3 => ?_
      cases hf : f x with
      | false =>
        show ∃ acc, _
        refine ⟨acc, e3.kp.lst hacc', ?_, (hex.trans e2).trans e3⟩
        rw [htk, List.flatMap_append, List.flatMap_singleton]
        rw [show row2 f L1 f1 v x = [] by unfold row2; rw [if_neg (by rw [hf]; decide)], List.append_nil]
        exact hr'.ex (hid_ex e3)
      | true =>
        obtain ⟨hs1, ht3⟩ := ht2 hf
        show wi1 σ2 H3 _
        refine hs1 (A :: M) σ2 H3 (mo3.ex e3) (eo.ex e3) _ fun J1 H4 e4 j1 => ?_
        have hacc4 : H4 A = some (.lst acc) := e4.kp.lst (e3.kp.lst hacc')
        have hr4 : RpA K (hid H4 (A :: M)) acc ((L.take i).flatMap (row2 f L1 f1 v)) := hr'.ex (hid_ex (e3.trans e4))
        have hex4 : Ex K H1 H4 := (hex.trans e2).trans (e3.trans e4)
        -- the list of ours may grow: what is walked within does not look at it
        refine ⟨fun i1 k1 H5 => i1 + k1 = (L1 x).length ∧ ∃ acc1, H5 A = some (.lst acc1) ∧ RpA K (hid H5 (A :: M)) acc1 ((L.take i).flatMap (row2 f L1 f1 v) ++ (((L1 x).take i1).filter (f1 x)).map (v x)) ∧ Ex K H1 H5 ∧ EOk K (A :: M) H5 ρ' σ2 ∧ Kp (hid H4 (A :: M)) H5 ∧ True, ⟨(L1 x).length, by omega, acc, hacc4, by simpa using hr4, hex4, (eo.ex e3).ex e4, hid_sub, trivial⟩, fun i1 k1 H5 hw5 => ?_⟩
        obtain ⟨hik1, acc1, hacc5, hr5, hex5, eo5, kp5, _⟩ := hw5
        have mo5 := moA hex5 hacc5
        have nB : ∀ a ∈ A :: M, hid (hid H4 (A :: M)) [] a = none := fun a ha => by rw [hid_nil]; exact hid_in ha
        by_cases hi1 : i1 < (L1 x).length
        · obtain ⟨y1, hy1⟩ : ∃ y1, (L1 x)[i1]? = some y1 := ⟨_, List.getElem?_eq_getElem hi1⟩
          obtain ⟨go1, yl1⟩ := j1.turn (A :: M) H5 kp5 nB mo5 i1 (enc1 x y1) (by rw [List.getElem?_map, hy1]; rfl)
          obtain ⟨ρ'', hb1, ht4, ht5⟩ := ht3 y1 (List.mem_of_getElem? hy1)
          have htk1 : (L1 x).take (i1 + 1) = (L1 x).take i1 ++ [y1] := by rw [List.take_succ, hy1]; rfl
          refine .inr ⟨go1, fun H6 => (∃ acc1, H6 A = some (.lst acc1) ∧ RpA K (hid H6 (A :: M)) acc1 ((L.take i).flatMap (row2 f L1 f1 v) ++ (((L1 x).take (i1 + 1)).filter (f1 x)).map (v x)) ∧ Ex K H1 H6 ∧ EOk K (A :: M) H6 ρ' σ2 ∧ Kp (hid H4 (A :: M)) H6 ∧ True),
            fun H6 hN => ⟨k1 - 1, by omega, by omega, hN⟩, fun z H6 hz => ?_⟩
          obtain ⟨e6, rz⟩ := yl1 z H6 hz
          have mo6 := mo5.ex e6
          have ew6 : EOk K (A :: M) H6 (wipeE ρ' vs1) (L2.wipe σ2 vs1) := EOk.wipe (eo5.ex e6) vs1
          refine hb1.run (A :: M) _ H6 z mo6 ew6 rz _ fun σ3 eo3 hw3 => ⟨(hw3 vs1 hix1).trans wipe_wipe, ?_⟩
          refine ht4 (A :: M) σ3 H6 mo6 eo3 _ fun H7 e7 => ?_
          have hacc7 : H7 A = some (.lst acc1) := e7.kp.lst (e6.kp.lst hacc5)
          have hr7 := hr5.ex (hid_ex (M := A :: M) (e6.trans e7))
          cases hf1 : f1 x y1 with
          | false =>
            show ∃ acc, _
            refine ⟨acc1, hacc7, ?_, (hex5.trans e6).trans e7, (eo5.ex e6).ex e7, fun a o q n => e7.kp _ _ (e6.kp _ _ (kp5 _ _ q n) n) n, trivial⟩
            rw [htk1, List.filter_append, List.map_append, List.filter_cons, if_neg (by rw [hf1]; decide)]
            simp only [List.filter_nil, List.map_nil, List.append_nil]
            exact hr7
          | true =>
            show te σ3 H7 _
            refine ht5 hf1 (A :: M) σ3 H7 (mo6.ex e7) (eo3.ex e7) _ fun z8 H8 e8 rz8 => ⟨acc1, e8.kp.lst hacc7, ?_, ?_⟩
            · have h1 := hr7.len
              rw [List.length_append, List.length_map] at h1
              have h2 := List.length_filter_le (f1 x) ((L1 x).take i1)
              rw [List.length_take] at h2
              have h3 := flat_len (row2 f L1 f1 v) (L.take i) fun y hy => row2_len (hl1 y (List.mem_of_mem_take hy))
              rw [List.length_take] at h3
              have h4 := hl1 x hxL
              have h5 : min i L.length ≤ 299 := by omega
              exact sz_lt (by omega)
            · have hacc8 : H8 A = some (.lst acc1) := e8.kp.lst hacc7
              have ex8 : Ex K H1 H8 := ((hex5.trans e6).trans e7).trans e8
              refine ⟨acc1 ++ [z8], upd_same, ?_, ex8.mut hA hacc8 True.intro, ?_, fun a o q n => ?_, trivial⟩
              · rw [htk1, List.filter_append, List.map_append, List.filter_cons, if_pos hf1]
                simp only [List.filter_nil, List.map_cons, List.map_nil]
                rw [← List.append_assoc]
                exact ((hr7.ex (hid_ex e8)).app (.cons rz8 .nil)).ex (hid_upd List.mem_cons_self)
              · have eo8 := ((eo5.ex e6).ex e7).ex e8
                refine eo8.mutA List.mem_cons_self fun z => ?_
                have hz0 := hb.sub A z
                have hzz : ∀ (vs : List Nat) (a : Addr), a ∈ owns (wipeE ρ vs) → a ∈ owns ρ := by
                  intro vs
                  induction vs with
                  | nil => exact fun a h => h
                  | cons v vs ih => exact fun a h => (owns_set_sub h).elim (ih a) fun h => by simp [Sl.adr] at h
                exact nAM ((e.owned A (hzz vs A hz0)).1)
              · obtain ⟨nn, q0⟩ := hid_some q
                have ne : a ≠ A := fun z => nn (by rw [z]; exact List.mem_cons_self)
                rw [upd_ne ne]
                exact e8.kp _ _ (e7.kp _ _ (e6.kp _ _ (kp5 _ _ q n) n) n) n
        · have hi1' : i1 = (L1 x).length := by omega
          subst hi1'
          refine .inl ⟨by have := j1.stop H5 kp5; rw [List.length_map] at this; exact this, acc1, hacc5, ?_, hex5⟩
          rw [List.take_length] at hr5
          rw [htk, List.flatMap_append, List.flatMap_singleton]
          rw [show row2 f L1 f1 v x = ((L1 x).filter (f1 x)).map (v x) by unfold row2; rw [if_pos hf]]
          exact hr5
    · have hi' : i = L.length := by omega
      subst hi'
      refine .inl ⟨by have := j.stop H2 hex.kp; rw [List.length_map] at this; exact this, ?_⟩
      rw [List.take_length] at hr
      refine q _ H2 (e1.trans hex) (.lst (by rw [hid_out nAM]; exact hacc) (hr.ex (hid_less fun a ha => List.mem_cons_of_mem _ ha)))
/-- i, j, l = x, y, a new list, by way of a tuple -/
theorem h_tup3 {B : Hp} {M : List Addr} {ρ : Env} {De : Ends} {i j l : Nat} {t1 t2 t3 : TE} {x y : D} {k3 : Kd} (h1 : EvD K t1 ρ x) (h2 : EvD K t2 ρ y) (h3 : EvX K t3 ρ k3) (k : ∀ q, Hold K B M (((ρ.set i (.dat x)).set j (.dat y)).set l (k3.sl q)) De.nx) :
    Hold K B M ρ (tAsg (tTup (tCons t1 (tCons t2 (tCons t3 tNil)))) (gTup K 3 (gCons (gName i) (gCons (gName j) (gCons (gName l) gNil)))) De) := fun B' b σ H st =>
  h1 _ σ H st.mok st.ev _ fun v H1 e1 r1 => h2 _ σ H1 (st.mok.ex e1) (st.ev.ex e1) _ fun w H2 e2 r2 => h3 _ σ H2 ((st.mok.ex e1).ex e2) ((st.ev.ex e1).ex e2) _ fun q z H3 e3 f3 s3 x3 m3 => by
    refine ⟨sz_of (n := 3) (by decide), fun p hp => ?_⟩
    refine ⟨p, [v, w, z], rfl, st_of upd_same, rfl, _, _, rfl, _, _, rfl, _, _, rfl, rfl, k q B' b _ _ (StOk.grow ?_ (Ex.new hp))⟩
    have st2 := ((st.grow e1).grow e2).grow e3
    have ev3 : EOk K (k3.adr q ++ (owns ρ ++ M)) H3 ρ σ := ((st.ev.ex e1).ex e2).up e3 x3 fun a h => List.mem_append_right _ h
    have rx : SlOk K (k3.adr q ++ (owns ρ ++ M)) H3 (.dat x) (some v) := ⟨v, rfl, (r1.ex (hid_ex e2)).ex x3⟩
    have ry : SlOk K (k3.adr q ++ (owns ρ ++ M)) H3 (.dat y) (some w) := ⟨w, rfl, r2.ex x3⟩
    have g1 := st2.set (i := i) (s := .dat x) (o := some v) rfl ⟨v, rfl, ((r1.ex (hid_ex e2)).ex (hid_ex e3))⟩
    have sub1 : ∀ a ∈ owns (ρ.set i (.dat x)) ++ M, a ∈ owns ρ ++ M := fun c hc => by
      rcases List.mem_append.mp hc with hc | hc
      · exact List.mem_append_left _ (set_sub c hc)
      · exact List.mem_append_right _ hc
    have g2 := g1.set (i := j) (s := .dat y) (o := some w) rfl ⟨w, rfl, (r2.ex (hid_ex e3)).ex (hid_less sub1)⟩
    refine g2.setG (N := k3.adr q ++ (owns ρ ++ M)) (fun a h => st.ex.back (e1.back (e2.back (f3 a (by rw [← k3.adr_sl]; exact h))))) (fun a h z => ((st.mok.ex e1).ex e2).m a (List.mem_append_right _ z) (f3 a (by rw [← k3.adr_sl]; exact h)))
      (fun a h z => ((st.mok.ex e1).ex e2).m a (List.mem_append_left _ (set_sub a (set_sub a z))) (f3 a (by rw [← k3.adr_sl]; exact h))) (by rw [k3.adr_sl]; exact k3.nd q) (fun a h => ?_) (fun a h => by rw [k3.adr_sl] at h; exact List.mem_append_left _ h) s3 ((ev3.set rx).set ry)
    rcases List.mem_append.mp h with h | h
    · exact List.mem_append_right _ (List.mem_append_left _ (set_sub a (set_sub a h)))
    · exact List.mem_append_right _ (List.mem_append_right _ h)
end Dl
/-! Defs as the top has left them; the key (-d[x], x). -/
namespace Dl
open PySem PySem.Spec PyProof.Rows L2 LamX
variable {K : Cfg}
theorem tr_of {te : TE} {ρ : Env} {k : List Key} (h : EvD K te ρ (.tup (k.map kD))) : TrT te K ρ k := fun M σ H m e Q q => h M σ H m e _ fun v H1 e1 r => by
  cases r with
  | tup h1 h2 => exact q _ H1 e1 (by rw [← keys_rp h2]; exact (hid_some h1).2)
/-- a def under its name as it stands behind the top: its code object, its defaults -/
structure Df (K : PySem.W.Frag) (mg : Str → Option Value) (x : Str) (st : Stmt) (dvs : List V) (cdv : Value) (f : Addr) (fd : FuncData) : Prop where
  fn : ∃ (oc : Value) (od : Option Addr) (dV kV doc pm : Value) (an : Option Addr) (ct : Value) (osl : Array (Option Value)),
    fd = PySem.W.fnOf x x (defArgs st) (defBody st) (defScope st) dV kV doc pm an cdv ct ∧ K.lookup f = some ⟨oc, od, .func fd, osl⟩ ∧ PySem.W.codeIn K cdv x = true ∧ DflV K dV dvs
  kp : PySem.W.keepIn K (.ref f) = true
  mgf : mg x = some (.ref f)
theorem Df.d {κ : PySem.W.Frag} {mg : Str → Option Value} {x : Str} {st : Stmt} {dvs : List V} {cdv : Value} {f : Addr} {fd : FuncData} (d : Df κ mg x st dvs cdv f fd) : FunD κ x x (defArgs st) (defBody st) (defScope st) dvs [] f fd := by
  obtain ⟨oc, od, dV, kV, doc, pm, an, ct, osl, h1, h2, h3, h4⟩ := d.fn
  exact ⟨⟨oc, od, dV, kV, doc, pm, an, cdv, ct, osl, h1, h2, h3, h4, .inl rfl⟩, d.kp⟩
section
variable {P : Program} {w : World} {mg : Str → Option Value} {base : Heap} {x : Str} {st : Stmt} {dvs : List V} {cdv : Value} {f : Addr} {fd : FuncData} {N ps : List Str} {k : Nat}
/-- any promise -/
theorem fn_any {sp : Sp} {κ : PySem.W.Frag} (d : Df κ mg x st dvs cdv f fd) (S : FnScope N ps (defScope st)) (len : ∀ vs H Q E, sp vs H Q E → vs.length = ps.length)
    (hbody : ∀ (A : Around) (outer : List PySem.Env) (s : Shared) (H : Hp) (vs : List V) (Q : VK) (E : XK), Room k (A.deeper (envOfC x (defScope st) s.heap.objs.size f cdv)) → sp vs H Q E →
      ∃ t, PSs (cxOf CX0 P w κ mg base N x (defScope st) f cdv A outer s H E).nox (defBody st) t ∧ t { nx := fun _ H' => Q .non H', rt := Q } (start N vs) H) : FnOk P w κ mg base CX0 (k + 1) f fd ps sp := by
  obtain ⟨oc, od, dV, kV, doc, pm, an, ct, osl, rfl, lk, hcd, hD⟩ := d.fn
  refine fn_of lk hcd S len fun A outer s H vs Q E hr hsp => ?_
  obtain ⟨t, h, q⟩ := hbody A outer s H vs Q E hr hsp
  exact ⟨t, h.nox, q⟩
/-- a def that tells and changes nothing -/
theorem fn_d {G : List D → D → Prop} (d : Df K mg x st dvs cdv f fd) (S : FnScope N ps (defScope st))
    (hbody : ∀ (A : Around) (outer : List PySem.Env) (s : Shared) (H : Hp) (E : XK), Room k (A.deeper (envOfC x (defScope st) s.heap.objs.size f cdv)) →
      ∃ t, PSs (cxOf CX0 P w K mg base N x (defScope st) f cdv A outer s H E).nox (defBody st) t ∧ ∀ ds r, ds.length = ps.length → G ds r → ∀ (B : Hp) (M : List Addr) (De : Ends), EndOk K B M De → Rets K B M De r → Hold K B M (startE N.length ds) (t De)) :
    FnOk P w K mg base CX0 (k + 1) f fd ps (spF K ps.length G) := by
  refine fn_any d S (fun vs H Q E h => ?_) (fun A outer s H vs Q E hr h => ?_)
  · obtain ⟨M, ds, d, hl, _⟩ := h
    exact hl
  · obtain ⟨M, ds, d, hl, m, r, hG, q⟩ := h
    obtain ⟨t, h1, h2⟩ := hbody A outer s H E hr
    refine ⟨t, h1, h2 ds d (by rw [← r.len]; exact hl) hG H M { nx := fun _ H' => Q .non H', rt := Q, bk := fun _ _ => False, ct := fun _ _ => False } (fun ρ h B b σ H' st => h .non H' (b.trans st.ex) st.mo.t .non) (fun v H2 e t r => q v H2 ⟨e, fun _ => t⟩ r) H (Ge.refl H) _ H (start_ok m r)⟩
theorem Fd.mk' {sp : Sp} {κ : PySem.W.Frag} {ds : List Value} {vs : List V} (F : FnOk P w κ mg base CX0 k f fd ps sp) (d : Df κ mg x st dvs cdv f fd) (b : Binds κ fd ps ds) (v : Vals vs ds) : Fd P w κ mg base k x sp vs := ⟨f, fd, ps, ds, F, d.mgf, d.kp, b, v⟩
end
/-! ### the key (-d[x], x) -/
theorem reads_tints {h : Heap} {a : Addr} {its : List Value} {ns : List Int} (pl : IsTup h a its.toArray) (r : Vals (ns.map V.int) its) : Reads h (.ref a) (.tuple (ns.map PyData.int)) [] := by
  obtain ⟨o, ho, q1, n', q2⟩ := pl
  exact Reads.tuple ho q1 q2 (reads_ints r)
section
variable {X : Cx} {scope : Scope} {x : Str} {s : Shared} {u : Value} {pins : List (Addr × Obj)} {σ : L2.St} {H : Hp} {pos p p2 : Pos}
theorem ke_tints {e : Expr} {t : Addr} {ns : List Int} (I : Inv X pins σ H s) (ht : SqT X.K H t (ns.map V.int)) (he : KE X scope x s u e fun _ r => r = .ref t) : KE X scope x s u e fun h r => Reads h r (.tuple (ns.map PyData.int)) [] := fun A L f c' h tk E hu l Q q =>
  he A L f c' h tk E hu l _ fun r h1 tk1 k1 hr => by
    subst hr
    obtain ⟨its, rv, pl, hz⟩ := I.tuple ht
    refine q _ h1 tk1 k1 (PyProof.Rows.Reads.keeps (fun b o e => k1 b o (l.old b o e)) (reads_tints pl rv))
/-- depths at slot i: a dict d; the item v: a tuple of ints that is a key of d -/
def RNeg (i : Nat) : L2.St → Hp → V → PyData → Prop := fun σ H v k => ∃ (d t : Addr) (kvs : List (List Key × V)) (ns : List Int) (n : Int), σ[i]? = some (some (.ref d)) ∧ H d = some (.dT kvs) ∧ v = .ref t ∧ H t = some (.tup (ns.map V.int)) ∧ valV kvs (ns.map Sum.inl) = some (.int n) ∧ k = .tuple [.int (-n), .tuple (ns.map PyData.int)]
theorem kV_inl (ns : List Int) : (ns.map (Sum.inl : Int → Key)).map kV = ns.map V.int := by rw [List.map_map]; rfl
theorem pkey_neg {d : Str} {i : Nat} {q1 q2 q3 q4 q5 q6 : Pos} {x1 : _} (hk : scope.kind = .function) (hx : scope.names.lookup x = some .local) (hxd : scope.names.lookup d = some .free) (hsc : X.env.scope.names.lookup d = some .cell)
    (hN : X.N[i]? = some d) (hd : (d == ("__debug__" : Str)) = false) (hcd : (d == ("__classdict__" : Str)) = false) (hdx : (x == ("__debug__" : Str)) = false) (hfr : ∀ y ∈ scope.names, y.2 = .free → X.env.scope.names.lookup y.1 = some .cell)
    (he1 : ∀ env, starEach [.UnaryOp .USub (.Subscript (.Name d q1) (.Name x q2) q3) q4, .Name x q5] env = (false, eval (.UnaryOp .USub (.Subscript (.Name d q1) (.Name x q2) q3) q4) env) :: starEach [.Name x q5] env := by intro _; rfl)
    (he2 : ∀ env, starEach [.Name x q5] env = (false, eval (.Name x q5) env) :: starEach [] env := by intro _; rfl) (hs : NoSl (.Name x q2) := by intro _ _; rfl) :
    PKey X scope x (.Tuple [.UnaryOp .USub (.Subscript (.Name d q1) (.Name x q2) q3) q4, .Name x q5] x1 q6) (RNeg i) :=
  ⟨fun {pins s σ H v u k} I r h => by
    obtain ⟨da, t, kvs, ns, n, h1, h2, rfl, h4, h5, rfl⟩ := h
    obtain rfl : u = Value.ref t := r
    have hfree : ∀ y ∈ scope.names, y.2 = .free → ∃ c, X.env.cells.lookup y.1 = some c := fun y hy ef => I.ok.has y.1 (.inl (hfr y hy ef))
    have kd : KE X scope x s (.ref t) (.Name d q1) fun _ r => r = .ref da := fun A L f c' h tk E hu l Q q =>
      ke_free (p := q1) I hk hxd hsc hfree hN h1 hd hcd A L f c' h tk E hu l Q fun r h' tk' k hr => q r h' tk' k (by exact hr)
    have kx : ∀ p, KE X scope x s (.ref t) (.Name x p) fun _ r => r = .ref t := fun p => ke_par hk hx hdx
    have kg := ke_dget (p := q3) I h2 (k := ns.map Sum.inl) (by rw [kV_inl]; exact h4) h5 kd (kx q2) hs
    have kn : KE X scope x s (.ref t) (.UnaryOp .USub (.Subscript (.Name d q1) (.Name x q2) q3) q4) fun h r => Reads h r (.int (-n)) [] := fun A L f c' h tk E hu l Q q =>
      ke_neg kg A L f c' h tk E hu l Q fun r h' tk' k hr => q r h' tk' k (reads_int hr)
    exact ke_tup2 kn (ke_tints I (st_of (K := ⟨X.K, []⟩) h4) (kx q5)) he1 he2⟩
end
end Dl
/-! A statement and what stands behind it. -/
abbrev L2.Ends.to (De : L2.Ends) (n : L2.St → L2.Hp → Prop) : L2.Ends := { De with nx := n }
namespace Dl
open PySem PySem.Spec PyProof.Rows L2 LamX
variable {K : Cfg} {B : Hp} {M : List Addr} {ρ : Env} {De : Ends} {te ta tb : TE} {d : D} {u w : TS} {P : L2.St → Hp → Prop}
theorem q_if {t : TT} {b : Bool} (h : EvT K t ρ b) (h1 : b = true → Hold K B M ρ (u (De.to (w De)))) (h2 : b = false → Hold K B M ρ (w De)) : Hold K B M ρ (tSeq (tIfS t u tNext) w De) := h_if h h1 h2
theorem q_if2 {t : TT} {v : TS} {b : Bool} (h : EvT K t ρ b) (h1 : b = true → Hold K B M ρ (u (De.to (w De)))) (h2 : b = false → Hold K B M ρ (v (De.to (w De)))) : Hold K B M ρ (tSeq (tIfS t u v) w De) := h_if h h1 h2
theorem q_set {i : Nat} (h : EvD K te ρ d) (k : Hold K B M (ρ.set i (.dat d)) (w De)) : Hold K B M ρ (tSeq (tAsg te (gName i)) w De) := h_set h k
theorem q_own {i : Nat} {xs : List D} (h : EvN K te ρ xs) (k : ∀ p, B p = none → Hold K B M (ρ.set i (.own p xs)) (w De)) : Hold K B M ρ (tSeq (tAsg te (gName i)) w De) := h_ownN h k
theorem q_drop (h : EvD K te ρ d) (k : Hold K B M ρ (w De)) : Hold K B M ρ (tSeq (tDrop te) w De) := h_drop h k
theorem q_app {i : Nat} {a : Addr} {xs : List D} (h : ρ[i]? = some (.own a xs)) (he : EvD K te ρ d) (hl : xs.length < 100000) (k : Hold K B M (ρ.set i (.own a (xs ++ [d]))) (w De)) : Hold K B M ρ (tSeq (tDrop (tBM K "list" rAppend (tVar i) (tCons te tNil))) w De) := h_app h he hl k
theorem q_bind {g : TG} {ρ2 : Env} {ix : List Nat} (h : EvD K te ρ d) (hb : Bnd K g d ρ ρ2 ix) (k : Hold K B M ρ2 (w De)) : Hold K B M ρ (tSeq (tAsg te g) w De) := h_bind h hb k
theorem q_pop {i : Nat} {a : Addr} {xs : List D} {g : TG} {ρ2 : Env} {ix : List Nat} (h : ρ[i]? = some (.own a (xs ++ [d]))) (hb : Bnd K g d (ρ.set i (.own a xs)) ρ2 ix) (k : Hold K B M ρ2 (w De)) : Hold K B M ρ (tSeq (tAsg (tBM0 K "list" rPop (tVar i)) g) w De) := h_pop h hb k
theorem q_dict {i : Nat} (k : ∀ p, B p = none → Hold K B M (ρ.set i (.ownT p [] [])) (w De)) : Hold K B M ρ (tSeq (tAsg tDNewT (gName i)) w De) := h_ownT k
theorem q_par2 {i j : Nat} {k1 k2 : Kd} (h1 : EvX K ta ρ k1) (h2 : EvX K tb ρ k2) (k : ∀ p q, Hold K B M ((ρ.set i (k1.sl p)).set j (k2.sl q)) (w De)) : Hold K B M ρ (tSeq (tPar i j (tCons ta (tCons tb tNil))) w De) := h_par2 h1 h2 k
theorem q_tup3 {i j l : Nat} {t1 t2 t3 : TE} {x y : D} {k3 : Kd} (h1 : EvD K t1 ρ x) (h2 : EvD K t2 ρ y) (h3 : EvX K t3 ρ k3) (k : ∀ q, Hold K B M (((ρ.set i (.dat x)).set j (.dat y)).set l (k3.sl q)) (w De)) :
    Hold K B M ρ (tSeq (tAsg (tTup (tCons t1 (tCons t2 (tCons t3 tNil)))) (gTup K 3 (gCons (gName i) (gCons (gName j) (gCons (gName l) gNil))))) w De) := h_tup3 h1 h2 h3 k
theorem q_for {wi : TI} {g : TG} {tb : TS} {xs : List D} (I : Nat → Env → Prop) (hs : Src K wi ρ xs) (h0 : I 0 ρ)
    (ht : ∀ B', Ge B B' → ∀ i d ρ1, xs[i]? = some d → I i ρ1 → ∃ ρ2 ix, Bnd K g d ρ1 ρ2 ix ∧ Hold K B' M ρ2 (tb (loopE (De.to (w De)) (Lp K B' M (I (i + 1))))))
    (hd : ∀ ρ1, I xs.length ρ1 → Hold K B M ρ1 (w De)) : Hold K B M ρ (tSeq (tFor wi g tb) w De) := h_for I hs h0 ht hd
theorem q_while {tc : TT} {tb : TS} (I : Nat → Env → Prop) (m0 : Nat) (h0 : I m0 ρ)
    (ht : ∀ m ρ1, I m ρ1 → ∃ b, EvT K tc ρ1 b ∧ (b = true → ∀ B', Ge B B' → Hold K B' M ρ1 (tb (loopE (De.to (w De)) (Lp K B' M fun ρ2 => ∃ m', m' < m ∧ I m' ρ2)))) ∧ (b = false → Hold K B M ρ1 (w De))) : Hold K B M ρ (tSeq (tWhile tc tb) w De) := h_while I m0 h0 ht
/-- the last statement of a loop's body -/
theorem e_if {t : TT} {b : Bool} (h : EvT K t ρ b) (h1 : b = true → Hold K B M ρ (u De)) (h2 : b = false → Hold K B M ρ De.nx) : Hold K B M ρ (tIfS t u tNext De) := h_if h h1 h2
end Dl
/-! One list of ints that defs change: it is handed about, all else stays. -/
namespace Dl
open PySem PySem.Spec PyProof.Rows L2 LamX
variable {K : Cfg}
/-- all but the object at p stays; nothing is lost -/
structure ExM (K : Cfg) (p : Addr) (H H' : Hp) : Prop where
  kp : ∀ a o, a ≠ p → H a = some o → (∀ ps, o ≠ .tbl ps) → H' a = some o
  th : ∀ a, H a ≠ none → H' a ≠ none
  tb : LamX.Tabs K.T H → LamX.Tabs K.T H'
theorem Ex.m {p : Addr} {H H' : Hp} (e : Ex K H H') : ExM K p H H' := ⟨fun a o _ h n => e.kp a o h n, e.ge.th, e.tb⟩
theorem ExM.trans {p : Addr} {H H1 H2 : Hp} (a : ExM K p H H1) (b : ExM K p H1 H2) : ExM K p H H2 := ⟨fun x o n h t => b.kp x o n (a.kp x o n h t) t, fun x h => b.th x (a.th x h), fun h => b.tb (a.tb h)⟩
theorem MOk.exM {p : Addr} {M : List Addr} {H H2 : Hp} (m : MOk K M H) (e : ExM K p H H2) : MOk K M H2 := ⟨fun a h => e.th a (m.m a h), e.tb m.t⟩
theorem ExM.hid {p : Addr} {M : List Addr} {H H2 : Hp} (e : ExM K p H H2) (h : p ∈ M) : Kp (hid H M) (Dl.hid H2 M) := fun a o q n => by
  obtain ⟨m, q⟩ := hid_some q
  rw [hid_out m]
  exact e.kp a o (fun z => m (z ▸ h)) q n
theorem SlOk.exM {p : Addr} {M : List Addr} {H H2 : Hp} {s : Sl} {o : Option V} (h : SlOk K M H s o) (e : ExM K p H H2) (m : p ∈ M) (n : p ∉ s.adr) : SlOk K M H2 s o := by
  have x := e.hid m
  cases s with
  | no => trivial
  | dat d => obtain ⟨v, e1, r⟩ := h; exact ⟨v, e1, r.ex x⟩
  | own b xs => obtain ⟨e1, m1, vs, q, r⟩ := h; exact ⟨e1, m1, vs, e.kp _ _ (fun z => n (by simp [Sl.adr, z])) q (fun _ z => nomatch z), r.ex x⟩
  | ownT b ks xs => obtain ⟨e1, m1, vs, q, l, r⟩ := h; exact ⟨e1, m1, vs, e.kp _ _ (fun z => n (by simp [Sl.adr, z])) q (fun _ z => nomatch z), l, r.ex x⟩
  | ownK b ks xs => obtain ⟨e1, m1, vs, q, l, r⟩ := h; exact ⟨e1, m1, vs, e.kp _ _ (fun z => n (by simp [Sl.adr, z])) q (fun _ z => nomatch z), l, r.ex x⟩
  | ownG b R => obtain ⟨e1, m1, u, q, n', r⟩ := h; exact ⟨e1, m1, u, e.kp _ _ (fun z => n (by simp [Sl.adr, z])) q n', n', fun G g => r G (x.trans g)⟩
  | raw v => exact h
  | fix v d => exact ⟨h.1, h.2.ex x⟩
  | deep as d => obtain ⟨v, e1, m1, r⟩ := h; exact ⟨v, e1, m1, r.ups (fun a ha vs q => e.kp _ _ (fun z : a = p => n (by rw [← z]; exact ha)) q (fun _ z => nomatch z)) x⟩
/-- an expression that changes the list of ints at slot i -/
def EvM (K : Cfg) (t : TE) (ρ : Env) (p : Addr) (ns : List Int) (P : D → List Int → Prop) : Prop := ∀ (M : List Addr) (σ : L2.St) (H : Hp), MOk K M H → EOk K M H ρ σ → p ∈ M → H p = some (.lst (ns.map V.int)) → ∀ Q : VK,
  (∀ v H2 d ns', P d ns' → ExM K p H H2 → H2 p = some (.lst (ns'.map V.int)) → Rp K (hid H2 M) v d → Q v H2) → t σ H Q
section
variable {ρ : Env} {ta tb te : TE} {p : Addr} {ns : List Int} {P P' : D → List Int → Prop}
theorem EvM.imp (h : EvM K te ρ p ns P) (i : ∀ d ns', P d ns' → P' d ns') : EvM K te ρ p ns P' := fun M σ H m e hp hq Q q => h M σ H m e hp hq Q fun v H2 d ns' pd => q v H2 d ns' (i d ns' pd)
/-- x op y, y changes it -/
theorem em_opR {g : Int → Int → V} {i : Int} (z : Int → D) (ha : EvD K ta ρ (.int i)) (hb : EvM K tb ρ p ns P) (hP : ∀ d ns', P d ns' → ∃ j, d = .int j ∧ P' (z j) ns' ∧ ∀ H, Rp K H (g i j) (z j)) : EvM K (tOp (rI0 g) ta tb) ρ p ns P' := fun M σ H m e hp hq Q q =>
  ha M σ H m e _ fun v H1 e1 r1 => by
    cases r1
    refine hb M σ H1 (m.ex e1) (e.ex e1) hp (e1.kp.lst hq) _ fun w H2 d ns' pd x2 q2 r2 => ?_
    obtain ⟨j, rfl, h1, h2⟩ := hP d ns' pd
    cases r2
    exact ⟨i, j, rfl, rfl, q _ H2 _ ns' h1 (e1.m.trans x2) q2 (h2 _)⟩
/-- what a def promises that takes the list and ds, and changes the list -/
def spM (K : Cfg) (n : Nat) (G : List Int → List D → D → List Int → Prop) (ok : List Int → List D → Prop) : Sp := fun vs H Q _ => ∃ (M : List Addr) (p : Addr) (ns : List Int) (ws : List V) (ds : List D), vs = .ref p :: ws ∧ ws.length = n ∧ MOk K M H ∧ p ∈ M ∧ H p = some (.lst (ns.map V.int)) ∧ RpA K (hid H M) ws ds ∧ ok ns ds ∧
  ∀ v H2 d ns', G ns ds d ns' → ExM K p H H2 → H2 p = some (.lst (ns'.map V.int)) → Rp K (hid H2 M) v d → Q v H2
theorem em_call {n : Nat} {G : List Int → List D → D → List Int → Prop} {ok : List Int → List D → Prop} {E : XK} {i : Nat} {d : D} (hi : ρ[i]? = some (.own p (ns.map D.int))) (ha : EvD K ta ρ d) (hn : n = 1) (hok : ok ns [d]) (hP : ∀ r ns', G ns [d] r ns' → P r ns') : EvM K (tCall (spM K n G ok) [] E (tCons (tVar i) (tCons ta tNil))) ρ p ns P := fun M σ H m e hp hq Q q => by
  obtain ⟨o, e1, rfl, _⟩ := e.get hi
  refine ⟨_, e1, ha M σ H m e _ fun w H1 x1 r1 => ⟨M, p, ns, [w], [d], rfl, hn.symm ▸ rfl, m.ex x1, hp, x1.kp.lst hq, .cons r1 .nil, hok, fun v H2 r ns' hG x2 q2 r2 => q v H2 r ns' (hP r ns' hG) (x1.m.trans x2) q2 r2⟩⟩
/-- the second argument changes it first -/
theorem em_callM {n : Nat} {G : List Int → List D → D → List Int → Prop} {ok : List Int → List D → Prop} {E : XK} {i : Nat} (hi : ρ[i]? = some (.own p (ns.map D.int))) (ha : EvM K ta ρ p ns P') (hn : n = 1) (hok : ∀ d ns', P' d ns' → ok ns' [d] ∧ ∀ r ns2, G ns' [d] r ns2 → P r ns2) : EvM K (tCall (spM K n G ok) [] E (tCons (tVar i) (tCons ta tNil))) ρ p ns P := fun M σ H m e hp hq Q q => by
  obtain ⟨o, e1, rfl, _⟩ := e.get hi
  refine ⟨_, e1, ha M σ H m e hp hq _ fun w H1 d ns' hd x1 q1 r1 => ⟨M, p, ns', [w], [d], rfl, hn.symm ▸ rfl, m.exM x1, hp, q1, .cons r1 .nil, (hok d ns' hd).1, fun v H2 r ns2 hG x2 q2 r2 => q v H2 r ns2 ((hok d ns' hd).2 r ns2 hG) (x1.trans x2) q2 r2⟩⟩
/-- (a, b, c), c changes it -/
theorem em_tup3 {x y : D} {tc : TE} (ha : EvD K ta ρ x) (hb : EvD K tb ρ y) (hc : EvM K tc ρ p ns P) (hP : ∀ d ns', P d ns' → P' (.tup [x, y, d]) ns') : EvM K (tTup (tCons ta (tCons tb (tCons tc tNil)))) ρ p ns P' := fun M σ H m e hp hq Q q =>
  ha M σ H m e _ fun v1 H1 e1 r1 => hb M σ H1 (m.ex e1) (e.ex e1) _ fun v2 H2 e2 r2 => hc M σ H2 ((m.ex e1).ex e2) ((e.ex e1).ex e2) hp (e2.kp.lst (e1.kp.lst hq)) _ fun v3 H3 d ns' pd x3 q3 r3 => by
    refine ⟨sz_of (show 3 ≤ 100000 by decide), fun a hn => ?_⟩
    have m3 : MOk K M H3 := ((m.ex e1).ex e2).exM x3
    have ne : a ≠ p := fun z => by rw [z, q3] at hn; cases hn
    refine q _ _ _ ns' (hP d ns' pd) (((e1.trans e2).m.trans x3).trans (Ex.new (o := .tup [v1, v2, v3]) hn).m) (by rw [upd_ne ne.symm]; exact q3) (.tup (hid_new m3 hn) ?_)
    have kn : Kp (hid H3 M) (hid (upd H3 a (.tup [v1, v2, v3])) M) := hid_kp (Kp.new hn)
    exact .cons (((r1.ex (hid_ex e2)).ex (x3.hid hp)).ex kn) (.cons ((r2.ex (x3.hid hp)).ex kn) (.cons (r3.ex kn) .nil))
end
section
variable {B : Hp} {M : List Addr} {ρ : Env} {De : Ends} {te : TE} {p : Addr} {ns : List Int} {P : D → List Int → Prop}
theorem StOk.exM {i : Nat} {ns' : List Int} {σ : L2.St} {H H2 : Hp} (st : StOk K B M ρ σ H) (h : ρ[i]? = some (.own p (ns.map D.int))) (e : ExM K p H H2) (q : H2 p = some (.lst (ns'.map V.int))) : StOk K B M (ρ.set i (.own p (ns'.map D.int))) σ H2 := by
  have ha : p ∈ owns ρ := own_mem h (by simp [Sl.adr])
  have sub : ∀ c ∈ owns (ρ.set i (.own p (ns'.map D.int))), c ∈ owns ρ := fun c hc => by
    rcases owns_set_sub hc with hc | hc
    · exact hc
    · rw [show c = p by simpa [Sl.adr] using hc]; exact ha
  have nd : (owns (ρ.set i (.own p (ns'.map D.int)))).Nodup := owns_set_nd i st.nd (by simp [Sl.adr]) fun c hc j t hj ht hat => by
    have z : c = p := by simpa [Sl.adr] using hc
    subst z
    exact owns_inj st.nd (Ne.symm hj) h ht (by simp [Sl.adr]) hat
  have pB : B p = none := st.fr p ha
  refine ⟨⟨fun a o ho n => e.kp a o (fun z => by rw [z, pB] at ho; cases ho) (st.ex.kp a o ho n) n, fun a h => e.th a (st.ex.th a h)⟩, fun c hc => st.fr c (sub c hc), nd, fun c hc => st.ap c (sub c hc), st.mo.exM e, ?_⟩
  obtain ⟨o, e1, e2, _⟩ := st.ev.get h
  have key : ∀ {l : Env} {m : L2.St} (j : Nat), Paired (SlOk K (owns ρ ++ M) H) l m → (∀ n t, l[n]? = some t → n ≠ j → p ∉ t.adr) → (∀ o, m[j]? = some o → SlOk K (owns ρ ++ M) H2 (.own p (ns'.map D.int)) o) → Paired (SlOk K (owns ρ ++ M) H2) (l.set j (.own p (ns'.map D.int))) m := by
    intro l m j pr
    induction pr generalizing j with
    | nil => intro _ _; exact .nil
    | @cons x y l m r pr ih =>
      intro h1 h2
      cases j with
      | zero =>
        refine .cons (h2 y rfl) (Paired.imp' pr fun t ht o r => r.exM e (List.mem_append_left _ ha) ?_)
        obtain ⟨n, hn⟩ := List.getElem?_of_mem ht
        exact h1 (n + 1) t (by simpa using hn) (by omega)
      | succ j =>
        exact .cons (r.exM e (List.mem_append_left _ ha) (h1 0 x rfl (by omega))) (ih j (fun n t hn hj => h1 (n + 1) t (by simpa using hn) (by omega)) fun o ho => h2 o (by simpa using ho))
  have ev1 : EOk K (owns ρ ++ M) H2 (ρ.set i (.own p (ns'.map D.int))) σ := key i st.ev (fun n t hn hj hat => owns_inj st.nd (Ne.symm hj) h hn (by simp [Sl.adr]) hat) fun o' ho' => by
    rw [e1] at ho'
    cases ho'
    exact ⟨e2, List.mem_append_left _ ha, _, q, RpA.of_ints ns'⟩
  refine ev1.less (fun c hc => ?_) fun c hc => List.mem_append_left _ hc
  rcases List.mem_append.mp hc with hc | hc
  · exact List.mem_append_left _ (sub c hc)
  · exact List.mem_append_right _ hc
theorem StOk.ints {i : Nat} {σ : L2.St} {H : Hp} (st : StOk K B M ρ σ H) (h : ρ[i]? = some (.own p (ns.map D.int))) : H p = some (.lst (ns.map V.int)) := by
  obtain ⟨o, e1, e2, _, vs, q, r⟩ := st.ev.get h
  rw [r.ints] at q
  exact q
/-- x = e, e changes the list -/
theorem h_setM {i j : Nat} (h : ρ[i]? = some (.own p (ns.map D.int))) (he : EvM K te ρ p ns P) (k : ∀ d ns', P d ns' → Hold K B M ((ρ.set i (.own p (ns'.map D.int))).set j (.dat d)) De.nx) : Hold K B M ρ (tAsg te (gName j) De) := fun B' b σ H st =>
  he _ σ H st.mok st.ev (List.mem_append_left _ (own_mem h (by simp [Sl.adr]))) (st.ints h) _ fun v H2 d ns' pd x2 q2 r2 => by
    have st2 := st.exM h x2 q2
    refine k d ns' pd B' b _ H2 (st2.set rfl ⟨v, rfl, r2.ex (hid_less fun a ha => ?_)⟩)
    rcases List.mem_append.mp ha with ha | ha
    · refine List.mem_append_left _ ?_
      rcases owns_set_sub ha with ha | ha
      · exact ha
      · rw [show a = p by simpa [Sl.adr] using ha]; exact own_mem h (by simp [Sl.adr])
    · exact List.mem_append_right _ ha
theorem q_setM {w : TS} {i j : Nat} (h : ρ[i]? = some (.own p (ns.map D.int))) (he : EvM K te ρ p ns P) (k : ∀ d ns', P d ns' → Hold K B M ((ρ.set i (.own p (ns'.map D.int))).set j (.dat d)) (w De)) : Hold K B M ρ (tSeq (tAsg te (gName j)) w De) := h_setM h he k
/-- what is wanted of a return: the list as it then stands, too -/
def RetsM (K : Cfg) (B : Hp) (M : List Addr) (De : Ends) (p : Addr) (R : D → List Int → Prop) : Prop := ∀ v H2 d ns, R d ns → Ge B H2 → LamX.Tabs K.T H2 → H2 p = some (.lst (ns.map V.int)) → Rp K (hid H2 (p :: M)) v d → De.rt v H2
theorem RetsM.mono {B B' : Hp} {R : D → List Int → Prop} (h : RetsM K B M De p R) (e : Ge B B') : RetsM K B' M De p R := fun v H2 d ns hr x t q r => h v H2 d ns hr (e.trans x) t q r
theorem h_retM {i : Nat} {d : D} {R : D → List Int → Prop} (h : ρ[i]? = some (.own p (ns.map D.int))) (he : EvD K te ρ d) (hR : R d ns) (k : RetsM K B M De p R) : Hold K B M ρ (tRet te De) := fun B' b σ H st =>
  he _ σ H st.mok st.ev _ fun v H1 e1 r => k v H1 d ns hR ((b.trans st.ex).trans e1.ge) (e1.tb st.mo.t) (e1.kp.lst (st.ints h)) (r.ex (hid_less fun a ha => by
    rcases List.mem_cons.mp ha with rfl | ha
    · exact List.mem_append_left _ (own_mem h (by simp [Sl.adr]))
    · exact List.mem_append_right _ ha))
/-- the start of a def that takes the list -/
theorem start_m {N : List Str} {M : List Addr} {H : Hp} {p : Addr} {ns : List Int} {ws : List V} {ds : List D} (m : MOk K M H) (hp : p ∈ M) (q : H p = some (.lst (ns.map V.int))) (r : RpA K (hid H M) ws ds) :
    StOk K (hid H [p]) (M.filter fun a => decide (a ≠ p)) (.own p (ns.map D.int) :: (ds.map Sl.dat ++ List.replicate (N.length - (ds.length + 1)) .no)) (L2.start N (V.ref p :: ws)) H := by
  have eo : owns (.own p (ns.map D.int) :: (ds.map Sl.dat ++ List.replicate (N.length - (ds.length + 1)) .no)) = [p] := by
    rw [owns_nil_cons, owns_app, owns_dats, owns_nos]
    rfl
  have sub : ∀ a ∈ [p] ++ (M.filter fun a => decide (a ≠ p)), a ∈ M := fun a ha => by
    rcases List.mem_append.mp ha with ha | ha
    · rw [List.mem_singleton.mp ha]; exact hp
    · exact (List.mem_filter.mp ha).1
  have k : Kp (hid H M) (hid H ([p] ++ (M.filter fun a => decide (a ≠ p)))) := hid_less sub
  refine ⟨hid_ge, fun a h => by rw [eo] at h; exact hid_in h, by rw [eo]; simp, fun a h => ?_, ⟨fun a h => m.m a (List.mem_filter.mp h).1, m.t⟩, ?_⟩
  · rw [eo] at h
    rw [List.mem_singleton.mp h]
    simp
  · rw [eo]
    show Paired _ _ (some (V.ref p) :: _)
    have e2 : L2.start N (V.ref p :: ws) = some (.ref p) :: (ws.map some ++ List.replicate (N.length - (ds.length + 1)) none) := by
      unfold L2.start
      rw [List.length_cons, r.len]
      rfl
    have h : Paired (SlOk K ([p] ++ (M.filter fun a => decide (a ≠ p))) H) (.own p (ns.map D.int) :: (ds.map Sl.dat ++ List.replicate (N.length - (ds.length + 1)) .no)) (some (V.ref p) :: (ws.map some ++ List.replicate (N.length - (ds.length + 1)) none)) :=
      .cons ⟨rfl, by simp, _, q, RpA.of_ints ns⟩ (paired_app (start_dats (r.ex k)) (start_nos _))
    rw [← e2] at h
    exact h
end
end Dl
/-! A def that takes the list; an item of it stored; bits. -/
namespace Dl
open PySem PySem.Spec PyProof.Rows L2 LamX
variable {K : Cfg}
section
variable {P : Program} {w : World} {mg : Str → Option Value} {base : Heap} {x : Str} {st : Stmt} {dvs : List V} {cdv : Value} {f : Addr} {fd : FuncData} {N ps : List Str} {k n : Nat}
theorem fn_m {G : List Int → List D → D → List Int → Prop} {ok : List Int → List D → Prop} (d : Df K mg x st dvs cdv f fd) (S : FnScope N ps (defScope st)) (hn : n + 1 = ps.length)
    (hbody : ∀ (A : Around) (outer : List PySem.Env) (s : Shared) (H : Hp) (E : XK), Room k (A.deeper (envOfC x (defScope st) s.heap.objs.size f cdv)) →
      ∃ t, PSs (cxOf CX0 P w K mg base N x (defScope st) f cdv A outer s H E).nox (defBody st) t ∧ ∀ p ns ds, ds.length = n → ok ns ds → ∀ (B : Hp) (M : List Addr) (De : Ends), RetsM K B M De p (G ns ds) → Hold K B M (.own p (ns.map D.int) :: (ds.map Sl.dat ++ List.replicate (N.length - (ds.length + 1)) .no)) (t De)) :
    FnOk P w K mg base CX0 (k + 1) f fd ps (spM K n G ok) := by
  refine fn_any d S (fun vs H Q E h => ?_) (fun A outer s H vs Q E hr h => ?_)
  · obtain ⟨M, p, ns, ws, ds, rfl, hl, _⟩ := h
    rw [List.length_cons, hl]
    exact hn
  · obtain ⟨M, p, ns, ws, ds, rfl, hl, m, hp, hq, r, hok, q⟩ := h
    obtain ⟨t, h1, h2⟩ := hbody A outer s H E hr
    have st := start_m (N := N) m hp hq r
    refine ⟨t, h1, h2 p ns ds (by rw [← r.len]; exact hl) hok (hid H [p]) (M.filter fun a => decide (a ≠ p)) { nx := fun _ H' => Q .non H', rt := Q, bk := fun _ _ => False, ct := fun _ _ => False } (fun v H2 d' ns' hG g t2 q2 r2 => ?_) (hid H [p]) (Ge.refl _) _ H st⟩
    refine q v H2 d' ns' hG ⟨fun a o na ha nt => g.kp a o (by rw [hid_out (by simpa using na)]; exact ha) nt, fun a ha => ?_, fun _ => t2⟩ q2 (r2.ex (hid_less fun a ha => ?_))
    · by_cases e : a = p
      · rw [e, q2]; simp
      · exact g.th a (by rw [hid_out (by simpa using e)]; exact ha)
    · by_cases e : a = p
      · rw [e]; exact List.mem_cons_self
      · exact List.mem_cons_of_mem _ (List.mem_filter.mpr ⟨ha, by simpa using e⟩)
end
section
variable {B : Hp} {M : List Addr} {ρ : Env} {De : Ends} {te : TE} {p : Addr} {ns : List Int} {w : TS}
theorem ExM.upd {H : Hp} {u o : HO} (h : H p = some o) (k : Lk o) : ExM K p H (L2.upd H p u) := ⟨fun a o' n ha _ => by rw [upd_ne n]; exact ha, fun a ha z => by
  by_cases e : a = p
  · rw [e, upd_same] at z; cases z
  · rw [upd_ne e] at z; exact ha z, tabs_mut h k⟩
/-- p[k] = e -/
theorem q_store {i k : Nat} {x : Int} (h : ρ[i]? = some (.own p (ns.map D.int))) (he : EvD K te ρ (.int x)) (hk : k < ns.length) (kk : Hold K B M (ρ.set i (.own p ((ns.set k x).map D.int))) (w De)) : Hold K B M ρ (tSeq (tAsg te (gSub (tVar i) (tC (.int k)) rSetL)) w De) := fun B' b σ H st =>
  he _ σ H st.mok st.ev _ fun v H1 e1 r1 => by
    cases r1
    have st1 := st.grow e1
    obtain ⟨o, e2, rfl, _⟩ := st1.ev.get h
    have q := st1.ints h
    refine ⟨_, e2, p, ns.map V.int, (k : Int), k, rfl, rfl, q, by unfold ixN; rw [List.length_map, if_pos (by omega), if_pos (by omega), Int.toNat_natCast], kk B' b _ _ ?_⟩
    rw [show (ns.map V.int).set k (.int x) = (ns.set k x).map V.int by rw [List.map_set]]
    exact st1.exM (ns := ns) h (ExM.upd q True.intro) upd_same
theorem ev_bits {i : Int} (h : EvD K te ρ (.int i)) : EvD K (tBits te) ρ (.int (Builtin.Int.intBits i : Nat)) := fun M σ H m e Q q => h M σ H m e _ fun v H1 e1 r => by
  cases r
  exact ⟨i, rfl, q _ H1 e1 (.int _)⟩
end
end Dl
/-! Powers of great numbers; a list returned that is new; tests that change the list of ints. -/
namespace Dl
open PySem PySem.Spec PyProof.Rows L2 LamX
variable {K : Cfg}
def CPowW (i j : Int) : Prop := 0 ≤ j ∧ (Builtin.Int.intBits i : Int) * j ≤ 2 ^ 27
theorem op_powW {X : Cx} : OpR X (binaryOp .Pow) (rI CPowW fun i j => .int (i ^ j.toNat)) := opI fun _ _ _ _ _ _ _ hc q => PyProof.Rows.pow_int hc.1 hc.2 q
section
variable {B : Hp} {M : List Addr} {ρ : Env} {De : Ends} {te : TE} {d : D} {p : Addr} {ns : List Int} {P : List Int → Prop}
/-- e is known where B stands -/
theorem h_setB {i : Nat} (h : ∀ M' σ H, Ge B H → MOk K M' H → EOk K M' H ρ σ → ∀ Q : VK, (∀ v H2, Ex K H H2 → Rp K (hid H2 M') v d → Q v H2) → te σ H Q) (k : Hold K B M (ρ.set i (.dat d)) De.nx) : Hold K B M ρ (tAsg te (gName i) De) := fun B' b σ H st =>
  h _ σ H (b.trans st.ex) st.mok st.ev _ fun v H1 e1 r => k B' b _ H1 ((st.grow e1).set rfl ⟨v, rfl, r⟩)
theorem h_retNew {xs : List D} (h : EvN K te ρ xs) (k : ∀ q vs H2, B q = none → Ge B H2 → LamX.Tabs K.T H2 → H2 q = some (.lst vs) → RpA K (hid H2 (q :: M)) vs xs → De.rt (.ref q) H2) : Hold K B M ρ (tRet te De) := fun B' b σ H st =>
  h _ σ H st.mok st.ev _ fun q vs H2 hq e hl r => k q vs H2 ((b.trans st.ex).back hq) ((b.trans st.ex).trans e.ge) (e.tb st.mo.t) hl (r.ex (hid_less fun a ha => by
    rcases List.mem_cons.mp ha with rfl | ha
    · exact List.mem_cons_self
    · exact List.mem_cons_of_mem _ (List.mem_append_right _ ha)))
def EvTM (K : Cfg) (t : TT) (ρ : Env) (p : Addr) (ns : List Int) (b : Bool) (P : List Int → Prop) : Prop := ∀ (M : List Addr) (σ : L2.St) (H : Hp), MOk K M H → EOk K M H ρ σ → p ∈ M → H p = some (.lst (ns.map V.int)) → ∀ Q : Bool → Hp → Prop,
  (∀ H2 ns', P ns' → ExM K p H H2 → H2 p = some (.lst (ns'.map V.int)) → Q b H2) → t σ H Q
theorem e_ifM {t : TT} {u : TS} {i : Nat} (h : ρ[i]? = some (.own p (ns.map D.int))) (ht : EvTM K t ρ p ns false P) (k : ∀ ns', P ns' → Hold K B M (ρ.set i (.own p (ns'.map D.int))) De.nx) : Hold K B M ρ (tIfS t u tNext De) := fun B' b σ H st =>
  ht _ σ H st.mok st.ev (List.mem_append_left _ (own_mem h (by simp [Sl.adr]))) (st.ints h) _ fun H2 ns' pd x2 q2 => by
    show De.nx σ H2
    exact k ns' pd B' b σ H2 (st.exM h x2 q2)
def onlyDat : Sl → Sl
  | .dat d => .dat d
  | .fix _ d => .dat d
  | _ => .no
theorem EOk.dats {N : List Addr} {H H2 : Hp} {σ : L2.St} (h : EOk K N H ρ σ) (e : ExM K p H H2) (m : p ∈ N) : EOk K N H2 (ρ.map onlyDat) σ := by
  have go : ∀ {ρ : Env} {σ : L2.St}, Paired (SlOk K N H) ρ σ → Paired (SlOk K N H2) (ρ.map onlyDat) σ := by
    intro ρ σ pr
    induction pr with
    | nil => exact .nil
    | @cons s o l k r t ih =>
      refine .cons ?_ ih
      cases s with
      | dat d => obtain ⟨v, e1, r⟩ := r; exact ⟨v, e1, r.ex (e.hid m)⟩
      | fix v d => exact ⟨v, r.1, r.2.ex (e.hid m)⟩
      | _ => trivial
  exact go h
/-- all([.. for x in (a, b, c)]), the tuple changes the list; every answer is True -/
theorem em_allTup {tt te : TE} {vs ix : List Nat} {g : TG} {P' : D → List Int → Prop} (ht : EvM K tt ρ p ns P') (hP : ∀ d ns', P' d ns' → ∃ L : List D, d = .tup L ∧ L.length ≤ 100000 ∧ P ns' ∧ ∀ x ∈ L, ∃ ρ', Bnd K g x (wipeE (ρ.map onlyDat) vs) ρ' ix ∧ EvD K te ρ' (.bl true)) (hix : ∀ i ∈ ix, i ∈ vs) :
    EvTM K (L2.tNot (tB (tCB (rAll K) (tCons (tLc (iTup K tt) g tYes te vs) tNil)))) ρ p ns false P := fun M σ H m e hp hq Q q =>
  ht M σ H m e hp hq _ fun v H2 d ns' pd x2 q2 r2 => by
    obtain ⟨L, rfl, hl, hP2, hb⟩ := hP d ns' pd
    cases r2 with
    | @tup a0 ws0 _ h1 h2 =>
      have m2 : MOk K M H2 := m.exM x2
      refine ⟨_, rfl, ⟨_, st_of (hid_some h1).2⟩, ?_⟩
      refine (show tLc (fun _ H' R => R (Itt K a0) H') g tYes te vs σ H2 (fun x H1 => rAll K [x] H1 fun x H1 => ∃ c, x = V.bl c ∧ Q (!c) H1) from ?_)
      refine lc_at (K := K) (wi := fun _ H' R => R (Itt K a0) H') (enc := id) (fun _ => true) (fun _ => .bl true) hl (fun x hx => ?_) hix m2 (e.dats x2 hp) (fun v' H3 e3 r3 => ?_) fun R r => r _ H2 Ex.refl (by rw [List.map_id]; exact jok_tup (st_of (hid_some h1).2) h2)
      · obtain ⟨ρ', hb1, hb2⟩ := hb x hx
        exact ⟨ρ', hb1, et_yes, fun _ => hb2⟩
      · rw [List.filter_eq_self.mpr fun _ _ => rfl] at r3
        cases r3 with
        | @lst a ws _ h4 h5 =>
          have e5 : ws = (L.map fun _ => true).map V.bl := RpA.bls (by rw [List.map_map]; exact h5)
          refine ⟨a, L.map fun _ => true, rfl, sq_of (by rw [← e5]; exact (hid_some h4).2), _, rfl, ?_⟩
          rw [show (L.map fun _ => true).all id = true by simp]
          exact q H3 ns' hP2 (x2.trans e3.m) (e3.kp.lst q2)
end
end Dl
/-! d.pop(t), d with tuple keys, t there. -/
namespace Dl
open PySem PySem.Spec PyProof.Rows L2 LamX
section
open PySem.SeqAt PySem.MeetsSeq DT
variable {Kk : Type} [DecidableEq Kk] {prog : Program} {w : World} {knd : HeapKind prog w Kk} {k : Kk}
theorem pop_there {d b : Addr} (hd : (d == sysModules) = false) :
    MeetsIn prog w (Builtin.«dict.pop» ⟨[.ref d, .ref b], []⟩) (fun A R s => ∃ xs p, knd.room A.in1 ∧ knd.is s.heap k b ∧ s.heap.DictOfH knd d xs ∧ xs.length ≤ sizeLine ∧ atKey xs k = some p ∧
      ∀ h' tk, h'.DictOfH knd d (dropH xs k) → Heap.SameBut d s.heap h' → R (.ok (.ret p.2)) { s with heap := h', toks := tk }) :=
  .of_wp fun A R s ⟨xs, p, room, isKey, hm, small, found, k2⟩ => by
    obtain ⟨o, es, ep, ho, hc, hdat, he, his, hn⟩ := id hm
    have hes : es.size = xs.length := size_of_entries he
    have notPart : (keyPart (Value.ref b)).isSome = false := rfl
    unfold Builtin.«dict.pop»
    refine wpAny_bind ?_
    unfold Builtin.Dict.keyAndDefault
    refine wpAny_bind (wpAny_notOrdered_dict hm.typeIs ?_)
    show wpAny _ _ (pure (d, Value.ref b, none)) _ _ s
    refine wpAny_pure ?_
    simp only [notPart, Bool.false_eq_true, if_false]
    refine wpAny_bind (wpAny_dictEntries ho hdat (wpAny_bind (wpAny_pure ?_)))
    cases hem : es.isEmpty with
    | true =>
      have h0 : xs = [] := by
        have z : es.size = 0 := by simpa using hem
        exact List.length_eq_zero_iff.mp (by omega)
      rw [h0] at found
      cases found
    | false =>
      simp only [Bool.false_eq_true, if_false]
      refine wpAny_bind (takeH room isKey hm small (fun hno => ?_) fun p' e hp hev h' hm' hs' => ?_)
      · rw [hno] at found; cases found
      · rw [hp] at found
        cases found
        simp only [Option.isNone_some, Bool.false_eq_true, if_false]
        exact wpAny_bind (wpAny_letGo (wpAny_pure ⟨e.val, rfl, by rw [hev]; exact k2 h' _ hm' hs'⟩))
end
section
open L2.DX
variable {X : Cx}
def rPopT1 : V → List V → Hp → VK → Prop := fun x xs H Q => ∃ (a : Addr) (kvs : List (List L2.Key × V)) (k : List L2.Key) (b : Addr) (v : V), x = .ref a ∧ xs = [.ref b] ∧ H a = some (.dT kvs) ∧ H b = some (.tup (k.map kV)) ∧ valV kvs k = some v ∧ Q v (upd H a (.dT (dropK kvs k)))
theorem mt_popT1 (hu : X.A.units + 1 < cLine) : MtR X "dict.pop" rPopT1 := by
  intro pins s σ H x xs v us Q I rx rxs h
  obtain ⟨a, kvs, k, b, v0, rfl, rfl, atA, atB, hv, q1⟩ := h
  cases rx
  obtain ⟨u1, rfl, r1⟩ := vals1 rxs
  obtain rfl : u1 = Value.ref b := r1
  obtain ⟨z, hd, xs', rel, dd⟩ := dt_of I.hok atA
  have hz : xs'.length ≤ sizeLine := by rw [← Paired.length rel]; exact z
  have r := rel.val k
  rw [hv] at r
  obtain ⟨w0, hw, rv⟩ := RelO.some_of (v := v0) (o := (atKey xs' k).map (·.2)) r
  obtain ⟨pp, hp, hp2⟩ := Option.map_eq_some_iff.mp hw
  refine call_meetsIn PySem.F.slot_dict_pop dd.typeIs PySem.F.entry_dict_pop (PySem.F.args_dict_pop_2 _ _) (pop_there (knd := tupleKind (mixKind X.prog X.w)) (k := k) hd)
    ⟨xs', pp, tupleKind_room_in1 hu, key_of I.hok atB, dd, hz, hp, fun h' tk dd' hs => ?_⟩
  obtain ⟨o, es, ep, hq, h2, h3, h4, _, h5⟩ := dd'
  have I2 : Inv X pins σ (upd H a (.dT (dropK kvs k))) { s with heap := h', toks := tk } :=
    d_write I (by rw [atA]; exact True.intro) hs ⟨o, hq⟩ ⟨Nat.le_trans (dropK_le kvs k) z, hd, _, (KT_drop k rel).keeps (fun c ys ec => (by rw [upd_ne (ne_of ec atA (fun z => nomatch z))]; exact ec)), o, es, ep, hq, h2, h3, h4, h5⟩
  show EP X pins σ Q pp.2 _
  rw [hp2]
  exact ⟨v0, _, I2, rv, q1⟩
end
end Dl
/-! A key taken out of a dict of ours; membership in a tuple of ints; four names at once. -/
namespace Dl
open PySem PySem.Spec PyProof.Rows L2 LamX
variable {K : Cfg}
theorem drop_zip {α : Type} [DecidableEq α] {κ : α → List Key} {f : α → D} {H : Hp} {p : α} : ∀ {L : List α} {vs : List V}, (∀ x ∈ L, κ x = κ p → x = p) → L.length = vs.length → RpA K H vs (L.map f) →
    ∃ vs', dropK ((L.map κ).zip vs) (κ p) = ((L.filter fun x => decide (x ≠ p)).map κ).zip vs' ∧ (L.filter fun x => decide (x ≠ p)).length = vs'.length ∧ RpA K H vs' ((L.filter fun x => decide (x ≠ p)).map f)
  | [], vs, _, _, r => by
    cases r
    exact ⟨[], rfl, rfl, .nil⟩
  | x :: L, vs, inj, hl, r => by
    cases r with
    | @cons v vs _ _ r1 r2 =>
      obtain ⟨ws, h1, h2, h3⟩ := drop_zip (L := L) (vs := vs) (fun y hy => inj y (List.mem_cons_of_mem _ hy)) (by simpa using hl) r2
      by_cases e : x = p
      · refine ⟨ws, ?_, ?_, ?_⟩
        · rw [List.map_cons, List.zip_cons_cons, List.filter_cons, if_neg (by simp [e]), ← h1]
          exact List.filter_cons_of_neg (by simp [e])
        · rw [List.filter_cons, if_neg (by simp [e])]; exact h2
        · rw [List.filter_cons, if_neg (by simp [e])]; exact h3
      · have ne : κ x ≠ κ p := fun z => e (inj x List.mem_cons_self z)
        refine ⟨v :: ws, ?_, ?_, ?_⟩
        · rw [List.map_cons, List.zip_cons_cons, List.filter_cons, if_pos (by simp [e]), List.map_cons, List.zip_cons_cons, ← h1]
          exact List.filter_cons_of_pos (by simpa using ne)
        · rw [List.filter_cons, if_pos (by simp [e])]; exact congrArg (· + 1) h2
        · rw [List.filter_cons, if_pos (by simp [e])]; exact .cons r1 h3
theorem valV_at {α : Type} {κ : α → List Key} {f : α → D} {H : Hp} {p : α} : ∀ {L : List α} {vs : List V}, p ∈ L → RpA K H vs (L.map f) → ∃ v, valV ((L.map κ).zip vs) (κ p) = some v
  | x :: L, vs, hp, r => by
    cases r with
    | @cons v vs _ _ r1 r2 =>
      unfold valV
      rw [List.map_cons, List.zip_cons_cons, List.find?_cons]
      by_cases e : κ x = κ p
      · rw [decide_eq_true e]; exact ⟨v, rfl⟩
      · rw [decide_eq_false e]
        rcases List.mem_cons.mp hp with rfl | hp
        · exact absurd rfl e
        · exact valV_at hp r2
section
variable {B : Hp} {M : List Addr} {ρ : Env} {De : Ends} {ta tb te : TE}
theorem h_popT {α : Type} [DecidableEq α] {κ : α → List Key} {f : α → D} {L : List α} {p : α} {i : Nat} {a : Addr} (h : ρ[i]? = some (.ownT a (L.map κ) (L.map f))) (hk : TrT te K ρ (κ p)) (hp : p ∈ L) (inj : ∀ x ∈ L, κ x = κ p → x = p)
    (kk : Hold K B M (ρ.set i (.ownT a ((L.filter fun x => decide (x ≠ p)).map κ) ((L.filter fun x => decide (x ≠ p)).map f))) De.nx) : Hold K B M ρ (tDrop (tBM K "dict" rPopT1 (tVar i) (tCons te tNil)) De) := fun B' b σ H st => by
  obtain ⟨o, e2, rfl, _, vs, q1, l, r2⟩ := st.ev.get h
  refine ⟨_, e2, .inr (.inr (.inl ⟨rfl, .inr ⟨_, q1⟩⟩)), hk _ σ H st.mok st.ev _ fun c H2 e3 hc => ?_⟩
  have st2 := st.grow e3
  have q2 : H2 a = some (.dT ((L.map κ).zip vs)) := e3.kp.dT q1
  have am : a ∈ owns ρ ++ M := List.mem_append_left _ (own_mem h (by simp [Sl.adr]))
  have r3 := r2.ex (hid_ex e3)
  obtain ⟨v, hv⟩ := valV_at (κ := κ) hp r3
  obtain ⟨ws, h1, h2, h3⟩ := drop_zip (κ := κ) (p := p) inj (by rw [r3.len, List.length_map]) r3
  refine ⟨a, _, κ p, c, v, rfl, rfl, q2, hc, hv, kk B' b σ _ (st2.mut q2 True.intro h rfl rfl ?_)⟩
  rw [e2]
  exact ⟨rfl, am, ws, by rw [upd_same, h1], by rw [List.length_map]; exact h2, h3.ex (hid_upd am)⟩
theorem ev_inT {r : R2} {x : Int} {ns : List Int} (hr : r = rIn K false) (ha : EvD K ta ρ (.int x)) (hb : EvD K tb ρ (.tup (ns.map D.int))) : EvD K (tOp r ta tb) ρ (.bl (decide (x ∈ ns))) := fun M σ H m e Q q =>
  ha M σ H m e _ fun v H1 e1 r1 => hb M σ H1 (m.ex e1) (e.ex e1) _ fun w H2 e2 r2 => by
    cases r1
    cases r2 with
    | @tup a vs _ h1 h2 =>
      have ev := RpA.ints h2
      subst ev
      rw [hr]
      refine ⟨a, _, rfl, .inr (st_of (hid_some h1).2), rfl, by simp [flatV], ?_⟩
      have en : inV (.int x) (ns.map V.int) = decide (x ∈ ns) := by
        rw [Bool.eq_iff_iff]
        simp [inV, eqV]
      show Q (.bl (inV (.int x) (ns.map V.int))) H2
      rw [en]
      exact q _ H2 (e1.trans e2) (.bl _)
end
end Dl
/-! list(range(a, b, c)). -/
namespace Dl
open PySem PySem.Spec PyProof.Rows L2 LamX
variable {K : Cfg}
/-- the ints a, a + c, .. of which there are n -/
def stepV (a c : Int) (n : Nat) : List V := (List.range n).map fun i => V.int (a + (i : Nat) * c)
def tLstRg3 (ta : TA) : TE := fun σ H Q => ta σ H fun vs H1 => ∃ (i j c : Int) (n : Nat), vs = [.int i, .int j, .int c] ∧ RgC i j c n ∧ n ≤ 2 ^ 24 ∧ ∀ q, H1 q = none → Q (.ref q) (upd H1 q (.lst (stepV i c n)))
section
variable {X : Cx} {ea eb ec : Expr} {ta tb tc : TE} {p p2 pos rpos : Pos}
theorem vals_step {a c : Int} {n : Nat} {acc : Array Value} (h : ItemsOf (fun i v => ∃ t, v = .int (a + i * c) t) acc n) : Vals (stepV a c n) acc.toList := by
  have e : acc.toList.length = n := by rw [Array.length_toList]; exact h.1
  unfold stepV
  rw [← e]
  refine vals_of_get acc.toList _ fun j u hj => ?_
  obtain ⟨t, rfl⟩ := h.2 j u (by rw [← hj, Array.getElem?_toList])
  exact ⟨t, rfl⟩
theorem pe_listRg3 {t : TA} (hc : X.calm = true) (hg : Gl X "range") (hm : X.mg "range" = none) (hgl : Gl X "list") (hml : X.mg "list" = none) (ha : PA X [ea, eb, ec] t)
    (na : starEach [ea, eb, ec] X.env = (false, eval ea X.env) :: starEach [eb, ec] X.env := by rfl) (hpl : (backTo rpos (starEach [eb, ec] X.env)).any (·.1) = false := by rfl)
    (nl : starEach [.Call (.Name "range" p) [ea, eb, ec] [] rpos] X.env = (false, eval (.Call (.Name "range" p) [ea, eb, ec] [] rpos) X.env) :: starEach [] X.env := by rfl) :
    PE X (.Call (.Name "list" p2) [.Call (.Name "range" p) [ea, eb, ec] [] rpos] [] pos) (tLstRg3 t) := by
  refine ⟨fun pins s σ H Q I h => ?_⟩
  refine Call_ (ld_blt I hgl hml boot_list (PyProof.Rows.callWith_type1 (args_cons (Call_ (ld_blt I hg hm boot_range (PyProof.Rows.callWith_type1 (thn (ha.run rpos pins s σ H _ I h) fun us s1 ⟨vs, H1, I1, r1, q1⟩ => ?_) na hpl))) nl) nl))
  obtain ⟨i, j, k, n, e, ⟨c0, c1, c2, c3⟩, hn, q⟩ := q1
  subst e
  cases r1 with
  | cons r rr =>
    cases rr with
    | cons r' rr =>
      cases rr with
      | cons r'' rr =>
        cases rr
        obtain ⟨t1, rfl⟩ := r
        obtain ⟨t2, rfl⟩ := r'
        obtain ⟨t3, rfl⟩ := r''
        refine call_range_3 c0 ?_ (.inl (PyProof.noPylong_small c1))
        have I2 : Inv X pins σ H1 { s1 with heap := s1.heap.push { cls := .type "range", data := .fields #[.int i t1, .int j t2, .int k t3] } } := I1.kept (t' := s1.toks) fun b o e => Heap.get?_push_of_some _ e
        refine args_nil ?_
        refine call_list_range (n := n) (I2.ok.hd hc) (IsRange.new ..) c2 c3 hn fun h' tk acc c' hk e' hi => ?_
        refine ⟨.ref _, upd H1 _ (.lst (stepV i k n)), I2.laid hk (Nat.le_refl _) (show ObjOk X.prog X.w _ _ _ (.lst (stepV i k n)) from ⟨?_, acc.toList, c', vals_step hi, ?_⟩), rfl, q _ (I2.hok.fresh (Nat.le_refl _))⟩
        · unfold stepV
          rw [List.length_map, List.length_range, sizeLine_eq]; omega
        · rw [Array.toArray_toList]; exact e'
end
/-- b, b - 1, .., 0 -/
theorem ev_listDown {ρ : Env} {t : TA} {b : Int} (h : EvA K t ρ [.int b, .int (-1), .int (-1)]) (h0 : -1 ≤ b) (h1 : b ≤ 100000) : EvD K (tLstRg3 t) ρ (.lst (((List.range (b + 1).toNat).map fun i : Nat => b - (i : Int)).map D.int)) := fun M σ H m e Q q =>
  h M σ H m e _ fun vs H1 e1 r => by
    have ev : vs = [b, -1, -1].map V.int := RpA.ints (ns := [b, -1, -1]) r
    subst ev
    have hc := RgC.neg (i := b) (j := -1) (by omega) (by omega) (by decide) (by decide)
    rw [show b - -1 = b + 1 by omega] at hc
    refine ⟨b, -1, -1, (b + 1).toNat, rfl, hc, by omega, ?_⟩
    refine new_lst (m.ex e1) e1 ?_ q
    have e2 : stepV b (-1) (b + 1).toNat = ((List.range (b + 1).toNat).map fun i : Nat => b - (i : Int)).map V.int := by
      unfold stepV
      rw [List.map_map]
      refine List.map_congr_left fun i _ => ?_
      show V.int (b + (i : Int) * (-1)) = V.int (b - (i : Int))
      congr 1
      omega
    rw [e2]
    exact RpA.of_ints _
end Dl
/-! Lists within lists that are new: results, slots. -/
namespace Dl
open PySem PySem.Spec PyProof.Rows L2 LamX
variable {K : Cfg}
section
variable {H G H' G' : Hp}
mutual
theorem Own.rp (e : Kp G G') : ∀ (d : D) (v : V) (as : List Addr), (∀ a ∈ as, ∀ vs, H a = some (.lst vs) → G' a = some (.lst vs)) → Own K H G v d as → Rp K G' v d
  | d, v, as, h, o => by
    cases o with
    | dat n r => exact r.ex e
    | lst h1 h2 => exact .lst (h _ List.mem_cons_self _ h1) (OwnA.rp e _ _ _ (fun a ha => h a (List.mem_cons_of_mem _ ha)) h2)
theorem OwnA.rp (e : Kp G G') : ∀ (ds : List D) (vs : List V) (as : List Addr), (∀ a ∈ as, ∀ vs, H a = some (.lst vs) → G' a = some (.lst vs)) → OwnA K H G vs ds as → RpA K G' vs ds
  | [], _, _, _, o => by cases o; exact .nil
  | d :: ds, _, _, h, o => by
    cases o with
    | cons h1 h2 => exact .cons (Own.rp e d _ _ (fun a ha => h a (List.mem_append_left _ ha)) h1) (OwnA.rp e ds _ _ (fun a ha => h a (List.mem_append_right _ ha)) h2)
end
theorem ownA_dats : ∀ {vs : List V} {ds : List D}, (∀ d ∈ ds, d.isL = false) → RpA K G vs ds → OwnA K H G vs ds []
  | _, _, _, .nil => .nil
  | _, _, h, .cons r t => .cons (as := []) (bs := []) (.dat (h _ List.mem_cons_self) r) (ownA_dats (fun d hd => h d (List.mem_cons_of_mem _ hd)) t)
theorem OwnA.app : ∀ {vs ws : List V} {ds es : List D} {as bs : List Addr}, OwnA K H G vs ds as → OwnA K H G ws es bs → OwnA K H G (vs ++ ws) (ds ++ es) (as ++ bs)
  | _, _, _, _, _, _, .nil, h => h
  | _, _, _, _, _, _, .cons r t, h => by
    rw [List.append_assoc]
    exact .cons r (OwnA.app t h)
theorem OwnA.len : ∀ {vs : List V} {ds : List D} {as : List Addr}, OwnA K H G vs ds as → vs.length = ds.length
  | _, _, _, .nil => rfl
  | _, _, _, .cons _ t => congrArg (· + 1) (OwnA.len t)
theorem OwnA.split : ∀ {vs : List V} {ds : List D} {as : List Addr} {k : Nat} {x : D}, OwnA K H G vs ds as → ds[k]? = some x → ∃ v as1 ask as2, vs[k]? = some v ∧ as = as1 ++ (ask ++ as2) ∧ Own K H G v x ask ∧
    ∀ (H' G' : Hp) (x' : D), (∀ a ∈ as1 ++ as2, ∀ vs, H a = some (.lst vs) → H' a = some (.lst vs)) → Kp G G' → Own K H' G' v x' ask → OwnA K H' G' vs (ds.set k x') as
  | _, _, _, _, _, .nil, e => by simp at e
  | _, _, _, 0, x, .cons (as := as) (bs := bs) r t, e => by
    have e' := Option.some.inj e
    subst e'
    exact ⟨_, [], as, bs, rfl, rfl, r, fun H' G' x' h k o => .cons o (OwnA.mono k _ _ _ h t)⟩
  | _, _, _, k + 1, x, .cons (as := as) (bs := bs) r t, e => by
    obtain ⟨v, as1, ask, as2, h1, h2, h3, h4⟩ := OwnA.split (k := k) t (by simpa using e)
    subst h2
    refine ⟨v, as ++ as1, ask, as2, by simpa using h1, by simp, h3, fun H' G' x' h kk o => ?_⟩
    exact .cons (Own.mono kk _ _ _ (fun a ha => h a (by simp [ha])) r) (h4 H' G' x' (fun a ha => h a (by rcases List.mem_append.mp ha with ha | ha <;> simp [ha])) kk o)
end
/-! ### new results -/
def EvDp (K : Cfg) (t : TE) (ρ : Env) (d : D) : Prop := ∀ (M : List Addr) (σ : L2.St) (H : Hp), MOk K M H → EOk K M H ρ σ → ∀ Q : VK, (∀ v as H2, Ex K H H2 → (∀ a ∈ as, H a = none) → as.Nodup → Own K H2 (hid H2 (as ++ M)) v d as → Q v H2) → t σ H Q
def EvDpA (K : Cfg) (t : TA) (ρ : Env) (ds : List D) : Prop := ∀ (M : List Addr) (σ : L2.St) (H : Hp), MOk K M H → EOk K M H ρ σ → ∀ Q : List V → Hp → Prop, (∀ vs as H2, Ex K H H2 → (∀ a ∈ as, H a = none) → as.Nodup → OwnA K H2 (hid H2 (as ++ M)) vs ds as → Q vs H2) → t σ H Q
theorem hid_up {H H1 : Hp} {N as : List Addr} (e : Ex K H H1) (f : ∀ a ∈ as, H a = none) : Kp (hid H N) (hid H1 (as ++ N)) := fun a o q n => by
  obtain ⟨m, q⟩ := hid_some q
  rw [hid_out fun z => (List.mem_append.mp z).elim (fun z => by rw [f a z] at q; cases q) m]
  exact e.kp a o q n
theorem MOk.up {H H1 : Hp} {N as : List Addr} {d : D} {v : V} {G : Hp} (m : MOk K N H) (e : Ex K H H1) (o : Own K H1 G v d as) : MOk K (as ++ N) H1 := ⟨fun a h => by
  rcases List.mem_append.mp h with h | h
  · obtain ⟨vs, q⟩ := Own.at_ _ _ _ o a h
    rw [q]; simp
  · exact (m.ex e).m a h, (m.ex e).t⟩
section
variable {ρ : Env} {ta tb te : TE}
theorem EvDp.d {d : D} (h : EvDp K te ρ d) : EvD K te ρ d := fun M σ H m e Q q => h M σ H m e Q fun v as H2 e2 f nd o => q v H2 e2 (Own.rp (hid_less fun a ha => List.mem_append_right _ ha) d v as (fun a ha vs hv => by
  rw [hid_out fun z => m.m a z (f a ha)]; exact hv) o)
theorem EvDp.cast {d d' : D} (h : EvDp K te ρ d) (e : d = d') : EvDp K te ρ d' := by rw [← e]; exact h
theorem EvN.cast {xs ys : List D} (h : EvN K te ρ xs) (e : xs = ys) : EvN K te ρ ys := by rw [← e]; exact h
theorem EvN.dp {xs : List D} (h : EvN K te ρ xs) (hx : ∀ x ∈ xs, x.isL = false) : EvDp K te ρ (.lst xs) := fun M σ H m e Q q => h M σ H m e Q fun p vs H2 hp e2 hq r =>
  q _ [p] H2 e2 (fun a ha => by rw [List.mem_singleton.mp ha]; exact hp) (by simp) (.lst hq (ownA_dats hx r))
theorem EvD.dp {d : D} (h : EvD K te ρ d) (hx : d.isL = false) : EvDp K te ρ d := fun M σ H m e Q q => h M σ H m e Q fun v H2 e2 r => q v [] H2 e2 (fun a ha => nomatch ha) List.nodup_nil (.dat hx r)
theorem eda_nil : EvDpA K tNil ρ [] := fun M σ H m e Q q => q [] [] H Ex.refl (fun a ha => nomatch ha) List.nodup_nil .nil
theorem eda_cons {t : TA} {d : D} {ds : List D} (h : EvDp K te ρ d) (ht : EvDpA K t ρ ds) : EvDpA K (tCons te t) ρ (d :: ds) := fun M σ H m e Q q =>
  h M σ H m e _ fun v as H1 e1 f1 n1 o1 => ht (as ++ M) σ H1 (m.up e1 o1) (e.up e1 (hid_up e1 f1) fun a ha => List.mem_append_right _ ha) _ fun vs bs H2 e2 f2 n2 o2 => by
    have dj : ∀ a ∈ as, a ∉ bs := fun a ha hb => by
      obtain ⟨vs, q⟩ := Own.at_ _ _ _ o1 a ha
      rw [f2 a hb] at q; cases q
    refine q (v :: vs) (as ++ bs) H2 (e1.trans e2) (fun a ha => ?_) (List.nodup_append.mpr ⟨n1, n2, fun a ha b hb z => dj a ha (z ▸ hb)⟩) (.cons (o1.ups (fun a _ vs h => e2.kp.lst h) ?_) (OwnA.mono (hid_less fun a ha => by
      simp only [List.mem_append] at ha ⊢
      rcases ha with (ha | ha) | ha <;> simp [ha]) _ _ _ (fun _ _ _ h => h) o2))
    · rcases List.mem_append.mp ha with ha | ha
      · exact f1 a ha
      · exact e1.back (f2 a ha)
    · refine Kp.trans (hid_up e2 f2) (hid_less fun a ha => ?_)
      simp only [List.mem_append] at ha ⊢
      rcases ha with (ha | ha) | ha <;> simp [ha]
theorem ed_lst {t : TA} {ds : List D} (h : EvDpA K t ρ ds) (hl : ds.length ≤ 100000) : EvDp K (tLst t) ρ (.lst ds) := fun M σ H m e Q q =>
  h M σ H m e _ fun vs as H1 e1 f nd o => ⟨sz_of (by rw [o.len]; exact hl), fun p hp => by
    have np : p ∉ as := fun z => by
      obtain ⟨ws, hw⟩ := OwnA.at_ _ _ _ o p z
      rw [hp] at hw; cases hw
    refine q (.ref p) (p :: as) _ (e1.trans (Ex.new hp)) (fun a ha => ?_) (List.nodup_cons.mpr ⟨np, nd⟩) (.lst upd_same (OwnA.mono ?_ _ _ _ (fun a ha vs hv => ?_) o))
    · rcases List.mem_cons.mp ha with rfl | ha
      · exact e1.back hp
      · exact f a ha
    · exact hid_new2 hp
    · rw [upd_ne fun z : a = p => np (z ▸ ha)]; exact hv⟩
/-! calls -/
def spD (K : Cfg) (n : Nat) (G : List D → D → Prop) : Sp := fun vs H Q _ => ∃ (M : List Addr) (ds : List D) (d : D), vs.length = n ∧ MOk K M H ∧ RpA K (hid H M) vs ds ∧ G ds d ∧ ∀ v as H2, Ex K H H2 → (∀ a ∈ as, H a = none) → as.Nodup → Own K H2 (hid H2 (as ++ M)) v d as → Q v H2
theorem ed_call {d : D} {n : Nat} {G : List D → D → Prop} {dvs : List V} {E : XK} {t : TA} {ds es : List D} (h : EvA K t ρ ds) (hd : ∀ H, RpA K H dvs es) (hn : (ds ++ es).length = n) (hG : G (ds ++ es) d) : EvDp K (tCall (spD K n G) dvs E t) ρ d := fun M σ H m e Q q =>
  h M σ H m e _ fun vs H1 e1 r => ⟨M, ds ++ es, d, by rw [List.length_append, r.len, (hd H1).len, ← List.length_append]; exact hn, m.ex e1, r.app (hd _), hG, fun v as H2 e2 f nd o => q v as H2 (e1.trans e2) (fun a ha => e1.back (f a ha)) nd o⟩
theorem ed_call0 {d : D} {n : Nat} {G : List D → D → Prop} {E : XK} {t : TA} {ds : List D} (h : EvA K t ρ ds) (hn : ds.length = n) (hG : G ds d) : EvDp K (tCall (spD K n G) [] E t) ρ d :=
  ed_call (es := []) h (fun _ => .nil) (by rw [List.append_nil]; exact hn) (by rw [List.append_nil]; exact hG)
end
/-! ### statements -/
theorem adr_nd {s : Sl} : ∀ {ρ : Env} {i : Nat}, (owns ρ).Nodup → ρ[i]? = some s → s.adr.Nodup
  | [], i, _, h => by simp at h
  | t :: ρ, 0, nd, h => by
    have e : t = s := by simpa using h
    rw [owns_nil_cons] at nd
    rw [← e]; exact (List.nodup_append.mp nd).1
  | t :: ρ, i + 1, nd, h => by
    rw [owns_nil_cons] at nd
    exact adr_nd (List.nodup_append.mp nd).2.1 (by simpa using h)
section
variable {B : Hp} {M : List Addr} {ρ : Env} {De : Ends} {te ta tb : TE} {d : D} {u w : TS} {σ : L2.St} {H : Hp}
def RetsD (K : Cfg) (B : Hp) (M : List Addr) (De : Ends) (d : D) : Prop := ∀ v as H2, Ge B H2 → LamX.Tabs K.T H2 → (∀ a ∈ as, B a = none) → as.Nodup → Own K H2 (hid H2 (as ++ M)) v d as → De.rt v H2
theorem RetsD.mono {B B' : Hp} (h : RetsD K B M De d) (e : Ge B B') : RetsD K B' M De d := fun v as H2 x t f n o => h v as H2 (e.trans x) t (fun a ha => e.back (f a ha)) n o
theorem h_retDp {i : Nat} {as : List Addr} (h : ρ[i]? = some (.deep as d)) (k : RetsD K B M De d) : Hold K B M ρ (tRet (tVar i) De) := fun B' b σ H st => by
  obtain ⟨o, e1, v, rfl, hm, r⟩ := st.ev.get h
  exact ⟨v, e1, k v as H (b.trans st.ex) st.mo.t (fun a ha => b.back (st.fr a (own_mem h ha))) (adr_nd st.nd h) (r.ups (fun _ _ _ h => h) (hid_less fun a ha => by
    rcases List.mem_append.mp ha with ha | ha
    · exact hm a ha
    · exact List.mem_append_right _ ha))⟩
theorem h_retDE (h : EvDp K te ρ d) (k : RetsD K B M De d) : Hold K B M ρ (tRet te De) := fun B' b σ H st =>
  h _ σ H st.mok st.ev _ fun v as H1 e1 f nd o => k v as H1 ((b.trans st.ex).trans e1.ge) (e1.tb st.mo.t) (fun a ha => (b.trans st.ex).back (f a ha)) nd (o.ups (fun _ _ _ h => h) (hid_less fun a ha => by
    rcases List.mem_append.mp ha with ha | ha
    · exact List.mem_append_left _ ha
    · exact List.mem_append_right _ (List.mem_append_right _ ha)))
/-- a slot as data -/
def Sl.dd : Sl → Option D
  | .own _ xs => some (.lst xs)
  | .ownT _ ks xs => some (.dT ks xs)
  | .deep _ d => some d
  | .dat d => some d
  | .fix _ d => some d
  | _ => none
theorem SlOk.vw {N M' : List Addr} {s : Sl} {o : Option V} (h : SlOk K N H s o) (e : s.dd = some d) (sub : ∀ a ∈ M', a ∈ N) (n : ∀ a ∈ s.adr, a ∉ M') : ∃ v, o = some v ∧ Rp K (hid H M') v d := by
  cases s with
  | no => cases e
  | raw v => cases e
  | fix v d' => cases e; exact ⟨v, h.1, h.2.ex (hid_less sub)⟩
  | ownK a ks xs => cases e
  | ownG a R => cases e
  | dat d' => cases e; obtain ⟨v, e1, r⟩ := h; exact ⟨v, e1, r.ex (hid_less sub)⟩
  | own a xs => cases e; obtain ⟨e1, m, vs, q, r⟩ := h; exact ⟨_, e1, .lst (by rw [hid_out (n a (by simp [Sl.adr]))]; exact q) (r.ex (hid_less sub))⟩
  | ownT a ks xs => cases e; obtain ⟨e1, m, vs, q, l, r⟩ := h; exact ⟨_, e1, .dT (by rw [hid_out (n a (by simp [Sl.adr]))]; exact q) l (r.ex (hid_less sub))⟩
  | deep as d' =>
    cases e
    obtain ⟨v, e1, m, r⟩ := h
    exact ⟨v, e1, Own.rp (hid_less sub) _ _ _ (fun a ha vs hv => by rw [hid_out (n a ha)]; exact hv) r⟩
theorem StOk.vw {i : Nat} {s : Sl} (st : StOk K B M ρ σ H) (h : ρ[i]? = some s) (hd : s.dd = some d) : StOk K B M (ρ.set i (.dat d)) σ H := by
  obtain ⟨o, hσ, ho⟩ := st.ev.get h
  have at_ : ∀ (u : Sl) {j : Nat} {t : Sl}, (ρ.set i u)[j]? = some t → (j = i ∧ t = u) ∨ (j ≠ i ∧ ρ[j]? = some t) := fun u j t hj => by
    by_cases hji : j = i
    · subst hji
      rw [List.getElem?_set_self (List.getElem?_eq_some_iff.mp h).1] at hj
      exact .inl ⟨rfl, (Option.some.inj hj).symm⟩
    · rw [List.getElem?_set_ne (Ne.symm hji)] at hj
      exact .inr ⟨hji, hj⟩
  have nin : ∀ a ∈ s.adr, a ∉ owns (ρ.set i (.dat d)) := fun a ha z => by
    obtain ⟨t, ht, hat⟩ := mem_owns.mp z
    obtain ⟨j, hj⟩ := List.getElem?_of_mem ht
    rcases at_ _ hj with ⟨_, e⟩ | ⟨n, hj⟩
    · rw [e] at hat; simp [Sl.adr] at hat
    · exact owns_inj st.nd (Ne.symm n) h hj ha hat
  have sub : ∀ c ∈ owns (ρ.set i (.dat d)), c ∈ owns ρ := fun c hc => by
    rcases owns_set_sub hc with hc | hc
    · exact hc
    · simp [Sl.adr] at hc
  have sub2 : ∀ c ∈ owns (ρ.set i (.dat d)) ++ M, c ∈ owns ρ ++ M := fun c hc => by
    rcases List.mem_append.mp hc with hc | hc
    · exact List.mem_append_left _ (sub c hc)
    · exact List.mem_append_right _ hc
  have nM : ∀ a ∈ s.adr, a ∉ owns (ρ.set i (.dat d)) ++ M := fun a ha z => (List.mem_append.mp z).elim (nin a ha) (st.ap a (own_mem h ha))
  refine ⟨st.ex, fun c hc => st.fr c (sub c hc), owns_set_nd i st.nd List.nodup_nil (fun c hc => by simp [Sl.adr] at hc), fun c hc => st.ap c (sub c hc), st.mo, ?_⟩
  have hno : EOk K (owns ρ ++ M) H (ρ.set i .no) (σ.set i o) := st.ev.set trivial
  have step : EOk K (owns (ρ.set i (.dat d)) ++ M) H (ρ.set i .no) (σ.set i o) := by
    refine hno.less sub2 fun c hc => List.mem_append_left _ ?_
    obtain ⟨t, ht, hat⟩ := mem_owns.mp hc
    obtain ⟨j, hj⟩ := List.getElem?_of_mem ht
    rcases at_ _ hj with ⟨_, e⟩ | ⟨n, hj⟩
    · rw [e] at hat; simp [Sl.adr] at hat
    · refine mem_owns.mpr ⟨t, List.mem_of_getElem? (i := j) ?_, hat⟩
      rw [List.getElem?_set_ne (Ne.symm n)]
      exact hj
  have fin := step.set (i := i) (s := .dat d) (o := o) (ho.vw hd sub2 nM)
  rw [List.set_set, List.set_set, set_self hσ] at fin
  exact fin
theorem h_view (i : Nat) {s : Sl} {P : L2.St → Hp → Prop} (h : ρ[i]? = some s) (hd : s.dd = some d) (k : Hold K B M (ρ.set i (.dat d)) P) : Hold K B M ρ P := fun B' b σ H st => k B' b σ H (st.vw h hd)
/-- a test at which slot i is looked at as data -/
theorem q_ifU (i : Nat) {s : Sl} {t : TT} {b : Bool} (h : ρ[i]? = some s) (hd : s.dd = some d) (ht : EvT K t (ρ.set i (.dat d)) b) (h1 : b = true → Hold K B M ρ (u (De.to (w De)))) (h2 : b = false → Hold K B M ρ (w De)) : Hold K B M ρ (tSeq (tIfS t u tNext) w De) := fun B' x σ H st =>
  ht _ σ H (st.vw h hd).mok (st.vw h hd).ev _ fun H1 e1 => by
    cases b with
    | true =>
      show u (De.to (w De)) σ H1
      exact h1 rfl B' x σ H1 (st.grow e1)
    | false =>
      show w De σ H1
      exact h2 rfl B' x σ H1 (st.grow e1)
theorem e_ifU (i : Nat) {s : Sl} {t : TT} {b : Bool} (h : ρ[i]? = some s) (hd : s.dd = some d) (ht : EvT K t (ρ.set i (.dat d)) b) (h1 : b = true → Hold K B M ρ (u De)) (h2 : b = false → Hold K B M ρ De.nx) : Hold K B M ρ (tIfS t u tNext De) := fun B' x σ H st =>
  ht _ σ H (st.vw h hd).mok (st.vw h hd).ev _ fun H1 e1 => by
    cases b with
    | true =>
      show u De σ H1
      exact h1 rfl B' x σ H1 (st.grow e1)
    | false =>
      show De.nx σ H1
      exact h2 rfl B' x σ H1 (st.grow e1)
/-- stored -/
theorem h_setDp {i : Nat} (h : EvDp K te ρ d) (k : ∀ as, (∀ a ∈ as, B a = none) → Hold K B M (ρ.set i (.deep as d)) De.nx) : Hold K B M ρ (tAsg te (gName i) De) := fun B' b σ H st =>
  h _ σ H st.mok st.ev _ fun v as H1 e1 f nd o => by
    refine k as (fun a ha => (b.trans st.ex).back (f a ha)) B' b _ H1 ((st.grow e1).setG (s := .deep as d) (N := as ++ (owns ρ ++ M)) (fun a ha => st.ex.back (f a ha)) (fun a ha z => st.mo.m a z (f a ha)) (fun a ha z => (st.ev.owned a z).2 (f a ha)) nd
      (fun a ha => List.mem_append_right _ ha) (fun a ha => List.mem_append_left _ ha) ⟨v, rfl, fun a ha => List.mem_append_left _ ha, o⟩ (st.ev.up e1 (hid_up e1 f) fun a ha => List.mem_append_right _ ha))
theorem q_setDp {i : Nat} (h : EvDp K te ρ d) (k : ∀ as, (∀ a ∈ as, B a = none) → Hold K B M (ρ.set i (.deep as d)) (w De)) : Hold K B M ρ (tSeq (tAsg te (gName i)) w De) := h_setDp h k
theorem owns_swap {s s' : Sl} : ∀ {ρ : Env} {i : Nat}, ρ[i]? = some s → s'.adr = s.adr → owns (ρ.set i s') = owns ρ
  | [], i, h, _ => by simp at h
  | t :: ρ, 0, h, e => by
    have e' : t = s := by simpa using h
    show owns (s' :: ρ) = owns (t :: ρ)
    rw [owns_nil_cons, owns_nil_cons, e, e']
  | t :: ρ, i + 1, h, e => by
    show owns (t :: ρ.set i s') = owns (t :: ρ)
    rw [owns_nil_cons, owns_nil_cons, owns_swap (by simpa using h) e]
theorem StOk.swap {i : Nat} {s s' : Sl} (st : StOk K B M ρ σ H) (h : ρ[i]? = some s) (hs : s'.adr = s.adr) (r : ∀ o, SlOk K (owns ρ ++ M) H s o → SlOk K (owns ρ ++ M) H s' o) : StOk K B M (ρ.set i s') σ H := by
  have e := owns_swap h hs
  refine ⟨st.ex, by rw [e]; exact st.fr, by rw [e]; exact st.nd, by rw [e]; exact st.ap, st.mo, ?_⟩
  rw [e]
  obtain ⟨o, hσ, ho⟩ := st.ev.get h
  have := st.ev.set (i := i) (s := s') (o := o) (r o ho)
  rw [set_self hσ] at this
  exact this
/-- a list of ours as one that may hold lists of ours -/
theorem h_deepen (i : Nat) {a : Addr} {xs : List D} {P : L2.St → Hp → Prop} (h : ρ[i]? = some (.own a xs)) (hx : ∀ x ∈ xs, x.isL = false) (k : Hold K B M (ρ.set i (.deep [a] (.lst xs))) P) : Hold K B M ρ P := fun B' b σ H st =>
  k B' b σ H (st.swap h rfl fun o ho => by
    obtain ⟨e1, m, vs, q, r⟩ := ho
    exact ⟨_, e1, fun c hc => by rw [List.mem_singleton.mp hc]; exact m, .lst q (ownA_dats hx r)⟩)
theorem paired_get {α β : Type} {F : α → β → Prop} : ∀ {l : List α} {m : List β}, l.length = m.length → (∀ (i : Nat) (x : α) (y : β), l[i]? = some x → m[i]? = some y → F x y) → Paired F l m
  | [], [], _, _ => .nil
  | x :: l, y :: m, h, f => .cons (f 0 x y rfl rfl) (paired_get (by simpa using h) fun i a b ha hb => f (i + 1) a b (by simpa using ha) (by simpa using hb))
/-- a list of ours goes into another one -/
theorem h_appMove {i j : Nat} {as : List Addr} {ds : List D} {p : Addr} {xs : List D} (h : ρ[i]? = some (.deep as (.lst ds))) (hj : ρ[j]? = some (.own p xs)) (hij : i ≠ j) (hx : ∀ x ∈ xs, x.isL = false) (hl : ds.length < 100000)
    (k : Hold K B M ((ρ.set j .no).set i (.deep (as ++ [p]) (.lst (ds ++ [.lst xs])))) De.nx) : Hold K B M ρ (tDrop (tBM K "list" rAppend (tVar i) (tCons (tVar j) tNil)) De) := fun B' b σ H st => by
  obtain ⟨o, e1, v, rfl, hma, r⟩ := st.ev.get h
  obtain ⟨o2, e2, rfl, hp, ws, q2, r2⟩ := st.ev.get hj
  cases r with
  | dat n _ => cases n
  | @lst a vs _ as' q1 r1 =>
    refine ⟨_, e1, Or.inl ⟨rfl, vs, sq_of q1⟩, _, e2, a, vs, _, rfl, rfl, q1, sz_lt (by rw [r1.len]; exact hl), k B' b σ _ ?_⟩
    have hao : a ∈ owns ρ := own_mem h (by simp [Sl.adr])
    have hpo : p ∈ owns ρ := own_mem hj (by simp [Sl.adr])
    have hil : i < ρ.length := (List.getElem?_eq_some_iff.mp h).1
    have hjl : j < ρ.length := (List.getElem?_eq_some_iff.mp hj).1
    have nda := adr_nd st.nd h
    have npa : p ∉ a :: as' := fun z => owns_inj st.nd hij h hj z (by simp [Sl.adr])
    have nda' : ((a :: as') ++ [p]).Nodup := List.nodup_append.mpr ⟨nda, by simp, fun x hx y hy z => npa (by rw [List.mem_singleton.mp hy] at z; exact z ▸ hx)⟩
    have at_ : ∀ {m : Nat} {t : Sl}, ((ρ.set j .no).set i (.deep ((a :: as') ++ [p]) (.lst (ds ++ [.lst xs]))))[m]? = some t → (m = i ∧ t = .deep ((a :: as') ++ [p]) (.lst (ds ++ [.lst xs]))) ∨ (m = j ∧ t = .no) ∨ (m ≠ i ∧ m ≠ j ∧ ρ[m]? = some t) := fun {m t} hm => by
      by_cases h1 : m = i
      · subst h1
        rw [List.getElem?_set_self (by rw [List.length_set]; exact hil)] at hm
        exact .inl ⟨rfl, (Option.some.inj hm).symm⟩
      · rw [List.getElem?_set_ne (Ne.symm h1)] at hm
        by_cases h2 : m = j
        · subst h2
          rw [List.getElem?_set_self hjl] at hm
          exact .inr (.inl ⟨rfl, (Option.some.inj hm).symm⟩)
        · rw [List.getElem?_set_ne (Ne.symm h2)] at hm
          exact .inr (.inr ⟨h1, h2, hm⟩)
    have sub : ∀ c ∈ owns ((ρ.set j .no).set i (.deep ((a :: as') ++ [p]) (.lst (ds ++ [.lst xs])))), c ∈ owns ρ := fun c hc => by
      obtain ⟨t, ht, hct⟩ := mem_owns.mp hc
      obtain ⟨m, hm⟩ := List.getElem?_of_mem ht
      rcases at_ hm with ⟨_, e⟩ | ⟨_, e⟩ | ⟨_, _, e⟩
      · rw [e] at hct
        rcases List.mem_append.mp hct with hct | hct
        · exact own_mem h hct
        · rw [List.mem_singleton.mp hct]; exact hpo
      · rw [e] at hct; cases hct
      · exact own_mem e hct
    have nd : (owns ((ρ.set j .no).set i (.deep ((a :: as') ++ [p]) (.lst (ds ++ [.lst xs]))))).Nodup := owns_set_nd i (owns_set_nd j st.nd List.nodup_nil fun c hc => nomatch hc) nda' fun c hc m t hmi ht hct => by
      have hmj : m ≠ j := fun z => by
        subst z
        rw [List.getElem?_set_self hjl] at ht
        rw [← Option.some.inj ht] at hct
        cases hct
      rw [List.getElem?_set_ne (Ne.symm hmj)] at ht
      rcases List.mem_append.mp hc with hc | hc
      · exact owns_inj st.nd (Ne.symm hmi) h ht hc hct
      · rw [List.mem_singleton.mp hc] at hct
        exact owns_inj st.nd (Ne.symm hmj) hj ht (by simp [Sl.adr]) hct
    have aN : a ∈ owns ρ ++ M := List.mem_append_left _ hao
    have hk : Kp (hid H (owns ρ ++ M)) (hid (upd H a (.lst (vs ++ [.ref p]))) (owns ρ ++ M)) := hid_upd aN
    refine ⟨st.ex.mut (st.fr a hao), fun c hc => st.fr c (sub c hc), nd, fun c hc => st.ap c (sub c hc), st.mo.upd q1 True.intro, ?_⟩
    have ev1 : EOk K (owns ρ ++ M) (upd H a (.lst (vs ++ [.ref p]))) ((ρ.set j .no).set i (.deep ((a :: as') ++ [p]) (.lst (ds ++ [.lst xs])))) σ := by
      refine paired_get (by rw [List.length_set, List.length_set]; exact st.ev.length) fun m t y hm hy => ?_
      rcases at_ hm with ⟨rfl, rfl⟩ | ⟨_, rfl⟩ | ⟨h1, h2, e⟩
      · rw [e1] at hy
        cases hy
        refine ⟨_, rfl, fun c hc => ?_, .lst upd_same ?_⟩
        · rcases List.mem_append.mp hc with hc | hc
          · exact hma _ hc
          · rw [List.mem_singleton.mp hc]; exact hp
        · refine OwnA.app (OwnA.mono hk _ _ _ (fun c hc vs' hv => ?_) r1) (.cons (as := [p]) (bs := []) (.lst ?_ (ownA_dats hx (r2.ex hk))) .nil)
          · rw [upd_ne fun z : c = a => (List.nodup_cons.mp nda).1 (z ▸ hc)]; exact hv
          · rw [upd_ne fun z : p = a => npa (z ▸ List.mem_cons_self)]; exact q2
      · trivial
      · exact (paired_at st.ev e hy).mut aN fun z => owns_inj st.nd h1 e h z (by simp [Sl.adr])
    refine ev1.less (fun c hc => ?_) fun c hc => List.mem_append_left _ hc
    rcases List.mem_append.mp hc with hc | hc
    · exact List.mem_append_left _ (sub c hc)
    · exact List.mem_append_right _ hc
end
end Dl
/-! Told lists changed behind: None is appended to lists within a slot of kind deep. -/
namespace Dl
open PySem PySem.Spec PyProof.Rows L2 LamX
variable {K : Cfg}
inductive AtP (H : Hp) : V → List Nat → V → Prop
  | here (v : V) : AtP H v [] v
  | step {a : Addr} {vs : List V} {k : Nat} {v r : V} {p : List Nat} : H a = some (.lst vs) → vs[k]? = some v → AtP H v p r → AtP H (.ref a) (k :: p) r
theorem AtP.det {H : Hp} : ∀ {v x y : V} {p : List Nat}, AtP H v p x → AtP H v p y → x = y
  | _, _, _, _, .here _, h => by cases h; rfl
  | _, _, _, _, .step h1 h2 h3, h => by
    cases h with
    | step g1 g2 g3 =>
      rw [h1] at g1; cases g1
      rw [h2] at g2; cases g2
      exact h3.det g3
theorem AtP.snoc {H : Hp} {a : Addr} {vs : List V} {k : Nat} {x : V} (ha : H a = some (.lst vs)) (hk : vs[k]? = some x) : ∀ {v : V} {p : List Nat}, AtP H v p (.ref a) → AtP H v (p ++ [k]) x
  | _, _, .here _ => .step ha hk (.here _)
  | _, _, .step h1 h2 h3 => .step h1 h2 (AtP.snoc ha hk h3)
theorem AtP.mono {H H' : Hp} (e : Kp H H') : ∀ {v x : V} {p : List Nat}, AtP H v p x → AtP H' v p x
  | _, _, _, .here _ => .here _
  | _, _, _, .step h1 h2 h3 => .step (e.lst h1) h2 (AtP.mono e h3)
/-- a list grows -/
theorem AtP.grow {H : Hp} {r : Addr} {ws us : List V} (hr : H r = some (.lst ws)) : ∀ {v x : V} {p : List Nat}, AtP H v p x → AtP (upd H r (.lst (ws ++ us))) v p x
  | _, _, _, .here _ => .here _
  | _, _, _, .step (a := a) (vs := vs) (k := k) h1 h2 h3 => by
    by_cases e : a = r
    · subst e
      rw [hr] at h1; cases h1
      refine .step upd_same ?_ (AtP.grow hr h3)
      rw [List.getElem?_append_left (List.getElem?_eq_some_iff.mp h2).1]; exact h2
    · exact .step (by rw [upd_ne e]; exact h1) h2 (AtP.grow hr h3)
def D.at : List Nat → D → Option D
  | [], d => some d
  | k :: p, .lst xs => match xs[k]? with
    | some x => D.at p x
    | none => none
  | _ :: _, _ => none
/-- c appended to the list at a place -/
def D.ap (c : D) : List Nat → D → D
  | [], .lst xs => .lst (xs ++ [c])
  | k :: p, .lst xs => match xs[k]? with
    | some x => .lst (xs.set k (D.ap c p x))
    | none => .lst xs
  | _, d => d
theorem D.at_step {k : Nat} {p : List Nat} {xs : List D} {x : D} (h : xs[k]? = some x) : D.at (k :: p) (.lst xs) = D.at p x := by
  show (match xs[k]? with | some x => D.at p x | none => none) = _
  rw [h]
theorem D.at_of {k : Nat} {p : List Nat} {d y : D} (h : D.at (k :: p) d = some y) : ∃ xs x, d = .lst xs ∧ xs[k]? = some x ∧ D.at p x = some y := by
  cases d with
  | lst xs =>
    cases e : xs[k]? with
    | none =>
      have h' : (match xs[k]? with | some x => D.at p x | none => none) = some y := h
      rw [e] at h'; cases h'
    | some x => exact ⟨xs, x, rfl, e, by rw [← D.at_step e]; exact h⟩
  | _ => cases h
theorem D.ap_step {c : D} {k : Nat} {p : List Nat} {xs : List D} {x : D} (h : xs[k]? = some x) : D.ap c (k :: p) (.lst xs) = .lst (xs.set k (D.ap c p x)) := by
  show (match xs[k]? with | some x => D.lst (xs.set k (D.ap c p x)) | none => .lst xs) = _
  rw [h]
theorem D.at_ap {c : D} : ∀ {p q : List Nat} {d : D} {xs ys : List D}, D.at p d = some (.lst xs) → D.at q d = some (.lst ys) → ∃ ys', D.at q (D.ap c p d) = some (.lst ys') ∧ ys'.length ≤ ys.length + 1
  | [], [], d, xs, ys, hp, hq => by
    cases Option.some.inj hp
    cases Option.some.inj hq
    exact ⟨xs ++ [c], rfl, by simp⟩
  | [], k :: q, d, xs, ys, hp, hq => by
    cases Option.some.inj hp
    obtain ⟨zs, x, e, hx, hq⟩ := D.at_of hq
    cases e
    refine ⟨ys, ?_, by omega⟩
    show D.at (k :: q) (.lst (xs ++ [c])) = _
    rw [D.at_step (by rw [List.getElem?_append_left (List.getElem?_eq_some_iff.mp hx).1]; exact hx)]
    exact hq
  | k :: p, [], d, xs, ys, hp, hq => by
    obtain ⟨zs, x, rfl, hx, hp⟩ := D.at_of hp
    cases Option.some.inj hq
    rw [D.ap_step hx]
    exact ⟨_, rfl, by rw [List.length_set]; omega⟩
  | k :: p, j :: q, d, xs, ys, hp, hq => by
    obtain ⟨zs, x, rfl, hx, hp⟩ := D.at_of hp
    obtain ⟨zs', y, e, hy, hq⟩ := D.at_of hq
    cases e
    rw [D.ap_step hx]
    by_cases e : k = j
    · subst e
      rw [hx] at hy
      cases hy
      obtain ⟨ys', h1, h2⟩ := D.at_ap (c := c) hp hq
      exact ⟨ys', by rw [D.at_step (List.getElem?_set_self (List.getElem?_eq_some_iff.mp hx).1)]; exact h1, h2⟩
    · exact ⟨ys, by rw [D.at_step (by rw [List.getElem?_set_ne e]; exact hy)]; exact hq, by omega⟩
section
variable {H G : Hp}
/-- the list at a place: where it stands, and that one may append to it -/
theorem Own.app {c : D} {w : V} (hc : c.isL = false) : ∀ {p : List Nat} {d : D} {v : V} {as : List Addr} {xs : List D}, Own K H G v d as → as.Nodup → D.at p d = some (.lst xs) →
    ∃ r vs, AtP H v p (.ref r) ∧ r ∈ as ∧ H r = some (.lst vs) ∧ vs.length = xs.length ∧ ∀ G', Kp G G' → Rp K G' w c → Own K (upd H r (.lst (vs ++ [w]))) G' v (D.ap c p d) as
  | [], d, v, as, xs, o, nd, h => by
    cases Option.some.inj h
    cases o with
    | dat n _ => cases n
    | @lst a vs _ as' h1 h2 =>
      refine ⟨a, vs, .here _, List.mem_cons_self, h1, h2.len, fun G' k r => .lst upd_same ?_⟩
      have := OwnA.app (OwnA.mono (H' := upd H a (.lst (vs ++ [w]))) k _ _ _ (fun b hb ws hw => by rw [upd_ne fun z : b = a => (List.nodup_cons.mp nd).1 (z ▸ hb)]; exact hw) h2) (.cons (as := []) (bs := []) (.dat hc r) .nil)
      simpa using this
  | k :: p, d, v, as, xs, o, nd, h => by
    obtain ⟨zs, x, rfl, hx, h⟩ := D.at_of h
    cases o with
    | dat n _ => cases n
    | @lst a vs _ as' h1 h2 =>
      obtain ⟨u, as1, ask, as2, h3, rfl, h4, h5⟩ := h2.split hx
      have nd2 := (List.nodup_cons.mp nd).2
      have ndk : ask.Nodup := (List.nodup_append.mp (List.nodup_append.mp nd2).2.1).1
      obtain ⟨r, us, g1, g2, g3, g4, g5⟩ := Own.app hc (p := p) h4 ndk h
      have har : a ≠ r := fun z => (List.nodup_cons.mp nd).1 (by rw [z]; simp [g2])
      refine ⟨r, us, .step h1 h3 g1, by simp [g2], g3, g4, fun G' k r' => ?_⟩
      rw [D.ap_step hx]
      refine .lst (by rw [upd_ne har]; exact h1) (h5 _ G' _ (fun b hb ws hw => ?_) k (g5 G' k r'))
      rw [upd_ne]
      · exact hw
      · intro z
        subst z
        rcases List.mem_append.mp hb with hb | hb
        · exact (List.nodup_append.mp nd2).2.2 b hb b (by simp [g2]) rfl
        · exact (List.nodup_append.mp (List.nodup_append.mp nd2).2.1).2.2 b g2 b hb rfl
theorem Own.at {p : List Nat} {d : D} {v : V} {as : List Addr} {xs : List D} (o : Own K H G v d as) (nd : as.Nodup) (h : D.at p d = some (.lst xs)) : ∃ r vs, AtP H v p (.ref r) ∧ r ∈ as ∧ H r = some (.lst vs) ∧ vs.length = xs.length := by
  obtain ⟨r, vs, h1, h2, h3, h4, _⟩ := o.app (c := .non) (w := .non) rfl nd h
  exact ⟨r, vs, h1, h2, h3, h4⟩
end
/-! ### expressions that lead to places of slot i -/
/-- the place's list -/
def EvP (K : Cfg) (te : TE) (ρ : Env) (i : Nat) (as : List Addr) (d : D) (p : List Nat) : Prop := ∀ (M : List Addr) (σ : L2.St) (H : Hp) (v : V), MOk K M H → EOk K M H ρ σ → σ[i]? = some (some v) → Own K H (hid H M) v d as → as.Nodup → ∀ Q : VK, (∀ r H2, Ex K H H2 → AtP H2 v p (.ref r) → Q (.ref r) H2) → te σ H Q
/-- a new list of what stands at places -/
def EvPs (K : Cfg) (te : TE) (ρ : Env) (i : Nat) (as : List Addr) (d : D) (ps : List (List Nat)) : Prop := ∀ (M : List Addr) (σ : L2.St) (H : Hp) (v : V), MOk K M H → EOk K M H ρ σ → σ[i]? = some (some v) → Own K H (hid H M) v d as → as.Nodup → ∀ Q : VK,
  (∀ a vs H2, H a = none → Ex K H H2 → H2 a = some (.lst vs) → Paired (fun p x => AtP H2 v p x) ps vs → Q (.ref a) H2) → te σ H Q
section
variable {ρ : Env} {ta tb te : TE} {i : Nat} {as : List Addr} {d : D} {p : List Nat}
theorem ep_var (h : ∃ xs, d = .lst xs) : EvP K (tVar i) ρ i as d [] := fun M σ H v m e hv o nd Q q => by
  obtain ⟨xs, rfl⟩ := h
  cases o with
  | dat n _ => cases n
  | lst h1 h2 => exact ⟨_, hv, q _ H Ex.refl (.here _)⟩
theorem ep_ix {k : Nat} {zs xs : List D} (h : EvP K ta ρ i as d p) (hp : D.at p d = some (.lst zs)) (hk : zs[k]? = some (.lst xs)) : EvP K (tOp (rIxL K) ta (tC (.int (k : Int)))) ρ i as d (p ++ [k]) := fun M σ H v m e hv o nd Q q =>
  h M σ H v m e hv o nd _ fun r H1 e1 a1 => by
    have o1 := o.ups (H' := H1) (G' := hid H1 M) (fun a _ vs h => e1.kp.lst h) (hid_ex e1)
    have hpk : D.at (p ++ [k]) d = some (.lst xs) := by
      have key : ∀ (p : List Nat) (d : D), D.at p d = some (.lst zs) → D.at (p ++ [k]) d = some (.lst xs) := by
        intro p
        induction p with
        | nil => intro d h; cases Option.some.inj h; show D.at (k :: []) (.lst zs) = _; rw [D.at_step hk]; rfl
        | cons j p ih =>
          intro d h
          obtain ⟨ys, x, rfl, hx, h⟩ := D.at_of h
          show D.at (j :: (p ++ [k])) (.lst ys) = _
          rw [D.at_step hx]
          exact ih x h
      exact key p d hp
    obtain ⟨r1, vs1, b1, b2, b3, b4⟩ := o1.at nd hp
    obtain ⟨r2, vs2, c1, c2, c3, c4⟩ := o1.at nd hpk
    have ee := a1.det b1
    cases ee
    have hkl : k < zs.length := (List.getElem?_eq_some_iff.mp hk).1
    obtain ⟨x, hx⟩ : ∃ x, vs1[k]? = some x := ⟨_, List.getElem?_eq_getElem (by omega)⟩
    have e2 : x = .ref r2 := (AtP.snoc b3 hx b1).det c1
    subst e2
    refine ⟨r, vs1, (k : Int), .ref r2, rfl, rfl, sq_of b3, ?_, q _ H1 e1 c1⟩
    unfold atI ixN
    rw [if_pos (by omega), if_pos (by omega), Int.toNat_natCast]
    exact hx
def cutG {α : Type} (xs : List α) (lo hi : Option Int) : List α := (xs.drop (HT.sIx xs.length 0 lo)).take (HT.sIx xs.length xs.length hi - HT.sIx xs.length 0 lo)
theorem Paired.drop' {α β : Type} {F : α → β → Prop} : ∀ {l : List α} {m : List β} (n : Nat), Paired F l m → Paired F (l.drop n) (m.drop n)
  | _, _, 0, r => r
  | _, _, _ + 1, .nil => .nil
  | _, _, n + 1, .cons _ t => Paired.drop' n t
theorem Paired.take' {α β : Type} {F : α → β → Prop} : ∀ {l : List α} {m : List β} (n : Nat), Paired F l m → Paired F (l.take n) (m.take n)
  | _, _, 0, _ => .nil
  | _, _, _ + 1, .nil => .nil
  | _, _, n + 1, .cons r t => .cons r (Paired.take' n t)
theorem Paired.app' {α β : Type} {F : α → β → Prop} : ∀ {l l' : List α} {m m' : List β}, Paired F l m → Paired F l' m' → Paired F (l ++ l') (m ++ m')
  | _, _, _, _, .nil, h => h
  | _, _, _, _, .cons r t, h => .cons r (Paired.app' t h)
theorem Paired.rep {α β : Type} {F : α → β → Prop} {l : List α} {m : List β} (h : Paired F l m) : ∀ n : Nat, Paired F (List.replicate n l).flatten (List.replicate n m).flatten
  | 0 => .nil
  | n + 1 => by
    rw [List.replicate_succ, List.replicate_succ, List.flatten_cons, List.flatten_cons]
    exact Paired.app' h (Paired.rep h n)
/-- the places of a list's items -/
def idxP (p : List Nat) (n : Nat) : List (List Nat) := (List.range n).map fun k => p ++ [k]
theorem paired_idx {H : Hp} {v : V} {p : List Nat} {r : Addr} {vs : List V} {n : Nat} (h : AtP H v p (.ref r)) (hr : H r = some (.lst vs)) (hn : vs.length = n) : Paired (fun p x => AtP H v p x) (idxP p n) vs :=
  paired_get (by unfold idxP; rw [List.length_map, List.length_range, hn]) fun i q x hq hx => by
    unfold idxP at hq
    rw [List.getElem?_map, List.getElem?_range (by rw [← hn]; exact (List.getElem?_eq_some_iff.mp hx).1)] at hq
    rw [← Option.some.inj hq]
    exact AtP.snoc hr hx h
theorem eps_sl {zs : List D} {lo hi : Option Int} {tl th : TO} (h : EvP K ta ρ i as d p) (hp : D.at p d = some (.lst zs)) (hl : EvO K tl ρ lo) (hh : EvO K th ρ hi) : EvPs K (tSl (rSlL K) ta tl th) ρ i as d (cutG (idxP p zs.length) lo hi) := fun M σ H v m e hv o nd Q q =>
  h M σ H v m e hv o nd _ fun r H1 e1 a1 => hl M σ H1 (m.ex e1) (e.ex e1) _ fun H2 e2 => hh M σ H2 ((m.ex e1).ex e2) ((e.ex e1).ex e2) _ fun H3 e3 => by
    have e13 := (e1.trans e2).trans e3
    have o1 := o.ups (H' := H3) (G' := hid H3 M) (fun a _ vs h => e13.kp.lst h) (hid_ex e13)
    obtain ⟨r1, vs1, b1, b2, b3, b4⟩ := o1.at nd hp
    cases ((a1.mono e2.kp).mono e3.kp).det b1
    refine ⟨r, vs1, rfl, sq_of b3, fun l hl => q l _ _ (e13.back hl) (e13.trans (Ex.new hl)) upd_same ?_⟩
    have pr := paired_idx b1 b3 b4
    unfold cutV cutG
    rw [show (idxP p zs.length).length = vs1.length by unfold idxP; rw [List.length_map, List.length_range, b4]]
    exact Paired.imp' (Paired.take' _ (Paired.drop' _ pr)) fun p _ x h => h.mono (Kp.new hl)
theorem eps_rep {ps : List (List Nat)} {n : Nat} (h : EvPs K ta ρ i as d ps) (hb : EvD K tb ρ (.int n)) (hl : ps.length * n ≤ 100000) (hn : n ≤ 100000) : EvPs K (tOp rRep ta tb) ρ i as d (List.replicate n ps).flatten := fun M σ H v m e hv o nd Q q =>
  h M σ H v m e hv o nd _ fun a vs H1 ha e1 hq pr => hb M σ H1 (m.ex e1) (e.ex e1) _ fun w H2 e2 r2 => by
    cases r2
    have hlen : ps.length = vs.length := Paired.length pr
    exact ⟨a, n, vs, rfl, rfl, e2.kp.lst hq, by omega, by omega, sz_of (by rw [← hlen]; simpa using hl), fun l hl => by
      rw [show ((n : Int)).toNat = n by omega]
      exact q l _ _ (e1.back (e2.back hl)) ((e1.trans e2).trans (Ex.new hl)) upd_same (Paired.imp' (Paired.rep pr n) fun p _ x h => (h.mono e2.kp).mono (Kp.new hl))⟩
end
/-- a loop's list of places -/
def SrcP (K : Cfg) (wi : TI) (ρ : Env) (i : Nat) (as : List Addr) (d : D) (ps : List (List Nat)) : Prop := ∀ (M : List Addr) (σ : L2.St) (H : Hp) (v : V), MOk K M H → EOk K M H ρ σ → σ[i]? = some (some v) → Own K H (hid H M) v d as → as.Nodup → ∀ R : It → Hp → Prop,
  (∀ a vs H1, Ex K H H1 → H1 a = some (.lst vs) → Paired (fun p x => AtP H1 v p x) ps vs → (∀ p ∈ ps, ¬ AtP H1 v p (.ref a)) → R (Itl K a) H1) → wi σ H R
section
variable {ρ : Env} {ta tb te : TE} {i : Nat} {as : List Addr} {d : D} {p : List Nat}
theorem srcP_of {ps : List (List Nat)} (h : EvPs K te ρ i as d ps) (hl : ∀ p ∈ ps, ∃ xs, D.at p d = some (.lst xs)) : SrcP K (iList K te) ρ i as d ps := fun M σ H v m e hv o nd R q =>
  h M σ H v m e hv o nd _ fun a vs H1 ha e1 hq pr => ⟨a, rfl, ⟨vs, sq_of hq⟩, q a vs H1 e1 hq pr fun p hp z => by
    obtain ⟨xs, hx⟩ := hl p hp
    obtain ⟨r, us, h1, h2, h3, _⟩ := o.at nd hx
    cases (h1.mono e1.kp).det z
    rw [ha] at h3; cases h3⟩
theorem srcP_var {ds : List D} (hl : ∀ x ∈ ds, ∃ xs, x = .lst xs) : SrcP K (iList K (tVar i)) ρ i as (.lst ds) (idxP [] ds.length) := fun M σ H v m e hv o nd R q => by
  have o' := o
  cases o with
  | dat n _ => cases n
  | @lst a vs _ as' h1 h2 =>
    refine ⟨_, hv, a, rfl, ⟨vs, sq_of h1⟩, q a vs H Ex.refl h1 (paired_idx (.here _) h1 h2.len) fun p hp z => ?_⟩
    unfold idxP at hp
    obtain ⟨k, hk, rfl⟩ := List.mem_map.mp hp
    have hk := List.mem_range.mp hk
    obtain ⟨xs, hx⟩ := hl ds[k] (List.getElem_mem hk)
    have hk2 : ds[k]? = some (.lst xs) := by rw [List.getElem?_eq_getElem hk, hx]
    obtain ⟨u, as1, ask, as2, g1, rfl, g3, _⟩ := h2.split hk2
    cases z with
    | step z1 z2 z3 =>
      rw [h1] at z1; cases z1
      cases z3
      rw [g1] at z2; cases z2
      cases g3 with
      | dat n _ => cases n
      | lst _ _ => exact (List.nodup_cons.mp nd).1 (by simp)
end
/-! ### statements -/
section
variable {B : Hp} {M : List Addr} {ρ : Env} {De : Ends} {te : TE} {d d' : D} {w : TS} {σ : L2.St} {H : Hp}
theorem StOk.mutD {i : Nat} {as : List Addr} {r : Addr} {u : HO} {ws : List V} {v : V} (st : StOk K B M ρ σ H) (h : ρ[i]? = some (.deep as d)) (hr : r ∈ as) (hq : H r = some (.lst ws)) (hv : σ[i]? = some (some v))
    (o : Own K (upd H r u) (hid (upd H r u) (owns ρ ++ M)) v d' as) : StOk K B M (ρ.set i (.deep as d')) σ (upd H r u) := by
  have ro : r ∈ owns ρ := own_mem h hr
  have e : owns (ρ.set i (.deep as d')) = owns ρ := owns_swap h rfl
  refine ⟨st.ex.mut (st.fr r ro), by rw [e]; exact st.fr, by rw [e]; exact st.nd, by rw [e]; exact st.ap, st.mo.upd hq True.intro, ?_⟩
  rw [e]
  refine paired_get (by rw [List.length_set]; exact st.ev.length) fun m t y hm hy => ?_
  by_cases h1 : m = i
  · subst h1
    rw [List.getElem?_set_self (List.getElem?_eq_some_iff.mp h).1] at hm
    rw [hv] at hy
    cases hy
    rw [← Option.some.inj hm]
    exact ⟨v, rfl, fun a ha => List.mem_append_left _ (own_mem h ha), o⟩
  · rw [List.getElem?_set_ne (Ne.symm h1)] at hm
    exact (paired_at st.ev hm hy).mut (List.mem_append_left _ ro) fun z => owns_inj st.nd h1 hm h z hr
theorem StOk.deepAt {i : Nat} {as : List Addr} (st : StOk K B M ρ σ H) (h : ρ[i]? = some (.deep as d)) : ∃ v, σ[i]? = some (some v) ∧ Own K H (hid H (owns ρ ++ M)) v d as := by
  obtain ⟨o, e1, v, rfl, _, r⟩ := st.ev.get h
  exact ⟨v, e1, r⟩
/-- place.append(None) -/
theorem h_appP {i : Nat} {as : List Addr} {p : List Nat} {xs : List D} (h : ρ[i]? = some (.deep as d)) (he : EvP K te ρ i as d p) (hp : D.at p d = some (.lst xs)) (hl : xs.length < 100000) (k : Hold K B M (ρ.set i (.deep as (D.ap .non p d))) De.nx) :
    Hold K B M ρ (tDrop (tBM K "list" rAppend te (tCons (tC .non) tNil)) De) := fun B' b σ H st => by
  obtain ⟨v, e1, o⟩ := st.deepAt h
  refine he _ σ H v st.mok st.ev e1 o (adr_nd st.nd h) _ fun r H1 x1 a1 => ?_
  have st1 := st.grow x1
  obtain ⟨v', e1', o1⟩ := st1.deepAt h
  rw [e1] at e1'
  cases e1'
  obtain ⟨r', vs, b1, b2, b3, b4, b5⟩ := o1.app (c := .non) (w := .non) rfl (adr_nd st.nd h) hp
  cases a1.det b1
  refine ⟨Or.inl ⟨rfl, vs, sq_of b3⟩, r, vs, .non, rfl, rfl, b3, sz_lt (by omega), k B' b σ _ (st1.mutD h b2 b3 e1 (b5 _ (hid_upd (List.mem_append_left _ (own_mem h b2))) .non))⟩
theorem q_appP {i : Nat} {as : List Addr} {p : List Nat} {xs : List D} (h : ρ[i]? = some (.deep as d)) (he : EvP K te ρ i as d p) (hp : D.at p d = some (.lst xs)) (hl : xs.length < 100000) (k : Hold K B M (ρ.set i (.deep as (D.ap .non p d))) (w De)) :
    Hold K B M ρ (tSeq (tDrop (tBM K "list" rAppend te (tCons (tC .non) tNil))) w De) := h_appP h he hp hl k
def apAll (ps : List (List Nat)) (d : D) : D := ps.foldl (fun d p => D.ap .non p d) d
theorem apAll_at {d : D} {q : List Nat} {ys : List D} : ∀ (ps : List (List Nat)) (d : D) (ys : List D), (∀ p ∈ ps, ∃ xs, D.at p d = some (.lst xs)) → D.at q d = some (.lst ys) → ∃ ys', D.at q (apAll ps d) = some (.lst ys') ∧ ys'.length ≤ ys.length + ps.length
  | [], d, ys, _, h => ⟨ys, h, by simp⟩
  | p :: ps, d, ys, hp, h => by
    obtain ⟨xs, hx⟩ := hp p List.mem_cons_self
    obtain ⟨ys1, h1, h2⟩ := D.at_ap (c := .non) hx h
    obtain ⟨ys2, h3, h4⟩ := apAll_at (d := d) (q := q) (ys := ys) ps (D.ap .non p d) ys1 (fun p' hp' => by
      obtain ⟨xs', hx'⟩ := hp p' (List.mem_cons_of_mem _ hp')
      obtain ⟨z, hz, _⟩ := D.at_ap (c := .non) hx hx'
      exact ⟨z, hz⟩) h1
    exact ⟨ys2, h3, by rw [List.length_cons]; omega⟩
/-- for x in places: x.append(None) -/
theorem q_forP {i j : Nat} {as : List Addr} {ps : List (List Nat)} {wi : TI} (h : ρ[i]? = some (.deep as d)) (hj : j < ρ.length) (hij : j ≠ i) (hs : SrcP K wi ρ i as d ps) (hl : ∀ p ∈ ps, ∃ xs, D.at p d = some (.lst xs) ∧ xs.length + ps.length < 100000)
    (k : Hold K B M ((ρ.set j .no).set i (.deep as (apAll ps d))) (w De)) : Hold K B M ρ (tSeq (tFor wi (gName j) (tDrop (tBM K "list" rAppend (tVar j) (tCons (tC .non) tNil)))) w De) := fun B' b σ H st => by
  obtain ⟨v, e1, o⟩ := st.deepAt h
  refine hs _ σ H v st.mok st.ev e1 o (adr_nd st.nd h) _ fun a vs H1 x1 ha pr nop => ?_
  have st1 := st.grow x1
  have hil := (List.getElem?_eq_some_iff.mp h).1
  have hlen : ps.length = vs.length := Paired.length pr
  have slotI : ∀ z : D, ((ρ.set j .no).set i (.deep as z))[i]? = some (.deep as z) := fun z => List.getElem?_set_self (by rw [List.length_set]; exact hil)
  have st0 : StOk K B' M ((ρ.set j .no).set i (.deep as d)) σ H1 := by
    have e : (ρ.set j .no).set i (.deep as d) = ρ.set j .no := by
      have : (ρ.set j .no)[i]? = some (.deep as d) := by rw [List.getElem?_set_ne hij]; exact h
      obtain ⟨h1, h2⟩ := List.getElem?_eq_some_iff.mp this
      rw [← h2]
      exact List.set_getElem_self h1
    rw [e]
    have h2 := st1.set (i := j) (s := .no) (o := (σ[j]?).join) rfl trivial
    have : σ.set j (σ[j]?).join = σ := by
      refine List.ext_getElem? fun m => ?_
      by_cases z : m = j
      · subst z
        cases q : σ[m]? with
        | none => rw [List.getElem?_eq_none (by rw [List.length_set]; exact List.getElem?_eq_none_iff.mp q)]
        | some y => rw [List.getElem?_set_self (List.getElem?_eq_some_iff.mp q).1]; rfl
      · rw [List.getElem?_set_ne (Ne.symm z)]
    rw [this] at h2
    exact h2
  refine ⟨fun n m σ2 H2 => n + m = ps.length ∧ StOk K B' M ((ρ.set j .no).set i (.deep as (apAll (ps.take n) d))) σ2 H2 ∧ H2 a = some (.lst vs) ∧ σ2[i]? = some (some v) ∧ Paired (fun p x => AtP H2 v p x) ps vs ∧ ∀ p ∈ ps, ¬ AtP H2 v p (.ref a), ⟨ps.length, by omega, st0, ha, e1, pr, nop⟩, fun n m σ2 H2 hw => ?_⟩
  obtain ⟨hnm, s2, ha2, hv2, pr2, nop2⟩ := hw
  by_cases hlt : n < ps.length
  · obtain ⟨p, hp⟩ : ∃ p, ps[n]? = some p := ⟨_, List.getElem?_eq_getElem hlt⟩
    obtain ⟨x, hx⟩ : ∃ x, vs[n]? = some x := ⟨_, List.getElem?_eq_getElem (by omega)⟩
    have hpm := List.mem_of_getElem? hp
    obtain ⟨xs, hxs, hxl⟩ := hl p hpm
    obtain ⟨xs', hxs', hxl'⟩ := apAll_at (d := d) (q := p) (ys := xs) (ps.take n) d xs (fun q hq => by
      obtain ⟨z, hz, _⟩ := hl q (List.mem_of_mem_take hq)
      exact ⟨z, hz⟩) hxs
    obtain ⟨v', hv', o2⟩ := s2.deepAt (slotI _)
    rw [hv2] at hv'
    cases hv'
    obtain ⟨r, us, b1, b2, b3, b4, b5⟩ := o2.app (c := .non) (w := .non) rfl (adr_nd s2.nd (slotI _)) hxs'
    have ex : x = .ref r := (paired_at pr2 hp hx).det b1
    subst ex
    have har : a ≠ r := fun z => nop2 p hpm (z ▸ b1)
    refine .inr ⟨⟨vs, _, sq_of ha2, hx⟩, fun σ3 H3 => StOk K B' M ((ρ.set j .no).set i (.deep as (apAll (ps.take (n + 1)) d))) σ3 H3 ∧ H3 a = some (.lst vs) ∧ σ3[i]? = some (some v) ∧ Paired (fun p x => AtP H3 v p x) ps vs ∧ ∀ p ∈ ps, ¬ AtP H3 v p (.ref a), fun σ' H' hN => ⟨m - 1, by omega, by omega, hN⟩, fun y H' hy => ?_⟩
    obtain ⟨rfl, hy⟩ := hy
    have ey : some y = some (V.ref r) := by rw [← hx]; exact (hy vs (sq_of ha2)).symm
    cases ey
    have s3 := s2.set (i := j) (s := .no) (o := some (.ref r)) rfl trivial
    have e3 : ((ρ.set j .no).set i (.deep as (apAll (ps.take n) d))).set j .no = (ρ.set j .no).set i (.deep as (apAll (ps.take n) d)) := by
      rw [List.set_comm _ _ (Ne.symm hij), List.set_set]
    rw [e3] at s3
    have hv3 : (σ2.set j (some (.ref r)))[i]? = some (some v) := by rw [List.getElem?_set_ne hij]; exact hv2
    have hjσ : j < σ2.length := by
      have := s2.ev.length
      rw [List.length_set, List.length_set] at this
      omega
    refine ⟨.ref r, List.getElem?_set_self hjσ, Or.inl ⟨rfl, us, sq_of b3⟩, r, us, .non, rfl, rfl, b3, sz_lt (by rw [b4]; rw [List.length_take] at hxl'; omega), ?_⟩
    have ap_snoc : apAll (ps.take (n + 1)) d = D.ap .non p (apAll (ps.take n) d) := by
      unfold apAll
      rw [List.take_succ, hp, List.foldl_append]
      rfl
    have s4 := s3.mutD (u := .lst (us ++ [.non])) (slotI _) b2 b3 hv3 (b5 _ (hid_upd (List.mem_append_left _ (own_mem (slotI _) b2))) .non)
    rw [List.set_set] at s4
    refine ⟨by rw [ap_snoc]; exact s4, by rw [upd_ne har]; exact ha2, hv3, Paired.imp' pr2 fun q _ x h => h.grow b3, fun q hq z => ?_⟩
    obtain ⟨xq, hxq, _⟩ := hl q hq
    obtain ⟨xq', hxq', _⟩ := apAll_at (d := d) (q := q) (ys := xq) (ps.take n) d xq (fun q hq => by
      obtain ⟨z, hz, _⟩ := hl q (List.mem_of_mem_take hq)
      exact ⟨z, hz⟩) hxq
    obtain ⟨rq, uq, c1, _⟩ := o2.at (adr_nd s2.nd (slotI _)) hxq'
    cases (c1.grow (us := [.non]) b3).det z
    exact nop2 q hq c1
  · have hnl : n = ps.length := by omega
    subst hnl
    rw [List.take_length] at s2
    exact .inl ⟨⟨vs, sq_of ha2, by omega⟩, k B' b σ2 H2 s2⟩
end
end Dl
/-! New dicts; several names at once, of any kinds; comprehensions and sorted lists as new lists; tuple(list). -/
namespace Dl
open PySem PySem.Spec PyProof.Rows L2 LamX
variable {K : Cfg}
/-! ### new dicts with tuple keys -/
def EvNT (K : Cfg) (t : TE) (ρ : Env) (ks : List (List Key)) (xs : List D) : Prop := ∀ (M : List Addr) (σ : L2.St) (H : Hp), MOk K M H → EOk K M H ρ σ → ∀ Q : VK,
  (∀ p vs H2, H p = none → Ex K H H2 → H2 p = some (.dT (ks.zip vs)) → ks.length = vs.length → RpA K (hid H2 (p :: M)) vs xs → Q (.ref p) H2) → t σ H Q
theorem EvNT.d {te : TE} {ρ : Env} {ks : List (List Key)} {xs : List D} (h : EvNT K te ρ ks xs) : EvD K te ρ (.dT ks xs) := fun M σ H m e Q q => h M σ H m e Q fun p vs H2 hp e2 hq hl r =>
  q _ H2 e2 (.dT (by rw [hid_out (m.new hp)]; exact hq) hl (r.ex (hid_less fun a h => List.mem_cons_of_mem _ h)))
def spNT (K : Cfg) (n : Nat) (G : List D → List (List Key) → List D → Prop) : Sp := fun vs H Q _ => ∃ (M : List Addr) (ds : List D) (ks : List (List Key)) (xs : List D), vs.length = n ∧ MOk K M H ∧ RpA K (hid H M) vs ds ∧ G ds ks xs ∧
  ∀ p vs H2, H p = none → Ex K H H2 → H2 p = some (.dT (ks.zip vs)) → ks.length = vs.length → RpA K (hid H2 (p :: M)) vs xs → Q (.ref p) H2
theorem ent_call0 {n : Nat} {G : List D → List (List Key) → List D → Prop} {E : XK} {t : TA} {ρ : Env} {ds : List D} {ks : List (List Key)} {xs : List D} (h : EvA K t ρ ds) (hn : ds.length = n) (hG : G ds ks xs) : EvNT K (tCall (spNT K n G) [] E t) ρ ks xs := fun M σ H m e Q q =>
  h M σ H m e _ fun vs H1 e1 r => ⟨M, ds, ks, xs, by rw [List.append_nil, r.len]; exact hn, m.ex e1, by rw [List.append_nil]; exact r, hG, fun p vs H2 hp e2 hq hl r2 => q p vs H2 (e1.back hp) (e1.trans e2) hq hl r2⟩
/-! ### several names at once -/
inductive Kn where
  | dat (d : D) | new (xs : List D) | dp (d : D) | nt (ks : List (List Key)) (xs : List D) | g (Rf : Addr → HO → Hp → Prop)
inductive Sh : Kn → Sl → Prop
  | dat (d : D) : Sh (.dat d) (.dat d)
  | new (p : Addr) (xs : List D) : Sh (.new xs) (.own p xs)
  | dp (as : List Addr) (d : D) : Sh (.dp d) (.deep as d)
  | nt (p : Addr) (ks : List (List Key)) (xs : List D) : Sh (.nt ks xs) (.ownT p ks xs)
  | g (p : Addr) (Rf : Addr → HO → Hp → Prop) : Sh (.g Rf) (.ownG p (Rf p))
def EvK (K : Cfg) (t : TE) (ρ : Env) (k : Kn) : Prop := ∀ (M : List Addr) (σ : L2.St) (H : Hp), MOk K M H → EOk K M H ρ σ → ∀ Q : VK, (∀ s v H2, Sh k s → Ex K H H2 → (∀ a ∈ s.adr, H a = none) → s.adr.Nodup → SlOk K (s.adr ++ M) H2 s (some v) → Q v H2) → t σ H Q
def EvKA (K : Cfg) (t : TA) (ρ : Env) (ks : List Kn) : Prop := ∀ (M : List Addr) (σ : L2.St) (H : Hp), MOk K M H → EOk K M H ρ σ → ∀ Q : List V → Hp → Prop,
  (∀ (ss : Env) vs H2, Paired Sh ks ss → Ex K H H2 → (∀ a ∈ owns ss, H a = none) → (owns ss).Nodup → Paired (SlOk K (owns ss ++ M) H2) ss (vs.map some) → Q vs H2) → t σ H Q
section
variable {ρ : Env} {te : TE}
theorem EvD.k {d : D} (h : EvD K te ρ d) : EvK K te ρ (.dat d) := fun M σ H m e Q q => h M σ H m e Q fun v H2 e2 r => q (.dat d) v H2 (.dat d) e2 (fun a ha => nomatch ha) List.nodup_nil ⟨v, rfl, r⟩
theorem EvN.k {xs : List D} (h : EvN K te ρ xs) : EvK K te ρ (.new xs) := fun M σ H m e Q q => h M σ H m e Q fun p vs H2 hp e2 hq r =>
  q (.own p xs) _ H2 (.new p xs) e2 (fun a ha => by rw [List.mem_singleton.mp ha]; exact hp) (by simp [Sl.adr]) ⟨rfl, by simp [Sl.adr], vs, hq, r⟩
theorem EvDp.k {d : D} (h : EvDp K te ρ d) : EvK K te ρ (.dp d) := fun M σ H m e Q q => h M σ H m e Q fun v as H2 e2 f nd o => q (.deep as d) v H2 (.dp as d) e2 f nd ⟨v, rfl, fun a ha => List.mem_append_left _ ha, o⟩
theorem EvNT.k {ks : List (List Key)} {xs : List D} (h : EvNT K te ρ ks xs) : EvK K te ρ (.nt ks xs) := fun M σ H m e Q q => h M σ H m e Q fun p vs H2 hp e2 hq hl r =>
  q (.ownT p ks xs) _ H2 (.nt p ks xs) e2 (fun a ha => by rw [List.mem_singleton.mp ha]; exact hp) (by simp [Sl.adr]) ⟨rfl, by simp [Sl.adr], vs, hq, hl, r⟩
theorem SlOk.owned {N : List Addr} {H : Hp} {s : Sl} {o : Option V} (h : SlOk K N H s o) : ∀ a ∈ s.adr, a ∈ N ∧ H a ≠ none := fun a ha => EOk.owned (ρ := [s]) (σ := [o]) (.cons h .nil) a (by simpa [owns] using ha)
theorem eka_nil : EvKA K tNil ρ [] := fun M σ H m e Q q => q [] [] H .nil Ex.refl (fun a ha => nomatch ha) List.nodup_nil .nil
theorem eka_cons {t : TA} {k : Kn} {ks : List Kn} (h : EvK K te ρ k) (ht : EvKA K t ρ ks) : EvKA K (tCons te t) ρ (k :: ks) := fun M σ H m e Q q =>
  h M σ H m e _ fun s v H1 sh e1 f1 n1 o1 => ht (s.adr ++ M) σ H1 ⟨fun a ha => (List.mem_append.mp ha).elim (fun ha => (o1.owned a ha).2) fun ha => (m.ex e1).m a ha, (m.ex e1).t⟩ (e.up e1 (hid_up e1 f1) fun a ha => List.mem_append_right _ ha) _ fun ss vs H2 shs e2 f2 n2 o2 => by
    have dj : ∀ a ∈ s.adr, a ∉ owns ss := fun a ha hb => (o1.owned a ha).2 (f2 a hb)
    refine q (s :: ss) (v :: vs) H2 (.cons sh shs) (e1.trans e2) (fun a ha => ?_) ?_ (.cons (o1.up e2 ?_ fun a ha => ?_) (Paired.imp' o2 fun t _ o r => r.up Ex.refl (hid_less fun a ha => ?_) fun a ha => ?_))
    · rw [owns_nil_cons] at ha
      rcases List.mem_append.mp ha with ha | ha
      · exact f1 a ha
      · exact e1.back (f2 a ha)
    · rw [owns_nil_cons]
      exact List.nodup_append.mpr ⟨n1, n2, fun a ha b hb z => dj a ha (z ▸ hb)⟩
    · rw [owns_nil_cons]
      refine Kp.trans (hid_up e2 f2) (hid_less fun a ha => ?_)
      simp only [List.mem_append] at ha ⊢
      rcases ha with (ha | ha) | ha <;> simp [ha]
    · rw [owns_nil_cons]
      simp only [List.mem_append] at ha ⊢
      rcases ha with ha | ha <;> simp [ha]
    · rw [owns_nil_cons] at ha
      simp only [List.mem_append] at ha ⊢
      rcases ha with (ha | ha) | ha <;> simp [ha]
    · rw [owns_nil_cons]
      simp only [List.mem_append] at ha ⊢
      rcases ha with ha | ha | ha <;> simp [ha]
end
section
variable {B : Hp} {M : List Addr} {ρ : Env} {De : Ends} {te : TE} {w : TS} {σ : L2.St} {H : Hp}
def setsE : Env → List Nat → List Sl → Env
  | ρ, i :: is, s :: ss => setsE (ρ.set i s) is ss
  | ρ, _, _ => ρ
def setsS : L2.St → List Nat → List V → L2.St
  | σ, i :: is, v :: vs => setsS (σ.set i (some v)) is vs
  | σ, _, _ => σ
theorem StOk.sets {N : List Addr} : ∀ (is : List Nat) {ρ : Env} {σ : L2.St} (ss : Env) (vs : List V), StOk K B M ρ σ H → (∀ a ∈ owns ss, B a = none) → (∀ a ∈ owns ss, a ∉ M) → (∀ a ∈ owns ss, a ∉ owns ρ) → (owns ss).Nodup →
    (∀ a ∈ owns ρ ++ M, a ∈ N) → (∀ a ∈ owns ss, a ∈ N) → Paired (SlOk K N H) ss (vs.map some) → EOk K N H ρ σ → StOk K B M (setsE ρ is ss) (setsS σ is vs) H
  | [], ρ, σ, ss, vs, st, _, _, _, _, _, _, _, _ => by unfold setsE setsS; exact st
  | i :: is, ρ, σ, [], vs, st, _, _, _, _, _, _, pr, _ => by
    cases vs with
    | nil => exact st
    | cons v vs => cases pr
  | i :: is, ρ, σ, s :: ss, [], st, _, _, _, _, _, _, pr, _ => by cases pr
  | i :: is, ρ, σ, s :: ss, v :: vs, st, hB, hM, hn, nd, sub, sub2, .cons r pr, ev => by
    rw [owns_nil_cons] at hB hM hn nd sub2
    have nd' := List.nodup_append.mp nd
    have g := st.setG (i := i) (s := s) (o := some v) (N := N) (fun a ha => hB a (List.mem_append_left _ ha)) (fun a ha => hM a (List.mem_append_left _ ha)) (fun a ha => hn a (List.mem_append_left _ ha)) nd'.1 sub (fun a ha => sub2 a (List.mem_append_left _ ha)) r ev
    exact StOk.sets is ss vs g (fun a ha => hB a (List.mem_append_right _ ha)) (fun a ha => hM a (List.mem_append_right _ ha)) (fun a ha z => (owns_set_sub z).elim (hn a (List.mem_append_right _ ha)) fun z => nd'.2.2 a z a ha rfl) nd'.2.1
      (fun a ha => (List.mem_append.mp ha).elim (fun z => (owns_set_sub z).elim (fun z => sub a (List.mem_append_left _ z)) fun z => sub2 a (List.mem_append_left _ z)) fun z => sub a (List.mem_append_right _ z)) (fun a ha => sub2 a (List.mem_append_right _ ha)) pr (ev.set r)
theorem StOk.sets' {H1 : Hp} {is : List Nat} {ss : Env} {vs : List V} (st : StOk K B M ρ σ H) (e1 : Ex K H H1) (f : ∀ a ∈ owns ss, H a = none) (nd : (owns ss).Nodup) (pr : Paired (SlOk K (owns ss ++ (owns ρ ++ M)) H1) ss (vs.map some)) : StOk K B M (setsE ρ is ss) (setsS σ is vs) H1 :=
  StOk.sets (N := owns ss ++ (owns ρ ++ M)) is ss vs (st.grow e1) (fun a ha => st.ex.back (f a ha)) (fun a ha z => st.mo.m a z (f a ha)) (fun a ha z => (st.ev.owned a z).2 (f a ha)) nd (fun a ha => List.mem_append_right _ ha) (fun a ha => List.mem_append_left _ ha) pr (st.ev.up e1 (hid_up e1 f) fun a ha => List.mem_append_right _ ha)
theorem q_parK {i j : Nat} {t : TA} {k1 k2 : Kn} (h : EvKA K t ρ [k1, k2]) (k : ∀ s1 s2, Sh k1 s1 → Sh k2 s2 → Hold K B M ((ρ.set i s1).set j s2) (w De)) : Hold K B M ρ (tSeq (tPar i j t) w De) := fun B' b σ H st =>
  h _ σ H st.mok st.ev _ fun ss vs H1 sh e1 f nd pr => by
    cases sh with
    | cons sh1 sh => cases sh with
      | cons sh2 sh =>
        cases sh
        match vs, pr with
        | [v1, v2], pr => exact ⟨v1, v2, rfl, k _ _ sh1 sh2 B' b _ H1 (st.sets' (is := [i, j]) e1 f nd pr)⟩
        | [], pr => cases pr
        | [_], pr => cases pr with | cons _ pr => cases pr
        | _ :: _ :: _ :: _, pr => cases pr with | cons _ pr => cases pr with | cons _ pr => cases pr
theorem q_par3K {i j l : Nat} {t : TA} {k1 k2 k3 : Kn} (h : EvKA K t ρ [k1, k2, k3]) (k : ∀ s1 s2 s3, Sh k1 s1 → Sh k2 s2 → Sh k3 s3 → Hold K B M (((ρ.set i s1).set j s2).set l s3) (w De)) : Hold K B M ρ (tSeq (tPar3 i j l t) w De) := fun B' b σ H st =>
  h _ σ H st.mok st.ev _ fun ss vs H1 sh e1 f nd pr => by
    cases sh with
    | cons sh1 sh => cases sh with
      | cons sh2 sh => cases sh with
        | cons sh3 sh =>
          cases sh
          match vs, pr with
          | [v1, v2, v3], pr => exact ⟨v1, v2, v3, rfl, k _ _ _ sh1 sh2 sh3 B' b _ H1 (st.sets' (is := [i, j, l]) e1 f nd pr)⟩
          | [], pr => cases pr
          | [_], pr => cases pr with | cons _ pr => cases pr
          | [_, _], pr => cases pr with | cons _ pr => cases pr with | cons _ pr => cases pr
          | _ :: _ :: _ :: _ :: _, pr => cases pr with | cons _ pr => cases pr with | cons _ pr => cases pr with | cons _ pr => cases pr
theorem h_par3K {i j l : Nat} {t : TA} {k1 k2 k3 : Kn} (h : EvKA K t ρ [k1, k2, k3]) (k : ∀ s1 s2 s3, Sh k1 s1 → Sh k2 s2 → Sh k3 s3 → Hold K B M (((ρ.set i s1).set j s2).set l s3) De.nx) : Hold K B M ρ (tPar3 i j l t De) := fun B' b σ H st =>
  h _ σ H st.mok st.ev _ fun ss vs H1 sh e1 f nd pr => by
    cases sh with
    | cons sh1 sh => cases sh with
      | cons sh2 sh => cases sh with
        | cons sh3 sh =>
          cases sh
          match vs, pr with
          | [v1, v2, v3], pr => exact ⟨v1, v2, v3, rfl, k _ _ _ sh1 sh2 sh3 B' b _ H1 (st.sets' (is := [i, j, l]) e1 f nd pr)⟩
          | [], pr => cases pr
          | [_], pr => cases pr with | cons _ pr => cases pr
          | [_, _], pr => cases pr with | cons _ pr => cases pr with | cons _ pr => cases pr
          | _ :: _ :: _ :: _ :: _, pr => cases pr with | cons _ pr => cases pr with | cons _ pr => cases pr with | cons _ pr => cases pr
/-- .. by way of a tuple -/
theorem q_tup2K {i j : Nat} {t : TA} {k1 k2 : Kn} (h : EvKA K t ρ [k1, k2]) (k : ∀ s1 s2, Sh k1 s1 → Sh k2 s2 → Hold K B M ((ρ.set i s1).set j s2) (w De)) :
    Hold K B M ρ (tSeq (tAsg (tTup t) (gTup K 2 (gCons (gName i) (gCons (gName j) gNil)))) w De) := fun B' b σ H st =>
  h _ σ H st.mok st.ev _ fun ss vs H1 sh e1 f nd pr => by
    cases sh with
    | cons sh1 sh => cases sh with
      | cons sh2 sh =>
        cases sh
        match vs, pr with
        | [v1, v2], pr => exact ⟨sz_of (n := 2) (by decide), fun p hp => ⟨p, _, rfl, st_of upd_same, rfl, _, _, rfl, _, _, rfl, rfl, k _ _ sh1 sh2 B' b _ _ ((st.sets' (is := [i, j]) e1 f nd pr).grow (Ex.new hp))⟩⟩
        | [], pr => cases pr
        | [_], pr => cases pr with | cons _ pr => cases pr
        | _ :: _ :: _ :: _, pr => cases pr with | cons _ pr => cases pr with | cons _ pr => cases pr
theorem q_tup3K {i j l : Nat} {t : TA} {k1 k2 k3 : Kn} (h : EvKA K t ρ [k1, k2, k3]) (k : ∀ s1 s2 s3, Sh k1 s1 → Sh k2 s2 → Sh k3 s3 → Hold K B M (((ρ.set i s1).set j s2).set l s3) (w De)) :
    Hold K B M ρ (tSeq (tAsg (tTup t) (gTup K 3 (gCons (gName i) (gCons (gName j) (gCons (gName l) gNil))))) w De) := fun B' b σ H st =>
  h _ σ H st.mok st.ev _ fun ss vs H1 sh e1 f nd pr => by
    cases sh with
    | cons sh1 sh => cases sh with
      | cons sh2 sh => cases sh with
        | cons sh3 sh =>
          cases sh
          match vs, pr with
          | [v1, v2, v3], pr => exact ⟨sz_of (n := 3) (by decide), fun p hp => ⟨p, _, rfl, st_of upd_same, rfl, _, _, rfl, _, _, rfl, _, _, rfl, rfl, k _ _ _ sh1 sh2 sh3 B' b _ _ ((st.sets' (is := [i, j, l]) e1 f nd pr).grow (Ex.new hp))⟩⟩
          | [], pr => cases pr
          | [_], pr => cases pr with | cons _ pr => cases pr
          | [_, _], pr => cases pr with | cons _ pr => cases pr with | cons _ pr => cases pr
          | _ :: _ :: _ :: _ :: _, pr => cases pr with | cons _ pr => cases pr with | cons _ pr => cases pr with | cons _ pr => cases pr
theorem q_tup4K {i j l o : Nat} {t : TA} {k1 k2 k3 k4 : Kn} (h : EvKA K t ρ [k1, k2, k3, k4]) (k : ∀ s1 s2 s3 s4, Sh k1 s1 → Sh k2 s2 → Sh k3 s3 → Sh k4 s4 → Hold K B M ((((ρ.set i s1).set j s2).set l s3).set o s4) (w De)) :
    Hold K B M ρ (tSeq (tAsg (tTup t) (gTup K 4 (gCons (gName i) (gCons (gName j) (gCons (gName l) (gCons (gName o) gNil)))))) w De) := fun B' b σ H st =>
  h _ σ H st.mok st.ev _ fun ss vs H1 sh e1 f nd pr => by
    cases sh with
    | cons sh1 sh => cases sh with
      | cons sh2 sh => cases sh with
        | cons sh3 sh => cases sh with
          | cons sh4 sh =>
            cases sh
            match vs, pr with
            | [v1, v2, v3, v4], pr => exact ⟨sz_of (n := 4) (by decide), fun p hp => ⟨p, _, rfl, st_of upd_same, rfl, _, _, rfl, _, _, rfl, _, _, rfl, _, _, rfl, rfl, k _ _ _ _ sh1 sh2 sh3 sh4 B' b _ _ ((st.sets' (is := [i, j, l, o]) e1 f nd pr).grow (Ex.new hp))⟩⟩
            | [], pr => cases pr
            | [_], pr => cases pr with | cons _ pr => cases pr
            | [_, _], pr => cases pr with | cons _ pr => cases pr with | cons _ pr => cases pr
            | [_, _, _], pr => cases pr with | cons _ pr => cases pr with | cons _ pr => cases pr with | cons _ pr => cases pr
            | _ :: _ :: _ :: _ :: _ :: _, pr => cases pr with | cons _ pr => cases pr with | cons _ pr => cases pr with | cons _ pr => cases pr with | cons _ pr => cases pr
/-- one name, of any kind -/
theorem q_setK {i : Nat} {k1 : Kn} (h : EvK K te ρ k1) (k : ∀ s1, Sh k1 s1 → Hold K B M (ρ.set i s1) (w De)) : Hold K B M ρ (tSeq (tAsg te (gName i)) w De) := fun B' b σ H st =>
  h _ σ H st.mok st.ev _ fun s v H1 sh e1 f nd o => by
    have e : owns [s] = s.adr := by simp [owns]
    exact k _ sh B' b _ H1 (st.sets' (is := [i]) (ss := [s]) (vs := [v]) e1 (by rw [e]; exact f) (by rw [e]; exact nd) (by rw [e]; exact .cons o .nil))
end
/-! ### returns of new ones -/
section
variable {B : Hp} {M : List Addr} {ρ : Env} {De : Ends} {te : TE} {w : TS}
def RetsNT (K : Cfg) (B : Hp) (M : List Addr) (De : Ends) (ks : List (List Key)) (xs : List D) : Prop := ∀ p vs H2, Ge B H2 → LamX.Tabs K.T H2 → B p = none → H2 p = some (.dT (ks.zip vs)) → ks.length = vs.length → RpA K (hid H2 (p :: M)) vs xs → De.rt (.ref p) H2
theorem h_retNT {i : Nat} {a : Addr} {ks : List (List Key)} {xs : List D} (h : ρ[i]? = some (.ownT a ks xs)) (k : RetsNT K B M De ks xs) : Hold K B M ρ (tRet (tVar i) De) := fun B' b σ H st => by
  obtain ⟨o, e1, rfl, _, vs, q1, l, r⟩ := st.ev.get h
  have ha : a ∈ owns ρ := own_mem h (by simp [Sl.adr])
  exact ⟨_, e1, k a vs H (b.trans st.ex) st.mo.t (b.back (st.fr a ha)) q1 l (r.ex (hid_less fun c hc => by
    rcases List.mem_cons.mp hc with rfl | hc
    · exact List.mem_append_left _ ha
    · exact List.mem_append_right _ hc))⟩
end
section
variable {P : Program} {w : World} {mg : Str → Option Value} {base : Heap} {x : Str} {st : Stmt} {dvs : List V} {cdv : Value} {f : Addr} {fd : FuncData} {N ps : List Str} {k : Nat}
/-- a def that tells a new dict -/
theorem fn_nt {G : List D → List (List Key) → List D → Prop} (d : Df K mg x st dvs cdv f fd) (S : FnScope N ps (defScope st))
    (hbody : ∀ (A : Around) (outer : List PySem.Env) (s : Shared) (H : Hp) (E : XK), Room k (A.deeper (envOfC x (defScope st) s.heap.objs.size f cdv)) →
      ∃ t, PSs (cxOf CX0 P w K mg base N x (defScope st) f cdv A outer s H E).nox (defBody st) t ∧ ∀ ds ks xs, ds.length = ps.length → G ds ks xs → ∀ (B : Hp) (M : List Addr) (De : Ends), RetsNT K B M De ks xs → Hold K B M (startE N.length ds) (t De)) :
    FnOk P w K mg base CX0 (k + 1) f fd ps (spNT K ps.length G) := by
  refine fn_any d S (fun vs H Q E h => ?_) (fun A outer s H vs Q E hr h => ?_)
  · obtain ⟨M, ds, d, ks, hl, _⟩ := h
    exact hl
  · obtain ⟨M, ds, ks, xs, hl, m, r, hG, q⟩ := h
    obtain ⟨t, h1, h2⟩ := hbody A outer s H E hr
    refine ⟨t, h1, h2 ds ks xs (by rw [← r.len]; exact hl) hG H M { nx := fun _ H' => Q .non H', rt := Q, bk := fun _ _ => False, ct := fun _ _ => False } (fun p vs H2 g t hp hq hl r => q p vs H2 hp ⟨g, fun _ => t⟩ hq hl r) H (Ge.refl H) _ H (start_ok m r)⟩
/-- a def that tells new lists -/
theorem fn_dp {G : List D → D → Prop} (d : Df K mg x st dvs cdv f fd) (S : FnScope N ps (defScope st))
    (hbody : ∀ (A : Around) (outer : List PySem.Env) (s : Shared) (H : Hp) (E : XK), Room k (A.deeper (envOfC x (defScope st) s.heap.objs.size f cdv)) →
      ∃ t, PSs (cxOf CX0 P w K mg base N x (defScope st) f cdv A outer s H E).nox (defBody st) t ∧ ∀ ds r, ds.length = ps.length → G ds r → ∀ (B : Hp) (M : List Addr) (De : Ends), RetsD K B M De r → Hold K B M (startE N.length ds) (t De)) :
    FnOk P w K mg base CX0 (k + 1) f fd ps (spD K ps.length G) := by
  refine fn_any d S (fun vs H Q E h => ?_) (fun A outer s H vs Q E hr h => ?_)
  · obtain ⟨M, ds, d, hl, _⟩ := h
    exact hl
  · obtain ⟨M, ds, r0, hl, m, r, hG, q⟩ := h
    obtain ⟨t, h1, h2⟩ := hbody A outer s H E hr
    refine ⟨t, h1, h2 ds r0 (by rw [← r.len]; exact hl) hG H M { nx := fun _ H' => Q .non H', rt := Q, bk := fun _ _ => False, ct := fun _ _ => False } (fun v as H2 g t f nd o => q v as H2 ⟨g, fun _ => t⟩ f nd o) H (Ge.refl H) _ H (start_ok m r)⟩
end
/-! ### comprehensions, sorted lists as new lists -/
section
variable {ρ : Env} {te ta : TE}
theorem en_lc {α : Type} {wi : TI} {g : TG} {tt : TT} {vs ix : List Nat} {L : List α} {enc : α → D} (f : α → Bool) (v : α → D) (hs : SrcC K wi ρ (L.map enc)) (hl : L.length ≤ 100000)
    (ht : ∀ x ∈ L, ∃ ρ', Bnd K g (enc x) (wipeE ρ vs) ρ' ix ∧ EvT K tt ρ' (f x) ∧ (f x = true → EvD K te ρ' (v x))) (hix : ∀ i ∈ ix, i ∈ vs := by decide) : EvN K (tLc wi g tt te vs) ρ ((L.filter f).map v) := fun M σ H m e Q q =>
  lc_atN f v hl ht hix m e q fun R r => hs M σ H m e R r
theorem en_sorted {xs : List D} (n : Nat) (h : EvL K te ρ xs) (hok : D.okA xs n = true) (hal : PySem.W.AllAlike (xs.map D.pd)) (hk : PySem.W.Sortable (xs.map D.pd)) (hn : n ≤ 60 := by decide) : EvN K (tCB (rSortD K) (tCons te tNil)) ρ (sortD xs) := fun M σ H m e Q q =>
  h M σ H m e _ fun v H1 e1 r1 => by
    obtain ⟨a, vs, rfl, hq, r1⟩ := r1
    have dp : DpAll K H1 vs (xs.map D.pd) := by rw [← D.pdA_eq]; exact RpA.dp xs n vs hok (r1.ex hid_sub)
    refine ⟨a, vs, xs.map D.pd, rfl, sq_of hq, dp, hal, hk, fun d hd => ?_, fun p hp => q p _ _ (e1.back hp) (e1.trans (Ex.new hp)) upd_same ((sort_rp r1).ex (hid_new2 hp))⟩
    obtain ⟨x, hx, rfl⟩ := List.mem_map.mp hd
    exact Nat.le_trans (D.lay x n (D.okA_iff.mp hok x hx)).2 hn
theorem en_sl {xs : List D} {lo hi : Option Int} {tl th : TO} (ha : EvL K ta ρ xs) (hl : EvO K tl ρ lo) (hh : EvO K th ρ hi) : EvN K (tSl (rSlL K) ta tl th) ρ (cutD xs lo hi) := fun M σ H m e Q q =>
  ha M σ H m e _ fun v H1 e1 r1 => hl M σ H1 (m.ex e1) (e.ex e1) _ fun H2 e2 => hh M σ H2 ((m.ex e1).ex e2) ((e.ex e1).ex e2) _ fun H3 e3 => by
    obtain ⟨a, vs, rfl, h1, r1⟩ := (r1.ex e2).ex e3
    refine ⟨a, vs, rfl, sq_of h1, fun p hp => q p _ _ (e1.back (e2.back (e3.back hp))) (((e1.trans e2).trans e3).trans (Ex.new hp)) upd_same (RpA.ex ?_ (hid_new2 hp))⟩
    unfold cutV cutD
    rw [r1.len]
    exact (r1.drop _).take _
theorem en_list {xs : List D} {r : List V → Hp → VK → Prop} (hr : r = rListOf K) (h : EvS K te ρ xs) : EvN K (tCB r (tCons te tNil)) ρ xs := fun M σ H m e Q q =>
  h M σ H m e _ fun v H1 e1 r1 => by
    obtain ⟨a, vs, rfl, h1, r1⟩ := r1
    rw [hr]
    exact ⟨a, vs, rfl, h1, fun p hp => q p _ _ (e1.back hp) (e1.trans (Ex.new hp)) upd_same (r1.ex (hid_new2 hp))⟩
/-- tuple(list) -/
theorem ev_tupleOf {κ : PySem.W.Frag} {xs : List D} (hκ : κ = K.K) (h : EvL K te ρ xs) : EvD K (tThen te (kTup κ)) ρ (.tup xs) := fun M σ H m e Q q =>
  h M σ H m e _ fun v H1 e1 r1 => by
    subst hκ
    obtain ⟨a, vs, rfl, h1, r1⟩ := r1
    exact .inl ⟨a, vs, rfl, sq_of h1, new_tup (m.ex e1) e1 r1 q⟩
end
end Dl
/-! The list of ints that is handed about: comprehensions whose test draws, loops over a drawn range, two names at once. -/
namespace Dl
open PySem PySem.Spec PyProof.Rows L2 LamX
variable {K : Cfg}
theorem k_inT {X : Cx} (κ : PySem.W.Frag) (h : X.K = κ) : OpR X (compareOp .In) (rIn κ false) := h ▸ op_in_seq
/-- a list of which the length alone is told -/
def EvLn (K : Cfg) (t : TE) (ρ : Env) (n : Nat) : Prop := ∀ (M : List Addr) (σ : L2.St) (H : Hp), MOk K M H → EOk K M H ρ σ → ∀ Q : VK, (∀ v H2, Ex K H H2 → (∃ a vs, v = .ref a ∧ H2 a = some (.lst vs) ∧ vs.length = n) → Q v H2) → t σ H Q
theorem el_deep {ρ : Env} {i : Nat} {as : List Addr} {xs : List D} (h : ρ[i]? = some (.deep as (.lst xs))) : EvLn K (tVar i) ρ xs.length := fun M σ H m e Q q => by
  obtain ⟨o, e1, v, rfl, hm, r⟩ := e.get h
  cases r with
  | dat n _ => cases n
  | lst h1 h2 => exact ⟨_, e1, q _ H Ex.refl ⟨_, _, rfl, h1, h2.len⟩⟩
theorem ev_lenN {ρ : Env} {te : TE} {n : Nat} {r : List V → Hp → VK → Prop} (hr : r = rLen K) (h : EvLn K te ρ n) : EvD K (tCB r (tCons te tNil)) ρ (.int (n : Int)) := fun M σ H m e Q q =>
  h M σ H m e _ fun v H1 e1 r1 => by
    obtain ⟨a, vs, rfl, h1, rfl⟩ := r1
    rw [hr]
    exact ⟨a, vs, rfl, .inl (sq_of h1), q _ H1 e1 (.int _)⟩
/-- the data of a frame and the purse at slot i -/
def keepP (ρ : Env) (i : Nat) (p : Addr) (ns : List Int) : Env := (ρ.map onlyDat).set i (.own p (ns.map D.int))
theorem EOk.dats2 {N N' : List Addr} {H H2 : Hp} {ρ : Env} {σ : L2.St} (h : EOk K N H ρ σ) (e : Kp (hid H N) (hid H2 N')) : EOk K N' H2 (ρ.map onlyDat) σ := by
  have go : ∀ {ρ : Env} {σ : L2.St}, Paired (SlOk K N H) ρ σ → Paired (SlOk K N' H2) (ρ.map onlyDat) σ := by
    intro ρ σ pr
    induction pr with
    | nil => exact .nil
    | @cons s o l k r t ih =>
      refine .cons ?_ ih
      cases s with
      | dat d => obtain ⟨v, e1, r⟩ := r; exact ⟨v, e1, r.ex e⟩
      | fix v d => exact ⟨v, r.1, r.2.ex e⟩
      | _ => trivial
  exact go h
section
variable {ρ : Env} {ta tb te : TE} {p : Addr} {ns : List Int} {P P' : D → List Int → Prop}
theorem EOk.keep {N : List Addr} {H H2 : Hp} {σ : L2.St} {i : Nat} {ns' : List Int} (h : EOk K N H ρ σ) (e : ExM K p H H2) (m : p ∈ N) (hi : ρ[i]? = some (.own p (ns.map D.int))) (q : H2 p = some (.lst (ns'.map V.int))) : EOk K N H2 (keepP ρ i p ns') σ := by
  obtain ⟨o, e1, rfl, _⟩ := h.get hi
  have := (h.dats e m).set (i := i) (s := .own p (ns'.map D.int)) (o := some (.ref p)) ⟨rfl, m, _, q, RpA.of_ints ns'⟩
  rw [set_self e1] at this
  exact this
theorem ExM.refl {H : Hp} : ExM K p H H := Ex.refl.m
/-- .. is all that is looked at -/
theorem em_keep {i : Nat} (hi : ρ[i]? = some (.own p (ns.map D.int))) (h : EvM K te (keepP ρ i p ns) p ns P) : EvM K te ρ p ns P := fun M σ H m e hp hq Q q => h M σ H m (e.keep ExM.refl hp hi hq) hp hq Q q
def EvTMb (K : Cfg) (t : TT) (ρ : Env) (p : Addr) (ns : List Int) (P : Bool → List Int → Prop) : Prop := ∀ (M : List Addr) (σ : L2.St) (H : Hp), MOk K M H → EOk K M H ρ σ → p ∈ M → H p = some (.lst (ns.map V.int)) → ∀ Q : Bool → Hp → Prop,
  (∀ b H2 ns', P b ns' → ExM K p H H2 → H2 p = some (.lst (ns'.map V.int)) → Q b H2) → t σ H Q
theorem etm_and {t u : TT} {a : Bool} {P : Bool → List Int → Prop} (h1 : EvT K t ρ a) (h2 : a = true → EvTMb K u ρ p ns P) (h3 : a = false → P false ns) : EvTMb K (L2.tAnd t u) ρ p ns P := fun M σ H m e hp hq Q q => h1 M σ H m e _ fun H1 e1 => by
  cases a with
  | true =>
    show u σ H1 Q
    exact h2 rfl M σ H1 (m.ex e1) (e.ex e1) hp (e1.kp.lst hq) Q fun b H2 ns' hP x q2 => q b H2 ns' hP (e1.m.trans x) q2
  | false =>
    show Q false H1
    exact q false H1 ns (h3 rfl) e1.m (e1.kp.lst hq)
/-- a drawn number == a number -/
theorem etm_eq {i : Int} {P2 : Bool → List Int → Prop} (ha : EvM K ta ρ p ns P) (hP : ∀ d ns', P d ns' → ∃ j, d = .int j ∧ P2 (decide (j = i)) ns') : EvTMb K (tTest (tOp (rEqD K) ta (tC (.int i)))) ρ p ns P2 := fun M σ H m e hp hq Q q =>
  ha M σ H m e hp hq _ fun v H1 d ns' pd x1 q1 r1 => by
    obtain ⟨j, rfl, h2⟩ := hP d ns' pd
    cases r1
    have e : PyData.eqv (.int j) (.int i) = decide (j = i) := by
      simp only [PyData.eqv]
      by_cases h : j = i <;> simp [h]
    refine ⟨_, _, .int j, .int i, rfl, rfl, PyData.eqv (.int j) (.int i), rfl, ?_⟩
    rw [e]
    exact q _ H1 ns' h2 x1 q1
/-- a comprehension whose test draws: some of the items -/
theorem em_lcSub {α : Type} {wi : TI} {g : TG} {tt : TT} {vs ix : List Nat} {L : List α} {enc : α → D} {i : Nat} (f : α → Bool) (v : α → D) (I : Nat → List Int → Prop) (hi : ρ[i]? = some (.own p (ns.map D.int))) (hs : Src K wi ρ (L.map enc)) (hl : L.length ≤ 100000) (h0 : I 0 ns)
    (ht : ∀ n x ns1, L[n]? = some x → I n ns1 → ∃ ρ', Bnd K g (enc x) (wipeE (keepP ρ i p ns1) vs) ρ' ix ∧ EvTMb K tt ρ' p ns1 (fun b ns2 => I (n + 1) ns2 ∧ (b = true → f x = true)) ∧ EvD K te (ρ'.map onlyDat) (v x)) (hix : ∀ i ∈ ix, i ∈ vs)
    (hP : ∀ (l : List α) ns', l.Sublist L → (∀ x ∈ l, f x = true) → I L.length ns' → P (.lst (l.map v)) ns') : EvM K (tLc wi g tt te vs) ρ p ns P := fun M σ H m e hp hq Q q =>
  hs M σ H m e _ fun J H1 e1 j A hA => by
    have m1 := m.ex e1
    have ev1 := e.ex e1
    have nAM : A ∉ M := m1.new hA
    have nAp : A ≠ p := fun z => nAM (z ▸ hp)
    have hq1 : H1 p = some (.lst (ns.map V.int)) := e1.kp.lst hq
    have exA : ExM K p H1 (upd H1 A (.lst [])) := (Ex.new hA).m
    refine ⟨fun n k H2 => n + k = L.length ∧ ∃ (acc : List V) (l : List α) (ns1 : List Int), H2 A = some (.lst acc) ∧ RpA K (hid H2 (A :: M)) acc (l.map v) ∧ l.Sublist (L.take n) ∧ (∀ x ∈ l, f x = true) ∧ ExM K p H1 H2 ∧ H2 p = some (.lst (ns1.map V.int)) ∧ I n ns1,
      ⟨L.length, by omega, [], [], ns, upd_same, .nil, by simp, (fun x hx => nomatch hx), exA, by rw [upd_ne nAp.symm]; exact hq1, h0⟩, fun n k H2 hw => ?_⟩
    obtain ⟨hnk, acc, l, ns1, hacc, hr, hsub, hf, hex, hq2, hI⟩ := hw
    have kpJ : Kp (hid H1 M) H2 := fun a o q0 nt => by
      obtain ⟨m2, q0⟩ := hid_some q0
      exact hex.kp a o (fun z => m2 (z ▸ hp)) q0 nt
    have fA : ∀ a ∈ A :: M, hid (hid H1 M) [] a = none := fun a ha => by
      rw [hid_nil]
      rcases List.mem_cons.mp ha with rfl | ha
      · rw [hid_out nAM]; exact hA
      · exact hid_in ha
    have moA : ∀ {H2 : Hp} {acc : List V}, ExM K p H1 H2 → H2 A = some (.lst acc) → MOk K (A :: M) H2 := fun hex hacc => ⟨fun a ha => by
      rcases List.mem_cons.mp ha with rfl | ha
      · rw [hacc]; simp
      · exact hex.th a (m1.m a ha), hex.tb m1.t⟩
    have mo2 := moA hex hacc
    have hpA : p ∈ A :: M := List.mem_cons_of_mem _ hp
    by_cases hn : n < L.length
    · obtain ⟨x, hx⟩ : ∃ x, L[n]? = some x := ⟨_, List.getElem?_eq_getElem hn⟩
      obtain ⟨go, yl⟩ := j.turn (A :: M) H2 kpJ fA mo2 n (enc x) (by rw [List.getElem?_map, hx]; rfl)
      obtain ⟨ρ', hb, ht1, ht2⟩ := ht n x ns1 hx hI
      have htk : L.take (n + 1) = L.take n ++ [x] := by rw [List.take_succ, hx]; rfl
      refine .inr ⟨go, fun H' => (∃ (acc : List V) (l : List α) (ns1 : List Int), H' A = some (.lst acc) ∧ RpA K (hid H' (A :: M)) acc (l.map v) ∧ l.Sublist (L.take (n + 1)) ∧ (∀ x ∈ l, f x = true) ∧ ExM K p H1 H' ∧ H' p = some (.lst (ns1.map V.int)) ∧ I (n + 1) ns1), fun H' hN => ⟨k - 1, by omega, by omega, hN⟩, fun y H' hy => ?_⟩
      obtain ⟨e2, ry⟩ := yl y H' hy
      have mo3 := mo2.ex e2
      have hex3 := hex.trans e2.m
      have hacc3 : H' A = some (.lst acc) := e2.kp.lst hacc
      have hq3 : H' p = some (.lst (ns1.map V.int)) := e2.kp.lst hq2
      have hr3 := hr.ex (hid_ex (M := A :: M) e2)
      have eA : EOk K (A :: M) H' (keepP ρ i p ns1) σ := by
        obtain ⟨o, eo1, rfl, _⟩ := ev1.get hi
        have := (ev1.dats2 (N' := A :: M) (H2 := H') fun a o q0 nt => by
          obtain ⟨m2, q0⟩ := hid_some q0
          rw [hid_out fun z => (List.mem_cons.mp z).elim (fun z => by rw [z, hA] at q0; cases q0) m2]
          exact hex3.kp a o (fun z => m2 (z ▸ hp)) q0 nt).set (i := i) (s := .own p (ns1.map D.int)) (o := some (.ref p)) ⟨rfl, hpA, _, hq3, RpA.of_ints ns1⟩
        rw [set_self eo1] at this
        exact this
      refine hb.run (A :: M) _ H' y mo3 (EOk.wipe eA vs) ry _ fun σ2 eo hw2 => ⟨(hw2 vs hix).trans wipe_wipe, ?_⟩
      refine ht1 (A :: M) σ2 H' mo3 eo hpA hq3 _ fun b H3 ns2 hP2 x3 q3 => ?_
      have hacc4 : H3 A = some (.lst acc) := x3.kp A _ nAp hacc3 fun _ z => nomatch z
      have hr4 : RpA K (hid H3 (A :: M)) acc (l.map v) := hr3.ex (x3.hid hpA)
      have hex4 : ExM K p H1 H3 := hex3.trans x3
      have hsub' : l.Sublist (L.take (n + 1)) := hsub.trans (by rw [htk]; exact List.sublist_append_left _ _)
      cases b with
      | false =>
        show ∃ acc, _
        exact ⟨acc, l, ns2, hacc4, hr4, hsub', hf, hex4, q3, hP2.1⟩
      | true =>
        show te σ2 H3 _
        refine ht2 (A :: M) σ2 H3 (mo3.exM x3) (eo.dats x3 hpA) _ fun z H4 e4 rz => ⟨acc, e4.kp.lst hacc4, ?_, ?_⟩
        · have h1 := hr4.len
          rw [List.length_map] at h1
          have h2 := hsub.length_le
          rw [List.length_take] at h2
          exact sz_lt (by omega)
        · have hq5 : H4 p = some (.lst (ns2.map V.int)) := e4.kp.lst q3
          have hacc5 : H4 A = some (.lst acc) := e4.kp.lst hacc4
          refine ⟨acc ++ [z], l ++ [x], ns2, upd_same, ?_, ?_, fun y hy => ?_, ⟨fun a o na ha nt => ?_, fun a ha => ?_, fun t => tabs_mut hacc5 True.intro (e4.tb (hex4.tb t))⟩, by rw [upd_ne nAp.symm]; exact hq5, hP2.1⟩
          · rw [List.map_append]
            exact ((hr4.ex (hid_ex e4)).app (.cons rz .nil)).ex (hid_upd List.mem_cons_self)
          · rw [htk]
            exact List.Sublist.append hsub (List.Sublist.refl _)
          · rcases List.mem_append.mp hy with hy | hy
            · exact hf y hy
            · rw [List.mem_singleton.mp hy]; exact hP2.2 rfl
          · have naA : a ≠ A := fun z => by rw [z, hA] at ha; cases ha
            rw [upd_ne naA]
            exact e4.kp a o (hex4.kp a o na ha nt) nt
          · by_cases z : a = A
            · rw [z, upd_same]; simp
            · rw [upd_ne z]; exact e4.ge.th a (hex4.th a ha)
    · have hn' : n = L.length := by omega
      subst hn'
      rw [List.take_length] at hsub
      refine .inl ⟨by have := j.stop H2 kpJ; rw [List.length_map] at this; exact this, q _ H2 _ ns1 (hP l ns1 hsub hf hI) (e1.m.trans hex) hq2 (.lst (by rw [hid_out nAM]; exact hacc) (hr.ex (hid_less fun a ha => List.mem_cons_of_mem _ ha)))⟩
/-- a call with the purse ahead and data behind -/
theorem em_callN {n : Nat} {G : List Int → List D → D → List Int → Prop} {ok : List Int → List D → Prop} {E : XK} {i : Nat} {t : TA} {ds : List D} (hi : ρ[i]? = some (.own p (ns.map D.int))) (ha : EvA K t ρ ds) (hn : ds.length = n) (hok : ok ns ds) (hP : ∀ r ns', G ns ds r ns' → P r ns') :
    EvM K (tCall (spM K n G ok) [] E (tCons (tVar i) t)) ρ p ns P := fun M σ H m e hp hq Q q => by
  obtain ⟨o, e1, rfl, _⟩ := e.get hi
  exact ⟨_, e1, ha M σ H m e _ fun ws H1 x1 r1 => ⟨M, p, ns, ws, ds, by rw [List.append_nil], by rw [r1.len]; exact hn, m.ex x1, hp, x1.kp.lst hq, r1, hok, fun v H2 r ns' hG x2 q2 r2 => q v H2 r ns' (hP r ns' hG) (x1.m.trans x2) q2 r2⟩⟩
end
section
variable {B : Hp} {M : List Addr} {ρ : Env} {De : Ends} {te t1 t2 : TE} {w : TS} {p : Addr} {ns : List Int}
/-- i, j = e, e', each changes the purse -/
theorem q_parM {i j l : Nat} {P1 : D → List Int → Prop} {P2 : D → D → List Int → Prop} (h : ρ[l]? = some (.own p (ns.map D.int))) (h1 : EvM K t1 ρ p ns P1) (h2 : ∀ d1 ns1, P1 d1 ns1 → EvM K t2 (keepP ρ l p ns1) p ns1 (P2 d1))
    (k : ∀ d1 ns1 d2 ns2, P1 d1 ns1 → P2 d1 d2 ns2 → Hold K B M (((ρ.set l (.own p (ns2.map D.int))).set i (.dat d1)).set j (.dat d2)) (w De)) : Hold K B M ρ (tSeq (tPar i j (tCons t1 (tCons t2 tNil))) w De) := fun B' b σ H st => by
  have pm : p ∈ owns ρ ++ M := List.mem_append_left _ (own_mem h (by simp [Sl.adr]))
  refine h1 _ σ H st.mok st.ev pm (st.ints h) _ fun v H1 d1 ns1 hp1 x1 q1 r1 => h2 d1 ns1 hp1 _ σ H1 (st.mok.exM x1) (st.ev.keep x1 pm h q1) pm q1 _ fun v2 H2 d2 ns2 hp2 x2 q2 r2 => ⟨v, v2, rfl, k d1 ns1 d2 ns2 hp1 hp2 B' b _ H2 ?_⟩
  have st2 := st.exM h (x1.trans x2) q2
  have sub : ∀ a ∈ owns (ρ.set l (.own p (ns2.map D.int))) ++ M, a ∈ owns ρ ++ M := fun a ha => by
    rcases List.mem_append.mp ha with ha | ha
    · refine List.mem_append_left _ ?_
      rcases owns_set_sub ha with ha | ha
      · exact ha
      · rw [show a = p by simpa [Sl.adr] using ha]; exact own_mem h (by simp [Sl.adr])
    · exact List.mem_append_right _ ha
  have s1 := st2.set (i := i) (s := .dat d1) (o := some v) rfl ⟨v, rfl, (r1.ex (x2.hid pm)).ex (hid_less sub)⟩
  refine s1.set rfl ⟨v2, rfl, r2.ex (hid_less fun a ha => sub a ?_)⟩
  rcases List.mem_append.mp ha with ha | ha
  · exact List.mem_append_left _ (set_sub a ha)
  · exact List.mem_append_right _ ha
/-- what is walked is drawn -/
def SrcM (K : Cfg) (wi : TI) (ρ : Env) (p : Addr) (ns : List Int) (P : List D → List Int → Prop) : Prop := ∀ (M : List Addr) (σ : L2.St) (H : Hp), MOk K M H → EOk K M H ρ σ → p ∈ M → H p = some (.lst (ns.map V.int)) → ∀ R : It → Hp → Prop,
  (∀ J H1 xs ns', P xs ns' → ExM K p H H1 → H1 p = some (.lst (ns'.map V.int)) → JOk K (hid H1 M) [] J xs → R J H1) → wi σ H R
theorem srcM_rng1 {P : D → List Int → Prop} {P' : List D → List Int → Prop} (h : EvM K te ρ p ns P) (hP : ∀ d ns', P d ns' → ∃ n : Int, d = .int n ∧ -(2 ^ 62) ≤ n ∧ n < 2 ^ 62 ∧ P' ((List.range n.toNat).map fun i : Nat => D.int (0 + (i : Nat))) ns') : SrcM K (iRng1 (tCons te tNil)) ρ p ns P' := fun M σ H m e hp hq R q =>
  h M σ H m e hp hq _ fun v H1 d ns' pd x1 q1 r1 => by
    obtain ⟨n, rfl, h1, h2, h3⟩ := hP d ns' pd
    cases r1
    exact ⟨n, rfl, h1, h2, q _ H1 _ ns' h3 x1 q1 jok_rng⟩
theorem for_core {g : TG} {tb : TS} {xs : List D} (I : Nat → Env → Prop) (h0 : I 0 ρ)
    (ht : ∀ B', Ge B B' → ∀ i d ρ1, xs[i]? = some d → I i ρ1 → ∃ ρ2 ix, Bnd K g d ρ1 ρ2 ix ∧ Hold K B' M ρ2 (tb (loopE De (Lp K B' M (I (i + 1))))))
    (hd : ∀ ρ1, I xs.length ρ1 → Hold K B M ρ1 De.nx) {B' : Hp} (b : Ge B B') {σ : L2.St} {H1 : Hp} (st1 : StOk K B' M ρ σ H1) {J : It} (j : JOk K (hid H1 (owns ρ ++ M)) [] J xs) :
    ∃ W : Nat → Nat → L2.St → Hp → Prop, (∃ m, W 0 m σ H1) ∧ ∀ i m σ H, W i m σ H → (J.stop i H ∧ De.nx σ H) ∨ (J.go i H ∧ ∃ N : L2.St → Hp → Prop, (∀ σ' H', N σ' H' → ∃ m', m' < m ∧ W (i + 1) m' σ' H') ∧ ∀ x H', J.yld i H x H' → g x σ H' fun σ2 H2 => tb { De with nx := N, ct := N, bk := De.nx } σ2 H2) := by
  obtain ⟨eb, sb⟩ := st1.base
  have eB : Ge B (hid H1 (owns ρ)) := b.trans eb
  refine ⟨fun i m σ H => i + m = xs.length ∧ ∃ ρ1, I i ρ1 ∧ StOk K (hid H1 (owns ρ)) M ρ1 σ H, ⟨xs.length, by omega, ρ, h0, sb⟩, fun i m σ2 H2 hw => ?_⟩
  obtain ⟨him, ρ1, hI, s1⟩ := hw
  have exJ : Kp (hid H1 (owns ρ ++ M)) H2 := fun a o q n => by
    obtain ⟨m1, q⟩ := hid_some q
    exact s1.ex.kp a o (by rw [hid_out fun z => m1 (List.mem_append_left _ z)]; exact q) n
  by_cases hi : i < xs.length
  · obtain ⟨d, hd1⟩ : ∃ d, xs[i]? = some d := ⟨_, List.getElem?_eq_getElem hi⟩
    have fN : ∀ a ∈ owns ρ1 ++ M, hid (hid H1 (owns ρ ++ M)) [] a = none := fun a ha => by
      rw [hid_nil]
      rcases List.mem_append.mp ha with ha | ha
      · have q := s1.fr a ha
        by_cases m1 : a ∈ owns ρ ++ M
        · exact hid_in m1
        · rw [hid_out m1]
          rw [hid_out fun z => m1 (List.mem_append_left _ z)] at q
          exact q
      · exact hid_in (List.mem_append_right _ ha)
    obtain ⟨go, yl⟩ := j.turn (owns ρ1 ++ M) H2 exJ fN s1.mok i d hd1
    obtain ⟨ρ2, ix, hb, hh⟩ := ht (hid H1 (owns ρ)) eB i d ρ1 hd1 hI
    refine .inr ⟨go, Lp K (hid H1 (owns ρ)) M (I (i + 1)), fun σ' H' hN => ⟨m - 1, by omega, by omega, hN⟩, fun x H' hy => ?_⟩
    obtain ⟨e2, rx⟩ := yl x H' hy
    have s2 := s1.grow e2
    refine hb.run (owns ρ1 ++ M) σ2 H' x s2.mok s2.ev rx _ fun σ3 e3 _ => hh _ (Ge.refl _) σ3 H' ⟨s2.ex, fun a h => s2.fr a (hb.sub a h), hb.nd s2.nd, fun a h => s2.ap a (hb.sub a h), s2.mo, ?_⟩
    refine e3.less (fun a ha => ?_) fun a ha => List.mem_append_left _ ha
    rcases List.mem_append.mp ha with ha | ha
    · exact List.mem_append_left _ (hb.sub a ha)
    · exact List.mem_append_right _ ha
  · have hi' : i = xs.length := by omega
    subst hi'
    exact .inl ⟨j.stop H2 exJ, hd ρ1 hI B' b σ2 H2 (s1.less eb)⟩
theorem q_forM {l : Nat} {wi : TI} {g : TG} {tb : TS} {P : List D → List Int → Prop} (h : ρ[l]? = some (.own p (ns.map D.int))) (hs : SrcM K wi ρ p ns P)
    (k : ∀ xs ns', P xs ns' → ∃ I : Nat → Env → Prop, I 0 (ρ.set l (.own p (ns'.map D.int))) ∧ (∀ B', Ge B B' → ∀ i d ρ1, xs[i]? = some d → I i ρ1 → ∃ ρ2 ix, Bnd K g d ρ1 ρ2 ix ∧ Hold K B' M ρ2 (tb (loopE (De.to (w De)) (Lp K B' M (I (i + 1)))))) ∧
      ∀ ρ1, I xs.length ρ1 → Hold K B M ρ1 (w De)) : Hold K B M ρ (tSeq (tFor wi g tb) w De) := fun B' b σ H st =>
  hs _ σ H st.mok st.ev (List.mem_append_left _ (own_mem h (by simp [Sl.adr]))) (st.ints h) _ fun J H1 xs ns' hP x1 q1 j => by
    obtain ⟨I, h0, ht, hd⟩ := k xs ns' hP
    have e : owns (ρ.set l (.own p (ns'.map D.int))) = owns ρ := owns_swap h rfl
    exact for_core (De := De.to (w De)) I h0 ht hd b (st.exM h x1 q1) (by rw [e]; exact j)
end
end Dl
/-! Slots of a known value; what was told looked at while a loop runs; copies; comprehensions of new lists; small rules. -/
namespace Dl
open PySem PySem.Spec PyProof.Rows L2 LamX
variable {K : Cfg}
theorem ev_fix {ρ : Env} {i : Nat} {v : V} {d : D} (h : ρ[i]? = some (.fix v d)) : EvD K (tVar i) ρ d := fun M σ H m e Q q => by
  obtain ⟨o, e1, rfl, r⟩ := e.get h
  exact ⟨v, e1, q v H Ex.refl r⟩
section
variable {B : Hp} {M : List Addr} {ρ : Env} {De : Ends} {te ta tb : TE} {d : D} {u w : TS} {σ : L2.St} {H : Hp}
theorem h_fix (i : Nat) {P : L2.St → Hp → Prop} (h : ρ[i]? = some (.dat d)) (k : ∀ v, Hold K B M (ρ.set i (.fix v d)) P) : Hold K B M ρ P := fun B' b σ H st => by
  obtain ⟨o, e1, v, rfl, r⟩ := st.ev.get h
  refine k v B' b σ H ?_
  have e : owns (ρ.set i (.fix v d)) = owns ρ := owns_swap h rfl
  refine ⟨st.ex, by rw [e]; exact st.fr, by rw [e]; exact st.nd, by rw [e]; exact st.ap, st.mo, ?_⟩
  rw [e]
  have := st.ev.set (i := i) (s := .fix v d) (o := some v) ⟨rfl, r⟩
  rw [set_self e1] at this
  exact this
/-- slots that may stand while what slot i owns is looked at: no others -/
def KeepsS (ρ ρ2 : Env) (i l : Nat) (p : Addr) (ns : List Int) : Prop := ∀ j s, ρ2[j]? = some s → j = i ∨ s = .no ∨ (∃ v d, s = .fix v d ∧ ρ[j]? = some (.fix v d)) ∨ (j = l ∧ s = .own p (ns.map D.int))
/-- a statement that looks at what slot i owns as data -/
theorem q_tmp {i l : Nat} {as : List Addr} {p : Addr} {ns : List Int} {t : TS} {P : List Int → Prop} (F : List Int → Env) (h : ρ[i]? = some (.deep as d)) (hl : ρ[l]? = some (.own p (ns.map D.int))) (hil : l ≠ i) (hFl : ∀ ns', (F ns').length = ρ.length) (hF : ∀ ns', KeepsS ρ (F ns') i l p ns') (hFp : ∀ ns', (F ns')[l]? = some (.own p (ns'.map D.int)))
    (hown : ∀ j s, ρ[j]? = some s → j ≠ i → j ≠ l → s.adr = [])
    (k : ∀ v B1, Ge B B1 → ∀ N, (∀ ns', P ns' → Hold K B1 M ((F ns').set i (.fix v d)) N) → Hold K B1 M (ρ.set i (.fix v d)) (t (De.to N))) (k2 : ∀ ns', P ns' → Hold K B M ((F ns').set i (.deep as d)) (w De)) : Hold K B M ρ (tSeq t w De) := fun B' b σ H st => by
  obtain ⟨v, e1, o⟩ := st.deepAt h
  have hilt := (List.getElem?_eq_some_iff.mp h).1
  have hllt := (List.getElem?_eq_some_iff.mp hl).1
  have asN : ∀ a ∈ as, a ∈ owns ρ := fun a ha => own_mem h ha
  have po : p ∈ owns ρ := own_mem hl (by simp [Sl.adr])
  have pas : p ∉ as := fun z => owns_inj st.nd hil hl h (by simp [Sl.adr]) z
  -- what is owned: as and p
  have only : ∀ a ∈ owns ρ, a ∈ as ∨ a = p := fun a ha => by
    obtain ⟨s, hs, has⟩ := mem_owns.mp ha
    obtain ⟨j, hj⟩ := List.getElem?_of_mem hs
    by_cases h1 : j = i
    · subst h1
      rw [h] at hj
      rw [← Option.some.inj hj] at has
      exact .inl has
    · by_cases h2 : j = l
      · subst h2
        rw [hl] at hj
        rw [← Option.some.inj hj] at has
        exact .inr (by simpa [Sl.adr] using has)
      · rw [hown j s hj h1 h2] at has
        cases has
  have sv0 : StOk K B' M (ρ.set i (.dat d)) σ H := st.vw h rfl
  -- the view, its value known
  have ev' : owns (ρ.set i (.fix v d)) = owns (ρ.set i (.dat d)) := by
    have := owns_swap (ρ := ρ.set i (.dat d)) (i := i) (s := .dat d) (s' := .fix v d) (List.getElem?_set_self hilt) rfl
    rw [List.set_set] at this
    exact this
  have sv : StOk K B' M (ρ.set i (.fix v d)) σ H := by
    refine ⟨sv0.ex, by rw [ev']; exact sv0.fr, by rw [ev']; exact sv0.nd, by rw [ev']; exact sv0.ap, sv0.mo, ?_⟩
    rw [ev']
    obtain ⟨o2, e2, v2, rfl, r2⟩ := sv0.ev.get (i := i) (List.getElem?_set_self hilt)
    rw [e1] at e2
    cases e2
    have := sv0.ev.set (i := i) (s := .fix v d) (o := some v) ⟨rfl, r2⟩
    rw [set_self e1, List.set_set] at this
    exact this
  obtain ⟨eb, sb⟩ := sv.base
  have ownv : ∀ a ∈ owns (ρ.set i (.fix v d)), a = p := fun a ha => by
    obtain ⟨s, hs, has⟩ := mem_owns.mp ha
    obtain ⟨j, hj⟩ := List.getElem?_of_mem hs
    by_cases h1 : j = i
    · subst h1
      rw [List.getElem?_set_self hilt] at hj
      rw [← Option.some.inj hj] at has
      cases has
    · rw [List.getElem?_set_ne (Ne.symm h1)] at hj
      by_cases h2 : j = l
      · subst h2
        rw [hl] at hj
        rw [← Option.some.inj hj] at has
        simpa [Sl.adr] using has
      · rw [hown j s hj h1 h2] at has
        cases has
  have asnd := adr_nd st.nd h
  refine k v (hid H (owns (ρ.set i (.fix v d)))) (b.trans eb) (w De) (fun ns' hp => ?_) _ (Ge.refl _) σ H sb
  intro B2 b2 σ2 H2 s2
  refine k2 ns' hp B' b σ2 H2 ?_
  have hFi : i < (F ns').length := by rw [hFl]; exact hilt
  have kpB : ∀ a o, a ≠ p → H a = some o → (∀ ps, o ≠ .tbl ps) → H2 a = some o := fun a o na ha nt => s2.ex.kp a o (b2.kp a o (by rw [hid_out fun z => na (ownv a z)]; exact ha) nt) nt
  have at_ : ∀ {j : Nat} {s : Sl}, ((F ns').set i (.deep as d))[j]? = some s → (j = i ∧ s = .deep as d) ∨ (j ≠ i ∧ (F ns')[j]? = some s) := fun {j s} hj => by
    by_cases h1 : j = i
    · subst h1
      rw [List.getElem?_set_self hFi] at hj
      exact .inl ⟨rfl, (Option.some.inj hj).symm⟩
    · rw [List.getElem?_set_ne (Ne.symm h1)] at hj
      exact .inr ⟨h1, hj⟩
  have sub2 : ∀ a ∈ owns ((F ns').set i (.deep as d)), a ∈ as ∨ a = p := fun a ha => by
    obtain ⟨s, hs, has⟩ := mem_owns.mp ha
    obtain ⟨j, hj⟩ := List.getElem?_of_mem hs
    rcases at_ hj with ⟨_, rfl⟩ | ⟨h1, hj⟩
    · exact .inl has
    · rcases hF ns' j s hj with e | rfl | ⟨v', d', rfl, _⟩ | ⟨_, rfl⟩
      · exact absurd e h1
      · cases has
      · cases has
      · exact .inr (by simpa [Sl.adr] using has)
  have inN : ∀ a ∈ owns ((F ns').set i (.deep as d)), a ∈ owns ρ := fun a ha => (sub2 a ha).elim (asN a) fun e => e ▸ po
  have G : Kp (hid H (owns ρ ++ M)) (hid H2 (owns ((F ns').set i (.deep as d)) ++ M)) := fun a o' q nt => by
    obtain ⟨m1, q⟩ := hid_some q
    rw [hid_out fun z => m1 ((List.mem_append.mp z).elim (fun z => List.mem_append_left _ (inN a z)) fun z => List.mem_append_right _ z)]
    exact kpB a o' (fun z => m1 (z ▸ List.mem_append_left _ po)) q nt
  have s2nd := s2.nd
  refine ⟨?_, fun a ha => st.fr a (inN a ha), ?_, fun a ha => st.ap a (inN a ha), s2.mo, ?_⟩
  · exact eb.trans (b2.trans s2.ex)
  · have := owns_set_nd (ρ := (F ns').set i (.fix v d)) i (s := .deep as d) s2.nd asnd fun a ha j t hj ht hat => by
      rw [List.getElem?_set_ne (Ne.symm hj)] at ht
      rcases hF ns' j t ht with e | rfl | ⟨v', d', rfl, _⟩ | ⟨_, rfl⟩
      · exact hj e
      · cases hat
      · cases hat
      · have : a = p := by simpa [Sl.adr] using hat
        exact pas (this ▸ ha)
    rw [List.set_set] at this
    exact this
  · refine paired_get (by rw [List.length_set, hFl]; have := s2.ev.length; rw [List.length_set, hFl] at this; exact this) fun j s y hj hy => ?_
    rcases at_ hj with ⟨rfl, rfl⟩ | ⟨h1, hj⟩
    · obtain ⟨o2, e2, rfl, _⟩ := s2.ev.get (i := j) (List.getElem?_set_self hFi)
      rw [e2] at hy
      cases hy
      refine ⟨v, rfl, fun a ha => List.mem_append_left _ (mem_owns.mpr ⟨.deep as d, List.mem_of_getElem? (i := j) (List.getElem?_set_self hFi), ha⟩), o.ups (fun a ha vs q => kpB a _ (fun z => pas (z ▸ ha)) q fun _ z => nomatch z) G⟩
    · have hj2 : ((F ns').set i (.fix v d))[j]? = some s := by rw [List.getElem?_set_ne (Ne.symm h1)]; exact hj
      have r2 := paired_at s2.ev hj2 hy
      rcases hF ns' j s hj with e | rfl | ⟨v', d', rfl, hρ⟩ | ⟨e, rfl⟩
      · exact absurd e h1
      · trivial
      · obtain ⟨o3, e3, _, r3⟩ := st.ev.get hρ
        exact ⟨r2.1, r3.ex G⟩
      · obtain ⟨e4, _, vs, q4, r4⟩ := r2
        rw [r4.ints] at q4
        exact ⟨e4, List.mem_append_left _ (mem_owns.mpr ⟨_, List.mem_of_getElem? (i := j) (by rw [List.getElem?_set_ne (Ne.symm h1)]; exact hj), by simp [Sl.adr]⟩), _, q4, RpA.of_ints ns'⟩
end
end Dl
/-! Copies; comprehensions of new lists; lists glued of new lists; insertion of what is drawn; or, reversed lists, empty dicts. -/
namespace Dl
open PySem PySem.Spec PyProof.Rows L2 LamX
variable {K : Cfg}
/-! ### data without lists within tuples -/
mutual
def D.noL : D → Bool
  | .lst _ => false
  | .tup xs => D.noLA xs
  | .dT _ _ => false
  | .dK _ _ => false
  | .ob _ => false
  | _ => true
def D.noLA : List D → Bool
  | [] => true
  | x :: xs => D.noL x && D.noLA xs
end
mutual
def D.leafy : D → Bool
  | .lst xs => D.leafyA xs
  | .tup xs => D.noLA xs
  | .dT _ _ => false
  | .dK _ _ => false
  | .ob _ => false
  | _ => true
def D.leafyA : List D → Bool
  | [] => true
  | x :: xs => D.leafy x && D.leafyA xs
end
theorem D.leafyA_iff : ∀ {xs : List D}, D.leafyA xs = true ↔ ∀ x ∈ xs, x.leafy = true
  | [] => by simp [D.leafyA]
  | x :: xs => by simp [D.leafyA, D.leafyA_iff (xs := xs)]
theorem D.leafy_noL {d : D} (h : d.leafy = true) (n : d.isL = false) : d.noL = true := by
  cases d with
  | lst xs => cases n
  | tup xs => simpa [D.leafy, D.noL] using h
  | dT ks xs => cases h
  | dK ks xs => cases h
  | ob R => cases h
  | _ => rfl
section
variable {G G' : Hp} {N N' : List Addr} {H : Hp}
mutual
theorem Rp.nol (f : ∀ a ∈ N', a ∉ N → ∃ vs, H a = some (.lst vs)) : ∀ (d : D) (v : V), d.noL = true → Rp K (hid H N) v d → Rp K (hid H N') v d
  | .non, _, _, h => by cases h; exact .non
  | .bl b, _, _, h => by cases h; exact .bl b
  | .int i, _, _, h => by cases h; exact .int i
  | .str x, _, _, h => by cases h; exact .str x
  | .lst ds, _, n, _ => by cases n
  | .dT ks ds, _, n, _ => by cases n
  | .dK ks ds, _, n, _ => by cases n
  | .ob R, _, n, _ => by cases n
  | .tup ds, _, n, h => by
    cases h with
    | tup h1 h2 =>
      obtain ⟨m, q⟩ := hid_some h1
      exact .tup (by
        rw [hid_out fun z => by obtain ⟨vs, hv⟩ := f _ z m; rw [q] at hv; cases hv]
        exact q) (RpA.nol f ds _ (by simpa [D.noL] using n) h2)
theorem RpA.nol (f : ∀ a ∈ N', a ∉ N → ∃ vs, H a = some (.lst vs)) : ∀ (ds : List D) (vs : List V), D.noLA ds = true → RpA K (hid H N) vs ds → RpA K (hid H N') vs ds
  | [], _, _, h => by cases h; exact .nil
  | d :: ds, _, n, h => by
    have n' : d.noL = true ∧ D.noLA ds = true := by simpa [D.noLA] using n
    cases h with
    | cons h1 h2 => exact .cons (Rp.nol f d _ n'.1 h1) (RpA.nol f ds _ n'.2 h2)
end
mutual
theorem Own.rpNol (k : ∀ d v, d.noL = true → Rp K G v d → Rp K G' v d) : ∀ (d : D) (v : V) (as : List Addr), d.leafy = true → (∀ a ∈ as, ∀ vs, H a = some (.lst vs) → G' a = some (.lst vs)) → Own K H G v d as → Rp K G' v d
  | d, v, as, lf, h, o => by
    cases o with
    | dat n r => exact k d v (D.leafy_noL lf n) r
    | lst h1 h2 => exact .lst (h _ List.mem_cons_self _ h1) (OwnA.rpNol k _ _ _ (by simpa [D.leafy] using lf) (fun a ha => h a (List.mem_cons_of_mem _ ha)) h2)
theorem OwnA.rpNol (k : ∀ d v, d.noL = true → Rp K G v d → Rp K G' v d) : ∀ (ds : List D) (vs : List V) (as : List Addr), D.leafyA ds = true → (∀ a ∈ as, ∀ vs, H a = some (.lst vs) → G' a = some (.lst vs)) → OwnA K H G vs ds as → RpA K G' vs ds
  | [], _, _, _, _, o => by cases o; exact .nil
  | d :: ds, _, _, lf, h, o => by
    have lf' : d.leafy = true ∧ D.leafyA ds = true := by simpa [D.leafyA] using lf
    cases o with
    | cons h1 h2 => exact .cons (Own.rpNol k d _ _ lf'.1 (fun a ha => h a (List.mem_append_left _ ha)) h1) (OwnA.rpNol k ds _ _ lf'.2 (fun a ha => h a (List.mem_append_right _ ha)) h2)
end
end
section
variable {B : Hp} {M : List Addr} {ρ : Env} {De : Ends} {te ta tb : TE} {d d' : D} {u w : TS} {σ : L2.St} {H : Hp}
/-- x = a copy of what slot i owns -/
theorem q_setCopy {i j : Nat} {as : List Addr} (h : ρ[i]? = some (.deep as d)) (he : EvDp K te (ρ.set i (.dat d)) d') (lf : d'.leafy = true) (k : Hold K B M (ρ.set j (.dat d')) (w De)) : Hold K B M ρ (tSeq (tAsg te (gName j)) w De) := fun B' b σ H st => by
  have sv := st.vw h rfl
  refine he _ σ H sv.mok sv.ev _ fun v as2 H2 e2 f2 n2 o2 => k B' b _ H2 ((st.grow e2).set rfl ⟨v, rfl, Own.rpNol (G := hid H2 (as2 ++ (owns (ρ.set i (.dat d)) ++ M))) (fun d0 v0 n r => Rp.nol (fun a ha hn => ?_) d0 v0 n r) d' v as2 lf (fun a ha vs hv => ?_) o2⟩)
  · -- what is hidden besides: lists of slot i
    have hn' : a ∉ owns (ρ.set i (.dat d)) ++ M := fun z => hn (List.mem_append_right _ z)
    have hao : a ∈ owns ρ := by
      rcases List.mem_append.mp ha with ha | ha
      · exact ha
      · exact absurd (List.mem_append_right _ ha) hn'
    obtain ⟨s, hs, has⟩ := mem_owns.mp hao
    obtain ⟨m, hm⟩ := List.getElem?_of_mem hs
    by_cases h1 : m = i
    · subst h1
      rw [h] at hm
      rw [← Option.some.inj hm] at has
      obtain ⟨v1, _, o1⟩ := st.deepAt h
      obtain ⟨vs, q⟩ := Own.at_ _ _ _ o1 a has
      exact ⟨vs, e2.kp.lst q⟩
    · exact absurd (List.mem_append_left _ (mem_owns.mpr ⟨s, List.mem_of_getElem? (i := m) (by rw [List.getElem?_set_ne (Ne.symm h1)]; exact hm), has⟩)) hn'
  · rw [hid_out fun z => st.mok.m a z (f2 a ha)]
    exact hv
theorem h_retIf {t : TT} {b : Bool} (h : EvT K t ρ b) (h1 : b = true → Hold K B M ρ (tRet ta De)) (h2 : b = false → Hold K B M ρ (tRet tb De)) : Hold K B M ρ (tRet (tIf t ta tb) De) := fun B' x σ H st =>
  h _ σ H st.mok st.ev _ fun H1 e1 => by
    cases b with
    | true =>
      show ta σ H1 De.rt
      exact h1 rfl B' x σ H1 (st.grow e1)
    | false =>
      show tb σ H1 De.rt
      exact h2 rfl B' x σ H1 (st.grow e1)
/-- return [*x, *new], x of ours -/
theorem h_retStar {i : Nat} {as : List Addr} {ds es : List D} (h : ρ[i]? = some (.deep as (.lst ds))) (he : EvDp K te ρ (.lst es)) (hl : ds.length + es.length ≤ 100000) (k : RetsD K B M De (.lst (ds ++ es))) : Hold K B M ρ (tRet (tLst (StX.tStar K (tVar i) (StX.tStar K te tNil))) De) := fun B' b σ H st => by
  obtain ⟨v, e1, o⟩ := st.deepAt h
  cases o with
  | dat n _ => cases n
  | @lst a vs _ as' q1 o1 =>
    have nd := List.nodup_cons.mp (adr_nd st.nd h)
    refine ⟨_, e1, a, vs, rfl, .inr (sq_of q1), he _ σ H st.mok st.ev _ fun v2 as2 H2 e2 f2 n2 o2 => ?_⟩
    cases o2 with
    | dat n _ => cases n
    | @lst a2 vs2 _ as2' q2 o2 =>
      have n2' := List.nodup_cons.mp n2
      refine ⟨a2, vs2, rfl, .inr (sq_of q2), sz_of (by rw [List.append_nil, List.length_append, o1.len, o2.len]; exact hl), fun p hp => ?_⟩
      rw [List.append_nil]
      have hin : ∀ c ∈ as', c ∈ owns ρ := fun c hc => own_mem h (List.mem_cons_of_mem _ hc)
      have lst1 : ∀ c ∈ as', ∃ vs, H c = some (.lst vs) := fun c hc => OwnA.at_ _ _ _ o1 c hc
      have p1 : p ∉ as' := fun z => by
        obtain ⟨ws, hw⟩ := lst1 p z
        rw [e2.kp.lst hw] at hp; cases hp
      have p2 : p ∉ as2' := fun z => by
        obtain ⟨ws, hw⟩ := OwnA.at_ _ _ _ o2 p z
        rw [hw] at hp; cases hp
      have p12 : ∀ c ∈ as', c ∉ as2' := fun c h1 h2 => by
        obtain ⟨ws, hw⟩ := lst1 c h1
        rw [f2 c (List.mem_cons_of_mem _ h2)] at hw; cases hw
      refine k (.ref p) (p :: (as' ++ as2')) _ (((b.trans st.ex).trans e2.ge).trans (Ex.new (K := K) (o := .lst (vs ++ vs2)) hp).ge) ((Ex.new (K := K) (o := .lst (vs ++ vs2)) hp).tb (e2.tb st.mo.t)) (fun c hc => ?_) (List.nodup_cons.mpr ⟨fun z => (List.mem_append.mp z).elim p1 p2, List.nodup_append.mpr ⟨nd.2, n2'.2, fun c h1 x h2 z => p12 c h1 (z ▸ h2)⟩⟩) (.lst upd_same (OwnA.app (OwnA.mono ?_ _ _ _ (fun c hc ws hw => ?_) o1) (OwnA.mono ?_ _ _ _ (fun c hc ws hw => ?_) o2)))
      · rcases List.mem_cons.mp hc with rfl | hc
        · exact (b.trans st.ex).back (e2.back hp)
        · rcases List.mem_append.mp hc with hc | hc
          · exact b.back (st.fr c (hin c hc))
          · exact (b.trans st.ex).back (f2 c (List.mem_cons_of_mem _ hc))
      · intro c o' q nt
        obtain ⟨m1, q⟩ := hid_some q
        have nc : c ∉ (p :: (as' ++ as2')) ++ M := fun z => by
          rcases List.mem_append.mp z with z | z
          · rcases List.mem_cons.mp z with rfl | z
            · rw [e2.back hp] at q; cases q
            · rcases List.mem_append.mp z with z | z
              · exact m1 (List.mem_append_left _ (hin c z))
              · rw [f2 c (List.mem_cons_of_mem _ z)] at q; cases q
          · exact m1 (List.mem_append_right _ z)
        rw [hid_out nc, upd_ne fun z : c = p => by rw [z, e2.back hp] at q; cases q]
        exact e2.kp c o' q nt
      · rw [upd_ne fun z : c = p => p1 (z ▸ hc)]
        exact e2.kp.lst hw
      · refine Kp.trans (H1 := hid H2 ((p :: (as' ++ as2')) ++ M)) ?_ (hid_kp (Kp.new hp))
        intro c o' q nt
        obtain ⟨m1, q⟩ := hid_some q
        have nc : c ∉ (p :: (as' ++ as2')) ++ M := fun z => by
          rcases List.mem_append.mp z with z | z
          · rcases List.mem_cons.mp z with rfl | z
            · rw [hp] at q; cases q
            · rcases List.mem_append.mp z with z | z
              · exact m1 (List.mem_append_right _ (List.mem_append_left _ (hin c z)))
              · exact m1 (List.mem_append_left _ (List.mem_cons_of_mem _ z))
          · exact m1 (List.mem_append_right _ (List.mem_append_right _ z))
        rw [hid_out nc]
        exact q
      · rw [upd_ne fun z : c = p => p2 (z ▸ hc)]
        exact hw
end
section
variable {ρ : Env} {te ta tb : TE}
/-- a comprehension whose items are new -/
theorem ed_lcm {α : Type} {wi : TI} {g : TG} {vs ix : List Nat} {L : List α} {enc : α → D} (v : α → D) (hs : SrcC K wi ρ (L.map enc)) (hl : L.length ≤ 100000)
    (ht : ∀ x ∈ L, ∃ ρ', Bnd K g (enc x) (wipeE ρ vs) ρ' ix ∧ EvDp K te ρ' (v x)) (hix : ∀ i ∈ ix, i ∈ vs := by decide) : EvDp K (tLc wi g tYes te vs) ρ (.lst (L.map v)) := fun M σ H m e Q q =>
  hs M σ H m e _ fun J H1 e1 j A hA => by
    have m1 := m.ex e1
    have nAM : A ∉ M := m1.new hA
    refine ⟨fun i k H2 => i + k = L.length ∧ ∃ (acc : List V) (as : List Addr), H2 A = some (.lst acc) ∧ OwnA K H2 (hid H2 (as ++ (A :: M))) acc ((L.take i).map v) as ∧ (∀ a ∈ as, H1 a = none ∧ a ≠ A) ∧ as.Nodup ∧ Ex K H1 H2, ⟨L.length, by omega, [], [], upd_same, .nil, (fun a ha => nomatch ha), List.nodup_nil, Ex.new hA⟩, fun i k H2 hw => ?_⟩
    obtain ⟨hik, acc, as, hacc, ho, hfr, hnd, hex⟩ := hw
    have fA : ∀ a ∈ as ++ (A :: M), hid H1 M a = none := fun a ha => by
      rcases List.mem_append.mp ha with ha | ha
      · by_cases z : a ∈ M
        · exact hid_in z
        · rw [hid_out z]; exact (hfr a ha).1
      · rcases List.mem_cons.mp ha with rfl | ha
        · rw [hid_out nAM]; exact hA
        · exact hid_in ha
    have mo2 : MOk K (as ++ (A :: M)) H2 := ⟨fun a ha => by
      rcases List.mem_append.mp ha with ha | ha
      · obtain ⟨ws, hw⟩ := OwnA.at_ _ _ _ ho a ha
        rw [hw]; simp
      · rcases List.mem_cons.mp ha with rfl | ha
        · rw [hacc]; simp
        · exact (m1.ex hex).m a ha, (m1.ex hex).t⟩
    by_cases hi : i < L.length
    · obtain ⟨x, hx⟩ : ∃ x, L[i]? = some x := ⟨_, List.getElem?_eq_getElem hi⟩
      obtain ⟨go, yl⟩ := j.turn (as ++ (A :: M)) H2 hex.kp fA mo2 i (enc x) (by rw [List.getElem?_map, hx]; rfl)
      obtain ⟨ρ', hb, ht2⟩ := ht x (List.mem_of_getElem? hx)
      refine .inr ⟨go, fun H' => (∃ (acc : List V) (as : List Addr), H' A = some (.lst acc) ∧ OwnA K H' (hid H' (as ++ (A :: M))) acc ((L.take (i + 1)).map v) as ∧ (∀ a ∈ as, H1 a = none ∧ a ≠ A) ∧ as.Nodup ∧ Ex K H1 H'), fun H' hN => ⟨k - 1, by omega, by omega, hN⟩, fun y H' hy => ?_⟩
      obtain ⟨e2, ry⟩ := yl y H' hy
      have mo3 := mo2.ex e2
      have frH : ∀ a ∈ as ++ [A], H a = none := fun a ha => by
        rcases List.mem_append.mp ha with ha | ha
        · exact e1.back (hfr a ha).1
        · rw [List.mem_singleton.mp ha]; exact e1.back hA
      have ew : EOk K (as ++ (A :: M)) H' (wipeE ρ vs) (L2.wipe σ vs) := by
        have := e.up ((e1.trans hex).trans e2) (hid_up (N := M) (as := as ++ [A]) ((e1.trans hex).trans e2) frH) fun a ha => List.mem_append_right _ ha
        rw [List.append_assoc] at this
        exact EOk.wipe this vs
      have htk : L.take (i + 1) = L.take i ++ [x] := by rw [List.take_succ, hx]; rfl
      refine hb.run (as ++ (A :: M)) _ H' y mo3 ew ry _ fun σ2 eo hw2 => ⟨(hw2 vs hix).trans wipe_wipe, ?_⟩
      refine (show te σ2 H' _ from ht2 (as ++ (A :: M)) σ2 H' mo3 eo _ fun z as2 H4 e4 f4 n4 o4 => ?_)
      have hacc4 : H4 A = some (.lst acc) := e4.kp.lst (e2.kp.lst hacc)
      have ho3 : OwnA K H' (hid H' (as ++ (A :: M))) acc ((L.take i).map v) as := OwnA.mono (hid_ex e2) _ _ _ (fun a ha ws hw => e2.kp.lst hw) ho
      refine ⟨acc, hacc4, ?_, acc ++ [z], as ++ as2, upd_same, ?_, fun a ha => ?_, List.nodup_append.mpr ⟨hnd, n4, fun a h1 c h2 zz => ?_⟩, ((hex.trans e2).trans e4).mut hA hacc4 True.intro⟩
      · have h1 := ho.len
        rw [List.length_map, List.length_take] at h1
        exact sz_lt (by omega)
      · rw [htk, List.map_append]
        have nA1 : ∀ a ∈ as, a ≠ A := fun a ha => (hfr a ha).2
        have nA2 : ∀ a ∈ as2, a ≠ A := fun a ha zz => by have := f4 a ha; rw [zz, e2.kp.lst hacc] at this; cases this
        have hidU : ∀ X : List Addr, A ∈ X → Kp (hid H4 X) (hid (upd H4 A (.lst (acc ++ [z]))) X) := fun X hX => hid_upd hX
        refine OwnA.app (OwnA.mono ?_ _ _ _ (fun a ha ws hw => by rw [upd_ne (nA1 a ha)]; exact e4.kp.lst hw) ho3) (bs := as2) ?_
        · -- as2 was not there
          intro a o' q nt
          obtain ⟨m5, q⟩ := hid_some q
          have ma : a ∉ (as ++ as2) ++ (A :: M) := fun zz => by
            simp only [List.mem_append, List.mem_cons] at zz m5
            rcases zz with (zz | zz) | zz | zz
            · exact m5 (.inl zz)
            · rw [f4 a zz] at q; cases q
            · exact m5 (.inr (.inl zz))
            · exact m5 (.inr (.inr zz))
          rw [hid_out ma, upd_ne fun zz : a = A => ma (by rw [zz]; simp)]
          exact e4.kp a o' q nt
        · have : OwnA K (upd H4 A (.lst (acc ++ [z]))) (hid (upd H4 A (.lst (acc ++ [z]))) ((as ++ as2) ++ (A :: M))) [z] [v x] (as2 ++ []) := .cons (o4.ups (fun a ha ws hw => by rw [upd_ne (nA2 a ha)]; exact hw) (Kp.trans (hid_less fun a ha => by
            simp only [List.mem_append, List.mem_cons] at ha ⊢
            rcases ha with (ha | ha) | ha | ha <;> simp [ha]) (hidU _ (by simp)))) .nil
          rw [List.append_nil] at this
          exact this
      · rcases List.mem_append.mp ha with ha | ha
        · exact hfr a ha
        · exact ⟨hex.back (e2.back (f4 a ha)), fun zz => by have := f4 a ha; rw [zz, e2.kp.lst hacc] at this; cases this⟩
      · subst zz
        obtain ⟨ws, hw⟩ := OwnA.at_ _ _ _ ho a h1
        have := e2.kp.lst hw
        rw [f4 a h2] at this; cases this
    · have hi' : i = L.length := by omega
      subst hi'
      rw [List.take_length] at ho
      refine .inl ⟨by have := j.stop H2 hex.kp; rw [List.length_map] at this; exact this, q (.ref A) (A :: as) H2 (e1.trans hex) (fun a ha => ?_) (List.nodup_cons.mpr ⟨fun z => (hfr A z).2 rfl, hnd⟩) (.lst hacc (OwnA.mono (hid_less fun a ha => ?_) _ _ _ (fun _ _ _ h => h) ho))⟩
      · rcases List.mem_cons.mp ha with rfl | ha
        · exact e1.back hA
        · exact e1.back (hfr a ha).1
      · simp only [List.mem_append, List.mem_cons] at ha ⊢
        rcases ha with (ha | ha) | ha <;> simp [ha]
end
end Dl
/-! Insertion of what is drawn; or, reversed lists, a list unpacked; empty dicts. -/
namespace Dl
open PySem PySem.Spec PyProof.Rows L2 LamX
variable {K : Cfg}
theorem k_orT {X : Cx} {a b : Expr} {ta tb : TE} {rest : List Expr} {pos : Pos} (κ : PySem.W.Frag) (h : X.K = κ) (ha : PE X a ta) (hb : PE X (.BoolOp .Or (b :: rest) pos) tb) : PE X (.BoolOp .Or (a :: b :: rest) pos) (tOrT κ ta tb) := h ▸ pe_orT ha hb
theorem k_revL {X : Cx} {e : Expr} {te : TE} {k : Nat} {p1 p2 p3 pos : Pos} (κ : PySem.W.Frag) (h : X.K = κ) (he : PE X e te) : PE X (.Subscript e (.Slice none none (some (.UnaryOp .USub (.Constant (.int 1) k p1) p2)) p3) pos) (tRevL κ te) := h ▸ pe_revL he
theorem k_glst {X : Cx} {es : List Expr} {k : Nat} {t : TGs} {n : Nat} {pos : Pos} (κ : PySem.W.Frag) (hk : X.K = κ) (hc : X.calm = true) (hh : PGs X es t)
    (hn : (assignEach es X.env).length = n := by rfl) (hst : (assignEach es X.env).findIdx? (·.1) = none := by rfl) : PG X (.Tuple es k pos) (gLst κ n t) := hk ▸ pg_lst hc hh hn hst
theorem k_tupleOf {X : Cx} {a : Expr} {ta : TE} {p pos : Pos} (κ : PySem.W.Frag) (h : X.K = κ) (hg : Gl X "tuple") (hm : X.mg "tuple" = none) (ha : PE X a ta) (na : starEach [a] X.env = (false, eval a X.env) :: starEach [] X.env := by rfl) : PE X (.Call (.Name "tuple" p) [a] [] pos) (tThen ta (kTup κ)) := h ▸ pe_tupleOf hg hm ha na
def rListD : List V → Hp → VK → Prop := fun xs H Q => ∃ (a : Addr) (kvs : List (Key × V)), xs = [.ref a] ∧ Rd H a (.dK kvs) ∧ ∀ p, H p = none → Q (.ref p) (upd H p (.lst (kvs.map fun kv => kV kv.1)))
theorem k_listD {X : Cx} (hc : X.calm = true) : CallR X (.type "list") rListD := call_listD hc
def rDictP (κ : PySem.W.Frag) : List V → Hp → VK → Prop := fun xs H Q => ∃ (a : Addr) (ps : List Addr) (kvs : List (Key × V)), xs = [.ref a] ∧ SqL κ H a (ps.map V.ref) ∧ Paired (fun p kv => SqT κ H p [kV kv.1, kv.2]) ps kvs ∧ ∀ p, H p = none → Q (.ref p) (upd H p (.dK (mergeK [] kvs)))
theorem k_dictP {X : Cx} (κ : PySem.W.Frag) (h : X.K = κ) (hc : X.calm = true) : CallR X (.type "dict") (rDictP κ) := h ▸ call_dictP hc
def rIns : V → List V → Hp → VK → Prop := fun x vs H Q => ∃ (l : Addr) (xs : List V) (i : Int) (y : V), x = .ref l ∧ vs = [.int i, y] ∧ H l = some (.lst xs) ∧ xs.length < sizeLine ∧ 0 ≤ i ∧ i < 2 ^ 63 ∧ Q .non (upd H l (.lst (xs.take i.toNat ++ [y] ++ xs.drop i.toNat)))
theorem mt_ins {X : Cx} : MtR X "list.insert" rIns := mt_insert
section
variable {ρ : Env} {ta tb te : TE}
theorem ev_orLs {κ : PySem.W.Frag} {xs : List D} {d : D} (hκ : κ = K.K) (ha : EvD K ta ρ (.lst xs)) (hb : xs = [] → EvD K tb ρ d) : EvD K (tOrT κ ta tb) ρ (if xs.isEmpty = true then d else .lst xs) := fun M σ H m e Q q =>
  ha M σ H m e _ fun v H1 e1 r1 => by
    subst hκ
    have r1' := r1
    cases r1 with
    | lst h1 h2 =>
      refine ⟨!xs.isEmpty, .inl ⟨_, sq_of (hid_some h1).2, ?_⟩, ?_⟩
      · have hl := h2.len
        cases xs with
        | nil =>
          rename_i vs
          cases vs with
          | nil => rfl
          | cons _ _ => cases hl
        | cons x xs =>
          rename_i vs
          cases vs with
          | nil => cases hl
          | cons _ _ => rfl
      · cases xs with
        | nil => exact hb rfl M σ H1 (m.ex e1) (e.ex e1) Q fun v H2 e2 r2 => q v H2 (e1.trans e2) r2
        | cons x xs => exact q _ H1 e1 r1'
theorem ev_rev {κ : PySem.W.Frag} {xs : List D} (hκ : κ = K.K) (ha : EvL K ta ρ xs) : EvD K (tRevL κ ta) ρ (.lst xs.reverse) := fun M σ H m e Q q =>
  ha M σ H m e _ fun v H1 e1 r1 => by
    subst hκ
    obtain ⟨a, vs, rfl, h1, r1⟩ := r1
    exact ⟨a, vs, rfl, sq_of h1, new_lst (m.ex e1) e1 r1.rev q⟩
theorem ev_dnewK : EvD K tDNewK ρ (.dK [] []) := fun M σ H m e Q q => fun p hp => q _ _ (Ex.new hp) (.dK (vs := []) (hid_new m hp) rfl .nil)
theorem rpE {H : Hp} {v : V} (r : Rp K H v (.dK [] [])) : ∃ a, v = .ref a ∧ H a = some (.dK []) := by
  cases r with
  | dK h1 h2 h3 => exact ⟨_, rfl, by simpa using h1⟩
theorem ev_listE (h : EvD K ta ρ (.dK [] [])) : EvD K (tCB rListD (tCons ta tNil)) ρ (.lst []) := fun M σ H m e Q q =>
  h M σ H m e _ fun v H1 e1 r1 => by
    obtain ⟨a, rfl, hq⟩ := rpE r1
    exact ⟨a, [], rfl, .inl (hid_some hq).2, new_lst (m.ex e1) e1 (.nil : RpA K (hid H1 M) [] []) q⟩
theorem ev_dictE {κ : PySem.W.Frag} (hκ : κ = K.K) (h : EvD K ta ρ (.lst [])) : EvD K (tCB (rDictP κ) (tCons ta tNil)) ρ (.dK [] []) := fun M σ H m e Q q =>
  h M σ H m e _ fun v H1 e1 r1 => by
    subst hκ
    cases r1 with
    | lst h1 h2 =>
      cases h2
      exact ⟨_, [], [], rfl, sq_of (hid_some h1).2, .nil, fun p hp => q _ _ (e1.trans (Ex.new hp)) (.dK (vs := []) (hid_new (m.ex e1) hp) rfl .nil)⟩
/-- a comprehension over an empty dict -/
theorem ev_lcE {i : Nat} {g : TG} {tt : TT} {vs : List Nat} (h : ρ[i]? = some (.dat (.dK [] []))) : EvD K (tLockE (tLc (iKeys (tVar i)) g tt te vs)) ρ (.lst []) := fun M σ H m e Q q => by
  obtain ⟨o, e1, v, rfl, r⟩ := e.get h
  obtain ⟨d, rfl, hd⟩ := rpE r
  have hd := (hid_some hd).2
  refine ⟨d, .dK [], hd, True.intro, fun od => ⟨.ref d, e1, d, od, rfl, .inl ⟨[], upd_same, fun D hD => ?_⟩⟩⟩
  have nD : D ≠ d := fun z => by rw [z, upd_same] at hD; cases hD
  have hD' : H D = none := by rw [upd_ne nD] at hD; exact hD
  refine ⟨fun i _ H' => i = 0 ∧ H' = upd (upd H d (.frz od (.dK []))) D (.lst []), ⟨0, rfl, rfl⟩, fun i _ H' hw => ?_⟩
  obtain ⟨rfl, rfl⟩ := hw
  have hfz : upd (upd H d (.frz od (.dK []))) D (.lst []) d = some (.frz od (.dK [])) := by rw [upd_ne nD.symm, upd_same]
  refine .inl ⟨⟨hfz, Nat.le_refl _⟩, hfz, q _ _ (Ex.all fun a o ha => ?_) (.lst (vs := []) ?_ .nil)⟩
  · by_cases z : a = d
    · subst z; rw [upd_same, ← ha, hd]
    · rw [upd_ne z, upd_ne (ne_of_none ha hD'), upd_ne z]; exact ha
  · rw [hid_out fun z => m.m D z hD', upd_ne nD, upd_same]
/-- a, b, c = a list -/
theorem b_lst3 {ρ1 ρ2 ρ3 : Env} {x y z : D} {g h f : TG} {i j k : List Nat} (h1 : Bnd K g x ρ ρ1 i) (h2 : Bnd K h y ρ1 ρ2 j) (h3 : Bnd K f z ρ2 ρ3 k) : Bnd K (gLst K 3 (gCons g (gCons h (gCons f gNil)))) (.lst [x, y, z]) ρ ρ3 (i ++ (j ++ k)) :=
  ⟨fun M σ H v m e r Q q => by
    cases r with
    | lst hs ha =>
      cases ha with
      | cons r1 ha =>
        cases ha with
        | cons r2 ha =>
          cases ha with
          | cons r3 ha =>
            cases ha
            exact ⟨_, _, rfl, sq_of (hid_some hs).2, rfl, _, _, rfl, h1.run M σ H _ m e r1 _ fun σ1 e1 w1 => ⟨_, _, rfl, h2.run M σ1 H _ m e1 r2 _ fun σ2 e2 w2 => ⟨_, _, rfl, h3.run M σ2 H _ m e2 r3 _ fun σ3 e3 w3 => ⟨rfl, q σ3 e3 fun vs hv =>
              (w3 vs fun l hl => hv l (List.mem_append_right _ (List.mem_append_right _ hl))).trans ((w2 vs fun l hl => hv l (List.mem_append_right _ (List.mem_append_left _ hl))).trans (w1 vs fun l hl => hv l (List.mem_append_left _ hl)))⟩⟩⟩⟩,
  fun a ha => h1.sub a (h2.sub a (h3.sub a ha)), fun h => h3.nd (h2.nd (h1.nd h))⟩
end
section
variable {B : Hp} {M : List Addr} {ρ : Env} {De : Ends} {te td : TE} {d : D} {w : TS} {p pf : Addr} {ns : List Int} {xs : List D}
/-- found.insert(drawn, item) -/
theorem h_insM {i l : Nat} {P : D → List Int → Prop} (hi : ρ[i]? = some (.own pf xs)) (hl : ρ[l]? = some (.own p (ns.map D.int))) (hil : i ≠ l) (hd : EvM K td ρ p ns P) (he : EvD K te (ρ.map onlyDat) d) (hP : ∀ r ns', P r ns' → ∃ j : Nat, r = .int j ∧ j < 100000) (hx : xs.length < 100000)
    (k : ∀ (j : Nat) ns', P (.int j) ns' → Hold K B M ((ρ.set l (.own p (ns'.map D.int))).set i (.own pf (xs.take j ++ [d] ++ xs.drop j))) De.nx) : Hold K B M ρ (tDrop (tBM K "list" rIns (tVar i) (tCons td (tCons te tNil))) De) := fun B' b σ H st => by
  obtain ⟨e1, vs, q1, r1⟩ := st.own hi
  have pm : p ∈ owns ρ ++ M := List.mem_append_left _ (own_mem hl (by simp [Sl.adr]))
  have npf : pf ≠ p := fun z => owns_inj (a := p) st.nd hil hi hl (by simp [Sl.adr, z]) (by simp [Sl.adr])
  refine ⟨_, e1, Or.inl ⟨rfl, vs, sq_of q1⟩, hd _ σ H st.mok st.ev pm (st.ints hl) _ fun w H1 r ns' hp x1 q2 r2 => he _ σ H1 (st.mok.exM x1) (st.ev.dats x1 pm) _ fun v H2 e2 r3 => ?_⟩
  obtain ⟨j, rfl, hj⟩ := hP r ns' hp
  cases r2
  have st2 := (st.exM hl x1 q2).grow e2
  have hi2 : (ρ.set l (.own p (ns'.map D.int)))[i]? = some (.own pf xs) := by rw [List.getElem?_set_ne hil.symm]; exact hi
  obtain ⟨_, vs2, q3, r4⟩ := st2.own hi2
  have ow : owns (ρ.set l (.own p (ns'.map D.int))) = owns ρ := owns_swap hl rfl
  have am : pf ∈ owns (ρ.set l (.own p (ns'.map D.int))) ++ M := List.mem_append_left _ (own_mem hi2 (by simp [Sl.adr]))
  refine ⟨pf, vs2, (j : Int), v, rfl, rfl, q3, sz_lt (by rw [r4.len]; exact hx), by omega, by omega, k j ns' hp B' b σ _ (st2.mut q3 True.intro hi2 rfl rfl ?_)⟩
  rw [e1]
  rw [ow] at r4 am ⊢
  refine ⟨rfl, am, _, upd_same, ?_⟩
  rw [Int.toNat_natCast]
  exact (((r4.take _).app (.cons r3 .nil)).app (r4.drop _)).ex (hid_upd am)
end
end Dl
/-! Dicts whose keys are nested tuples. -/
namespace Dl
open PySem PySem.Spec PyProof.Rows L2 LamX
abbrev NEs := List (NestedKey × Addr × Value)
def NO (a : Addr) (o : Obj) : HO := .ext fun h => h.get? a = some o
theorem no_ok {P : Program} {w : World} {H : Hp} {h : Heap} {a : Addr} {o : Obj} (e : h.get? a = some o) : ObjOk P w H h a (NO a o) := ⟨e, ⟨o, e⟩, fun h1 h2 q k => k o q⟩
theorem no_at {P : Program} {w : World} {H : Hp} {h : Heap} {a : Addr} {o : Obj} (ok : HOk P w H h) (e : H a = some (NO a o)) : h.get? a = some o := (ok a _ e).1
def nent (w : World) (x : NestedKey × Addr × Value) : DictEntry := ⟨x.1.hash w, .ref x.2.1, x.2.2⟩
/-- the object o at a is the dict of xs -/
structure NDict (w : World) (a : Addr) (o : Obj) (xs : NEs) : Prop where
  sys : (a == sysModules) = false
  len : xs.length ≤ sizeLine
  ex : o.ExactDict
  dat : ∃ es ep, o.data = .dict es ep ∧ es.toList = xs.map (nent w)
  nd : (xs.map (·.1)).Nodup
mutual
inductive NK (H : Hp) : V → NestedKey → Prop
  | int (i : Int) : NK H (.int i) (.num i)
  | tup {a : Addr} {vs : List V} {ks : List NestedKey} : H a = some (.tup vs) → NKA H vs ks → NK H (.ref a) (.tup ks)
inductive NKA (H : Hp) : List V → List NestedKey → Prop
  | nil : NKA H [] []
  | cons {v : V} {vs : List V} {k : NestedKey} {ks : List NestedKey} : NK H v k → NKA H vs ks → NKA H (v :: vs) (k :: ks)
end
section
variable {P : Program} {w : World} {H : Hp} {h : Heap}
mutual
theorem NK.is (ok : HOk P w H h) : ∀ (k : NestedKey) (v : V) (u : Value), NK H v k → RelV v u → NestedIs h k u
  | .num i, _, u, x, r => by
    cases x
    obtain ⟨t, rfl⟩ := r
    exact .int i t
  | .tup ks, _, u, x, r => by
    cases x with
    | @tup a vs _ ha hs =>
      obtain rfl : u = .ref a := r
      obtain ⟨_, its, rv, o, h1, h2, n, h3⟩ := (show ObjOk P w H h a (.tup vs) from ok a _ ha)
      exact .tup h1 h2 h3 (NKA.is ok ks vs its hs rv)
  | .none, _, _, x, _ => by cases x
  | .text _, _, _, x, _ => by cases x
theorem NKA.is (ok : HOk P w H h) : ∀ (ks : List NestedKey) (vs : List V) (us : List Value), NKA H vs ks → Vals vs us → NestedAll h ks us
  | [], _, _, x, r => by cases x; cases r; exact .nil
  | k :: ks, _, _, x, r => by
    cases x with
    | cons x1 x2 =>
      cases r with
      | cons r1 r2 => exact .cons (NK.is ok k _ _ x1 r1) (NKA.is ok ks _ _ x2 r2)
end
mutual
theorem NK.up {H H' : Hp} (t : ∀ a vs, H a = some (.tup vs) → H' a = some (.tup vs)) : ∀ (k : NestedKey) (v : V), NK H v k → NK H' v k
  | .num i, _, x => by cases x; exact .int i
  | .tup ks, _, x => by cases x with | tup ha hs => exact .tup (t _ _ ha) (NKA.up t ks _ hs)
  | .none, _, x => by cases x
  | .text _, _, x => by cases x
theorem NKA.up {H H' : Hp} (t : ∀ a vs, H a = some (.tup vs) → H' a = some (.tup vs)) : ∀ (ks : List NestedKey) (vs : List V), NKA H vs ks → NKA H' vs ks
  | [], _, x => by cases x; exact .nil
  | k :: ks, _, x => by cases x with | cons x1 x2 => exact .cons (NK.up t k _ x1) (NKA.up t ks _ x2)
end
/-- all keys are tracked -/
def NTr (H : Hp) (xs : NEs) : Prop := ∀ z ∈ xs, NK H (.ref z.2.1) z.1 ∧ z.1.depth ≤ 8
theorem dict_of {a : Addr} {o : Obj} {xs : NEs} (ok : HOk P w H h) (e : H a = some (NO a o)) (d : NDict w a o xs) (t : NTr H xs) : h.DictOfH (nestedKind P w) a xs := by
  obtain ⟨es, ep, h1, h2⟩ := d.dat
  exact ⟨o, es, ep, no_at ok e, d.ex, h1, h2, fun x hx => ⟨NK.is ok _ _ _ (t x hx).1 rfl, (t x hx).2⟩, d.nd⟩
end
section
variable {X : Cx}
/-- t not in d -/
def rNNotIn (w : World) : R2 := fun y x H Q => ∃ (a b : Addr) (o : Obj) (xs : NEs) (k : NestedKey), x = .ref a ∧ y = .ref b ∧ H a = some (NO a o) ∧ NDict w a o xs ∧ NTr H xs ∧ NK H (.ref b) k ∧ k.depth ≤ 8 ∧ Q (.bl (!(atKey xs k).isSome)) H
theorem op_nnotin (hu : X.A.units + 9 < cLine) : OpR X (compareOp .NotIn) (rNNotIn X.w) := by
  intro pins s σ H y x v u Q I ry rx h
  obtain ⟨a, b, o, xs, k, rfl, rfl, ha, d, t, hk, hd, q⟩ := h
  obtain rfl : u = .ref a := rx
  obtain rfl : v = .ref b := ry
  refine wpAny_notIn_heap (knd := nestedKind X.prog X.w) (by show X.A.units + 1 + 8 < cLine; omega) ⟨NK.is I.hok _ _ _ hk rfl, hd⟩ d.sys (dict_of I.hok ha d t) ?_
  exact ⟨.bl _, H, I.tok _, rfl, q⟩
/-- d[t] = True -/
def sNPut (w : World) (td ty tv : TE) : TS := fun D σ H => tv σ H fun v H1 => td σ H1 fun x H2 => ty σ H2 fun y H3 => ∃ (a b : Addr) (o : Obj) (xs : NEs) (k : NestedKey), x = .ref a ∧ y = .ref b ∧ v = .bl true ∧ H3 a = some (NO a o) ∧ NDict w a o xs ∧ NTr H3 xs ∧ NK H3 (.ref b) k ∧ k.depth ≤ 8 ∧ xs.length < 100000 ∧
  ∀ o', NDict w a o' (storedH xs k b (.bool true)) → D.nx σ (upd H3 a (NO a o'))
theorem ps_nput {o i value : Expr} {pos pos' : Pos} {td ty tv : TE} (hu : X.A.units + 9 < cLine) (ho : PE X o td) (hi : PE X i ty) (hv : PE X value tv) (hs : swapsWith value (some (.Subscript o i pos')) pos.line X.env = pure false) :
    PS X (.Assign [.Subscript o i pos'] value pos) (sNPut X.w td ty tv) := by
  refine ⟨fun pins s σ H D I h => ?_⟩
  refine wpAny_Assign_Subscript (thn (hv.run pins s σ H _ I h) fun r s1 ⟨v, H1, I1, rv, q1⟩ => thn (ho.run pins s1 σ H1 _ I1 q1) fun u s2 ⟨x, H2, I2, rx, q2⟩ => thn (hi.run pins s2 σ H2 _ I2 q2) fun iv s3 ⟨y, H3, I3, ry, a, b, ob, xs, k, ex, ey, ev, ha, d, t, hk, hd, hl, q3⟩ => ?_) hs
  subst ex ey ev
  obtain rfl : u = Value.ref a := rx
  obtain rfl : iv = Value.ref b := ry
  obtain rfl : r = Value.bool true := rv
  refine wpAny_setItem_heap (knd := nestedKind X.prog X.w) (hsz := d.len) (by show X.A.units + 1 + 8 < cLine; omega) ⟨NK.is I3.hok _ _ _ hk rfl, hd⟩ (dict_of I3.hok ha d t) fun h' dd' hs => ?_
  obtain ⟨q, es, ep, hq, h2, h3, h4, _, h5⟩ := dd'
  have hz : (storedH xs k b (.bool true)).length ≤ sizeLine := by
    have e := storedH_length xs k b (.bool true)
    have := sizeLine_eq
    omega
  have I4 : Inv X pins σ (upd H3 a (NO a q)) { s3 with heap := h', toks := _ } := d_write (t' := s3.toks + (nestedKind X.prog X.w).draws k) I3 (by rw [ha]; exact True.intro) hs ⟨q, hq⟩ (no_ok hq)
  exact ⟨σ, _, I4, q3 q ⟨d.sys, hz, h2, ⟨es, ep, h3, h4⟩, h5⟩⟩
/-- {}, to be such a dict -/
def tNNew (w : World) : TE := fun _ H Q => ∀ p, H p = none → ∀ o, NDict w p o [] → Q (.ref p) (upd H p (NO p o))
theorem pe_nnew {pos : Pos} : PE X (.Dict [] [] pos) (tNNew X.w) := ⟨fun pins s σ H Q I h => by
  have ob : (s.heap.push { cls := .type "dict", data := .dict #[] }).get? s.heap.objs.size = some { cls := .type "dict", data := .dict #[] } := Heap.get?_push_size _ rfl
  exact wpAny_Dict_empty ⟨.ref s.heap.objs.size, _, I.laid (a := s.heap.objs.size) (o := NO s.heap.objs.size { cls := .type "dict", data := .dict #[] }) (t' := s.toks) (fun _ _ q => Heap.get?_push_of_some _ q) (Nat.le_refl _) (no_ok ob), rfl,
    h _ (I.hok.fresh (Nat.le_refl _)) _ ⟨beq_eq_false_iff_ne.mpr (Ne.symm (Nat.ne_of_lt I.big)), Nat.zero_le _, ⟨rfl, rfl, rfl⟩, ⟨#[], 0, rfl, rfl⟩, List.nodup_nil⟩⟩⟩
/-- {(): True} -/
def tNUnit (w : World) : TE := fun _ H Q => ∀ (p q : Addr) (H2 : Hp) (o : Obj), H p = none → H q = none → p ≠ q → H2 p = some (NO p o) → H2 q = some (.tup []) → (∀ a u, H a = some u → H2 a = some u) → NDict w p o [(.tup [], q, .bool true)] → Q (.ref p) H2
theorem pe_nunit {k v : Expr} {pos : Pos} (hu : X.A.units + 9 < cLine) (hk : PE X k (tTup tNil)) (hv : PE X v (tC (.bl true))) : PE X (.Dict [some k] [v] pos) (tNUnit X.w) := ⟨fun pins s σ H Q I h => by
  have hn := I.hok.fresh (Nat.le_refl s.heap.objs.size)
  have big := I.big
  generalize hp : s.heap.objs.size = p at hn big
  have ob : (s.heap.push { cls := .type "dict", data := .dict #[] }).get? p = some { cls := .type "dict", data := .dict #[] } := by rw [← hp]; exact Heap.get?_push_size _ rfl
  have sys : (p == sysModules) = false := beq_eq_false_iff_ne.mpr (Ne.symm (Nat.ne_of_lt big))
  have d0 : NDict X.w p { cls := .type "dict", data := .dict #[] } [] := ⟨sys, Nat.zero_le _, ⟨rfl, rfl, rfl⟩, ⟨#[], 0, rfl, rfl⟩, List.nodup_nil⟩
  have I1 : Inv X pins σ (upd H p (NO p { cls := .type "dict", data := .dict #[] })) { s with heap := s.heap.push { cls := .type "dict", data := .dict #[] } } := by
    have := I.laid (a := p) (o := NO p { cls := .type "dict", data := .dict #[] }) (h' := s.heap.push { cls := .type "dict", data := .dict #[] }) (t' := s.toks) (fun _ _ q => Heap.get?_push_of_some _ q) (by rw [hp]; exact Nat.le_refl _) (no_ok ob)
    exact this
  have ps1 : PPs X pos [some k] [v] [(tTup tNil, tC (.bl true))] := pps_cons hk hv pps_nil
  have hall : ([some k] : List (Option Expr)).all (·.isSome) = true := rfl
  have hn1 := pairTrees_length [some k] [v] X.env pos hall rfl
  rw [arm_eval_Dict, zip_pairTrees [some k] [v] X.env pos hall rfl, dictDisplay_pairs (pairTrees [some k] [v] X.env pos) (fun he => by rw [he] at hn1; cases hn1) (by rw [hn1]; show 1 < 17; decide)]
  refine wpAny_bind (wpAny_standAt (wpAny_bind (wpAny_subDictH (knd := nestedKind X.prog X.w) (Q := fun d s' => wpAny (model X.prog X.w) X.A (pure (Value.ref d)) (EP X pins σ Q) X.xe s') (by show X.A.units + 8 < cLine; omega) (by rw [hn1]; show 1 ≤ 15; decide) (thn (ps1.run pins _ σ _ (fun ps H2 => ∃ q, ps = [(.ref q, .bl true)] ∧ H2 = upd (upd H p (NO p { cls := .type "dict", data := .dict #[] })) q (.tup []) ∧ upd H p (NO p { cls := .type "dict", data := .dict #[] }) q = none) I1 ?_) fun ws s2 ⟨ps, H2, I2, rel, q, ep, eH, hq⟩ => ?_))))
  · exact ⟨Nat.zero_le _, fun a ha => ⟨a, rfl, rfl, ha⟩⟩
  · subst ep eH
    have neq : p ≠ q := fun z => by rw [← z, upd_same] at hq; cases hq
    have hq0 : H q = none := by rw [upd_ne (Ne.symm neq)] at hq; exact hq
    obtain ⟨b, eb⟩ : ∃ b, ws = [b] := by
      cases rel with
      | cons _ t => cases t; exact ⟨_, rfl⟩
    subst eb
    obtain ⟨b1, b2⟩ := b
    have e12 : b1 = .ref q ∧ b2 = .bool true := by
      cases rel with
      | cons r _ => exact ⟨r.1, r.2⟩
    obtain ⟨rfl, rfl⟩ := e12
    have hNK : NK (upd (upd H p (NO p { cls := .type "dict", data := .dict #[] })) q (.tup [])) (.ref q) (.tup []) := .tup upd_same .nil
    have hp2 : upd (upd H p (NO p { cls := .type "dict", data := .dict #[] })) q (.tup []) p = some (NO p { cls := .type "dict", data := .dict #[] }) := by rw [upd_ne neq, upd_same]
    refine ⟨[(.tup [], q, .bool true)], ⟨rfl, rfl, ⟨NK.is I2.hok _ _ _ hNK rfl, (by decide : (0 : Nat) + 1 ≤ 8)⟩, trivial⟩, by rw [hp]; exact dict_of I2.hok hp2 d0 (fun z hz => nomatch hz), fun h' tk dd' hs => wpAny_pure ?_⟩
    rw [hp] at dd' hs ⊢
    obtain ⟨o', es, ep', hq', h2, h3, h4, _, h5⟩ := dd'
    have I3 : Inv X pins σ (upd (upd (upd H p (NO p { cls := .type "dict", data := .dict #[] })) q (.tup [])) p (NO p o')) { s2 with heap := h', toks := tk } := d_write I2 (by rw [hp2]; exact True.intro) hs ⟨o', hq'⟩ (no_ok hq')
    refine ⟨.ref p, _, I3, rfl, h p q _ o' hn hq0 neq upd_same (by rw [upd_ne (Ne.symm neq), upd_same]) (fun a u ha => ?_) ⟨sys, (by decide : (1 : Nat) ≤ sizeLine), h2, ⟨es, ep', h3, h4⟩, h5⟩⟩
    rw [upd_ne (ne_of_none ha hn), upd_ne (ne_of_none ha hq0), upd_ne (ne_of_none ha hn)]
    exact ha⟩
/-! ### the keys, one by one -/
def Itn (d : Addr) (o : Obj) (xs : NEs) : It :=
  ⟨fun i H => H d = some (NO d o) ∧ i < xs.length, fun i H x H' => H' = H ∧ ∃ z, xs[i]? = some z ∧ x = .ref z.2.1, fun i H => H d = some (NO d o) ∧ xs.length ≤ i⟩
end
section
variable {P : Program} {w : World} {K : PySem.W.Frag} {tg : Expr} {d : Addr} {o : Obj} {es : Array DictEntry} {ep : Nat}
theorem turn_keysN {xs : NEs} (it : Addr) (hod : o.data = .dict es ep) (hes : es.toList = xs.map (nent w)) : Turn P w K tg (Itn d o xs) [it] it (fun i h => h.IsKeyIter it d i xs.length ep) where
  mem := by simp
  obj := fun i h st b hb => by
    have e : b = it := by simpa using hb
    subst e
    obtain ⟨oi, e, c, dd⟩ := st
    exact ⟨oi, e, fun v z => by rw [dd] at z; cases z⟩
  keep := fun i h h' st k => st.at fun oi e => k it (by simp) oi e
  item := by
    intro X hP hw hK hc i pins s σ H E I hf st hg
    subst hP hw hK
    obtain ⟨hd, hi⟩ := hg
    obtain ⟨f0, f1, f2, f3, f4, f5⟩ := hf it (by simp)
    have hgd := no_at I.hok hd
    have hsz : es.size = xs.length := by have := congrArg List.length hes; simpa using this
    obtain ⟨z, hz⟩ : ∃ z, xs[i]? = some z := ⟨xs[i], List.getElem?_eq_getElem hi⟩
    have hen : es[i]? = some (nent X.w z) := by rw [← Array.getElem?_toList, hes, List.getElem?_map, hz]; rfl
    refine next_key_item st hgd hod hsz hen fun h' st' sb => ?_
    have I1 : Inv X pins σ H { s with heap := h' } := I.turned (t' := s.toks) (fun b ob hb e => (sb.2 b hb).trans e) f0 f1 f3 f4 f5
    obtain ⟨oi, e, c, dd⟩ := id st'
    exact ⟨_, rfl, go_of (s := { s with heap := h' }) e c dd (by decide) ⟨.ref z.2.1, H, I1, rfl, ⟨rfl, z, hz, rfl⟩, st', fun b hb => (hf b hb).1⟩⟩
  done := by
    intro X hP hw hK hc i pins s σ H E I hf st hg
    subst hP hw hK
    obtain ⟨hd, hi⟩ := hg
    obtain ⟨f0, f1, f2, f3, f4, f5⟩ := hf it (by simp)
    have hgd := no_at I.hok hd
    have hsz : es.size = xs.length := by have := congrArg List.length hes; simpa using this
    exact next_key_end (I.ok.hd hc) st hgd hod hsz hi fun h' eb => ⟨rfl, I.turned (t' := s.toks) (fun b ob hb e => eb b ob hb e) f0 f1 f3 f4 f5⟩
  self := fun A i s Q E st h => by
    refine wpAny_pyIter_slot st.typeIs PySem.F.slot_dict_keyiterator_iter (wpAny_call_entry PySem.F.slot_dict_keyiterator_iter st.typeIs PySem.F.entry_dict_keyiterator_iter ?_ (PySem.F.args_dict_keyiterator_iter_1 _))
    show wpAny _ _ (ret (.ref it)) _ _ s
    exact wpAny_pure ⟨_, rfl, "dict_keyiterator", _, st.typeIs, PySem.F.slot_dict_keyiterator_next.lookup, h⟩
def iKeysN (w : World) (td : TE) : TI := fun σ H R => td σ H fun x H1 => ∃ (d : Addr) (o : Obj) (xs : NEs), x = .ref d ∧ H1 d = some (NO d o) ∧ NDict w d o xs ∧ R (Itn d o xs) H1
end
section
variable {X : Cx}
theorem pi_keysN {tg e : Expr} {td : TE} (he : PE X e td) : PI X tg e (iKeysN X.w td) := by
  refine ⟨fun pins s σ H R I h => ?_⟩
  refine thn (he.run pins s σ H _ I h) fun u s1 ⟨x, H1, I1, rx, d, o, xs, ex, hd, nd, q⟩ => ?_
  subst ex
  obtain rfl : u = Value.ref d := rx
  obtain ⟨es, ep, hdt, hes⟩ := nd.dat
  have hsz : es.size = xs.length := by have := congrArg List.length hes; simpa using this
  refine iter_keys nd.sys (no_at I1.hok hd) nd.ex hdt (pi_one (tk := s1.toks) I1 _ (turn_keysN _ hdt hes) ⟨_, Heap.get?_push_size _ rfl, rfl, ?_⟩ q)
  rw [hsz] <;> rfl
/-! ### dict([(t, True) ..]), len -/
def rDictN (w : World) (κ : PySem.W.Frag) : List V → Hp → VK → Prop := fun xs H Q => ∃ (a : Addr) (ps : List Addr) (es : NEs), xs = [.ref a] ∧ SqL κ H a (ps.map V.ref) ∧ Paired (fun p z => SqT κ H p [.ref z.2.1, .bl true] ∧ z.2.2 = .bool true) ps es ∧ NTr H es ∧ ps.length ≤ 100000 ∧
  ∀ (p : Addr) (o : Obj), H p = none → NDict w p o (storedAllH [] es) → Q (.ref p) (upd H p (NO p o))
theorem prs_at {pins : List (Addr × Obj)} {σ : L2.St} {H : Hp} {s : Shared} (I : Inv X pins σ H s) : ∀ {ps : List Addr} {es : NEs}, Paired (fun p (z : NestedKey × Addr × Value) => SqT X.K H p [.ref z.2.1, .bl true] ∧ z.2.2 = .bool true) ps es →
    ps.length = es.length ∧ ∀ (j : Nat) (z : NestedKey × Addr × Value), es[j]? = some z → ∃ b : Addr, ps[j]? = some b ∧ IsTup s.heap b #[.ref z.2.1, z.2.2]
  | _, _, .nil => ⟨rfl, fun j z e => by simp at e⟩
  | _, _, .cons (a := p) (b := z0) h t => by
    obtain ⟨hl, hp⟩ := prs_at I t
    obtain ⟨its, rv, ht, _⟩ := I.tuple h.1
    obtain ⟨u, y, ei, ru, ry⟩ := vals2 rv
    subst ei
    obtain rfl : u = .ref z0.2.1 := ru
    obtain rfl : y = .bool true := ry
    refine ⟨by rw [List.length_cons, List.length_cons, hl], fun j z e => ?_⟩
    cases j with
    | zero =>
      have e' : z0 = z := Option.some.inj e
      subst e'
      exact ⟨p, rfl, by rw [h.2]; exact ht⟩
    | succ j =>
      obtain ⟨b, e1, e2⟩ := hp j z (by simpa using e)
      exact ⟨b, by simpa using e1, e2⟩
theorem call_dictN (hcalm : X.calm = true) (hu : X.A.units + 10 < cLine) : CallR X (.type "dict") (rDictN X.w X.K) := by
  intro pins s σ H xs us Q I r q
  obtain ⟨a, ps, es, ex, hq, hp, tr, hlen, q⟩ := q
  subst ex
  obtain ⟨u, eu, rx⟩ := vals1 r
  subst eu
  cases rx
  obtain ⟨its, rv, pl, hz⟩ := I.list hq
  have ei := refs_at rv
  subst ei
  obtain ⟨hl, hpr⟩ := prs_at I hp
  obtain ⟨o, n, ho, hc, hd, hdat⟩ := pl
  have big := I.big
  have hes : (es.map fun z => ((Value.ref z.2.1, z.2.2) : Value × Value)).length = es.length := List.length_map _
  have PA := PairArg.list (prog := X.prog) (w := X.w) a (ps.map Value.ref).toArray (fun j => ps.getD j 0) (es.map fun z => (Value.ref z.2.1, z.2.2))
  have okA : PlainSeq "list" s.heap a (ps.map Value.ref).toArray ∧ PairItems s.heap (ps.map Value.ref).toArray (fun j => ps.getD j 0) (es.map fun z => (Value.ref z.2.1, z.2.2)) := by
    refine ⟨⟨o, n, ho, hc, hd, hdat⟩, by simp [hl], fun j k v e => ?_⟩
    rw [List.getElem?_map] at e
    cases hz : es[j]? with
    | none => rw [hz] at e; cases e
    | some z =>
      rw [hz] at e
      obtain ⟨b, e1, e2⟩ := hpr j z hz
      cases Option.some.inj e
      have eb : ps.getD j 0 = b := by rw [List.getD_eq_getElem?_getD, e1]; rfl
      refine ⟨by simp [e1, eb], .inl ?_⟩
      show s.heap.IsTuple (ps.getD j 0) _
      rw [eb]
      obtain ⟨ot, h1, h2, nt, h3⟩ := e2
      exact ⟨ot, h1, h2, nt, h3⟩
  refine call_dict_pairsH (knd := nestedKind X.prog X.w) (ps := es) PA (I.ok.hd hcalm) (by show X.A.units + 1 + 1 + 8 < cLine; omega) okA ⟨by rw [hes], fun j k v e => ?_⟩ (fun h' hk x hx => ?_) (by rw [hes, ← hl, sizeLine_eq]; omega) fun h' tk dd' hk => ?_
  · have e : (es.map fun z => ((Value.ref z.2.1, z.2.2) : Value × Value))[j]? = some (k, v) := e
    rw [List.getElem?_map] at e
    cases hz : es[j]? with
    | none => rw [hz] at e; cases e
    | some z =>
      rw [hz] at e
      cases Option.some.inj e
      exact ⟨z.1, z.2.1, rfl, rfl⟩
  · exact ⟨NestedIs.at (fun b ob vs n hb _ => hk b ob (Nat.ne_of_lt (Heap.lt_size hb)) (by simp) hb) _ _ (NK.is I.hok _ _ _ (tr x hx).1 rfl), (tr x hx).2⟩
  · obtain ⟨o', es', ep, h1, h2, h3, h4, _, h5⟩ := dd'
    have hm : (s.heap.objs.size == sysModules) = false := beq_eq_false_iff_ne.mpr (Nat.ne_of_gt big)
    have hz2 : (storedAllH [] es).length ≤ sizeLine := by
      have := storedAllH_length es ([] : NEs)
      rw [List.length_nil] at this
      rw [sizeLine_eq]; omega
    exact ⟨.ref s.heap.objs.size, upd H s.heap.objs.size (NO s.heap.objs.size o'), I.laid (t' := tk) (fun b ob e => hk b ob (by simp) e) (Nat.le_refl _) (no_ok h1), rfl, q _ _ (I.hok.fresh (Nat.le_refl _)) ⟨hm, hz2, h2, ⟨es', ep, h3, h4⟩, h5⟩⟩
def rLenN (w : World) : List V → Hp → VK → Prop := fun xs H Q => ∃ (p : Addr) (o : Obj) (es : NEs), xs = [.ref p] ∧ H p = some (NO p o) ∧ NDict w p o es ∧ NTr H es ∧ es.length ≤ 100000 ∧ Q (.int ((es.length : Nat) : Int)) H
theorem call_lenN : CallR X (.builtin "len") (rLenN X.w) := by
  intro pins s σ H xs us Q I r h
  obtain ⟨p, o, es, rfl, hp, nd, tr, hl, q⟩ := h
  obtain ⟨u, rfl, rx⟩ := vals1 r
  obtain rfl : u = .ref p := rx
  exact call_len_dictH nd.sys (dict_of I.hok hp nd tr) (by omega) ⟨.int ((es.length : Nat) : Int), H, I.tok _, ⟨_, rfl⟩, q⟩
end
end Dl
/-! Dicts with nested keys: judgements. -/
namespace Dl
open PySem PySem.Spec PyProof.Rows L2 LamX
mutual
def D.nk : D → NestedKey
  | .int i => .num i
  | .tup xs => .tup (D.nkA xs)
  | .non => .none
  | .bl _ => .none
  | .str _ => .none
  | .lst _ => .none
  | .dT _ _ => .none
  | .dK _ _ => .none
  | .ob _ => .none
def D.nkA : List D → List NestedKey
  | [] => []
  | x :: xs => D.nk x :: D.nkA xs
end
mutual
/-- ints and tuples of such -/
def D.flat : D → Bool
  | .int _ => true
  | .tup xs => D.flatA xs
  | .non => false
  | .bl _ => false
  | .str _ => false
  | .lst _ => false
  | .dT _ _ => false
  | .dK _ _ => false
  | .ob _ => false
def D.flatA : List D → Bool
  | [] => true
  | x :: xs => D.flat x && D.flatA xs
end
mutual
theorem nk_inj : ∀ (x y : D), x.flat = true → y.flat = true → x.nk = y.nk → x = y
  | .int i, y, _, hy, e => by
    cases y with
    | int j => simp only [D.nk] at e; cases e; rfl
    | tup ys => simp only [D.nk] at e; cases e
    | _ => cases hy
  | .tup xs, y, hx, hy, e => by
    cases y with
    | int j => simp only [D.nk] at e; cases e
    | tup ys =>
      simp only [D.nk] at e
      simp only [D.flat] at hx hy
      injection e with e
      rw [nkA_inj xs ys hx hy e]
    | _ => cases hy
  | .non, _, hx, _, _ => by cases hx
  | .bl _, _, hx, _, _ => by cases hx
  | .str _, _, hx, _, _ => by cases hx
  | .lst _, _, hx, _, _ => by cases hx
  | .dT _ _, _, hx, _, _ => by cases hx
  | .dK _ _, _, hx, _, _ => by cases hx
  | .ob _, _, hx, _, _ => by cases hx
theorem nkA_inj : ∀ (xs ys : List D), D.flatA xs = true → D.flatA ys = true → D.nkA xs = D.nkA ys → xs = ys
  | [], [], _, _, _ => rfl
  | [], _ :: _, _, _, e => by simp [D.nkA] at e
  | _ :: _, [], _, _, e => by simp [D.nkA] at e
  | x :: xs, y :: ys, hx, hy, e => by
    simp only [D.flatA, Bool.and_eq_true] at hx hy
    simp only [D.nkA, List.cons.injEq] at e
    rw [nk_inj x y hx.1 hy.1 e.1, nkA_inj xs ys hx.2 hy.2 e.2]
end
section
variable {K : Cfg} {G : Hp}
mutual
theorem rp_nk : ∀ (d : D) (v : V), d.flat = true → Rp K G v d → NK G v d.nk
  | .int i, _, _, r => by cases r; simp only [D.nk]; exact .int i
  | .tup xs, _, h, r => by
    simp only [D.flat] at h
    simp only [D.nk]
    cases r with
    | tup h1 h2 => exact .tup h1 (rpA_nk xs _ h h2)
  | .non, _, h, _ => by cases h
  | .bl _, _, h, _ => by cases h
  | .str _, _, h, _ => by cases h
  | .lst _, _, h, _ => by cases h
  | .dT _ _, _, h, _ => by cases h
  | .dK _ _, _, h, _ => by cases h
  | .ob _, _, h, _ => by cases h
theorem rpA_nk : ∀ (ds : List D) (vs : List V), D.flatA ds = true → RpA K G vs ds → NKA G vs (D.nkA ds)
  | [], _, _, r => by cases r; exact .nil
  | d :: ds, _, h, r => by
    simp only [D.flatA, Bool.and_eq_true] at h
    cases r with
    | cons r1 r2 => exact .cons (rp_nk d _ h.1 r1) (rpA_nk ds _ h.2 r2)
end
end
/-- a key: a tuple, not too deep -/
structure KeyD (d : D) : Prop where
  flat : d.flat = true
  deep : d.nk.depth ≤ 8
  tup : ∃ xs, d = .tup xs
/-- the entry z has the key d, True -/
def NRel (K : Cfg) (G : Hp) (d : D) (z : NestedKey × Addr × Value) : Prop := z.1 = d.nk ∧ KeyD d ∧ z.2.2 = .bool true ∧ Rp K G (.ref z.2.1) d
def RN (K : Cfg) (w : World) (ks : List D) (a : Addr) : HO → Hp → Prop := fun u G => ∃ o xs, u = NO a o ∧ NDict w a o xs ∧ Paired (NRel K G) ks xs
section
variable {K : Cfg} {w : World} {G G' : Hp} {ks : List D} {xs : NEs} {a : Addr} {u : HO}
theorem NRel.ex {d : D} {z : NestedKey × Addr × Value} (h : NRel K G d z) (e : Kp G G') : NRel K G' d z := ⟨h.1, h.2.1, h.2.2.1, h.2.2.2.ex e⟩
theorem nrels_ex (h : Paired (NRel K G) ks xs) (e : Kp G G') : Paired (NRel K G') ks xs := Paired.imp' h fun _ _ _ r => r.ex e
theorem nrels_tr {H : Hp} {M : List Addr} (h : Paired (NRel K (hid H M)) ks xs) : NTr H xs := by
  induction h with
  | nil => intro z hz; cases hz
  | @cons d z ks xs r t ih =>
    intro y hy
    rcases List.mem_cons.mp hy with rfl | hy
    · obtain ⟨e, k, _, q⟩ := r
      refine ⟨?_, by rw [e]; exact k.deep⟩
      rw [e]
      exact NK.up (fun a vs q => (hid_some q).2) _ _ (rp_nk d _ k.flat q)
    · exact ih y hy
theorem nrels_keys (h : Paired (NRel K G) ks xs) : xs.map (·.1) = ks.map D.nk := by
  induction h with
  | nil => rfl
  | cons r t ih => rw [List.map_cons, List.map_cons, ih, r.1]
theorem at_iff {k : NestedKey} : ∀ {xs : NEs}, (atKey xs k).isSome = decide (k ∈ xs.map (·.1))
  | [] => by simp [atKey]
  | x :: xs => by
    by_cases h : x.1 = k
    · simp [atKey, h]
    · have := at_iff (k := k) (xs := xs)
      have h' : ¬ k = x.1 := fun z => h z.symm
      have e : atKey (x :: xs) k = atKey xs k := by simp [atKey, h]
      rw [e, this]
      exact decide_eq_decide.mpr (by rw [List.map_cons, List.mem_cons]; exact ⟨Or.inr, fun z => z.resolve_left h'⟩)
theorem put_same {k : NestedKey} : ∀ {ks : List D} {xs : NEs}, Paired (NRel K G) ks xs → xs.map (putAt k (.bool true)) = xs
  | _, _, .nil => rfl
  | _, _, .cons (b := z) r t => by
    rw [List.map_cons, put_same t]
    congr 1
    obtain ⟨z1, z2, z3⟩ := z
    have e : z3 = .bool true := r.2.2.1
    subst e
    unfold putAt
    split <;> rfl
theorem nstored (h : Paired (NRel K G) ks xs) {d : D} {b : Addr} (kd : KeyD d) (r : Rp K G (.ref b) d) : Paired (NRel K G) (if d.nk ∈ ks.map D.nk then ks else ks ++ [d]) (storedH xs d.nk b (.bool true)) := by
  unfold storedH
  rw [at_iff, nrels_keys h]
  by_cases hm : d.nk ∈ ks.map D.nk
  · rw [if_pos hm, if_pos (decide_eq_true hm), put_same h]; exact h
  · rw [if_neg hm, if_neg (by simpa using hm)]
    exact Paired.snoc h ⟨rfl, kd, rfl, r⟩
end
theorem no_lk {a : Addr} {o : Obj} (h : o.ExactDict) (hd : ∃ es ep, o.data = .dict es ep) : Lk (NO a o) := by
  obtain ⟨es, ep, hd⟩ := hd
  obtain ⟨c, dct, dat, sl⟩ := o
  have hd : dat = .dict es ep := hd
  subst hd
  refine ⟨{ objs := (List.replicate (a + 1) { cls := c, dict := dct, data := .dict es ep, slots := sl }).toArray }, ?_, fun b oc vs h1 h2 => ?_⟩
  · show Heap.get? _ a = _
    unfold Heap.get?
    simp
  · unfold Heap.get? at h1
    by_cases hb : b < a + 1
    · simp [hb] at h1
      rw [← h1] at h2
      cases h2
    · simp [hb] at h1
section
variable {K : Cfg} {w : World} {B : Hp} {M : List Addr} {ρ : Env} {De : Ends} {te ta tb : TE} {d : D} {ks : List D} {a : Addr} {i : Nat}
theorem slotG (e : SlOk K M H (.ownG a (RN K w ks a)) o) : o = some (.ref a) ∧ ∃ ob xs, H a = some (NO a ob) ∧ NDict w a ob xs ∧ Paired (NRel K (hid H M)) ks xs := by
  obtain ⟨e1, m, u, q, n, r⟩ := e
  obtain ⟨ob, xs, rfl, nd, pr⟩ := r _ (Kp.refl _)
  exact ⟨e1, ob, xs, q, nd, pr⟩
/-- t not in d -/
theorem ev_nnotin (ha : EvD K ta ρ d) (hi : ρ[i]? = some (.ownG a (RN K w ks a))) (kd : KeyD d) : EvD K (tOp (rNNotIn w) ta (tVar i)) ρ (.bl (!decide (d.nk ∈ ks.map D.nk))) := fun M σ H m e Q q =>
  ha M σ H m e _ fun v H1 e1 r1 => by
    obtain ⟨o, e2, sl⟩ := (e.ex e1).get hi
    obtain ⟨rfl, ob, xs, hq, nd, pr⟩ := slotG sl
    obtain ⟨ts, rfl⟩ := kd.tup
    cases r1 with
    | @tup b vs _ h1 h2 =>
      have r1 : Rp K (hid H1 M) (.ref b) (.tup ts) := .tup h1 h2
      refine ⟨_, e2, a, b, ob, xs, (D.tup ts).nk, rfl, rfl, hq, nd, nrels_tr pr, NK.up (fun a vs q => (hid_some q).2) _ _ (rp_nk _ _ kd.flat r1), kd.deep, ?_⟩
      rw [at_iff, nrels_keys pr]
      exact q _ H1 e1 (.bl _)
/-- d[t] = True -/
theorem h_nput (h : ρ[i]? = some (.ownG a (RN K w ks a))) (he : EvD K te ρ d) (kd : KeyD d) (hl : ks.length < 100000) (k : Hold K B M (ρ.set i (.ownG a (RN K w (if d.nk ∈ ks.map D.nk then ks else ks ++ [d]) a))) De.nx) :
    Hold K B M ρ (sNPut w (tVar i) te (tC (.bl true)) De) := fun B' b σ H st => by
  obtain ⟨o, e2, sl⟩ := st.ev.get h
  obtain ⟨rfl, _⟩ := slotG sl
  refine ⟨_, e2, he _ σ H st.mok st.ev _ fun v H1 e1 r1 => ?_⟩
  have st2 := st.grow e1
  obtain ⟨o', e2', sl'⟩ := st2.ev.get h
  obtain ⟨rfl, ob, xs, hq, nd, pr⟩ := slotG sl'
  obtain ⟨ts, rfl⟩ := kd.tup
  have am : a ∈ owns ρ ++ M := List.mem_append_left _ (own_mem h (by simp [Sl.adr]))
  cases r1 with
  | @tup c vs _ h1 h2 =>
    have r1 : Rp K (hid H1 (owns ρ ++ M)) (.ref c) (.tup ts) := .tup h1 h2
    have hxl : xs.length = ks.length := by have := congrArg List.length (nrels_keys pr); simpa using this
    refine ⟨a, c, ob, xs, (D.tup ts).nk, rfl, rfl, rfl, hq, nd, nrels_tr pr, NK.up (fun a vs q => (hid_some q).2) _ _ (rp_nk _ _ kd.flat r1), kd.deep, by omega, fun o2 nd2 => k B' b σ _ (st2.mut hq (no_lk nd.ex (let ⟨es, ep, z, _⟩ := nd.dat; ⟨es, ep, z⟩)) h rfl rfl ?_)⟩
    rw [e2]
    exact ⟨rfl, am, NO a o2, upd_same, (fun ps z => nomatch z), fun G g => ⟨o2, _, rfl, nd2, nstored (nrels_ex pr ((hid_upd am).trans g)) kd (r1.ex ((hid_upd am).trans g))⟩⟩
/-- x = {} -/
theorem h_nnew (k : ∀ p, B p = none → Hold K B M (ρ.set i (.ownG p (RN K w [] p))) De.nx) : Hold K B M ρ (tAsg (tNNew w) (gName i) De) := fun B' b σ H st => fun p hp o nd => by
  have st2 := st.grow (Ex.new (o := NO p o) hp)
  have hpB : B' p = none := st.ex.back hp
  have hpM : p ∉ owns ρ ++ M := st.mok.new hp
  have e2 : Kp (hid H (owns ρ ++ M)) (hid (upd H p (NO p o)) (p :: (owns ρ ++ M))) := hid_new2 hp
  refine k p (b.back hpB) B' b _ _ (st2.setOwn rfl hpB (fun z => hpM (List.mem_append_right _ z)) (fun z => hpM (List.mem_append_left _ z)) ⟨rfl, List.mem_cons_self, NO p o, upd_same, (fun ps z => nomatch z), fun G g => ⟨o, [], rfl, nd, .nil⟩⟩ ?_)
  exact st.ev.up (Ex.new hp) e2 fun a ha => List.mem_cons_of_mem _ ha
theorem EvNUnit.k : EvK K (tNUnit w) ρ (.g (RN K w [.tup []])) := fun M σ H m e Q q => fun p c H2 o hp hc npc h2 h3 hx nd => by
  refine q (.ownG p (RN K w [.tup []] p)) _ H2 (.g p _) (Ex.all hx) (fun a ha => by rw [List.mem_singleton.mp ha]; exact hp) (by simp [Sl.adr]) ⟨rfl, by simp [Sl.adr], NO p o, h2, (fun ps z => nomatch z), fun G g => ⟨o, _, rfl, nd, .cons ⟨rfl, ⟨rfl, by decide, ⟨[], rfl⟩⟩, rfl, .tup (g.tup (xs := []) ?_) .nil⟩ .nil⟩⟩
  rw [hid_out (fun z => ?_)]
  · exact h3
  · rcases List.mem_append.mp z with z | z
    · exact npc (List.mem_singleton.mp z).symm
    · exact m.m c z hc
end
end Dl
/-! Dicts with nested keys: walked, moved; len(dict(..)). -/
namespace Dl
open PySem PySem.Spec PyProof.Rows L2 LamX
theorem prd_at {α β : Type} {F : α → β → Prop} : ∀ {l : List α} {m : List β}, Paired F l m → ∀ {i : Nat} {a : α}, l[i]? = some a → ∃ b, m[i]? = some b ∧ F a b
  | _, _, .nil, i, a, e => by simp at e
  | _, _, .cons r t, 0, a, e => by
    cases Option.some.inj (show some _ = some a by simpa using e)
    exact ⟨_, rfl, r⟩
  | _, _, .cons r t, i + 1, a, e => by
    obtain ⟨b, h1, h2⟩ := prd_at t (i := i) (a := a) (by simpa using e)
    exact ⟨b, by simpa using h1, h2⟩
section
variable {K : Cfg} {w : World} {B : Hp} {M : List Addr} {ρ : Env} {De : Ends} {te ta tb : TE} {d : D} {ks : List D} {a : Addr} {i : Nat} {wS : TS} {σ : L2.St} {H : Hp}
theorem StOk.forget (st : StOk K B M ρ σ H) (j : Nat) : StOk K B M (ρ.set j .no) σ H := by
  have h2 := st.set (i := j) (s := .no) (o := (σ[j]?).join) rfl trivial
  have : σ.set j (σ[j]?).join = σ := by
    refine List.ext_getElem? fun m => ?_
    by_cases z : m = j
    · subst z
      cases q : σ[m]? with
      | none => rw [List.getElem?_eq_none (by rw [List.length_set]; exact List.getElem?_eq_none_iff.mp q)]
      | some y => rw [List.getElem?_set_self (List.getElem?_eq_some_iff.mp q).1]; rfl
    · rw [List.getElem?_set_ne (Ne.symm z)]
  rw [this] at h2
  exact h2
/-- what slot i alone owns is owned no more -/
theorem own_gone {s : Sl} (st : StOk K B M ρ σ H) (h : ρ[i]? = some s) (ha : a ∈ s.adr) : a ∉ owns (ρ.set i .no) ++ M := fun z => by
  rcases List.mem_append.mp z with z | z
  · obtain ⟨t, ht, hat⟩ := mem_owns.mp z
    obtain ⟨j, hj⟩ := List.getElem?_of_mem ht
    by_cases hji : j = i
    · subst hji
      rw [List.getElem?_set_self (List.getElem?_eq_some_iff.mp h).1] at hj
      rw [← Option.some.inj hj] at hat
      cases hat
    · rw [List.getElem?_set_ne (Ne.symm hji)] at hj
      exact owns_inj st.nd (Ne.symm hji) h hj ha hat
  · exact st.ap a (own_mem h ha) z
theorem owns_no_sub {j : Nat} : ∀ c ∈ owns (ρ.set j .no), c ∈ owns ρ := fun c hc => by
  rcases owns_set_sub hc with hc | hc
  · exact hc
  · cases hc
/-- for t in d -/
theorem q_forN {g : TG} {tl : TS} (h : ρ[i]? = some (.ownG a (RN K w ks a))) (I : Nat → Env → Prop) (h0 : I 0 (ρ.set i .no))
    (ht : ∀ B', Ge B B' → ∀ j d ρ1, ks[j]? = some d → I j ρ1 → ∃ ρ2 ix, Bnd K g d ρ1 ρ2 ix ∧ Hold K B' M ρ2 (tl (loopE (De.to (wS De)) (Lp K B' M (I (j + 1))))))
    (hd : ∀ ρ1, I ks.length ρ1 → Hold K B M ρ1 (wS De)) : Hold K B M ρ (tSeq (tFor (iKeysN w (tVar i)) g tl) wS De) := fun B' b σ H st => by
  obtain ⟨o, e2, sl⟩ := st.ev.get h
  obtain ⟨rfl, ob, xs, hq, nd, pr⟩ := slotG sl
  have st0 := st.forget i
  have ng := own_gone st h (a := a) (by simp [Sl.adr])
  have hxl : xs.length = ks.length := by have := congrArg List.length (nrels_keys pr); simpa using this
  have sub : ∀ c ∈ owns (ρ.set i .no) ++ M, c ∈ owns ρ ++ M := fun c hc => (List.mem_append.mp hc).elim (fun z => List.mem_append_left _ (owns_no_sub c z)) fun z => List.mem_append_right _ z
  have hq0 : hid H (owns (ρ.set i .no) ++ M) a = some (NO a ob) := by rw [hid_out ng]; exact hq
  have pr0 : Paired (NRel K (hid H (owns (ρ.set i .no) ++ M))) ks xs := nrels_ex pr (hid_less sub)
  have j : JOk K (hid H (owns (ρ.set i .no) ++ M)) [] (Itn a ob xs) ks := ⟨fun N H2 e f n m d hd => by
    obtain ⟨z, hz, r⟩ := prd_at pr0 hd
    have hm : m < xs.length := (List.getElem?_eq_some_iff.mp hz).1
    refine ⟨⟨e _ _ hq0 (fun ps z => nomatch z), hm⟩, fun x H' y => ?_⟩
    obtain ⟨rfl, z', hz', rfl⟩ := y
    rw [hz] at hz'
    cases hz'
    have r4 : Rp K (hid (hid H (owns (ρ.set i .no) ++ M)) []) (.ref z.2.1) d := by rw [hid_nil]; exact r.2.2.2
    exact ⟨Ex.refl, r4.ex (ex_hid (hid_sub.trans e) f)⟩, fun H2 e => ⟨e _ _ hq0 (fun ps z => nomatch z), by rw [hxl]; exact Nat.le_refl _⟩⟩
  exact ⟨_, e2, a, ob, xs, rfl, hq, nd, for_core (De := De.to (wS De)) I h0 ht hd b st0 j⟩
/-- i, j = x, e; the dict x goes over -/
theorem q_parMove {j l : Nat} {R : HO → Hp → Prop} (h : ρ[l]? = some (.ownG a R)) (he : EvD K te ρ d) (k : Hold K B M (((ρ.set l .no).set i (.ownG a R)).set j (.dat d)) (wS De)) : Hold K B M ρ (tSeq (tPar i j (tCons (tVar l) (tCons te tNil))) wS De) := fun B' b σ H st => by
  obtain ⟨o, e2, sl⟩ := st.ev.get h
  obtain ⟨rfl, _, _⟩ := id sl
  refine ⟨_, e2, he _ σ H st.mok st.ev _ fun v H1 e1 r1 => ⟨.ref a, v, rfl, k B' b _ H1 ?_⟩⟩
  have st1 := st.grow e1
  have st0 := st1.forget l
  have ng := own_gone st1 h (a := a) (by simp [Sl.adr])
  have am : a ∈ owns ρ := own_mem h (by simp [Sl.adr])
  obtain ⟨o', e2', sl'⟩ := st1.ev.get h
  rw [e2] at e2'
  cases e2'
  have sub : ∀ c ∈ a :: (owns (ρ.set l .no) ++ M), c ∈ owns ρ ++ M := fun c hc => by
    rcases List.mem_cons.mp hc with rfl | hc
    · exact List.mem_append_left _ am
    · exact (List.mem_append.mp hc).elim (fun z => List.mem_append_left _ (owns_no_sub c z)) fun z => List.mem_append_right _ z
  have ev0 : EOk K (owns ρ ++ M) H1 (ρ.set l .no) σ := by
    have := st1.ev.set (i := l) (s := .no) (o := (σ[l]?).join) trivial
    rw [set_self (by rw [e2]; rfl)] at this
    exact this
  have ev1 : EOk K (a :: (owns (ρ.set l .no) ++ M)) H1 (ρ.set l .no) σ := ev0.less sub fun c hc => List.mem_cons_of_mem _ (List.mem_append_left _ hc)
  have s1 := st0.setOwn (i := i) (s := .ownG a R) (o := some (.ref a)) (p := a) rfl (st1.fr a am) (st1.ap a am) (fun z => ng (List.mem_append_left _ z)) (sl'.less sub fun c hc => by rw [List.mem_singleton.mp hc]; exact List.mem_cons_self) ev1
  refine s1.set rfl ⟨v, rfl, r1.ex (hid_less fun c hc => ?_)⟩
  rcases List.mem_append.mp hc with hc | hc
  · rcases owns_set_sub hc with hc | hc
    · exact List.mem_append_left _ (owns_no_sub c hc)
    · rw [List.mem_singleton.mp hc]; exact List.mem_append_left _ am
  · exact List.mem_append_right _ hc
end
/-! ### len(dict([(t, True) ..])) -/
def dedK (ks : List D) : List D → List D
  | [] => ks
  | d :: ds => dedK (if d.nk ∈ ks.map D.nk then ks else ks ++ [d]) ds
section
variable {K : Cfg} {w : World} {ρ : Env} {te : TE}
theorem dedK_len : ∀ (ds ks : List D), (dedK ks ds).length ≤ ks.length + ds.length
  | [], ks => Nat.le_refl _
  | d :: ds, ks => by
    show (dedK (if d.nk ∈ ks.map D.nk then ks else ks ++ [d]) ds).length ≤ _
    rw [List.length_cons]
    by_cases h : d.nk ∈ ks.map D.nk
    · rw [if_pos h]
      have := dedK_len ds ks
      omega
    · rw [if_neg h]
      have := dedK_len ds (ks ++ [d])
      rw [List.length_append, List.length_singleton] at this
      omega
theorem dedK_nd : ∀ (ds ks : List D), (dedK ks ds).length = ks.length + ds.length ↔ (ds.map D.nk).Nodup ∧ ∀ d ∈ ds, d.nk ∉ ks.map D.nk
  | [], ks => by simp [dedK]
  | d :: ds, ks => by
    show (dedK (if d.nk ∈ ks.map D.nk then ks else ks ++ [d]) ds).length = _ ↔ _
    by_cases h : d.nk ∈ ks.map D.nk
    · rw [if_pos h]
      have := dedK_len ds ks
      rw [List.length_cons]
      exact ⟨fun z => by omega, fun z => absurd h (z.2 d List.mem_cons_self)⟩
    · rw [if_neg h]
      have := dedK_nd ds (ks ++ [d])
      rw [List.length_append, List.length_singleton] at this
      rw [List.length_cons, show ks.length + (ds.length + 1) = ks.length + 1 + ds.length by omega, this, List.map_cons, List.nodup_cons]
      constructor
      · rintro ⟨h1, h2⟩
        refine ⟨⟨fun z => ?_, h1⟩, fun x hx => ?_⟩
        · obtain ⟨y, hy, e⟩ := List.mem_map.mp z
          exact h2 y hy (by rw [List.map_append, e]; simp)
        · rcases List.mem_cons.mp hx with rfl | hx
          · exact h
          · exact fun z => h2 x hx (by rw [List.map_append]; exact List.mem_append_left _ z)
      · rintro ⟨⟨h1, h2⟩, h3⟩
        refine ⟨h2, fun x hx z => ?_⟩
        rw [List.map_append] at z
        rcases List.mem_append.mp z with z | z
        · exact h3 x (List.mem_cons_of_mem _ hx) z
        · rw [List.map_singleton, List.mem_singleton] at z
          exact h1 (List.mem_map.mpr ⟨x, hx, z⟩)
theorem nstoredAll {G : Hp} : ∀ {ds : List D} {es : NEs} {ks : List D} {xs : NEs}, Paired (NRel K G) ks xs → Paired (NRel K G) ds es → Paired (NRel K G) (dedK ks ds) (storedAllH xs es)
  | _, _, _, _, h, .nil => h
  | _, _, _, _, h, .cons (a := d) (b := z) r t => by
    obtain ⟨z1, z2, z3⟩ := z
    obtain ⟨e, kd, ev, rp⟩ := r
    have e : z1 = d.nk := e
    have ev : z3 = .bool true := ev
    subst e ev
    show Paired _ (dedK (if _ then _ else _) _) (storedAllH (storedH _ d.nk z2 (.bool true)) _)
    exact nstoredAll (nstored h kd rp) t
/-- pairs (t, True) -/
theorem prs_rp {H : Hp} {M : List Addr} : ∀ {ds : List D} {vs : List V}, (∀ d ∈ ds, KeyD d) → RpA K (hid H M) vs (ds.map fun d => .tup [d, .bl true]) → ∃ (ps : List Addr) (es : NEs), vs = ps.map V.ref ∧ ps.length = ds.length ∧ Paired (fun p (z : NestedKey × Addr × Value) => SqT K H p [.ref z.2.1, .bl true] ∧ z.2.2 = .bool true) ps es ∧ Paired (NRel K (hid H M)) ds es
  | [], _, _, r => by cases r; exact ⟨[], [], rfl, rfl, .nil, .nil⟩
  | d :: ds, _, hk, r => by
    cases r with
    | cons r1 r2 =>
      obtain ⟨ps, es, e1, e2, e3, e4⟩ := prs_rp (fun x hx => hk x (List.mem_cons_of_mem _ hx)) r2
      have kd := hk d List.mem_cons_self
      cases r1 with
      | @tup p vs1 _ h1 h2 =>
        cases h2 with
        | cons q1 q2 =>
          cases q2 with
          | cons q3 q4 =>
            cases q4
            cases q3
            obtain ⟨ts, rfl⟩ := kd.tup
            cases q1 with
            | @tup b us _ h3 h4 =>
              exact ⟨p :: ps, ((D.tup ts).nk, b, .bool true) :: es, by rw [e1]; rfl, by rw [List.length_cons, List.length_cons, e2], .cons ⟨st_of (hid_some h1).2, rfl⟩ e3, .cons ⟨rfl, kd, rfl, .tup h3 h4⟩ e4⟩
theorem ev_lenDict {κ : PySem.W.Frag} {ds : List D} (hκ : κ = K.K) (he : EvD K te ρ (.lst (ds.map fun d => .tup [d, .bl true]))) (hk : ∀ d ∈ ds, KeyD d) (hl : ds.length ≤ 100000) : EvD K (tCB (rLenN w) (tCons (tCB (rDictN w κ) (tCons te tNil)) tNil)) ρ (.int ((dedK [] ds).length : Nat)) := fun M σ H m e Q q => by
  subst hκ
  refine he M σ H m e _ fun v H1 e1 r1 => ?_
  cases r1 with
  | @lst a vs _ h1 h2 =>
    obtain ⟨ps, es, rfl, hpl, p1, p2⟩ := prs_rp hk h2
    refine ⟨a, ps, es, rfl, sq_of (hid_some h1).2, p1, nrels_tr p2, by omega, fun p o hp nd => ?_⟩
    have p3 := nstoredAll (K := K) .nil p2
    have p4 := nrels_ex p3 (G' := hid (upd H1 p (NO p o)) M) (hid_kp (Kp.new hp))
    have hel : (storedAllH ([] : NEs) es).length = (dedK [] ds).length := by have := congrArg List.length (nrels_keys p3); simpa using this
    have := dedK_len ds []
    refine ⟨p, o, _, rfl, upd_same, nd, nrels_tr p4, by rw [hel]; simp at this; omega, ?_⟩
    rw [hel]
    exact q _ _ (e1.trans (Ex.new hp)) (.int _)
end
end Dl
/-! x in a tuple of tuples; rules restated with the written part named. -/
namespace Dl
open PySem PySem.Spec PyProof.Rows L2 LamX
def rInDT (K : PySem.W.Frag) : R2 := fun x y H Q => ∃ d ds, Dp K H x d ∧ Dp K H y (.tuple ds) ∧ SeqAt.shaped d = true ∧ SeqAt.shaped (.tuple ds) = true ∧ Q (.bl (ds.any fun z => PyData.eqv z d)) H
def rNotInDT (K : PySem.W.Frag) : R2 := fun x y H Q => ∃ d ds, Dp K H x d ∧ Dp K H y (.tuple ds) ∧ SeqAt.shaped d = true ∧ SeqAt.shaped (.tuple ds) = true ∧ Q (.bl (!ds.any fun z => PyData.eqv z d)) H
section
variable {X : Cx}
theorem op_inDT (hu : X.A.units + 65 < cLine) : OpR X (compareOp .In) (rInDT X.K) := by
  intro pins s σ H x y v u Q I rx ry h
  obtain ⟨d, ds, hd, he, sd, se, q⟩ := h
  obtain ⟨as, r1⟩ := Dp.reads I d x v hd rx
  obtain ⟨bs, r2⟩ := Dp.reads I (.tuple ds) y u he ry
  exact SeqAt.in_tuple_reads r2 r1 (SeqAt.canLay_of_shaped se) (SeqAt.canLay_of_shaped sd) (room_in_shaped sd hu) ⟨.bl _, H, I, rfl, q⟩
theorem op_notInDT (hu : X.A.units + 65 < cLine) : OpR X (compareOp .NotIn) (rNotInDT X.K) := by
  intro pins s σ H x y v u Q I rx ry h
  obtain ⟨d, ds, hd, he, sd, se, q⟩ := h
  obtain ⟨as, r1⟩ := Dp.reads I d x v hd rx
  obtain ⟨bs, r2⟩ := Dp.reads I (.tuple ds) y u he ry
  exact SeqAt.notIn_tuple_reads r2 r1 (SeqAt.canLay_of_shaped se) (SeqAt.canLay_of_shaped sd) (room_in_shaped sd hu) ⟨.bl _, H, I, rfl, q⟩
theorem k_inDT (κ : PySem.W.Frag) (h : X.K = κ) (hu : X.A.units + 65 < cLine) : OpR X (compareOp .In) (rInDT κ) := h ▸ op_inDT hu
theorem k_ninDT (κ : PySem.W.Frag) (h : X.K = κ) (hu : X.A.units + 65 < cLine) : OpR X (compareOp .NotIn) (rNotInDT κ) := h ▸ op_notInDT hu
theorem k_nnin (w : World) (h : X.w = w) (hu : X.A.units + 65 < cLine) : OpR X (compareOp .NotIn) (rNNotIn w) := h ▸ op_nnotin (by omega)
theorem k_nput {o i value : Expr} {pos pos' : Pos} {td ty tv : TE} (w : World) (h : X.w = w) (hu : X.A.units + 65 < cLine) (ho : PE X o td) (hi : PE X i ty) (hv : PE X value tv) (hs : swapsWith value (some (.Subscript o i pos')) pos.line X.env = pure false) :
    PS X (.Assign [.Subscript o i pos'] value pos) (sNPut w td ty tv) := h ▸ ps_nput (by omega) ho hi hv hs
theorem k_nnew {pos : Pos} (w : World) (h : X.w = w) : PE X (.Dict [] [] pos) (tNNew w) := h ▸ pe_nnew
theorem k_nunit {k v : Expr} {pos : Pos} (w : World) (h : X.w = w) (hu : X.A.units + 65 < cLine) (hk : PE X k (tTup tNil)) (hv : PE X v (tC (.bl true))) : PE X (.Dict [some k] [v] pos) (tNUnit w) := h ▸ pe_nunit (by omega) hk hv
theorem k_pikN {tg e : Expr} {td : TE} (w : World) (h : X.w = w) (he : PE X e td) : PI X tg e (iKeysN w td) := h ▸ pi_keysN he
theorem k_dictN (κ : PySem.W.Frag) (hκ : X.K = κ) (w : World) (h : X.w = w) (hcalm : X.calm = true) (hu : X.A.units + 65 < cLine) : CallR X (.type "dict") (rDictN w κ) := h ▸ hκ ▸ call_dictN hcalm (by omega)
theorem k_lenN (w : World) (h : X.w = w) : CallR X (.builtin "len") (rLenN w) := h ▸ call_lenN
end
section
variable {K : Cfg} {ρ : Env} {ta tb : TE}
theorem pdT (xs : List D) : (D.tup xs).pd = .tuple (D.pdA xs) := by simp only [D.pd]
theorem ev_inDT {x : D} {xs : List D} (n : Nat) (ha : EvD K ta ρ x) (hb : EvD K tb ρ (.tup xs)) (hx : x.ok n = true) (hy : D.okA xs n = true) (hn : n ≤ 63 := by decide) : EvD K (tOp (rInDT K) ta tb) ρ (.bl (xs.any fun z => D.eq z x)) := fun M σ H m e Q q =>
  ha M σ H m e _ fun v H1 e1 r1 => hb M σ H1 (m.ex e1) (e.ex e1) _ fun w H2 e2 r2 => by
    have ky : D.ok (.tup xs) (n + 1) = true := by simpa [D.ok] using hy
    have sh := D.shaped ky (by omega)
    have dp : Dp K H2 w (.tuple (D.pdA xs)) := by
      have := Dp.mono' r2 ky
      rwa [pdT] at this
    refine ⟨_, _, Dp.mono' (r1.ex (hid_ex e2)) hx, dp, D.shaped hx (by omega), by rw [← pdT]; exact sh, ?_⟩
    have eq : ((D.pdA xs).any fun z => PyData.eqv z x.pd) = (xs.any fun z => D.eq z x) := by
      rw [D.pdA_eq, List.any_map]
      rfl
    rw [eq]
    exact q _ H2 (e1.trans e2) (.bl _)
theorem ev_ninDT {x : D} {xs : List D} (n : Nat) (ha : EvD K ta ρ x) (hb : EvD K tb ρ (.tup xs)) (hx : x.ok n = true) (hy : D.okA xs n = true) (hn : n ≤ 63 := by decide) : EvD K (tOp (rNotInDT K) ta tb) ρ (.bl (!xs.any fun z => D.eq z x)) := fun M σ H m e Q q =>
  ha M σ H m e _ fun v H1 e1 r1 => hb M σ H1 (m.ex e1) (e.ex e1) _ fun w H2 e2 r2 => by
    have ky : D.ok (.tup xs) (n + 1) = true := by simpa [D.ok] using hy
    have sh := D.shaped ky (by omega)
    have dp : Dp K H2 w (.tuple (D.pdA xs)) := by
      have := Dp.mono' r2 ky
      rwa [pdT] at this
    refine ⟨_, _, Dp.mono' (r1.ex (hid_ex e2)) hx, dp, D.shaped hx (by omega), by rw [← pdT]; exact sh, ?_⟩
    have eq : ((D.pdA xs).any fun z => PyData.eqv z x.pd) = (xs.any fun z => D.eq z x) := by
      rw [D.pdA_eq, List.any_map]
      rfl
    rw [eq]
    exact q _ H2 (e1.trans e2) (.bl _)
end
end Dl
/-! An exception class with one field, set behind super().__init__(): its __init__, walked once. -/
namespace Dl
open PySem PySem.Spec PyProof.Rows L2 LamX
/-- such a class at C, its __init__ at fI -/
structure ExIni (P : Program) (K : PySem.W.Frag) (mg : Str → Option Value) (C fI : Addr) (fd : FuncData) : Prop where
  oex : OexC K C
  ini : PySem.W.excInitIn K C veB "ValueError.__new__" = true
  fn : ∃ oc od osl qual dV kV doc pm an cda ct cc p, K.lookup fI = some ⟨oc, od, .func fd, osl⟩ ∧ fd = PySem.W.ksFn "__init__" qual (iniArgs p) (iniBody p) iniScope dV kV doc pm an (.ref cda) ct cc ∧ ((p 5).endLine == (p 6).line) = true ∧ PySem.W.codeIn K (.ref cda) qual = true ∧
    (∃ ccl cdd vs ccs file tf, K.lookup cda = some ⟨ccl, cdd, .fields vs, ccs⟩ ∧ vs[2]? = some (.str file tf) ∧ ((P.main.file : Str) == file) = true) ∧ (∃ cl cld csl, K.lookup cc = some ⟨cl, cld, .cell (some (.ref C)), csl⟩)
  sup : mg "super" = none
  top : (P.main.scope.names.lookup ("super" : Str)).isSome = false
  opq : PySem.W.nsIn K cStatics "thirdparty.any" = some none
  sin : PySem.W.ks_superIn K C C "__init__" = some (some (.builtin "ValueError.__init__"))
  ve : PySem.W.subIn K (.ref C) (.type "ValueError") = some true
  self : PySem.W.subIn K (.ref C) (.ref C) = some true
  noat : PySem.W.findIn K (.ref C) "value" = some none
/-- what the __init__ does -/
def spIni (C : Addr) : Sp := fun vs H Q _ => ∃ (a : Addr) (y : V), vs = [.ref a, y] ∧ H a = some (exo a C none) ∧ ∀ dx, H dx = none → dx ≠ a → Q .non (upd (upd H dx (exd dx [("value", y)])) a (exo a C (some dx)))
theorem super_call {P : Program} {w : World} {A : Around} {E : Value → Shared → Prop} {K : PySem.W.Frag} {s : Shared} {u a C t1 : Addr} {Q : Value → Shared → Prop} (X : K.In s.heap) (q : PySem.W.excInitIn K C veB "ValueError.__new__" = true) (hu : s.heap.get? u = some (PySem.W.kxs_mw "ValueError.__init__" a))
    (he : s.heap.get? a = some (PySem.W.excObj C t1 none .none)) (h : ∀ h' t', (∀ b o, b ≠ a → s.heap.get? b = some o → h'.get? b = some o) → h'.get? a = some (PySem.W.excObj C t' none .none) → Q .none { s with heap := h' }) :
    wpAny (model P w) A (call (.ref u) []) Q E s := by
  obtain ⟨nm, N', qn, bs, bm, hdct, sn, sub, ab, col, dd, k0, k1, k2, k3, k5, hC, hT⟩ := PySem.W.excInit_of X q
  obtain ⟨hh, g, d, tk, os⟩ := s
  refine wpAny_call (codeAny_of_tree ?_)
  show wpAny _ A.in1 (callAny (.ref u) ⟨[], []⟩) _ _ _
  simp only [callAny]
  refine wpAny_bind (wpAny_load hu ?_)
  simp only [PySem.W.kxs_mw, show (Value.type "method-wrapper" == Value.type "method" || Value.type "method-wrapper" == Value.type "builtin_function_or_method" || Value.type "method-wrapper" == Value.type "method-wrapper") = true by decide, if_true]
  refine PySem.W.KFB.if_so (by decide) ?_
  refine wpAny_bind (PySem.W.check_bound_init PySem.F.excBase_ValueError.toExcCallFacts hC he rfl ?_)
  refine wpAny_bind (wpAny_pure (wpAny_pure ?_))
  refine ⟨PySem.plainId_quiet PySem.F.excBase_ValueError.init.plain _, codeAny_builtin PySem.F.excBase_ValueError.initEntry ?_⟩
  exact PySem.W.exc_init_tree (cls := .ref C) (t0 := t1) (dv := none) (c2 := .none) (c3 := .none) (b4 := .bool false) he (Nat.zero_le _) fun h' k e' t' => h h' hh.objs.size k e'
theorem super_form (p0 p1 p2 p3 : Pos) (env : PySem.Env) (h : (p2.endLine == p3.line) = true) : eval (.Call (.Attribute (.Call (.Name "super" p0) [] [] p1) "__init__" p2) [] [] p3) env = (do
      let ov ← attributeBase (.Call (.Name "super" p0) [] [] p1) "__init__" env (eval (.Call (.Name "super" p0) [] [] p1) env)
      standAt p2.atName
      let (f, first) ← holding [ov] (getMethod ov "__init__" (do return (← importBound (.Call (.Name "super" p0) [] [] p1) env).getD true))
      callWith p3 f first (backTo p3 (starEach [] env)) []) := by
  show (do
      let ov ← attributeBase (.Call (.Name "super" p0) [] [] p1) "__init__" env (eval (.Call (.Name "super" p0) [] [] p1) env)
      standAt p2.atName
      methodCall (.Call (.Name "super" p0) [] [] p1) "__init__" p2 p3 env ov _ (backTo p3 (starEach [] env)) (backToKw p3 (keywordEach [] env))) = _
  unfold methodCall methodCallPos
  rw [h]
  simp only [Bool.or_true, if_true]
  rfl
theorem fn_ini {P : Program} {w : World} {K : PySem.W.Frag} {mg : Str → Option Value} {base : Heap} {CX : CXT} {C fI : Addr} {fd : FuncData} (T : ExIni P K mg C fI fd) : FnOk P w K mg base CX 1 fI fd ["self", "value"] (spIni C) := by
  obtain ⟨oc, od, osl, qual, dV, kV, doc, pm, an, cda, ct, cc, p, lk, rfl, hln, hcd, ⟨ccl, cdd, vs0, ccs, file, tf, hcode, hvs, hfile⟩, cl, cld, csl, hcell⟩ := T.fn
  refine ⟨fun vs H Q E q => by obtain ⟨a, y, rfl, _⟩ := q; rfl, fun A outer s H args us vs Q E hr e0 hb r hsp => ?_⟩
  obtain ⟨a, y, rfl, ha, hq⟩ := hsp
  have KX : K.In s.heap := e0.mod.kin.keeps fun b o e => (e0.bs b o e).1
  have lim : s.heap.NoLimit := e0.mod.nolimit.keeps fun b o e => (e0.bs b o e).1
  cases r with
  | @cons _ u0 _ ur ra rr =>
  cases rr with
  | @cons _ u1 _ ur2 ry rr2 =>
  cases rr2
  obtain rfl : u0 = Value.ref a := ra
  refine PySem.ks_codeAny_call_defAt (fd := PySem.W.ksFn "__init__" qual (iniArgs p) (iniBody p) iniScope dV kV doc pm an (.ref cda) ct cc) (body := iniBody p) (binds := (["self", "value"] : List Str).zip [.ref a, u1]) hr.depth (KX _ _ lk) rfl lim (PySem.W.codeRec_of KX hcd) rfl hb (by show ∀ x ∈ iniScope.names, x.2 ≠ .cell; decide) (by
    intro x hx
    simp at hx
    rcases hx with rfl | rfl <;> rfl) (fun h1 hns hk1 => ?_)
  -- the frame
  let env : PySem.Env := PySem.W.ksEnv qual iniScope s.heap.objs.size fI (.ref cda) cc
  show _root_.PySem.wpAt (model P w) (A.deeper env) (.func (iniBody p) env) (execs (iniBody p) env) _ _ _
  let X : Cx := ⟨P, w, K, mg, base, A.deeper env, ["self", "value"], s, H, env, outer, env :: outer, [], fun _ => false, true, [],
    fun e s' => wpAny (model P w) (A.deeper env) (leaving env e) (fun _ s'' => CX outer H s E e s'') (fun e' s'' => CX outer H s E e' s'') s'⟩
  have hcl : ∀ x c, env.cells.lookup x = some c → c = cc := fun x c hx => by
    have hx' : (match x == "__class__" with | true => some cc | false => none) = some c := hx
    cases q : (x == ("__class__" : Str)) with
    | true => rw [q] at hx'; exact (Option.some.inj hx').symm
    | false => rw [q] at hx'; cases hx'
  have hcc : base.get? cc = some ⟨cl, cld, .cell (some (.ref C)), csl⟩ := e0.mod.kin _ _ hcell
  have I : Inv X [] [some (.ref a), some y] H { s with heap := h1, toks := s.toks + 2 } := by
    have noA : ∀ b : Addr, b ∉ X.ex := fun b z => absurd (show b ∈ ([] : List Addr) from z) (by simp)
    refine ⟨⟨e0.mod, rfl, rfl, rfl, Nat.le_refl _, fun x z c hx hz => ?_, fun x hx => ?_, fun x c hf => absurd (show false = true from hf) Bool.false_ne_true, fun _ => hr.hd, Around.frames_deeper e0.frames, .inr ⟨rfl, rfl⟩, fun b z => absurd z (noA b), e0.bs, e0.bsz, fun b _ _ => noA b, fun b z => absurd z (noA b), e0.funs, e0.frf⟩,
      rfl, e0.bare, Un.kept hk1, ⟨_, hns, fun i x v e1 e2 e3 => ?_⟩, fun x c hx => ?_, e0.hok.fresh (Nat.le_refl _), fun x c hx => ?_, fun p hp => absurd (show p ∈ ([] : List (Addr × Obj)) from hp) (by simp), e0.hok.kept hk1, rfl⟩
    · have key : ∀ {x : Str} {c : Addr}, env.cells.lookup x = some c → x = "__class__" := fun {x c} hx => by
        have hx' : (match x == ("__class__" : Str) with | true => some cc | false => none) = some c := hx
        cases q : (x == ("__class__" : Str)) with
        | true => exact beq_iff_eq.mp q
        | false => rw [q] at hx'; cases hx'
      rw [key hx, key hz]
    · exact ⟨cc, by
        have hx2 : iniScope.names.lookup x = some .cell ∨ iniScope.names.lookup x = some .free := hx
        show (match x == ("__class__" : Str) with | true => some cc | false => none) = some cc
        cases q : (x == ("__class__" : Str)) with
        | true => rfl
        | false =>
          have hx3 : (match x == ("self" : Str) with | true => some NameKind.local | false => match x == ("value" : Str) with | true => some .local | false => match x == ("__class__" : Str) with | true => some .free | false => match x == ("super" : Str) with | true => some .globalImplicit | false => none) = some .cell ∨
            (match x == ("self" : Str) with | true => some NameKind.local | false => match x == ("value" : Str) with | true => some .local | false => match x == ("__class__" : Str) with | true => some .free | false => match x == ("super" : Str) with | true => some .globalImplicit | false => none) = some .free := hx2
          rw [q] at hx3
          cases q1 : (x == ("self" : Str)) <;> rw [q1] at hx3 <;> cases q2 : (x == ("value" : Str)) <;> rw [q2] at hx3 <;> cases q3 : (x == ("super" : Str)) <;> rw [q3] at hx3 <;> rcases hx3 with z | z <;> cases z⟩
    · match i, e1, e2 with
      | 0, e1, e2 => 
        obtain rfl : "self" = x := Option.some.inj e1
        obtain rfl : V.ref a = v := Option.some.inj (Option.some.inj e2)
        exact ⟨_, rfl, .inl ⟨rfl, rfl⟩⟩
      | 1, e1, e2 => 
        obtain rfl : "value" = x := Option.some.inj e1
        obtain rfl : y = v := Option.some.inj (Option.some.inj e2)
        exact ⟨_, ry, .inl ⟨rfl, rfl⟩⟩
    · rw [hcl x c hx]
      exact ⟨_, _, hk1 _ _ (e0.bs _ _ hcc).1, rfl⟩
    · rw [hcl x c hx]
      exact (e0.bs _ _ hcc).2
  obtain ⟨t1, hob⟩ := exo_at I.hok ha
  have K1 : K.In h1 := KX.keeps hk1
  obtain ⟨nm, q, N, bs, bm, sn, sub, ab, col, dd, k0, k1, k2, k3, k5, hC, hbm⟩ := T.oex.cls
  have hcd2 : PySem.W.clsIn K C = some { name := nm, bases := bs, mro := .ref C :: bm, ns := N, qualname := q, hasDict := true, slotNames := sn, subclasses := sub, abstract := ab, collection := col, hasDel := false } := by unfold PySem.W.clsIn; rw [hC] <;> rfl
  have hxC : a ≠ C := fun z => by
    have e1 := K1 _ _ hC
    rw [z] at hob
    rw [e1] at hob
    cases hob
  refine PySem.ks_wpAt_execs_cons (PySem.ks_wpAt_Expr_any (PySem.ks_wpAt_MethodCall ?_ (super_form _ _ _ _ env hln)))
  refine PySem.ks_wpAt_super_base (env := env) rfl rfl rfl rfl (K1 _ _ lk) rfl rfl rfl (K1 _ _ hcode) rfl hvs hfile T.top ?_
  obtain ⟨mb, hmb, hmb2⟩ := e0.mod.blt
  have bk : ∀ b o, base.get? b = some o → h1.get? b = some o := fun b o e => hk1 _ _ (e0.bs b o e).1
  refine PySem.W.ks_loadName_global rfl rfl (PySem.Calls.loadGlobal_builtin (e0.mod.glob.keeps bk) T.sup (hmb.keeps bk) ((hmb2 "super" (by decide)).trans (by first | rfl | kernel_rfl)) ⟨rfl, ?_⟩)
  refine wpAny_loadName_free rfl rfl rfl ⟨_, K1 _ _ hcell, rfl⟩ ?_
  refine wpAny_loadName_local rfl rfl hns rfl ?_
  refine PySem.ks_wpAny_isType_cls (K1 _ _ hC) rfl ⟨rfl, ?_⟩
  refine PySem.ks_wpAny_call_super (K1 _ _ hC) rfl hob rfl (fun c z => by cases z) (PySem.W.looks_subIn K1 T.self) fun h2 hso k2 => ?_
  have I2 : Inv X [] [some (.ref a), some y] H { s with heap := h2, toks := s.toks + 2 } := I.kept (t' := s.toks + 2) k2
  have K2 : K.In h2 := K1.keeps k2
  have hsin := T.sin
  unfold PySem.W.ks_superIn at hsin
  rw [hcd2] at hsin
  refine PySem.W.kxs_getMethod PySem.W.kxs_ValueError hso (PySem.W.looks_opaque K2 T.opq) (l₀ := .ref C :: bm) (fun A Q E s k q => wpAny_bind ((PySem.W.looks_clsIn K2 hcd2) A _ E s k (wpAny_pure q))) rfl K2 hsin ?_ hxC (by rfl) ?_
  · have at2 : PySem.W.InstAt h2 a (PySem.W.excObj C t1 none .none) C none := ⟨k2 _ _ hob, rfl, rfl, True.intro⟩
    exact at2.type.andThen (PySem.W.looks_subIn K2 T.ve)
  have k3 : ∀ b o, h2.get? b = some o → (h2.push (PySem.W.kxs_mw "ValueError.__init__" a)).get? b = some o := fun b o e => Heap.get?_push_of_some _ e
  have I3 : Inv X [] [some (.ref a), some y] H { s with heap := h2.push (PySem.W.kxs_mw "ValueError.__init__" a), toks := s.toks + 2 + 1 } := I2.kept (t' := s.toks + 2 + 1) k3
  have hu : (h2.push (PySem.W.kxs_mw "ValueError.__init__" a)).get? h2.objs.size = some (PySem.W.kxs_mw "ValueError.__init__" a) := Heap.get?_push_size _ rfl
  refine PySem.W.kxs_callWith (i := "ValueError.__init__") (x := a) rfl (evalArgs_empty ⟨hu, ?_⟩)
  refine super_call (K2.keeps k3) T.ini hu (k3 _ _ (k2 _ _ hob)) fun h4 t4 k4 he4 => ?_
  have J := I3.write (h' := h4) (t' := s.toks + 2 + 1) (x := a) (e := a) (o := exo a C none) (by rw [ha]; exact True.intro) (.inl rfl) k4 ⟨_, he4⟩ (exo_ok he4)
  have eu : upd H a (exo a C none) = H := by
    funext b
    by_cases hb : b = a
    · rw [hb, upd_same, ha]
    · rw [upd_ne hb]
  rw [eu] at J
  refine wpAt_of_wpAny ?_
  refine wpAny_mono ((pss_one (ps_ost (X := X) (f := "value") (p' := p 9) (pos := p 11) (pv (X := X) (x := "self") (pos := p 8) 0) (pv (X := X) (x := "value") (pos := p 10) 1))).run [] _ _ H { nx := fun _ H' => Q .non H', rt := Q } J ?_) (fun fl s' hs => ?_) fun e s' hs => hs
  · exact ⟨y, rfl, .ref a, rfl, a, C, rfl, T.oex, T.noat, .inl ⟨ha, hq⟩⟩
  · cases fl with
    | ret u =>
      obtain ⟨v, σ', H', J, rv, q⟩ := hs
      exact ⟨v, H', J.os, J.bare, J.base, J.hok, rv, q⟩
    | next =>
      obtain ⟨σ', H', J, q⟩ := hs
      exact ⟨.non, H', J.os, J.bare, J.base, J.hok, rfl, q⟩
    | brk =>
      obtain ⟨_, _, _, q⟩ := hs
      exact False.elim q
    | cont =>
      obtain ⟨_, _, _, q⟩ := hs
      exact False.elim q
end Dl
/-! Exceptions as values: made by C(x), C(value=x), C(); their class asked, their field read. -/
namespace Dl
open PySem PySem.Spec PyProof.Rows L2 LamX
section
variable {M : Model} {A : Around} {E : Value → Shared → Prop} {h : Heap} {g : Array GenState} {d : Drawn} {t : Nat} {os : OsState} {nm q : Str} {C N : Addr} {bs bm bmB : List Value} {hdct : Bool} {sn : List Str} {sub : List Value} {ab : Bool} {col : Option Bool} {dd : Option Addr} {k0 k1 k2 k3 k5 : Option Value} {B newId initId : String} {prog : Program} {w : World} {R : Result → Shared → Prop} {kw : List (Str × Value)} {rest : List Value}
theorem ek_checkNew (F : ExcBaseFacts B newId initId bmB) (hT : ∀ X : String, bm.contains (.type X) = bmB.contains (.type X)) {Q : Unit → Shared → Prop} (hC : h.get? C = some (excClassObj nm q C N bs bm hdct sn sub ab col dd k0 k1 k2 k3 k5 newId)) (hq : Q () ⟨h, g, d, t, os⟩) :
    wpAny M A (checkBuiltinCall newId ⟨.ref C :: rest, kw⟩) Q E ⟨h, g, d, t, os⟩ := by
  have hcont : (Value.ref C :: bm).contains (.type B) = true := by (rw [List.contains_cons, hT, F.hasB, Bool.or_true])
  have hstar' := F.noStar; simp only [checkBuiltinCall, F.newKind, F.newSplit, F.newRow]
  repeat (first | (refine wpAny_loadPart_at hC ?_) | (refine wpAny_isSubtype_exc hC ?_; rw [hcont]) | (refine wpAny_staticBase_exc hC ?_) | (refine wpAny_madeBy_exc hC ?_) | (simp only [bne_self_eq_false, Bool.false_eq_true, if_false]) | wp_step)
  exact hq
theorem ek_new (F : ExcBaseFacts B newId initId bmB) (hT : ∀ X : String, bm.contains (.type X) = bmB.contains (.type X)) (hC : h.get? C = some (excClassObj nm q C N bs bm hdct sn sub ab col dd k0 k1 k2 k3 k5 newId))
    (hq : R (.ok (.ret (.ref (h.objs.size + 1)))) ⟨(h.push (PySem.W.kdv_tup rest)).push (PySem.HandSPX.excO C h.objs.size), g, d, t, os⟩) (hrest : rest.length ≤ sizeLine) :
    codeAny (model prog w) A (.builtin newId ⟨.ref C :: rest, kw⟩) R ⟨h, g, d, t, os⟩ := by
  have hends' := F.ends
  have hcB : (Value.ref C :: bm).contains (.type B) = true := by (rw [List.contains_cons, hT, F.hasB, Bool.or_true])
  have hcA : (Value.ref C :: bm).contains (.type "AttributeError") = false := by (rw [List.contains_cons, hT, F.noAttr]; rfl)
  have hcN : (Value.ref C :: bm).contains (.type "NameError") = false := by (rw [List.contains_cons, hT, F.noName]; rfl)
  refine codeAny_builtinAt F.entry ?_; unfold Builtin.«BaseException.__new__»; refine PySem.wpAt_bind ?_
  show PySem.wpAt _ _ _ (stack >>= _) _ _ _
  refine PySem.wpAt_bind (PySem.wpAt_stack fun p below => PySem.wpAt_of_wpAny ?_); wp_walk; refine PySem.wpAt_of_wpAny ?_; rw [F.owner]
  repeat (first | (with_reducible refine wpAny_madeHere_exc F.canon hC ?_) | (with_reducible refine wpAny_loadPart_at hC ?_) | (with_reducible refine wpAny_isSubtype_exc hC ?_; first | rw [hcB] | rw [hcA] | rw [hcN]) | wp_step)
  show R _ _; rw [Heap.size_push]; exact hq
theorem ek_typeCall (F : ExcBaseFacts B newId initId bmB) (hT : ∀ X : String, bm.contains (.type X) = bmB.contains (.type X)) {fI : Addr} {Q : Fin → Shared → Prop} (hC : h.get? C = some (excClassObj nm q C N bs bm hdct sn sub ab col dd k0 k1 k2 k3 k5 newId))
    (hi : PySem.W.Looks (model prog w) h (typeLookup (.ref C) "__init__") (some (.ref fI))) (hb : ∀ self, PySem.W.Looks (model prog w) h (bindSpecial (.ref fI) self) (.ref fI, [self])) (hrest : rest.length ≤ sizeLine)
    (hq : codeAny (model prog w) A (.call (.ref fI) ⟨.ref (h.objs.size + 1) :: rest, kw⟩) (fun r s' => match r with | .ok (.ret v) => v = .none ∧ Q (.done (.ret (.ref (h.objs.size + 1)))) s' | .ok _ => False | .error e => E e s')
      ⟨(h.push (PySem.W.kdv_tup rest)).push (PySem.HandSPX.excO C h.objs.size), g, d, t, os⟩) : wpAny (model prog w) A (Builtin.«type.__call__» ⟨.ref C :: rest, kw⟩) Q E ⟨h, g, d, t, os⟩ := by
  repeat (first | (with_reducible refine wpAny_loadPart_at hC ?_) | (with_reducible refine wpAny_madeBy_exc hC ?_) | wp_step)
  refine codeAny_call_builtin_code (Code.quiet_builtin _ F.quiet) (ek_checkNew F hT hC (ek_new F hT hC ?_ hrest))
  show wpAny _ _ _ _ _ _
  have k : ∀ b o, h.get? b = some o → ((h.push (PySem.W.kdv_tup rest)).push (PySem.HandSPX.excO C h.objs.size)).get? b = some o := fun b o e => Heap.get?_push_of_some _ (Heap.get?_push_of_some _ e)
  have hC1 := k _ _ hC
  have hget : ((h.push (PySem.W.kdv_tup rest)).push (PySem.HandSPX.excO C h.objs.size)).get? (h.objs.size + 1) = some (PySem.HandSPX.excO C h.objs.size) := by heap_get
  have hcC : (Value.ref C :: bm).contains (.ref C) = true := by simp
  unfold isInstance
  repeat (first | (with_reducible refine wpAny_loadPart_at hget ?_) | (with_reducible refine wpAny_isSubtype_exc hC1 ?_; rw [hcC]) | wp_step)
  show wpAny _ _ (typeLookup (.ref C) _) _ _ _
  refine (hi.keeps k).at (wpAny_holding (wpAny_bind (((hb (.ref (h.objs.size + 1))).keeps k).at (wpAny_bind (wpAny_call (codeAny_mono hq fun r s' z => ?_))))))
  rcases r with e | (v | _ | _ | _) <;> first | exact z | exact z.elim | skip
  obtain ⟨rfl, z⟩ := z; first | exact wpAny_pure (wpAny_pure z) | (wp_walk; exact z)
theorem ek_call (F : ExcBaseFacts B newId initId bmB) (hT : ∀ X : String, bm.contains (.type X) = bmB.contains (.type X)) {fI : Addr} (hC : h.get? C = some (excClassObj nm q C N bs bm hdct sn sub ab col dd k0 k1 k2 k3 k5 newId))
    (hi : PySem.W.Looks (model prog w) h (typeLookup (.ref C) "__init__") (some (.ref fI))) (hb : ∀ self, PySem.W.Looks (model prog w) h (bindSpecial (.ref fI) self) (.ref fI, [self])) (hrest : rest.length ≤ sizeLine)
    (hq : codeAny (model prog w) (A.under (.builtin "type.__call__" ⟨.ref C :: rest, kw⟩)) (.call (.ref fI) ⟨.ref (h.objs.size + 1) :: rest, kw⟩) (PySem.W.InitBack (h.objs.size + 1) R) ⟨(h.push (PySem.W.kdv_tup rest)).push (PySem.HandSPX.excO C h.objs.size), g, d, t, os⟩) :
    codeAny (model prog w) A (.call (.ref C) ⟨rest, kw⟩) R ⟨h, g, d, t, os⟩ := by
  have g1 := tc_lookup; have g2 := tc_bind (.ref C); have hTy : (⟨h, g, d, t, os⟩ : Shared).TypeIs (.ref C) "type" := ⟨_, hC, rfl⟩
  refine codeAny_of_tree ?_; show wpAny _ _ (callAny (.ref C) _) _ _ _
  repeat (any_goals (first | assumption | (with_reducible refine wpAny_loadPart_at hC ?_) | wp_step))
  refine ⟨rfl, codeAny_call_builtin_at (Code.quiet_builtin _ (by decide +kernel)) entry_typeCall ?_⟩
  have chk : wpAny (model prog w) A.in1 (checkBuiltinCall "type.__call__" ⟨.ref C :: rest, kw⟩) (fun _ s1 => s1 = ⟨h, g, d, t, os⟩) (fun _ _ => False) ⟨h, g, d, t, os⟩ := by
    have g3 := tc_sub; simp only [checkBuiltinCall, tc_kind, tc_split]
    repeat (any_goals (first | assumption | rfl | (with_reducible refine wpAny_loadPart_at hC ?_) | (with_reducible refine wpAny_onRaise ?_) | (with_reducible refine wpAny_map ?_) | wp_step))
  refine wpAny_mono chk (fun _ s1 e1 => ?_) fun _ _ z => z.elim
  subst e1
  refine ek_typeCall F hT hC hi hb hrest (codeAny_mono hq fun r s' z => ?_)
  rcases r with e | (v | _ | _ | _) <;> exact z
end
end Dl
/-! try .. except X as n, the caught exception kept as a value. -/
namespace Dl
open PySem PySem.Spec PyProof.Rows L2 LamX
/-- a caught exception of the class cls, its dict at d -/
def exq (a : Addr) (cls : Value) (d : Option Addr) : HO := .ext fun h => ∃ oe : Obj, h.get? a = some oe ∧ Zc cls d oe ∧ ∃ vs, oe.data = .fields vs
theorem exq_ok {P : Program} {w : World} {H : Hp} {h : Heap} {a : Addr} {cls : Value} {d : Option Addr} {oe : Obj} (he : h.get? a = some oe) (hz : Zc cls d oe) (hd : ∃ vs, oe.data = .fields vs) : ObjOk P w H h a (exq a cls d) :=
  ⟨⟨oe, he, hz, hd⟩, ⟨oe, he⟩, fun h1 h2 z k => by
    obtain ⟨o1, e1, z1⟩ := z
    exact ⟨o1, k _ e1, z1⟩⟩
section
variable {X : Cx} {pins : List (Addr × Obj)} {σ : L2.St} {H : Hp} {s : Shared}
/-- a known object that was not there at the entry is tracked from here on -/
theorem inv_track {a : Addr} {o : HO} (I : Inv X pins σ H s) (h0 : X.s_0.heap.get? a = none) (na : H a = none) (nL : a ≠ X.env.locals) (nc : ∀ x c, X.env.cells.lookup x = some c → c ≠ a) (np : ∀ p ∈ X.pn ++ pins, p.1 ≠ a) (new : ObjOk X.prog X.w (upd H a o) s.heap a o) : Inv X pins σ (upd H a o) s := by
  have un : Un X.fs X.ex X.H_0 (upd H a o) X.s_0.heap s.heap := {
    keep := I.base.keep
    slot := I.base.slot
    free := fun b u e n hx => by
      have ne : b ≠ a := fun z => by rw [z, h0] at e; cases e
      rw [upd_ne ne]; exact I.base.free b u e n hx
    there := I.base.there
    tups := fun b xs e => by
      have q := I.base.tups b xs e
      rw [upd_ne (ne_of_none q na)]; exact q
    frzs := fun b u v e => by
      have q := I.base.frzs b u v e
      rw [upd_ne (ne_of_none q na)]; exact q
    tbls := fun b ps e => by
      obtain ⟨m, q⟩ := I.base.tbls b ps e
      exact ⟨m, by rw [upd_ne (ne_of_none q na)]; exact q⟩ }
  refine ⟨I.ok, I.os, I.bare, un, I.loc, I.cell, by rw [upd_ne (Ne.symm nL)]; exact I.free, fun x c e => by rw [upd_ne (nc x c e)]; exact I.freeC x c e, fun p hp => ?_, I.hok.laidN (fun b u e => e) na new, I.len⟩
  obtain ⟨e1, e2, e3⟩ := I.pin p hp
  exact ⟨e1, by rw [upd_ne (np p hp)]; exact e2, e3⟩
end
/-- what is wished of an exception of the body: it is a value of ours behind the suite -/
def wKp (K : PySem.W.Frag) (c : Value) (i : Nat) (ts : Addr → Value → Option Addr → TS) (Wout : WX) (D : Ends) : WX := fun cls d σ H =>
  ∃ b, PySem.W.exmOne K cls c = some b ∧ (b = true → ∀ a, H a = none → ts a cls d { nx := fun σ' H' => D.nx (σ'.set i none) (upd H' a (exq a cls d)), rt := fun v H' => D.rt v (upd H' a (exq a cls d)), bk := fun σ' H' => D.bk (σ'.set i none) (upd H' a (exq a cls d)), ct := fun σ' H' => D.ct (σ'.set i none) (upd H' a (exq a cls d)) } (σ.set i (some (.ref a))) H) ∧
    (b = false → Wout cls d σ H)
section
variable {X : Cx} {x n : Str} {c : Value} {i : Nat} {body suite : List Stmt} {b₀ : Stmt} {np pos pos' : Pos} {tb : WX → TS} {ts : Addr → Value → Option Addr → TS} {Wout : WX}
theorem ps_try_keep (hs : X.stack = X.env :: X.outer) (hf : X.env.frame = some X.env.locals) (hN : X.N.Nodup) (hi : X.N[i]? = some n) (hln : X.env.kindOf n = some .local) (hex : X.ex = []) (hc : Names X x c) (tk : Takes X Wout)
    (hb : ∀ (W : WX) (pn : List (Addr × Obj)) (xe : Value → Shared → Prop), Takes (X.tr pn xe) W → PassesOwn (model X.prog X.w) X.A X.env xe → PSs (X.tr pn xe) body (tb W))
    (hsu : ∀ (a : Addr) (oe : Obj) (cls : Value) (d : Option Addr) (pn : List (Addr × Obj)), Zc cls d oe → (∃ vs, oe.data = .fields vs) → PSs (X.suite a ((a, oe) :: pn)) (b₀ :: suite) (ts a cls d)) :
    PS X (.Try body [.ExceptHandler (some (.Name x np)) (some n) (b₀ :: suite) pos'] [] [] pos) (fun D σ H => tb (wKp X.K c i ts Wout D) D σ H) := by
  refine ⟨fun pins s σ H D I h => wpAny_Try_except ?_⟩
  have ok := I.ok
  have hfr : X.A.frames = some (X.env :: X.outer) := by (rw [ok.frames, hs])
  refine wpAny_mono ((hb (wKp X.K c i ts Wout D) (X.pn ++ pins) (fun e s₁ => wpAny (model X.prog X.w) X.A (noteFrame e X.env) (fun _ s₂ => wpAny (model X.prog X.w) X.A (setFlight e none) (fun _ s₃ => wpAny (model X.prog X.w) X.A (handleBy e X.env [.ExceptHandler (some (.Name x np)) (some n) (b₀ :: suite) pos']) (SP X pins D) X.xe s₃) X.xe s₂) X.xe s₁) (fun u s' xx => ?_) PassesOwn.looking).run [] s σ H D (I.toTry _) h) (fun f s1 hsp => ?_) fun e s1 he => he
  · obtain ⟨a, B, sI, pins', σ', H', cls, d, rfl, J', nb, up, sky, na, os, ag, b, hb1, hyes, hno⟩ := xx
    have J : Inv X pins σ' H' sI := J'.ofTry ok
    show wpAny (model X.prog X.w) X.A (noteFrame (.ref a) X.env) _ _ _
    refine Sky.land Zc.steady hfr hf (by rw [← hs]; exact sky) fun h3 fl3 up3 => ?_
    have J3 : Inv X pins σ' H' { s' with heap := h3 } := (J.landed nb fl3.1 (up.trans up3) os ag)
    obtain ⟨oe3, vs3, he3, hz3, hd3⟩ := (fl3.there)
    have nst : a ∉ frs (X.env :: X.outer) := fun hm => by
      obtain ⟨_, o', e', hnf⟩ := fl3.2.2.1.mem hm
      rw [he3] at e'; cases e'; exact hnf _ hd3
    have nL : a ≠ X.env.locals := fun z => nst (List.mem_filterMap.mpr ⟨X.env, List.mem_cons_self, by rw [hf, z]⟩)
    have nF : a ∉ X.fs := fun hm => by
      obtain ⟨e, he, q⟩ := List.mem_filterMap.mp hm; exact nst (List.mem_filterMap.mpr ⟨e, List.mem_cons_of_mem _ he, q⟩)
    have nI : sI.heap.get? a = none := by
      cases q : sI.heap.get? a with
      | none => rfl
      | some o =>
        have z := nb a o q (by rw [hs]; exact nst)
        rw [fl3.2.1] at z; cases z
    have n0 : X.s_0.heap.get? a = none := by
      cases q : X.s_0.heap.get? a with
      | none => rfl
      | some o =>
        obtain ⟨o', z⟩ := J.base.there a o q (by rw [hex]; exact List.not_mem_nil)
        rw [nI] at z; cases z
    have npin : ∀ p ∈ X.pn ++ pins, p.1 ≠ a := fun p hp z => by
      have q := (J.pin p hp).1
      rw [z, nI] at q; cases q
    have nc : ∀ y c, X.env.cells.lookup y = some c → c ≠ a := fun y c e z => by
      obtain ⟨v, o, q, _⟩ := J.cell y c e
      rw [z, nI] at q; cases q
    have S3 := J3.suite he3 hd3 na nL nF
    refine wpAny_handleBy_cons (codeAny_handlers_test ?_) (by intro q; cases q)
    have LM := PySem.W.exm_one (M := model X.prog X.w) J3.kIn (fun A Q E s k q => wpAny_typeOf_ref (k _ _ he3) (by rw [hz3.1]; exact q)) hb1
    have test : ∀ {Q : Value → Shared → Prop} {E : Value → Shared → Prop}, Q c { s' with heap := h3 } → wpAny (model X.prog X.w) (X.A.mark (some (.ref a))) (eval (.Name x np) X.env) Q E { s' with heap := h3 } := by
      intro Q E q
      obtain ⟨hg, hdbg, hm | ⟨hm, hv, hnn⟩⟩ := hc
      · exact ld_glob (X := X.suite a ((a, oe3) :: (X.pn ++ pins))) S3 hg hm q hdbg
      · exact ld_blt (X := X.suite a ((a, oe3) :: (X.pn ++ pins))) S3 hg hm hv q hnn hdbg
    refine test (LM.here ?_)
    cases b with
    | true =>
      refine codeAny_handlers_suite_as (HandSPX.lands_againZ fl3 fun h4 fl4 up4 => ?_)
      have J4 : Inv X pins σ' H' { s' with heap := h4 } := (J.landed nb fl4.1 ((up.trans up3).trans up4) os ag)
      obtain ⟨oe4, vs4, he4, hz4, hd4⟩ := (fl4.there)
      have S4 := J4.suite he4 hd4 na nL nF
      refine store_ok (X := X.suite a ((a, oe4) :: (X.pn ++ pins))) (v := .ref a) S4 hN hi (.inl hln) rfl (fun s5 S5 => wpAny_mono ((hsu a oe4 cls d (X.pn ++ pins) hz4 ⟨_, hd4⟩).run [] s5 _ H' _ S5 (hyes rfl a na)) (fun f s6 hsp => ?_) fun _ _ z => False.elim z) (.inr hln)
      have end_ : ∀ {σ6 : L2.St} {H6 : Hp} {Q : Shared → Prop}, Inv (X.suite a ((a, oe4) :: (X.pn ++ pins))) [] σ6 H6 s6 → (∀ s7, Inv X pins (σ6.set i none) (upd H6 a (exq a cls d)) s7 → Q s7) → wpAny (model X.prog X.w) X.A (do bindName X.env n .none; unbindBehindTheSuite X.env n pos') (fun _ s7 => Q s7) X.xe s6 := fun {σ6 H6 Q} S6 hq => by
        obtain ⟨p1, p2, _⟩ := S6.pin (a, oe4) (List.mem_append_left _ List.mem_cons_self)
        exact gone_ok (inv_track (S6.unsuite ok) n0 p2 nL nc npin (exq_ok p1 hz4 ⟨_, hd4⟩)) hN hi hln hq
      cases f with
      | next => obtain ⟨σ6, H6, S6, q6⟩ := hsp; exact end_ S6 fun s7 J7 => ⟨_, _, J7, q6⟩
      | brk => obtain ⟨σ6, H6, S6, q6⟩ := hsp; exact end_ S6 fun s7 J7 => ⟨_, _, J7, q6⟩
      | cont => obtain ⟨σ6, H6, S6, q6⟩ := hsp; exact end_ S6 fun s7 J7 => ⟨_, _, J7, q6⟩
      | ret u => obtain ⟨v6, σ6, H6, S6, r6, q6⟩ := hsp; exact end_ S6 fun s7 J7 => ⟨_, _, _, J7, r6, q6⟩
    | false =>
      refine wpAny_handleBy_nil ?_
      obtain ⟨k1, k2, k3, oe, vs, T, oT, ts', he, hz, hd, h1, hr⟩ := id fl3
      unfold PySem.passOn; refine wpAny_bind (wpAny_field he hd h1 ?_); rw [if_neg (show ¬ ((Value.ref T == Value.none) = true) from by simp)]
      have fin : wpAny (model X.prog X.w) X.A (setFlight (.ref a) X.env.frame) (fun _ s4 => wpAny (model X.prog X.w) X.A (throw (.ref a) : Sem Flow) (SP X pins D) X.xe s4) X.xe { s' with heap := h3 } := by
        rw [hf]
        exact HandSPX.setFlight_upZ fl3 fun h4 hh4 up4 => wpAny_throw (tk _ _ ⟨a, B, sI, pins, σ', H', cls, d, rfl, J, nb, (up.trans up3).trans up4, .inr (.inr (by rw [hs]; exact hh4)), na, os, ag, hno rfl⟩)
      first | exact wpAny_bind (wpAny_pure (wpAny_bind fin)) | exact wpAny_bind fin
  · cases f with
    | next => obtain ⟨σ', H', J', q⟩ := hsp; exact wpAny_execs_nil ⟨σ', H', J'.ofTry ok, q⟩
    | brk => obtain ⟨σ', H', J', q⟩ := hsp; exact ⟨σ', H', J'.ofTry ok, q⟩
    | cont => obtain ⟨σ', H', J', q⟩ := hsp; exact ⟨σ', H', J'.ofTry ok, q⟩
    | ret u => obtain ⟨v, σ', H', J', r, q⟩ := hsp; exact ⟨v, σ', H', J'.ofTry ok, r, q⟩
end
end Dl
/-! Kept exceptions: isinstance, the field; values known as this very object; defs that raise. -/
namespace Dl
open PySem PySem.Spec PyProof.Rows L2 LamX
/-! ### isinstance(e, c), e.f -/
theorem exq_at {X : Cx} {pins : List (Addr × Obj)} {σ : L2.St} {H : Hp} {s : Shared} {a dd C : Addr} {fs : List (Str × V)} (I : Inv X pins σ H s) (e1 : H a = some (exq a (.ref C) (some dd))) (e2 : H dd = some (.xd fs)) :
    ∃ (oe od : Obj) (mA : Str → Option Value), PySem.W.InstAt s.heap a oe C (some od) ∧ (∀ name, PySem.W.lookIn name od = some (mA name)) ∧ ∀ f, RelO (fs.lookup f) (mA f) := by
  have z : ObjOk X.prog X.w H s.heap a (exq a (.ref C) (some dd)) := I.hok a _ e1
  obtain ⟨oe, q1, q2, vs, q3⟩ := z.1
  obtain ⟨mA, hns, hr⟩ := (show ObjOk X.prog X.w H s.heap dd (.xd fs) from I.hok dd _ e2)
  obtain ⟨od, ho, hl⟩ := lookIn_ns hns
  exact ⟨oe, od, mA, ⟨q1, q2.1, by unfold PySem.W.notCls; rw [q3] <;> rfl, by rw [q2.2]; exact ho⟩, hl, hr⟩
def rIsX (K : PySem.W.Frag) : List V → Hp → VK → Prop := fun xs H Q => ∃ (a dd C : Addr) (fs : List (Str × V)) (c : V) (cv : Value) (b : Bool), xs = [.ref a, c] ∧ H a = some (exq a (.ref C) (some dd)) ∧ H dd = some (.xd fs) ∧ ExcC K C ∧ (∀ u, L2.RelV c u → u = cv) ∧ PySem.W.kitOne K (.ref C) cv = some b ∧ Q (.bl b) H
theorem call_isX {X : Cx} : CallR X (.builtin "isinstance") (rIsX X.K) := by
  intro pins s σ H xs us Q I r h
  obtain ⟨a, dd, C, fs, c, cv, b, rfl, e1, e2, hC, hcv, e, q⟩ := h
  cases r with
  | cons rx rr =>
  cases rr with
  | cons rt rr =>
  cases rr
  cases rx
  have ec := hcv _ rt
  subst ec
  obtain ⟨oe, od, mA, J, _, _⟩ := exq_at I e1 e2
  have hcl : (PySem.W.clsIn X.K C).isSome = true := by
    have q := hC.hm
    unfold PySem.W.mroIn at q
    cases z : PySem.W.clsIn X.K C with
    | none => rw [z] at q; cases q
    | some cd => rfl
  exact PySem.W.kia_one (PySem.W.kitx_exc hcl hC.hg hC.hk hC.hs hC.ha hC.hn hC.ht hC.hm) I.kIn J e (fun z => nomatch z) fun tk => ⟨.bl b, H, I.kept (t' := tk) fun _ _ z => z, rfl, q⟩
theorem k_isX {X : Cx} (κ : PySem.W.Frag) (h : X.K = κ) : CallR X (.builtin "isinstance") (rIsX κ) := h ▸ call_isX
def tFx (K : PySem.W.Frag) (n : Str) (te : TE) : TE := fun σ H Q => te σ H fun x H1 => ∃ (a dd C : Addr) (fs : List (Str × V)) (v : V), x = .ref a ∧ H1 a = some (exq a (.ref C) (some dd)) ∧ H1 dd = some (.xd fs) ∧ XfC K C ∧ PySem.W.findIn K (.ref C) n = some none ∧ fs.lookup n = some v ∧ Q v H1
theorem pe_fx {X : Cx} (κ : PySem.W.Frag) (h : X.K = κ) {e : Expr} {te : TE} {pos : Pos} {n : Str} (he : PE X e te) (hb : attributeBase e n X.env (eval e X.env) = eval e X.env := by rfl) : PE X (.Attribute e n pos) (tFx κ n te) := by
  subst h
  refine ⟨fun pins s σ H Q I h => attr_of hb (thn (he.run pins s σ H _ I h) fun u s1 hh => ?_)⟩
  obtain ⟨x, H1, I1, rx, a, dd, C, fs, v, rfl, e1, e2, T, hno, l, q⟩ := hh
  obtain rfl : u = Value.ref a := rx
  obtain ⟨oe, od, mA, J, hl, hr⟩ := exq_at I1 e1 e2
  obtain ⟨u, hu, ru⟩ := RelO.some_of (v := v) (o := mA n) (by rw [← l]; exact hr n)
  exact HandSPX.exc_get I1.kIn J T.ga T.gg T.exC (PySem.W.findObj_own T.hdC hno rfl (by rw [hl, hu])) (handed_of ru) ⟨v, H1, I1.tok _, ru, q⟩
/-! ### a value known as this very object -/
def isD (K : Cfg) (v : V) (d : D) : D := match v with
  | .ref a0 => .ob fun a H => a = a0 ∧ Rp K H (.ref a0) d
  | _ => d
section
variable {K : Cfg} {H H' : Hp} {v u : V} {d : D}
theorem isD_rp (h : Rp K H v d) : Rp K H v (isD K v d) := by
  cases v with
  | ref a => exact .ob fun G g => ⟨rfl, h.ex g⟩
  | _ => exact h
theorem isD_out (h : Rp K H u (isD K v d)) : Rp K H u d := by
  cases v with
  | ref a =>
    cases h with
    | ob h =>
      obtain ⟨rfl, h⟩ := h H (Kp.refl H)
      exact h
  | _ => exact h
theorem isD_val (h0 : Rp K H' v d) (h : Rp K H u (isD K v d)) : u = v := by
  cases v with
  | ref a =>
    cases h with
    | ob h => rw [(h H (Kp.refl H)).1]
  | _ => cases h0 <;> cases h <;> rfl
end
section
variable {K : Cfg} {ρ : Env} {ta tb te : TE} {v : V} {d : D}
theorem EvD.imp {d' : D} (h : EvD K te ρ d) (k : ∀ v H, Rp K H v d → Rp K H v d') : EvD K te ρ d' := fun M σ H m e Q q => h M σ H m e Q fun v H2 e2 r => q v H2 e2 (k _ _ r)
theorem EvD.out (h : EvD K te ρ (isD K v d)) : EvD K te ρ d := h.imp fun _ _ r => isD_out r
theorem ev_fixD {i : Nat} (h : ρ[i]? = some (.fix v d)) : EvD K (tVar i) ρ (isD K v d) := fun M σ H m e Q q => by
  obtain ⟨o, e1, rfl, r⟩ := e.get h
  exact ⟨v, e1, q v H Ex.refl (isD_rp r)⟩
theorem ev_fixd {i : Nat} (h : ρ[i]? = some (.fix v d)) : EvD K (tVar i) ρ d := (ev_fixD h).out
/-- ρ knows v as d -/
def Knows (K : Cfg) (ρ : Env) (v : V) (d : D) : Prop := ∀ (M : List Addr) (σ : L2.St) (H : Hp), MOk K M H → EOk K M H ρ σ → Rp K (hid H M) v d
theorem knows_fix {i : Nat} (h : ρ[i]? = some (.fix v d)) : Knows K ρ v d := fun M σ H m e => by
  obtain ⟨o, e1, rfl, r⟩ := e.get h
  exact r
theorem knows_is {i : Nat} {H0 : Hp} (h : ρ[i]? = some (.dat (isD K v d))) (h0 : Rp K H0 v d) : Knows K ρ v d := fun M σ H m e => by
  obtain ⟨o, e1, u, rfl, r⟩ := e.get h
  rw [← isD_val h0 r]
  exact isD_out r
theorem knows_at {i j : Nat} {xs : List D} {H0 : Hp} (h : ρ[i]? = some (.dat (.lst xs))) (hx : xs[j]? = some (isD K v d)) (h0 : Rp K H0 v d) : Knows K ρ v d := fun M σ H m e => by
  obtain ⟨o, e1, u, rfl, r⟩ := e.get h
  cases r with
  | lst h1 h2 =>
    obtain ⟨w, hw, rw'⟩ := h2.get hx
    rw [← isD_val h0 rw']
    exact isD_out rw'
/-- slot i is this very value from here on -/
theorem h_fixV (i : Nat) {B : Hp} {M : List Addr} {P : L2.St → Hp → Prop} (h : ρ[i]? = some (.dat d)) (k : ∀ v, Hold K B M (ρ.set i (.fix v d)) P) : Hold K B M ρ P := fun B' b σ H st => by
  obtain ⟨o, e1, v, rfl, r⟩ := st.ev.get h
  have st2 := st.set (i := i) (s := .fix v d) (o := some v) rfl ⟨rfl, r⟩
  rw [set_self e1] at st2
  exact k v B' b σ H st2
/-! ### kept exceptions as data -/
def exR (C : Addr) (v : V) : Addr → Hp → Prop := fun a H => ∃ dd, H a = some (exq a (.ref C) (some dd)) ∧ H dd = some (.xd [("value", v)])
theorem exR_mono {C a : Addr} {v : V} (h : exR C v a H) (e : Kp H H') : exR C v a H' := by
  obtain ⟨dd, h1, h2⟩ := h
  exact ⟨dd, e _ _ h1 (fun _ z => by cases z), e _ _ h2 (fun _ z => by cases z)⟩
theorem exR_rp {C a : Addr} {v : V} {H : Hp} (h : exR C v a H) : Rp K H (.ref a) (.ob (exR C v)) := .ob fun _ g => exR_mono h g
theorem rp_exR {C : Addr} {H : Hp} (h : Rp K H u (.ob (exR C v))) : ∃ a, u = .ref a ∧ exR C v a H := by
  cases h with
  | ob h => exact ⟨_, rfl, h H (Kp.refl H)⟩
theorem ev_isX {C : Addr} {c : V} {cv : Value} {b : Bool} (h : EvD K te ρ (.ob (exR C v))) (hC : ExcC K.K C) (hcv : ∀ u, L2.RelV c u → u = cv) (e : PySem.W.kitOne K.K (.ref C) cv = some b) : EvD K (tCB (rIsX K.K) (tCons te (tCons (tC c) tNil))) ρ (.bl b) := fun M σ H m eo Q q =>
  h M σ H m eo _ fun w H1 e1 r => by
    obtain ⟨a, rfl, dd, h1, h2⟩ := rp_exR r
    exact ⟨a, dd, C, _, c, cv, b, rfl, (hid_some h1).2, (hid_some h2).2, hC, hcv, e, q _ H1 e1 (.bl b)⟩
theorem ev_fx {C : Addr} (h : EvD K te ρ (.ob (exR C v))) (k : Knows K ρ v d) (T : XfC K.K C) (hno : PySem.W.findIn K.K (.ref C) "value" = some none) : EvD K (tFx K.K "value" te) ρ (isD K v d) := fun M σ H m eo Q q =>
  h M σ H m eo _ fun w H1 e1 r => by
    obtain ⟨a, rfl, dd, h1, h2⟩ := rp_exR r
    exact ⟨a, dd, C, _, v, rfl, (hid_some h1).2, (hid_some h2).2, T, hno, rfl, q _ H1 e1 (isD_rp (k M σ H1 (m.ex e1) (eo.ex e1)))⟩
end
/-! ### defs that raise -/
/-- called with data it raises the error that G tells, with the very object -/
def spX (K : Cfg) (n : Nat) (G : List D → Addr → V → Prop) : Sp := fun vs H _ E => ∃ (M : List Addr) (ds : List D) (C : Addr) (v : V), vs.length = n ∧ MOk K M H ∧ RpA K (hid H M) vs ds ∧ G ds C v ∧ ∀ dd H2, Ge H H2 → LamX.Tabs K.T H2 → H dd = none → H2 dd = some (.xd [("value", v)]) → E (.ref C) (some dd) H2
/-- what is wanted of the error -/
def ErrK (K : Cfg) (B : Hp) (C : Addr) (v : V) (E : XK) : Prop := ∀ dd H2, Ge B H2 → LamX.Tabs K.T H2 → B dd = none → H2 dd = some (.xd [("value", v)]) → E (.ref C) (some dd) H2
section
variable {K : Cfg} {ρ : Env} {te : TE} {v : V} {d : D} {B : Hp} {M : List Addr} {De : Ends}
/-- f(..), f a def that raises -/
theorem h_callX {n : Nat} {G : List D → Addr → V → Prop} {E : XK} {t : TA} {ds : List D} {C : Addr} {dvs : List V} {es : List D} (h : EvA K t ρ ds) (hd : ∀ H, RpA K H dvs es) (hn : (ds ++ es).length = n) (hG : G (ds ++ es) C v) (k : ErrK K B C v E) {Q : L2.St → VK} : Hold K B M ρ (fun σ H => tCall (spX K n G) dvs E t σ H (Q σ)) := fun B' b σ H st =>
  h _ σ H st.mok st.ev _ fun vs H1 e1 r => ⟨_, ds ++ es, C, v, by rw [List.length_append, r.len, (hd H1).len, ← List.length_append]; exact hn, (st.grow e1).mok, r.app (hd _), hG, fun dd H2 g t hdd he =>
    k dd H2 ((b.trans st.ex).trans (e1.ge.trans g)) t ((b.trans st.ex).back (e1.back hdd)) he⟩
theorem h_callX0 {n : Nat} {G : List D → Addr → V → Prop} {E : XK} {t : TA} {ds : List D} {C : Addr} (h : EvA K t ρ ds) (hn : ds.length = n) (hG : G ds C v) (k : ErrK K B C v E) {Q : L2.St → VK} : Hold K B M ρ (fun σ H => tCall (spX K n G) [] E t σ H (Q σ)) :=
  h_callX (es := []) h (fun _ => .nil) (by rw [List.append_nil]; exact hn) (by rw [List.append_nil]; exact hG) k
/-- raise C(e) -/
theorem h_raise {C : Addr} {E : XK} {H0 : Hp} (h : EvD K te ρ (isD K v d)) (h0 : Rp K H0 v d) (k : ErrK K B C v E) : Hold K B M ρ (fun σ H => tMkO C (spIni C) [] (tCons te tNil) σ H fun cls d H' => E cls d H') := fun B' b σ H st =>
  h _ σ H st.mok st.ev _ fun u H1 e1 r => by
    have eu := isD_val h0 r
    subst eu
    refine ⟨by show 1 ≤ 1000; decide, fun a ha => ⟨a, u, rfl, upd_same, fun dx hdx hne => ⟨rfl, dx, [("value", u)], upd_same, ?_, ?_, ?_⟩⟩⟩
    · rw [upd_ne hne, upd_same]
    · rw [upd_ne hne] at hdx; exact hdx
    · have hdx1 : H1 dx = none := by rw [upd_ne hne] at hdx; exact hdx
      have st1 := st.grow e1
      have all : ∀ c o, H1 c = some o → upd (L2.del (upd (upd (upd H1 a (exo a C none)) dx (exd dx [("value", u)])) a (exo a C (some dx))) a) dx (.xd [("value", u)]) c = some o := fun c o hc => by
        have n1 : c ≠ dx := fun z => by rw [z, hdx1] at hc; cases hc
        have n2 : c ≠ a := fun z => by rw [z, ha] at hc; cases hc
        rw [upd_ne n1, L2.del_ne n2, upd_ne n2, upd_ne n1, upd_ne n2]
        exact hc
      exact k dx _ ((b.trans st1.ex).trans (Ge.all all)) (st1.mo.t.ext all) ((b.trans st1.ex).back hdx1) upd_same
end
end Dl
/-! Defs that raise: made, called; defs in lists, called; calls by keywords alone. -/
namespace Dl
open PySem PySem.Spec PyProof.Rows L2 LamX
/-- an own exception class, by its name -/
structure ExD (P : Program) (K : PySem.W.Frag) (mg : Str → Option Value) (x : Str) (C : Addr) : Prop where
  mgx : mg x = some (.ref C)
  ini : ∃ fI fd, ExIni P K mg C fI fd ∧ PySem.W.findIn K (.ref C) "__init__" = some (some (.ref fI)) ∧ PySem.W.typeIn K (.ref fI) = some (.type "function") ∧ Binds K fd ["self", "value"] []
  exc : ExcC K C
  xf : XfC K C
  noat : PySem.W.findIn K (.ref C) "value" = some none
/-- raise C(e) -/
theorem pmk_ini {X : Cx} {x : Str} {C : Addr} {p pos : Pos} {e : Expr} {t : TA} {k : Nat} (c : ExD X.prog X.K X.mg x C) (hr : Room k X.A) (hk : 2 ≤ k) (hg : Gl X x) (ha : PA X [e] t) (hdb : (x == ("__debug__" : Str)) = false := by decide)
    (he : starEach [e] X.env = (false, eval e X.env) :: starEach [] X.env := by rfl) (hpl : (backTo pos (starEach [] X.env)).any (·.1) = false := by rfl) : PMk X (.Call (.Name x p) [e] [] pos) (tMkO C (spIni C) [] t) := by
  obtain ⟨fI, fd, hi, h1, h2, hb⟩ := c.ini
  exact pmk_oex hi.oex h1 h2 (fn_ini (CX := CX0) hi) (hr.mono hk) hb .nil pass0 hg c.mgx ha hdb he hpl
/-- a def, at f -/
structure FdX (P : Program) (w : World) (K : PySem.W.Frag) (mg : Str → Option Value) (base : Heap) (CX : CXT) (k : Nat) (x : Str) (f : Addr) (sp : Sp) (dvs : List V) : Prop where
  ex : ∃ (fd : FuncData) (ps : List Str) (ds : List Value), FnOk P w K mg base CX k f fd ps sp ∧ mg x = some (.ref f) ∧ PySem.W.keepIn K (.ref f) = true ∧ Binds K fd ps ds ∧ Vals dvs ds
section
variable {P : Program} {w : World} {K : PySem.W.Frag} {mg : Str → Option Value} {base : Heap} {CX : CXT} {k j : Nat} {x : Str} {f : Addr} {sp sp' : Sp} {dvs : List V} {fd : FuncData} {ps : List Str}
theorem FnOk.of0 (F : FnOk P w K mg base CX0 k f fd ps sp) : FnOk P w K mg base CX k f fd ps sp := ⟨F.len, fun A outer s H args us vs Q E hr e0 hb r h => codeAny_mono (F.run A outer s H args us vs Q E hr e0 hb r h) fun r s' q => by
  cases r with
  | error e => exact (show False from q).elim
  | ok fl => cases fl <;> exact q⟩
/-- it keeps either promise -/
theorem FnOk.or' (F : FnOk P w K mg base CX k f fd ps sp) (G : FnOk P w K mg base CX k f fd ps sp') : FnOk P w K mg base CX k f fd ps (fun vs H Q E => sp vs H Q E ∨ sp' vs H Q E) :=
  ⟨fun vs H Q E h => h.elim (F.len vs H Q E) (G.len vs H Q E), fun A outer s H args us vs Q E hr e0 hb r h => h.elim (F.run A outer s H args us vs Q E hr e0 hb r) (G.run A outer s H args us vs Q E hr e0 hb r)⟩
end
theorem pe_fX {X : Cx} {CX : CXT} {k j : Nat} {x : Str} {f : Addr} {sp : Sp} {dvs : List V} {p pos : Pos} {e : Expr} {es : List Expr} {t : TA} {E : XK} (c : FdX X.prog X.w X.K X.mg X.base CX k x f sp dvs) (hr : Room j X.A) (hk : k ≤ j) (hg : Gl X x) (hx : Passes CX X E) (ha : PA X (e :: es) t)
    (hdb : (x == ("__debug__" : Str)) = false := by decide) (he : starEach (e :: es) X.env = (false, eval e X.env) :: starEach es X.env := by rfl) (hpl : (backTo pos (starEach es X.env)).any (·.1) = false := by rfl) :
    PE X (.Call (.Name x p) (e :: es) [] pos) (tCall sp dvs E t) := by
  obtain ⟨fd, ps, ds, F, hm, kp, b, d⟩ := c.ex
  exact pe_call F (hr.mono hk) hg hm kp b d hx ha hdb he hpl
/-- a def as a value -/
theorem pe_fn {X : Cx} {CX : CXT} {k : Nat} {x : Str} {f : Addr} {sp : Sp} {dvs : List V} {p : Pos} (c : FdX X.prog X.w X.K X.mg X.base CX k x f sp dvs) (hg : Gl X x) (hdb : (x == ("__debug__" : Str)) = false := by decide) : PE X (.Name x p) (tC (.ref f)) := by
  obtain ⟨fd, ps, ds, F, hm, _⟩ := c.ex
  exact pe_glob hg hm rfl hdb
theorem pe_cls {X : Cx} {P : Program} {x : Str} {C : Addr} {p : Pos} (c : ExD P X.K X.mg x C) (hg : Gl X x) (hdb : (x == ("__debug__" : Str)) = false := by decide) : PE X (.Name x p) (tC (.ref C)) := pe_glob hg c.mgx rfl hdb
/-- [f, ..][i](e, ..) -/
def tCallE (P : Program) (w : World) (K : PySem.W.Frag) (mg : Str → Option Value) (base : Heap) (CX : CXT) (j : Nat) (E : XK) (te : TE) (t : TA) : TE := fun σ H Q => te σ H fun x H1 => ∃ (y : Str) (f : Addr) (sp : Sp) (k : Nat), x = .ref f ∧ FdX P w K mg base CX k y f sp [] ∧ k ≤ j ∧ t σ H1 fun vs H2 => sp vs H2 Q E
theorem pe_callE {X : Cx} {CX : CXT} {j : Nat} {pos p1 : Pos} {a b e : Expr} {es : List Expr} {te : TE} {t : TA} {E : XK} (hf : PE X (.Subscript a b p1) te) (hr : Room j X.A) (hx : Passes CX X E) (ha : PA X (e :: es) t)
    (he : starEach (e :: es) X.env = (false, eval e X.env) :: starEach es X.env := by rfl) (hpl : (backTo pos (starEach es X.env)).any (·.1) = false := by rfl) :
    PE X (.Call (.Subscript a b p1) (e :: es) [] pos) (tCallE X.prog X.w X.K X.mg X.base CX j E te t) := by
  refine ⟨fun pins s σ H Q I h => ?_⟩
  show wpAny _ _ (do callWith pos (← eval (.Subscript a b p1) X.env) [] (backTo pos (starEach (e :: es) X.env)) (backToKw pos (keywordEach [] X.env))) _ _ s
  refine wpAny_bind (thn (hf.run pins s σ H _ I h) fun u s0 hh => ?_)
  obtain ⟨v, H0, I0, rv, y, f, sp, k, rfl, c, hk, q0⟩ := hh
  obtain rfl : u = Value.ref f := rv
  obtain ⟨fd, ps, ds, F, hm, kp, hb, d⟩ := c.ex
  cases d
  refine PySem.W.callWith_K (h₀ := X.base) I0.ok.mod.kin kp (thn (ha.run pos pins s0 σ H0 _ I0 q0) fun us s1 ⟨vs, H1, I1, r, q⟩ => ⟨I1.kIn, ?_⟩) he hpl
  exact run_fn F (hr.mono hk) hb .nil hx I1 r (by rw [List.append_nil]; exact q)
/-- f(k = e, ..) -/
def tCallKO (sp : Sp) (gV : List V → List V → List V) (E : XK) (tk : TA) : TE := fun σ H Q => tk σ H fun zs H2 => sp (gV [] zs) H2 Q E
theorem pe_callKO {X : Cx} {CX : CXT} {k j : Nat} {x : Str} {f : Addr} {fd : FuncData} {ps ks : List Str} {sp : Sp} {p pos : Pos} {kws : List Keyword} {tk : TA} {E : XK} {g : List Value → List Value → List Value} {gV : List V → List V → List V} (F : FnOk X.prog X.w X.K X.mg X.base CX k f fd ps sp) (hr : Room j X.A) (hk : k ≤ j) (hg : Gl X x) (hm : X.mg x = some (.ref f)) (kp : PySem.W.keepIn X.K (.ref f) = true)
    (hb : KBinds X.K fd ps ks g gV) (hx : Passes CX X E) (hkw : PK X kws tk) (hall : (backToKw pos (keywordEach kws X.env)).all (·.1.isSome) = true := by rfl) (hks : (backToKw pos (keywordEach kws X.env)).filterMap (·.1) = ks := by rfl) (hdb : (x == ("__debug__" : Str)) = false := by decide)
    (hpl : ((backTo pos (starEach [] X.env)).any (·.1) || (backToKw pos (keywordEach kws X.env)).any (·.1.isNone)) = false := by rfl) : PE X (.Call (.Name x p) [] kws pos) (tCallKO sp gV E tk) := by
  refine ⟨fun pins s σ H Q I h => wpAny_Call_Name_kw (ld_glob I hg hm ?_ hdb)⟩
  refine PySem.W.callWith_KW0 (h₀ := X.base) I.ok.mod.kin kp hall (thn (hkw.run pos pins s σ H _ I h) fun ws s2 ⟨zs, H2, I2, rz, q2⟩ => ⟨I2.kIn, ?_⟩) hpl
  rw [hks]
  exact run_fnk F (hr.mono hk) hb hx I2 .nil rz q2
section
variable {K : Cfg} {ρ : Env} {te : TE} {v : V} {d : D}
/-- this very def -/
def fnD (f : Addr) : D := .ob fun a _ => a = f
theorem ev_fn {f : Addr} : EvD K (tC (.ref f)) ρ (fnD f) := fun M σ H m e Q q => q _ H Ex.refl (.ob fun _ _ => rfl)
theorem rp_fn {f : Addr} {H : Hp} {u : V} (h : Rp K H u (fnD f)) : u = .ref f := by
  cases h with
  | ob h => rw [h H (Kp.refl H)]
/-- f a def that hands back r -/
theorem ev_callE {P : Program} {w : World} {mg : Str → Option Value} {base : Heap} {CX : CXT} {j k n : Nat} {E : XK} {t : TA} {y : Str} {f : Addr} {G : List D → D → Prop} {ds : List D} {r : D} (hf : EvD K te ρ (fnD f)) (c : FdX P w K.K mg base CX k y f (spF K n G) []) (hk : k ≤ j) (h : EvA K t ρ ds) (hn : ds.length = n) (hG : G ds r) : EvD K (tCallE P w K.K mg base CX j E te t) ρ r := fun M σ H m e Q q =>
  hf M σ H m e _ fun u H1 e1 r1 => ⟨y, f, _, k, rp_fn r1, c, hk, h M σ H1 (m.ex e1) (e.ex e1) _ fun vs H2 e2 r2 => ⟨M, ds, r, by rw [r2.len]; exact hn, (m.ex e1).ex e2, r2, hG, fun v H3 e3 r3 => q v H3 ((e1.trans e2).trans e3) r3⟩⟩
theorem h_callEX {P : Program} {w : World} {mg : Str → Option Value} {base : Heap} {CX : CXT} {j k n : Nat} {E : XK} {t : TA} {y : Str} {f C : Addr} {G : List D → Addr → V → Prop} {ds : List D} {B : Hp} {M : List Addr} {Q : L2.St → VK} (hf : EvD K te ρ (fnD f)) (c : FdX P w K.K mg base CX k y f (spX K n G) []) (hk : k ≤ j) (h : EvA K t ρ ds) (hn : ds.length = n) (hG : G ds C v) (hE : ErrK K B C v E) :
    Hold K B M ρ (fun σ H => tCallE P w K.K mg base CX j E te t σ H (Q σ)) := fun B' b σ H st =>
  hf _ σ H st.mok st.ev _ fun u H1 e1 r1 => ⟨y, f, _, k, rp_fn r1, c, hk, by
    have hh := h_callX0 (K := K) (B := B) (M := M) (ρ := ρ) (n := n) (G := G) (E := E) (Q := Q) h hn hG hE B' b σ H1 (st.grow e1)
    simpa only [tCall, List.append_nil] using hh⟩
theorem ev_callKO {n : Nat} {G : List D → D → Prop} {E : XK} {t : TA} {gV : List V → List V → List V} {gD : List D → List D} {ds : List D} {r : D} (h : EvA K t ρ ds) (hg : ∀ H vs, RpA K H vs ds → RpA K H (gV [] vs) (gD ds)) (hn : (gD ds).length = n) (hG : G (gD ds) r) : EvD K (tCallKO (spF K n G) gV E t) ρ r := fun M σ H m e Q q =>
  h M σ H m e _ fun vs H1 e1 r1 => ⟨M, gD ds, r, by rw [(hg _ _ r1).len]; exact hn, m.ex e1, hg _ _ r1, hG, fun v H2 e2 r2 => q v H2 (e1.trans e2) r2⟩
end
/-! ### the def's rule -/
section
variable {P : Program} {w : World} {K : Cfg} {mg : Str → Option Value} {base : Heap} {f : Addr} {fd : FuncData} {cdv : Value} {x : Str} {st : Stmt} {dvs : List V} {N ps : List Str} {k : Nat}
theorem fn_x {G : List D → Addr → V → Prop} (d : Df K mg x st dvs cdv f fd) (S : FnScope N ps (defScope st))
    (hbody : ∀ (A : Around) (outer : List PySem.Env) (s : Shared) (H : Hp) (E : XK), Room k (A.deeper (envOfC x (defScope st) s.heap.objs.size f cdv)) →
      ∃ t, PSs (cxOf (L2.CX P w) P w K mg base N x (defScope st) f cdv A outer s H E) (defBody st) t ∧ ∀ ds C v, ds.length = ps.length → G ds C v → ∀ (B : Hp) (M : List Addr) (De : Ends), ErrK K B C v E → Hold K B M (startE N.length ds) (t De)) :
    FnOk P w K mg base (L2.CX P w) (k + 1) f fd ps (spX K ps.length G) := by
  obtain ⟨oc, od, dV, kV, doc, pm, an, ct, osl, rfl, lk, hcd, hD⟩ := d.fn
  refine fn_of lk hcd S (fun vs H Q E h => ?_) fun A outer s H vs Q E hr h => ?_
  · obtain ⟨M, ds, C, v, hl, _⟩ := h
    exact hl
  · obtain ⟨M, ds, C, v, hl, m, r, hG, q⟩ := h
    obtain ⟨t, h1, h2⟩ := hbody A outer s H E hr
    exact ⟨t, h1, h2 ds C v (by rw [← r.len]; exact hl) hG H M _ q H (Ge.refl H) _ H (start_ok m r)⟩
theorem FdX.mk' {CX : CXT} {sp : Sp} {κ : PySem.W.Frag} {ds : List Value} {vs : List V} (F : FnOk P w κ mg base CX k f fd ps sp) (d : Df κ mg x st dvs cdv f fd) (b : Binds κ fd ps ds) (v : Vals vs ds) : FdX P w κ mg base CX k x f sp vs := ⟨fd, ps, ds, F, d.mgf, d.kp, b, v⟩
end
theorem takes_x {P : Program} {w : World} {K : PySem.W.Frag} {mg : Str → Option Value} {base : Heap} {N : List Str} {qual : Str} {scope : Scope} {f : Addr} {cd : Value} {A : Around} {outer : List PySem.Env} {s : Shared} {H : Hp} {E : XK} : Takes (cxOf (L2.CX P w) P w K mg base N qual scope f cd A outer s H E) (fun cls d _ H => E cls d H) := takes_of rfl rfl rfl rfl
theorem passes_x {P : Program} {w : World} {K : PySem.W.Frag} {mg : Str → Option Value} {base : Heap} {N : List Str} {qual : Str} {scope : Scope} {f : Addr} {cd : Value} {A : Around} {outer : List PySem.Env} {s : Shared} {H : Hp} {E : XK} : Passes (L2.CX P w) (cxOf (L2.CX P w) P w K mg base N qual scope f cd A outer s H E) E := passes_call takes_x fun _ _ _ _ h => h
/-- what is never reached -/
theorem pss_cut {X : Cx} {sts : List Stmt} : PSs X sts (fun _ _ _ => False) := ⟨fun _ _ _ _ _ _ h => h.elim⟩
theorem ps_cut {X : Cx} {st : Stmt} : PS X st (fun _ _ _ => False) := ⟨fun _ _ _ _ _ _ h => h.elim⟩
end Dl
/-! Dicts that are walked (locked); objects changed for a while; dicts of ints and texts as keys. -/
namespace Dl
open PySem PySem.Spec PyProof.Rows L2 LamX
mutual
/-- no dict in it, no object -/
def D.noD : D → Bool
  | .lst xs => D.noDA xs
  | .tup xs => D.noDA xs
  | .dT _ _ => false
  | .dK _ _ => false
  | .ob _ => false
  | _ => true
def D.noDA : List D → Bool
  | [] => true
  | x :: xs => D.noD x && D.noDA xs
end
theorem D.noDA_iff : ∀ {xs : List D}, D.noDA xs = true ↔ ∀ x ∈ xs, x.noD = true
  | [] => by simp [D.noDA]
  | x :: xs => by simp [D.noDA, D.noDA_iff (xs := xs)]
/-- no list, no tuple -/
def NoSq : HO → Prop
  | .lst _ => False
  | .tup _ => False
  | _ => True
section
variable {K : Cfg} {G G' : Hp} {a : Addr}
mutual
theorem Rp.swap (hG : ∀ b, b ≠ a → G' b = G b) (ha : ∀ u, G a = some u → NoSq u) : ∀ (d : D) (v : V), d.noD = true → Rp K G v d → Rp K G' v d
  | .non, _, _, h => by cases h; exact .non
  | .bl b, _, _, h => by cases h; exact .bl b
  | .int i, _, _, h => by cases h; exact .int i
  | .str x, _, _, h => by cases h; exact .str x
  | .lst ds, _, n, h => by
    cases h with
    | @lst b vs _ h1 h2 =>
      have ne : b ≠ a := fun z => by rw [z] at h1; exact ha _ h1
      exact .lst (by rw [hG b ne]; exact h1) (RpA.swap hG ha ds _ (by simpa [D.noD] using n) h2)
  | .tup ds, _, n, h => by
    cases h with
    | @tup b vs _ h1 h2 =>
      have ne : b ≠ a := fun z => by rw [z] at h1; exact ha _ h1
      exact .tup (by rw [hG b ne]; exact h1) (RpA.swap hG ha ds _ (by simpa [D.noD] using n) h2)
  | .dT _ _, _, n, _ => by cases n
  | .dK _ _, _, n, _ => by cases n
  | .ob _, _, n, _ => by cases n
theorem RpA.swap (hG : ∀ b, b ≠ a → G' b = G b) (ha : ∀ u, G a = some u → NoSq u) : ∀ (ds : List D) (vs : List V), D.noDA ds = true → RpA K G vs ds → RpA K G' vs ds
  | [], _, _, h => by cases h; exact .nil
  | d :: ds, _, n, h => by
    have n' : d.noD = true ∧ D.noDA ds = true := by simpa [D.noDA] using n
    cases h with
    | cons h1 h2 => exact .cons (Rp.swap hG ha d _ n'.1 h1) (RpA.swap hG ha ds _ n'.2 h2)
end
end
theorem hid_upd_ne {H : Hp} {M : List Addr} {a : Addr} {o : HO} : ∀ b, b ≠ a → hid (upd H a o) M b = hid H M b := fun b ne => by
  unfold hid
  split
  · rfl
  · exact upd_ne ne
section
variable {K : Cfg} {H : Hp} {M : List Addr} {a : Addr} {o u : HO} {v : V} {d : D}
theorem Rp.swapU (ha : H a = some u) (hu : NoSq u) (n : d.noD = true) (h : Rp K (hid H M) v d) : Rp K (hid (upd H a o) M) v d :=
  Rp.swap hid_upd_ne (fun w hw => by rw [(hid_some hw).2] at ha; cases ha; exact hu) d v n h
theorem RpA.swapU {vs : List V} {ds : List D} (ha : H a = some u) (hu : NoSq u) (n : D.noDA ds = true) (h : RpA K (hid H M) vs ds) : RpA K (hid (upd H a o) M) vs ds :=
  RpA.swap hid_upd_ne (fun w hw => by rw [(hid_some hw).2] at ha; cases ha; exact hu) ds vs n h
/-- a dict, locked or not -/
def fzK (K : Cfg) (ks : List Key) (xs : List D) : D := .ob fun a G => ∃ vs, Rd G a (.dK (ks.zip vs)) ∧ ks.length = vs.length ∧ RpA K G vs xs
theorem rd_kp {G G' : Hp} {a : Addr} {kvs : List (Key × V)} (e : Kp G G') (h : Rd G a (.dK kvs)) : Rd G' a (.dK kvs) := ex_rd e (fun _ z => nomatch z) h
theorem fzK_rp {ks : List Key} {xs : List D} {vs : List V} {G : Hp} (h : Rd G a (.dK (ks.zip vs))) (hl : ks.length = vs.length) (r : RpA K G vs xs) : Rp K G (.ref a) (fzK K ks xs) := .ob fun G' g => ⟨vs, rd_kp g h, hl, r.ex g⟩
theorem rp_fzK {ks : List Key} {xs : List D} {G : Hp} (h : Rp K G v (fzK K ks xs)) : ∃ a vs, v = .ref a ∧ Rd G a (.dK (ks.zip vs)) ∧ ks.length = vs.length ∧ RpA K G vs xs := by
  cases h with
  | ob h =>
    obtain ⟨vs, h1, h2, h3⟩ := h G (Kp.refl G)
    exact ⟨_, vs, rfl, h1, h2, h3⟩
theorem rd_hid {G : Hp} {kvs : List (Key × V)} (h : Rd (hid G M) a (.dK kvs)) : Rd G a (.dK kvs) := h.imp (fun h => (hid_some h).2) fun ⟨o, h⟩ => ⟨o, (hid_some h).2⟩
end
section
variable {K : Cfg} {ρ : Env} {ta tb te : TE} {d : D}
theorem ev_getF {ks : List Key} {xs : List D} {k : Key} (ha : EvD K ta ρ (fzK K ks xs)) (hb : EvV K tb ρ (kV k)) (h : dget ks xs k = some d) : EvD K (tDGet ta tb) ρ d := fun M σ H m e Q q =>
  ha M σ H m e _ fun v H1 e1 r1 => hb M σ H1 (m.ex e1) (e.ex e1) _ fun H2 e2 => by
    obtain ⟨a, vs, rfl, h1, l, r⟩ := rp_fzK (r1.ex (hid_ex e2))
    obtain ⟨z, h2, h3⟩ := valV_zip r h
    exact ⟨a, z, rfl, .inl ⟨_, k, rd_hid h1, rfl, h2.symm⟩, q z H2 (e1.trans e2) h3⟩
/-- which slots stay readable while a dict is walked -/
inductive LkS (K : Cfg) : Sl → Sl → Prop
  | no (s : Sl) : LkS K s .no
  | raw (v : V) : LkS K (.raw v) (.raw v)
  | dat {d : D} : d.noD = true → LkS K (.dat d) (.dat d)
  | dK {ks : List Key} {xs : List D} : D.noDA xs = true → LkS K (.dat (.dK ks xs)) (.dat (fzK K ks xs))
theorem lkS_ok {M : List Addr} {H : Hp} {a : Addr} {o u : HO} {s s' : Sl} {x : Option V} (ha : H a = some u) (hu : NoSq u) (ho : ∀ kvs, u = .dK kvs → ∃ ob, o = .frz ob u) (hk : LkS K s s') (h : SlOk K M H s x) : SlOk K M (upd H a o) s' x := by
  cases hk with
  | no s => trivial
  | raw v => exact h
  | dat n => obtain ⟨v, e, r⟩ := h; exact ⟨v, e, r.swapU ha hu n⟩
  | dK n =>
    obtain ⟨v, e, r⟩ := h
    refine ⟨v, e, ?_⟩
    cases r with
    | @dK b _ vs _ h1 h2 h3 =>
      refine fzK_rp ?_ h2 (h3.swapU ha hu n)
      obtain ⟨m1, h1⟩ := hid_some h1
      by_cases z : b = a
      · subst z
        rw [h1] at ha
        obtain ⟨ob, rfl⟩ := ho _ (Option.some.inj ha).symm
        refine .inr ⟨ob, ?_⟩
        rw [hid_out m1, upd_same, Option.some.inj ha]
      · exact .inl (by rw [hid_out m1, upd_ne z]; exact h1)
/-- [e for k in d], d a dict -/
theorem ev_lcK {i o : Nat} {g : TG} {vs ix : List Nat} {ρ' : Env} {ks : List Key} {xs : List D} {v : Key → D} (h : ρ[i]? = some (.dat (.dK ks xs))) (hl : ks.length ≤ 100000) (hk : Paired (LkS K) ρ ρ') (hix : ∀ i ∈ ix, i ∈ vs)
    (ht : ∀ k ∈ ks, ∃ ρ2, Bnd K g (kD k) (wipeE ρ' vs) ρ2 ix ∧ EvD K te ρ2 (v k)) (hv : ∀ k ∈ ks, (v k).noD = true) : EvD K (tLockE (tLc (iKeys (tVar i)) g tYes te vs)) ρ (.lst (ks.map v)) := fun M σ H m e Q q => by
  obtain ⟨x, e1, u, rfl, r⟩ := e.get h
  cases r with
  | @dK a _ ws _ h1 h2 h3 =>
    obtain ⟨m1, h1⟩ := hid_some h1
    have hzl : (ks.zip ws).length = ks.length := by rw [List.length_zip, ← h2, Nat.min_self]
    refine ⟨a, .dK (ks.zip ws), h1, True.intro, fun od => ⟨.ref a, e1, a, od, rfl, .inl ⟨ks.zip ws, upd_same, ?_⟩⟩⟩
    have ev1 : EOk K M (upd H a (.frz od (.dK (ks.zip ws)))) ρ' σ := by
      have key : ∀ {l l' : Env} {mm : L2.St}, Paired (LkS K) l l' → Paired (SlOk K M H) l mm → Paired (SlOk K M (upd H a (.frz od (.dK (ks.zip ws))))) l' mm := by
        intro l l' mm p
        induction p generalizing mm with
        | nil => intro h; cases h; exact .nil
        | cons r p ih => intro h; cases h with | cons h1' h2' => exact .cons (lkS_ok h1 True.intro (fun _ z => ⟨od, by rw [z]⟩) r h1') (ih h2')
      exact key hk e
    have mo1 : MOk K M (upd H a (.frz od (.dK (ks.zip ws)))) := m.upd h1 True.intro
    have hJ : JOk K (upd H a (.frz od (.dK (ks.zip ws)))) M (Itk a od (ks.zip ws)) (ks.map kD) := ⟨fun N H' kp f mN j d hd => by
      have hf : H' a = some (.frz od (.dK (ks.zip ws))) := kp.frz upd_same
      rw [List.getElem?_map] at hd
      cases hkj : ks[j]? with
      | none => rw [hkj] at hd; cases hd
      | some k =>
        rw [hkj] at hd
        have hd : kD k = d := Option.some.inj hd
        subst hd
        have hj : j < ks.length := (List.getElem?_eq_some_iff.mp hkj).1
        refine ⟨⟨hf, by rw [hzl]; exact hj⟩, fun y H'' hy => ?_⟩
        obtain ⟨rfl, k', w', hz, rfl⟩ := hy
        obtain ⟨z1, _⟩ := List.getElem?_zip_eq_some.mp hz
        rw [hkj] at z1
        cases z1
        exact ⟨Ex.refl, by cases k' <;> constructor⟩,
      fun H' kp => ⟨kp.frz upd_same, by rw [hzl, List.length_map]; exact Nat.le_refl _⟩⟩
    show tLc (fun _ H' R => R (Itk a od (ks.zip ws)) H') g tYes te vs σ (upd H a (.frz od (.dK (ks.zip ws)))) (fun v' H' => H' a = some (.frz od (.dK (ks.zip ws))) ∧ Q v' (upd H' a (.dK (ks.zip ws))))
    refine lc_at (K := K) (L := ks) (enc := kD) (fun _ => true) v hl (fun k hkm => ?_) hix mo1 ev1 (fun v' H2 e2 r2 => ?_) (fun R r => r (Itk a od (ks.zip ws)) _ Ex.refl hJ)
    · obtain ⟨ρ2, hb, hev⟩ := ht k hkm
      exact ⟨ρ2, hb, et_yes, fun _ => hev⟩
    · have hf2 : H2 a = some (.frz od (.dK (ks.zip ws))) := e2.kp.frz upd_same
      refine ⟨hf2, q v' _ ?_ ?_⟩
      · refine ⟨⟨fun b w hb nb => ?_, fun b hb => ?_⟩, fun t => ?_⟩
        · by_cases z : b = a
          · subst z; rw [upd_same, ← hb, h1]
          · rw [upd_ne z]
            exact e2.kp b w (by rw [upd_ne z]; exact hb) nb
        · by_cases z : b = a
          · subst z; rw [upd_same]; simp
          · rw [upd_ne z]
            exact e2.ge.th b (by rw [upd_ne z]; exact hb)
        · have t1 : LamX.Tabs K.T H2 := e2.tb (tabs_mut h1 True.intro t)
          exact fun p hp => by
            obtain ⟨ps, w1, w2, w3⟩ := t1 p hp
            have n1 : p.1 ≠ a := fun z => by rw [z, hf2] at w1; cases w1
            refine ⟨ps, by rw [upd_ne n1]; exact w1, w2, fun pos cv hc => ?_⟩
            obtain ⟨c, y1, y2⟩ := w3 pos cv hc
            have n2 : c ≠ a := fun z => by rw [z, hf2] at y2; cases y2
            exact ⟨c, y1, by rw [upd_ne n2]; exact y2⟩
      · rw [List.filter_eq_self.mpr fun _ _ => rfl] at r2
        refine r2.swapU hf2 True.intro ?_
        simp only [D.noD]
        exact D.noDA_iff.mpr fun z hz => by
          obtain ⟨k, hkm, rfl⟩ := List.mem_map.mp hz
          exact hv k hkm
/-- list(d) -/
theorem ev_listK {ks : List Key} {xs : List D} (h : EvD K ta ρ (.dK ks xs)) : EvD K (tCB rListD (tCons ta tNil)) ρ (.lst (ks.map kD)) := fun M σ H m e Q q =>
  h M σ H m e _ fun v H1 e1 r1 => by
    cases r1 with
    | @dK a _ vs _ h1 h2 h3 =>
      refine ⟨a, _, rfl, .inl (hid_some h1).2, ?_⟩
      have em : (ks.zip vs).map (fun kv : Key × V => kV kv.1) = ks.map kV := by
        have : (fun kv : Key × V => kV kv.1) = kV ∘ Prod.fst := rfl
        rw [this, ← List.map_map, List.map_fst_zip (by omega)]
      rw [em]
      have key : ∀ ks : List Key, RpA K (hid H1 M) (ks.map kV) (ks.map kD) := fun ks => by
        induction ks with
        | nil => exact .nil
        | cons k ks ih => exact .cons (by cases k <;> constructor) ih
      exact new_lst (m.ex e1) e1 (key ks) q
theorem mergeK_nodup : ∀ (kvs acc : List (Key × V)), (acc.map (·.1) ++ kvs.map (·.1)).Nodup → mergeK acc kvs = acc ++ kvs
  | [], acc, _ => by simp [mergeK]
  | (k, v) :: r, acc, h => by
    have hp : putK acc k v = acc ++ [(k, v)] := by
      unfold putK
      rw [if_neg]
      intro z
      obtain ⟨p, hp, e⟩ := List.any_eq_true.mp z
      have e : p.1 = k := of_decide_eq_true e
      exact (List.nodup_append.mp h).2.2 p.1 (List.mem_map.mpr ⟨p, hp, rfl⟩) k (by simp) e
    show mergeK (putK acc k v) r = _
    rw [hp, mergeK_nodup r (acc ++ [(k, v)]) (by simpa [List.append_assoc] using h)]
    simp
/-- dict(pairs) -/
theorem ev_dictP {κ : PySem.W.Frag} {ks : List Key} {xs : List D} (hκ : κ = K.K) (h : EvD K ta ρ (.lst ((ks.zip xs).map fun p => .tup [kD p.1, p.2]))) (hl : ks.length = xs.length) (nd : ks.Nodup) : EvD K (tCB (rDictP κ) (tCons ta tNil)) ρ (.dK ks xs) := fun M σ H m e Q q =>
  h M σ H m e _ fun v H1 e1 r1 => by
    subst hκ
    cases r1 with
    | @lst a vs _ h1 h2 =>
      have key : ∀ (ks : List Key) (xs : List D) (vs : List V), ks.length = xs.length → RpA K (hid H1 M) vs ((ks.zip xs).map fun p => .tup [kD p.1, p.2]) → ∃ (ps : List Addr) (ws : List V), vs = ps.map V.ref ∧ ws.length = ks.length ∧ RpA K (hid H1 M) ws xs ∧ Paired (fun (p : Addr) (kv : Key × V) => SqT K H1 p [kV kv.1, kv.2]) ps (ks.zip ws) := by
        intro ks
        induction ks with
        | nil => intro xs vs hl r; cases xs with | nil => cases r; exact ⟨[], [], rfl, rfl, .nil, .nil⟩ | cons _ _ => cases hl
        | cons k ks ih =>
          intro xs vs hl r
          cases xs with
          | nil => cases hl
          | cons x xs =>
            cases r with
            | cons r0 r =>
              obtain ⟨ps, ws, rfl, hw, rw', hp⟩ := ih xs _ (by simpa using hl) r
              cases r0 with
              | @tup b us _ g1 g2 =>
                cases g2 with
                | cons g2 g3 =>
                  cases g3 with
                  | @cons w0 _ _ _ g3 g4 =>
                    cases g4
                    have ek := keys_rp (k := [k]) (.cons g2 .nil)
                    simp only [List.map_cons, List.map_nil, List.cons.injEq, and_true] at ek
                    subst ek
                    exact ⟨b :: ps, w0 :: ws, rfl, by simp [hw], .cons g3 rw', .cons (st_of (hid_some g1).2) hp⟩
      obtain ⟨ps, ws, rfl, hw, rw', hp⟩ := key ks xs _ hl h2
      refine ⟨a, ps, ks.zip ws, rfl, sq_of (hid_some h1).2, hp, fun p hpn => ?_⟩
      have em : mergeK [] (ks.zip ws) = ks.zip ws := by
        rw [mergeK_nodup _ _ (by rw [List.map_fst_zip (by omega)]; simpa using nd)]
        rfl
      rw [em]
      exact q _ _ (e1.trans (Ex.new hpn)) (.dK (hid_new (m.ex e1) hpn) hw.symm (rw'.ex (hid_kp (Kp.new hpn))))
theorem ev_keyV {i : Nat} {k : Key} (h : ρ[i]? = some (.dat (kD k))) : EvV K (tVar i) ρ (kV k) := fun M σ H m e Q q => by
  obtain ⟨o, e1, v, rfl, r⟩ := e.get h
  refine ⟨v, e1, ?_⟩
  have : v = kV k := by cases k <;> cases r <;> rfl
  rw [this]
  exact q H Ex.refl
end
theorem dget_at : ∀ {ks : List Key} {xs : List D} {k : Key}, ks.length = xs.length → k ∈ ks → ∃ d, dget ks xs k = some d ∧ d ∈ xs
  | [], _, _, _, h => by cases h
  | k' :: ks, [], _, hl, _ => by cases hl
  | k' :: ks, x :: xs, k, hl, h => by
    unfold dget
    rw [List.zip_cons_cons, List.find?_cons]
    by_cases e : k' = k
    · subst e
      simp
    · simp only [e, decide_false]
      rcases List.mem_cons.mp h with z | z
      · exact absurd z.symm e
      · obtain ⟨d, h1, h2⟩ := dget_at (ks := ks) (xs := xs) (by simpa using hl) z
        exact ⟨d, h1, List.mem_cons_of_mem _ h2⟩
theorem map_dget : ∀ {ks : List Key} {xs : List D}, ks.Nodup → ks.length = xs.length → (ks.map fun k => D.tup [kD k, (dget ks xs k).getD .non]) = (ks.zip xs).map fun p => .tup [kD p.1, p.2]
  | [], _, _, _ => rfl
  | k :: ks, [], _, hl => by cases hl
  | k :: ks, x :: xs, nd, hl => by
    obtain ⟨n1, n2⟩ := List.nodup_cons.mp nd
    rw [List.map_cons, List.zip_cons_cons, List.map_cons]
    have e1 : dget (k :: ks) (x :: xs) k = some x := by unfold dget; simp
    rw [e1]
    refine congrArg (fun l => D.tup [kD k, x] :: l) ?_
    rw [← map_dget n2 (by simpa using hl)]
    refine List.map_congr_left fun k' hk' => ?_
    have e2 : dget (k :: ks) (x :: xs) k' = dget ks xs k' := by
      unfold dget
      rw [List.zip_cons_cons, List.find?_cons]
      have ne : k ≠ k' := fun z => n1 (z ▸ hk')
      simp [ne]
    rw [e2]
end Dl
/-! How often in a list; what is caught, as a statement of a def. -/
namespace Dl
open PySem PySem.Spec PyProof.Rows L2 LamX
/-- bs.count(b) -/
def rCntB (K : PySem.W.Frag) : V → List V → Hp → VK → Prop := fun x xs H Q => ∃ (p : Addr) (bs : List Bool) (b : Bool), x = .ref p ∧ xs = [.bl b] ∧ SqL K H p (bs.map V.bl) ∧ Q (.int ((bs.count b : Nat) : Int)) H
theorem bools_of {bs : List Bool} : ∀ {us : List Value}, Vals (bs.map V.bl) us → us = bs.map Value.bool := by
  induction bs with
  | nil => intro us r; cases r; rfl
  | cons b bs ih =>
    intro us r
    cases r with
    | cons h t =>
      have e : _ = Value.bool b := h
      rw [e, ih t]
      rfl
theorem reads_bls {h : Heap} : ∀ bs : List Bool, ReadsAll h (bs.map Value.bool) (bs.map PyData.bool) (bs.map fun _ => ([] : List Addr)).flatten
  | [] => .nil
  | b :: bs => .cons (.bool b) (reads_bls bs)
theorem plain_bls : ∀ bs : List Bool, PyData.plainAll (bs.map PyData.bool) = true
  | [] => rfl
  | b :: bs => by simp [PyData.plainAll, PyData.plain, plain_bls bs]
theorem count_bls {b : Bool} : ∀ bs : List Bool, ((bs.map PyData.bool).countP fun y => PyData.eqv y (.bool b)) = bs.count b
  | [] => rfl
  | c :: bs => by
    rw [List.map_cons, List.countP_cons, count_bls bs, List.count_cons]
    cases b <;> cases c <;> rfl
theorem mt_cntB {X : Cx} (hu : X.A.units + 65 < cLine) : MtR X "list.count" (rCntB X.K) := by
  intro pins s σ H x xs v us Q I rx rxs h
  obtain ⟨p, bs, b, rfl, rfl, hs, q⟩ := h
  cases rx
  obtain ⟨u, rfl, ru⟩ := rxs.one
  have eu : u = Value.bool b := ru
  subst eu
  obtain ⟨its, rv, hpl, hlen⟩ := I.list hs
  have ei := bools_of rv
  subst ei
  have hl : s.heap.IsList p (bs.map Value.bool).toArray := by
    obtain ⟨o, n, ho, hc, hdn, hdt⟩ := hpl
    exact ⟨o, ho, hc, n, hdt⟩
  refine PySem.SeqAt.count_list_data hl (by simpa using reads_bls bs) (.bool b) (plain_bls bs) rfl (by simp [PyData.depth]; omega) ?_
  rw [count_bls]
  exact ⟨.int (bs.count b : Nat), H, I.tok _, ⟨_, rfl⟩, q⟩
theorem k_cntB {X : Cx} (κ : PySem.W.Frag) (h : X.K = κ) (hu : X.A.units + 65 < cLine) : MtR X "list.count" (rCntB κ) := h ▸ mt_cntB hu
section
variable {K : Cfg} {ρ : Env} {ta tb te : TE} {d : D} {v : V} {B : Hp} {M : List Addr}
theorem ev_cntB {bs : List Bool} {b : Bool} (ha : EvL K ta ρ (bs.map D.bl)) (hb : EvD K tb ρ (.bl b)) : EvD K (tBM K "list" (rCntB K) ta (tCons tb tNil)) ρ (.int ((bs.count b : Nat) : Int)) := fun M σ H m e Q q =>
  ha M σ H m e _ fun v H1 e1 r1 => by
    obtain ⟨a, vs, rfl, hq, r1⟩ := r1
    have ev := RpA.bls r1
    subst ev
    refine ⟨.inl ⟨rfl, _, sq_of hq⟩, hb M σ H1 (m.ex e1) (e.ex e1) _ fun w H2 e2 r2 => ?_⟩
    cases r2
    exact ⟨a, bs, b, rfl, rfl, sq_of (e2.kp.lst hq), q _ H2 (e1.trans e2) (.int _)⟩
end
/-! ### what is caught -/
theorem pe_fS {X : Cx} {k j : Nat} {x : Str} {f : Addr} {sp : Sp} {W : WX} {p pos : Pos} {e : Expr} {es : List Expr} {t : TA} (c : FdX X.prog X.w X.K X.mg X.base (L2.CX X.prog X.w) k x f sp []) (hr : Room j X.A) (hk : k ≤ j) (hg : Gl X x) (tk : Takes X W) (ha : PA X (e :: es) t)
    (hdb : (x == ("__debug__" : Str)) = false := by decide) (he : starEach (e :: es) X.env = (false, eval e X.env) :: starEach es X.env := by rfl) (hpl : (backTo pos (starEach es X.env)).any (·.1) = false := by rfl) :
    PE X (.Call (.Name x p) (e :: es) [] pos) (tCallS sp (WE W) t) := by
  obtain ⟨fd, ps, ds, F, hm, kp, b, d⟩ := c.ex
  cases d
  exact pe_callS F (hr.mono hk) hg hm kp b (fun σ => passAt tk σ) ha hdb he hpl
theorem takes_no {X : Cx} : Takes X (fun _ _ _ _ => False) := fun _ _ h => by
  obtain ⟨_, _, _, _, _, _, _, _, _, _, _, _, _, _, _, _, w⟩ := h
  exact w.elim
/-- try: f(..) except X as n: x = n; f raises -/
theorem h_caught {K : Cfg} {ρ : Env} {B : Hp} {M : List Addr} {De : Ends} {t : TA} {n i j : Nat} {G : List D → Addr → V → Prop} {ds : List D} {C : Addr} {v : V} {c : Value} {Wout : WX} (h : EvA K t ρ ds) (hn : ds.length = n) (hG : G ds C v) (hc : PySem.W.exmOne K.K (.ref C) c = some true)
    (hi : ∀ s, ρ[i]? = some s → s = .no) (hil : i < ρ.length) (hij : i ≠ j) (k : Hold K B M (ρ.set j (.dat (.ob (exR C v)))) De.nx) :
    Hold K B M ρ (tDrop (tCallS (spX K n G) (WE (wKp K.K c i (fun _ _ _ => tAsg (tVar i) (gName j)) Wout De)) t) De) := fun B' b σ H st =>
  h _ σ H st.mok st.ev _ fun vs H1 e1 r => ⟨_, ds, C, v, by rw [r.len]; exact hn, (st.grow e1).mok, r, hG, fun dd H2 g tb hdd he => ⟨true, hc, fun _ a ha => by
    have st1 := (st.grow e1).grow (H2 := H2) ⟨g, fun _ => tb⟩
    have st2 : StOk K B' M ρ σ (upd H2 a (exq a (.ref C) (some dd))) := st1.grow (Ex.new ha)
    have nad : a ≠ dd := fun z => by rw [z, he] at ha; cases ha
    have dm : dd ∉ owns ρ ++ M := (st.grow e1).mok.new hdd
    have am : a ∉ owns ρ ++ M := st1.mok.new ha
    have hex : exR C v a (hid (upd H2 a (exq a (.ref C) (some dd))) (owns ρ ++ M)) := ⟨dd, by rw [hid_out am, upd_same], by rw [hid_out dm, upd_ne (Ne.symm nad)]; exact he⟩
    have hlen : i < σ.length := by
      obtain ⟨o, e, _⟩ := st.ev.get (List.getElem?_eq_getElem hil)
      exact (List.getElem?_eq_some_iff.mp e).1
    refine ⟨.ref a, by rw [List.getElem?_set_self hlen], ?_⟩
    have st3 : StOk K B' M (ρ.set j (.dat (.ob (exR C v)))) (σ.set j (some (.ref a))) _ := st2.set (i := j) rfl ⟨_, rfl, exR_rp hex⟩
    have es : ((σ.set i (some (.ref a))).set j (some (.ref a))).set i none = (σ.set j (some (.ref a))).set i none := by
      rw [List.set_comm _ _ hij, List.set_set]
    show De.nx (((σ.set i (some (.ref a))).set j (some (.ref a))).set i none) _
    rw [es]
    have st4 : StOk K B' M ((ρ.set j (.dat (.ob (exR C v)))).set i .no) ((σ.set j (some (.ref a))).set i none) _ := st3.set (i := i) rfl True.intro
    have er : (ρ.set j (.dat (.ob (exR C v)))).set i .no = ρ.set j (.dat (.ob (exR C v))) := by
      apply List.ext_getElem? 
      intro m
      by_cases z : m = i
      · subst z
        rw [List.getElem?_set_self (by rw [List.length_set]; exact hil), List.getElem?_set_ne (Ne.symm hij), List.getElem?_eq_getElem hil, hi _ (List.getElem?_eq_getElem hil)]
      · rw [List.getElem?_set_ne (Ne.symm z)]
    rw [er] at st4
    exact k B' b _ _ st4, fun z => by cases z⟩⟩
theorem q_caught {K : Cfg} {ρ : Env} {B : Hp} {M : List Addr} {De : Ends} {t : TA} {n i j : Nat} {G : List D → Addr → V → Prop} {ds : List D} {C : Addr} {v : V} {c : Value} {Wout : WX} {w : TS} (h : EvA K t ρ ds) (hn : ds.length = n) (hG : G ds C v) (hc : PySem.W.exmOne K.K (.ref C) c = some true)
    (hi : ∀ s, ρ[i]? = some s → s = .no) (hil : i < ρ.length) (hij : i ≠ j) (k : Hold K B M (ρ.set j (.dat (.ob (exR C v)))) (w De)) :
    Hold K B M ρ (tSeq (fun D σ H => tDrop (tCallS (spX K n G) (WE (wKp K.K c i (fun _ _ _ => tAsg (tVar i) (gName j)) Wout D)) t) D σ H) w De) := h_caught (De := { De with nx := w De }) h hn hG hc hi hil hij k
theorem ev_isNn {K : Cfg} {ρ : Env} {ta tb : TE} (ha : EvD K ta ρ .non) (hb : EvD K tb ρ .non) : EvD K (tOp rIsN ta tb) ρ (.bl true) := fun M σ H m e Q q =>
  ha M σ H m e _ fun v H1 e1 r1 => hb M σ H1 (m.ex e1) (e.ex e1) _ fun w H2 e2 r2 => by
    cases r2
    cases r1
    exact ⟨rfl, q _ H2 (e1.trans e2) (.bl _)⟩
theorem ev_isNob {K : Cfg} {ρ : Env} {ta tb : TE} {R : Addr → Hp → Prop} (ha : EvD K ta ρ (.ob R)) (hb : EvD K tb ρ .non) : EvD K (tOp rIsN ta tb) ρ (.bl false) := fun M σ H m e Q q =>
  ha M σ H m e _ fun v H1 e1 r1 => hb M σ H1 (m.ex e1) (e.ex e1) _ fun w H2 e2 r2 => by
    cases r2
    cases r1
    first
      | exact ⟨rfl, q _ H2 (e1.trans e2) (.bl _)⟩
      | exact q _ H2 (e1.trans e2) (.bl _)
end Dl
/-! int(b), {1: 1}, what holds at this moment. -/
namespace Dl
open PySem PySem.Spec PyProof.Rows L2 LamX
section
variable {K : Cfg} {ρ : Env} {ta tb te : TE} {d : D} {v : V} {B : Hp} {M : List Addr}
theorem ev_intB {r : List V → Hp → VK → Prop} {b : Bool} (hr : r = fun xs H Q => (∃ i, xs = [.int i] ∧ Q (.int i) H) ∨ ∃ k, xs = [.bl k] ∧ Q (.int (if k then 1 else 0)) H) (h : EvD K te ρ (.bl b)) : EvD K (tCB r (tCons te tNil)) ρ (.int (if b then 1 else 0)) := fun M σ H m e Q q =>
  h M σ H m e _ fun v H1 e1 r1 => by
    cases r1
    rw [hr]
    exact .inr ⟨b, rfl, q _ H1 e1 (.int _)⟩
theorem ev_disp1 {k : Key} {x : V} {d : D} (hx : ∀ H, Rp K H x d) : EvD K (tDisp [(tC (kV k), tC x)]) ρ (.dK [k] [d]) := fun M σ H m e Q q => fun p hp =>
  ⟨upd_same, [(k, x)], rfl, (by simp), q _ _ (by
    have h := (Ex.new (K := K) (o := HO.dK []) hp).mut (u := .dK (mergeK [] [(k, x)])) hp upd_same True.intro
    exact h) (.dK (vs := [x]) (by rw [hid_out (m.new hp), upd_same]; rfl) rfl (.cons (hx _) .nil))⟩
theorem k_catT {X : Cx} (κ : PySem.W.Frag) (h : X.K = κ) : OpR X (binaryOp .Add) (rCatT κ) := h ▸ op_catT
/-- what holds at this moment -/
theorem h_now {P : L2.St → Hp → Prop} (R : Hp → Prop) (hR : ∀ (M : List Addr) (σ : L2.St) (H : Hp), MOk K M H → EOk K M H ρ σ → R (hid H M)) (k : ∀ H0, R H0 → Hold K B M ρ P) : Hold K B M ρ P := fun B' b σ H st => k _ (hR _ σ H st.mok st.ev) B' b σ H st
theorem aD_inA {H : Hp} : ∀ {vs : List V} {ds : List D}, RpA K H vs ds → ∃ ps : List (V × D), ps.map (·.2) = ds ∧ ps.map (·.1) = vs ∧ (∀ p ∈ ps, Rp K H p.1 p.2) ∧ RpA K H vs (ps.map fun p => isD K p.1 p.2)
  | _, _, .nil => ⟨[], rfl, rfl, (fun _ h => nomatch h), .nil⟩
  | _, _, .cons (v := v) (d := d) r t => by
    obtain ⟨ps, h1, h2, h3, h4⟩ := aD_inA t
    refine ⟨(v, d) :: ps, by rw [List.map_cons, h1], by rw [List.map_cons, h2], fun p hp => ?_, .cons (isD_rp r) h4⟩
    rcases List.mem_cons.mp hp with rfl | hp
    · exact r
    · exact h3 p hp
/-- the items of slot i's list are these very objects from here on -/
theorem h_fixA (i : Nat) {ds : List D} {P : L2.St → Hp → Prop} (h : ρ[i]? = some (.dat (.lst ds))) (R : Hp → Prop) (hR : ∀ (M : List Addr) (σ : L2.St) (H : Hp), MOk K M H → EOk K M H ρ σ → R (hid H M))
    (k : ∀ (ps : List (V × D)) (H0 : Hp), ps.map (·.2) = ds → (∀ p ∈ ps, Rp K H0 p.1 p.2) → R H0 → Hold K B M (ρ.set i (.dat (.lst (ps.map fun p => isD K p.1 p.2)))) P) : Hold K B M ρ P := fun B' b σ H st => by
  obtain ⟨o, e1, v, rfl, r⟩ := st.ev.get h
  cases r with
  | @lst a vs _ h1 h2 =>
    obtain ⟨ps, p1, p2, p3, p4⟩ := aD_inA h2
    have st2 := st.set (i := i) (s := .dat (.lst (ps.map fun p => isD K p.1 p.2))) (o := some (.ref a)) rfl ⟨_, rfl, .lst h1 p4⟩
    rw [set_self e1] at st2
    exact k ps _ p1 p3 (hR _ σ H st.mok st.ev) B' b σ H st2
theorem ev_catT {xs ys : List D} (ha : EvD K ta ρ (.tup xs)) (hb : EvD K tb ρ (.tup ys)) (hx : xs ≠ []) (hy : ys ≠ []) (hl : xs.length + ys.length ≤ 100000) : EvD K (tOp (rCatT K) ta tb) ρ (.tup (xs ++ ys)) := fun M σ H m e Q q =>
  ha M σ H m e _ fun v H1 e1 r1 => hb M σ H1 (m.ex e1) (e.ex e1) _ fun w H2 e2 r2 => by
    have r1' := r1.ex (hid_ex e2)
    cases r1' with
    | @tup a vs _ h1 h2 =>
      cases r2 with
      | @tup b ws _ h3 h4 =>
        refine ⟨a, b, vs, ws, rfl, rfl, st_of (hid_some h1).2, st_of (hid_some h3).2, fun z => ?_, by rw [h2.len, h4.len]; exact sz_of hl, fun z => ?_, fun _ p hp => ?_⟩
        · subst z; cases h2; exact hx rfl
        · subst z; cases h4; exact absurd rfl hy
        · exact q _ _ ((e1.trans e2).trans (Ex.new hp)) (.tup (hid_new ((m.ex e1).ex e2) hp) ((h2.app h4).ex (hid_kp (Kp.new hp))))
theorem env_self {s : Sl} {i : Nat} (h : ρ[i]? = some s) : ρ.set i s = ρ := by
  obtain ⟨h1, h2⟩ := List.getElem?_eq_some_iff.mp h
  rw [← h2]
  exact List.set_getElem_self h1
/-- if t: x = e, x held before -/
theorem q_ifset {t : TT} {b : Bool} {De : Ends} {w : TS} {i : Nat} {d0 d1 : D} (h : EvT K t ρ b) (h0 : ρ[i]? = some (.dat d0)) (h1 : b = true → EvD K te ρ d1) (k : ∀ d, d = d0 ∨ (b = true ∧ d = d1) → Hold K B M (ρ.set i (.dat d)) (w De)) : Hold K B M ρ (tSeq (tIfS t (tAsg te (gName i)) tNext) w De) :=
  q_if h (fun hb => h_set (h1 hb) (k _ (.inr ⟨hb, rfl⟩))) fun _ => by
    have := k d0 (.inl rfl)
    rw [env_self h0] at this
    exact this
end
end Dl
/-! Exceptions made and kept as values. -/
namespace Dl
open PySem PySem.Spec PyProof.Rows L2 LamX
/-- an exception is made; it is a value of ours -/
def tMade (t : L2.St → Hp → XK → Prop) : TE := fun σ H Q => t σ H fun cls d H' => ∀ a, H' a = none → Q (.ref a) (upd H' a (exq a cls d))
theorem pe_made {X : Cx} {e : Expr} {t : L2.St → Hp → XK → Prop} (he : PMk X e t) (hex : X.ex = []) : PE X e (tMade t) := by
  refine ⟨fun pins s σ H Q I h => thn (he pins s σ H _ I h) fun u s1 hu => ?_⟩
  obtain ⟨a, oe, vs, sI, H', cls, d, rfl, J, k, hne, ha, hz, hd, h1, na, os, ag, r, q⟩ := hu
  have J1 := J.kept (t' := s1.toks) k
  have J2 : Inv X pins σ H' s1 := ⟨J1.ok, os.trans J.os, ag, J1.base, J1.loc, J1.cell, J1.free, J1.freeC, J1.pin, J1.hok, J1.len⟩
  have n0 : X.s_0.heap.get? a = none := by
    cases z : X.s_0.heap.get? a with
    | none => rfl
    | some o =>
      obtain ⟨o', z'⟩ := J.base.there a o z (by rw [hex]; exact List.not_mem_nil)
      rw [hne] at z'
      cases z'
  have nL : a ≠ X.env.locals := fun z => by
    obtain ⟨_, ⟨_, _, _, e, _⟩, _⟩ := J.loc
    rw [← z, hne] at e
    cases e
  have nc : ∀ y c, X.env.cells.lookup y = some c → c ≠ a := fun y c e z => by
    obtain ⟨v, o, q, _⟩ := J.cell y c e
    rw [z, hne] at q
    cases q
  have np : ∀ p ∈ X.pn ++ pins, p.1 ≠ a := fun p hp z => by
    have q := (J.pin p hp).1
    rw [z, hne] at q
    cases q
  exact ⟨.ref a, _, inv_track J2 n0 na nL nc np (exq_ok ha hz ⟨_, hd⟩), rfl, q a na⟩
section
variable {K : Cfg} {ρ : Env} {te : TE} {v : V} {d : D}
/-- C(e), e this very object -/
theorem ev_made {C : Addr} (h : EvD K te ρ (isD K v d)) (k : Knows K ρ v d) : EvD K (tMade fun σ H => tMkO C (spIni C) [] (tCons te tNil) σ H) ρ (.ob (exR C v)) := fun M σ H m eo Q q =>
  h M σ H m eo _ fun u H1 e1 r => by
    have eu := isD_val (k M σ H m eo) r
    subst eu
    refine ⟨by show 1 ≤ 1000; decide, fun a ha => ⟨a, u, rfl, upd_same, fun dx hdx hne => ⟨rfl, dx, [("value", u)], ?_, ?_, ?_, fun b hb => ?_⟩⟩⟩
    · exact upd_same
    · rw [upd_ne hne, upd_same]
    · rw [upd_ne hne] at hdx; exact hdx
    · have hdx1 : H1 dx = none := by rw [upd_ne hne] at hdx; exact hdx
      have all0 : ∀ c o, H1 c = some o → upd (L2.del (upd (upd (upd H1 a (exo a C none)) dx (exd dx [("value", u)])) a (exo a C (some dx))) a) dx (.xd [("value", u)]) c = some o := fun c o hc => by
        have n1 : c ≠ dx := fun z => by rw [z, hdx1] at hc; cases hc
        have n2 : c ≠ a := fun z => by rw [z, ha] at hc; cases hc
        rw [upd_ne n1, L2.del_ne n2, upd_ne n2, upd_ne n1, upd_ne n2]
        exact hc
      have ebd : b ≠ dx := fun z => by rw [z, upd_same] at hb; cases hb
      have x2 : Ex K H1 (upd (L2.del (upd (upd (upd H1 a (exo a C none)) dx (exd dx [("value", u)])) a (exo a C (some dx))) a) dx (.xd [("value", u)])) := Ex.all all0
      have x3 := x2.trans (Ex.new (o := exq b (.ref C) (some dx)) hb)
      have m1 := m.ex e1
      have bm : b ∉ M := (m1.ex x2).new hb
      have dm : dx ∉ M := m1.new hdx1
      refine q _ _ (e1.trans x3) (exR_rp ⟨dx, ?_, ?_⟩)
      · rw [hid_out bm, upd_same]
      · rw [hid_out dm, upd_ne (Ne.symm ebd), upd_same]
end
end Dl
/-! repr of data, dicts among it. -/
namespace Dl
open PySem PySem.Spec PyProof.Rows L2 LamX
def kP : Key → PyData
  | .inl i => .int i
  | .inr x => .str x
mutual
/-- the data as they are read -/
def D.rd : D → PyData
  | .non => .none
  | .bl b => .bool b
  | .int i => .int i
  | .str x => .str x
  | .lst xs => .list (D.rdA xs)
  | .tup xs => .tuple (D.rdA xs)
  | .dK ks xs => .dict ((ks.map kP).zip (D.rdA xs))
  | .dT _ _ => .none
  | .ob _ => .none
def D.rdA : List D → List PyData
  | [] => []
  | x :: xs => D.rd x :: D.rdA xs
end
mutual
/-- no object, no dict with tuples as keys -/
def D.rdOk : D → Bool
  | .lst xs => D.rdOkA xs
  | .tup xs => D.rdOkA xs
  | .dK _ xs => D.rdOkA xs
  | .dT _ _ => false
  | .ob _ => false
  | _ => true
def D.rdOkA : List D → Bool
  | [] => true
  | x :: xs => D.rdOk x && D.rdOkA xs
end
theorem D.rdA_len : ∀ xs : List D, (D.rdA xs).length = xs.length
  | [] => rfl
  | x :: xs => congrArg (· + 1) (D.rdA_len xs)
/-- what a dict's entries hold -/
theorem entries_rd {P : Program} {w : World} : ∀ {es : List DictEntry} {kvs : List (Key × Value)} {kv : List (Key × V)}, Pairs (mixKind P w) es kvs → KV kv kvs → ∀ h : Heap, (∃ as, ReadsAll h (es.map (·.key)) ((kv.map (·.1)).map kP) as ∧ as = []) ∧ Vals (kv.map (·.2)) (es.map (·.val))
  | _, _, _, .nil, r, h => by
    cases r
    exact ⟨⟨[], .nil, rfl⟩, .nil⟩
  | _, _, _, .cons (e := e) h1 h2 t, r, h => by
    cases r with
    | @cons p q ps qs hq tq =>
      obtain ⟨⟨as, r1, r2⟩, r3⟩ := entries_rd t tq h
      refine ⟨⟨[] ++ as, .cons ?_ r1, by rw [r2]; rfl⟩, .cons ?_ r3⟩
      · have hk : keyIs p.1 e.key = true := by rw [hq.1]; exact h1
        rcases keyIs_shape hk with ⟨i, t, e1, e2⟩ | ⟨x, t, e1, e2⟩
        · show Reads h e.key (kP p.1) []
          rw [e1, e2]; exact .int i t
        · show Reads h e.key (kP p.1) []
          rw [e1, e2]; exact .str x t
      · show L2.RelV p.2 e.val
        rw [h2]; exact hq.2
section
variable {X : Cx} {pins : List (Addr × Obj)} {σ : L2.St} {H : Hp} {s : Shared} {K : Cfg}
mutual
theorem Rp.reads (I : Inv X pins σ H s) (h1 : H sysModules = none) : ∀ (d : D) (v : V) (u : Value), d.rdOk = true → Rp K H v d → L2.RelV v u → ∃ bs, Reads s.heap u d.rd bs ∧ sysModules ∉ bs
  | .non, v, u, _, r, e => by
    cases r
    have e : u = Value.none := e
    subst e
    exact ⟨_, .none, List.not_mem_nil⟩
  | .bl b, v, u, _, r, e => by
    cases r
    have e : u = Value.bool b := e
    subst e
    exact ⟨_, .bool b, List.not_mem_nil⟩
  | .int i, v, u, _, r, e => by
    cases r
    obtain ⟨t, e⟩ : ∃ t, u = Value.int i t := e
    subst e
    exact ⟨_, .int i t, List.not_mem_nil⟩
  | .str x, v, u, _, r, e => by
    cases r
    obtain ⟨t, e⟩ : ∃ t, u = Value.str x t := e
    subst e
    exact ⟨_, .str x t, List.not_mem_nil⟩
  | .dT _ _, v, u, n, _, _ => by cases n
  | .ob _, v, u, n, _, _ => by cases n
  | .lst ds, v, u, n, r, e => by
    cases r with
    | @lst a vs _ hq ha =>
      have e : u = Value.ref a := e
      subst e
      obtain ⟨its, rv, ⟨o, m, ho, hc, hdn, hd⟩, hlen⟩ := I.list (a := a) (sq_of (K := ⟨X.K, []⟩) hq)
      obtain ⟨bs, r1, r2⟩ := RpA.reads I h1 ds vs its (by simpa [D.rdOk] using n) ha rv
      refine ⟨a :: bs, .list ho hc hd r1, fun z => ?_⟩
      rcases List.mem_cons.mp z with z | z
      · rw [← z, h1] at hq; cases hq
      · exact r2 z
  | .tup ds, v, u, n, r, e => by
    cases r with
    | @tup a vs _ hq ha =>
      have e : u = Value.ref a := e
      subst e
      obtain ⟨its, rv, ⟨o, ho, hc, m, hd⟩, hlen⟩ := I.tuple (a := a) (st_of (K := ⟨X.K, []⟩) hq)
      obtain ⟨bs, r1, r2⟩ := RpA.reads I h1 ds vs its (by simpa [D.rdOk] using n) ha rv
      exact ⟨bs, .tuple ho hc hd r1, r2⟩
  | .dK ks ds, v, u, n, r, e => by
    cases r with
    | @dK a _ vs _ hq hl ha =>
      have e : u = Value.ref a := e
      subst e
      obtain ⟨hz, hs, kvs, hkv, o, es, ep, ho, hx, hd, hks, hp, hnd⟩ := dk_of I.hok hq
      obtain ⟨⟨as, r1, ra⟩, r2⟩ := entries_rd hp hkv s.heap
      rw [List.map_fst_zip (by omega)] at r1
      rw [List.map_snd_zip (by omega)] at r2
      obtain ⟨bs, r3, r4⟩ := RpA.reads I h1 ds vs _ (by simpa [D.rdOk] using n) ha r2
      have hl2 : ks.length = (D.rdA ds).length := by rw [D.rdA_len, hl, ha.len]
      refine ⟨a :: as ++ bs, .dict ho hx.1 hd ?_ ?_, fun z => ?_⟩
      · rw [List.map_fst_zip (by rw [List.length_map]; omega)]; exact r1
      · rw [List.map_snd_zip (by rw [List.length_map]; omega)]; exact r3
      · rw [ra] at z
        rcases List.mem_append.mp z with z | z
        · rw [← List.mem_singleton.mp z, h1] at hq; cases hq
        · exact r4 z
theorem RpA.reads (I : Inv X pins σ H s) (h1 : H sysModules = none) : ∀ (ds : List D) (vs : List V) (us : List Value), D.rdOkA ds = true → RpA K H vs ds → Vals vs us → ∃ bs, ReadsAll s.heap us (D.rdA ds) bs ∧ sysModules ∉ bs
  | [], vs, us, _, r, e => by
    cases r
    cases e
    exact ⟨_, .nil, List.not_mem_nil⟩
  | d :: ds, vs, us, n, r, e => by
    simp only [D.rdOkA, Bool.and_eq_true] at n
    cases r with
    | cons r1 r2 =>
      cases e with
      | cons e1 e2 =>
        obtain ⟨b1, q1, z1⟩ := Rp.reads I h1 d _ _ n.1 r1 e1
        obtain ⟨b2, q2, z2⟩ := RpA.reads I h1 ds _ _ n.2 r2 e2
        exact ⟨b1 ++ b2, .cons q1 q2, fun z => (List.mem_append.mp z).elim z1 z2⟩
end
end
/-- repr(x): no list is being told just now -/
def rRepr (K : Cfg) : List V → Hp → VK → Prop := fun xs H Q => ∃ (v : V) (d : D), xs = [v] ∧ Rp K H v d ∧ d.rdOk = true ∧ d.rd.showable = true ∧ d.rd.depth ≤ 60 ∧ d.rd.shown.length ≤ sizeLine ∧ Q (.str d.rd.shown) H
theorem call_reprD {X : Cx} (K : Cfg) (hg : X.A.guards = some []) (hu : X.A.units + 200 < cLine) (hs : (X.K.lookup sysModules).isSome = true) : CallR X (.builtin "repr") (rRepr K) := by
  intro pins s σ H xs us Q I r h
  obtain ⟨v, d, rfl, rp, ok, sh, dp, sz, q⟩ := h
  obtain ⟨u, rfl, ru⟩ := vals1 r
  have hn : H sysModules = none := by
    cases z : X.K.lookup sysModules with
    | none => rw [z] at hs; cases hs
    | some o => exact (I.bs _ _ (I.ok.mod.kin _ _ z)).2
  obtain ⟨bs, rd, nb⟩ := Rp.reads I hn d v u ok rp ru
  cases rp with
  | non =>
    have e : u = Value.none := ru
    subst e
    exact P.repr_of_none ⟨.str "None", H, I.tok _, ⟨_, rfl⟩, q⟩
  | bl b =>
    have e : u = Value.bool b := ru
    subst e
    refine P.repr_of_bool ⟨.str _, H, I.tok _, ⟨_, rfl⟩, ?_⟩
    cases b <;> exact q
  | int i =>
    obtain ⟨t, e⟩ : ∃ t, u = Value.int i t := ru
    subst e
    exact P.repr_of_int (of_decide_eq_true sh) ⟨.str _, H, I.tok _, ⟨_, rfl⟩, q⟩
  | str x =>
    obtain ⟨t, e⟩ : ∃ t, u = Value.str x t := ru
    subst e
    exact P.repr_of_str ⟨.str _, H, I.tok _, ⟨_, rfl⟩, q⟩ sz
  | ob _ => cases ok
  | dT _ _ _ => cases ok
  | _ =>
    have e : u = Value.ref _ := ru
    subst e
    exact repr_of_reads' rd sh (fun _ => nb) hg (by omega) (fun _ _ e => e) (fun h' u tk k => ⟨.str _, H, I.kept (t' := tk) k, ⟨_, rfl⟩, q⟩) sz
section
variable {K : Cfg} {ρ : Env} {te : TE} {d : D}
theorem ev_repr (h : EvD K te ρ d) (ok : d.rdOk = true) (sh : d.rd.showable = true) (dp : d.rd.depth ≤ 60) (sz : d.rd.shown.length ≤ sizeLine) : EvD K (tCB (rRepr K) (tCons te tNil)) ρ (.str d.rd.shown) := fun M σ H m e Q q =>
  h M σ H m e _ fun v H1 e1 r => ⟨v, d, rfl, r.ex hid_sub, ok, sh, dp, sz, q _ H1 e1 (.str _)⟩
end
end Dl
/-! Defs that run while no list is being told (repr); the end for a law that is such a def. -/
namespace Dl
open PySem PySem.Spec PyProof.Rows L2 LamX
structure FnOkG (P : Program) (w : World) (K : PySem.W.Frag) (mg : Str → Option Value) (base : Heap) (k : Nat) (f : Addr) (fd : FuncData) (ps : List Str) (sp : Sp) : Prop where
  len : ∀ vs H Q E, sp vs H Q E → vs.length = ps.length
  run : ∀ (A : Around) (outer : List PySem.Env) (s : Shared) (H : Hp) (args : Args) (us : List Value) (vs : List V) (Q : VK) (E : XK), A.guards = some [] → Room k A → Env0 P w K mg base A outer s H → BindsTo s fd args (ps.zip us) → Vals vs us → sp vs H Q E →
    codeAny (model P w) A (.call (.ref f) args) (CR CX0 outer P w H s Q E) s
section
variable {P : Program} {w : World} {mg : Str → Option Value} {base : Heap} {x : Str} {st : Stmt} {dvs : List V} {cdv : Value} {f : Addr} {fd : FuncData} {N ps : List Str} {k : Nat}
theorem fn_anyG {sp : Sp} {κ : PySem.W.Frag} (d : Df κ mg x st dvs cdv f fd) (S : FnScope N ps (defScope st)) (len : ∀ vs H Q E, sp vs H Q E → vs.length = ps.length)
    (hbody : ∀ (A : Around) (outer : List PySem.Env) (s : Shared) (H : Hp) (vs : List V) (Q : VK) (E : XK), A.guards = some [] → Room k (A.deeper (envOfC x (defScope st) s.heap.objs.size f cdv)) → sp vs H Q E →
      ∃ t, PSs (cxOf CX0 P w κ mg base N x (defScope st) f cdv A outer s H E).nox (defBody st) t ∧ t { nx := fun _ H' => Q .non H', rt := Q } (start N vs) H) : FnOkG P w κ mg base (k + 1) f fd ps sp := by
  obtain ⟨oc, od, dV, kV, doc, pm, an, ct, osl, rfl, lk, hcd, hD⟩ := d.fn
  refine ⟨len, fun A outer s H args us vs Q E hgd hr e0 hb r hsp => ?_⟩
  have h1 : κ.In s.heap := e0.mod.kin.keeps fun b o e => (e0.bs b o e).1
  have h2 : s.heap.NoLimit := e0.mod.nolimit.keeps fun b o e => (e0.bs b o e).1
  have h3 := len _ _ _ _ hsp
  have h4 : ∀ y ∈ ps.zip us, (defScope st).names.lookup y.1 = some .local ∨ ((defScope st).names.lookup y.1 = some .cell ∧ ((cellsFrom (s.heap.objs.size + 1) (defScope st).names []).lookup y.1).isSome = true) := fun y hy =>
    (S.par y.1 (List.of_mem_zip (show (y.1, y.2) ∈ ps.zip us from hy)).1).imp id fun q => ⟨q, PySem.W.cellsFrom_some _ _ _ (.inl q)⟩
  refine codeAny_call_function hr.depth (h1 _ _ lk) rfl S.co S.gen rfl (PySem.W.codeRec_of h1 hcd) (hb _ _ _ _ (wpAny_newFunctionEnv_cells S.kind h4 fun env he s1 x1 => ?_))
  subst he
  refine ⟨h2.keeps x1.toInCall.keep, codeAny_func ?_⟩
  obtain ⟨t, ht, hq⟩ := hbody A outer s H vs Q E hgd (hr.deeper _) hsp
  refine wpAny_mono (ht.nox.run [] s1 (start N vs) H _ (inv_start S hr.hd e0 h3 r x1) hq) (fun fl s' hs => ?_) fun e s' hs => hs
  cases fl with
  | ret u =>
    obtain ⟨v, σ', H', J, rv, q⟩ := hs
    exact ⟨v, H', J.os, J.bare, J.base, J.hok, rv, q⟩
  | next =>
    obtain ⟨σ', H', J, q⟩ := hs
    exact ⟨.non, H', J.os, J.bare, J.base, J.hok, rfl, q⟩
  | brk => exact (show False from by obtain ⟨_, _, _, q⟩ := hs; exact q).elim
  | cont => exact (show False from by obtain ⟨_, _, _, q⟩ := hs; exact q).elim
structure FdG (P : Program) (w : World) (K : PySem.W.Frag) (mg : Str → Option Value) (base : Heap) (k : Nat) (x : Str) (sp : Sp) : Prop where
  ex : ∃ (f : Addr) (fd : FuncData) (ps : List Str), FnOkG P w K mg base k f fd ps sp ∧ mg x = some (.ref f) ∧ PySem.W.keepIn K (.ref f) = true ∧ Binds K fd ps []
end
theorem pe_fG {X : Cx} {k j : Nat} {x : Str} {sp : Sp} {p pos : Pos} {e : Expr} {es : List Expr} {t : TA} (c : FdG X.prog X.w X.K X.mg X.base k x sp) (hgd : X.A.guards = some []) (hr : Room j X.A) (hk : k ≤ j) (hg : Gl X x) (ha : PA X (e :: es) t)
    (hdb : (x == ("__debug__" : Str)) = false := by decide) (he : starEach (e :: es) X.env = (false, eval e X.env) :: starEach es X.env := by rfl) (hpl : (backTo pos (starEach es X.env)).any (·.1) = false := by rfl) :
    PE X (.Call (.Name x p) (e :: es) [] pos) (tCall sp [] E0 t) := by
  obtain ⟨f, fd, ps, F, hm, kp, hb⟩ := c.ex
  refine ⟨fun pins s σ H Q I h => wpAny_Call_Name_kw (ld_glob I hg hm (PySem.W.callWith_K (h₀ := X.base) I.ok.mod.kin kp (thn (ha.run pos pins s σ H _ I h) fun us s1 ⟨vs, H1, I1, r, q⟩ => ⟨I1.kIn, ?_⟩) he hpl) hdb)⟩
  have q : sp (vs ++ []) H1 Q E0 := q
  rw [List.append_nil] at q
  have h3 := F.len _ _ _ _ q
  have h4 := hb s1 us I1.kIn (by rw [List.append_nil, ← r.length]; exact h3)
  rw [List.append_nil] at h4
  refine wpAny_call (codeAny_mono (F.run X.A X.stack s1 H1 ⟨us, []⟩ us vs Q E0 hgd (hr.mono hk) I1.env0 h4 r q) fun r s' hq => ?_)
  cases r with
  | error e => exact (show False from hq).elim
  | ok fl =>
    cases fl with
    | ret u => exact I1.after hq
    | _ => exact False.elim hq
/-- the law, such a def, without tables -/
theorem law_callG {P : Program} {w : World} {K : PySem.W.Frag} {mg mb : Str → Option Value} {k : Nat} {fa a : Addr} {fd : FuncData} {x : Str} {sp : Sp} {s₁ : Shared} {vs : List Value} {ns : List Int} (KX : K.In s₁.heap) (hns : s₁.heap.Ns mainGlobals mg) (hb : s₁.heap.Ns builtinsNs mb)
    (hbb : ∀ x : Str, x ≠ "__name__" → mb x = bootBuiltins x) (hlim : s₁.heap.NoLimit) (hg : s₁.gens = #[]) (ha : s₁.heap.get? a = some { cls := .type "list", data := .seq vs.toArray }) (hi : IntsAre vs ns) (hl : ns.length ≤ sizeLine) (hr : Room k callerA)
    (F : ∀ base : Heap, K.In base → base.Ns mainGlobals mg → FnOkG P w K mg base k fa fd [x] sp) (hbind : ∀ (s : Shared) (u : Value), BindsTo s fd ⟨[u], []⟩ [(x, u)]) (hsp : ∀ H : Hp, SqL K H a (ns.map V.int) → sp [.ref a] H (fun v _ => v = .bl true) fun _ _ _ => False) :
    codeAny (model P w) callerA (.call (.ref fa) ⟨[.ref a], []⟩) (fun r s' => r = .ok (.ret (.bool true)) ∧ OldK s₁.heap s'.heap ∧ s'.os = s₁.os ∧ AllBare s'.gens) s₁ := by
  have rv := vals_ints hi
  -- the script at most is tracked
  have core : ∀ H : Hp, (∀ b u, H b = some u → b = a ∧ u = .frz { cls := .type "list", data := .seq vs.toArray } (.lst (ns.map V.int))) → (H a ≠ none → K.lookup a = none) → SqL K H a (ns.map V.int) →
      codeAny (model P w) callerA (.call (.ref fa) ⟨[.ref a], []⟩) (fun r s' => r = .ok (.ret (.bool true)) ∧ OldK s₁.heap s'.heap ∧ s'.os = s₁.os ∧ AllBare s'.gens) s₁ := by
    intro H hH hK hS
    have hok : HOk P w H s₁.heap := fun b u z => by
      obtain ⟨rfl, rfl⟩ := hH b u z
      exact ⟨ha, by rw [List.length_map]; exact hl, vs, _, rv, ha⟩
    have no : ∀ {b : Addr} {o : Obj}, s₁.heap.get? b = some o → (∀ vs n, o.data ≠ .seq vs n) → H b = none := fun {b o} e h1 => by
      cases q : H b with
      | none => rfl
      | some u =>
        obtain ⟨rfl, _⟩ := hH b u q
        rw [ha] at e
        cases e
        exact (h1 _ _ rfl).elim
    have nsK : ∀ {b : Addr} {m : Str → Option Value}, s₁.heap.Ns b m → (hidT s₁.heap H).Ns b m := fun {b m} ⟨o, es, ep, e, d, r⟩ => ⟨o, es, ep, hidT_get e (no e fun vs n z => by rw [d] at z; cases z), d, r⟩
    have hKb : K.In (hidT s₁.heap H) := fun b o e => hidT_get (KX b o e) (by
      cases q : H b with
      | none => rfl
      | some u =>
        obtain ⟨rfl, _⟩ := hH b u q
        rw [hK (by rw [q]; simp)] at e
        cases e)
    have e0 : Env0 P w K mg (hidT s₁.heap H) callerA [] s₁ H := ⟨rfl, ⟨hKb, nsK hns, ⟨mb, nsK hb, hbb⟩, let ⟨mc, h1, h2⟩ := hlim; ⟨mc, nsK h1, h2⟩⟩, fun b o e => of_hidT e, Nat.le_of_eq (hidT_size _ _), trivial, (fun b hb => absurd (show b ∈ ([] : List Addr) from hb) (by simp)), hok, .of_eq hg⟩
    refine codeAny_mono ((F _ hKb (nsK hns)).run callerA [] s₁ H ⟨[.ref a], []⟩ [.ref a] [.ref a] _ _ rfl hr e0 (hbind s₁ (.ref a)) (.cons rfl .nil) (hsp H hS)) fun r s' h => ?_
    cases r with
    | error e => exact (show False from h).elim
    | ok fl =>
      cases fl with
      | ret u =>
        obtain ⟨v, H', os, bare, un, hok', r', q⟩ := h
        have q' : v = .bl true := q
        subst q'
        obtain rfl : u = Value.bool true := r'
        have key : ∀ b o, s₁.heap.get? b = some o → s'.heap.get? b = some o := fun b o e => by
          cases q : H b with
          | none => exact un.keep b o e q (by intro z; exact absurd (show b ∈ ([] : List Addr) from z) (by simp)) (by simp)
          | some u =>
            obtain ⟨rfl, rfl⟩ := hH b u q
            have z2 := un.frzs b _ _ q
            obtain ⟨e2, _⟩ := hok' b _ z2
            rw [ha] at e
            cases e
            exact e2
        exact ⟨rfl, ⟨fun b o e => .inl (key b o e), fun b o e => ⟨o, key b o e⟩⟩, os, bare⟩
      | _ => exact False.elim h
  cases hk : K.lookup a with
  | some o =>
    have e := KX a o hk
    rw [ha] at e
    cases e
    exact core (fun _ => none) (fun b u z => nomatch z) (fun z => (z rfl).elim) (.inr ⟨_, vs.toArray, _, hk, rfl, rfl, rfl, by rw [List.size_toArray, hi.length]; exact hl, by simpa using rv⟩)
  | none =>
    refine core (fun b => if b = a then some (.frz { cls := .type "list", data := .seq vs.toArray } (.lst (ns.map V.int))) else none) (fun b u z => ?_) (fun _ => hk) (.inl (.inr ⟨{ cls := .type "list", data := .seq vs.toArray }, if_pos rfl⟩))
    by_cases hba : b = a
    · rw [if_pos hba] at z
      exact ⟨hba, (Option.some.inj z).symm⟩
    · rw [if_neg hba] at z
      cases z
/-- what is known of the law's promise at the head's heap -/
def LawAtG (l : PySem.W.OpenLaw) (w : World) (K : PySem.W.Frag) (k n : Nat) (x : Str) (mg : Str → Option Value) (fa : Addr) : Prop :=
  ∃ (fd : FuncData) (sp : Sp), (∀ (s : Shared) (u : Value), BindsTo s fd ⟨[u], []⟩ [(x, u)]) ∧ (∀ (H : Hp) (a : Addr) (ns : List Int), ns.length ≤ n → SqL K H a (ns.map V.int) → sp [.ref a] H (fun v _ => v = .bl true) fun _ _ _ => False) ∧
    ∀ base : Heap, K.In base → base.Ns mainGlobals mg → FnOkG l.prog w K mg base k fa fd [x] sp
theorem walk_ofG {l : PySem.W.OpenLaw} {n k : Nat} {q : Program} {loose : List Str} {XP : (Str → Option Value) → Heap → Prop} {YP : World → Heap → Prop} {d : DefRec} {x : Str} (hn : l.most = some n) (hn2 : n ≤ sizeLine) (hdf : d.params.defaults = []) (hr : Room k callerA)
    (F : ∀ (w : World) (mg : Str → Option Value) (fa : Addr) (h : Heap), YP w h → h.Ns mainGlobals mg → mg d.name = some (.ref fa) → ∃ K : PySem.W.Frag, K.In h ∧ LawAtG l w K k n x mg fa) : PySem.W.WalkO q loose XP YP l.row.toRowW d [] (fun f vs => PySem.call f vs) := by
  refine Att.attach_callB hn hdf fun w s₀ s₁ mg mb fa o pm cd doc a vs ns G Y ho hd hcd hmg hobj hints hlen hbits hg => ?_
  obtain ⟨K, KX, fd, sp, hb, hsp, hF⟩ := F w mg fa _ Y G.T.g hmg
  exact law_callG KX G.T.g G.T.b G.T.builtins G.T.nolimit hg hobj hints (Nat.le_trans hlen hn2) hr hF hb fun H hS => hsp H a ns hlen hS
end Dl
/-! Exceptions made by C(), C(value=e), as values. -/
namespace Dl
open PySem PySem.Spec PyProof.Rows L2 LamX
section
variable {X : Cx} {x : Str} {C fI : Addr} {k : Nat} {fd : FuncData} {ps : List Str} {sp : Sp}
/-- the class called, with any arguments -/
theorem mk_core {pins : List (Addr × Obj)} {σ : L2.St} {H1 : Hp} {s1 : Shared} {us bs : List Value} {vs : List V} {kw : List (Str × Value)} {Q : XK} (T : OexC X.K C) (iC : PySem.W.findIn X.K (.ref C) "__init__" = some (some (.ref fI))) (tI : PySem.W.typeIn X.K (.ref fI) = some (.type "function"))
    (F1 : FnOk X.prog X.w X.K X.mg X.base CX0 k fI fd ps sp) (hr : Room (k + 1) X.A) (I1 : Inv X pins σ H1 s1) (hus : us.length ≤ sizeLine) (bt : ∀ (s : Shared) (a : Addr), X.K.In s.heap → BindsTo s fd ⟨.ref a :: us, kw⟩ (ps.zip (.ref a :: bs))) (rv : Vals vs bs)
    (q : ∀ a, H1 a = none → sp (.ref a :: vs) (upd H1 a (exo a C none)) (fun v H2 => v = .non ∧ ∃ (d : Addr) (fs : List (Str × V)), H2 a = some (exo a C (some d)) ∧ H2 d = some (exd d fs) ∧ H1 d = none ∧ Q (.ref C) (some d) (upd (L2.del H2 a) d (.xd fs))) (fun _ _ _ => False)) :
    wpAny (model X.prog X.w) X.A (call (.ref C) us kw) (MkP X pins σ Q) X.xe s1 := by
  obtain ⟨nm, qq, N, bs0, bm, sn, sub, ab, col, dd, k0, k1, k2, k3, k5, hC, hbm⟩ := T.cls
  obtain ⟨hp, g, dr, tk, os⟩ := s1
  have hsz : hp.objs.size ≤ hp.objs.size + 1 := Nat.le_succ _
  have hn : H1 (hp.objs.size + 1) = none := I1.hok.fresh hsz
  have hq := q (hp.objs.size + 1) hn
  have kk : ∀ b o, hp.get? b = some o → ((hp.push (PySem.W.kdv_tup us)).push (PySem.HandSPX.excO C hp.objs.size)).get? b = some o := fun b o e => Heap.get?_push_of_some _ (Heap.get?_push_of_some _ e)
  have hget : ((hp.push (PySem.W.kdv_tup us)).push (PySem.HandSPX.excO C hp.objs.size)).get? (hp.objs.size + 1) = some (PySem.HandSPX.excO C hp.objs.size) := by heap_get
  have I2 : Inv X pins σ (upd H1 (hp.objs.size + 1) (exo (hp.objs.size + 1) C none)) ⟨(hp.push (PySem.W.kdv_tup us)).push (PySem.HandSPX.excO C hp.objs.size), g, dr, tk, os⟩ :=
    I1.laid (t' := tk) (a := hp.objs.size + 1) (o := exo (hp.objs.size + 1) C none) (h' := (hp.push (PySem.W.kdv_tup us)).push (PySem.HandSPX.excO C hp.objs.size)) kk hsz (exo_ok hget)
  have r2 : Vals (V.ref (hp.objs.size + 1) :: vs) (Value.ref (hp.objs.size + 1) :: bs) := .cons rfl rv
  refine wpAny_call (ek_call F.excBase_ValueError (fun Y => PySem.HandSPX.refsVE_contains Y bm hbm) (I1.kIn _ _ hC) (PySem.W.looks_findIn I1.kIn iC) (fun self => PySem.W.bind_fn I1.kIn self tI) hus
    (codeAny_mono (F1.run _ X.stack _ _ ⟨Value.ref (hp.objs.size + 1) :: us, kw⟩ (Value.ref (hp.objs.size + 1) :: bs) _ _ (fun _ _ _ => False) (hr.make C us kw) (I2.env0.make C us kw) (bt _ _ I2.kIn) r2 hq) fun r s' hq' => ?_))
  cases r with
  | error er => exact (pass0 pins σ _ _ er s' I2 hq')
  | ok fl =>
    cases fl with
    | ret u =>
      obtain ⟨v, H2, os2, bare2, un2, hok2, rv, ev, d, fs, ea, ed, hd1, q2⟩ := hq'
      subst ev
      obtain ⟨h2, g2, d2, t2, os'⟩ := s'
      exact ⟨rv, mk_end (raises_own T.exC T.tyC) I1 hsz kk un2 hok2 os2 bare2 ea ed hd1 q2⟩
    | next => exact False.elim hq'
    | brk => exact False.elim hq'
    | cont => exact False.elim hq'
/-- C() -/
theorem pmk_oex0 {p pos : Pos} {ds : List Value} {dvs : List V} (T : OexC X.K C) (iC : PySem.W.findIn X.K (.ref C) "__init__" = some (some (.ref fI))) (tI : PySem.W.typeIn X.K (.ref fI) = some (.type "function"))
    (F1 : FnOk X.prog X.w X.K X.mg X.base CX0 k fI fd ps sp) (hr : Room (k + 1) X.A) (hb : ∀ (s : Shared) (a : Addr), X.K.In s.heap → BindsTo s fd ⟨[.ref a], []⟩ (ps.zip (.ref a :: ds))) (hd : Vals dvs ds) (hg : Gl X x) (hm : X.mg x = some (.ref C)) (hdb : (x == ("__debug__" : Str)) = false := by decide) :
    PMk X (.Call (.Name x p) [] [] pos) (tMkO C sp dvs tNil) := by
  intro pins s σ H Q I h
  refine wpAny_Call_Name_kw (ld_glob I hg hm ?_ hdb)
  refine PySem.W.callWith_K0 (I.tok _).kIn T.kC ?_
  obtain ⟨_, q⟩ := h
  exact mk_core (us := []) (kw := []) (vs := dvs) T iC tI F1 hr (I.tok _) (Nat.zero_le _) hb hd q
/-- C(k = e) -/
theorem pmk_oexK {p pos : Pos} {ks : List Str} {kws : List Keyword} {tk : TA} (T : OexC X.K C) (iC : PySem.W.findIn X.K (.ref C) "__init__" = some (some (.ref fI))) (tI : PySem.W.typeIn X.K (.ref fI) = some (.type "function"))
    (F1 : FnOk X.prog X.w X.K X.mg X.base CX0 k fI fd ps sp) (hr : Room (k + 1) X.A) (hb : ∀ (s : Shared) (a : Addr) (ws : List Value), X.K.In s.heap → ws.length = ks.length → BindsTo s fd ⟨[.ref a], ks.zip ws⟩ (ps.zip (.ref a :: ws))) (hps : ps.length = ks.length + 1) (hg : Gl X x) (hm : X.mg x = some (.ref C))
    (hkw : PK X kws tk) (hall : (backToKw pos (keywordEach kws X.env)).all (·.1.isSome) = true := by rfl) (hks : (backToKw pos (keywordEach kws X.env)).filterMap (·.1) = ks := by rfl) (hdb : (x == ("__debug__" : Str)) = false := by decide)
    (hpl : ((backTo pos (starEach [] X.env)).any (·.1) || (backToKw pos (keywordEach kws X.env)).any (·.1.isNone)) = false := by rfl) :
    PMk X (.Call (.Name x p) [] kws pos) (tMkO C sp [] tk) := by
  intro pins s σ H Q I h
  refine wpAny_Call_Name_kw (ld_glob I hg hm ?_ hdb)
  refine PySem.W.callWith_KW0 (h₀ := X.base) I.ok.mod.kin T.kC hall (thn (hkw.run pos pins _ σ H _ (I.tok _) h) fun ws s2 ⟨zs, H2, I2, rz, _, q⟩ => ⟨I2.kIn, ?_⟩) hpl
  rw [hks]
  have hl : zs.length = ks.length := by
    have e := F1.len _ _ _ _ (q (s2.heap.objs.size + 1) (I2.hok.fresh (Nat.le_succ _)))
    simp at e
    omega
  exact mk_core (us := []) (vs := zs) T iC tI F1 hr I2 (Nat.zero_le _) (fun s a X2 => hb s a ws X2 (by rw [← rz.length]; exact hl)) rz (by simpa using q)
end
end Dl
/-! Exceptions as data: made in every way, their class asked, their field read. -/
namespace Dl
open PySem PySem.Spec PyProof.Rows L2 LamX
/-- an own exception class, its field None where nothing is given -/
structure ExV (P : Program) (K : PySem.W.Frag) (mg : Str → Option Value) (x : Str) (C : Addr) : Prop where
  mgx : mg x = some (.ref C)
  ini : ∃ fI fd, ExIni P K mg C fI fd ∧ PySem.W.findIn K (.ref C) "__init__" = some (some (.ref fI)) ∧ PySem.W.typeIn K (.ref fI) = some (.type "function") ∧ Binds K fd ["self", "value"] [] ∧
    (∀ (s : Shared) (a : Addr), K.In s.heap → BindsTo s fd ⟨[.ref a], []⟩ ((["self", "value"] : List Str).zip [.ref a, .none])) ∧
    (∀ (s : Shared) (a : Addr) (ws : List Value), K.In s.heap → ws.length = 1 → BindsTo s fd ⟨[.ref a], (["value"] : List Str).zip ws⟩ ((["self", "value"] : List Str).zip (.ref a :: ws)))
  exc : ExcC K C
  xf : XfC K C
  noat : PySem.W.findIn K (.ref C) "value" = some none
section
variable {X : Cx} {x : Str} {C : Addr} {p pos : Pos} {k : Nat}
/-- C(e) -/
theorem pe_mkI {e : Expr} {t : TA} (c : ExV X.prog X.K X.mg x C) (hex : X.ex = []) (hr : Room k X.A) (hk : 2 ≤ k) (hg : Gl X x) (ha : PA X [e] t) (hdb : (x == ("__debug__" : Str)) = false := by decide)
    (hs : starEach [e] X.env = (false, eval e X.env) :: starEach [] X.env := by rfl) (hpl : (backTo pos (starEach [] X.env)).any (·.1) = false := by rfl) : PE X (.Call (.Name x p) [e] [] pos) (tMade fun σ H => tMkO C (spIni C) [] t σ H) := by
  obtain ⟨fI, fd, hi, h1, h2, hb, _⟩ := c.ini
  exact pe_made (pmk_oex hi.oex h1 h2 (fn_ini (CX := CX0) hi) (hr.mono hk) hb .nil pass0 hg c.mgx ha hdb hs hpl) hex
/-- C() -/
theorem pe_mk0 (c : ExV X.prog X.K X.mg x C) (hex : X.ex = []) (hr : Room k X.A) (hk : 2 ≤ k) (hg : Gl X x) (hdb : (x == ("__debug__" : Str)) = false := by decide) : PE X (.Call (.Name x p) [] [] pos) (tMade fun σ H => tMkO C (spIni C) [.non] tNil σ H) := by
  obtain ⟨fI, fd, hi, h1, h2, _, hb, _⟩ := c.ini
  exact pe_made (pmk_oex0 hi.oex h1 h2 (fn_ini (CX := CX0) hi) (hr.mono hk) hb (.cons rfl .nil) hg c.mgx hdb) hex
/-- C(value = e) -/
theorem pe_mkK {e : Expr} {te : TE} {kpos : Pos} (c : ExV X.prog X.K X.mg x C) (hex : X.ex = []) (hr : Room k X.A) (hk : 2 ≤ k) (hg : Gl X x) (he : PE X e te) (hdb : (x == ("__debug__" : Str)) = false := by decide)
    (hall : (backToKw pos (keywordEach [⟨some "value", e, kpos⟩] X.env)).all (·.1.isSome) = true := by rfl) (hks : (backToKw pos (keywordEach [⟨some "value", e, kpos⟩] X.env)).filterMap (·.1) = (["value"] : List Str) := by rfl)
    (hpl : ((backTo pos (starEach [] X.env)).any (·.1) || (backToKw pos (keywordEach [⟨some "value", e, kpos⟩] X.env)).any (·.1.isNone)) = false := by rfl) : PE X (.Call (.Name x p) [] [⟨some "value", e, kpos⟩] pos) (tMade fun σ H => tMkO C (spIni C) [] (tCons te tNil) σ H) := by
  obtain ⟨fI, fd, hi, h1, h2, _, _, hb⟩ := c.ini
  exact pe_made (pmk_oexK (ks := (["value"] : List Str)) hi.oex h1 h2 (fn_ini (CX := CX0) hi) (hr.mono hk) hb rfl hg c.mgx (pk_cons he pk_nil) hall hks hdb hpl) hex
end
/-- an own exception class without own __init__ -/
structure Ex0 (K : PySem.W.Frag) (mg : Str → Option Value) (x : Str) (C : Addr) : Prop where
  mgx : mg x = some (.ref C)
  q : PySem.W.excIn K C veB "ValueError.__new__" = true
  kC : PySem.W.keepIn K (.ref C) = true
  tyC : PySem.W.typeIn K (.ref C) = some (.type "type")
  exc : ExcC K C
/-- C(), C without own __init__ -/
theorem pe_mkN {X : Cx} {x : Str} {C : Addr} {p pos : Pos} (c : Ex0 X.K X.mg x C) (hex : X.ex = []) (hg : Gl X x) (hdb : (x == ("__debug__" : Str)) = false := by decide) : PE X (.Call (.Name x p) [] [] pos) (tMade fun _ H Q => Q (.ref C) none H) := by
  refine pe_made ?_ hex
  intro pins s σ H Q I h
  refine wpAny_Call_Name_kw (ld_glob I hg c.mgx ?_ hdb)
  refine PySem.W.callWith_K0 I.kIn c.kC ?_
  obtain ⟨bm, N, nm, qn, bs, hdct, sn, sub, ab, col, dd, k0, k1, k2, k3, k5, mN, hC, hN, hni, T⟩ := exc_obj I.kIn c.q
  refine wpAny_call_exc_subT F.excBase_ValueError T hC hN hni (fun h' e hm => ?_) (Nat.zero_le _)
  exact mk_of I hm (raises_own c.exc.hs c.tyC) h (I.hok.gone hm.new)
/-! ### isinstance -/
theorem exq_any {X : Cx} {pins : List (Addr × Obj)} {σ : L2.St} {H : Hp} {s : Shared} {a C : Addr} (I : Inv X pins σ H s) {dd : Option Addr} (e1 : H a = some (exq a (.ref C) dd)) (e2 : ∀ d, dd = some d → ∃ fs, H d = some (.xd fs)) :
    ∃ (oe : Obj) (od : Option Obj), PySem.W.InstAt s.heap a oe C od := by
  have z : ObjOk X.prog X.w H s.heap a (exq a (.ref C) dd) := I.hok a _ e1
  obtain ⟨oe, q1, q2, vs, q3⟩ := z.1
  have hno : PySem.W.notCls oe = true := by unfold PySem.W.notCls; rw [q3] <;> rfl
  cases dd with
  | none => exact ⟨oe, none, q1, q2.1, hno, by rw [q2.2]; exact True.intro⟩
  | some d =>
    obtain ⟨fs, e2⟩ := e2 d rfl
    obtain ⟨mA, hns, hr⟩ := (show ObjOk X.prog X.w H s.heap d (.xd fs) from I.hok d _ e2)
    obtain ⟨od, ho, hl⟩ := lookIn_ns hns
    exact ⟨oe, some od, q1, q2.1, hno, by rw [q2.2]; exact ho⟩
/-- an exception of class C -/
def exK (C : Addr) (a : Addr) (H : Hp) : Prop := ∃ dd, H a = some (exq a (.ref C) dd) ∧ ∀ d, dd = some d → ∃ fs, H d = some (.xd fs)
def rIsY (K : PySem.W.Frag) : List V → Hp → VK → Prop := fun xs H Q => ∃ (a C : Addr) (c : V) (cv : Value) (b : Bool), xs = [.ref a, c] ∧ exK C a H ∧ ExcC K C ∧ (∀ u, L2.RelV c u → u = cv) ∧ PySem.W.kitOne K (.ref C) cv = some b ∧ Q (.bl b) H
theorem call_isY {X : Cx} : CallR X (.builtin "isinstance") (rIsY X.K) := by
  intro pins s σ H xs us Q I r h
  obtain ⟨a, C, c, cv, b, rfl, ⟨dd, e1, e2⟩, hC, hcv, e, q⟩ := h
  cases r with
  | cons rx rr =>
  cases rr with
  | cons rt rr =>
  cases rr
  cases rx
  have ec := hcv _ rt
  subst ec
  obtain ⟨oe, od, J⟩ := exq_any I e1 e2
  have hcl : (PySem.W.clsIn X.K C).isSome = true := by
    have q := hC.hm
    unfold PySem.W.mroIn at q
    cases z : PySem.W.clsIn X.K C with
    | none => rw [z] at q; cases q
    | some cd => rfl
  exact PySem.W.kia_one (PySem.W.kitx_exc hcl hC.hg hC.hk hC.hs hC.ha hC.hn hC.ht hC.hm) I.kIn J e (fun z => nomatch z) fun tk => ⟨.bl b, H, I.kept (t' := tk) fun _ _ z => z, rfl, q⟩
theorem k_isY {X : Cx} (κ : PySem.W.Frag) (h : X.K = κ) : CallR X (.builtin "isinstance") (rIsY κ) := h ▸ call_isY
section
variable {K : Cfg} {H H' : Hp} {C a : Addr} {v u : V} {d : D}
theorem exK_mono (h : exK C a H) (e : Kp H H') : exK C a H' := by
  obtain ⟨dd, h1, h2⟩ := h
  exact ⟨dd, e _ _ h1 (fun _ z => by cases z), fun d hd => let ⟨fs, h3⟩ := h2 d hd; ⟨fs, e _ _ h3 (fun _ z => by cases z)⟩⟩
theorem exR_K (h : exR C v a H) : exK C a H := by
  obtain ⟨dd, h1, h2⟩ := h
  exact ⟨some dd, h1, fun d hd => by cases hd; exact ⟨_, h2⟩⟩
theorem exK_rp (h : exK C a H) : Rp K H (.ref a) (.ob (exK C)) := .ob fun _ g => exK_mono h g
theorem rp_exK (h : Rp K H u (.ob (exK C))) : ∃ a, u = .ref a ∧ exK C a H := by
  cases h with
  | ob h => exact ⟨_, rfl, h H (Kp.refl H)⟩
/-- .. whose field is told -/
def exV (K : Cfg) (C : Addr) (d : D) (a : Addr) (H : Hp) : Prop := ∃ v, exR C v a H ∧ Rp K H v d
theorem exV_mono (h : exV K C d a H) (e : Kp H H') : exV K C d a H' := by
  obtain ⟨v, h1, h2⟩ := h
  exact ⟨v, exR_mono h1 e, h2.ex e⟩
theorem exV_rp (h : exV K C d a H) : Rp K H (.ref a) (.ob (exV K C d)) := .ob fun _ g => exV_mono h g
theorem rp_exV (h : Rp K H u (.ob (exV K C d))) : ∃ a, u = .ref a ∧ exV K C d a H := by
  cases h with
  | ob h => exact ⟨_, rfl, h H (Kp.refl H)⟩
/-- it is an exception of class C -/
def IsK (K : Cfg) (C : Addr) (d : D) : Prop := ∀ u H, Rp K H u d → Rp K H u (.ob (exK C))
theorem isK_R : IsK K C (.ob (exR C v)) := fun u H h => by
  obtain ⟨a, rfl, g⟩ := rp_exR h
  exact exK_rp (exR_K g)
theorem isK_V : IsK K C (.ob (exV K C d)) := fun u H h => by
  obtain ⟨a, rfl, v, g, _⟩ := rp_exV h
  exact exK_rp (exR_K g)
theorem isK_K : IsK K C (.ob (exK C)) := fun _ _ h => h
end
section
variable {K : Cfg} {ρ : Env} {te : TE} {v : V} {d e : D}
theorem ev_isY {C : Addr} {c : V} {cv : Value} {b : Bool} (h : EvD K te ρ e) (hi : IsK K C e) (hC : ExcC K.K C) (hcv : ∀ u, L2.RelV c u → u = cv) (hk : PySem.W.kitOne K.K (.ref C) cv = some b) : EvD K (tCB (rIsY K.K) (tCons te (tCons (tC c) tNil))) ρ (.bl b) := fun M σ H m eo Q q =>
  h M σ H m eo _ fun w H1 e1 r => by
    obtain ⟨a, rfl, dd, h1, h2⟩ := rp_exK (hi _ _ r)
    exact ⟨a, C, c, cv, b, rfl, ⟨dd, (hid_some h1).2, fun d hd => let ⟨fs, h3⟩ := h2 d hd; ⟨fs, (hid_some h3).2⟩⟩, hC, hcv, hk, q _ H1 e1 (.bl b)⟩
/-- e.value -/
theorem ev_fxV {C : Addr} (h : EvD K te ρ (.ob (exV K C d))) (T : XfC K.K C) (hno : PySem.W.findIn K.K (.ref C) "value" = some none) : EvD K (tFx K.K "value" te) ρ d := fun M σ H m eo Q q =>
  h M σ H m eo _ fun w H1 e1 r => by
    obtain ⟨a, rfl, v, ⟨dd, h1, h2⟩, h3⟩ := rp_exV r
    exact ⟨a, dd, C, _, v, rfl, (hid_some h1).2, (hid_some h2).2, T, hno, rfl, q _ H1 e1 h3⟩
/-- C(), its field None -/
theorem ev_made0 {C : Addr} : EvD K (tMade fun σ H => tMkO C (spIni C) [.non] tNil σ H) ρ (.ob (exR C .non)) := fun M σ H m eo Q q => by
  refine ⟨by show 0 ≤ 1000; decide, fun a ha => ⟨a, .non, rfl, upd_same, fun dx hdx hne => ⟨rfl, dx, [("value", .non)], ?_, ?_, ?_, fun b hb => ?_⟩⟩⟩
  · exact upd_same
  · rw [upd_ne hne, upd_same]
  · rw [upd_ne hne] at hdx; exact hdx
  · have hdx1 : H dx = none := by rw [upd_ne hne] at hdx; exact hdx
    have all0 : ∀ c o, H c = some o → upd (L2.del (upd (upd (upd H a (exo a C none)) dx (exd dx [("value", .non)])) a (exo a C (some dx))) a) dx (.xd [("value", .non)]) c = some o := fun c o hc => by
      have n1 : c ≠ dx := fun z => by rw [z, hdx1] at hc; cases hc
      have n2 : c ≠ a := fun z => by rw [z, ha] at hc; cases hc
      rw [upd_ne n1, L2.del_ne n2, upd_ne n2, upd_ne n1, upd_ne n2]
      exact hc
    have ebd : b ≠ dx := fun z => by rw [z, upd_same] at hb; cases hb
    have x2 : Ex K H (upd (L2.del (upd (upd (upd H a (exo a C none)) dx (exd dx [("value", .non)])) a (exo a C (some dx))) a) dx (.xd [("value", .non)])) := Ex.all all0
    have x3 := x2.trans (Ex.new (o := exq b (.ref C) (some dx)) hb)
    have bm : b ∉ M := (m.ex x2).new hb
    have dm : dx ∉ M := m.new hdx1
    refine q _ _ x3 (exR_rp ⟨dx, ?_, ?_⟩)
    · rw [hid_out bm, upd_same]
    · rw [hid_out dm, upd_ne (Ne.symm ebd), upd_same]
/-- C(), C without own __init__ -/
theorem ev_madeN {C : Addr} : EvD K (tMade fun _ H Q => Q (.ref C) none H) ρ (.ob (exK C)) := fun M σ H m eo Q q => fun a ha =>
  q _ _ (Ex.new ha) (exK_rp ⟨none, by rw [hid_out (m.new ha), upd_same], fun d hd => by cases hd⟩)
/-- all their fields are told -/
theorem ev_tellA {cs : List Addr} (h : EvD K te ρ (.lst (cs.map fun C => .ob (exR C v)))) (k : Knows K ρ v d) : EvD K te ρ (.lst (cs.map fun C => .ob (exV K C d))) := fun M σ H m eo Q q =>
  h M σ H m eo _ fun w H1 e1 r => q w H1 e1 (by
    have rv := k M σ H1 (m.ex e1) (eo.ex e1)
    cases r with
    | @lst a vs _ h1 h2 =>
      refine .lst h1 ?_
      clear h1 q h
      induction cs generalizing vs with
      | nil => cases h2; exact .nil
      | cons C cs ih =>
        cases h2 with
        | cons a1 a2 =>
          obtain ⟨a, rfl, g⟩ := rp_exR a1
          exact .cons (exV_rp ⟨v, g, rv⟩) (ih a2))
end
end Dl
/-! The family of own exception classes: with a field, without, the last one the base of all. -/
namespace Dl
open PySem PySem.Spec PyProof.Rows L2 LamX
structure Cls (P : Program) (K : PySem.W.Frag) (mg : Str → Option Value) (nsV ns0 : List Str) (C : Nat → Addr) : Prop where
  v : ∀ i x, nsV[i]? = some x → ExV P K mg x (C i)
  n : ∀ i x, ns0[i]? = some x → Ex0 K mg x (C (nsV.length + i))
  kit : ∀ i j, i < nsV.length + ns0.length → j + 1 < nsV.length + ns0.length → PySem.W.kitOne K (.ref (C i)) (.ref (C j)) = some (decide (i = j))
  kitF : ∀ i, i < nsV.length + ns0.length → PySem.W.kitOne K (.ref (C i)) (.ref (C (nsV.length + ns0.length - 1))) = some true
  kitVE : ∀ i, i < nsV.length + ns0.length → PySem.W.kitOne K (.ref (C i)) (.type "ValueError") = some true
section
variable {P : Program} {K : PySem.W.Frag} {mg : Str → Option Value} {nsV ns0 : List Str} {C : Nat → Addr}
theorem Cls.mgx (c : Cls P K mg nsV ns0 C) (i : Nat) {x : Str} (h : (nsV ++ ns0)[i]? = some x) : mg x = some (.ref (C i)) := by
  by_cases hi : i < nsV.length
  · rw [List.getElem?_append_left hi] at h
    exact (c.v i x h).mgx
  · rw [List.getElem?_append_right (by omega)] at h
    have q := (c.n _ x h).mgx
    rwa [show nsV.length + (i - nsV.length) = i by omega] at q
theorem Cls.exc (c : Cls P K mg nsV ns0 C) {i : Nat} (h : i < nsV.length + ns0.length) : ExcC K (C i) := by
  by_cases hi : i < nsV.length
  · exact (c.v i _ (List.getElem?_eq_getElem hi)).exc
  · have q := (c.n (i - nsV.length) _ (List.getElem?_eq_getElem (by omega))).exc
    rwa [show nsV.length + (i - nsV.length) = i by omega] at q
end
section
variable {P : Program} {K : Cfg} {mg : Str → Option Value} {nsV ns0 : List Str} {C : Nat → Addr} {ρ : Env} {te : TE} {e : D}
theorem pe_clsA {X : Cx} {x : Str} {A : Addr} {p : Pos} (hg : Gl X x) (hm : X.mg x = some (.ref A)) (hdb : (x == ("__debug__" : Str)) = false := by decide) : PE X (.Name x p) (tC (.ref A)) := pe_glob hg hm rfl hdb
/-- isinstance(e, C j) -/
theorem ev_isC {i : Nat} (j : Nat) (c : Cls P K.K mg nsV ns0 C) (h : EvD K te ρ e) (hi : IsK K (C i) e) (h1 : i < nsV.length + ns0.length) (h2 : j + 1 < nsV.length + ns0.length) : EvD K (tCB (rIsY K.K) (tCons te (tCons (tC (.ref (C j))) tNil))) ρ (.bl (decide (i = j))) :=
  ev_isY h hi (c.exc h1) (fun u r => r) (c.kit i j h1 h2)
theorem ev_isF {i : Nat} (j : Nat) (c : Cls P K.K mg nsV ns0 C) (h : EvD K te ρ e) (hi : IsK K (C i) e) (h1 : i < nsV.length + ns0.length) (hj : j = nsV.length + ns0.length - 1) : EvD K (tCB (rIsY K.K) (tCons te (tCons (tC (.ref (C j))) tNil))) ρ (.bl true) := by
  subst hj
  exact ev_isY h hi (c.exc h1) (fun u r => r) (c.kitF i h1)
theorem ev_isVE {i : Nat} (c : Cls P K.K mg nsV ns0 C) (h : EvD K te ρ e) (hi : IsK K (C i) e) (h1 : i < nsV.length + ns0.length) : EvD K (tCB (rIsY K.K) (tCons te (tCons (tC (.ty "ValueError")) tNil))) ρ (.bl true) :=
  ev_isY h hi (c.exc h1) (fun u r => r) (c.kitVE i h1)
end
end Dl
/-! Calls without arguments; texts drawn letter by letter, joined. -/
namespace Dl
open PySem PySem.Spec PyProof.Rows L2 LamX
variable {K : Cfg}
theorem pe_f0 {X : Cx} {k j : Nat} {x : Str} {sp : Sp} {dvs : List V} {p pos : Pos} (c : Fd X.prog X.w X.K X.mg X.base k x sp dvs) (hr : Room j X.A) (hk : k ≤ j) (hg : Gl X x)
    (hdb : (x == ("__debug__" : Str)) = false := by decide) : PE X (.Call (.Name x p) [] [] pos) (tCall sp dvs E0 tNil) := by
  obtain ⟨f, fd, ps, ds, F, hm, kp, b, d⟩ := c.ex
  exact pe_call0 F (hr.mono hk) hg hm kp b d pass0 hdb
/-- two texts, unlike? -/
theorem ev_neS {ρ : Env} {ta tb : TE} {x y : Str} (ha : EvD K ta ρ (.str x)) (hb : EvD K tb ρ (.str y)) : EvD K (tOp rNe ta tb) ρ (.bl (!decide (V.str x = V.str y))) := fun M σ H m e Q q =>
  ha M σ H m e _ fun v H1 e1 r1 => hb M σ H1 (m.ex e1) (e.ex e1) _ fun w H2 e2 r2 => by
    cases r1
    cases r2
    exact ⟨rfl, q _ H2 (e1.trans e2) (.bl _)⟩
section
variable {ρ : Env} {ta tb te : TE} {p : Addr} {ns : List Int} {P P' : D → List Int → Prop}
/-- a if t else b, t changes the purse -/
theorem em_ifB {t : TT} {P2 : Bool → List Int → Prop} {i : Nat} (hi : ρ[i]? = some (.own p (ns.map D.int))) (ht : EvTMb K t ρ p ns P2) (h : ∀ b ns', P2 b ns' → ∃ d, EvD K (if b then ta else tb) (keepP ρ i p ns') d ∧ P d ns') : EvM K (tIf t ta tb) ρ p ns P := fun M σ H m e hp hq Q q =>
  ht M σ H m e hp hq _ fun b H1 ns1 h1 x1 q1 => by
    obtain ⟨d, h2, h3⟩ := h b ns1 h1
    have fin : (if b then ta else tb) σ H1 Q := h2 M σ H1 (m.exM x1) (e.keep x1 hp hi q1) _ fun v H2 e2 r2 => q v H2 d ns1 h3 (x1.trans e2.m) (e2.kp.lst q1) r2
    cases b <;> exact fin
/-- x[e] of a text, e draws -/
theorem em_ixS {x : Str} (he : EvM K te ρ p ns P) (hx : x.length ≤ 100000) (hP : ∀ d ns', P d ns' → ∃ (j : Nat) (c : Nat), d = .int j ∧ x.cps.toList[j]? = some c ∧ P' (.str ⟨#[c]⟩) ns') : EvM K (tOp rIxS (tC (.str x)) te) ρ p ns P' := fun M σ H m e hp hq Q q =>
  he M σ H m e hp hq _ fun v H1 d ns1 pd x1 q1 r1 => by
    obtain ⟨j, c, rfl, h2, h3⟩ := hP d ns1 pd
    cases r1
    exact ⟨x, j, c, rfl, rfl, sz_of hx, atI_nat h2, q _ H1 _ ns1 h3 x1 q1 (.str _)⟩
/-- sep.join(texts drawn) -/
def rJoin (K : PySem.W.Frag) : V → List V → Hp → VK → Prop := fun x xs H Q => ∃ a p, ∃ ys : List Str, x = .str a ∧ xs = [.ref p] ∧ (SqL K H p (ys.map V.str) ∨ SqT K H p (ys.map V.str)) ∧ (ys.map (·.length)).sum + ys.length * a.length ≤ 16777216 ∧ Q (.str (Txt.join a ys)) H
theorem em_join {a : Str} (he : EvM K te ρ p ns P) (hP : ∀ d ns', P d ns' → ∃ ys : List Str, d = .lst (ys.map D.str) ∧ (ys.map (·.length)).sum + ys.length * a.length ≤ 16777216 ∧ P' (.str (Txt.join a ys)) ns') : EvM K (tM1 (rJoin K) (tC (.str a)) te) ρ p ns P' := fun M σ H m e hp hq Q q => by
  refine ⟨⟨a, rfl⟩, he M σ H m e hp hq _ fun v H1 d ns1 pd x1 q1 r1 => ?_⟩
  obtain ⟨ys, rfl, hz, h3⟩ := hP d ns1 pd
  cases r1 with
  | @lst A vs _ g1 g2 =>
    have ev := RpA.strs g2
    subst ev
    exact ⟨a, A, ys, rfl, rfl, .inl (sq_of (hid_some g1).2), hz, q _ H1 _ ns1 h3 x1 q1 (.str _)⟩
/-- a comprehension whose items are drawn -/
theorem em_lcDraw {α : Type} {wi : TI} {g : TG} {vs ix : List Nat} {L : List α} {enc : α → D} {i : Nat} (R : D → Prop) (I : Nat → List Int → Prop) (hi : ρ[i]? = some (.own p (ns.map D.int))) (hs : Src K wi ρ (L.map enc)) (hl : L.length ≤ 100000) (h0 : I 0 ns)
    (ht : ∀ n x ns1, L[n]? = some x → I n ns1 → ∃ ρ', Bnd K g (enc x) (wipeE (keepP ρ i p ns1) vs) ρ' ix ∧ EvM K te ρ' p ns1 (fun d ns2 => R d ∧ I (n + 1) ns2)) (hix : ∀ i ∈ ix, i ∈ vs)
    (hP : ∀ (l : List D) ns', l.length = L.length → (∀ x ∈ l, R x) → I L.length ns' → P (.lst l) ns') : EvM K (tLc wi g tYes te vs) ρ p ns P := fun M σ H m e hp hq Q q =>
  hs M σ H m e _ fun J H1 e1 j A hA => by
    have m1 := m.ex e1
    have ev1 := e.ex e1
    have nAM : A ∉ M := m1.new hA
    have hq1 : H1 p = some (.lst (ns.map V.int)) := e1.kp.lst hq
    have nAp : p ≠ A := fun z => by rw [z, hA] at hq1; cases hq1
    have exA : ExM K p H1 (upd H1 A (.lst [])) := (Ex.new hA).m
    refine ⟨fun n k H2 => n + k = L.length ∧ ∃ (acc : List V) (l : List D) (ns1 : List Int), H2 A = some (.lst acc) ∧ RpA K (hid H2 (A :: M)) acc l ∧ l.length = n ∧ (∀ x ∈ l, R x) ∧ ExM K p H1 H2 ∧ H2 p = some (.lst (ns1.map V.int)) ∧ I n ns1,
      ⟨L.length, by omega, [], [], ns, upd_same, .nil, rfl, (fun x hx => nomatch hx), exA, by rw [upd_ne nAp]; exact hq1, h0⟩, fun n k H2 hw => ?_⟩
    obtain ⟨hnk, acc, l, ns1, hacc, hr, hsub, hf, hex, hq2, hI⟩ := hw
    have kpJ : Kp (hid H1 M) H2 := fun a o q0 nt => by
      obtain ⟨m2, q0⟩ := hid_some q0
      exact hex.kp a o (fun z => m2 (z ▸ hp)) q0 nt
    have fA : ∀ a ∈ A :: M, hid (hid H1 M) [] a = none := fun a ha => by
      rw [hid_nil]
      rcases List.mem_cons.mp ha with rfl | ha
      · rw [hid_out nAM]; exact hA
      · exact hid_in ha
    have mo2 : MOk K (A :: M) H2 := ⟨fun a ha => by
      rcases List.mem_cons.mp ha with rfl | ha
      · rw [hacc]; simp
      · exact hex.th a (m1.m a ha), hex.tb m1.t⟩
    have hpA : p ∈ A :: M := List.mem_cons_of_mem _ hp
    by_cases hn : n < L.length
    · obtain ⟨x, hx⟩ : ∃ x, L[n]? = some x := ⟨_, List.getElem?_eq_getElem hn⟩
      obtain ⟨go, yl⟩ := j.turn (A :: M) H2 kpJ fA mo2 n (enc x) (by rw [List.getElem?_map, hx]; rfl)
      obtain ⟨ρ', hb, ht1⟩ := ht n x ns1 hx hI
      refine .inr ⟨go, fun H' => (∃ (acc : List V) (l : List D) (ns1 : List Int), H' A = some (.lst acc) ∧ RpA K (hid H' (A :: M)) acc l ∧ l.length = n + 1 ∧ (∀ x ∈ l, R x) ∧ ExM K p H1 H' ∧ H' p = some (.lst (ns1.map V.int)) ∧ I (n + 1) ns1), fun H' hN => ⟨k - 1, by omega, by omega, hN⟩, fun y H' hy => ?_⟩
      obtain ⟨e2, ry⟩ := yl y H' hy
      have mo3 := mo2.ex e2
      have hex3 := hex.trans e2.m
      have hacc3 : H' A = some (.lst acc) := e2.kp.lst hacc
      have hq3 : H' p = some (.lst (ns1.map V.int)) := e2.kp.lst hq2
      have hr3 := hr.ex (hid_ex (M := A :: M) e2)
      have eA : EOk K (A :: M) H' (keepP ρ i p ns1) σ := by
        obtain ⟨o, eo1, rfl, _⟩ := ev1.get hi
        have := (ev1.dats2 (N' := A :: M) (H2 := H') fun a o q0 nt => by
          obtain ⟨m2, q0⟩ := hid_some q0
          rw [hid_out fun z => (List.mem_cons.mp z).elim (fun z => by rw [z, hA] at q0; cases q0) m2]
          exact hex3.kp a o (fun z => m2 (z ▸ hp)) q0 nt).set (i := i) (s := .own p (ns1.map D.int)) (o := some (.ref p)) ⟨rfl, hpA, _, hq3, RpA.of_ints ns1⟩
        rw [set_self eo1] at this
        exact this
      refine hb.run (A :: M) _ H' y mo3 (EOk.wipe eA vs) ry _ fun σ2 eo hw2 => ⟨(hw2 vs hix).trans wipe_wipe, ?_⟩
      show te σ2 H' _
      refine ht1 (A :: M) σ2 H' mo3 eo hpA hq3 _ fun z H3 d ns2 hP2 x3 q3 rz => ?_
      have hacc4 : H3 A = some (.lst acc) := x3.kp A _ nAp.symm hacc3 fun _ z => nomatch z
      have hr4 : RpA K (hid H3 (A :: M)) acc l := hr3.ex (x3.hid hpA)
      have hex4 : ExM K p H1 H3 := hex3.trans x3
      refine ⟨acc, hacc4, ?_, ?_⟩
      · have h1 := hr4.len
        exact sz_lt (by omega)
      · refine ⟨acc ++ [z], l ++ [d], ns2, upd_same, ?_, ?_, fun y hy => ?_, ⟨fun a o na ha nt => ?_, fun a ha => ?_, fun t => tabs_mut hacc4 True.intro (hex4.tb t)⟩, by rw [upd_ne nAp]; exact q3, hP2.2⟩
        · exact (hr4.app (.cons rz .nil)).ex (hid_upd List.mem_cons_self)
        · rw [List.length_append, hsub]; rfl
        · rcases List.mem_append.mp hy with hy | hy
          · exact hf y hy
          · rw [List.mem_singleton.mp hy]; exact hP2.1
        · have naA : a ≠ A := fun z => by rw [z, hA] at ha; cases ha
          rw [upd_ne naA]
          exact hex4.kp a o na ha nt
        · by_cases z : a = A
          · rw [z, upd_same]; simp
          · rw [upd_ne z]; exact hex4.th a ha
    · have hn' : n = L.length := by omega
      subst hn'
      refine .inl ⟨by have := j.stop H2 kpJ; rw [List.length_map] at this; exact this, q _ H2 _ ns1 (hP l ns1 hsub hf hI) (e1.m.trans hex) hq2 (.lst (by rw [hid_out nAM]; exact hacc) (hr.ex (hid_less fun a ha => List.mem_cons_of_mem _ ha)))⟩
end
theorem h_retEM {K : Cfg} {B : Hp} {M : List Addr} {ρ : Env} {De : Ends} {te : TE} {i : Nat} {p : Addr} {ns : List Int} {P R : D → List Int → Prop} (h : ρ[i]? = some (.own p (ns.map D.int))) (he : EvM K te ρ p ns P) (hR : ∀ d ns', P d ns' → R d ns') (k : RetsM K B M De p R) : Hold K B M ρ (tRet te De) := fun B' b σ H st =>
  he _ σ H st.mok st.ev (List.mem_append_left _ (own_mem h (by simp [Sl.adr]))) (st.ints h) _ fun v H2 d ns' pd x2 q2 r2 => by
    have st2 := st.exM h x2 q2
    refine k v H2 d ns' (hR d ns' pd) (b.trans st2.ex) st2.mo.t q2 (r2.ex (hid_less fun a ha => ?_))
    rcases List.mem_cons.mp ha with rfl | ha
    · exact List.mem_append_left _ (own_mem h (by simp [Sl.adr]))
    · exact List.mem_append_right _ ha
theorem k_join {X : Cx} {o e : Expr} {to te : TE} {apos pos : Pos} (κ : PySem.W.Frag) (h : X.K = κ) (ho : PE X o to) (he : PE X e te) (hs : starEach [e] X.env = [(false, eval e X.env)] := by rfl) (hbase : attributeBase o "join" X.env (eval o X.env) = eval o X.env := by rfl) (hline : (apos.endLine == pos.line) = true := by rfl) :
    PE X (.Call (.Attribute o "join" apos) [e] [] pos) (tM1 (rJoin κ) to te) := h ▸ pe_join ho he hs hbase hline
end Dl
/-! Defs over data that run while no list is being told. -/
namespace Dl
open PySem PySem.Spec PyProof.Rows L2 LamX
theorem units200 {k : Nat} {A : Around} (r : Room k A) : A.units + 200 < cLine := by have := r.un; omega
section
variable {P : Program} {w : World} {K : Cfg} {mg : Str → Option Value} {base : Heap} {x : Str} {st : Stmt} {dvs : List V} {cdv : Value} {f : Addr} {fd : FuncData} {N ps : List Str} {k : Nat}
theorem fn_dG {G : List D → D → Prop} (d : Df K mg x st dvs cdv f fd) (S : FnScope N ps (defScope st))
    (hbody : ∀ (A : Around) (outer : List PySem.Env) (s : Shared) (H : Hp) (E : XK), A.guards = some [] → Room k (A.deeper (envOfC x (defScope st) s.heap.objs.size f cdv)) →
      ∃ t, PSs (cxOf CX0 P w K mg base N x (defScope st) f cdv A outer s H E).nox (defBody st) t ∧ ∀ ds r, ds.length = ps.length → G ds r → ∀ (B : Hp) (M : List Addr) (De : Ends), EndOk K B M De → Rets K B M De r → Hold K B M (startE N.length ds) (t De)) :
    FnOkG P w K mg base (k + 1) f fd ps (spF K ps.length G) := by
  refine fn_anyG d S (fun vs H Q E h => ?_) (fun A outer s H vs Q E hgd hr h => ?_)
  · obtain ⟨M, ds, d, hl, _⟩ := h
    exact hl
  · obtain ⟨M, ds, d, hl, m, r, hG, q⟩ := h
    obtain ⟨t, h1, h2⟩ := hbody A outer s H E hgd hr
    refine ⟨t, h1, h2 ds d (by rw [← r.len]; exact hl) hG H M { nx := fun _ H' => Q .non H', rt := Q, bk := fun _ _ => False, ct := fun _ _ => False } (fun ρ h B b σ H' st => h .non H' (b.trans st.ex) st.mo.t .non) (fun v H2 e t r => q v H2 ⟨e, fun _ => t⟩ r) H (Ge.refl H) _ H (start_ok m r)⟩
theorem FdG.mk' {sp : Sp} {κ : PySem.W.Frag} (F : FnOkG P w κ mg base k f fd ps sp) (d : Df κ mg x st dvs cdv f fd) (b : Binds κ fd ps []) : FdG P w κ mg base k x sp := ⟨f, fd, ps, F, d.mgf, d.kp, b⟩
end
section
variable {K : Cfg} {ρ : Env} {te : TE} {d : D}
/-- what is made of a new thing is told with it -/
theorem ev_callTell {G : List D → D → Prop} {E : XK} {cs : List Addr} (h : EvD K te ρ d) (hG : ∀ (v : V) (H0 : Hp), Rp K H0 v d → G [isD K v d] (.lst (cs.map fun C => .ob (exR C v)))) : EvD K (tCall (spF K 1 G) [] E (tCons te tNil)) ρ (.lst (cs.map fun C => .ob (exV K C d))) := fun M σ H m eo Q q =>
  h M σ H m eo _ fun w H1 e1 r => ⟨M, [isD K w d], .lst (cs.map fun C => .ob (exR C w)), rfl, m.ex e1, .cons (isD_rp r) .nil, hG w _ r, fun v H2 x r2 => q v H2 (e1.trans x) (by
    have rv : Rp K (hid H2 M) w d := r.ex (hid_ex x)
    clear hG q h
    cases r2 with
    | @lst a vs _ h1 h2 =>
      refine .lst h1 ?_
      clear h1
      induction cs generalizing vs with
      | nil => cases h2; exact .nil
      | cons C cs ih =>
        cases h2 with
        | cons a1 a2 =>
          obtain ⟨a, rfl, g⟩ := rp_exR a1
          exact .cons (exV_rp ⟨w, g, rv⟩) (ih a2))⟩
end
end Dl
/-! {k: e}. -/
namespace Dl
open PySem PySem.Spec PyProof.Rows L2 LamX
section
variable {K : Cfg} {ρ : Env} {tk tv te : TE} {d : D} {x : Str}
theorem evV_str (h : EvD K te ρ (.str x)) : EvV K te ρ (.str x) := fun M σ H m e Q q => h M σ H m e _ fun v H1 e1 r => by
  cases r
  exact q H1 e1
theorem evV_C {v : V} : EvV K (tC v) ρ v := fun M σ H m e Q q => q H Ex.refl
/-- {k: e} -/
theorem ev_dispE {k : Key} (hk : EvV K tk ρ (kV k)) (hv : EvD K tv ρ d) : EvD K (tDisp [(tk, tv)]) ρ (.dK [k] [d]) := fun M σ H m e Q q => fun p hp => by
  have e0 : Ex K H (upd H p (.dK [])) := Ex.new hp
  have pm : p ∉ M := m.new hp
  have m1 : MOk K ([p] ++ M) (upd H p (.dK [])) := ⟨fun a ha => by
    rcases List.mem_append.mp ha with ha | ha
    · rw [List.mem_singleton.mp ha, upd_same]; simp
    · exact (m.ex e0).m a ha, (m.ex e0).t⟩
  have ev1 : EOk K ([p] ++ M) (upd H p (.dK [])) ρ σ := e.up e0 (hid_up e0 fun a ha => by rw [List.mem_singleton.mp ha]; exact hp) fun a ha => List.mem_append_right _ ha
  refine hk _ σ _ m1 ev1 _ fun H1 e1 => hv _ σ H1 (m1.ex e1) (ev1.ex e1) _ fun v H2 e2 r => ?_
  have hp2 : H2 p = some (.dK []) := e2.kp.dK (e1.kp.dK upd_same)
  refine ⟨hp2, [(k, v)], rfl, by simp, q _ _ (((e0.trans e1).trans e2).mut hp hp2 True.intro) (.dK (vs := [v]) (by rw [hid_out pm, upd_same]; rfl) rfl (.cons (r.ex fun a o ha _ => ?_) .nil))⟩
  obtain ⟨am, ha⟩ := hid_some ha
  have ap : a ≠ p := fun z => am (by rw [z]; exact List.mem_append_left _ (List.mem_singleton.mpr rfl))
  rw [hid_out fun z => am (List.mem_append_right _ z), upd_ne ap]
  exact ha
end
end Dl
/-! How long a text of data is at most. -/
namespace Dl
open PySem PySem.Spec PyProof.Rows L2 LamX
def okS (x : Str) : Bool := x.cps.all (· < 0x110000)
def kOk : Key → Bool
  | .inl i => decide (i.natAbs.log2 < 1920)
  | .inr x => okS x
def kSz : Key → Nat
  | .inl _ => 1921
  | .inr x => 10 * x.length + 2
mutual
def D.szR : D → Nat
  | .non => 4
  | .bl _ => 5
  | .int _ => 1921
  | .str x => 10 * x.length + 2
  | .lst xs => 2 + D.szRA xs
  | .tup xs => 3 + D.szRA xs
  | .dK ks xs => 2 + ((ks.map kSz).sum + 4 * ks.length) + D.szRA xs
  | .dT _ _ => 4
  | .ob _ => 4
def D.szRA : List D → Nat
  | [] => 0
  | x :: xs => D.szR x + 2 + D.szRA xs
end
mutual
def D.okR : D → Bool
  | .non => true
  | .bl _ => true
  | .int i => decide (i.natAbs.log2 < 1920)
  | .str x => okS x
  | .lst xs => D.okRA xs
  | .tup xs => D.okRA xs
  | .dK ks xs => ks.all kOk && D.okRA xs
  | .dT _ _ => false
  | .ob _ => false
def D.okRA : List D → Bool
  | [] => true
  | x :: xs => D.okR x && D.okRA xs
end
theorem reprS_le {x : Str} (h : okS x = true) : (reprText x).length ≤ 10 * x.length + 2 := StrLaws.reprText_len x fun c hc => by
  unfold okS at h
  rw [← Array.all_toList, List.all_eq_true] at h
  have := of_decide_eq_true (h c hc)
  have e : (0x110000 : Nat) ≤ 16 ^ 8 := by decide
  omega
theorem int_le {i : Int} (h : i.natAbs.log2 < 1920) : ((PyData.int i).shown).length ≤ 1921 := by
  simp only [PyData.shown]
  exact int_text_len_1921 h
theorem join_le (c : Nat) : ∀ ts : List Str, (Str.join ", " ts).length ≤ (ts.map fun t => t.length + 2).sum
  | [] => Nat.zero_le _
  | [x] => by
    show x.length ≤ _
    simp
  | x :: y :: r => by
    show (x ++ ", " ++ Str.join ", " (y :: r)).length ≤ _
    rw [strLen_append, strLen_append, List.map_cons, List.sum_cons]
    have h := join_le c (y :: r)
    have e : (Str.ofString ", ").length = 2 := rfl
    omega
theorem D.rd_kv : ∀ (ks : List Key) (ps : List PyData), (∀ k ∈ ks, kOk k = true) → PyData.showableAll ps = true → PyData.showableKv ((ks.map kP).zip ps) = true ∧ ((PyData.shownKv ((ks.map kP).zip ps)).map fun t => t.length + 2).sum ≤ (ks.map kSz).sum + 4 * ks.length + ((PyData.shownAll ps).map fun t => t.length + 2).sum
  | [], ps, _, _ => ⟨rfl, Nat.zero_le _⟩
  | k :: ks, [], _, _ => ⟨rfl, Nat.zero_le _⟩
  | k :: ks, p :: ps, h1, h2 => by
    have h2' : p.showable = true ∧ PyData.showableAll ps = true := by simpa [PyData.showableAll] using h2
    obtain ⟨g1, g2⟩ := D.rd_kv ks ps (fun k hk => h1 k (List.mem_cons_of_mem _ hk)) h2'.2
    have hk := h1 k List.mem_cons_self
    have kk : (kP k).showable = true ∧ (kP k).shown.length ≤ kSz k := by
      cases k with
      | inl i =>
        have h' : i.natAbs.log2 < 1920 := by simpa [kOk] using hk
        exact ⟨by simpa [kP, PyData.showable] using h', int_le h'⟩
      | inr x => exact ⟨rfl, by simp only [kP, PyData.shown, kSz]; exact reprS_le hk⟩
    refine ⟨by simp [PyData.showableKv, kk.1, h2'.1, g1], ?_⟩
    simp only [List.map_cons, List.zip_cons_cons, PyData.shownKv, PyData.shownAll, List.sum_cons, List.length_cons]
    rw [strLen_append, strLen_append]
    have e1 : (Str.ofString ": ").length = 2 := rfl
    have := kk.2
    omega
mutual
theorem D.rd_facts : ∀ d : D, d.okR = true → d.rdOk = true ∧ d.rd.showable = true ∧ d.rd.shown.length ≤ d.szR
  | .non, _ => ⟨rfl, rfl, by show (Str.ofString "None").length ≤ 4; decide⟩
  | .bl b, _ => ⟨rfl, rfl, by cases b <;> simp only [D.rd, PyData.shown, D.szR] <;> decide⟩
  | .int i, h => by
    have h' : i.natAbs.log2 < 1920 := by simpa [D.okR] using h
    exact ⟨rfl, by simpa [D.rd, PyData.showable] using h', int_le h'⟩
  | .str x, h => ⟨rfl, rfl, by simp only [D.rd, PyData.shown, D.szR]; exact reprS_le h⟩
  | .dT _ _, h => by cases h
  | .ob _, h => by cases h
  | .lst xs, h => by
    obtain ⟨h1, h2, h3⟩ := D.rd_factsA xs (by simpa [D.okR] using h)
    refine ⟨by simpa [D.rdOk] using h1, by simpa [D.rd, PyData.showable] using h2, ?_⟩
    simp only [D.rd, PyData.shown, D.szR]
    rw [listText_eq_join, strLen_append, strLen_append]
    have e1 : (Str.ofString "[").length = 1 := rfl
    have e2 : (Str.ofString "]").length = 1 := rfl
    have := join_le 0 (PyData.shownAll (D.rdA xs))
    omega
  | .tup xs, h => by
    obtain ⟨h1, h2, h3⟩ := D.rd_factsA xs (by simpa [D.okR] using h)
    refine ⟨by simpa [D.rdOk] using h1, by simpa [D.rd, PyData.showable] using h2, ?_⟩
    simp only [D.rd, PyData.shown, D.szR]
    unfold tupleText
    rw [strLen_append, strLen_append]
    have e1 : (Str.ofString "(").length = 1 := rfl
    have e2 : (Str.ofString (if (PyData.shownAll (D.rdA xs)).length == 1 then ",)" else ")")).length ≤ 2 := by split <;> decide
    have := join_le 0 (PyData.shownAll (D.rdA xs))
    omega
  | .dK ks xs, h => by
    have h' : (∀ k ∈ ks, kOk k = true) ∧ D.okRA xs = true := by simpa [D.okR] using h
    obtain ⟨h1, h2, h3⟩ := D.rd_factsA xs h'.2
    have kz := D.rd_kv ks (D.rdA xs) h'.1 h2
    refine ⟨by simpa [D.rdOk] using h1, by simpa [D.rd, PyData.showable] using kz.1, ?_⟩
    simp only [D.rd, PyData.shown, D.szR]
    unfold dictText
    rw [strLen_append, strLen_append]
    have e1 : (Str.ofString "{").length = 1 := rfl
    have e2 : (Str.ofString "}").length = 1 := rfl
    have := join_le 0 (PyData.shownKv ((ks.map kP).zip (D.rdA xs)))
    have := kz.2
    omega
theorem D.rd_factsA : ∀ ds : List D, D.okRA ds = true → D.rdOkA ds = true ∧ PyData.showableAll (D.rdA ds) = true ∧ ((PyData.shownAll (D.rdA ds)).map fun t => t.length + 2).sum ≤ D.szRA ds
  | [], _ => ⟨rfl, rfl, Nat.le_refl _⟩
  | d :: ds, h => by
    have h' : d.okR = true ∧ D.okRA ds = true := by simpa [D.okRA] using h
    obtain ⟨h1, h2, h3⟩ := D.rd_facts d h'.1
    obtain ⟨g1, g2, g3⟩ := D.rd_factsA ds h'.2
    refine ⟨by simp [D.rdOkA, h1, g1], by simp [D.rdA, PyData.showableAll, h2, g2], ?_⟩
    simp only [D.rdA, PyData.shownAll, List.map_cons, List.sum_cons, D.szRA]
    omega
end
end Dl
/-! Blocks, groupings: words of the mathematics and how they stand as data. -/
namespace Dl
open PySem L2
abbrev Bk := Int × Int
def tI (p : Bk) : D := .tup [.int p.1, .int p.2]
def gD (g : List Bk) : D := .lst (g.map tI)
/-! ### equality -/
theorem eq_int (a b : Int) : D.eq (.int a) (.int b) = decide (a = b) := by
  unfold D.eq
  simp only [D.pd, PyData.eqv]
  by_cases h : a = b <;> simp [h]
theorem eq_tI (p q : Bk) : D.eq (tI p) (tI q) = decide (p = q) := by
  unfold D.eq tI
  simp only [D.pd, D.pdA, PyData.eqv, PyData.eqvAll]
  by_cases h1 : p.1 = q.1
  · by_cases h2 : p.2 = q.2
    · have : p = q := Prod.ext h1 h2
      simp [this]
    · have : ¬ p = q := fun z => h2 (by rw [z])
      simp [h1, h2, this]
  · have : ¬ p = q := fun z => h1 (by rw [z])
    simp [h1, this]
theorem eq_self {d : D} {n : Nat} (h : d.ok n = true) : D.eq d d = true := PySem.SeqAt.eqv_refl d.pd (D.lay d n h).1
theorem ok_tI (p : Bk) {n : Nat} (h : 1 ≤ n := by decide) : (tI p).ok n = true := by
  cases n with
  | zero => omega
  | succ n => simp [tI, D.ok, D.okA]
theorem okA_tI (g : List Bk) {n : Nat} (h : 1 ≤ n := by decide) : D.okA (g.map tI) n = true := D.okA_iff.mpr fun x hx => by
  obtain ⟨p, _, rfl⟩ := List.mem_map.mp hx
  exact ok_tI p h
theorem ok_int (i : Int) (n : Nat) : (D.int i).ok n = true := by cases n <;> rfl
theorem okA_int (l : List Int) {n : Nat} : D.okA (l.map D.int) n = true := D.okA_iff.mpr fun x hx => by
  obtain ⟨p, _, rfl⟩ := List.mem_map.mp hx
  exact ok_int p n
theorem any_tI (g : List Bk) (p : Bk) : ((g.map tI).any fun z => D.eq z (tI p)) = decide (p ∈ g) := by
  rw [Bool.eq_iff_iff]
  simp only [List.any_map, List.any_eq_true, Function.comp, eq_tI, decide_eq_true_eq]
  exact ⟨fun ⟨x, hx, e⟩ => e ▸ hx, fun h => ⟨p, h, rfl⟩⟩
theorem eq_nil_ints (l : List Int) : D.eq (.lst (l.map D.int)) (.lst []) = decide (l = []) := by
  cases l with
  | nil => rfl
  | cons x l => simp [D.eq, D.pd, D.pdA, PyData.eqv, PyData.eqvAll]
theorem eq_nil_tI (l : List Bk) : D.eq (.lst (l.map tI)) (.lst []) = decide (l = []) := by
  cases l with
  | nil => rfl
  | cons x l => simp [D.eq, D.pd, D.pdA, PyData.eqv, PyData.eqvAll]
/-! ### counts, spans -/
def cntB : D → D → Bool
  | .int i, .int m => decide (0 ≤ i) && decide (i ≤ m)
  | .int i, .non => decide (0 ≤ i)
  | _, _ => false
def spanB (n : Int) (p : Bk) : Bool := decide (0 ≤ p.1) && (decide (0 ≤ p.2) && (decide (p.1 < p.2) && decide (p.2 ≤ n)))
def apartB (p q : Bk) : Bool := (decide (p.2 ≤ q.1) || decide (q.2 ≤ p.1)) || ((decide (p.1 ≤ q.1) && decide (q.2 ≤ p.2)) || (decide (q.1 ≤ p.1) && decide (p.2 ≤ q.2)))
def ltB (p q : Bk) : Bool := HT.lexLt [p.1, p.2] [q.1, q.2]
def ascB (g : List Bk) : Bool := (g.zip (g.drop 1)).all fun p => ltB p.1 p.2
def igB (n : Int) (g : List Bk) : Bool := (decide ((g.length : Int) + 1 = n) && g.all (spanB n)) && ((!g.any fun p => decide (p.2 - p.1 < 2)) && (ascB g && g.all fun p => g.all fun q => apartB p q))
def cutF (g : List Bk) (a b : Int) : Int := mxD (a + 1) ((g.filter fun p => decide (p.1 = a) && decide (p.2 < b)).map (·.2))
def halfA (g : List Bk) (p : Bk) : Bk := (p.1, cutF g p.1 p.2)
def halfB (g : List Bk) (p : Bk) : Bk := (cutF g p.1 p.2, p.2)
def inB (p q : Bk) : Bool := decide (p.1 ≤ q.1) && decide (q.2 ≤ p.2)
def depF (g : List Bk) (p : Bk) : Int := ((g.filter fun q => inB q p).length : Int) - 1
def kB (p : Bk) : List Key := [.inl p.1, .inl p.2]
theorem kB_inj {p q : Bk} (h : kB p = kB q) : p = q := by
  simp only [kB, List.cons.injEq, Sum.inl.injEq, and_true] at h
  exact Prod.ext h.1 h.2
def depsD (g : List Bk) : D := .dT (g.map kB) (g.map fun p => .int (depF g p))
end Dl
/-! The defs of the text by their places, their frames, how their arguments bind. -/
namespace Dl
open PySem PySem.Spec PyProof.Rows L2 LamX
structure Mg (mg : Str → Option Value) : Prop where
  len_ : mg "len" = none
  all_ : mg "all" = none
  any_ : mg "any" = none
  sum_ : mg "sum" = none
  max_ : mg "max" = none
  min_ : mg "min" = none
  isinstance_ : mg "isinstance" = none
  sorted_ : mg "sorted" = none
  list_ : mg "list" = none
  int_ : mg "int" = none
  str_ : mg "str" = none
  range_ : mg "range" = none
  enumerate_ : mg "enumerate" = none
  zip_ : mg "zip" = none
  tuple_ : mg "tuple" = none
  bool_ : mg "bool" = none
  dict_ : mg "dict" = none
  repr_ : mg "repr" = none
  ValueError_ : mg "ValueError" = none
abbrev N__law_purse : List Str := ["_law_script", "_law_at", "_law_seed"]
theorem sc__law_purse : FnScope N__law_purse ["_law_script", "_law_at"] (defScope s__law_purse) := ⟨rfl, rfl, rfl, by decide +kernel, rfl, by decide +kernel, by decide +kernel⟩
theorem bd__law_purse {κ : PySem.W.Frag} {mg : Str → Option Value} {cdv : Value} {f : Addr} {fd : FuncData} (d : Df κ mg "_law_purse" s__law_purse [] cdv f fd) : Binds κ fd ["_law_script", "_law_at"] [] := d.d.bindsN fun _ _ _ _ _ _ us hl => match us, hl with | [_, _], _ => rfl
abbrev N__law_mixed : List Str := ["_law_seed", "_law_turn", "_law_at", "_law_mixed_here"]
theorem sc__law_mixed : FnScope N__law_mixed ["_law_seed", "_law_turn", "_law_at"] (defScope s__law_mixed) := ⟨rfl, rfl, rfl, by decide +kernel, rfl, by decide +kernel, by decide +kernel⟩
theorem bd__law_mixed {κ : PySem.W.Frag} {mg : Str → Option Value} {cdv : Value} {f : Addr} {fd : FuncData} (d : Df κ mg "_law_mixed" s__law_mixed [] cdv f fd) : Binds κ fd ["_law_seed", "_law_turn", "_law_at"] [] := d.d.bindsN fun _ _ _ _ _ _ us hl => match us, hl with | [_, _, _], _ => rfl
abbrev N__law_draw : List Str := ["_law_purse_here", "_law_many", "_law_drawn", "_law_found", "_law_piece"]
theorem sc__law_draw : FnScope N__law_draw ["_law_purse_here", "_law_many"] (defScope s__law_draw) := ⟨rfl, rfl, rfl, by decide +kernel, rfl, by decide +kernel, by decide +kernel⟩
theorem bd__law_draw {κ : PySem.W.Frag} {mg : Str → Option Value} {cdv : Value} {f : Addr} {fd : FuncData} (d : Df κ mg "_law_draw" s__law_draw [] cdv f fd) : Binds κ fd ["_law_purse_here", "_law_many"] [] := d.d.bindsN fun _ _ _ _ _ _ us hl => match us, hl with | [_, _], _ => rfl
abbrev N__law_purses : List Str := ["_law_script", "_law_few", "_law_at"]
theorem sc__law_purses : FnScope N__law_purses ["_law_script", "_law_few"] (defScope s__law_purses) := ⟨rfl, rfl, rfl, by decide +kernel, rfl, by decide +kernel, by decide +kernel⟩
theorem bd__law_purses {κ : PySem.W.Frag} {mg : Str → Option Value} {cdv : Value} {f : Addr} {fd : FuncData} (d : Df κ mg "_law_purses" s__law_purses [] cdv f fd) : Binds κ fd ["_law_script", "_law_few"] [] := d.d.bindsN fun _ _ _ _ _ _ us hl => match us, hl with | [_, _], _ => rfl
abbrev N__law_one_of : List Str := ["_law_purse_here", "_law_some"]
theorem sc__law_one_of : FnScope N__law_one_of ["_law_purse_here", "_law_some"] (defScope s__law_one_of) := ⟨rfl, rfl, rfl, by decide +kernel, rfl, by decide +kernel, by decide +kernel⟩
theorem bd__law_one_of {κ : PySem.W.Frag} {mg : Str → Option Value} {cdv : Value} {f : Addr} {fd : FuncData} (d : Df κ mg "_law_one_of" s__law_one_of [] cdv f fd) : Binds κ fd ["_law_purse_here", "_law_some"] [] := d.d.bindsN fun _ _ _ _ _ _ us hl => match us, hl with | [_, _], _ => rfl
abbrev N__law_word : List Str := ["_law_purse_here", "_law_size", "_law_turn"]
theorem sc__law_word : FnScope N__law_word ["_law_purse_here"] (defScope s__law_word) := ⟨rfl, rfl, rfl, by decide +kernel, rfl, by decide +kernel, by decide +kernel⟩
theorem bd__law_word {κ : PySem.W.Frag} {mg : Str → Option Value} {cdv : Value} {f : Addr} {fd : FuncData} (d : Df κ mg "_law_word" s__law_word [] cdv f fd) : Binds κ fd ["_law_purse_here"] [] := d.d.bindsN fun _ _ _ _ _ _ us hl => match us, hl with | [_], _ => rfl
abbrev N__law_first : List Str := ["_law_thing", "_law_found"]
theorem sc__law_first : FnScope N__law_first ["_law_thing"] (defScope s__law_first) := ⟨rfl, rfl, rfl, by decide +kernel, rfl, by decide +kernel, by decide +kernel⟩
theorem bd__law_first {κ : PySem.W.Frag} {mg : Str → Option Value} {cdv : Value} {f : Addr} {fd : FuncData} (d : Df κ mg "_law_first" s__law_first [] cdv f fd) : Binds κ fd ["_law_thing"] [] := d.d.bindsN fun _ _ _ _ _ _ us hl => match us, hl with | [_], _ => rfl
abbrev N__law_called : List Str := ["_law_thing", "_law_found"]
theorem sc__law_called : FnScope N__law_called ["_law_thing"] (defScope s__law_called) := ⟨rfl, rfl, rfl, by decide +kernel, rfl, by decide +kernel, by decide +kernel⟩
theorem bd__law_called {κ : PySem.W.Frag} {mg : Str → Option Value} {cdv : Value} {f : Addr} {fd : FuncData} (d : Df κ mg "_law_called" s__law_called [] cdv f fd) : Binds κ fd ["_law_thing"] [] := d.d.bindsN fun _ _ _ _ _ _ us hl => match us, hl with | [_], _ => rfl
abbrev N__law_bare : List Str := ["_law_found"]
theorem sc__law_bare : FnScope N__law_bare [] (defScope s__law_bare) := ⟨rfl, rfl, rfl, by decide +kernel, rfl, by decide +kernel, by decide +kernel⟩
theorem bd__law_bare {κ : PySem.W.Frag} {mg : Str → Option Value} {cdv : Value} {f : Addr} {fd : FuncData} (d : Df κ mg "_law_bare" s__law_bare [] cdv f fd) : Binds κ fd [] [] := d.d.bindsN fun _ _ _ _ _ _ us hl => match us, hl with | [], _ => rfl
abbrev N__law_code : List Str := ["_law_error", "_law_found", "_law_at"]
theorem sc__law_code : FnScope N__law_code ["_law_error"] (defScope s__law_code) := ⟨rfl, rfl, rfl, by decide +kernel, rfl, by decide +kernel, by decide +kernel⟩
theorem bd__law_code {κ : PySem.W.Frag} {mg : Str → Option Value} {cdv : Value} {f : Addr} {fd : FuncData} (d : Df κ mg "_law_code" s__law_code [] cdv f fd) : Binds κ fd ["_law_error"] [] := d.d.bindsN fun _ _ _ _ _ _ us hl => match us, hl with | [_], _ => rfl
abbrev N__law_is_error : List Str := ["_law_error"]
theorem sc__law_is_error : FnScope N__law_is_error ["_law_error"] (defScope s__law_is_error) := ⟨rfl, rfl, rfl, by decide +kernel, rfl, by decide +kernel, by decide +kernel⟩
theorem bd__law_is_error {κ : PySem.W.Frag} {mg : Str → Option Value} {cdv : Value} {f : Addr} {fd : FuncData} (d : Df κ mg "_law_is_error" s__law_is_error [] cdv f fd) : Binds κ fd ["_law_error"] [] := d.d.bindsN fun _ _ _ _ _ _ us hl => match us, hl with | [_], _ => rfl
abbrev N__law_right : List Str := ["_law_some", "_law_noted", "_law_error", "_law_at"]
theorem sc__law_right : FnScope N__law_right ["_law_some", "_law_noted"] (defScope s__law_right) := ⟨rfl, rfl, rfl, by decide +kernel, rfl, by decide +kernel, by decide +kernel⟩
theorem bd__law_right {κ : PySem.W.Frag} {mg : Str → Option Value} {cdv : Value} {f : Addr} {fd : FuncData} (d : Df κ mg "_law_right" s__law_right [] cdv f fd) : Binds κ fd ["_law_some", "_law_noted"] [] := d.d.bindsN fun _ _ _ _ _ _ us hl => match us, hl with | [_, _], _ => rfl
abbrev N_law : List Str := ["_law_script", "_law_purse_here", "_law_word_here", "_law_plain", "_law_thing", "_law_noted", "_law_some", "_law_called_here", "_law_later", "_law_rest", "_law_error"]
theorem sc_law : FnScope N_law ["_law_script"] (defScope s_law) := ⟨rfl, rfl, rfl, by decide +kernel, rfl, by decide +kernel, by decide +kernel⟩
theorem bd_law {κ : PySem.W.Frag} {mg : Str → Option Value} {cdv : Value} {f : Addr} {fd : FuncData} (d : Df κ mg "law" s_law [] cdv f fd) : Binds κ fd ["_law_script"] [] := d.d.bindsN fun _ _ _ _ _ _ us hl => match us, hl with | [_], _ => rfl
abbrev tyInt : "int" = "int" ∨ "int" = "bool" ∨ "int" = "str" ∨ "int" = "list" ∨ "int" = "tuple" ∨ "int" = "dict" := .inl rfl
abbrev tyBool : "bool" = "int" ∨ "bool" = "bool" ∨ "bool" = "str" ∨ "bool" = "list" ∨ "bool" = "tuple" ∨ "bool" = "dict" := .inr (.inl rfl)
abbrev tyList : "list" = "int" ∨ "list" = "bool" ∨ "list" = "str" ∨ "list" = "list" ∨ "list" = "tuple" ∨ "list" = "dict" := .inr (.inr (.inr (.inl rfl)))
abbrev tyTuple : "tuple" = "int" ∨ "tuple" = "bool" ∨ "tuple" = "str" ∨ "tuple" = "list" ∨ "tuple" = "tuple" ∨ "tuple" = "dict" := .inr (.inr (.inr (.inr (.inl rfl))))
abbrev tyDict : "dict" = "int" ∨ "dict" = "bool" ∨ "dict" = "str" ∨ "dict" = "list" ∨ "dict" = "tuple" ∨ "dict" = "dict" := .inr (.inr (.inr (.inr (.inr rfl))))
end Dl
/-! The purse: what is drawn; a grouping grown. -/
namespace Dl
open PySem PySem.Spec PyProof.Rows L2 LamX RZ
theorem rangeD_at {n i : Nat} {d : D} (h : ((List.range n).map fun i : Nat => D.int ((0 : Int) + (i : Int)))[i]? = some d) : i < n ∧ d = .int (i : Int) := by
  rw [List.getElem?_map] at h
  by_cases hi : i < n
  · rw [List.getElem?_range hi] at h
    exact ⟨hi, (Option.some.inj h).symm.trans (by show D.int (0 + (i : Int)) = _; rw [Int.zero_add])⟩
  · rw [List.getElem?_eq_none (by simpa using hi)] at h
    cases h
def mix1 (s t a : Int) : Int := (s * 69069 + 104729 * t * t + 7919 * a + t) % 2147483647
def mix2 (s t a : Int) : Int := (mix1 s t a * mix1 s t a + 40503) % 2147483629
def mixF (s t a : Int) : Int := (mix2 s t a * 48271) % 2147483587
structure PurseOk (b : Int) (ns : List Int) : Prop where
  ex : ∃ g s t a, ns = [g, s, t, a] ∧ 0 ≤ g ∧ 0 ≤ s ∧ s < 2147483629 ∧ 0 ≤ t ∧ t ≤ b ∧ 0 ≤ a ∧ a ≤ 63
section
variable {P : Program} {w : World} {K : Cfg} {mg : Str → Option Value} {base : Heap} {f : Addr} {fd : FuncData} {cdv : Value}
def G_mixed (ds : List D) (r : D) : Prop := ∃ s t a : Int, ds = [.int s, .int t, .int a] ∧ (0 ≤ s ∧ s < 2147483629) ∧ (0 ≤ t ∧ t ≤ 1000000) ∧ (0 ≤ a ∧ a ≤ 63) ∧ r = .int (mixF s t a)
theorem ev_mul {ρ : Env} {ta tb : TE} {i j : Int} (ha : EvD K ta ρ (.int i)) (hb : EvD K tb ρ (.int j)) (h : CMul i j) : EvD K (tOp (rI CMul fun i j => .int (i * j)) ta tb) ρ (.int (i * j)) := ev_opC ha hb h fun _ => .int _
theorem ev_add {ρ : Env} {ta tb : TE} {i j : Int} (ha : EvD K ta ρ (.int i)) (hb : EvD K tb ρ (.int j)) : EvD K (tOp (rI0 fun i j => .int (i + j)) ta tb) ρ (.int (i + j)) := ev_opI ha hb fun _ => .int _
theorem ev_sub {ρ : Env} {ta tb : TE} {i j : Int} (ha : EvD K ta ρ (.int i)) (hb : EvD K tb ρ (.int j)) : EvD K (tOp (rI0 fun i j => .int (i - j)) ta tb) ρ (.int (i - j)) := ev_opI ha hb fun _ => .int _
theorem ev_mod {ρ : Env} {ta tb : TE} {i j : Int} (ha : EvD K ta ρ (.int i)) (hb : EvD K tb ρ (.int j)) (h : 0 < j) : EvD K (tOp (rI (fun _ j => 0 < j) fun i j => .int (i % j)) ta tb) ρ (.int (i % j)) := ev_opC ha hb h fun _ => .int _
theorem ev_div {ρ : Env} {ta tb : TE} {i j : Int} (ha : EvD K ta ρ (.int i)) (hb : EvD K tb ρ (.int j)) (h : CDiv i j) : EvD K (tOp (rI CDiv fun i j => .int (i / j)) ta tb) ρ (.int (i / j)) := ev_opC ha hb h fun _ => .int _
theorem cmulR {i j : Int} (h : 0 ≤ j ∧ j < 2 ^ 63) : CMul i j := .inr ⟨by omega, by omega⟩
theorem f__law_mixed (d : Df K mg "_law_mixed" s__law_mixed [] cdv f fd) (mm : Mg mg) : Fd P w K mg base 1 "_law_mixed" (spF K 3 G_mixed) [] :=
  Fd.mk' (fn_d (k := 0) d sc__law_mixed fun A outer s H E hr => ⟨_, (by have sc := sc__law_mixed; exact (pss_cons (ps_set (i := 3) sc.nd (by rfl) (by first | exact Or.inl rfl | exact Or.inr rfl) (pe_op op_add (pe_op op_mul (pv 0) pe_int) (pe_op op_mul (pe_op op_mul pe_int (pv 1)) (pv 1))))
      (pss_cons (ps_set (i := 3) sc.nd (by rfl) (by first | exact Or.inl rfl | exact Or.inr rfl) (pe_op op_mod (pe_callTy call_int1 (by rfl) mm.int_ (by rfl) (pa_cons (pe_op op_add (pe_op op_add (pv 3) (pe_op op_mul pe_int (pv 2))) (pv 1)) pa_nil)) pe_int))
      (pss_cons (ps_set (i := 3) sc.nd (by rfl) (by first | exact Or.inl rfl | exact Or.inr rfl) (pe_op op_mod (pe_callTy call_int1 (by rfl) mm.int_ (by rfl) (pa_cons (pe_op op_add (pe_op op_mul (pv 3) (pv 3)) pe_int) pa_nil)) pe_int))
      (pss_one (ps_ret (pe_op op_mod (pe_callTy call_int1 (by rfl) mm.int_ (by rfl) (pa_cons (pe_op op_mul (pv 3) pe_int) pa_nil)) pe_int))))))), fun ds r hl hG B M De hE hR => by
    obtain ⟨s, t, a, rfl, hs, ht, ha, rfl⟩ := hG
    refine q_set (ev_add (ev_mul (ev_var (d := .int s) rfl) ev_int (cmulR (by decide))) (ev_mul (ev_mul ev_int (ev_var (d := .int t) rfl) (cmulR (by omega))) (ev_var (d := .int t) rfl) (cmulR (by omega)))) ?_
    refine q_set (d := .int (mix1 s t a)) (ev_mod (ev_toInt rfl (ev_add (ev_add (ev_var rfl) (ev_mul ev_int (ev_var (d := .int a) rfl) (cmulR (by omega)))) (ev_var (d := .int t) rfl))) ev_int (by decide)) ?_
    have h1 : 0 ≤ mix1 s t a ∧ mix1 s t a < 2147483647 := ⟨Int.emod_nonneg _ (by decide), Int.emod_lt_of_pos _ (by decide)⟩
    refine q_set (d := .int (mix2 s t a)) (ev_mod (ev_toInt rfl (ev_add (ev_mul (ev_var rfl) (ev_var rfl) (cmulR (by omega))) ev_int)) ev_int (by decide)) ?_
    exact h_ret (ev_mod (ev_toInt rfl (ev_mul (ev_var rfl) ev_int (cmulR (by decide)))) ev_int (by decide)) hR⟩) d (bd__law_mixed d) .nil
def okDraw (ns : List Int) (ds : List D) : Prop := ∃ (b n : Int), PurseOk b ns ∧ b ≤ 900000 ∧ ds = [.int n] ∧ 1 ≤ n ∧ n ≤ 1000
def G_draw (ns : List Int) (ds : List D) (r : D) (ns' : List Int) : Prop := ∀ (b n : Int), PurseOk b ns → ds = [.int n] → ∃ j, r = .int j ∧ 0 ≤ j ∧ j < n ∧ PurseOk (b + 5) ns'
theorem bits_le {n : Int} (h : 1 ≤ n ∧ n ≤ 1000) : (Builtin.Int.intBits n : Nat) ≤ 64 := intBits_le_64 (by omega) (by omega)
theorem f__law_draw (d : Df K mg "_law_draw" s__law_draw [] cdv f fd) (mm : Mg mg) (c__law_mixed : Fd P w K mg base 1 "_law_mixed" (spF K 3 G_mixed) []) : Fd P w K mg base 2 "_law_draw" (spM K 1 G_draw okDraw) [] :=
  Fd.mk' (fn_m (k := 1) d sc__law_draw rfl fun A outer s H E hr => ⟨_, (by have sc := sc__law_draw; exact (pss_cons (ps_if (pt_cmpR op_gt (pe_ix (k_ixL K.K (by rfl)) (pv 0) pe_int (fun _ _ => rfl)) pe_int (nomark _)) (pss_cons (ps_set (i := 2) sc.nd (by rfl) (by first | exact Or.inl rfl | exact Or.inr rfl) (pe_op op_mod (pe_callTy call_int1 (by rfl) mm.int_ (by rfl) (pa_cons (pe_ix (k_ixL K.K (by rfl)) (pv 0) pe_int (fun _ _ => rfl)) pa_nil)) (pv 1)))
      (pss_cons (ps_asg (pe_op op_fdiv (pe_ix (k_ixL K.K (by rfl)) (pv 0) pe_int (fun _ _ => rfl)) (pv 1)) (pg_sub (pv 0) pe_int set_list))
      (pss_one (ps_ret (pv 2))))) pss_nil)
      (pss_cons (ps_set (i := 3) sc.nd (by rfl) (by first | exact Or.inl rfl | exact Or.inr rfl) pe_int)
      (pss_cons (ps_for PassesOwn.never rfl (pi_range1 (by rfl) mm.range_ (pa_cons (pe_op op_add pe_int (pe_op op_fdiv (pe_bits (pv 1)) pe_int)) pa_nil)) (pg_name (i := 4) sc.nd (by rfl) (by first | exact Or.inl rfl | exact Or.inr rfl)) (pss_cons (ps_asg (pe_op op_add (pe_ix (k_ixL K.K (by rfl)) (pv 0) pe_int (fun _ _ => rfl)) pe_int) (pg_sub (pv 0) pe_int set_list))
      (pss_one (ps_set (i := 3) sc.nd (by rfl) (by first | exact Or.inl rfl | exact Or.inr rfl) (pe_op op_add (pe_op op_mul (pv 3) pe_int) (pe_f c__law_mixed hr (by omega) (by rfl) (pa_cons (pe_ix (k_ixL K.K (by rfl)) (pv 0) pe_int (fun _ _ => rfl)) (pa_cons (pe_ix (k_ixL K.K (by rfl)) (pv 0) pe_int (fun _ _ => rfl)) (pa_cons (pe_ix (k_ixL K.K (by rfl)) (pv 0) pe_int (fun _ _ => rfl)) pa_nil)))))))))
      (pss_one (ps_ret (pe_op op_mod (pe_callTy call_int1 (by rfl) mm.int_ (by rfl) (pa_cons (pv 3) pa_nil)) (pv 1)))))))), fun p ns ds hl hok B M De hR => by
    obtain ⟨b, n, ⟨g, s, t, a, rfl, hg, hs, hs2, ht, htb, ha, ha2⟩, hb, rfl, hn, hn2⟩ := hok
    have ix : ∀ (ρ : Env) (j : Nat) (ns : List Int) (z : Int), ρ[0]? = some (.own p (ns.map D.int)) → ns[j]? = some z → EvD K (tOp (rIxL K) (tVar 0) (tC (.int j))) ρ (.int z) := fun ρ j ns z h hz => ev_ixL (el_own h) ev_int (atI_nat (by rw [List.getElem?_map, hz]; rfl))
    refine q_if (et_test (ev_opI (z := .bl (decide (0 < g))) (ix _ 0 [g, s, t, a] g rfl rfl) ev_int fun _ => .bl _)) (fun h => ?_) fun h => ?_
    · refine q_set (d := .int (g % n)) (ev_mod (ev_toInt rfl (ix _ 0 [g, s, t, a] g rfl rfl)) (ev_var rfl) (by omega)) ?_
      refine q_store (k := 0) (ns := [g, s, t, a]) (x := g / n) rfl (ev_div (ix _ 0 [g, s, t, a] g rfl rfl) (ev_var rfl) ⟨by omega, by omega⟩) (show 0 < 4 by decide) ?_
      refine h_retM (i := 0) (p := p) (ns := [g / n, s, t, a]) rfl (ev_var rfl) (fun b' n' hb' e => ?_) hR
      cases e
      obtain ⟨g', s', t', a', e', h1, h2, h3, h4, h5, h6, h7⟩ := hb'.ex
      cases e'
      exact ⟨g % n, rfl, Int.emod_nonneg _ (by omega), Int.emod_lt_of_pos _ (by omega), ⟨g / n, s, t, a, rfl, Int.ediv_nonneg hg (by omega), hs, hs2, ht, by omega, ha, ha2⟩⟩
    · refine q_set (d := .int 0) ev_int ?_
      have hc : (Builtin.Int.intBits n : Nat) ≤ 64 := bits_le ⟨hn, hn2⟩
      generalize hcc : (1 + ((Builtin.Int.intBits n : Nat) : Int) / 28) = c
      have hc1 : 1 ≤ c ∧ c ≤ 3 := by omega
      refine q_for (xs := (List.range c.toNat).map fun i : Nat => D.int ((0 : Int) + (i : Int))) (fun i ρ => ∃ (x2 : Sl) (q : Int) (x4 : Sl), ρ = [.own p ([g, s, t + i, a].map D.int), .dat (.int n), x2, .dat (.int q), x4]) (src_rng1 (ea_cons ((ev_add ev_int (ev_div (ev_bits (ev_var rfl)) ev_int ⟨by decide, by decide⟩)).cast (by rw [← hcc])) ea_nil) ⟨by omega, by omega⟩) ⟨.no, 0, .no, by rw [show t + ((0 : Nat) : Int) = t by omega]; rfl⟩ (fun B' hB i dd ρ1 hd hI => ?_) fun ρ1 hI => ?_
      · obtain ⟨x2, q, x4, rfl⟩ := hI
        obtain ⟨hi, rfl⟩ := rangeD_at hd
        refine ⟨_, _, b_name, ?_⟩
        refine q_store (k := 2) (ns := [g, s, t + i, a]) (x := t + i + 1) rfl (ev_add (ix _ 2 [g, s, t + i, a] (t + i) rfl rfl) ev_int) (show 2 < 4 by decide) ?_
        refine h_set (d := .int (q * 2147483587 + mixF s (t + i + 1) a)) (ev_add (ev_mul (ev_var rfl) ev_int (cmulR (by decide))) (ev_call0 (ea_cons (ix _ 1 [g, s, t + i + 1, a] s rfl rfl) (ea_cons (ix _ 2 [g, s, t + i + 1, a] (t + i + 1) rfl rfl) (ea_cons (ix _ 3 [g, s, t + i + 1, a] a rfl rfl) ea_nil))) rfl ⟨s, t + i + 1, a, rfl, ⟨hs, hs2⟩, ⟨by omega, by omega⟩, ⟨ha, ha2⟩, rfl⟩)) (h_end ⟨_, _, _, by rw [show t + ((i + 1 : Nat) : Int) = t + i + 1 by omega]; rfl⟩)
      · obtain ⟨x2, q, x4, rfl⟩ := hI
        rw [List.length_map, List.length_range]
        refine h_retM (i := 0) (p := p) (ns := [g, s, t + ((c.toNat : Nat) : Int), a]) rfl (ev_mod (ev_toInt rfl (ev_var rfl)) (ev_var rfl) (by omega)) (fun b' n' hb' e => ?_) hR
        cases e
        obtain ⟨g', s', t', a', e', h1, h2, h3, h4, h5, h6, h7⟩ := hb'.ex
        cases e'
        exact ⟨_, rfl, Int.emod_nonneg _ (by omega), Int.emod_lt_of_pos _ (by omega), ⟨g, s, _, a, rfl, hg, hs, hs2, by omega, by omega, ha, ha2⟩⟩⟩) d (bd__law_draw d) .nil
end
end Dl
/-! The purse made; the law. -/
namespace Dl
open PySem PySem.Spec PyProof.Rows L2 LamX RZ
theorem kp_hid_nil {H H2 : Hp} {K : Cfg} {v : V} {d : D} (h : Rp K (hid H []) v d) : Rp K H v d := h.ex hid_sub
section
variable {P : Program} {w : World} {K : Cfg} {mg : Str → Option Value} {base : Heap} {f : Addr} {fd : FuncData} {cdv : Value}
/-- a new purse -/
def spPurse (K : Cfg) : Sp := fun vs H Q _ => ∃ (a : Addr) (ns : List Int), vs = [.ref a, .int 0] ∧ SqL K H a (ns.map V.int) ∧ LamX.Tabs K.T H ∧ ∀ p H2 ns', H p = none → Ex K H H2 → H2 p = some (.lst (ns'.map V.int)) → PurseOk 0 ns' → Q (.ref p) H2
theorem cut_ints (ns : List Int) (lo hi : Option Int) : ∃ ms : List Int, cutV (ns.map V.int) lo hi = ms.map V.int := ⟨(ns.drop (HT.sIx (ns.map V.int).length 0 lo)).take (HT.sIx (ns.map V.int).length (ns.map V.int).length hi - HT.sIx (ns.map V.int).length 0 lo), by unfold cutV; rw [List.map_take, List.map_drop]⟩
theorem f__law_purse (d : Df K mg "_law_purse" s__law_purse [] cdv f fd) (mm : Mg mg) : Fd P w K mg base 1 "_law_purse" (spPurse K) [] :=
  Fd.mk' (fn_any (k := 0) d sc__law_purse (fun vs H Q E h => by obtain ⟨a, ns, rfl, _⟩ := h; rfl) fun A outer s H vs Q E hr h => by
    obtain ⟨a, ns, rfl, hS, hT, q⟩ := h
    refine ⟨_, (by have sc := sc__law_purse; exact (pss_cons (ps_set (i := 2) sc.nd (by rfl) (by first | exact Or.inl rfl | exact Or.inr rfl) (pe_callB (k_sum K.K (by rfl) (by rfl)) (by rfl) mm.sum_ (by rfl) (pa_cons (pe_slice (k_slL K.K (by rfl)) (pv 0) (po_some (pv 1)) (po_some (pe_op op_add (pv 1) pe_int))) pa_nil)))
      (pss_one (ps_ret (pe_lst (pa_cons (pe_op op_mod (pe_callTy call_int1 (by rfl) mm.int_ (by rfl) (pa_cons (pe_callB (call_max2 (by rfl)) (by rfl) mm.max_ (by rfl) (pa_cons (pe_op op_sub (pv 2) (pe_op op_pow pe_int pe_int)) (pa_cons pe_int pa_nil))) pa_nil)) (pe_op op_powW (pe_op op_pow pe_int pe_int) pe_int)) (pa_cons (pe_op op_mod (pe_callTy call_int1 (by rfl) mm.int_ (by rfl) (pa_cons (pv 2) pa_nil)) pe_int) (pa_cons pe_int (pa_cons (pv 1) pa_nil))))))))), ?_⟩
    have st : StOk K H [] [.raw (.ref a), .dat (.int 0), .no] (L2.start N__law_purse [.ref a, .int 0]) H := ⟨Ge.refl H, (fun a h => nomatch h), List.nodup_nil, (fun a h => nomatch h), ⟨(fun a h => nomatch h), hT⟩, .cons rfl (.cons ⟨_, rfl, .int 0⟩ (.cons trivial .nil))⟩
    have hold : ∀ z : Int, Hold K H [] (([.raw (.ref a), .dat (.int 0), .no] : Env).set 2 (.dat (.int z))) (tRet (tLst (tCons (tOp (rI (fun _ j => 0 < j) fun i j => .int (i % j)) (tCB (fun xs H Q => (∃ i, xs = [V.int i] ∧ Q (.int i) H) ∨ ∃ k, xs = [V.bl k] ∧ Q (.int (if k then 1 else 0)) H) (tCons (tCB (fun xs H Q => ∃ i j, xs = [V.int i, V.int j] ∧ Q (.int (if j > i then j else i)) H) (tCons (tOp (rI0 fun i j => .int (i - j)) (tVar 2) (tOp (rI CPow fun i j => .int (i ^ j.toNat)) (tC (.int 10)) (tC (.int 18)))) (tCons (tC (.int 0)) tNil))) tNil))
        (tOp (rI CPowW fun i j => .int (i ^ j.toNat)) (tOp (rI CPow fun i j => .int (i ^ j.toNat)) (tC (.int 10)) (tC (.int 60))) (tC (.int 8)))) (tCons (tOp (rI (fun _ j => 0 < j) fun i j => .int (i % j)) (tCB (fun xs H Q => (∃ i, xs = [V.int i] ∧ Q (.int i) H) ∨ ∃ k, xs = [V.bl k] ∧ Q (.int (if k then 1 else 0)) H) (tCons (tVar 2) tNil)) (tC (.int 2147483629))) (tCons (tC (.int 0)) (tCons (tVar 1) tNil))))) { nx := fun _ H' => Q .non H', rt := Q, bk := fun _ _ => False, ct := fun _ _ => False }) := fun z => by
      have hbig : (0 : Int) < ((10 : Int) ^ (60 : Int).toNat) ^ (8 : Int).toNat := by decide +kernel
      have hpw : CPowW ((10 : Int) ^ (60 : Int).toNat) 8 := ⟨by decide, by decide +kernel⟩
      refine h_retNew (xs := [max (z - (10 : Int) ^ (18 : Int).toNat) 0 % ((10 : Int) ^ (60 : Int).toNat) ^ (8 : Int).toNat, z % 2147483629, 0, 0].map D.int) (en_lst (ea_cons (ev_mod (ev_toInt rfl (ev_max2 rfl (ev_sub (ev_var rfl) (ev_opC ev_int ev_int ⟨by decide, by decide, by decide⟩ fun _ => .int _)) ev_int)) (ev_opC (ev_opC ev_int ev_int ⟨by decide, by decide, by decide⟩ fun _ => .int _) ev_int hpw fun _ => .int _) hbig) (ea_cons (ev_mod (ev_toInt rfl (ev_var rfl)) ev_int (by decide)) (ea_cons ev_int (ea_cons (ev_var rfl) ea_nil)))) (show 4 ≤ 100000 by decide)) fun p vs H2 hp g t hl r => ?_
      rw [r.ints] at hl
      exact q p H2 _ hp ⟨g, fun _ => t⟩ hl ⟨_, _, _, _, rfl, Int.emod_nonneg _ (Int.ne_of_gt hbig), Int.emod_nonneg _ (by decide), Int.emod_lt_of_pos _ (by decide), Int.le_refl _, Int.le_refl _, Int.le_refl _, by decide⟩
    -- the seed
    refine (h_setB (K := K) (B := H) (M := []) (ρ := [.raw (.ref a), .dat (.int 0), .no]) (i := 2) (d := .int (Classical.choose (cut_ints ns (some 0) (some (0 + 1)))).sum) (fun M' σ H1 g m e Q' q' => ?_) (hold _)) H (Ge.refl H) _ H st
    obtain ⟨o, e1, rfl⟩ := e.get (i := 0) rfl
    obtain ⟨o2, e2, v2, rfl, r2⟩ := e.get (i := 1) rfl
    cases r2
    refine ⟨_, e1, _, e2, 0, rfl, _, e2, 0, 1, rfl, rfl, _, rfl, a, ns.map V.int, rfl, ex_l g.kp hS, fun l hl => ?_⟩
    refine ⟨l, Classical.choose (cut_ints ns (some 0) (some (0 + 1))), rfl, ?_, q' _ _ (Ex.new hl) (.int _)⟩
    rw [← Classical.choose_spec (cut_ints ns (some 0) (some (0 + 1)))]
    exact sq_of upd_same) d (bd__law_purse d) .nil
/-- one purse, in a list -/
def spPurses (K : Cfg) : Sp := fun vs H Q _ => ∃ (a : Addr) (ns : List Int), vs = [.ref a, .int 1] ∧ SqL K H a (ns.map V.int) ∧ LamX.Tabs K.T H ∧ ∀ l p H2 ns', l ≠ p → H p = none → LamX.Tabs K.T H2 → H2 l = some (.lst [.ref p]) → H2 p = some (.lst (ns'.map V.int)) → PurseOk 0 ns' → Q (.ref l) H2
theorem f__law_purses (d : Df K mg "_law_purses" s__law_purses [] cdv f fd) (mm : Mg mg) (c__law_purse : Fd P w K mg base 1 "_law_purse" (spPurse K) []) : Fd P w K mg base 2 "_law_purses" (spPurses K) [] :=
  Fd.mk' (fn_any (k := 1) d sc__law_purses (fun vs H Q E h => by obtain ⟨a, ns, rfl, _⟩ := h; rfl) fun A outer s H vs Q E hr h => by
    obtain ⟨a, ns, rfl, hS, hT, q⟩ := h
    refine ⟨_, (by have sc := sc__law_purses; exact (pss_one (ps_ret (pe_lc (own := [("_law_at", 2)]) (by rfl) sc.nd (pi_range1 (by rfl) mm.range_ (pa_cons (pe_callB (call_max2 (by rfl)) (by rfl) mm.max_ (by rfl) (pa_cons pe_int (pa_cons (pe_callB (call_min2 (by rfl)) (by rfl) mm.min_ (by rfl) (pa_cons (pv 1) (pa_cons (pe_callB (k_len K.K (by rfl)) (by rfl) mm.len_ (by rfl) (pa_cons (pv 0) pa_nil)) pa_nil))) pa_nil))) pa_nil)) (blkOk_by (show blkC N__law_purses (defScope s__law_purses) _ _ = true by decide +kernel)) (fun _ _ _ _ _ => (pg_name (i := 2) sc.nd (by rfl) (by first | exact Or.inl rfl | exact Or.inr rfl))) (fun _ _ _ _ _ => pts_nil) (fun _ _ _ _ _ => (pe_f c__law_purse hr (by omega) (by rfl) (pa_cons (pv 0) (pa_cons (pv 2) pa_nil)))))))), ?_⟩
    refine ⟨.int 1, rfl, .ref a, rfl, a, ns.map V.int, rfl, .inl hS, 1, ((ns.map V.int).length : Int), rfl, 1, _, rfl, 1, ?_, by decide, by decide, ?_⟩
    · by_cases h1 : ((ns.map V.int).length : Int) < 1
      · rw [if_pos h1, if_neg (by omega)]
      · rw [if_neg h1, if_neg (by omega)]
    · intro l hl
      refine ⟨fun i m H1 => (i = 0 ∧ m = 1 ∧ H1 = upd H l (.lst [])) ∨ (i = 1 ∧ m = 0 ∧ ∃ p ns', l ≠ p ∧ H p = none ∧ LamX.Tabs K.T H1 ∧ H1 l = some (.lst [.ref p]) ∧ H1 p = some (.lst (ns'.map V.int)) ∧ PurseOk 0 ns'), ⟨1, .inl ⟨rfl, rfl, rfl⟩⟩, fun i m H1 hw => ?_⟩
      rcases hw with ⟨rfl, rfl, rfl⟩ | ⟨rfl, rfl, p, ns', h1, h2, h3, h4, h5, h6⟩
      · refine .inr ⟨by show 0 < (1 : Int).toNat; decide, fun H2 => ∃ p ns', l ≠ p ∧ H p = none ∧ LamX.Tabs K.T H2 ∧ H2 l = some (.lst [.ref p]) ∧ H2 p = some (.lst (ns'.map V.int)) ∧ PurseOk 0 ns', fun H2 h => ⟨0, by omega, .inr ⟨rfl, rfl, h⟩⟩, fun x H2 hy => ?_⟩
        obtain ⟨rfl, rfl⟩ := hy
        refine ⟨rfl, ?_⟩
        have eN : Ex K H (upd H l (.lst [])) := Ex.new hl
        refine ⟨_, rfl, _, rfl, a, ns, rfl, ex_l eN.kp hS, eN.tb hT, fun p H3 ns' hp e3 q3 pu => ?_⟩
        have nlp : l ≠ p := fun z => by rw [← z, upd_same] at hp; cases hp
        have hl3 : H3 l = some (.lst []) := e3.kp.lst upd_same
        refine ⟨[], hl3, sz_lt (by decide), p, ns', nlp, by rw [upd_ne nlp.symm] at hp; exact hp, tabs_mut hl3 True.intro (e3.tb (eN.tb hT)), upd_same, by rw [upd_ne nlp.symm]; exact q3, pu⟩
      · exact .inl ⟨by show (1 : Int).toNat ≤ 1; decide, q l p H1 ns' h1 h2 h3 h4 h5 h6⟩) d (bd__law_purses d) .nil
end
end Dl
/-! Errors made. -/
namespace Dl
open PySem PySem.Spec PyProof.Rows L2 LamX RZ
section
variable {P : Program} {w : World} {K : Cfg} {mg : Str → Option Value} {base : Heap} {f : Addr} {fd : FuncData} {cdv : Value} {C : Nat → Addr}
abbrev Cl (P : Program) (K : Cfg) (mg : Str → Option Value) (C : Nat → Addr) : Prop := Cls P K.K mg nsV ns0 C
def G_is_error (K : Cfg) (C : Nat → Addr) (ds : List D) (r : D) : Prop := ∃ e i, ds = [e] ∧ i < 42 ∧ IsK K (C i) e ∧ r = .bl true
theorem f__law_is_error (d : Df K mg "_law_is_error" s__law_is_error [] cdv f fd) (mm : Mg mg) (cl : Cl P K mg C) : Fd P w K mg base 1 "_law_is_error" (spF K 1 (G_is_error K C)) [] :=
  have hVE := mm.ValueError_
  Fd.mk' (fn_d (k := 0) d sc__law_is_error fun A outer s H E hr => ⟨_, (by have sc := sc__law_is_error; exact (pss_one (ps_ret (pe_and (pe_callB (k_isY K.K (by rfl)) (by rfl) mm.isinstance_ (by rfl) (pa_cons (pv 0) (pa_cons (pe_clsA (by rfl) (cl.mgx 41 rfl)) pa_nil))) (pe_one (pe_callB (k_isY K.K (by rfl)) (by rfl) mm.isinstance_ (by rfl) (pa_cons (pv 0) (pa_cons (pe_bltn (v := .ty "ValueError") (by rfl) hVE (by rfl) (by rfl)) pa_nil)))))))), fun ds r hl hG B M De hE hR => by
    obtain ⟨e, i, rfl, hi, hk, rfl⟩ := hG
    have hi2 : i < nsV.length + ns0.length := hi
    exact h_ret ((ev_andV (ev_isF 41 cl (ev_var rfl) hk hi2 rfl) fun _ => ev_isVE cl (ev_var rfl) hk hi2).cast rfl) hR⟩) d (bd__law_is_error d) .nil
end
end Dl
/-! Errors made. -/
namespace Dl
open PySem PySem.Spec PyProof.Rows L2 LamX RZ
section
variable {P : Program} {w : World} {K : Cfg} {mg : Str → Option Value} {base : Heap} {f : Addr} {fd : FuncData} {cdv : Value} {C : Nat → Addr}
/-- one of each class, this very object in its field -/
def allR (C : Nat → Addr) (v : V) : D := .lst (((List.range 39).map C).map fun c => .ob (exR c v))
def G_made (K : Cfg) (C : Nat → Addr) (ds : List D) (r : D) : Prop := ∃ v d H0, ds = [isD K v d] ∧ Rp K H0 v d ∧ r = allR C v
theorem f__law_first (d : Df K mg "_law_first" s__law_first [] cdv f fd) (mm : Mg mg) (cl : Cl P K mg C) : Fd P w K mg base 3 "_law_first" (spF K 1 (G_made K C)) [] :=
  Fd.mk' (fn_d (k := 2) d sc__law_first fun A outer s H E hr => ⟨_, (by have sc := sc__law_first; exact (pss_cons (ps_set (i := 1) sc.nd (by rfl) (by first | exact Or.inl rfl | exact Or.inr rfl) (pe_lst (pa_cons (pe_mkI (cl.v 0 _ rfl) (by rfl) hr (by omega) (by rfl) (pa_cons (pv 0) pa_nil)) (pa_cons (pe_mkI (cl.v 1 _ rfl) (by rfl) hr (by omega) (by rfl) (pa_cons (pv 0) pa_nil)) (pa_cons (pe_mkI (cl.v 2 _ rfl) (by rfl) hr (by omega) (by rfl) (pa_cons (pv 0) pa_nil)) (pa_cons (pe_mkI (cl.v 3 _ rfl) (by rfl) hr (by omega) (by rfl) (pa_cons (pv 0) pa_nil)) pa_nil))))))
      (pss_cons (ps_set (i := 1) sc.nd (by rfl) (by first | exact Or.inl rfl | exact Or.inr rfl) (pe_op op_cat (pv 1) (pe_lst (pa_cons (pe_mkI (cl.v 4 _ rfl) (by rfl) hr (by omega) (by rfl) (pa_cons (pv 0) pa_nil)) (pa_cons (pe_mkI (cl.v 5 _ rfl) (by rfl) hr (by omega) (by rfl) (pa_cons (pv 0) pa_nil)) (pa_cons (pe_mkI (cl.v 6 _ rfl) (by rfl) hr (by omega) (by rfl) (pa_cons (pv 0) pa_nil)) (pa_cons (pe_mkI (cl.v 7 _ rfl) (by rfl) hr (by omega) (by rfl) (pa_cons (pv 0) pa_nil)) pa_nil)))))))
      (pss_cons (ps_set (i := 1) sc.nd (by rfl) (by first | exact Or.inl rfl | exact Or.inr rfl) (pe_op op_cat (pv 1) (pe_lst (pa_cons (pe_mkI (cl.v 8 _ rfl) (by rfl) hr (by omega) (by rfl) (pa_cons (pv 0) pa_nil)) (pa_cons (pe_mkI (cl.v 9 _ rfl) (by rfl) hr (by omega) (by rfl) (pa_cons (pv 0) pa_nil)) (pa_cons (pe_mkI (cl.v 10 _ rfl) (by rfl) hr (by omega) (by rfl) (pa_cons (pv 0) pa_nil)) (pa_cons (pe_mkI (cl.v 11 _ rfl) (by rfl) hr (by omega) (by rfl) (pa_cons (pv 0) pa_nil)) pa_nil)))))))
      (pss_cons (ps_set (i := 1) sc.nd (by rfl) (by first | exact Or.inl rfl | exact Or.inr rfl) (pe_op op_cat (pv 1) (pe_lst (pa_cons (pe_mkI (cl.v 12 _ rfl) (by rfl) hr (by omega) (by rfl) (pa_cons (pv 0) pa_nil)) (pa_cons (pe_mkI (cl.v 13 _ rfl) (by rfl) hr (by omega) (by rfl) (pa_cons (pv 0) pa_nil)) (pa_cons (pe_mkI (cl.v 14 _ rfl) (by rfl) hr (by omega) (by rfl) (pa_cons (pv 0) pa_nil)) (pa_cons (pe_mkI (cl.v 15 _ rfl) (by rfl) hr (by omega) (by rfl) (pa_cons (pv 0) pa_nil)) pa_nil)))))))
      (pss_cons (ps_set (i := 1) sc.nd (by rfl) (by first | exact Or.inl rfl | exact Or.inr rfl) (pe_op op_cat (pv 1) (pe_lst (pa_cons (pe_mkI (cl.v 16 _ rfl) (by rfl) hr (by omega) (by rfl) (pa_cons (pv 0) pa_nil)) (pa_cons (pe_mkI (cl.v 17 _ rfl) (by rfl) hr (by omega) (by rfl) (pa_cons (pv 0) pa_nil)) (pa_cons (pe_mkI (cl.v 18 _ rfl) (by rfl) hr (by omega) (by rfl) (pa_cons (pv 0) pa_nil)) (pa_cons (pe_mkI (cl.v 19 _ rfl) (by rfl) hr (by omega) (by rfl) (pa_cons (pv 0) pa_nil)) pa_nil)))))))
      (pss_cons (ps_set (i := 1) sc.nd (by rfl) (by first | exact Or.inl rfl | exact Or.inr rfl) (pe_op op_cat (pv 1) (pe_lst (pa_cons (pe_mkI (cl.v 20 _ rfl) (by rfl) hr (by omega) (by rfl) (pa_cons (pv 0) pa_nil)) (pa_cons (pe_mkI (cl.v 21 _ rfl) (by rfl) hr (by omega) (by rfl) (pa_cons (pv 0) pa_nil)) (pa_cons (pe_mkI (cl.v 22 _ rfl) (by rfl) hr (by omega) (by rfl) (pa_cons (pv 0) pa_nil)) (pa_cons (pe_mkI (cl.v 23 _ rfl) (by rfl) hr (by omega) (by rfl) (pa_cons (pv 0) pa_nil)) pa_nil)))))))
      (pss_cons (ps_set (i := 1) sc.nd (by rfl) (by first | exact Or.inl rfl | exact Or.inr rfl) (pe_op op_cat (pv 1) (pe_lst (pa_cons (pe_mkI (cl.v 24 _ rfl) (by rfl) hr (by omega) (by rfl) (pa_cons (pv 0) pa_nil)) (pa_cons (pe_mkI (cl.v 25 _ rfl) (by rfl) hr (by omega) (by rfl) (pa_cons (pv 0) pa_nil)) (pa_cons (pe_mkI (cl.v 26 _ rfl) (by rfl) hr (by omega) (by rfl) (pa_cons (pv 0) pa_nil)) (pa_cons (pe_mkI (cl.v 27 _ rfl) (by rfl) hr (by omega) (by rfl) (pa_cons (pv 0) pa_nil)) pa_nil)))))))
      (pss_cons (ps_set (i := 1) sc.nd (by rfl) (by first | exact Or.inl rfl | exact Or.inr rfl) (pe_op op_cat (pv 1) (pe_lst (pa_cons (pe_mkI (cl.v 28 _ rfl) (by rfl) hr (by omega) (by rfl) (pa_cons (pv 0) pa_nil)) (pa_cons (pe_mkI (cl.v 29 _ rfl) (by rfl) hr (by omega) (by rfl) (pa_cons (pv 0) pa_nil)) (pa_cons (pe_mkI (cl.v 30 _ rfl) (by rfl) hr (by omega) (by rfl) (pa_cons (pv 0) pa_nil)) (pa_cons (pe_mkI (cl.v 31 _ rfl) (by rfl) hr (by omega) (by rfl) (pa_cons (pv 0) pa_nil)) pa_nil)))))))
      (pss_cons (ps_set (i := 1) sc.nd (by rfl) (by first | exact Or.inl rfl | exact Or.inr rfl) (pe_op op_cat (pv 1) (pe_lst (pa_cons (pe_mkI (cl.v 32 _ rfl) (by rfl) hr (by omega) (by rfl) (pa_cons (pv 0) pa_nil)) (pa_cons (pe_mkI (cl.v 33 _ rfl) (by rfl) hr (by omega) (by rfl) (pa_cons (pv 0) pa_nil)) (pa_cons (pe_mkI (cl.v 34 _ rfl) (by rfl) hr (by omega) (by rfl) (pa_cons (pv 0) pa_nil)) (pa_cons (pe_mkI (cl.v 35 _ rfl) (by rfl) hr (by omega) (by rfl) (pa_cons (pv 0) pa_nil)) (pa_cons (pe_mkI (cl.v 36 _ rfl) (by rfl) hr (by omega) (by rfl) (pa_cons (pv 0) pa_nil)) pa_nil))))))))
      (pss_cons (ps_set (i := 1) sc.nd (by rfl) (by first | exact Or.inl rfl | exact Or.inr rfl) (pe_op op_cat (pv 1) (pe_lst (pa_cons (pe_mkI (cl.v 37 _ rfl) (by rfl) hr (by omega) (by rfl) (pa_cons (pv 0) pa_nil)) (pa_cons (pe_mkI (cl.v 38 _ rfl) (by rfl) hr (by omega) (by rfl) (pa_cons (pv 0) pa_nil)) pa_nil)))))
      (pss_one (ps_ret (pv 1)))))))))))))), fun ds r hl hG B M De hE hR => by
    obtain ⟨v, x, H0, rfl, h0, rfl⟩ := hG
    have m : ∀ {i : Nat} {ρ : Env}, ρ[0]? = some (.dat (isD K v x)) → EvD K (tMade fun σ H => tMkO (C i) (spIni (C i)) [] (tCons (tVar 0) tNil) σ H) ρ (.ob (exR (C i) v)) := fun h => ev_made (ev_var h) (knows_is h h0)
    refine q_set (ev_lst (ea_cons (m rfl) (ea_cons (m rfl) (ea_cons (m rfl) (ea_cons (m rfl) ea_nil)))) (by show 4 ≤ 100000; decide)) ?_
    refine q_set (ev_cat (EvD.l (ev_var rfl)) (EvD.l (ev_lst (ea_cons (m rfl) (ea_cons (m rfl) (ea_cons (m rfl) (ea_cons (m rfl) ea_nil)))) (by show 4 ≤ 100000; decide))) (by simp)) ?_
    refine q_set (ev_cat (EvD.l (ev_var rfl)) (EvD.l (ev_lst (ea_cons (m rfl) (ea_cons (m rfl) (ea_cons (m rfl) (ea_cons (m rfl) ea_nil)))) (by show 4 ≤ 100000; decide))) (by simp)) ?_
    refine q_set (ev_cat (EvD.l (ev_var rfl)) (EvD.l (ev_lst (ea_cons (m rfl) (ea_cons (m rfl) (ea_cons (m rfl) (ea_cons (m rfl) ea_nil)))) (by show 4 ≤ 100000; decide))) (by simp)) ?_
    refine q_set (ev_cat (EvD.l (ev_var rfl)) (EvD.l (ev_lst (ea_cons (m rfl) (ea_cons (m rfl) (ea_cons (m rfl) (ea_cons (m rfl) ea_nil)))) (by show 4 ≤ 100000; decide))) (by simp)) ?_
    refine q_set (ev_cat (EvD.l (ev_var rfl)) (EvD.l (ev_lst (ea_cons (m rfl) (ea_cons (m rfl) (ea_cons (m rfl) (ea_cons (m rfl) ea_nil)))) (by show 4 ≤ 100000; decide))) (by simp)) ?_
    refine q_set (ev_cat (EvD.l (ev_var rfl)) (EvD.l (ev_lst (ea_cons (m rfl) (ea_cons (m rfl) (ea_cons (m rfl) (ea_cons (m rfl) ea_nil)))) (by show 4 ≤ 100000; decide))) (by simp)) ?_
    refine q_set (ev_cat (EvD.l (ev_var rfl)) (EvD.l (ev_lst (ea_cons (m rfl) (ea_cons (m rfl) (ea_cons (m rfl) (ea_cons (m rfl) ea_nil)))) (by show 4 ≤ 100000; decide))) (by simp)) ?_
    refine q_set (ev_cat (EvD.l (ev_var rfl)) (EvD.l (ev_lst (ea_cons (m rfl) (ea_cons (m rfl) (ea_cons (m rfl) (ea_cons (m rfl) (ea_cons (m rfl) ea_nil))))) (by show 5 ≤ 100000; decide))) (by simp)) ?_
    refine q_set (ev_cat (EvD.l (ev_var rfl)) (EvD.l (ev_lst (ea_cons (m rfl) (ea_cons (m rfl) ea_nil)) (by show 2 ≤ 100000; decide))) (by simp)) ?_
    exact h_ret (ev_var rfl) hR⟩) d (bd__law_first d) .nil
end
end Dl
/-! Which class an error is of. -/
namespace Dl
open PySem PySem.Spec PyProof.Rows L2 LamX RZ
theorem rg_1 (b : Nat → D) (m : Nat) : (List.range m).map b ++ [b m] = (List.range (m + 1)).map b := by simp [List.range_succ]
theorem rg_2 (b : Nat → D) (m : Nat) : (List.range m).map b ++ [b m, b (m + 1)] = (List.range (m + 2)).map b := by simp [List.range_succ]
theorem rg_3 (b : Nat → D) (m : Nat) : (List.range m).map b ++ [b m, b (m + 1), b (m + 2)] = (List.range (m + 3)).map b := by simp [List.range_succ]
section
variable {P : Program} {w : World} {K : Cfg} {mg : Str → Option Value} {base : Heap} {f : Addr} {fd : FuncData} {cdv : Value} {C : Nat → Addr}
/-- the classes that an error of class i is of -/
def codeF (i : Nat) : List D := ((List.range 41).filter fun j => decide (i = j)).map fun j : Nat => D.int (0 + (j : Int))
def bI (i j : Nat) : D := .bl (decide (i = j))
theorem code_lc (n : Nat) (b : Nat → Bool) (hn : n ≤ 100000) {s0 s2 : Sl} : EvD K (tLc (iRng1 (tCons (tCB (rLen K) (tCons (tVar 1) tNil)) tNil)) (gName 2) (tB (tOp (rIxL K) (tVar 1) (tVar 2))) (tVar 2) [2]) [s0, .dat (.lst ((List.range n).map fun j => .bl (b j))), s2] (.lst (((List.range n).filter b).map fun j : Nat => D.int (0 + (j : Int)))) := by
  refine ev_lc (ix := [2]) (L := List.range n) (enc := fun j : Nat => D.int (0 + (j : Int))) b (fun j : Nat => D.int (0 + (j : Int))) (src_rng1 (n := (n : Int)) (ea_cons ((ev_len (r := rLen K) rfl (EvD.s (ev_var rfl))).cast (by simp)) ea_nil) (by omega)).c (by rw [List.length_range]; exact hn) fun j hj => ⟨_, b_name, et_B (ev_ixL (EvD.l (ev_var rfl)) (ev_var rfl) ?_), fun _ => ev_var rfl⟩
  have hj : j < n := List.mem_range.mp hj
  rw [Int.zero_add]
  exact atI_nat (by rw [List.getElem?_map, List.getElem?_range hj]; rfl)
def G_code (K : Cfg) (C : Nat → Addr) (ds : List D) (r : D) : Prop := ∃ e i, ds = [e] ∧ i < 42 ∧ IsK K (C i) e ∧ r = .lst (codeF i)
def isyC (K : Cfg) (C : Nat → Addr) (j : Nat) : TE := tCB (rIsY K.K) (tCons (tVar 0) (tCons (tC (.ref (C j))) tNil))
theorem ev_isyC {i : Nat} {e : D} {ρ : Env} (cl : Cl P K mg C) (hi : i < 42) (hk : IsK K (C i) e) (j : Nat) (hj : j < 41) (h : ρ[0]? = some (.dat e)) : EvD K (isyC K C j) ρ (bI i j) := ev_isC j cl (ev_var h) hk hi (show j + 1 < 42 by omega)
section
variable {i : Nat} {e : D} {B : Hp} {M : List Addr} {De : Ends} {w : TS} {s2 : Sl} (cl : Cl P K mg C) (hi : i < 42) (hk : IsK K (C i) e)
include cl hi hk
theorem qc0 (k : Hold K B M [.dat e, .dat (.lst ((List.range 2).map (bI i))), s2] (w De)) {s1 : Sl} : Hold K B M [.dat e, s1, s2] (tSeq (tAsg (tLst (tCons (isyC K C 0) (tCons (isyC K C 1) tNil))) (gName 1)) w De) :=
  q_set (d := .lst ((List.range 2).map (bI i))) (EvD.cast (ev_lst (ea_cons (ev_isyC cl hi hk 0 (by decide) rfl) (ea_cons (ev_isyC cl hi hk 1 (by decide) rfl) ea_nil)) (by show 2 ≤ 100000; decide)) rfl) k
theorem qc2 (m : Nat) (hm : m + 1 < 41) (k : Hold K B M [.dat e, .dat (.lst ((List.range (m + 2)).map (bI i))), s2] (w De)) : Hold K B M [.dat e, .dat (.lst ((List.range m).map (bI i))), s2] (tSeq (tAsg (tOp rCat (tVar 1) (tLst (tCons (isyC K C m) (tCons (isyC K C (m + 1)) tNil)))) (gName 1)) w De) :=
  q_set (d := .lst ((List.range (m + 2)).map (bI i))) (EvD.cast (ev_cat (EvD.l (ev_var (d := .lst ((List.range m).map (bI i))) rfl)) (EvD.l (ev_lst (ea_cons (ev_isyC cl hi hk m (by omega) rfl) (ea_cons (ev_isyC cl hi hk (m + 1) (by omega) rfl) ea_nil)) (by show 2 ≤ 100000; decide))) (by simp; omega)) (congrArg D.lst (rg_2 (bI i) m))) k
theorem qc3 (m : Nat) (hm : m + 2 < 41) (k : Hold K B M [.dat e, .dat (.lst ((List.range (m + 3)).map (bI i))), s2] (w De)) : Hold K B M [.dat e, .dat (.lst ((List.range m).map (bI i))), s2] (tSeq (tAsg (tOp rCat (tVar 1) (tLst (tCons (isyC K C m) (tCons (isyC K C (m + 1)) (tCons (isyC K C (m + 2)) tNil))))) (gName 1)) w De) :=
  q_set (d := .lst ((List.range (m + 3)).map (bI i))) (EvD.cast (ev_cat (EvD.l (ev_var (d := .lst ((List.range m).map (bI i))) rfl)) (EvD.l (ev_lst (ea_cons (ev_isyC cl hi hk m (by omega) rfl) (ea_cons (ev_isyC cl hi hk (m + 1) (by omega) rfl) (ea_cons (ev_isyC cl hi hk (m + 2) (by omega) rfl) ea_nil))) (by show 3 ≤ 100000; decide))) (by simp; omega)) (congrArg D.lst (rg_3 (bI i) m))) k
theorem qc1 (m : Nat) (hm : m < 41) (k : Hold K B M [.dat e, .dat (.lst ((List.range (m + 1)).map (bI i))), s2] (w De)) : Hold K B M [.dat e, .dat (.lst ((List.range m).map (bI i))), s2] (tSeq (tAsg (tOp rCat (tVar 1) (tLst (tCons (isyC K C m) tNil))) (gName 1)) w De) :=
  q_set (d := .lst ((List.range (m + 1)).map (bI i))) (EvD.cast (ev_cat (EvD.l (ev_var (d := .lst ((List.range m).map (bI i))) rfl)) (EvD.l (ev_lst (ea_cons (ev_isyC cl hi hk m (by omega) rfl) ea_nil) (by show 1 ≤ 100000; decide))) (by simp; omega)) (congrArg D.lst (rg_1 (bI i) m))) k
end
theorem f__law_code (d : Df K mg "_law_code" s__law_code [] cdv f fd) (mm : Mg mg) (cl : Cl P K mg C) : Fd P w K mg base 1 "_law_code" (spF K 1 (G_code K C)) [] :=
  Fd.mk' (fn_d (k := 0) d sc__law_code fun A outer s H E hr => ⟨_, (by have sc := sc__law_code; exact (pss_cons (ps_set (i := 1) sc.nd (by rfl) (by first | exact Or.inl rfl | exact Or.inr rfl) (pe_lst (pa_cons (pe_callB (k_isY K.K (by rfl)) (by rfl) mm.isinstance_ (by rfl) (pa_cons (pv 0) (pa_cons (pe_clsA (by rfl) (cl.v 0 _ rfl).mgx) pa_nil))) (pa_cons (pe_callB (k_isY K.K (by rfl)) (by rfl) mm.isinstance_ (by rfl) (pa_cons (pv 0) (pa_cons (pe_clsA (by rfl) (cl.v 1 _ rfl).mgx) pa_nil))) pa_nil))))
      (pss_cons (ps_set (i := 1) sc.nd (by rfl) (by first | exact Or.inl rfl | exact Or.inr rfl) (pe_op op_cat (pv 1) (pe_lst (pa_cons (pe_callB (k_isY K.K (by rfl)) (by rfl) mm.isinstance_ (by rfl) (pa_cons (pv 0) (pa_cons (pe_clsA (by rfl) (cl.v 2 _ rfl).mgx) pa_nil))) (pa_cons (pe_callB (k_isY K.K (by rfl)) (by rfl) mm.isinstance_ (by rfl) (pa_cons (pv 0) (pa_cons (pe_clsA (by rfl) (cl.v 3 _ rfl).mgx) pa_nil))) pa_nil)))))
      (pss_cons (ps_set (i := 1) sc.nd (by rfl) (by first | exact Or.inl rfl | exact Or.inr rfl) (pe_op op_cat (pv 1) (pe_lst (pa_cons (pe_callB (k_isY K.K (by rfl)) (by rfl) mm.isinstance_ (by rfl) (pa_cons (pv 0) (pa_cons (pe_clsA (by rfl) (cl.v 4 _ rfl).mgx) pa_nil))) (pa_cons (pe_callB (k_isY K.K (by rfl)) (by rfl) mm.isinstance_ (by rfl) (pa_cons (pv 0) (pa_cons (pe_clsA (by rfl) (cl.v 5 _ rfl).mgx) pa_nil))) pa_nil)))))
      (pss_cons (ps_set (i := 1) sc.nd (by rfl) (by first | exact Or.inl rfl | exact Or.inr rfl) (pe_op op_cat (pv 1) (pe_lst (pa_cons (pe_callB (k_isY K.K (by rfl)) (by rfl) mm.isinstance_ (by rfl) (pa_cons (pv 0) (pa_cons (pe_clsA (by rfl) (cl.v 6 _ rfl).mgx) pa_nil))) (pa_cons (pe_callB (k_isY K.K (by rfl)) (by rfl) mm.isinstance_ (by rfl) (pa_cons (pv 0) (pa_cons (pe_clsA (by rfl) (cl.v 7 _ rfl).mgx) pa_nil))) pa_nil)))))
      (pss_cons (ps_set (i := 1) sc.nd (by rfl) (by first | exact Or.inl rfl | exact Or.inr rfl) (pe_op op_cat (pv 1) (pe_lst (pa_cons (pe_callB (k_isY K.K (by rfl)) (by rfl) mm.isinstance_ (by rfl) (pa_cons (pv 0) (pa_cons (pe_clsA (by rfl) (cl.v 8 _ rfl).mgx) pa_nil))) (pa_cons (pe_callB (k_isY K.K (by rfl)) (by rfl) mm.isinstance_ (by rfl) (pa_cons (pv 0) (pa_cons (pe_clsA (by rfl) (cl.v 9 _ rfl).mgx) pa_nil))) pa_nil)))))
      (pss_cons (ps_set (i := 1) sc.nd (by rfl) (by first | exact Or.inl rfl | exact Or.inr rfl) (pe_op op_cat (pv 1) (pe_lst (pa_cons (pe_callB (k_isY K.K (by rfl)) (by rfl) mm.isinstance_ (by rfl) (pa_cons (pv 0) (pa_cons (pe_clsA (by rfl) (cl.v 10 _ rfl).mgx) pa_nil))) (pa_cons (pe_callB (k_isY K.K (by rfl)) (by rfl) mm.isinstance_ (by rfl) (pa_cons (pv 0) (pa_cons (pe_clsA (by rfl) (cl.v 11 _ rfl).mgx) pa_nil))) pa_nil)))))
      (pss_cons (ps_set (i := 1) sc.nd (by rfl) (by first | exact Or.inl rfl | exact Or.inr rfl) (pe_op op_cat (pv 1) (pe_lst (pa_cons (pe_callB (k_isY K.K (by rfl)) (by rfl) mm.isinstance_ (by rfl) (pa_cons (pv 0) (pa_cons (pe_clsA (by rfl) (cl.v 12 _ rfl).mgx) pa_nil))) (pa_cons (pe_callB (k_isY K.K (by rfl)) (by rfl) mm.isinstance_ (by rfl) (pa_cons (pv 0) (pa_cons (pe_clsA (by rfl) (cl.v 13 _ rfl).mgx) pa_nil))) pa_nil)))))
      (pss_cons (ps_set (i := 1) sc.nd (by rfl) (by first | exact Or.inl rfl | exact Or.inr rfl) (pe_op op_cat (pv 1) (pe_lst (pa_cons (pe_callB (k_isY K.K (by rfl)) (by rfl) mm.isinstance_ (by rfl) (pa_cons (pv 0) (pa_cons (pe_clsA (by rfl) (cl.v 14 _ rfl).mgx) pa_nil))) (pa_cons (pe_callB (k_isY K.K (by rfl)) (by rfl) mm.isinstance_ (by rfl) (pa_cons (pv 0) (pa_cons (pe_clsA (by rfl) (cl.v 15 _ rfl).mgx) pa_nil))) pa_nil)))))
      (pss_cons (ps_set (i := 1) sc.nd (by rfl) (by first | exact Or.inl rfl | exact Or.inr rfl) (pe_op op_cat (pv 1) (pe_lst (pa_cons (pe_callB (k_isY K.K (by rfl)) (by rfl) mm.isinstance_ (by rfl) (pa_cons (pv 0) (pa_cons (pe_clsA (by rfl) (cl.v 16 _ rfl).mgx) pa_nil))) (pa_cons (pe_callB (k_isY K.K (by rfl)) (by rfl) mm.isinstance_ (by rfl) (pa_cons (pv 0) (pa_cons (pe_clsA (by rfl) (cl.v 17 _ rfl).mgx) pa_nil))) pa_nil)))))
      (pss_cons (ps_set (i := 1) sc.nd (by rfl) (by first | exact Or.inl rfl | exact Or.inr rfl) (pe_op op_cat (pv 1) (pe_lst (pa_cons (pe_callB (k_isY K.K (by rfl)) (by rfl) mm.isinstance_ (by rfl) (pa_cons (pv 0) (pa_cons (pe_clsA (by rfl) (cl.v 18 _ rfl).mgx) pa_nil))) (pa_cons (pe_callB (k_isY K.K (by rfl)) (by rfl) mm.isinstance_ (by rfl) (pa_cons (pv 0) (pa_cons (pe_clsA (by rfl) (cl.v 19 _ rfl).mgx) pa_nil))) pa_nil)))))
      (pss_cons (ps_set (i := 1) sc.nd (by rfl) (by first | exact Or.inl rfl | exact Or.inr rfl) (pe_op op_cat (pv 1) (pe_lst (pa_cons (pe_callB (k_isY K.K (by rfl)) (by rfl) mm.isinstance_ (by rfl) (pa_cons (pv 0) (pa_cons (pe_clsA (by rfl) (cl.v 20 _ rfl).mgx) pa_nil))) (pa_cons (pe_callB (k_isY K.K (by rfl)) (by rfl) mm.isinstance_ (by rfl) (pa_cons (pv 0) (pa_cons (pe_clsA (by rfl) (cl.v 21 _ rfl).mgx) pa_nil))) pa_nil)))))
      (pss_cons (ps_set (i := 1) sc.nd (by rfl) (by first | exact Or.inl rfl | exact Or.inr rfl) (pe_op op_cat (pv 1) (pe_lst (pa_cons (pe_callB (k_isY K.K (by rfl)) (by rfl) mm.isinstance_ (by rfl) (pa_cons (pv 0) (pa_cons (pe_clsA (by rfl) (cl.v 22 _ rfl).mgx) pa_nil))) (pa_cons (pe_callB (k_isY K.K (by rfl)) (by rfl) mm.isinstance_ (by rfl) (pa_cons (pv 0) (pa_cons (pe_clsA (by rfl) (cl.v 23 _ rfl).mgx) pa_nil))) pa_nil)))))
      (pss_cons (ps_set (i := 1) sc.nd (by rfl) (by first | exact Or.inl rfl | exact Or.inr rfl) (pe_op op_cat (pv 1) (pe_lst (pa_cons (pe_callB (k_isY K.K (by rfl)) (by rfl) mm.isinstance_ (by rfl) (pa_cons (pv 0) (pa_cons (pe_clsA (by rfl) (cl.v 24 _ rfl).mgx) pa_nil))) (pa_cons (pe_callB (k_isY K.K (by rfl)) (by rfl) mm.isinstance_ (by rfl) (pa_cons (pv 0) (pa_cons (pe_clsA (by rfl) (cl.v 25 _ rfl).mgx) pa_nil))) pa_nil)))))
      (pss_cons (ps_set (i := 1) sc.nd (by rfl) (by first | exact Or.inl rfl | exact Or.inr rfl) (pe_op op_cat (pv 1) (pe_lst (pa_cons (pe_callB (k_isY K.K (by rfl)) (by rfl) mm.isinstance_ (by rfl) (pa_cons (pv 0) (pa_cons (pe_clsA (by rfl) (cl.v 26 _ rfl).mgx) pa_nil))) (pa_cons (pe_callB (k_isY K.K (by rfl)) (by rfl) mm.isinstance_ (by rfl) (pa_cons (pv 0) (pa_cons (pe_clsA (by rfl) (cl.v 27 _ rfl).mgx) pa_nil))) pa_nil)))))
      (pss_cons (ps_set (i := 1) sc.nd (by rfl) (by first | exact Or.inl rfl | exact Or.inr rfl) (pe_op op_cat (pv 1) (pe_lst (pa_cons (pe_callB (k_isY K.K (by rfl)) (by rfl) mm.isinstance_ (by rfl) (pa_cons (pv 0) (pa_cons (pe_clsA (by rfl) (cl.v 28 _ rfl).mgx) pa_nil))) (pa_cons (pe_callB (k_isY K.K (by rfl)) (by rfl) mm.isinstance_ (by rfl) (pa_cons (pv 0) (pa_cons (pe_clsA (by rfl) (cl.v 29 _ rfl).mgx) pa_nil))) pa_nil)))))
      (pss_cons (ps_set (i := 1) sc.nd (by rfl) (by first | exact Or.inl rfl | exact Or.inr rfl) (pe_op op_cat (pv 1) (pe_lst (pa_cons (pe_callB (k_isY K.K (by rfl)) (by rfl) mm.isinstance_ (by rfl) (pa_cons (pv 0) (pa_cons (pe_clsA (by rfl) (cl.v 30 _ rfl).mgx) pa_nil))) (pa_cons (pe_callB (k_isY K.K (by rfl)) (by rfl) mm.isinstance_ (by rfl) (pa_cons (pv 0) (pa_cons (pe_clsA (by rfl) (cl.v 31 _ rfl).mgx) pa_nil))) pa_nil)))))
      (pss_cons (ps_set (i := 1) sc.nd (by rfl) (by first | exact Or.inl rfl | exact Or.inr rfl) (pe_op op_cat (pv 1) (pe_lst (pa_cons (pe_callB (k_isY K.K (by rfl)) (by rfl) mm.isinstance_ (by rfl) (pa_cons (pv 0) (pa_cons (pe_clsA (by rfl) (cl.v 32 _ rfl).mgx) pa_nil))) (pa_cons (pe_callB (k_isY K.K (by rfl)) (by rfl) mm.isinstance_ (by rfl) (pa_cons (pv 0) (pa_cons (pe_clsA (by rfl) (cl.v 33 _ rfl).mgx) pa_nil))) pa_nil)))))
      (pss_cons (ps_set (i := 1) sc.nd (by rfl) (by first | exact Or.inl rfl | exact Or.inr rfl) (pe_op op_cat (pv 1) (pe_lst (pa_cons (pe_callB (k_isY K.K (by rfl)) (by rfl) mm.isinstance_ (by rfl) (pa_cons (pv 0) (pa_cons (pe_clsA (by rfl) (cl.v 34 _ rfl).mgx) pa_nil))) (pa_cons (pe_callB (k_isY K.K (by rfl)) (by rfl) mm.isinstance_ (by rfl) (pa_cons (pv 0) (pa_cons (pe_clsA (by rfl) (cl.v 35 _ rfl).mgx) pa_nil))) (pa_cons (pe_callB (k_isY K.K (by rfl)) (by rfl) mm.isinstance_ (by rfl) (pa_cons (pv 0) (pa_cons (pe_clsA (by rfl) (cl.v 36 _ rfl).mgx) pa_nil))) pa_nil))))))
      (pss_cons (ps_set (i := 1) sc.nd (by rfl) (by first | exact Or.inl rfl | exact Or.inr rfl) (pe_op op_cat (pv 1) (pe_lst (pa_cons (pe_callB (k_isY K.K (by rfl)) (by rfl) mm.isinstance_ (by rfl) (pa_cons (pv 0) (pa_cons (pe_clsA (by rfl) (cl.v 37 _ rfl).mgx) pa_nil))) (pa_cons (pe_callB (k_isY K.K (by rfl)) (by rfl) mm.isinstance_ (by rfl) (pa_cons (pv 0) (pa_cons (pe_clsA (by rfl) (cl.v 38 _ rfl).mgx) pa_nil))) (pa_cons (pe_callB (k_isY K.K (by rfl)) (by rfl) mm.isinstance_ (by rfl) (pa_cons (pv 0) (pa_cons (pe_clsA (by rfl) (cl.mgx 39 rfl)) pa_nil))) pa_nil))))))
      (pss_cons (ps_set (i := 1) sc.nd (by rfl) (by first | exact Or.inl rfl | exact Or.inr rfl) (pe_op op_cat (pv 1) (pe_lst (pa_cons (pe_callB (k_isY K.K (by rfl)) (by rfl) mm.isinstance_ (by rfl) (pa_cons (pv 0) (pa_cons (pe_clsA (by rfl) (cl.mgx 40 rfl)) pa_nil))) pa_nil))))
      (pss_one (ps_ret (pe_lc (own := [("_law_at", 2)]) (by rfl) sc.nd (pi_range1 (by rfl) mm.range_ (pa_cons (pe_callB (k_len K.K (by rfl)) (by rfl) mm.len_ (by rfl) (pa_cons (pv 1) pa_nil)) pa_nil)) (blkOk_by (show blkC N__law_code (defScope s__law_code) _ _ = true by decide +kernel)) (fun _ _ _ _ _ => (pg_name (i := 2) sc.nd (by rfl) (by first | exact Or.inl rfl | exact Or.inr rfl))) (fun _ _ _ _ _ => (pts_one (pt_val (pe_ix (k_ixL K.K (by rfl)) (pv 1) (pv 2) (fun _ _ => rfl))))) (fun _ _ _ _ _ => (pv 2)))))))))))))))))))))))))), fun ds r hl hG B M De hE hR => by
    obtain ⟨e, i, rfl, hi, hk, rfl⟩ := hG
    refine qc0 cl hi hk ?_
    refine qc2 cl hi hk 2 (by decide) ?_
    refine qc2 cl hi hk 4 (by decide) ?_
    refine qc2 cl hi hk 6 (by decide) ?_
    refine qc2 cl hi hk 8 (by decide) ?_
    refine qc2 cl hi hk 10 (by decide) ?_
    refine qc2 cl hi hk 12 (by decide) ?_
    refine qc2 cl hi hk 14 (by decide) ?_
    refine qc2 cl hi hk 16 (by decide) ?_
    refine qc2 cl hi hk 18 (by decide) ?_
    refine qc2 cl hi hk 20 (by decide) ?_
    refine qc2 cl hi hk 22 (by decide) ?_
    refine qc2 cl hi hk 24 (by decide) ?_
    refine qc2 cl hi hk 26 (by decide) ?_
    refine qc2 cl hi hk 28 (by decide) ?_
    refine qc2 cl hi hk 30 (by decide) ?_
    refine qc2 cl hi hk 32 (by decide) ?_
    refine qc3 cl hi hk 34 (by decide) ?_
    refine qc3 cl hi hk 37 (by decide) ?_
    refine qc1 cl hi hk 40 (by decide) ?_
    exact h_ret (code_lc 41 (fun j => decide (i = j)) (by decide)) hR⟩) d (bd__law_code d) .nil
end
end Dl
/-! Errors made. -/
namespace Dl
open PySem PySem.Spec PyProof.Rows L2 LamX RZ
section
variable {P : Program} {w : World} {K : Cfg} {mg : Str → Option Value} {base : Heap} {f : Addr} {fd : FuncData} {cdv : Value} {C : Nat → Addr}
theorem f__law_called (d : Df K mg "_law_called" s__law_called [] cdv f fd) (mm : Mg mg) (cl : Cl P K mg C) : Fd P w K mg base 3 "_law_called" (spF K 1 (G_made K C)) [] :=
  Fd.mk' (fn_d (k := 2) d sc__law_called fun A outer s H E hr => ⟨_, (by have sc := sc__law_called; exact (pss_cons (ps_set (i := 1) sc.nd (by rfl) (by first | exact Or.inl rfl | exact Or.inr rfl) (pe_lst (pa_cons (pe_mkK (cl.v 0 _ rfl) (by rfl) hr (by omega) (by rfl) (pv 0)) (pa_cons (pe_mkK (cl.v 1 _ rfl) (by rfl) hr (by omega) (by rfl) (pv 0)) (pa_cons (pe_mkK (cl.v 2 _ rfl) (by rfl) hr (by omega) (by rfl) (pv 0)) pa_nil)))))
      (pss_cons (ps_set (i := 1) sc.nd (by rfl) (by first | exact Or.inl rfl | exact Or.inr rfl) (pe_op op_cat (pv 1) (pe_lst (pa_cons (pe_mkK (cl.v 3 _ rfl) (by rfl) hr (by omega) (by rfl) (pv 0)) (pa_cons (pe_mkK (cl.v 4 _ rfl) (by rfl) hr (by omega) (by rfl) (pv 0)) (pa_cons (pe_mkK (cl.v 5 _ rfl) (by rfl) hr (by omega) (by rfl) (pv 0)) pa_nil))))))
      (pss_cons (ps_set (i := 1) sc.nd (by rfl) (by first | exact Or.inl rfl | exact Or.inr rfl) (pe_op op_cat (pv 1) (pe_lst (pa_cons (pe_mkK (cl.v 6 _ rfl) (by rfl) hr (by omega) (by rfl) (pv 0)) (pa_cons (pe_mkK (cl.v 7 _ rfl) (by rfl) hr (by omega) (by rfl) (pv 0)) (pa_cons (pe_mkK (cl.v 8 _ rfl) (by rfl) hr (by omega) (by rfl) (pv 0)) pa_nil))))))
      (pss_cons (ps_set (i := 1) sc.nd (by rfl) (by first | exact Or.inl rfl | exact Or.inr rfl) (pe_op op_cat (pv 1) (pe_lst (pa_cons (pe_mkK (cl.v 9 _ rfl) (by rfl) hr (by omega) (by rfl) (pv 0)) (pa_cons (pe_mkK (cl.v 10 _ rfl) (by rfl) hr (by omega) (by rfl) (pv 0)) (pa_cons (pe_mkK (cl.v 11 _ rfl) (by rfl) hr (by omega) (by rfl) (pv 0)) pa_nil))))))
      (pss_cons (ps_set (i := 1) sc.nd (by rfl) (by first | exact Or.inl rfl | exact Or.inr rfl) (pe_op op_cat (pv 1) (pe_lst (pa_cons (pe_mkK (cl.v 12 _ rfl) (by rfl) hr (by omega) (by rfl) (pv 0)) (pa_cons (pe_mkK (cl.v 13 _ rfl) (by rfl) hr (by omega) (by rfl) (pv 0)) (pa_cons (pe_mkK (cl.v 14 _ rfl) (by rfl) hr (by omega) (by rfl) (pv 0)) pa_nil))))))
      (pss_cons (ps_set (i := 1) sc.nd (by rfl) (by first | exact Or.inl rfl | exact Or.inr rfl) (pe_op op_cat (pv 1) (pe_lst (pa_cons (pe_mkK (cl.v 15 _ rfl) (by rfl) hr (by omega) (by rfl) (pv 0)) (pa_cons (pe_mkK (cl.v 16 _ rfl) (by rfl) hr (by omega) (by rfl) (pv 0)) (pa_cons (pe_mkK (cl.v 17 _ rfl) (by rfl) hr (by omega) (by rfl) (pv 0)) pa_nil))))))
      (pss_cons (ps_set (i := 1) sc.nd (by rfl) (by first | exact Or.inl rfl | exact Or.inr rfl) (pe_op op_cat (pv 1) (pe_lst (pa_cons (pe_mkK (cl.v 18 _ rfl) (by rfl) hr (by omega) (by rfl) (pv 0)) (pa_cons (pe_mkK (cl.v 19 _ rfl) (by rfl) hr (by omega) (by rfl) (pv 0)) (pa_cons (pe_mkK (cl.v 20 _ rfl) (by rfl) hr (by omega) (by rfl) (pv 0)) pa_nil))))))
      (pss_cons (ps_set (i := 1) sc.nd (by rfl) (by first | exact Or.inl rfl | exact Or.inr rfl) (pe_op op_cat (pv 1) (pe_lst (pa_cons (pe_mkK (cl.v 21 _ rfl) (by rfl) hr (by omega) (by rfl) (pv 0)) (pa_cons (pe_mkK (cl.v 22 _ rfl) (by rfl) hr (by omega) (by rfl) (pv 0)) (pa_cons (pe_mkK (cl.v 23 _ rfl) (by rfl) hr (by omega) (by rfl) (pv 0)) pa_nil))))))
      (pss_cons (ps_set (i := 1) sc.nd (by rfl) (by first | exact Or.inl rfl | exact Or.inr rfl) (pe_op op_cat (pv 1) (pe_lst (pa_cons (pe_mkK (cl.v 24 _ rfl) (by rfl) hr (by omega) (by rfl) (pv 0)) (pa_cons (pe_mkK (cl.v 25 _ rfl) (by rfl) hr (by omega) (by rfl) (pv 0)) (pa_cons (pe_mkK (cl.v 26 _ rfl) (by rfl) hr (by omega) (by rfl) (pv 0)) pa_nil))))))
      (pss_cons (ps_set (i := 1) sc.nd (by rfl) (by first | exact Or.inl rfl | exact Or.inr rfl) (pe_op op_cat (pv 1) (pe_lst (pa_cons (pe_mkK (cl.v 27 _ rfl) (by rfl) hr (by omega) (by rfl) (pv 0)) (pa_cons (pe_mkK (cl.v 28 _ rfl) (by rfl) hr (by omega) (by rfl) (pv 0)) (pa_cons (pe_mkK (cl.v 29 _ rfl) (by rfl) hr (by omega) (by rfl) (pv 0)) pa_nil))))))
      (pss_cons (ps_set (i := 1) sc.nd (by rfl) (by first | exact Or.inl rfl | exact Or.inr rfl) (pe_op op_cat (pv 1) (pe_lst (pa_cons (pe_mkK (cl.v 30 _ rfl) (by rfl) hr (by omega) (by rfl) (pv 0)) (pa_cons (pe_mkK (cl.v 31 _ rfl) (by rfl) hr (by omega) (by rfl) (pv 0)) (pa_cons (pe_mkK (cl.v 32 _ rfl) (by rfl) hr (by omega) (by rfl) (pv 0)) pa_nil))))))
      (pss_cons (ps_set (i := 1) sc.nd (by rfl) (by first | exact Or.inl rfl | exact Or.inr rfl) (pe_op op_cat (pv 1) (pe_lst (pa_cons (pe_mkK (cl.v 33 _ rfl) (by rfl) hr (by omega) (by rfl) (pv 0)) (pa_cons (pe_mkK (cl.v 34 _ rfl) (by rfl) hr (by omega) (by rfl) (pv 0)) (pa_cons (pe_mkK (cl.v 35 _ rfl) (by rfl) hr (by omega) (by rfl) (pv 0)) pa_nil))))))
      (pss_cons (ps_set (i := 1) sc.nd (by rfl) (by first | exact Or.inl rfl | exact Or.inr rfl) (pe_op op_cat (pv 1) (pe_lst (pa_cons (pe_mkK (cl.v 36 _ rfl) (by rfl) hr (by omega) (by rfl) (pv 0)) (pa_cons (pe_mkK (cl.v 37 _ rfl) (by rfl) hr (by omega) (by rfl) (pv 0)) (pa_cons (pe_mkK (cl.v 38 _ rfl) (by rfl) hr (by omega) (by rfl) (pv 0)) pa_nil))))))
      (pss_one (ps_ret (pv 1))))))))))))))))), fun ds r hl hG B M De hE hR => by
    obtain ⟨v, x, H0, rfl, h0, rfl⟩ := hG
    have m : ∀ {i : Nat} {ρ : Env}, ρ[0]? = some (.dat (isD K v x)) → EvD K (tMade fun σ H => tMkO (C i) (spIni (C i)) [] (tCons (tVar 0) tNil) σ H) ρ (.ob (exR (C i) v)) := fun h => ev_made (ev_var h) (knows_is h h0)
    refine q_set (ev_lst (ea_cons (m rfl) (ea_cons (m rfl) (ea_cons (m rfl) ea_nil))) (by show 3 ≤ 100000; decide)) ?_
    refine q_set (ev_cat (EvD.l (ev_var rfl)) (EvD.l (ev_lst (ea_cons (m rfl) (ea_cons (m rfl) (ea_cons (m rfl) ea_nil))) (by show 3 ≤ 100000; decide))) (by simp)) ?_
    refine q_set (ev_cat (EvD.l (ev_var rfl)) (EvD.l (ev_lst (ea_cons (m rfl) (ea_cons (m rfl) (ea_cons (m rfl) ea_nil))) (by show 3 ≤ 100000; decide))) (by simp)) ?_
    refine q_set (ev_cat (EvD.l (ev_var rfl)) (EvD.l (ev_lst (ea_cons (m rfl) (ea_cons (m rfl) (ea_cons (m rfl) ea_nil))) (by show 3 ≤ 100000; decide))) (by simp)) ?_
    refine q_set (ev_cat (EvD.l (ev_var rfl)) (EvD.l (ev_lst (ea_cons (m rfl) (ea_cons (m rfl) (ea_cons (m rfl) ea_nil))) (by show 3 ≤ 100000; decide))) (by simp)) ?_
    refine q_set (ev_cat (EvD.l (ev_var rfl)) (EvD.l (ev_lst (ea_cons (m rfl) (ea_cons (m rfl) (ea_cons (m rfl) ea_nil))) (by show 3 ≤ 100000; decide))) (by simp)) ?_
    refine q_set (ev_cat (EvD.l (ev_var rfl)) (EvD.l (ev_lst (ea_cons (m rfl) (ea_cons (m rfl) (ea_cons (m rfl) ea_nil))) (by show 3 ≤ 100000; decide))) (by simp)) ?_
    refine q_set (ev_cat (EvD.l (ev_var rfl)) (EvD.l (ev_lst (ea_cons (m rfl) (ea_cons (m rfl) (ea_cons (m rfl) ea_nil))) (by show 3 ≤ 100000; decide))) (by simp)) ?_
    refine q_set (ev_cat (EvD.l (ev_var rfl)) (EvD.l (ev_lst (ea_cons (m rfl) (ea_cons (m rfl) (ea_cons (m rfl) ea_nil))) (by show 3 ≤ 100000; decide))) (by simp)) ?_
    refine q_set (ev_cat (EvD.l (ev_var rfl)) (EvD.l (ev_lst (ea_cons (m rfl) (ea_cons (m rfl) (ea_cons (m rfl) ea_nil))) (by show 3 ≤ 100000; decide))) (by simp)) ?_
    refine q_set (ev_cat (EvD.l (ev_var rfl)) (EvD.l (ev_lst (ea_cons (m rfl) (ea_cons (m rfl) (ea_cons (m rfl) ea_nil))) (by show 3 ≤ 100000; decide))) (by simp)) ?_
    refine q_set (ev_cat (EvD.l (ev_var rfl)) (EvD.l (ev_lst (ea_cons (m rfl) (ea_cons (m rfl) (ea_cons (m rfl) ea_nil))) (by show 3 ≤ 100000; decide))) (by simp)) ?_
    refine q_set (ev_cat (EvD.l (ev_var rfl)) (EvD.l (ev_lst (ea_cons (m rfl) (ea_cons (m rfl) (ea_cons (m rfl) ea_nil))) (by show 3 ≤ 100000; decide))) (by simp)) ?_
    exact h_ret (ev_var rfl) hR⟩) d (bd__law_called d) .nil
end
end Dl
/-! Errors made. -/
namespace Dl
open PySem PySem.Spec PyProof.Rows L2 LamX RZ
section
variable {P : Program} {w : World} {K : Cfg} {mg : Str → Option Value} {base : Heap} {f : Addr} {fd : FuncData} {cdv : Value} {C : Nat → Addr}
def G_bare (C : Nat → Addr) (ds : List D) (r : D) : Prop := r = allR C .non
theorem f__law_bare (d : Df K mg "_law_bare" s__law_bare [] cdv f fd) (mm : Mg mg) (cl : Cl P K mg C) : Fd P w K mg base 3 "_law_bare" (spF K 0 (G_bare C)) [] :=
  Fd.mk' (fn_d (k := 2) d sc__law_bare fun A outer s H E hr => ⟨_, (by have sc := sc__law_bare; exact (pss_cons (ps_set (i := 0) sc.nd (by rfl) (by first | exact Or.inl rfl | exact Or.inr rfl) (pe_lst (pa_cons (pe_mk0 (cl.v 0 _ rfl) (by rfl) hr (by omega) (by rfl)) (pa_cons (pe_mk0 (cl.v 1 _ rfl) (by rfl) hr (by omega) (by rfl)) (pa_cons (pe_mk0 (cl.v 2 _ rfl) (by rfl) hr (by omega) (by rfl)) (pa_cons (pe_mk0 (cl.v 3 _ rfl) (by rfl) hr (by omega) (by rfl)) (pa_cons (pe_mk0 (cl.v 4 _ rfl) (by rfl) hr (by omega) (by rfl)) (pa_cons (pe_mk0 (cl.v 5 _ rfl) (by rfl) hr (by omega) (by rfl)) pa_nil))))))))
      (pss_cons (ps_set (i := 0) sc.nd (by rfl) (by first | exact Or.inl rfl | exact Or.inr rfl) (pe_op op_cat (pv 0) (pe_lst (pa_cons (pe_mk0 (cl.v 6 _ rfl) (by rfl) hr (by omega) (by rfl)) (pa_cons (pe_mk0 (cl.v 7 _ rfl) (by rfl) hr (by omega) (by rfl)) (pa_cons (pe_mk0 (cl.v 8 _ rfl) (by rfl) hr (by omega) (by rfl)) (pa_cons (pe_mk0 (cl.v 9 _ rfl) (by rfl) hr (by omega) (by rfl)) (pa_cons (pe_mk0 (cl.v 10 _ rfl) (by rfl) hr (by omega) (by rfl)) pa_nil))))))))
      (pss_cons (ps_set (i := 0) sc.nd (by rfl) (by first | exact Or.inl rfl | exact Or.inr rfl) (pe_op op_cat (pv 0) (pe_lst (pa_cons (pe_mk0 (cl.v 11 _ rfl) (by rfl) hr (by omega) (by rfl)) (pa_cons (pe_mk0 (cl.v 12 _ rfl) (by rfl) hr (by omega) (by rfl)) (pa_cons (pe_mk0 (cl.v 13 _ rfl) (by rfl) hr (by omega) (by rfl)) (pa_cons (pe_mk0 (cl.v 14 _ rfl) (by rfl) hr (by omega) (by rfl)) (pa_cons (pe_mk0 (cl.v 15 _ rfl) (by rfl) hr (by omega) (by rfl)) pa_nil))))))))
      (pss_cons (ps_set (i := 0) sc.nd (by rfl) (by first | exact Or.inl rfl | exact Or.inr rfl) (pe_op op_cat (pv 0) (pe_lst (pa_cons (pe_mk0 (cl.v 16 _ rfl) (by rfl) hr (by omega) (by rfl)) (pa_cons (pe_mk0 (cl.v 17 _ rfl) (by rfl) hr (by omega) (by rfl)) (pa_cons (pe_mk0 (cl.v 18 _ rfl) (by rfl) hr (by omega) (by rfl)) (pa_cons (pe_mk0 (cl.v 19 _ rfl) (by rfl) hr (by omega) (by rfl)) (pa_cons (pe_mk0 (cl.v 20 _ rfl) (by rfl) hr (by omega) (by rfl)) pa_nil))))))))
      (pss_cons (ps_set (i := 0) sc.nd (by rfl) (by first | exact Or.inl rfl | exact Or.inr rfl) (pe_op op_cat (pv 0) (pe_lst (pa_cons (pe_mk0 (cl.v 21 _ rfl) (by rfl) hr (by omega) (by rfl)) (pa_cons (pe_mk0 (cl.v 22 _ rfl) (by rfl) hr (by omega) (by rfl)) (pa_cons (pe_mk0 (cl.v 23 _ rfl) (by rfl) hr (by omega) (by rfl)) (pa_cons (pe_mk0 (cl.v 24 _ rfl) (by rfl) hr (by omega) (by rfl)) (pa_cons (pe_mk0 (cl.v 25 _ rfl) (by rfl) hr (by omega) (by rfl)) pa_nil))))))))
      (pss_cons (ps_set (i := 0) sc.nd (by rfl) (by first | exact Or.inl rfl | exact Or.inr rfl) (pe_op op_cat (pv 0) (pe_lst (pa_cons (pe_mk0 (cl.v 26 _ rfl) (by rfl) hr (by omega) (by rfl)) (pa_cons (pe_mk0 (cl.v 27 _ rfl) (by rfl) hr (by omega) (by rfl)) (pa_cons (pe_mk0 (cl.v 28 _ rfl) (by rfl) hr (by omega) (by rfl)) (pa_cons (pe_mk0 (cl.v 29 _ rfl) (by rfl) hr (by omega) (by rfl)) (pa_cons (pe_mk0 (cl.v 30 _ rfl) (by rfl) hr (by omega) (by rfl)) pa_nil))))))))
      (pss_cons (ps_set (i := 0) sc.nd (by rfl) (by first | exact Or.inl rfl | exact Or.inr rfl) (pe_op op_cat (pv 0) (pe_lst (pa_cons (pe_mk0 (cl.v 31 _ rfl) (by rfl) hr (by omega) (by rfl)) (pa_cons (pe_mk0 (cl.v 32 _ rfl) (by rfl) hr (by omega) (by rfl)) (pa_cons (pe_mk0 (cl.v 33 _ rfl) (by rfl) hr (by omega) (by rfl)) (pa_cons (pe_mk0 (cl.v 34 _ rfl) (by rfl) hr (by omega) (by rfl)) (pa_cons (pe_mk0 (cl.v 35 _ rfl) (by rfl) hr (by omega) (by rfl)) (pa_cons (pe_mk0 (cl.v 36 _ rfl) (by rfl) hr (by omega) (by rfl)) (pa_cons (pe_mk0 (cl.v 37 _ rfl) (by rfl) hr (by omega) (by rfl)) pa_nil))))))))))
      (pss_cons (ps_set (i := 0) sc.nd (by rfl) (by first | exact Or.inl rfl | exact Or.inr rfl) (pe_op op_cat (pv 0) (pe_lst (pa_cons (pe_mk0 (cl.v 38 _ rfl) (by rfl) hr (by omega) (by rfl)) pa_nil))))
      (pss_one (ps_ret (pv 0)))))))))))), fun ds r hl hG B M De hE hR => by
    obtain rfl := hG
    obtain rfl : ds = [] := by cases ds with | nil => rfl | cons a b => cases hl
    refine q_set (ev_lst (ea_cons ev_made0 (ea_cons ev_made0 (ea_cons ev_made0 (ea_cons ev_made0 (ea_cons ev_made0 (ea_cons ev_made0 ea_nil)))))) (by show 6 ≤ 100000; decide)) ?_
    refine q_set (ev_cat (EvD.l (ev_var rfl)) (EvD.l (ev_lst (ea_cons ev_made0 (ea_cons ev_made0 (ea_cons ev_made0 (ea_cons ev_made0 (ea_cons ev_made0 ea_nil))))) (by show 5 ≤ 100000; decide))) (by simp)) ?_
    refine q_set (ev_cat (EvD.l (ev_var rfl)) (EvD.l (ev_lst (ea_cons ev_made0 (ea_cons ev_made0 (ea_cons ev_made0 (ea_cons ev_made0 (ea_cons ev_made0 ea_nil))))) (by show 5 ≤ 100000; decide))) (by simp)) ?_
    refine q_set (ev_cat (EvD.l (ev_var rfl)) (EvD.l (ev_lst (ea_cons ev_made0 (ea_cons ev_made0 (ea_cons ev_made0 (ea_cons ev_made0 (ea_cons ev_made0 ea_nil))))) (by show 5 ≤ 100000; decide))) (by simp)) ?_
    refine q_set (ev_cat (EvD.l (ev_var rfl)) (EvD.l (ev_lst (ea_cons ev_made0 (ea_cons ev_made0 (ea_cons ev_made0 (ea_cons ev_made0 (ea_cons ev_made0 ea_nil))))) (by show 5 ≤ 100000; decide))) (by simp)) ?_
    refine q_set (ev_cat (EvD.l (ev_var rfl)) (EvD.l (ev_lst (ea_cons ev_made0 (ea_cons ev_made0 (ea_cons ev_made0 (ea_cons ev_made0 (ea_cons ev_made0 ea_nil))))) (by show 5 ≤ 100000; decide))) (by simp)) ?_
    refine q_set (ev_cat (EvD.l (ev_var rfl)) (EvD.l (ev_lst (ea_cons ev_made0 (ea_cons ev_made0 (ea_cons ev_made0 (ea_cons ev_made0 (ea_cons ev_made0 (ea_cons ev_made0 (ea_cons ev_made0 ea_nil))))))) (by show 7 ≤ 100000; decide))) (by simp)) ?_
    refine q_set (ev_cat (EvD.l (ev_var rfl)) (EvD.l (ev_lst (ea_cons ev_made0 ea_nil) (by show 1 ≤ 100000; decide))) (by simp)) ?_
    exact h_ret (ev_var rfl) hR⟩) d (bd__law_bare d) .nil
end
end Dl
/-! A drawn word; one of some. -/
namespace Dl
open PySem PySem.Spec PyProof.Rows L2 LamX RZ TL
theorem PurseOk.mono {b c : Int} {ns : List Int} (h : PurseOk b ns) (e : b ≤ c) : PurseOk c ns := by
  obtain ⟨g, s, t, a, rfl, h1, h2, h3, h4, h5, h6, h7⟩ := h
  exact ⟨g, s, t, a, rfl, h1, h2, h3, h4, by omega, h6, h7⟩
theorem len_tl1 (x : Str) : x.length = (tl x).length := by simp [tl, Str.length]
structure WordOk (x : Str) : Prop where
  lo : 1 ≤ x.length
  hi : x.length ≤ 8
  low : ∀ c ∈ x.cps.toList, 97 ≤ c ∧ c ≤ 122
theorem joinL_nil : ∀ l : List (List Nat), joinL [] l = l.flatten
  | [] => rfl
  | [x] => by simp [joinL]
  | x :: y :: r => by
    show x ++ ([] ++ joinL [] (y :: r)) = _
    rw [joinL_nil (y :: r)]
    simp
theorem word_ok {cs : List Nat} (h1 : 1 ≤ cs.length) (h2 : cs.length ≤ 8) (h3 : ∀ c ∈ cs, 97 ≤ c ∧ c ≤ 122) : WordOk (Txt.join ("" : Str) (cs.map fun c => (⟨#[c]⟩ : Str))) := by
  have e : tl (Txt.join ("" : Str) (cs.map fun c => (⟨#[c]⟩ : Str))) = cs := by
    rw [join_eq, tl_join, show tl ("" : Str) = [] from rfl, joinL_nil, List.map_map]
    clear h1 h2 h3
    induction cs with
    | nil => rfl
    | cons c cs ih => rw [List.map_cons, List.flatten_cons, ih]; rfl
  refine ⟨?_, ?_, fun c hc => h3 c ?_⟩
  · rw [len_tl1, e]; exact h1
  · rw [len_tl1, e]; exact h2
  · rw [← e]; exact hc
theorem abc_low : ∀ j < 26, ∃ c, ("abcdefghijklmnopqrstuvwxyz" : Str).cps.toList[j]? = some c ∧ 97 ≤ c ∧ c ≤ 122 := by
  have h : ("abcdefghijklmnopqrstuvwxyz" : Str).cps.toList = (List.range 26).map fun i => 97 + i := by decide +kernel
  intro j hj
  rw [h, List.getElem?_map, List.getElem?_range hj]
  exact ⟨97 + j, rfl, by omega, by omega⟩
theorem strs_of {l : List D} (h : ∀ d ∈ l, ∃ c, d = D.str ⟨#[c]⟩ ∧ 97 ≤ c ∧ c ≤ 122) : ∃ cs : List Nat, l = (cs.map fun c => (⟨#[c]⟩ : Str)).map D.str ∧ cs.length = l.length ∧ ∀ c ∈ cs, 97 ≤ c ∧ c ≤ 122 := by
  induction l with
  | nil => exact ⟨[], rfl, rfl, fun c h => nomatch h⟩
  | cons d l ih =>
    obtain ⟨c, rfl, hc⟩ := h d List.mem_cons_self
    obtain ⟨cs, rfl, h2, h3⟩ := ih fun d hd => h d (List.mem_cons_of_mem _ hd)
    exact ⟨c :: cs, rfl, by rw [List.length_cons, List.length_cons, h2], fun x hx => (List.mem_cons.mp hx).elim (fun e => e ▸ hc) (h3 x)⟩
theorem sum1 (cs : List Nat) : ((cs.map fun c => (⟨#[c]⟩ : Str)).map (·.length)).sum = cs.length := by
  induction cs with
  | nil => rfl
  | cons c cs ih => rw [List.map_cons, List.map_cons, List.sum_cons, ih, List.length_cons]; show 1 + _ = _; omega
section
variable {P : Program} {w : World} {K : Cfg} {mg : Str → Option Value} {base : Heap} {f : Addr} {fd : FuncData} {cdv : Value}
/-- a draw -/
theorem em_dr {ρ : Env} {p : Addr} {ns : List Int} {i : Nat} {c n : Int} (hi : ρ[i]? = some (.own p (ns.map D.int))) (h : PurseOk c ns) (hc : c ≤ 900000) (hn : 1 ≤ n) (hn2 : n ≤ 1000) : EvM K (tCall (spM K 1 G_draw okDraw) [] E0 (tCons (tVar i) (tCons (tC (.int n)) tNil))) ρ p ns (fun r ns' => ∃ j : Nat, r = .int j ∧ (j : Int) < n ∧ PurseOk (c + 5) ns') := by
  refine em_call (d := .int n) hi ev_int rfl ⟨_, n, h, hc, rfl, hn, hn2⟩ fun r ns' hG => ?_
  obtain ⟨j, rfl, h1, h2, h3⟩ := hG _ _ h rfl
  exact ⟨j.toNat, by rw [Int.toNat_of_nonneg h1], by omega, h3⟩
theorem em_ixLM {ρ : Env} {ta tb : TE} {p : Addr} {ns : List Int} {P P' : D → List Int → Prop} {xs : List D} (ha : EvD K ta ρ (.lst xs)) (hb : EvM K tb ρ p ns P) (hP : ∀ d ns', P d ns' → ∃ (j : Nat) (x : D), d = .int j ∧ xs[j]? = some x ∧ P' x ns') : EvM K (tOp (rIxL K) ta tb) ρ p ns P' := fun M σ H m e hp hq Q q =>
  ha M σ H m e _ fun v H1 e1 r1 => hb M σ H1 (m.ex e1) (e.ex e1) hp (e1.kp.lst hq) _ fun u H2 d ns2 pd x2 q2 r2 => by
    obtain ⟨j, x, rfl, h2, h3⟩ := hP d ns2 pd
    cases r2
    have r1 := r1.ex (x2.hid hp)
    cases r1 with
    | @lst a vs _ g1 g2 =>
      obtain ⟨z, hz, rz⟩ := g2.get h2
      exact ⟨a, vs, j, z, rfl, rfl, sq_of (hid_some g1).2, atI_nat hz, q _ H2 x ns2 h3 (e1.m.trans x2) q2 rz⟩
def okWord (ns : List Int) (ds : List D) : Prop := ds = [] ∧ PurseOk 0 ns
def G_word (ns : List Int) (ds : List D) (r : D) (ns' : List Int) : Prop := ∃ x, r = .str x ∧ WordOk x ∧ PurseOk 100 ns'
theorem f__law_word (d : Df K mg "_law_word" s__law_word [] cdv f fd) (mm : Mg mg) (c__law_draw : Fd P w K mg base 2 "_law_draw" (spM K 1 G_draw okDraw) []) : Fd P w K mg base 3 "_law_word" (spM K 0 G_word okWord) [] :=
  Fd.mk' (fn_m (k := 2) d sc__law_word rfl fun A outer s H E hr => ⟨_, (by have sc := sc__law_word; exact (pss_cons (ps_set (i := 1) sc.nd (by rfl) (by first | exact Or.inl rfl | exact Or.inr rfl) (pe_op op_add pe_int (pe_f c__law_draw hr (by omega) (by rfl) (pa_cons (pv 0) (pa_cons (pe_ifExp (pt_cmpR (k_eqD K.K (by rfl) (by exact hr.units)) (pe_f c__law_draw hr (by omega) (by rfl) (pa_cons (pv 0) (pa_cons pe_int pa_nil))) pe_int (nomark _)) pe_int pe_int) pa_nil)))))
      (pss_one (ps_ret (k_join K.K (by rfl) pe_str (pe_lc (own := [("_law_turn", 2)]) (by rfl) sc.nd (pi_range1 (by rfl) mm.range_ (pa_cons (pv 1) pa_nil)) (blkOk_by (show blkC N__law_word (defScope s__law_word) _ _ = true by decide +kernel)) (fun _ _ _ _ _ => (pg_name (i := 2) sc.nd (by rfl) (by first | exact Or.inl rfl | exact Or.inr rfl))) (fun _ _ _ _ _ => pts_nil) (fun _ _ _ _ _ => (pe_ix ix_str pe_str (pe_f c__law_draw hr (by omega) (by rfl) (pa_cons (pv 0) (pa_cons pe_int pa_nil))) (fun _ _ => rfl))))))))), fun p ns ds hl hok B M De hR => by
    obtain ⟨rfl, hb⟩ := hok
    have h1 : EvM K (tOp (rI0 fun i j => .int (i + j)) (tC (.int 1)) (tCall (spM K 1 G_draw okDraw) [] E0 (tCons (tVar 0) (tCons (tIf (tTest (tOp (rEqD K) (tCall (spM K 1 G_draw okDraw) [] E0 (tCons (tVar 0) (tCons (tC (.int 3)) tNil))) (tC (.int 0)))) (tC (.int 8)) (tC (.int 3))) tNil)))) [.own p (ns.map D.int), .no, .no] p ns (fun r ns' => ∃ n : Nat, r = .int n ∧ 1 ≤ n ∧ n ≤ 8 ∧ PurseOk 10 ns') := by
      refine em_opR (i := 1) (fun j => .int (1 + j)) (P := fun r ns' => ∃ j : Nat, r = .int j ∧ j < 8 ∧ PurseOk 10 ns') ev_int ?_ fun r ns' hP => ?_
      · refine em_callM (P' := fun r ns' => ∃ n : Int, r = .int n ∧ 1 ≤ n ∧ n ≤ 8 ∧ PurseOk 5 ns') rfl (em_ifB (P2 := fun b ns' => PurseOk 5 ns') (i := 0) rfl (etm_eq (em_dr (c := 0) rfl hb (by decide) (by decide) (by decide)) fun r ns' hP => ?_) fun b ns' hP => ?_) rfl fun r ns' hP => ?_
        · obtain ⟨j, rfl, _, h3⟩ := hP
          exact ⟨j, rfl, h3⟩
        · cases b with
          | true => exact ⟨.int 8, ev_int, 8, rfl, by decide, by decide, hP⟩
          | false => exact ⟨.int 3, ev_int, 3, rfl, by decide, by decide, hP⟩
        · obtain ⟨n, rfl, h1, h2, h3⟩ := hP
          refine ⟨⟨_, n, h3, by decide, rfl, h1, by omega⟩, fun r ns2 hG => ?_⟩
          obtain ⟨j, rfl, g1, g2, g3⟩ := hG _ _ h3 rfl
          exact ⟨j.toNat, by rw [Int.toNat_of_nonneg g1], by omega, g3⟩
      · obtain ⟨j, rfl, h1, h2⟩ := hP
        exact ⟨j, rfl, ⟨1 + j, by rw [Int.natCast_add]; rfl, by omega, by omega, h2⟩, fun _ => .int _⟩
    refine q_setM (i := 0) (j := 1) (p := p) (ns := ns) rfl h1 fun r ns1 hP => ?_
    obtain ⟨n, rfl, n1, n8, hp1⟩ := hP
    refine h_retEM (R := G_word ns []) (i := 0) (p := p) (ns := ns1) (P := fun r ns' => ∃ x, r = .str x ∧ WordOk x ∧ PurseOk 100 ns') rfl ?_ (fun d ns' h => h) hR
    refine em_join (P := fun r ns' => ∃ cs : List Nat, r = .lst ((cs.map fun c => (⟨#[c]⟩ : Str)).map D.str) ∧ cs.length = n ∧ (∀ c ∈ cs, 97 ≤ c ∧ c ≤ 122) ∧ PurseOk 100 ns') ?_ fun r ns' hP => ?_
    · refine em_lcDraw (ix := [2]) (L := List.range n) (enc := fun j : Nat => D.int (0 + (j : Int))) (fun d => ∃ c, d = .str ⟨#[c]⟩ ∧ 97 ≤ c ∧ c ≤ 122) (fun k ns' => PurseOk (10 + 5 * k) ns') (i := 0) rfl (src_rng1 (n := (n : Int)) (ea_cons (ev_var rfl) ea_nil) (by omega)) (by rw [List.length_range]; omega) (hp1.mono (by decide)) (fun k x ns2 hx hI => ?_) (by decide) fun l ns' hl hR hI => ?_
      · have hk : k < n := by
          have := (List.getElem?_eq_some_iff.mp hx).1
          rwa [List.length_range] at this
        refine ⟨_, b_name, em_ixS (em_dr (c := 10 + 5 * k) (n := 26) rfl hI (by omega) (by decide) (by decide)) (by decide +kernel) fun r ns' hP => ?_⟩
        obtain ⟨j, rfl, h1, h2⟩ := hP
        obtain ⟨c, g1, g2⟩ := abc_low j (by omega)
        exact ⟨j, c, rfl, g1, ⟨c, rfl, g2⟩, h2.mono (by omega)⟩
      · obtain ⟨cs, rfl, h2, h3⟩ := strs_of hR
        rw [List.length_range] at hI hl
        exact ⟨cs, rfl, by omega, h3, hI.mono (by omega)⟩
    · obtain ⟨cs, rfl, h2, h3, h4⟩ := hP
      exact ⟨_, rfl, by rw [sum1, show (Str.ofString "").length = 0 from rfl]; omega, _, rfl, word_ok (by omega) (by omega) h3, h4⟩⟩) d (bd__law_word d) .nil
def okOne (ns : List Int) (ds : List D) : Prop := ∃ xs, ds = [.lst xs] ∧ PurseOk 100 ns ∧ 1 ≤ xs.length ∧ xs.length ≤ 1000
def G_one (ns : List Int) (ds : List D) (r : D) (ns' : List Int) : Prop := ∃ (xs : List D) (j : Nat), ds = [.lst xs] ∧ xs[j]? = some r ∧ PurseOk 200 ns'
theorem f__law_one_of (d : Df K mg "_law_one_of" s__law_one_of [] cdv f fd) (mm : Mg mg) (c__law_draw : Fd P w K mg base 2 "_law_draw" (spM K 1 G_draw okDraw) []) : Fd P w K mg base 3 "_law_one_of" (spM K 1 G_one okOne) [] :=
  Fd.mk' (fn_m (k := 2) d sc__law_one_of rfl fun A outer s H E hr => ⟨_, (by have sc := sc__law_one_of; exact (pss_one (ps_ret (pe_ix (k_ixL K.K (by rfl)) (pv 1) (pe_f c__law_draw hr (by omega) (by rfl) (pa_cons (pv 0) (pa_cons (pe_callB (k_len K.K (by rfl)) (by rfl) mm.len_ (by rfl) (pa_cons (pv 1) pa_nil)) pa_nil))) (fun _ _ => rfl))))), fun p ns ds hl hok B M De hR => by
    obtain ⟨xs, rfl, hb, h1, h2⟩ := hok
    refine h_retEM (R := G_one ns [.lst xs]) (i := 0) (p := p) (ns := ns) (P := fun r ns' => ∃ j : Nat, xs[j]? = some r ∧ PurseOk 200 ns') rfl ?_ (fun d ns' h => let ⟨j, h1, h2⟩ := h; ⟨xs, j, rfl, h1, h2⟩) hR
    refine em_ixLM (P := fun r ns' => ∃ j : Nat, r = .int j ∧ j < xs.length ∧ PurseOk 200 ns') (ev_var rfl) (em_call (d := .int xs.length) rfl (ev_len (r := rLen K) rfl (EvD.s (ev_var rfl))) rfl ⟨_, _, hb, by decide, rfl, by omega, by omega⟩ fun r ns' hG => ?_) fun r ns' hP => ?_
    · obtain ⟨j, rfl, g1, g2, g3⟩ := hG _ _ hb rfl
      exact ⟨j.toNat, by rw [Int.toNat_of_nonneg g1], by omega, g3.mono (by decide)⟩
    · obtain ⟨j, rfl, g1, g2⟩ := hP
      exact ⟨j, _, rfl, List.getElem?_eq_getElem g1, j, List.getElem?_eq_getElem g1, g2⟩⟩) d (bd__law_one_of d) .nil
end
end Dl
/-! All errors right. -/
namespace Dl
open PySem PySem.Spec PyProof.Rows L2 LamX RZ
theorem code_one : ∀ i < 41, codeF i = [D.int (0 + (i : Int))] := by
  have h : ∀ i < 41, (List.range 41).filter (fun j => decide (i = j)) = [i] := by decide +kernel
  intro i hi
  unfold codeF
  rw [h i hi]
  rfl
theorem code_none : codeF 41 = [] := rfl
/-- one of each class, its field told -/
def exA (K : Cfg) (C : Nat → Addr) (d : D) : D := .lst ((List.range 39).map fun i => .ob (exV K (C i) d))
structure RdOk (d : D) : Prop where
  ok : d.rdOk = true
  sh : d.rd.showable = true
  dp : d.rd.depth ≤ 60
  sz : d.rd.shown.length ≤ sizeLine
section
variable {P : Program} {w : World} {K : Cfg} {mg : Str → Option Value} {base : Heap} {f : Addr} {fd : FuncData} {cdv : Value} {C : Nat → Addr}
def G_right (K : Cfg) (C : Nat → Addr) (ds : List D) (r : D) : Prop := ∃ d, ds = [exA K C d, .str d.rd.shown] ∧ RdOk d ∧ r = .bl true
theorem f__law_right (d : Df K mg "_law_right" s__law_right [] cdv f fd) (mm : Mg mg) (cl : Cl P K mg C) (hsm : (K.K.lookup sysModules).isSome = true) (c__law_code : Fd P w K mg base 1 "_law_code" (spF K 1 (G_code K C)) [])
    (c__law_is_error : Fd P w K mg base 1 "_law_is_error" (spF K 1 (G_is_error K C)) []) : FdG P w K mg base 2 "_law_right" (spF K 2 (G_right K C)) :=
  FdG.mk' (fn_dG (k := 1) d sc__law_right fun A outer s H E hgd hr => ⟨_, (by have sc := sc__law_right; exact (pss_cons (ps_if (pt_cmpR (k_neD K.K (by rfl) (by exact hr.units)) (pe_lc (own := [("_law_error", 2)]) (by rfl) sc.nd (k_pil K.K (by rfl) (pv 0)) (blkOk_by (show blkC N__law_right (defScope s__law_right) _ _ = true by decide +kernel)) (fun _ _ _ _ _ => (pg_name (i := 2) sc.nd (by rfl) (by first | exact Or.inl rfl | exact Or.inr rfl))) (fun _ _ _ _ _ => pts_nil) (fun _ _ _ _ _ => (pe_f c__law_code hr (by omega) (by rfl) (pa_cons (pv 2) pa_nil)))) (pe_lc (own := [("_law_at", 3)]) (by rfl) sc.nd (pi_range1 (by rfl) mm.range_ (pa_cons pe_int pa_nil)) (blkOk_by (show blkC N__law_right (defScope s__law_right) _ _ = true by decide +kernel)) (fun _ _ _ _ _ => (pg_name (i := 3) sc.nd (by rfl) (by first | exact Or.inl rfl | exact Or.inr rfl))) (fun _ _ _ _ _ => pts_nil) (fun _ _ _ _ _ => (pe_lst (pa_cons (pv 3) pa_nil)))) (nomark _)) (pss_one (ps_ret pe_bl)) pss_nil)
      (pss_one (ps_ret (pe_cmpR (k_eqD K.K (by rfl) (by exact hr.units)) (pe_lc (own := [("_law_error", 2)]) (by rfl) sc.nd (k_pil K.K (by rfl) (pv 0)) (blkOk_by (show blkC N__law_right (defScope s__law_right) _ _ = true by decide +kernel)) (fun _ _ _ _ _ => (pg_name (i := 2) sc.nd (by rfl) (by first | exact Or.inl rfl | exact Or.inr rfl))) (fun _ _ _ _ _ => (pts_one (PW.pt (pw_or (pt_not (pt_val (pe_f c__law_is_error hr (by omega) (by rfl) (pa_cons (pv 2) pa_nil)))) (pw_or1 (pt_cmpR op_ne (pe_callB (call_reprD K (by exact hgd) (by exact units200 hr) hsm) (by rfl) mm.repr_ (by rfl) (pa_cons (pe_fx (n := "value") K.K (by rfl) (pv 2)) pa_nil)) (pv 1) (nomark _))))))) (fun _ _ _ _ _ => (pv 2))) (pe_lst pa_nil) (nomark _)))))), fun ds r hl hG B M De hE hR => by
    obtain ⟨x, rfl, hx, rfl⟩ := hG
    have hs : ∀ (ρ : Env), ρ[0]? = some (.dat (exA K C x)) → SrcC K (iList K (tVar 0)) ρ ((List.range 39).map fun i => D.ob (exV K (C i) x)) := fun ρ h => srcC_list (EvD.l (ev_var h))
    have hA := ev_lcm (K := K) (ρ := startE N__law_right.length [exA K C x, .str x.rd.shown]) (wi := iList K (tVar 0)) (g := gName 2) (te := tCall (spF K 1 (G_code K C)) [] E0 (tCons (tVar 2) tNil)) (vs := [2]) (ix := [2]) (L := List.range 39) (enc := fun i => D.ob (exV K (C i) x)) (fun i : Nat => .lst [D.int (0 + (i : Int))]) (hs _ rfl) (by rw [List.length_range]; decide) fun i hi => ⟨_, b_name, (ev_call0 (ea_cons (ev_var rfl) ea_nil) rfl ⟨_, i, rfl, by have := List.mem_range.mp hi; omega, isK_V, rfl⟩).cast (by rw [code_one i (by have := List.mem_range.mp hi; omega)])⟩
    have hB := ev_lcm (K := K) (ρ := startE N__law_right.length [exA K C x, .str x.rd.shown]) (wi := iRng1 (tCons (tC (.int 39)) tNil)) (g := gName 3) (te := tLst (tCons (tVar 3) tNil)) (vs := [3]) (ix := [3]) (L := List.range 39) (enc := fun i : Nat => D.int (0 + (i : Int))) (fun i : Nat => .lst [D.int (0 + (i : Int))]) (src_rng1 (n := 39) (ea_cons ev_int ea_nil) ⟨by decide, by decide⟩).c (by rw [List.length_range]; decide) fun i hi => ⟨_, b_name, ev_lst (ea_cons (ev_var rfl) ea_nil) (by show 1 ≤ 100000; decide)⟩
    have hok : (D.lst ((List.range 39).map fun i : Nat => .lst [D.int (0 + (i : Int))])).ok 4 = true := by decide +kernel
    have heq : (!D.eq (D.lst ((List.range 39).map fun i : Nat => .lst [D.int (0 + (i : Int))])) (D.lst ((List.range 39).map fun i : Nat => .lst [D.int (0 + (i : Int))]))) = false := by decide +kernel
    refine q_if (b := false) (et_test ((ev_ne 4 hA hB hok hok).cast (by rw [heq]))) (fun h => by cases h) fun _ => ?_
    have hC := ev_lc (K := K) (ρ := startE N__law_right.length [exA K C x, .str x.rd.shown]) (wi := iList K (tVar 0)) (g := gName 2) (tt := L2.tOr (L2.tNot (tB (tCall (spF K 1 (G_is_error K C)) [] E0 (tCons (tVar 2) tNil)))) (tTest (tOp rNe (tCB (rRepr K) (tCons (tFx K.K "value" (tVar 2)) tNil)) (tVar 1)))) (te := tVar 2) (vs := [2]) (ix := [2]) (L := List.range 39) (enc := fun i => D.ob (exV K (C i) x)) (fun _ => false) (fun i => D.ob (exV K (C i) x)) (hs _ rfl) (by rw [List.length_range]; decide) fun i hi => ⟨_, b_name, (et_or (a := false) (b := false) ((et_not (et_B (ev_call0 (d := .bl true) (ea_cons (ev_var rfl) ea_nil) rfl ⟨_, i, rfl, by have := List.mem_range.mp hi; omega, isK_V, rfl⟩))).cast rfl) fun _ => et_test ((ev_neS (ev_repr (ev_fxV (C := C i) (ev_var rfl) (cl.v i _ (List.getElem?_eq_getElem (show i < nsV.length from List.mem_range.mp hi))).xf (cl.v i _ (List.getElem?_eq_getElem (show i < nsV.length from List.mem_range.mp hi))).noat) hx.ok hx.sh hx.dp hx.sz) (ev_var rfl)).cast (by simp))).cast rfl, fun h => by cases h⟩
    exact h_ret ((ev_eq 2 (hC.cast (d' := .lst []) (by simp)) (ev_lst ea_nil (by decide)) (by decide) (by decide)).cast rfl) hR⟩) d (bd__law_right d)
end
end Dl
/-! The thing changed in place. -/
namespace Dl
open PySem PySem.Spec PyProof.Rows L2 LamX RZ
/-- the slot forgotten -/
theorem h_forget {K : Cfg} {B : Hp} {M : List Addr} {ρ : Env} {P : L2.St → Hp → Prop} (i : Nat) {s : Sl} (h : ρ[i]? = some s) (k : Hold K B M (ρ.set i .no) P) : Hold K B M ρ P := fun B' b σ H st => by
  obtain ⟨o, e1, _⟩ := st.ev.get h
  have st2 := st.set (i := i) (s := .no) (o := o) rfl True.intro
  rw [set_self e1] at st2
  exact k B' b σ H st2
section
variable {K : Cfg} {B H : Hp} {C : Nat → Addr} {p l : Addr} {ns : List Int} {x : Str} {v : V} {d d' : D} {σ : L2.St} {De : Ends} {w : TS}
abbrev rE (C : Nat → Addr) (p : Addr) (ns : List Int) (x : Str) (v : V) (d : D) : Env := [.no, .own p (ns.map D.int), .dat (.str x), .no, .fix v d, .no, .dat (allR C v), .dat (allR C v), .no, .no, .no]
/-- no list of 39, no error -/
def Plain (o : HO) : Prop := (∀ vs, o = .lst vs → vs.length ≠ 39) ∧ (∀ a cls dd, o ≠ exq a cls dd) ∧ ∀ fs, o ≠ .xd fs
theorem plain_lst {vs : List V} (h : vs.length ≠ 39) : Plain (.lst vs) := ⟨fun ws e => by cases e; exact h, fun _ _ _ z => (by cases z), fun _ z => (by cases z)⟩
theorem plain_dK {vs : List (Key × V)} : Plain (.dK vs) := ⟨fun ws e => (by cases e), fun _ _ _ z => (by cases z), fun _ z => (by cases z)⟩
theorem allR_upd {M : List Addr} {q : Addr} {o o' : HO} {u v : V} (hq : H q = some o) (hp : Plain o) (h : Rp K (hid H M) u (allR C v)) : Rp K (hid (upd H q o') M) u (allR C v) := by
  unfold allR at h ⊢
  cases h with
  | @lst l vs _ g1 g2 =>
    have hl : vs.length = 39 := by rw [g2.len, List.length_map, List.length_map, List.length_range]
    have nl : l ≠ q := fun z => by
      subst z
      have e := (hid_some g1).2
      rw [hq] at e
      cases e
      exact hp.1 vs rfl hl
    refine .lst (by rw [hid_upd_ne l nl]; exact g1) ?_
    clear g1 hl nl
    generalize (List.range 39).map C = cs at g2 ⊢
    induction cs generalizing vs with
    | nil => cases g2; exact .nil
    | cons c cs ih =>
      cases g2 with
      | cons a1 a2 =>
        obtain ⟨a, rfl, dd, e1, e2⟩ := rp_exR a1
        have na : a ≠ q := fun z => by
          subst z
          have e := (hid_some e1).2
          rw [hq] at e
          exact hp.2.1 _ _ _ (Option.some.inj e)
        have nd : dd ≠ q := fun z => by
          subst z
          have e := (hid_some e2).2
          rw [hq] at e
          exact hp.2.2 _ (Option.some.inj e)
        exact .cons (exR_rp ⟨dd, by rw [hid_upd_ne a na]; exact e1, by rw [hid_upd_ne dd nd]; exact e2⟩) (ih a2)
theorem st_change {q : Addr} {o o' : HO} (st : StOk K B [] (rE C p ns x v d) σ H) (hq : H q = some o) (lk : Lk o) (np : q ≠ p) (hp : Plain o) (r : Rp K (hid (upd H q o') [p]) v d') : StOk K (hid (upd H q o') [p]) [] (rE C p ns x v d') σ (upd H q o') := by
  obtain ⟨_, _, _, _, mo, ev0⟩ := st
  refine ⟨hid_ge, (fun a h => hid_in h), (by show [p].Nodup; simp), (fun a h => by simp), mo.upd hq lk, ?_⟩
  show EOk K [p] (upd H q o') (rE C p ns x v d') σ
  have ev : EOk K [p] H (rE C p ns x v d) σ := ev0
  clear ev0
  cases ev with | cons e0 ev =>
  cases ev with | cons e1 ev =>
  cases ev with | cons e2 ev =>
  cases ev with | cons e3 ev =>
  cases ev with | cons e4 ev =>
  cases ev with | cons e5 ev =>
  cases ev with | cons e6 ev =>
  cases ev with | cons e7 ev =>
  cases ev with | cons e8 ev =>
  cases ev with | cons e9 ev =>
  cases ev with | cons e10 ev =>
  cases ev
  obtain ⟨f1, f2, vs, f3, f4⟩ := e1
  obtain ⟨u2, g2, r2⟩ := e2
  obtain ⟨u6, g6, r6⟩ := e6
  obtain ⟨u7, g7, r7⟩ := e7
  have ev := RpA.ints f4
  subst ev
  cases r2
  exact .cons True.intro (.cons ⟨f1, f2, _, by rw [upd_ne np.symm]; exact f3, RpA.of_ints ns⟩ (.cons ⟨_, g2, .str _⟩ (.cons True.intro (.cons ⟨e4.1, r⟩ (.cons True.intro (.cons ⟨u6, g6, allR_upd hq hp r6⟩ (.cons ⟨u7, g7, allR_upd hq hp r7⟩ (.cons True.intro (.cons True.intro (.cons True.intro .nil))))))))))
/-- the purses' list stands -/
abbrev Ps (l p : Addr) (B : Hp) : Prop := B l = some (.lst [.ref p])
theorem ps_upd {q : Addr} {o o' : HO} (nlp : l ≠ p) (h : H l = some (.lst [.ref p])) (hq : H q = some o) (ho : o ≠ .lst [.ref p]) : Ps l p (hid (upd H q o') [p]) := by
  have nl : l ≠ q := fun z => by
    rw [z, hq] at h
    exact ho (Option.some.inj h)
  show hid (upd H q o') [p] l = _
  rw [hid_out (by simpa using nlp), upd_ne nl]
  exact h
abbrev sLater : V := .str "later"
abbrev dLater : D := .str "later"
/-- thing.append('later') -/
theorem chg_l1 (nlp : l ≠ p) (hl : Ps l p B) (k : ∀ B2, Ps l p B2 → Hold K B2 [] (rE C p ns x v (.lst [.str x, dLater])) De.nx) : Hold K B [] (rE C p ns x v (.lst [.str x])) (tDrop (tBM K.K "list" rAppend (tVar 4) (tCons (tC sLater) tNil)) De) := fun B' b σ H st => by
  obtain ⟨o, e1, ev, r⟩ := st.ev.get (i := 4) rfl
  subst ev
  have hl' : H l = some (.lst [.ref p]) := (b.trans st.ex).kp.lst hl
  have r : Rp K (hid H [p]) v (.lst [.str x]) := r
  cases r with
  | @lst q vs _ g1 g2 =>
    obtain ⟨np, g1⟩ := hid_some g1
    have np : q ≠ p := by simpa using np
    cases g2 with | cons a1 a2 =>
    cases a1
    cases a2
    exact ⟨_, e1, .inl ⟨rfl, _, sq_of g1⟩, q, _, sLater, rfl, rfl, g1, sz_lt (by show 1 < 100000; decide), k _ (ps_upd nlp hl' g1 (fun z => by cases z)) _ (Ge.refl _) _ _ (st_change st g1 True.intro np (plain_lst (by show 1 ≠ 39; decide)) (.lst (by rw [hid_out (by simpa using np), upd_same]; rfl) (.cons (.str _) (.cons (.str _) .nil))))⟩
theorem chg_l2 (nlp : l ≠ p) (hl : Ps l p B) (k : ∀ B2, Ps l p B2 → Hold K B2 [] (rE C p ns x v (.lst [.lst [.str x], .dK [.inr "odd"] [.str x], dLater])) De.nx) : Hold K B [] (rE C p ns x v (.lst [.lst [.str x], .dK [.inr "odd"] [.str x]])) (tDrop (tBM K.K "list" rAppend (tVar 4) (tCons (tC sLater) tNil)) De) := fun B' b σ H st => by
  obtain ⟨o, e1, ev, r⟩ := st.ev.get (i := 4) rfl
  subst ev
  have hl' : H l = some (.lst [.ref p]) := (b.trans st.ex).kp.lst hl
  have r : Rp K (hid H [p]) v (.lst [.lst [.str x], .dK [.inr "odd"] [.str x]]) := r
  cases r with
  | @lst q vs _ g1 g2 =>
    obtain ⟨np, g1⟩ := hid_some g1
    have np : q ≠ p := by simpa using np
    cases g2 with | cons a1 a2 =>
    cases a2 with | cons a2 a3 =>
    cases a3
    cases a1 with
    | @lst q1 vs1 _ b1 b2 =>
      cases a2 with
      | @dK q2 _ vs2 _ c1 c2 c3 =>
        cases b2 with | cons b2 b3 =>
        cases b2
        cases b3
        have n1 : q1 ≠ q := fun z => by
          subst z
          have e := (hid_some b1).2
          rw [g1] at e
          cases e
        have n2 : q2 ≠ q := fun z => by
          subst z
          have e := (hid_some c1).2
          rw [g1] at e
          cases e
        exact ⟨_, e1, .inl ⟨rfl, _, sq_of g1⟩, q, _, sLater, rfl, rfl, g1, sz_lt (by decide : 2 < 100000), k _ (ps_upd nlp hl' g1 (fun z => by cases z)) _ (Ge.refl _) _ _ (st_change st g1 True.intro np (plain_lst (by show 2 ≠ 39; decide)) (.lst (by rw [hid_out (by simpa using np), upd_same]; rfl) (.cons (.lst (by rw [hid_upd_ne q1 n1]; exact b1) (.cons (.str _) .nil)) (.cons (.dK (by rw [hid_upd_ne q2 n2]; exact c1) c2 (by cases c3 with | cons c3 c4 => cases c3; cases c4; exact .cons (.str _) .nil)) (.cons (.str _) .nil)))))⟩
theorem chg_t (nlp : l ≠ p) (hl : Ps l p B) (k : ∀ B2, Ps l p B2 → Hold K B2 [] (rE C p ns x v (.tup [.str x, .lst [.str x, dLater]])) De.nx) : Hold K B [] (rE C p ns x v (.tup [.str x, .lst [.str x]])) (tDrop (tBM K.K "list" rAppend (tOp (rIxT K.K) (tVar 4) (tC (.int 1))) (tCons (tC sLater) tNil)) De) := fun B' b σ H st => by
  obtain ⟨o, e1, ev, r⟩ := st.ev.get (i := 4) rfl
  subst ev
  have hl' : H l = some (.lst [.ref p]) := (b.trans st.ex).kp.lst hl
  have r : Rp K (hid H [p]) v (.tup [.str x, .lst [.str x]]) := r
  cases r with
  | @tup q vs _ g1 g2 =>
    cases g2 with | cons a1 a2 =>
    cases a1
    cases a2 with | cons a2 a3 =>
    cases a3
    cases a2 with
    | @lst q1 vs1 _ b1 b2 =>
      cases b2 with | cons b2 b3 =>
      cases b2
      cases b3
      obtain ⟨np, b1⟩ := hid_some b1
      have np : q1 ≠ p := by simpa using np
      have n1 : q ≠ q1 := fun z => by
        subst z
        have e := (hid_some g1).2
        rw [b1] at e
        cases e
      exact ⟨_, e1, q, _, 1, .ref q1, rfl, rfl, st_of (hid_some g1).2, rfl, .inl ⟨rfl, _, sq_of b1⟩, q1, _, sLater, rfl, rfl, b1, sz_lt (by show 1 < 100000; decide), k _ (ps_upd nlp hl' b1 (fun z => by cases z)) _ (Ge.refl _) _ _ (st_change st b1 True.intro np (plain_lst (by show 1 ≠ 39; decide)) (.tup (by rw [hid_upd_ne q n1]; exact g1) (.cons (.str _) (.cons (.lst (by rw [hid_out (by simpa using np), upd_same]; rfl) (.cons (.str _) (.cons (.str _) .nil))) .nil))))⟩
theorem chg_d (hx : x ≠ "LATER") (nlp : l ≠ p) (hl : Ps l p B) (k : ∀ B2, Ps l p B2 → Hold K B2 [] (rE C p ns x v (.dK [.inr x, .inr "LATER"] [.lst [.str x, dLater], .int 1])) De.nx) :
    Hold K B [] (rE C p ns x v (.dK [.inr x] [.lst [.str x]])) (tSeq (tDrop (tBM K.K "list" rAppend (tDGet (tVar 4) (tVar 2)) (tCons (tC sLater) tNil))) (sDPut (tVar 4) (tC (.str "LATER")) (tC (.int 1))) De) := fun B' b σ H st => by
  obtain ⟨o, e1, ev, r⟩ := st.ev.get (i := 4) rfl
  obtain ⟨o2, e2, u2, rfl, r2⟩ := st.ev.get (i := 2) rfl
  subst ev
  cases r2
  have hl' : H l = some (.lst [.ref p]) := (b.trans st.ex).kp.lst hl
  have r : Rp K (hid H [p]) v (.dK [.inr x] [.lst [.str x]]) := r
  cases r with
  | @dK q _ vs _ g1 g3 g2 =>
    cases g2 with | cons a1 a2 =>
    cases a2
    cases a1 with
    | @lst q1 vs1 _ b1 b2 =>
      cases b2 with | cons b2 b3 =>
      cases b2
      cases b3
      obtain ⟨np, b1⟩ := hid_some b1
      obtain ⟨np0, g1⟩ := hid_some g1
      have np0 : q ≠ p := by simpa using np0
      have np : q1 ≠ p := by simpa using np
      have n1 : q ≠ q1 := fun z => by
        subst z
        rw [b1] at g1
        cases g1
      have st1 := st_change (d' := .dK [.inr x] [.lst [.str x, dLater]]) (o' := .lst ([.str x] ++ [sLater])) st b1 True.intro np (plain_lst (by show 1 ≠ 39; decide)) (.dK (vs := [.ref q1]) (by rw [hid_upd_ne q n1, hid_out (by simpa using np0)]; exact g1) rfl (.cons (.lst (by rw [hid_out (by simpa using np), upd_same]; rfl) (.cons (.str _) (.cons (.str _) .nil))) .nil))
      have ps1 : Ps l p (hid (upd H q1 (.lst ([.str x] ++ [sLater]))) [p]) := ps_upd nlp hl' b1 (fun z => by cases z)
      have hl1 : (upd H q1 (.lst ([.str x] ++ [sLater]))) l = some (.lst [.ref p]) := (hid_some ps1).2
      have g4 : (upd H q1 (.lst ([.str x] ++ [sLater]))) q = some (.dK [(.inr x, .ref q1)]) := by rw [upd_ne n1]; exact g1
      have hput : putK ([(.inr x, .ref q1)] : List (Key × V)) (.inr "LATER") (.int 1) = [(.inr x, .ref q1), (.inr "LATER", .int 1)] := by
        unfold putK
        rw [if_neg]
        · rfl
        · rw [List.any_eq_true]
          rintro ⟨z, hz, he⟩
          rw [List.mem_singleton.mp hz] at he
          have := of_decide_eq_true he
          exact hx (Sum.inr.inj this)
      refine ⟨_, e1, _, e2, q, .ref q1, rfl, .inl ⟨_, .inr x, .inl g1, rfl, by show some _ = valV [(Sum.inr x, V.ref q1)] (.inr x); unfold valV; simp⟩, .inl ⟨rfl, _, sq_of b1⟩, q1, _, sLater, rfl, rfl, b1, sz_lt (by show 1 < 100000; decide), ?_⟩
      refine ⟨_, e1, q, _, rfl, DPut.k (k := .inr "LATER") g4 (sz_lt (by decide : 1 < 100000)), ?_⟩
      rw [hput]
      exact k _ (ps_upd nlp hl1 g4 (fun z => by cases z)) _ (Ge.refl _) _ _ (st_change st1 g4 True.intro np0 plain_dK (.dK (vs := [.ref q1, .int 1]) (by rw [hid_out (by simpa using np0), upd_same]; rfl) rfl (.cons (.lst (by rw [hid_upd_ne q1 (Ne.symm n1), hid_out (by simpa using np), upd_same]; rfl) (.cons (.str _) (.cons (.str _) .nil))) (.cons (.int _) .nil))))
end
end Dl
/-! The law's parts. -/
namespace Dl
open PySem PySem.Spec PyProof.Rows L2 LamX RZ
theorem low_ok {x : Str} (h : WordOk x) : okS x = true := by
  unfold okS
  rw [← Array.all_toList, List.all_eq_true]
  intro c hc
  have := (h.low c hc).2
  exact decide_eq_true (by omega)
theorem low_ne {x : Str} (h : WordOk x) : x ≠ "LATER" := fun e => by
  have hc : 76 ∈ x.cps.toList := by rw [e]; decide +kernel
  have := (h.low 76 hc).1
  omega
theorem rdOk_of {d : D} (h : d.okR = true) (dp : Nat.ble d.rd.depth 60 = true) (sz : d.szR ≤ 10000) : RdOk d := by
  obtain ⟨h1, h2, h3⟩ := D.rd_facts d h
  exact ⟨h1, h2, Nat.le_of_ble_eq_true dp, Nat.le_trans h3 (Nat.le_trans sz (by decide))⟩
abbrev laterT (x : Str) : D := .tup [.str "later", .str x]
/-- what the thing may be -/
def plD (x : Str) (s : Int) : List D := [.non, .bl true, .bl false, .int 0, .str x, .int (-s), .tup [.str "says", .str x, .int 1, .int 2], .tup [.str x, .lst [.str x]], .dK [.inr x] [.lst [.str x]]]
def thD (x : Str) (s : Int) : List D := plD x s ++ [.lst [.str x], .lst [.lst [.str x], .dK [.inr "odd"] [.str x]]]
section
variable {x : Str} {s : Int} (hx : WordOk x) (hs : 0 ≤ s ∧ s < 2147483629)
include hx
theorem rd_tac {d : D} (h : d.okR = true) (dp : Nat.ble d.rd.depth 60 = true) (sz : ∀ n, n ≤ 8 → x.length = n → d.szR ≤ 10000) : RdOk d := rdOk_of h dp (sz _ hx.hi rfl)
theorem rd_later : RdOk (laterT x) := rd_tac hx (by simp [D.okR, D.okRA, low_ok hx, show okS "later" = true by decide +kernel]) rfl fun n hn e => by
  simp only [D.szR, D.szRA, e, show (Str.ofString "later").length = 5 from rfl]; omega
theorem rd_l1 : RdOk (.lst [.str x, dLater]) := rd_tac hx (by simp [D.okR, D.okRA, low_ok hx, show okS "later" = true by decide +kernel]) rfl fun n hn e => by
  simp only [D.szR, D.szRA, e, show (Str.ofString "later").length = 5 from rfl]; omega
theorem rd_l2 : RdOk (.lst [.lst [.str x], .dK [.inr "odd"] [.str x], dLater]) := rd_tac hx (by simp [D.okR, D.okRA, kOk, low_ok hx, show okS "later" = true by decide +kernel, show okS "odd" = true by decide +kernel]) rfl fun n hn e => by
  simp only [D.szR, D.szRA, List.map_cons, List.map_nil, List.sum_cons, List.sum_nil, kSz, List.length_cons, List.length_nil, e, show (Str.ofString "later").length = 5 from rfl, show (Str.ofString "odd").length = 3 from rfl]; omega
theorem rd_t : RdOk (.tup [.str x, .lst [.str x, dLater]]) := rd_tac hx (by simp [D.okR, D.okRA, low_ok hx, show okS "later" = true by decide +kernel]) rfl fun n hn e => by
  simp only [D.szR, D.szRA, e, show (Str.ofString "later").length = 5 from rfl]; omega
theorem rd_d : RdOk (.dK [.inr x, .inr "LATER"] [.lst [.str x, dLater], .int 1]) := rd_tac hx (by simp [D.okR, D.okRA, kOk, low_ok hx, show okS "later" = true by decide +kernel, show okS "LATER" = true by decide +kernel]; decide) rfl fun n hn e => by
  simp only [D.szR, D.szRA, List.map_cons, List.map_nil, List.sum_cons, List.sum_nil, kSz, List.length_cons, List.length_nil, e, show (Str.ofString "later").length = 5 from rfl, show (Str.ofString "LATER").length = 5 from rfl]; omega
include hs
theorem seed_short : (-s).natAbs.log2 < 1920 := by
  have h : (-s).natAbs < 2 ^ 1920 := Nat.lt_of_lt_of_le (show (-s).natAbs < 2 ^ 31 by omega) (Nat.pow_le_pow_right (by decide) (by decide))
  by_cases z : (-s).natAbs = 0
  · rw [z]; decide
  · exact (Nat.log2_lt z).mpr h
theorem rd_things {d : D} (h : d ∈ thD x s) : RdOk d := by
  have e1 : (Str.ofString "says").length = 4 := rfl
  have e2 : (Str.ofString "odd").length = 3 := rfl
  have hsz := hx.hi
  simp only [thD, plD, List.cons_append, List.nil_append, List.mem_cons, List.not_mem_nil, or_false] at h
  rcases h with rfl | rfl | rfl | rfl | rfl | rfl | rfl | rfl | rfl | rfl | rfl
  · exact rdOk_of rfl rfl (by decide)
  · exact rdOk_of rfl rfl (by decide)
  · exact rdOk_of rfl rfl (by decide)
  · exact rdOk_of (by decide) rfl (by decide)
  · exact rdOk_of (low_ok hx) rfl (by simp only [D.szR]; omega)
  · exact rdOk_of (by simpa [D.okR] using seed_short hx hs) rfl (by simp only [D.szR]; omega)
  · exact rdOk_of (by simp [D.okR, D.okRA, low_ok hx, show okS "says" = true by decide +kernel]; decide) rfl (by simp only [D.szR, D.szRA, e1]; omega)
  · exact rdOk_of (by simp [D.okR, D.okRA, low_ok hx]) rfl (by simp only [D.szR, D.szRA]; omega)
  · exact rdOk_of (by simp [D.okR, D.okRA, kOk, low_ok hx]) rfl (by simp only [D.szR, D.szRA, List.map_cons, List.map_nil, List.sum_cons, List.sum_nil, kSz, List.length_cons, List.length_nil]; omega)
  · exact rdOk_of (by simp [D.okR, D.okRA, low_ok hx]) rfl (by simp only [D.szR, D.szRA]; omega)
  · exact rdOk_of (by simp [D.okR, D.okRA, kOk, low_ok hx, show okS "odd" = true by decide +kernel]) rfl (by simp only [D.szR, D.szRA, List.map_cons, List.map_nil, List.sum_cons, List.sum_nil, kSz, List.length_cons, List.length_nil, e2]; omega)
end
section
variable {K : Cfg} {B : Hp} {C : Nat → Addr} {p l : Addr} {ns : List Int} {x : Str} {v : V} {d : D} {De : Ends} {s : Int}
theorem ev_right {ρ : Env} {t : TA} (h : EvA K t ρ [exA K C d, .str d.rd.shown]) (hx : RdOk d) : EvD K (tCall (spF K 2 (G_right K C)) [] E0 t) ρ (.bl true) := ev_call0 h rfl ⟨d, rfl, hx, rfl⟩
theorem tell_allR {ρ : Env} {te : TE} (h : EvD K te ρ (allR C v)) (k : Knows K ρ v d) : EvD K te ρ (exA K C d) := (ev_tellA h k).cast (by unfold exA; rw [List.map_map]; rfl)
/-- not a, or not b: both true -/
theorem et_nor {ρ : Env} {ta tb : TE} (h1 : EvD K ta ρ (.bl true)) (h2 : EvD K tb ρ (.bl true)) : EvT K (L2.tOr (L2.tNot (tB ta)) (L2.tNot (tB tb))) ρ false := (et_or (a := false) (b := false) ((et_not (et_B h1)).cast rfl) fun _ => (et_not (et_B h2)).cast rfl).cast rfl
abbrev tRt (K : Cfg) (C : Nat → Addr) (i : Nat) : TE := tCall (spF K 2 (G_right K C)) [] E0 (tCons (tVar i) (tCons (tCB (rRepr K) (tCons (tVar 4) tNil)) tNil))
abbrev sLast (K : Cfg) (C : Nat → Addr) : TS := tIfS (L2.tOr (L2.tNot (tB (tRt K C 6))) (L2.tNot (tB (tRt K C 7)))) (tRet (tC (.bl false))) tNext
abbrev sTup (K : Cfg) : TS := tIfS (L2.tAnd (tB (tCB (rIsi K.K) (tCons (tVar 4) (tCons (tC (.ty "tuple")) tNil)))) (tB (tCB (rIsi K.K) (tCons (tOp (rIxT K.K) (tVar 4) (tC (.int 1))) (tCons (tC (.ty "list")) tNil))))) (tDrop (tBM K.K "list" rAppend (tOp (rIxT K.K) (tVar 4) (tC (.int 1))) (tCons (tC sLater) tNil))) tNext
abbrev sDic (K : Cfg) : TS := tIfS (tB (tCB (rIsi K.K) (tCons (tVar 4) (tCons (tC (.ty "dict")) tNil)))) (tSeq (tDrop (tBM K.K "list" rAppend (tDGet (tVar 4) (tVar 2)) (tCons (tC sLater) tNil))) (sDPut (tVar 4) (tC (.str "LATER")) (tC (.int 1)))) tNext
abbrev sLst (K : Cfg) : TS := tIfS (tB (tCB (rIsi K.K) (tCons (tVar 4) (tCons (tC (.ty "list")) tNil)))) (tDrop (tBM K.K "list" rAppend (tVar 4) (tCons (tC sLater) tNil))) tNext
theorem law_last (hx : RdOk d) (hn : Hold K B [] (rE C p ns x v d) De.nx) : Hold K B [] (rE C p ns x v d) (sLast K C De) := by
  have key : ∀ i, (rE C p ns x v d)[i]? = some (.dat (allR C v)) → EvD K (tRt K C i) (rE C p ns x v d) (.bl true) := fun i h => ev_right (ea_cons (tell_allR (ev_var h) (knows_fix (i := 4) rfl)) (ea_cons (ev_repr (ev_fixd (i := 4) rfl) hx.ok hx.sh hx.dp hx.sz) ea_nil)) hx
  exact e_if (et_nor (key 6 rfl) (key 7 rfl)) (fun h => by cases h) fun _ => hn
theorem et_isi {c : String} {b : Bool} (hc : c = "int" ∨ c = "bool" ∨ c = "str" ∨ c = "list" ∨ c = "tuple" ∨ c = "dict") (hno : d.noOb = true) (e : d.isA c = b) : EvT K (tB (tCB (rIsi K.K) (tCons (tVar 4) (tCons (tC (.ty c)) tNil)))) (rE C p ns x v d) b := et_B ((ev_isi (ev_fixd rfl) hc hno).cast (by rw [e]))
variable (hn : ∀ (B : Hp) (d : D), Ps l p B → Hold K B [] (rE C p ns x v d) De.nx)
include hn
theorem law_tup (h3 : d.isA "tuple" = false ∨ ∃ a b r, d = .tup (a :: b :: r) ∧ b.isA "list" = false ∧ b.noOb = true) (hno : d.noOb = true) (hx : RdOk d) (hl : Ps l p B) : Hold K B [] (rE C p ns x v d) (tSeq (sTup K) (sLast K C) De) := by
  refine q_if (b := false) ?_ (fun h => by cases h) fun _ => law_last hx (hn _ _ hl)
  rcases h3 with h3 | ⟨a, b, r, rfl, h3, h4⟩
  · exact (et_and (a := false) (b := false) (et_B ((ev_isi (ev_fixd rfl) tyTuple hno).cast (by rw [h3]))) (fun h => by cases h)).cast rfl
  · exact (et_and (a := true) (b := false) (et_B (ev_isi (ev_fixd rfl) tyTuple hno)) fun _ => et_B ((ev_isi (ev_ixT (ev_fixd rfl) ev_int (atI_nat (j := 1) rfl)) tyList h4).cast (by rw [h3]))).cast rfl
theorem law_dic (h2 : d.isA "dict" = false) (h3 : d.isA "tuple" = false ∨ ∃ a b r, d = .tup (a :: b :: r) ∧ b.isA "list" = false ∧ b.noOb = true) (hno : d.noOb = true) (hx : RdOk d) (hl : Ps l p B) : Hold K B [] (rE C p ns x v d) (tSeq (sDic K) (tSeq (sTup K) (sLast K C)) De) :=
  q_if (b := false) (et_B ((ev_isi (ev_fixd rfl) tyDict hno).cast (by rw [h2]))) (fun h => by cases h) fun _ => law_tup hn h3 hno hx hl
theorem law_same (h1 : d.isA "list" = false) (h2 : d.isA "dict" = false) (h3 : d.isA "tuple" = false ∨ ∃ a b r, d = .tup (a :: b :: r) ∧ b.isA "list" = false ∧ b.noOb = true) (hno : d.noOb = true) (hx : RdOk d) (hl : Ps l p B) :
    Hold K B [] (rE C p ns x v d) (tSeq (sLst K) (tSeq (sDic K) (tSeq (sTup K) (sLast K C))) De) :=
  q_if (b := false) (et_B ((ev_isi (ev_fixd rfl) tyList hno).cast (by rw [h1]))) (fun h => by cases h) fun _ => law_dic hn h2 h3 hno hx hl
theorem law_things (hw : WordOk x) (hs : 0 ≤ s ∧ s < 2147483629) (hd : d ∈ thD x s) (nlp : l ≠ p) (hl : Ps l p B) : Hold K B [] (rE C p ns x v d) (tSeq (sLst K) (tSeq (sDic K) (tSeq (sTup K) (sLast K C))) De) := by
  have hx := rd_things hw hs hd
  simp only [thD, plD, List.cons_append, List.nil_append, List.mem_cons, List.not_mem_nil, or_false] at hd
  rcases hd with rfl | rfl | rfl | rfl | rfl | rfl | rfl | rfl | rfl | rfl | rfl
  · exact law_same hn rfl rfl (.inl rfl) rfl hx hl
  · exact law_same hn rfl rfl (.inl rfl) rfl hx hl
  · exact law_same hn rfl rfl (.inl rfl) rfl hx hl
  · exact law_same hn rfl rfl (.inl rfl) rfl hx hl
  · exact law_same hn rfl rfl (.inl rfl) rfl hx hl
  · exact law_same hn rfl rfl (.inl rfl) rfl hx hl
  · exact law_same hn rfl rfl (.inr ⟨_, _, _, rfl, rfl, rfl⟩) rfl hx hl
  · refine q_if (b := false) (et_isi tyList rfl rfl) (fun h => by cases h) fun _ => q_if (b := false) (et_isi tyDict rfl rfl) (fun h => by cases h) fun _ => ?_
    exact q_if (b := true) ((et_and (a := true) (b := true) (et_isi tyTuple rfl rfl) fun _ => et_B ((ev_isi (d := .lst [.str x]) (ev_ixT (ev_fixd rfl) ev_int (atI_nat (j := 1) rfl)) tyList rfl).cast rfl)).cast rfl) (fun _ => chg_t nlp hl fun B2 h2 => law_last (rd_t hw) (hn _ _ h2)) fun h => by cases h
  · refine q_if (b := false) (et_isi tyList rfl rfl) (fun h => by cases h) fun _ => q_if (b := true) (et_isi tyDict rfl rfl) (fun _ => chg_d (low_ne hw) nlp hl fun B2 h2 => law_tup hn (.inl rfl) rfl (rd_d hw) h2) fun h => by cases h
  · refine q_if (b := true) (et_isi tyList rfl rfl) (fun _ => chg_l1 nlp hl fun B2 h2 => law_dic hn rfl (.inl rfl) rfl (rd_l1 hw) h2) fun h => by cases h
  · refine q_if (b := true) (et_isi tyList rfl rfl) (fun _ => chg_l2 nlp hl fun B2 h2 => law_dic hn rfl (.inl rfl) rfl (rd_l2 hw) h2) fun h => by cases h
end
section
variable {K : Cfg} {B : Hp} {C : Nat → Addr} {De : Ends}
theorem law_end (hrt : ∀ H, De.rt (.bl true) H) : Hold K B [] (List.replicate 11 .no) (tSeq (tAsg (tLst (tCons (tMade fun _ H Q => Q (.ref (C (nsV.length + 0))) none H) (tCons (tMade fun _ H Q => Q (.ref (C (nsV.length + 1))) none H) tNil))) (gName 9))
    (tSeq (tIfS (tTest (tOp (rNeD K.K) (tLc (iList K.K (tVar 9)) (gName 10) tYes (tCall (spF K 1 (G_code K C)) [] E0 (tCons (tVar 10) tNil)) [10]) (tLst (tCons (tLst (tCons (tC (.int 39)) tNil)) (tCons (tLst (tCons (tC (.int 40)) tNil)) tNil))))) (tRet (tC (.bl false))) tNext)
      (tSeq (tDrop (tBM K.K "list" rAppend (tVar 9) (tCons (tMade fun _ H Q => Q (.ref (C (nsV.length + 2))) none H) tNil)))
        (tRet (tAndV (tCB (rAll K.K) (tCons (tLc (iList K.K (tVar 9)) (gName 10) tYes (tCall (spF K 1 (G_is_error K C)) [] E0 (tCons (tVar 10) tNil)) [10]) tNil)) (tOp (rEqD K.K) (tCall (spF K 1 (G_code K C)) [] E0 (tCons (tOp (rIxL K.K) (tVar 9) (tC (.int 2))) tNil)) (tLst tNil)))))) De) := by
  refine q_own (xs := [39, 40].map fun i => D.ob (exK (C i))) (en_lst (ds := [39, 40].map fun i => D.ob (exK (C i))) (ea_cons (ev_madeN (C := C 39)) (ea_cons (ev_madeN (C := C 40)) ea_nil)) (by show 2 ≤ 100000; decide)) fun q hq => ?_
  have hA := ev_lcm (K := K) (ρ := [.no, .no, .no, .no, .no, .no, .no, .no, .no, .own q ([39, 40].map fun i => D.ob (exK (C i))), .no]) (wi := iList K (tVar 9)) (g := gName 10) (te := tCall (spF K 1 (G_code K C)) [] E0 (tCons (tVar 10) tNil)) (vs := [10]) (ix := [10]) (L := [39, 40]) (enc := fun i => D.ob (exK (C i))) (fun i => .lst (codeF i)) (srcC_list (el_own rfl)) (by decide) fun i hi => ⟨_, b_name, ev_call0 (ea_cons (ev_var rfl) ea_nil) rfl ⟨_, i, rfl, by
    simp only [List.mem_cons, List.not_mem_nil, or_false] at hi
    omega, isK_K, rfl⟩⟩
  have hA2 := hA.cast (show _ = D.lst [.lst [.int 39], .lst [.int 40]] by
    show D.lst [.lst (codeF 39), .lst (codeF 40)] = _
    rw [code_one 39 (by decide), code_one 40 (by decide)]
    rfl)
  refine q_if (b := false) (et_test ((ev_ne 4 hA2 (ev_lst (ea_cons (ev_lst (ea_cons ev_int ea_nil) (by show 1 ≤ 100000; decide)) (ea_cons (ev_lst (ea_cons ev_int ea_nil) (by show 1 ≤ 100000; decide)) ea_nil)) (by show 2 ≤ 100000; decide)) (by decide) (by decide)).cast (show _ = D.bl false from congrArg D.bl (by decide)))) (fun h => by cases h) fun _ => ?_
  refine q_app (i := 9) (a := q) (d := .ob (exK (C 41))) rfl ev_madeN (by show 2 < 100000; decide) ?_
  have hB := ev_lcm (K := K) (ρ := [.no, .no, .no, .no, .no, .no, .no, .no, .no, .own q ([39, 40, 41].map fun i => D.ob (exK (C i))), .no]) (wi := iList K (tVar 9)) (g := gName 10) (te := tCall (spF K 1 (G_is_error K C)) [] E0 (tCons (tVar 10) tNil)) (vs := [10]) (ix := [10]) (L := [39, 40, 41]) (enc := fun i => D.ob (exK (C i))) (fun i => .bl true) (srcC_list (el_own rfl)) (by decide) fun i hi => ⟨_, b_name, ev_call0 (ea_cons (ev_var rfl) ea_nil) rfl ⟨_, i, rfl, by
    simp only [List.mem_cons, List.not_mem_nil, or_false] at hi
    omega, isK_K, rfl⟩⟩
  refine h_ret (d := .bl true) ((ev_andV (a := true) (b := true) ((ev_all (bs := [true, true, true]) (EvD.l hB)).cast rfl) fun _ => (ev_eq 2 (ev_call0 (d := .lst (codeF 41)) (ea_cons (ev_ixL (d := .ob (exK (C 41))) (el_own rfl) ev_int (atI_nat (j := 2) rfl)) ea_nil) rfl ⟨_, 41, rfl, by decide, isK_K, rfl⟩) (ev_lst ea_nil (by decide)) (by decide) (by decide)).cast rfl).cast rfl) fun v H2 _ _ r => ?_
  cases r
  exact hrt H2
end
end Dl
/-! The law. -/
namespace Dl
open PySem PySem.Spec PyProof.Rows L2 LamX RZ
def spLaw (K : Cfg) : Sp := fun vs H Q _ => ∃ (a : Addr) (ns : List Int), vs = [.ref a] ∧ SqL K H a (ns.map V.int) ∧ LamX.Tabs K.T H ∧ ∀ H', Q (.bl true) H'
theorem run_g {K : Cfg} {i : Nat} {v : V} {σ σ' : L2.St} {H : Hp} {t : TS} {De : Ends} {B : Hp} {M : List Addr} {ρ : Env} (hσ : σ.set i (some v) = σ') (h : Hold K B M ρ (t De)) (st : StOk K B M ρ σ' H) : gName i v σ H fun σ2 H2 => t De σ2 H2 := by
  subst hσ
  exact h B (Ge.refl _) _ H st
theorem st_none {K : Cfg} {H : Hp} (t : LamX.Tabs K.T H) : ∀ (n : Nat) (σ : L2.St), σ.length = n → StOk K H [] (List.replicate n .no) σ H := fun n σ hn => by
  have ho : owns (List.replicate n Sl.no) = [] := by
    unfold owns
    induction n with
    | zero => rfl
    | succ n ih => rw [List.replicate_succ, List.flatMap_cons]; simp [Sl.adr]
  refine ⟨Ge.refl _, fun a h => (by rw [ho] at h; cases h), by rw [ho]; exact List.nodup_nil, fun a h => (by rw [ho] at h; cases h), ⟨(fun a h => nomatch h), t⟩, ?_⟩
  rw [ho]
  clear ho
  show Paired _ _ _
  induction n generalizing σ with
  | zero => cases σ with
    | nil => exact .nil
    | cons a b => cases hn
  | succ n ih => cases σ with
    | nil => cases hn
    | cons a b => exact .cons True.intro (ih b (by simpa using hn))
section
variable {P : Program} {w : World} {K : Cfg} {mg : Str → Option Value} {base : Heap} {f : Addr} {fd : FuncData} {cdv : Value} {C : Nat → Addr}
theorem f_law (d : Df K mg "law" s_law [] cdv f fd) (mm : Mg mg) (cl : Cl P K mg C) (hsm : (K.K.lookup sysModules).isSome = true) (c__law_purses : Fd P w K mg base 2 "_law_purses" (spPurses K) []) (c__law_word : Fd P w K mg base 3 "_law_word" (spM K 0 G_word okWord) [])
    (c__law_one_of : Fd P w K mg base 3 "_law_one_of" (spM K 1 G_one okOne) []) (c__law_first : Fd P w K mg base 3 "_law_first" (spF K 1 (G_made K C)) []) (c__law_called : Fd P w K mg base 3 "_law_called" (spF K 1 (G_made K C)) [])
    (c__law_bare : Fd P w K mg base 3 "_law_bare" (spF K 0 (G_bare C)) []) (c__law_code : Fd P w K mg base 1 "_law_code" (spF K 1 (G_code K C)) []) (c__law_is_error : Fd P w K mg base 1 "_law_is_error" (spF K 1 (G_is_error K C)) [])
    (g__law_right : FdG P w K mg base 2 "_law_right" (spF K 2 (G_right K C))) :
    FnOkG P w K mg base 9 f fd ["_law_script"] (spLaw K) :=
  fn_anyG (k := 8) d sc_law (fun vs H Q E h => by obtain ⟨a, ns, rfl, _⟩ := h; rfl) fun A outer s H vs Q E hgd hr h => by
    obtain ⟨a, ns, rfl, hS, hT, hQ⟩ := h
    refine ⟨_, (by have sc := sc_law; exact (pss_cons (ps_for PassesOwn.never rfl (k_pil K.K (by rfl) (pe_f c__law_purses hr (by omega) (by rfl) (pa_cons (pv 0) (pa_cons pe_int pa_nil)))) (pg_name (i := 1) sc.nd (by rfl) (by first | exact Or.inl rfl | exact Or.inr rfl)) (pss_cons (ps_set (i := 2) sc.nd (by rfl) (by first | exact Or.inl rfl | exact Or.inr rfl) (pe_f c__law_word hr (by omega) (by rfl) (pa_cons (pv 1) pa_nil)))
      (pss_cons (ps_set (i := 3) sc.nd (by rfl) (by first | exact Or.inl rfl | exact Or.inr rfl) (pe_lst (pa_cons pe_non (pa_cons pe_bl (pa_cons pe_bl (pa_cons pe_int (pa_cons (pv 2) (pa_cons (pe_un un_neg (pe_ix (k_ixL K.K (by rfl)) (pv 1) pe_int (fun _ _ => rfl))) (pa_cons (pe_tup (pa_cons pe_str (pa_cons (pv 2) (pa_cons pe_int (pa_cons pe_int pa_nil))))) (pa_cons (pe_tup (pa_cons (pv 2) (pa_cons (pe_lst (pa_cons (pv 2) pa_nil)) pa_nil))) (pa_cons (pe_disp (pps_cons (pv 2) (pe_lst (pa_cons (pv 2) pa_nil)) pps_nil) (by rfl) (by rfl) (by simp) (by decide)) pa_nil)))))))))))
      (pss_cons (ps_set (i := 4) sc.nd (by rfl) (by first | exact Or.inl rfl | exact Or.inr rfl) (pe_f c__law_one_of hr (by omega) (by rfl) (pa_cons (pv 1) (pa_cons (pe_op op_cat (pv 3) (pe_lst (pa_cons (pe_lst (pa_cons (pv 2) pa_nil)) (pa_cons (pe_lst (pa_cons (pe_lst (pa_cons (pv 2) pa_nil)) (pa_cons (pe_disp (pps_cons pe_str (pv 2) pps_nil) (by rfl) (by rfl) (by simp) (by decide)) pa_nil))) pa_nil)))) pa_nil))))
      (pss_cons (ps_set (i := 5) sc.nd (by rfl) (by first | exact Or.inl rfl | exact Or.inr rfl) (pe_callB (call_reprD K (by exact hgd) (by exact units200 hr) hsm) (by rfl) mm.repr_ (by rfl) (pa_cons (pv 4) pa_nil)))
      (pss_cons (ps_par3 (i := 6) (j := 7) (l := 8) rfl sc.nd (by rfl) (by rfl) (by rfl) (by decide) (by decide) (by decide) (by rfl) (by rfl) (by rfl) (pa_cons (pe_f c__law_first hr (by omega) (by rfl) (pa_cons (pv 4) pa_nil)) (pa_cons (pe_f c__law_called hr (by omega) (by rfl) (pa_cons (pv 4) pa_nil)) (pa_cons (pe_f c__law_first hr (by omega) (by rfl) (pa_cons (pe_tup (pa_cons pe_str (pa_cons (pv 2) pa_nil))) pa_nil)) pa_nil))) (by rfl))
      (pss_cons (ps_if (PW.pt (pw_or (pt_not (pt_val (pe_fG g__law_right (by exact hgd) hr (by omega) (by rfl) (pa_cons (pe_f0 c__law_bare hr (by omega) (by rfl)) (pa_cons pe_str pa_nil))))) (pw_or1 (pt_not (pt_val (pe_fG g__law_right (by exact hgd) hr (by omega) (by rfl) (pa_cons (pv 8) (pa_cons (pe_callB (call_reprD K (by exact hgd) (by exact units200 hr) hsm) (by rfl) mm.repr_ (by rfl) (pa_cons (pe_tup (pa_cons pe_str (pa_cons (pv 2) pa_nil))) pa_nil)) pa_nil)))))))) (pss_one (ps_ret pe_bl)) pss_nil)
      (pss_cons (ps_if (PW.pt (pw_or (pt_not (pt_val (pe_fG g__law_right (by exact hgd) hr (by omega) (by rfl) (pa_cons (pv 6) (pa_cons (pv 5) pa_nil))))) (pw_or1 (pt_not (pt_val (pe_fG g__law_right (by exact hgd) hr (by omega) (by rfl) (pa_cons (pv 7) (pa_cons (pv 5) pa_nil)))))))) (pss_one (ps_ret pe_bl)) pss_nil)
      (pss_cons (ps_if (pt_val (pe_callB (k_isi K.K (by rfl)) (by rfl) mm.isinstance_ (by rfl) (pa_cons (pv 4) (pa_cons (pe_bltn (v := .ty "list") (by rfl) mm.list_ (by rfl) (by rfl)) pa_nil)))) (pss_one (ps_expr (k_bm K.K (by rfl) PySem.F.plainAttrs_list PySem.F.slot_list_append PySem.F.type_list_append mt_append (pv 4) (pa_cons pe_str pa_nil)))) pss_nil)
      (pss_cons (ps_if (pt_val (pe_callB (k_isi K.K (by rfl)) (by rfl) mm.isinstance_ (by rfl) (pa_cons (pv 4) (pa_cons (pe_bltn (v := .ty "dict") (by rfl) mm.dict_ (by rfl) (by rfl)) pa_nil)))) (pss_cons (ps_expr (k_bm K.K (by rfl) PySem.F.plainAttrs_list PySem.F.slot_list_append PySem.F.type_list_append mt_append (pe_dget (by exact hu_of hr) (pv 4) (pv 2) (fun _ _ => rfl)) (pa_cons pe_str pa_nil)))
      (pss_one (ps_dput (by exact hu_of hr) (pv 4) pe_str pe_int (by rfl)))) pss_nil)
      (pss_cons (ps_if (PW.pt (pw_and (pt_val (pe_callB (k_isi K.K (by rfl)) (by rfl) mm.isinstance_ (by rfl) (pa_cons (pv 4) (pa_cons (pe_bltn (v := .ty "tuple") (by rfl) mm.tuple_ (by rfl) (by rfl)) pa_nil)))) (pw_and1 (pt_val (pe_callB (k_isi K.K (by rfl)) (by rfl) mm.isinstance_ (by rfl) (pa_cons (pe_ix (k_ixT K.K (by rfl)) (pv 4) pe_int (fun _ _ => rfl)) (pa_cons (pe_bltn (v := .ty "list") (by rfl) mm.list_ (by rfl) (by rfl)) pa_nil))))))) (pss_one (ps_expr (k_bm K.K (by rfl) PySem.F.plainAttrs_list PySem.F.slot_list_append PySem.F.type_list_append mt_append (pe_ix (k_ixT K.K (by rfl)) (pv 4) pe_int (fun _ _ => rfl)) (pa_cons pe_str pa_nil)))) pss_nil)
      (pss_one (ps_if (PW.pt (pw_or (pt_not (pt_val (pe_fG g__law_right (by exact hgd) hr (by omega) (by rfl) (pa_cons (pv 6) (pa_cons (pe_callB (call_reprD K (by exact hgd) (by exact units200 hr) hsm) (by rfl) mm.repr_ (by rfl) (pa_cons (pv 4) pa_nil)) pa_nil))))) (pw_or1 (pt_not (pt_val (pe_fG g__law_right (by exact hgd) hr (by omega) (by rfl) (pa_cons (pv 7) (pa_cons (pe_callB (call_reprD K (by exact hgd) (by exact units200 hr) hsm) (by rfl) mm.repr_ (by rfl) (pa_cons (pv 4) pa_nil)) pa_nil)))))))) (pss_one (ps_ret pe_bl)) pss_nil)))))))))))))
      (pss_cons (ps_set (i := 9) sc.nd (by rfl) (by first | exact Or.inl rfl | exact Or.inr rfl) (pe_lst (pa_cons (pe_mkN (cl.n 0 _ rfl) (by rfl) (by rfl)) (pa_cons (pe_mkN (cl.n 1 _ rfl) (by rfl) (by rfl)) pa_nil))))
      (pss_cons (ps_if (pt_cmpR (k_neD K.K (by rfl) (by exact hr.units)) (pe_lc (own := [("_law_error", 10)]) (by rfl) sc.nd (k_pil K.K (by rfl) (pv 9)) (blkOk_by (show blkC N_law (defScope s_law) _ _ = true by decide +kernel)) (fun _ _ _ _ _ => (pg_name (i := 10) sc.nd (by rfl) (by first | exact Or.inl rfl | exact Or.inr rfl))) (fun _ _ _ _ _ => pts_nil) (fun _ _ _ _ _ => (pe_f c__law_code hr (by omega) (by rfl) (pa_cons (pv 10) pa_nil)))) (pe_lst (pa_cons (pe_lst (pa_cons pe_int pa_nil)) (pa_cons (pe_lst (pa_cons pe_int pa_nil)) pa_nil))) (nomark _)) (pss_one (ps_ret pe_bl)) pss_nil)
      (pss_cons (ps_expr (k_bm K.K (by rfl) PySem.F.plainAttrs_list PySem.F.slot_list_append PySem.F.type_list_append mt_append (pv 9) (pa_cons (pe_mkN (cl.n 2 _ rfl) (by rfl) (by rfl)) pa_nil)))
      (pss_one (ps_ret (pe_and (pe_callB (k_all K.K (by rfl) (by rfl)) (by rfl) mm.all_ (by rfl) (pa_cons (pe_lc (own := [("_law_error", 10)]) (by rfl) sc.nd (k_pil K.K (by rfl) (pv 9)) (blkOk_by (show blkC N_law (defScope s_law) _ _ = true by decide +kernel)) (fun _ _ _ _ _ => (pg_name (i := 10) sc.nd (by rfl) (by first | exact Or.inl rfl | exact Or.inr rfl))) (fun _ _ _ _ _ => pts_nil) (fun _ _ _ _ _ => (pe_f c__law_is_error hr (by omega) (by rfl) (pa_cons (pv 10) pa_nil)))) pa_nil)) (pe_one (pe_cmpR (k_eqD K.K (by rfl) (by exact hr.units)) (pe_f c__law_code hr (by omega) (by rfl) (pa_cons (pe_ix (k_ixL K.K (by rfl)) (pv 9) pe_int (fun _ _ => rfl)) pa_nil)) (pe_lst pa_nil) (nomark _))))))))))), ?_⟩
    refine ⟨_, rfl, a, ns, rfl, hS, hT, fun l p H1 ns0 nlp hp hT1 hl hpv hpu => ?_⟩
    refine ⟨l, rfl, ⟨_, sq_of hl⟩, fun i m σ H2 => (i = 0 ∧ m = 1 ∧ σ = L2.start N_law [.ref a] ∧ H2 = H1) ∨ (i = 1 ∧ m = 0 ∧ H2 l = some (.lst [.ref p]) ∧ σ.length = 11 ∧ LamX.Tabs K.T H2), ⟨1, .inl ⟨rfl, rfl, rfl, rfl⟩⟩, fun i m σ H2 hw => ?_⟩
    rcases hw with ⟨rfl, rfl, rfl, rfl⟩ | ⟨rfl, rfl, hl2, hlen, hT2⟩
    · refine .inr ⟨⟨_, _, sq_of hl, rfl⟩, fun σ' H' => H' l = some (.lst [.ref p]) ∧ σ'.length = 11 ∧ LamX.Tabs K.T H', fun σ' H' h => ⟨0, by omega, .inr ⟨rfl, rfl, h⟩⟩, fun x H' hy => ?_⟩
      obtain ⟨rfl, hx⟩ := hy
      obtain rfl : x = .ref p := Option.some.inj (hx _ (sq_of hl)).symm
      have st : StOk K (hid H' [p]) [] [.no, .own p (ns0.map D.int), .no, .no, .no, .no, .no, .no, .no, .no, .no] [some (.ref a), some (.ref p), none, none, none, none, none, none, none, none, none] H' :=
        ⟨hid_ge, (fun a h => hid_in h), (by show [p].Nodup; simp), (fun a h => by simp), ⟨(fun a h => nomatch h), hT1⟩, .cons trivial (.cons ⟨rfl, List.mem_cons_self, _, hpv, RpA.of_ints ns0⟩ (.cons trivial (.cons trivial (.cons trivial (.cons trivial (.cons trivial (.cons trivial (.cons trivial (.cons trivial (.cons trivial .nil))))))))))⟩
      have lB : Ps l p (hid H' [p]) := by show hid H' [p] l = _; rw [hid_out (by simpa using nlp)]; exact hl
      refine run_g rfl ?_ st
      have hnx : ∀ (B : Hp) (ρ : Env), ρ.length = 11 → Ps l p B → Hold K B [] ρ fun σ' G' => G' l = some (.lst [.ref p]) ∧ σ'.length = 11 ∧ LamX.Tabs K.T G' := fun B ρ hρ hB B' b σ H3 st3 => ⟨(b.trans st3.ex).kp.lst hB, by rw [← Paired.length st3.ev]; exact hρ, st3.mo.t⟩
      generalize hid H' [p] = B at lB ⊢
      clear st hS hT hT1 hl hpv hp
      refine q_setM (i := 1) (j := 2) (p := p) (ns := ns0) (P := fun r ns' => ∃ x, r = .str x ∧ WordOk x ∧ PurseOk 100 ns') rfl (em_callN (ds := []) rfl ea_nil rfl ⟨rfl, hpu⟩ fun r ns' hG => hG) fun d1 ns1 hP => ?_
      obtain ⟨x, rfl, hw, hp1⟩ := hP
      obtain ⟨g, sd, t, b, rfl, hg, hs1, hs2, ht, htb, hb, hb2⟩ := hp1
      have hp1 : PurseOk 100 [g, sd, t, b] := ⟨g, sd, t, b, rfl, hg, hs1, hs2, ht, htb, hb, hb2⟩
      have lx : ∀ {ρ : Env} {te : TE}, EvD K te ρ (.str x) → EvD K (tLst (tCons te tNil)) ρ (.lst [.str x]) := fun h => ev_lst (ea_cons h ea_nil) (by show 1 ≤ 100000; decide)
      refine q_set (i := 3) (d := .lst (plD x sd)) (ev_lst (ea_cons ev_non (ea_cons ev_bl (ea_cons ev_bl (ea_cons ev_int (ea_cons (ev_var rfl) (ea_cons (ev_neg (ev_ixL (d := .int sd) (el_own (i := 1) (a := p) (xs := [g, sd, t, b].map D.int) rfl) ev_int (atI_nat (j := 1) rfl))) (ea_cons (ev_tup (ea_cons ev_str (ea_cons (ev_var rfl) (ea_cons ev_int (ea_cons ev_int ea_nil)))) (by show 4 ≤ 100000; decide))
        (ea_cons (ev_tup (ea_cons (ev_var rfl) (ea_cons (lx (ev_var rfl)) ea_nil)) (by show 2 ≤ 100000; decide)) (ea_cons (ev_dispE (k := .inr x) (evV_str (ev_var rfl)) (lx (ev_var rfl))) ea_nil))))))))) (by show 9 ≤ 100000; decide)) ?_
      refine q_setM (i := 1) (j := 4) (p := p) (ns := [g, sd, t, b]) (P := fun r ns' => r ∈ thD x sd) rfl (em_call (d := .lst (thD x sd)) rfl (ev_cat (EvD.l (ev_var rfl)) (EvD.l (ev_lst (ea_cons (lx (ev_var rfl)) (ea_cons (ev_lst (ea_cons (lx (ev_var rfl)) (ea_cons (ev_dispE (k := .inr "odd") evV_C (ev_var rfl)) ea_nil)) (by show 2 ≤ 100000; decide)) ea_nil)) (by show 2 ≤ 100000; decide))) (by show 9 + 2 ≤ 100000; decide)) rfl ⟨_, rfl, hp1, by show 1 ≤ 11; decide, by show 11 ≤ 1000; decide⟩ fun r ns' hG => ?_) fun d ns2 hd => ?_
      · obtain ⟨xs, j, e, h1, _⟩ := hG
        cases e
        exact List.mem_of_getElem? h1
      have hx := rd_things hw ⟨hs1, hs2⟩ hd
      refine q_set (i := 5) (d := .str d.rd.shown) (ev_repr (ev_var rfl) hx.ok hx.sh hx.dp hx.sz) ?_
      refine h_fixV 4 rfl fun v => ?_
      refine h_now (fun H0 => Rp K H0 v d) (fun M σ H m e => knows_fix (i := 4) rfl M σ H m e) fun H0 h0 => ?_
      have tl : ∀ {ρ : Env}, ρ[2]? = some (.dat (.str x)) → EvD K (tTup (tCons (tC (.str "later")) (tCons (tVar 2) tNil))) ρ (laterT x) := fun h => ev_tup (ea_cons ev_str (ea_cons (ev_var h) ea_nil)) (by show 2 ≤ 100000; decide)
      refine q_par3K (i := 6) (j := 7) (l := 8) (k1 := .dat (allR C v)) (k2 := .dat (allR C v)) (k3 := .dat (.lst (((List.range 39).map C).map fun c => .ob (exV K c (laterT x))))) (eka_cons (EvD.k (ev_call0 (ea_cons (ev_fixD (v := v) (d := d) rfl) ea_nil) rfl ⟨v, d, H0, rfl, h0, rfl⟩)) (eka_cons (EvD.k (ev_call0 (ea_cons (ev_fixD (v := v) (d := d) rfl) ea_nil) rfl ⟨v, d, H0, rfl, h0, rfl⟩)) (eka_cons (EvD.k (ev_callTell (d := laterT x) (tl rfl) fun v0 H0 h0 => ⟨v0, _, H0, rfl, h0, rfl⟩)) eka_nil))) fun s1 s2 s3 z1 z2 z3 => ?_
      cases z1
      cases z2
      cases z3
      refine q_if (b := false) (et_nor (ev_right (d := .non) (ea_cons (tell_allR (ev_call0 (d := allR C .non) ea_nil rfl rfl) fun M σ H m e => .non) (ea_cons (ev_str.cast rfl) ea_nil)) (rdOk_of rfl rfl (by decide))) (ev_right (d := laterT x) (ea_cons ((ev_var rfl).cast (by unfold exA; rw [List.map_map]; rfl)) (ea_cons (ev_repr (tl rfl) (rd_later hw).ok (rd_later hw).sh (rd_later hw).dp (rd_later hw).sz) ea_nil)) (rd_later hw))) (fun h => by cases h) fun _ => ?_
      refine q_if (b := false) (et_nor (ev_right (d := d) (ea_cons (tell_allR (ev_var rfl) (knows_fix (i := 4) rfl)) (ea_cons (ev_var rfl) ea_nil)) hx) (ev_right (d := d) (ea_cons (tell_allR (ev_var rfl) (knows_fix (i := 4) rfl)) (ea_cons (ev_var rfl) ea_nil)) hx)) (fun h => by cases h) fun _ => ?_
      refine h_forget 3 rfl (h_forget 5 rfl (h_forget 8 rfl ?_))
      exact law_things (fun B2 d2 h2 => hnx B2 _ rfl h2) hw ⟨hs1, hs2⟩ hd nlp lB
    · refine .inl ⟨⟨_, sq_of hl2, Nat.le_refl _⟩, ?_⟩
      exact law_end (De := { nx := fun _ H' => Q .non H', rt := Q, bk := fun _ _ => False, ct := fun _ _ => False }) hQ _ (Ge.refl _) _ _ (st_none hT2 11 σ hlen)
end
end Dl
/-! The head: joined. -/
namespace Dl
open PySem PySem.Spec PyProof.Rows L2 LamX
theorem df_of {K : PySem.W.Frag} {h : Heap} {mg : Str → Option Value} (X : K.In h) (G : h.Ns mainGlobals mg) (c : He.SaysD hfa hfn K) {x : Str} {st : Stmt} {dv : List He.Dv} (i : Nat) (e : hfn[i]? = some (dd x st dv)) (e2 : hfa[i]? = some (.glo x)) :
    ∃ (cdv : Value) (fd : FuncData), Df K mg x st (dv.map (He.Dv.v K)) cdv (He.ga K x) fd := by
  obtain ⟨fd, F⟩ := c.def_ i (d := dd x st dv) e
  obtain ⟨oc, od, dV, kV, doc, pm, an, cdv, ct, osl, h1, h2, h3, h4, h5⟩ := F.ex
  exact ⟨cdv, fd, ⟨oc, od, dV, kV, doc, pm, an, ct, osl, h1, h2, h3, h4⟩, F.kp, He.glo_ok X G (c.fact i (f := .glo x) e2)⟩
/-! ### classes of errors -/
theorem eqVB_ok {a b : Option Bool} (h : eqVB a b = true) : a = b := of_decide_eq_true h
theorem oex_cls {K : PySem.W.Frag} {C : Addr} (q : PySem.W.excInitIn K C veB "ValueError.__new__" = true) (q2 : (match K.lookup C with
    | some ⟨_, _, .cls cd, _⟩ => cd.hasDict && PySem.HandSPX.refsVE (cd.mro.drop 1)
    | _ => false) = true) : ∃ nm q N bs bm sn sub ab col dd k0 k1 k2 k3 k5, K.lookup C = some (excClassObj nm q C N bs bm true sn sub ab col dd k0 k1 k2 k3 k5 "ValueError.__new__") ∧ PySem.HandSPX.refsVE bm = true := by
  unfold PySem.W.excInitIn at q
  split at q
  · rename_i od cd sl hL
    have q3 : (cd.hasDict && PySem.HandSPX.refsVE (cd.mro.drop 1)) = true := by
      have h := q2
      rw [hL] at h
      exact h
    clear q2
    split at q
    · rename_i C' bm k0 k1 k2 k3 n k5 hm hs
      obtain ⟨nm, bs, mro, ns, qn, hd, sn, sub, ab, col, del⟩ := cd
      simp only at hm q3 q
      subst hm
      simp only [Bool.and_eq_true, beq_iff_eq, Bool.not_eq_true'] at q
      obtain ⟨hd1, hv⟩ := He.ba q3
      obtain ⟨⟨⟨e1, e2⟩, hdel⟩, ht⟩ := q
      subst e1 e2 hdel
      have hd2 : hd = true := hd1
      subst hd2
      have hsl : sl = #[k0, k1, k2, k3, some (.builtin "ValueError.__new__"), k5] := by
        obtain ⟨l⟩ := sl
        simp only at hs
        rw [hs]
      rw [hsl] at hL
      exact ⟨nm, qn, ns, bs, bm, sn, sub, ab, col, od, k0, k1, k2, k3, k5, hL, hv⟩
    · cases q
  · cases q
theorem binds_ini {K : PySem.W.Frag} {qual : Str} {p : Nat → Pos} {dV kV doc pm : Value} {an : Option Addr} {cd ct : Value} {cc : Addr} (hD : DflV K dV [.non]) : Binds K (PySem.W.ksFn "__init__" qual (iniArgs p) (iniBody p) iniScope dV kV doc pm an cd ct cc) ["self", "value"] [] := by
  rcases hD with ⟨e, _⟩ | ⟨_, T, o, its, m, rfl, lT, oT, rT⟩
  · cases e
  · intro s us X hlen
    have hi : its.length = 1 := rT.length.symm
    have hu : us.length = 2 := by simpa using hlen
    match its, hi, us, hu with
    | [i0], _, [a, b], _ =>
      obtain ⟨k, e1, e2⟩ : ∃ k, bindArgs (PySem.W.ksFn "__init__" qual (iniArgs p) (iniBody p) iniScope (.ref T) kV doc pm an cd ct cc) ⟨[a, b], []⟩ = seqItems? (.ref T) >>= k ∧ k (some [i0].toArray) = pure ((["self", "value"] : List Str).zip ([a, b] ++ [])) := ⟨_, rfl, rfl⟩
      refine BindsTo.of_looks fun M => ?_
      rw [e1]
      exact looks_items X lT oT (.of_pure e2)
theorem binds_ini0 {K : PySem.W.Frag} {qual : Str} {p : Nat → Pos} {dV kV doc pm : Value} {an : Option Addr} {cd ct : Value} {cc : Addr} (hD : DflV K dV [.non]) (s : Shared) (a : Addr) (X : K.In s.heap) : BindsTo s (PySem.W.ksFn "__init__" qual (iniArgs p) (iniBody p) iniScope dV kV doc pm an cd ct cc) ⟨[.ref a], []⟩ ((["self", "value"] : List Str).zip [.ref a, .none]) := by
  rcases hD with ⟨e, _⟩ | ⟨_, T, o, its, m, rfl, lT, oT, rT⟩
  · cases e
  · cases rT with
    | cons r1 rT =>
      cases rT
      cases r1
      obtain ⟨k, e1, e2⟩ : ∃ k, bindArgs (PySem.W.ksFn "__init__" qual (iniArgs p) (iniBody p) iniScope (.ref T) kV doc pm an cd ct cc) ⟨[.ref a], []⟩ = seqItems? (.ref T) >>= k ∧ k (some ([Value.none] : List Value).toArray) = pure ((["self", "value"] : List Str).zip [.ref a, .none]) := ⟨_, rfl, rfl⟩
      refine BindsTo.of_looks fun M => ?_
      rw [e1]
      exact looks_items X lT oT (.of_pure e2)
theorem binds_iniK {K : PySem.W.Frag} {qual : Str} {p : Nat → Pos} {dV kV doc pm : Value} {an : Option Addr} {cd ct : Value} {cc : Addr} (hD : DflV K dV [.non]) (s : Shared) (a : Addr) (ws : List Value) (X : K.In s.heap) (hw : ws.length = 1) : BindsTo s (PySem.W.ksFn "__init__" qual (iniArgs p) (iniBody p) iniScope dV kV doc pm an cd ct cc) ⟨[.ref a], (["value"] : List Str).zip ws⟩ ((["self", "value"] : List Str).zip (.ref a :: ws)) := by
  rcases hD with ⟨e, _⟩ | ⟨_, T, o, its, m, rfl, lT, oT, rT⟩
  · cases e
  · cases rT with
    | cons r1 rT =>
      cases rT
      cases r1
      match ws, hw with
      | [w], _ =>
        obtain ⟨k, e1, e2⟩ : ∃ k, bindArgs (PySem.W.ksFn "__init__" qual (iniArgs p) (iniBody p) iniScope (.ref T) kV doc pm an cd ct cc) ⟨[.ref a], (["value"] : List Str).zip [w]⟩ = seqItems? (.ref T) >>= k ∧ k (some ([Value.none] : List Value).toArray) = pure ((["self", "value"] : List Str).zip [.ref a, w]) := ⟨_, rfl, rfl⟩
        refine BindsTo.of_looks fun M => ?_
        rw [e1]
        exact looks_items X lT oT (.of_pure e2)
theorem exV_of {P : Program} {K : PySem.W.Frag} {mg : Str → Option Value} {c : ClE} (eglo : mg c.x = some (.ref (He.ga K c.x))) (hsup : mg "super" = none) (htop : (P.main.scope.names.lookup ("super" : Str)).isSome = false) (hopq : PySem.W.nsIn K cStatics "thirdparty.any" = some none) (hB : clsB P.main.file K c = true) (e : fnE K c.x = c.val) (hln : ((iniPos c.st 5).endLine == (iniPos c.st 6).line) = true) :
    ExV P K mg c.x (He.ga K c.x) := by
  unfold clsB at hB
  unfold fnE ClE.val at e
  obtain ⟨b1, b2⟩ := He.ba hB
  obtain ⟨b2, b3⟩ := He.ba b2
  generalize He.ga K c.x = C at *
  unfold clB at b1
  obtain ⟨q1, b1⟩ := He.ba b1
  obtain ⟨q2, b1⟩ := He.ba b1
  obtain ⟨q3, b1⟩ := He.ba b1
  obtain ⟨q4, b1⟩ := He.ba b1
  obtain ⟨q5, b1⟩ := He.ba b1
  obtain ⟨q6, b1⟩ := He.ba b1
  obtain ⟨q7, b1⟩ := He.ba b1
  obtain ⟨q8, b1⟩ := He.ba b1
  obtain ⟨q9, q10⟩ := He.ba b1
  unfold clExB at b2
  obtain ⟨r1, b2⟩ := He.ba b2
  obtain ⟨r2, b2⟩ := He.ba b2
  obtain ⟨r3, b2⟩ := He.ba b2
  obtain ⟨r4, b2⟩ := He.ba b2
  obtain ⟨r5, b2⟩ := He.ba b2
  obtain ⟨r6, r7⟩ := He.ba b2
  have exc : ExcC K C := ⟨He.eqO_ok r1, He.eqO_ok r2, eqVB_ok q4, r3, He.eqO_ok r4, He.eqO_ok r5, eqVB_ok r6, eqVB_ok r7⟩
  have xf : XfC K C := ⟨He.eqO_ok r1, He.eqO_ok r2, eqVB_ok q4, r3⟩
  refine ⟨eglo, ?_, exc, xf, He.eqO_ok q10⟩
  have oex : OexC K C := ⟨oex_cls q1 q2, He.eqO_ok q3, eqVB_ok q4, of_decide_eq_true q5, q6⟩
  unfold clInB at b3
  obtain ⟨s1, b3⟩ := He.ba b3
  obtain ⟨s2, b3⟩ := He.ba b3
  generalize He.ma K C "__init__" = fI at *
  cases hL : K.lookup fI with
  | none => rw [hL] at e; cases e
  | some ob =>
    rw [hL] at e b3
    obtain ⟨oc, od, da, sl⟩ := ob
    cases da with
    | func fd =>
      obtain ⟨name, qn, params, body, scope, glob, clo, dV, kV, doc, pm, an, code, ct, bi⟩ := fd
      have e := Option.some.inj e
      simp only [Prod.mk.injEq] at e
      obtain ⟨e1, e2, e3, e4, e5, e6, e7, e8⟩ := e
      obtain ⟨t1, b3⟩ := He.ba (show _ = true from b3)
      obtain ⟨t2, b3⟩ := He.ba b3
      obtain ⟨t3, t4⟩ := He.ba b3
      simp only at t1 t2 t3 t4
      cases code with
      | ref cda =>
        match clo, e7, t4 with
        | [(z, cc)], e7, t4 =>
          have ez : z = "__class__" := by simpa using e7
          subst ez e1 e2 e3 e4 e5 e6 e8
          have t3 : (match K.lookup cda with
            | some ⟨_, _, .fields vs, _⟩ => (match (vs[2]? : Option Value) with
              | some (Value.str f _) => P.main.file == f
              | _ => false)
            | _ => false) = true := t3
          have hcode : ∃ ccl cdd vs ccs file tf, K.lookup cda = some ⟨ccl, cdd, .fields vs, ccs⟩ ∧ vs[2]? = some (.str file tf) ∧ ((P.main.file : Str) == file) = true := by
            cases hc : K.lookup cda with
            | none => rw [hc] at t3; cases t3
            | some oc2 =>
              rw [hc] at t3
              obtain ⟨ccl, cdd, cda2, ccs⟩ := oc2
              cases cda2 with
              | fields vs =>
                simp only at t3
                cases hv : vs[2]? with
                | none => rw [hv] at t3; cases t3
                | some u =>
                  rw [hv] at t3
                  cases u with
                  | str f t => exact ⟨ccl, cdd, vs, ccs, f, t, rfl, hv, t3⟩
                  | _ => cases t3
              | _ => cases t3
          have t4 : (match K.lookup cc with
            | some ⟨_, _, .cell (some (.ref C')), _⟩ => decide (C' = C)
            | _ => false) = true := t4
          have hcell : ∃ cl cld csl, K.lookup cc = some ⟨cl, cld, .cell (some (.ref C)), csl⟩ := by
            cases hc : K.lookup cc with
            | none => rw [hc] at t4; cases t4
            | some oc2 =>
              rw [hc] at t4
              obtain ⟨ccl, cdd, cda2, ccs⟩ := oc2
              cases cda2 with
              | cell v =>
                cases v with
                | none => cases t4
                | some u =>
                  cases u with
                  | ref C' =>
                    have e := of_decide_eq_true t4
                    subst e
                    exact ⟨_, _, _, rfl⟩
                  | _ => cases t4
              | _ => cases t4
          refine ⟨fI, _, ⟨oex, q1, ⟨oc, od, sl, c.q, dV, kV, doc, pm, an, cda, ct, cc, iniPos c.st, hL, rfl, hln, t1, hcode, hcell⟩, hsup, htop, hopq, He.eqO_ok q7, eqVB_ok q8, eqVB_ok q9, He.eqO_ok q10⟩, He.eqO_ok s1, of_decide_eq_true s2, binds_ini (He.dflB_ok t2), binds_ini0 (He.dflB_ok t2), binds_iniK (He.dflB_ok t2)⟩
      | _ => cases t3
    | _ => cases e
theorem ex0_of {K : PySem.W.Frag} {mg : Str → Option Value} {x : Str} (eglo : mg x = some (.ref (He.ga K x))) (h : ex0B K (He.ga K x) = true) : Ex0 K mg x (He.ga K x) := by
  unfold ex0B at h
  obtain ⟨b1, h⟩ := He.ba h
  obtain ⟨b2, h⟩ := He.ba h
  obtain ⟨b3, h⟩ := He.ba h
  obtain ⟨b4, b5⟩ := He.ba h
  unfold clExB at b5
  obtain ⟨r1, b2'⟩ := He.ba b5
  obtain ⟨r2, b2'⟩ := He.ba b2'
  obtain ⟨r3, b2'⟩ := He.ba b2'
  obtain ⟨r4, b2'⟩ := He.ba b2'
  obtain ⟨r5, b2'⟩ := He.ba b2'
  obtain ⟨r6, r7⟩ := He.ba b2'
  exact ⟨eglo, b1, b2, of_decide_eq_true b3, ⟨He.eqO_ok r1, He.eqO_ok r2, eqVB_ok b4, r3, He.eqO_ok r4, He.eqO_ok r5, eqVB_ok r6, eqVB_ok r7⟩⟩
/-- the classes by number -/
def cls (K : PySem.W.Frag) (i : Nat) : Addr := (nsA.map (He.ga K)).getD i 0
theorem cls_at {K : PySem.W.Frag} {i : Nat} {x : Str} (h : nsA[i]? = some x) : cls K i = He.ga K x := by
  unfold cls
  rw [List.getD_eq_getElem?_getD, List.getElem?_map, h]
  rfl
theorem hcl_x : hcl.map ClE.x = nsV := rfl
theorem hcl_ln : hcl.all (fun c => (iniPos c.st 5).endLine == (iniPos c.st 6).line) = true := by kernel_rfl
theorem cls_ok {w : World} {K : PySem.W.Frag} {h : Heap} {mg : Str → Option Value} (X : K.In h) (G : h.Ns mainGlobals mg) (s : He.SaysX hfa hfn [] [] hex w h K) (hsup : mg "super" = none) (ecl : (hcl.map ClE.x).map (fnE K) = hcl.map ClE.val) : Cls hR.prog K mg nsV ns0 (cls K) := by
  have c := s.t.d
  have hmore := s.more
  have htop : (hR.prog.main.scope.names.lookup ("super" : Str)).isSome = false := by kernel_rfl
  unfold hex allB at hmore
  obtain ⟨hmore, ham⟩ := He.ba hmore
  obtain ⟨hdrop, ham⟩ := He.ba ham
  unfold hexA at hmore
  unfold hexB at ham
  unfold hexC at hdrop
  obtain ⟨hopq, hmore⟩ := He.ba hmore
  obtain ⟨hsm, hmore⟩ := He.ba hmore
  obtain ⟨htake, h0⟩ := He.ba hmore
  have hopq := He.eqO_ok hopq
  have hcls : ∀ q ∈ hcl, clsB hR.prog.main.file K q = true := fun q hq => by
    rw [← List.take_append_drop 20 hcl] at hq
    rcases List.mem_append.mp hq with hq | hq
    · exact List.all_eq_true.mp htake q hq
    · exact List.all_eq_true.mp hdrop q hq
  have h0 := List.all_eq_true.mp h0
  have hln := List.all_eq_true.mp hcl_ln
  have glo : ∀ i x, nsA[i]? = some x → mg x = some (.ref (He.ga K x)) := fun i x hx => He.glo_ok X G (c.fact (hfa0.length + i) (f := .glo x) (by
    show (hfa0 ++ nsA.map He.Fa.glo)[hfa0.length + i]? = _
    rw [List.getElem?_append_right (Nat.le_add_right _ _), Nat.add_sub_cancel_left, List.getElem?_map, hx]
    rfl))
  have ecl' : ∀ q ∈ hcl, fnE K q.x = q.val := by
    rw [List.map_map] at ecl
    exact fun q hq => List.map_inj_left.mp ecl q hq
  unfold amB at ham
  obtain ⟨hF, hrows⟩ := He.ba ham
  have hF := List.all_eq_true.mp hF
  unfold rowsB at hrows
  have hrows := List.all_eq_true.mp hrows
  have nV : ∀ i x, nsV[i]? = some x → nsA[i]? = some x := fun i x hx => by
    unfold nsA
    rw [List.getElem?_append_left (List.getElem?_eq_some_iff.mp hx).1]
    exact hx
  have n0 : ∀ i x, ns0[i]? = some x → nsA[nsV.length + i]? = some x := fun i x hx => by
    unfold nsA
    rw [List.getElem?_append_right (Nat.le_add_right _ _), Nat.add_sub_cancel_left]
    exact hx
  refine ⟨fun i x hx => ?_, fun i x hx => ?_, fun i j hi hj => ?_, fun i hi => ?_, fun i hi => ?_⟩
  · have hg := glo i x (nV i x hx)
    rw [cls_at (nV i x hx)]
    rw [← hcl_x, List.getElem?_map] at hx
    cases hq : hcl[i]? with
    | none => rw [hq] at hx; cases hx
    | some q =>
      rw [hq] at hx
      have hx : q.x = x := Option.some.inj hx
      subst hx
      have hm := List.mem_of_getElem? hq
      exact exV_of (P := hR.prog) hg hsup htop hopq (hcls q hm) (ecl' q hm) (hln q hm)
  · rw [cls_at (n0 i x hx)]
    exact ex0_of (glo _ x (n0 i x hx)) (h0 x (List.mem_of_getElem? hx))
  · exact eqVB_ok (List.all_eq_true.mp (hrows i (List.mem_range.mpr hi)) j (List.mem_range.mpr (by have : nsV.length + ns0.length = 42 := rfl; omega)))
  · exact eqVB_ok (He.ba (hF i (List.mem_range.mpr hi))).1
  · exact eqVB_ok (He.ba (hF i (List.mem_range.mpr hi))).2
theorem law_at {w : World} {K : PySem.W.Frag} {h : Heap} {mg : Str → Option Value} {fa : Addr} (X : K.In h) (G : h.Ns mainGlobals mg) (hfa_ : mg "law" = some (.ref fa)) (s : He.SaysX hfa hfn [] [] hex w h K) (ecl : (hcl.map ClE.x).map (fnE K) = hcl.map ClE.val) :
    LawAtG PySem.Challenge.rw_shiftfolds_k01_errors_made w K 9 63 "_law_script" mg fa := by
  have c := s.t.d
  obtain ⟨v__law_purse, fd__law_purse, d__law_purse⟩ := df_of (st := s__law_purse) X G c 0 (x := "_law_purse") (dv := []) rfl rfl
  obtain ⟨v__law_mixed, fd__law_mixed, d__law_mixed⟩ := df_of (st := s__law_mixed) X G c 1 (x := "_law_mixed") (dv := []) rfl rfl
  obtain ⟨v__law_draw, fd__law_draw, d__law_draw⟩ := df_of (st := s__law_draw) X G c 2 (x := "_law_draw") (dv := []) rfl rfl
  obtain ⟨v__law_purses, fd__law_purses, d__law_purses⟩ := df_of (st := s__law_purses) X G c 3 (x := "_law_purses") (dv := []) rfl rfl
  obtain ⟨v__law_one_of, fd__law_one_of, d__law_one_of⟩ := df_of (st := s__law_one_of) X G c 4 (x := "_law_one_of") (dv := []) rfl rfl
  obtain ⟨v__law_word, fd__law_word, d__law_word⟩ := df_of (st := s__law_word) X G c 5 (x := "_law_word") (dv := []) rfl rfl
  obtain ⟨v__law_first, fd__law_first, d__law_first⟩ := df_of (st := s__law_first) X G c 6 (x := "_law_first") (dv := []) rfl rfl
  obtain ⟨v__law_called, fd__law_called, d__law_called⟩ := df_of (st := s__law_called) X G c 7 (x := "_law_called") (dv := []) rfl rfl
  obtain ⟨v__law_bare, fd__law_bare, d__law_bare⟩ := df_of (st := s__law_bare) X G c 8 (x := "_law_bare") (dv := []) rfl rfl
  obtain ⟨v__law_code, fd__law_code, d__law_code⟩ := df_of (st := s__law_code) X G c 9 (x := "_law_code") (dv := []) rfl rfl
  obtain ⟨v__law_is_error, fd__law_is_error, d__law_is_error⟩ := df_of (st := s__law_is_error) X G c 10 (x := "_law_is_error") (dv := []) rfl rfl
  obtain ⟨v__law_right, fd__law_right, d__law_right⟩ := df_of (st := s__law_right) X G c 11 (x := "_law_right") (dv := []) rfl rfl
  obtain ⟨v_law, fd_law, d_law⟩ := df_of (st := s_law) X G c 12 (x := "law") (dv := []) rfl rfl
  have mm : Mg mg := ⟨He.free_ok X G (c.fact 13 (f := .free "len") rfl), He.free_ok X G (c.fact 14 (f := .free "all") rfl), He.free_ok X G (c.fact 15 (f := .free "any") rfl), He.free_ok X G (c.fact 16 (f := .free "sum") rfl), He.free_ok X G (c.fact 17 (f := .free "max") rfl), He.free_ok X G (c.fact 18 (f := .free "min") rfl), He.free_ok X G (c.fact 19 (f := .free "isinstance") rfl), He.free_ok X G (c.fact 20 (f := .free "sorted") rfl), He.free_ok X G (c.fact 21 (f := .free "list") rfl), He.free_ok X G (c.fact 22 (f := .free "int") rfl), He.free_ok X G (c.fact 23 (f := .free "str") rfl), He.free_ok X G (c.fact 24 (f := .free "range") rfl), He.free_ok X G (c.fact 25 (f := .free "enumerate") rfl), He.free_ok X G (c.fact 26 (f := .free "zip") rfl), He.free_ok X G (c.fact 27 (f := .free "tuple") rfl), He.free_ok X G (c.fact 28 (f := .free "bool") rfl), He.free_ok X G (c.fact 29 (f := .free "dict") rfl), He.free_ok X G (c.fact 30 (f := .free "repr") rfl), He.free_ok X G (c.fact 31 (f := .free "ValueError") rfl)⟩
  have hsup : mg "super" = none := He.free_ok X G (c.fact 32 (f := .free "super") rfl)
  let κ : Cfg := ⟨K, []⟩
  have cl : Cl hR.prog κ mg (cls K) := cls_ok (w := w) X G s hsup ecl
  have hsm : (κ.K.lookup sysModules).isSome = true := by
    have hmore := s.more
    unfold hex allB hexA at hmore
    exact (He.ba (He.ba (He.ba hmore).1).2).1
  have e := hfa_.symm.trans d_law.mgf
  cases e
  refine ⟨fd_law, spLaw κ, fun s' u => ?_, fun H a ns hl hS => ?_, fun base KB GB => ?_⟩
  · exact FunD.bindsA (ps := ["_law_script"]) d_law.d (fun _ _ _ _ _ _ us hl => match us, hl with | [_], _ => rfl) s' [u] rfl
  · exact ⟨a, ns, rfl, hS, (fun p hp => nomatch hp), fun _ => rfl⟩
  have c__law_purse := f__law_purse (P := hR.prog) (w := w) (K := κ) (base := base) d__law_purse mm
  have c__law_mixed := f__law_mixed (P := hR.prog) (w := w) (K := κ) (base := base) d__law_mixed mm
  have c__law_draw := f__law_draw (P := hR.prog) (w := w) (K := κ) (base := base) d__law_draw mm c__law_mixed
  have c__law_purses := f__law_purses (P := hR.prog) (w := w) (K := κ) (base := base) d__law_purses mm c__law_purse
  have c__law_one_of := f__law_one_of (P := hR.prog) (w := w) (K := κ) (base := base) d__law_one_of mm c__law_draw
  have c__law_word := f__law_word (P := hR.prog) (w := w) (K := κ) (base := base) d__law_word mm c__law_draw
  have c__law_first := f__law_first (P := hR.prog) (w := w) (K := κ) (base := base) d__law_first mm cl
  have c__law_called := f__law_called (P := hR.prog) (w := w) (K := κ) (base := base) d__law_called mm cl
  have c__law_bare := f__law_bare (P := hR.prog) (w := w) (K := κ) (base := base) d__law_bare mm cl
  have c__law_code := f__law_code (P := hR.prog) (w := w) (K := κ) (base := base) d__law_code mm cl
  have c__law_is_error := f__law_is_error (P := hR.prog) (w := w) (K := κ) (base := base) d__law_is_error mm cl
  have g__law_right := f__law_right (P := hR.prog) (w := w) (K := κ) (base := base) d__law_right mm cl hsm c__law_code c__law_is_error
  exact f_law (P := hR.prog) (w := w) (K := κ) (base := base) d_law mm cl hsm c__law_purses c__law_word c__law_one_of c__law_first c__law_called c__law_bare c__law_code c__law_is_error g__law_right
end Dl
open PySem PySem.W PySem.Calls PyProof.Rows
theorem holds_of : PySem.Challenge.rw_shiftfolds_k01_errors_made.Holds := by
  w_on; o_law
  refine HandSHeadRun.head_any (r := OpenLaw.row PySem.Challenge.rw_shiftfolds_k01_errors_made) (q := view (OpenLaw.row PySem.Challenge.rw_shiftfolds_k01_errors_made).prog [56]) (H := Dl.hhk) (ob := Dl.hob) (M := 12000) (loose := Dl.loose1 ++ Dl.loose2) (d := HandSHeadRun.topDef (OpenLaw.row PySem.Challenge.rw_shiftfolds_k01_errors_made).prog 56) (kwd := []) Dl.hob_eq
    (by kernel_rfl) (fun s => by kernel_rfl) Dl.hrun (by kernel_rfl) (by kernel_rfl) (by kernel_rfl) (by rfl) (by first | assumption | decide +kernel) (by decide +kernel) ⟨rfl, rfl, rfl, rfl, rfl, by decide +kernel⟩ ?hw ?hc
  case hw => w_witness2
  case hc =>
    refine Dl.walk_ofG (l := PySem.Challenge.rw_shiftfolds_k01_errors_made) (n := 63) (k := 9) (x := "_law_script") rfl (by decide) (by kernel_rfl) ⟨rfl, by decide, by decide⟩ ?F
    intro w mg fa h Y G hmg0
    obtain ⟨K, KX, c, ecl⟩ := Y
    have hmg : mg ("law" : PySem.Str) = some (.ref fa) := by
      have e : (HandSHeadRun.topDef (OpenLaw.row PySem.Challenge.rw_shiftfolds_k01_errors_made).prog 56).name = ("law" : PySem.Str) := by kernel_rfl
      rw [← e]
      exact hmg0
    exact ⟨K, KX, Dl.law_at KX G hmg c ecl⟩
theorem PySem.Challenge.cw_shiftfolds_k01_errors_made_holds : PySem.Challenge.rw_shiftfolds_k01_errors_made.Holds := by
  exact holds_of
