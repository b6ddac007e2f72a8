import PyProof.Rows.All
import HandS.Words
import Wide.All
import OpenK.AllK
import HandS.HeadHook2
import HandS.Head0
import HandS.Head1
import HandS.Head2
import HandS.HeadEnd
import HandS.HeadHook1
import HandS.ExcInit
import HandS.ExcField
import HandS.ClsMeth
import HandS.HeadNt
import Wide.FinOn
import HandS.ForMost
import HandS.Exc
import HandS.Defaults
import HandS.Lambda
import HandS.Style
import HandS.Flow
import HandS.Conv
import HandS.Small
import HandS.Deep
import HandS.Steps
import HandS.Text
import HandS.Dict
import HandS.WideBits
import KE.SortData
import KE.LtData
import HandS.IsInst
import PyProof.MaxThree
import HandS.Zip
import PyProof.EnumMake
import PyProof.Draws
import KE.GoesMore
import KE.KSuper
import HandS.Nested
import HandS.Star
import HandS.More
import HandS.Comp
import HandS.DictComp
import KE.BitLaws
import HandS.WordsExc
import HandS.Strs
import HandS.TryOnly
import HandS.OwnEq
import PyProof.InstNe
import OpenK.KOps
import HandS.RaiseMore
import HandS.Ends
import PyProof.ReprRoads
import HandS.Records
import OpenK.KCls
import OpenK.KDescr
import KE.KIsNot
import HandS.SetFor
import HandS.SetKeys
import HandS.ExcIs
import HandS.TupLen
import HandS.Iter
import KE.KDictWalk
import KE.DataCmp
import KE.DataEq
import HandS.DictEq
import HandS.ListEq
import HandS.DeepEq
import PyProof.EqKinds
import PyProof.ReprLen
import HandS.MakeKwOnly
import KE.KCallOwn
import PyProof.Conv_bool
import PySem.Challenge.RW_hangsfast_k33_papers_of_directions_and_h
set_option Elab.async false
set_option linter.all false
set_option maxRecDepth 100000
set_option maxHeartbeats 4000000
/-! KTop: the program's statements by their places. -/
namespace VK
open PySem PySem.Spec PyProof.Rows L2
def top (i : Nat) : Stmt := PySem.Challenge.pw_hangsfast_k33_papers_of_directions_and_h.main.body.getD i (.Pass ⟨0, 0, 0, 0⟩)
def clsB : Stmt → List Stmt
  | .ClassDef (body := b) .. => b
  | _ => []
def mth (i j : Nat) : Stmt := (clsB (top i)).getD j (.Pass ⟨0, 0, 0, 0⟩)
end VK
set_option Elab.async false
set_option linter.all false
set_option maxRecDepth 100000
set_option maxHeartbeats 4000000
/-! VXF: the head's tests and hooks (what is run), without what they are good for. -/
namespace VL
open PySem PySem.Spec PyProof.Rows L2
def nameIn (K : PySem.W.Frag) (C : Addr) : Option Str := match K.lookup C with
  | some ⟨_, _, _, sl⟩ => (match (sl : Array (Option Value))[2]? with
    | some (some (Value.str z _)) => some z
    | _ => none)
  | _ => none
end VL
namespace He
open PySem PySem.Spec PyProof.Rows L2
abbrev SupW : Type := Option (Str × Str × Arguments × FuncBody × Scope × Addr × Addr × Value × Value × Option Addr)
/-- a function object with a closure: what of it is text -/
def supW (K : PySem.W.Frag) (f : Addr) : SupW := match K.lookup f with
  | some ⟨_, _, .func fd, _⟩ => some (fd.name, fd.qualname, fd.params, fd.body, fd.scope, fd.globals, fd.builtins, fd.defaults, fd.kwdefaults, fd.annotations)
  | _ => none
def asX (g : Addr → Option Obj) (n : Nat) : List Addr := asD g n ++ [cStatics]
def obsX (fa : List Fa) (fn : List DefD) (ex : PySem.W.Frag → Bool) (ws : List (Str × Option Str)) (K : PySem.W.Frag) : AlD × Bool × List SupW := (obsD fa fn K, ex K, ws.map fun p => supW K (fAd K p))
def obsXG (n : Nat) (fa : List Fa) (fn : List DefD) (ex : PySem.W.Frag → Bool) (ws : List (Str × Option Str)) (g : Addr → Option Obj) : AlD × Bool × List SupW := obsX fa fn ex ws (frG g (asX g n))
def SaysX (fa : List Fa) (fn : List DefD) (ex : PySem.W.Frag → Bool) (ws : List (Str × Option Str)) (vs : List SupW) (K : PySem.W.Frag) : Prop := SaysD fa fn K ∧ ex K = true ∧ (ws.map fun p => supW K (fAd K p)) = vs
def hookX (n : Nat) (fa : List Fa) (fn : List DefD) (ex : PySem.W.Frag → Bool) (ws : List (Str × Option Str)) (vs : List SupW) : PySem.W.Hook where
  α := AlD × Bool × List SupW
  obs := fun s => obsXG n fa fn ex ws s.heap.get?
  val := fun _ => (valD fn, true, vs)
  says := fun _ h => ∃ K : PySem.W.Frag, K.In h ∧ SaysX fa fn ex ws vs K
  of := fun _ _ e => ⟨_, frG_in, congrArg (fun z : AlD × Bool × List SupW => z.1) e, congrArg (fun z : AlD × Bool × List SupW => z.2.1) e, congrArg (fun z : AlD × Bool × List SupW => z.2.2) e⟩
  keeps := fun _ _ _ ⟨K, hK, c⟩ k => ⟨K, PySem.W.Frag.In.keeps hK k, c⟩
theorem obsXG_eq {n : Nat} {fa : List Fa} {fn : List DefD} {ex : PySem.W.Frag → Bool} {ws : List (Str × Option Str)} {vs : List SupW} {g : Addr → Option Obj} {s : Shared} (h : ∀ a, g a = s.heap.get? a) : obsXG n fa fn ex ws g = (hookX n fa fn ex ws vs).obs s := by
  have e : g = s.heap.get? := funext h
  rw [e] <;> rfl
def clA (K : PySem.W.Frag) (f : Addr) : Addr := match K.lookup f with
  | some ⟨_, _, .func fd, _⟩ => (match fd.closure with
    | [(_, c)] => c
    | _ => 0)
  | _ => 0
def coA (K : PySem.W.Frag) (f : Addr) : Addr := match K.lookup f with
  | some ⟨_, _, .func fd, _⟩ => (match fd.code with
    | .ref c => c
    | _ => 0)
  | _ => 0
/-- x.__init__ calls the __init__ of y by super() -/
def supB (file : Str) (K : PySem.W.Frag) (x y qual : Str) : Bool :=
  (match K.lookup (fAd K (x, some "__init__")) with
    | some ⟨_, _, .func fd, _⟩ => decide (fd.closure = [(("__class__" : Str), clA K (fAd K (x, some "__init__")))]) && decide (fd.code = .ref (coA K (fAd K (x, some "__init__"))))
    | _ => false) &&
  (PySem.W.codeIn K (.ref (coA K (fAd K (x, some "__init__")))) qual &&
  ((match K.lookup (coA K (fAd K (x, some "__init__"))) with
    | some ⟨_, _, .fields vs, _⟩ => (match (vs : Array Value)[2]? with
      | some (Value.str z _) => (file == z)
      | _ => false)
    | _ => false) &&
  ((match K.lookup (clA K (fAd K (x, some "__init__"))) with
    | some ⟨_, _, .cell (some (.ref d)), _⟩ => decide (d = ga K x)
    | _ => false) &&
  ((PySem.W.clsIn K (ga K x)).isSome &&
  (decide (PySem.W.mroIn K (ga K x) (.ref (ga K x)) = some true) &&
  (eqO (PySem.W.nsIn K cStatics "thirdparty.any") (some none) &&
  (eqO (PySem.W.ks_superIn K (ga K x) (ga K x) "__init__") (some (some (.ref (fAd K (y, some "__init__"))))) &&
  (decide (PySem.W.typeIn K (.ref (fAd K (y, some "__init__"))) = some (.type "function")) &&
  PySem.W.fnIn K (fAd K (y, some "__init__"))))))))))
def supV (qual : Str) (params : Arguments) (body : List Stmt) (scope : Scope) : SupW := some (("__init__" : Str), qual, params, FuncBody.stmts body, scope, mainGlobals, builtinsNs, Value.none, Value.none, (none : Option Addr))
def insB (K : PySem.W.Frag) (x : Str) : Bool :=
  eqO (PySem.W.findIn K (.ref (ga K x)) "__class__") (some (some (.builtin "object.__class__"))) &&
  (decide (PySem.W.specialIn K (.builtin "object.__class__") "__get__" = some (some (.builtin "getset_descriptor.__get__"))) &&
  (decide (PySem.W.takesIn K (.builtin "object.__class__") = some true) &&
  (decide (PySem.W.mroIn K (ga K x) (.type "object") = some true) &&
  decide (PySem.W.kitOne K (.ref (ga K x)) (.ref (ga K x)) = some true))))
def fnB (K : PySem.W.Frag) (x m : Str) (f : Addr) : Bool := eqO (PySem.W.findIn K (.ref (ga K x)) m) (some (some (.ref f))) && PySem.W.isFn K (.ref f)
/-- x's == is that of y's text; the object's != -/
def eqB (K : PySem.W.Frag) (x y : Str) : Bool :=
  fnB K x "__eq__" (fAd K (y, some "__eq__")) && (eqO (PySem.W.findIn K (.ref (ga K x)) "__ne__") (some (some (.builtin "object.__ne__"))) && decide (PySem.W.subIn K (.ref (ga K x)) (.type "object") = some true))
/-- the class keeps its name -/
def nmB (K : PySem.W.Frag) (x : Str) : Bool :=
  PySem.W.plainGet K (ga K x) "__class__" && (PySem.W.hasDictIn K (ga K x) && (PySem.W.readsIn K (ga K x) (.type "type") &&
  ((match PySem.W.findCls K (.ref (ga K x)) (.type "type") "__name__" with
    | some (.get g a o t) => decide (g = .builtin "getset_descriptor.__get__") && (decide (a = .builtin "type.__name__") && (decide (o = .ref (ga K x)) && decide (t = .type "type")))
    | _ => false) && (decide (PySem.W.typeIn K (.ref (ga K x)) = some (.type "type")) && decide (VL.nameIn K (ga K x) = some x)))))
/-- an instance of x is (is not) one of y -/
def isaB (K : PySem.W.Frag) (x y : Str) (b : Bool) : Bool := decide (PySem.W.kitOne K (.ref (ga K x)) (.ref (ga K y)) = some b)
def isaT (K : PySem.W.Frag) (t : String) (y : Str) : Bool := decide (PySem.W.kitOne K (.type t) (.ref (ga K y)) = some false)
def nofB (K : PySem.W.Frag) (x y : Str) : Bool := PySem.W.notFirst K (ga K x) (.ref (ga K y))
/-- x's instances are made and hold fields of their own -/
def oexB (K : PySem.W.Frag) (x : Str) : Bool := (match K.lookup (ga K x) with
  | some ⟨.type "type", _, .cls cd, sl⟩ => (match cd.mro, sl.toList with
    | .ref C' :: bm, [_, _, _, _, some (.builtin n), _] => decide (C' = ga K x) && (decide (n = "ValueError.__new__") && (!cd.hasDel && (cd.hasDict && PySem.HandSPX.refsVE bm)))
    | _, _ => false)
  | _ => false) &&
  (eqO (PySem.W.findIn K (.ref (ga K x)) "__setattr__") (some (some (.builtin "object.__setattr__"))) && (decide (PySem.W.subIn K (.ref (ga K x)) (.type "BaseException") = some true) &&
  (decide (PySem.W.typeIn K (.ref (ga K x)) = some (.type "type")) && (PySem.W.keepIn K (.ref (ga K x)) &&
  (decide (PySem.W.typeIn K (.ref (ma K (ga K x) "__init__")) = some (.type "function")) && xfB K (ga K x))))))
/-- x's attributes are read; its __init__ is ValueError's -/
def creB (K : PySem.W.Frag) (x : Str) : Bool := PySem.W.readsIn K (ga K x) (.type "type") && (eqO (PySem.W.specialIn K (.ref (ga K x)) "__getattribute__") (some (some (.builtin "type.__getattribute__"))) &&
  (match PySem.W.findCls K (.ref (ga K x)) (.type "type") "__init__" with
  | some (.val v) => decide (v = .builtin "ValueError.__init__")
  | _ => false))
abbrev StW : Type := Option (Str × Str × Arguments × FuncBody × Scope × Addr × Addr × Value × Value)
/-- a static method's function: what of it is text (its annotations are made by staticmethod) -/
def stW (K : PySem.W.Frag) (f : Addr) : StW := match K.lookup f with
  | some ⟨_, _, .func fd, _⟩ => some (fd.name, fd.qualname, fd.params, fd.body, fd.scope, fd.globals, fd.builtins, fd.defaults, fd.kwdefaults)
  | _ => none
/-- the def within the static method m of x -/
def sfA (K : PySem.W.Frag) (p : Str × Str) : Addr := He5.wf K (ga K p.1) "staticmethod" p.2
def obsY (fa : List Fa) (fn : List DefD) (ex : PySem.W.Frag → Bool) (ws : List (Str × Option Str)) (wt : List (Str × Str)) (K : PySem.W.Frag) : AlD × Bool × List SupW × List StW := (obsD fa fn K, ex K, (ws.map fun p => supW K (fAd K p)), wt.map fun p => stW K (sfA K p))
def obsYG (n : Nat) (fa : List Fa) (fn : List DefD) (ex : PySem.W.Frag → Bool) (ws : List (Str × Option Str)) (wt : List (Str × Str)) (g : Addr → Option Obj) : AlD × Bool × List SupW × List StW := obsY fa fn ex ws wt (frG g (asX g n))
def SaysY (fa : List Fa) (fn : List DefD) (ex : PySem.W.Frag → Bool) (ws : List (Str × Option Str)) (vs : List SupW) (wt : List (Str × Str)) (vt : List StW) (K : PySem.W.Frag) : Prop := SaysD fa fn K ∧ ex K = true ∧ (ws.map fun p => supW K (fAd K p)) = vs ∧ (wt.map fun p => stW K (sfA K p)) = vt
def hookY (n : Nat) (fa : List Fa) (fn : List DefD) (ex : PySem.W.Frag → Bool) (ws : List (Str × Option Str)) (vs : List SupW) (wt : List (Str × Str)) (vt : List StW) : PySem.W.Hook where
  α := AlD × Bool × List SupW × List StW
  obs := fun s => obsYG n fa fn ex ws wt s.heap.get?
  val := fun _ => (valD fn, true, vs, vt)
  says := fun _ h => ∃ K : PySem.W.Frag, K.In h ∧ SaysY fa fn ex ws vs wt vt K
  of := fun _ _ e => ⟨_, frG_in, congrArg (fun z : AlD × Bool × List SupW × List StW => z.1) e, congrArg (fun z : AlD × Bool × List SupW × List StW => z.2.1) e, congrArg (fun z : AlD × Bool × List SupW × List StW => z.2.2.1) e, congrArg (fun z : AlD × Bool × List SupW × List StW => z.2.2.2) e⟩
  keeps := fun _ _ _ ⟨K, hK, c⟩ k => ⟨K, PySem.W.Frag.In.keeps hK k, c⟩
theorem obsYG_eq {n : Nat} {fa : List Fa} {fn : List DefD} {ex : PySem.W.Frag → Bool} {ws : List (Str × Option Str)} {vs : List SupW} {wt : List (Str × Str)} {vt : List StW} {g : Addr → Option Obj} {s : Shared} (h : ∀ a, g a = s.heap.get? a) : obsYG n fa fn ex ws wt g = (hookY n fa fn ex ws vs wt vt).obs s := by
  have e : g = s.heap.get? := funext h
  rw [e] <;> rfl
def stV (name qual : Str) (params : Arguments) (body : List Stmt) (scope : Scope) : StW := some (name, qual, params, FuncBody.stmts body, scope, mainGlobals, builtinsNs, Value.none, Value.none)
/-- m of x is a static method -/
def stB (K : PySem.W.Frag) (x m qual : Str) : Bool := He5.wrapB K (ga K x) "staticmethod" "staticmethod.__get__" m && (PySem.W.readsIn K (ga K x) (.type "type") && (eqO (PySem.W.specialIn K (.ref (ga K x)) "__getattribute__") (some (some (.builtin "type.__getattribute__"))) &&
  (PySem.W.keepIn K (.ref (sfA K (x, m))) && (match K.lookup (sfA K (x, m)) with
    | some ⟨_, _, .func fd, _⟩ => decide (fd.closure = []) && PySem.W.codeIn K fd.code qual
    | _ => false))))
def isaN (K : PySem.W.Frag) (x : Str) (t : String) (b : Bool) : Bool := decide (PySem.W.kitOne K (.ref (ga K x)) (.type t) = some b)
def tupA (K : PySem.W.Frag) (a : Addr) (vs : List Dv) : Bool := match K.lookup a with
  | some ⟨.type c, _, .seq its _, _⟩ => decide (c = "tuple") && (decide (its.size ≤ sizeLine) && relAll (vs.map (Dv.v K)) its.toList)
  | _ => false
/-- the fragment, and behind it what stands at some addresses more -/
def frV (g : Addr → Option Obj) (n : Nat) (ea : PySem.W.Frag → List Addr) : PySem.W.Frag := frG g (asX g n) ++ frG g (ea (frG g (asX g n)))
theorem frV_in {n : Nat} {ea : PySem.W.Frag → List Addr} {h : Heap} : (frV h.get? n ea).In h := fun a o e => by
  unfold frV at e
  have e2 : List.lookup a (frG h.get? (asX h.get? n) ++ frG h.get? (ea (frG h.get? (asX h.get? n)))) = some o := e
  rw [List.lookup_append] at e2
  cases q : List.lookup a (frG h.get? (asX h.get? n)) with
  | some u =>
    rw [q] at e2
    cases e2
    exact frG_in a o q
  | none =>
    rw [q] at e2
    exact frG_in a o e2
def obsVG (n : Nat) (fa : List Fa) (fn : List DefD) (ex : PySem.W.Frag → Bool) (ws : List (Str × Option Str)) (ea : PySem.W.Frag → List Addr) (g : Addr → Option Obj) : AlD × Bool × List SupW := obsX fa fn ex ws (frV g n ea)
def hookV (n : Nat) (fa : List Fa) (fn : List DefD) (ex : PySem.W.Frag → Bool) (ws : List (Str × Option Str)) (vs : List SupW) (ea : PySem.W.Frag → List Addr) : PySem.W.Hook where
  α := AlD × Bool × List SupW
  obs := fun s => obsVG n fa fn ex ws ea s.heap.get?
  val := fun _ => (valD fn, true, vs)
  says := fun _ h => ∃ K : PySem.W.Frag, K.In h ∧ SaysX fa fn ex ws vs K
  of := fun _ _ e => ⟨_, frV_in, congrArg (fun z : AlD × Bool × List SupW => z.1) e, congrArg (fun z : AlD × Bool × List SupW => z.2.1) e, congrArg (fun z : AlD × Bool × List SupW => z.2.2) e⟩
  keeps := fun _ _ _ ⟨K, hK, c⟩ k => ⟨K, PySem.W.Frag.In.keeps hK k, c⟩
theorem obsVG_eq {n : Nat} {fa : List Fa} {fn : List DefD} {ex : PySem.W.Frag → Bool} {ws : List (Str × Option Str)} {vs : List SupW} {ea : PySem.W.Frag → List Addr} {g : Addr → Option Obj} {s : Shared} (h : ∀ a, g a = s.heap.get? a) : obsVG n fa fn ex ws ea g = (hookV n fa fn ex ws vs ea).obs s := by
  have e : g = s.heap.get? := funext h
  rw [e] <;> rfl
end He
set_option Elab.async false
set_option linter.all false
set_option maxRecDepth 100000
set_option maxHeartbeats 0
/-! HK: the head, run once in the kernel. -/
namespace VK
open PySem PySem.Spec PyProof.Rows L2
def dfA (K : PySem.W.Frag) (p : Str × Option Str) : Addr := match K.lookup (He.fAd K p) with
  | some ⟨_, _, .func fd, _⟩ => (match fd.defaults with
    | .ref t => (match K.lookup t with
      | some ⟨_, _, .seq its _, _⟩ => (match its.toList with
        | [.ref a] => a
        | _ => 0)
      | _ => 0)
    | _ => 0)
  | _ => 0
def fn0 : List He.DefD := [⟨("fixed", none), "fixed", "fixed", defArgs (top 1), defBody (top 1), defScope (top 1), [], []⟩, ⟨("Paper", some "__init__"), "__init__", "Paper.__init__", defArgs (mth 2 0), defBody (mth 2 0), defScope (mth 2 0), [], []⟩, ⟨("Paper", some "__eq__"), "__eq__", "Paper.__eq__", defArgs (mth 2 2), defBody (mth 2 2), defScope (mth 2 2), [], []⟩, ⟨("Paper", some "__bool__"), "__bool__", "Paper.__bool__", defArgs (mth 2 1), defBody (mth 2 1), defScope (mth 2 1), [], []⟩, ⟨("_law_pen", none), "_law_pen", "_law_pen", defArgs (top 11), defBody (top 11), defScope (top 11), [], []⟩, ⟨("_law_draw", none), "_law_draw", "_law_draw", defArgs (top 12), defBody (top 12), defScope (top 12), [], []⟩, ⟨("_law_pick", none), "_law_pick", "_law_pick", defArgs (top 13), defBody (top 13), defScope (top 13), [], []⟩, ⟨("_law_fixed", none), "_law_fixed", "_law_fixed", defArgs (top 15), defBody (top 15), defScope (top 15), [], []⟩]
def fn1 : List He.DefD := [⟨("_law_value", none), "_law_value", "_law_value", defArgs (top 14), defBody (top 14), defScope (top 14), [], []⟩, ⟨("_law_right", none), "_law_right", "_law_right", defArgs (top 16), defBody (top 16), defScope (top 16), [], []⟩, ⟨("law", none), "law", "law", defArgs (top 17), defBody (top 17), defScope (top 17), [], []⟩]
def fn : List He.DefD := fn0 ++ fn1
def fa0 : List He.Fa := [.free "isinstance", .free "int", .free "bool", .free "str", .free "list", .free "tuple", .free "len", .free "all"]
def fa1 : List He.Fa := [.free "sum", .free "sorted", .free "min", .free "abs", .free "range", .free "enumerate", .free "zip", .glo "fixed"]
def fa2 : List He.Fa := [.glo "Paper", .cls "Directions", .glo "Directions", .mkr "Directions", .cls "Hoist", .glo "Hoist", .mkr "Hoist", .cls "Short"]
def fa3 : List He.Fa := [.glo "Short", .mkr "Short", .noat "Directions" "word", .noat "Directions" "parts", .noat "Hoist" "word", .noat "Hoist" "parts", .noat "Short" "word", .noat "Short" "parts"]
def fa4 : List He.Fa := [.noat "Directions" "root", .noat "Directions" "heads", .noat "Hoist" "first", .noat "Hoist" "steps", .noat "Short" "grouping", .free "super", .glo "_law_pen", .glo "_law_draw"]
def fa5 : List He.Fa := [.glo "_law_pick", .glo "_law_fixed", .glo "_law_value", .free "repr", .glo "_law_right", .glo "law"]
def fa : List He.Fa := fa0 ++ fa1 ++ fa2 ++ fa3 ++ fa4 ++ fa5
def exB (K : PySem.W.Frag) : Bool := He.insB K "Directions" && (He.insB K "Hoist" && (He.insB K "Short" && (He.nmB K "Directions" && (He.isaB K "Directions" "Paper" true && (He.nmB K "Hoist" && (He.isaB K "Hoist" "Paper" true && (He.nmB K "Short" && (He.isaB K "Short" "Paper" true && (PySem.W.notFirst K (He.ga K "Directions") (.ref (He.ga K "Hoist")) && (PySem.W.notFirst K (He.ga K "Hoist") (.ref (He.ga K "Directions")) && (PySem.W.notFirst K (He.ga K "Directions") (.ref (He.ga K "Short")) && (PySem.W.notFirst K (He.ga K "Directions") (.type "tuple") && (He.isaT K "tuple" "Paper" && (He.supB "/claim/cut.py" K "Directions" "Paper" "Directions.__init__" && (He.eqB K "Directions" "Paper" && (He.fnB K "Directions" "__bool__" (He.fAd K ("Paper", some "__bool__")) && (He.supB "/claim/cut.py" K "Hoist" "Paper" "Hoist.__init__" && (He.eqB K "Hoist" "Paper" && (He.fnB K "Hoist" "__bool__" (He.fAd K ("Paper", some "__bool__")) && (He.supB "/claim/cut.py" K "Short" "Paper" "Short.__init__"))))))))))))))))))))
def supP : List (Str × Option Str) := [("Directions", some "__init__"), ("Hoist", some "__init__"), ("Short", some "__init__")]
def supVs : List He.SupW := [He.supV "Directions.__init__" (defArgs (mth 7 0)) (defBody (mth 7 0)) (defScope (mth 7 0)), He.supV "Hoist.__init__" (defArgs (mth 9 0)) (defBody (mth 9 0)) (defScope (mth 9 0)), He.supV "Short.__init__" (defArgs (mth 5 0)) (defBody (mth 5 0)) (defScope (mth 5 0))]
abbrev R : PySem.W.OpenRow := PySem.W.OpenLaw.row PySem.Challenge.rw_hangsfast_k33_papers_of_directions_and_h
abbrev hk : PySem.W.Hook := He.hookX 4 fa fn exB supP supVs
def ob (s : PySem.W.SharedT) : He.AlD × Bool × List He.SupW := He.obsXG 4 fa fn exB supP (HandSHeadRun.getT s)
theorem ob_eq (s : PySem.W.SharedT) : ob s = hk.obs s.abs := He.obsXG_eq (HandSHeadRun.getT_eq s)
def lo0 : List Str := ["fixed", "Paper", "Denial", "Short", "Directions", "Hoist", "_law_pen", "_law_draw"]
def lo1 : List Str := ["_law_pick", "_law_value", "_law_fixed", "_law_right"]
def lo : List Str := lo0 ++ lo1
theorem run (w : World) : HandSHeadRun.RunEq R (PySem.W.view R.prog [17]) hk ob 20000 lo w := by
  intro os
  kernel_rfl
end VK
set_option Elab.async false
set_option linter.all false
set_option maxRecDepth 100000
set_option maxHeartbeats 4000000
/-! VL0: deep values, their representation in an abstract heap, a store of mutable objects; judgements on readings by values. -/
namespace VL
open PySem PySem.Spec PyProof.Rows L2

/-- a deep value -/
inductive D where
  | non | bl (b : Bool) | int (i : Int) | str (s : Str) | ty (n : String) | ref (a : Addr)
  | lst (xs : List D) | tup (xs : List D) | dct (kvs : List (Key × D)) | ins (C : Addr) (fs : List (Str × D)) | scr (xs : List D) | exc (C : Addr) (fs : List (Str × D)) | dT (kvs : List (List Key × D)) | kt (k : List Key) | tupN (xs : List D)

/-- the error at a, of the class at C, its fields at dx -/
def exv (a C dx : Addr) : HO := .ext fun h => ∃ oe vs, h.get? a = some oe ∧ oe.cls = .ref C ∧ oe.dict = some dx ∧ oe.data = .fields vs

mutual
/-- v is d, told by the frozen part F of the heap -/
inductive Rep (K : PySem.W.Frag) (F : Hp) : V → D → Prop
  | non : Rep K F .non .non
  | bl (b : Bool) : Rep K F (.bl b) (.bl b)
  | int (i : Int) : Rep K F (.int i) (.int i)
  | str (s : Str) : Rep K F (.str s) (.str s)
  | ty (n : String) : Rep K F (.ty n) (.ty n)
  | ref (a : Addr) : Rep K F (.ref a) (.ref a)
  | lst {a : Addr} {xs : List V} {ds : List D} : F a = some (.lst xs) → Reps K F xs ds → Rep K F (.ref a) (.lst ds)
  | tup {a : Addr} {xs : List V} {ds : List D} : SqT K F a xs → Reps K F xs ds → Rep K F (.ref a) (.tup ds)
  | dct {a : Addr} {kvs : List (Key × V)} {ds : List (Key × D)} : F a = some (.dK kvs) → RepsK K F kvs ds → Rep K F (.ref a) (.dct ds)
  | ins {a C dx : Addr} {fs : List (Str × V)} {ds : List (Str × D)} : F a = some (.ins C dx fs) → RepsF K F fs ds → Rep K F (.ref a) (.ins C ds)
  | scr {a : Addr} {xs : List V} {ds : List D} : SqL K F a xs → Reps K F xs ds → Rep K F (.ref a) (.scr ds)
  | exc {a C dx : Addr} {fs : List (Str × V)} {ds : List (Str × D)} : F a = some (exv a C dx) → F dx = some (.xd fs) → RepsF K F fs ds → Rep K F (.ref a) (.exc C ds)
  | dT {a : Addr} {o : Obj} {kvs : List (List Key × V)} {ds : List (List Key × D)} : F a = some (.frz o (.dT kvs)) → RepsT K F kvs ds → Rep K F (.ref a) (.dT ds)
  | kt {a : Addr} {k : List Key} : F a = some (.tup (k.map kV)) → Rep K F (.ref a) (.kt k)
  | tupN {a : Addr} {o : Obj} {xs : List V} {ds : List D} : F a = some (.frz o (.tup xs)) → o.dict = none → Reps K F xs ds → Rep K F (.ref a) (.tupN ds)
inductive Reps (K : PySem.W.Frag) (F : Hp) : List V → List D → Prop
  | nil : Reps K F [] []
  | cons {v : V} {d : D} {vs : List V} {ds : List D} : Rep K F v d → Reps K F vs ds → Reps K F (v :: vs) (d :: ds)
inductive RepsK (K : PySem.W.Frag) (F : Hp) : List (Key × V) → List (Key × D) → Prop
  | nil : RepsK K F [] []
  | cons {k : Key} {v : V} {d : D} {vs : List (Key × V)} {ds : List (Key × D)} : Rep K F v d → RepsK K F vs ds → RepsK K F ((k, v) :: vs) ((k, d) :: ds)
inductive RepsT (K : PySem.W.Frag) (F : Hp) : List (List Key × V) → List (List Key × D) → Prop
  | nil : RepsT K F [] []
  | cons {k : List Key} {v : V} {d : D} {vs : List (List Key × V)} {ds : List (List Key × D)} : Rep K F v d → RepsT K F vs ds → RepsT K F ((k, v) :: vs) ((k, d) :: ds)
inductive RepsF (K : PySem.W.Frag) (F : Hp) : List (Str × V) → List (Str × D) → Prop
  | nil : RepsF K F [] []
  | cons {k : Str} {v : V} {d : D} {vs : List (Str × V)} {ds : List (Str × D)} : Rep K F v d → RepsF K F vs ds → RepsF K F ((k, v) :: vs) ((k, d) :: ds)
end

def lookK {β : Type} (kvs : List (Key × β)) (k : Key) : Option β := (kvs.find? fun kv => decide (kv.1 = k)).map (·.2)
def lookT {β : Type} (kvs : List (List Key × β)) (k : List Key) : Option β := (kvs.find? fun kv => decide (kv.1 = k)).map (·.2)
section
variable {K : PySem.W.Frag} {F F' H H' : Hp}
theorem same_t {a : Addr} {xs : List V} (e : Same F F') (h : SqT K F a xs) : SqT K F' a xs := by
  rcases h with (h | ⟨o, h⟩) | h
  · exact .inl (.inl (e _ _ h))
  · exact .inl (.inr ⟨o, e _ _ h⟩)
  · exact .inr h
theorem same_l {a : Addr} {xs : List V} (e : Same F F') (h : SqL K F a xs) : SqL K F' a xs := by
  rcases h with (h | ⟨o, h⟩) | h
  · exact .inl (.inl (e _ _ h))
  · exact .inl (.inr ⟨o, e _ _ h⟩)
  · exact .inr h
mutual
theorem Rep.mono (e : Same F F') : ∀ {v : V} {d : D}, Rep K F v d → Rep K F' v d
  | _, _, .non => .non
  | _, _, .bl b => .bl b
  | _, _, .int i => .int i
  | _, _, .str s => .str s
  | _, _, .ty n => .ty n
  | _, _, .ref a => .ref a
  | _, _, .lst h r => .lst (e _ _ h) (Reps.mono e r)
  | _, _, .tup h r => .tup (same_t e h) (Reps.mono e r)
  | _, _, .dct h r => .dct (e _ _ h) (RepsK.mono e r)
  | _, _, .ins h r => .ins (e _ _ h) (RepsF.mono e r)
  | _, _, .scr h r => .scr (same_l e h) (Reps.mono e r)
  | _, _, .exc h h2 r => .exc (e _ _ h) (e _ _ h2) (RepsF.mono e r)
  | _, _, .dT h r => .dT (e _ _ h) (RepsT.mono e r)
  | _, _, .kt h => .kt (e _ _ h)
  | _, _, .tupN h hd r => .tupN (e _ _ h) hd (Reps.mono e r)
theorem Reps.mono (e : Same F F') : ∀ {v : List V} {d : List D}, Reps K F v d → Reps K F' v d
  | _, _, .nil => .nil
  | _, _, .cons h r => .cons (Rep.mono e h) (Reps.mono e r)
theorem RepsK.mono (e : Same F F') : ∀ {v : List (Key × V)} {d : List (Key × D)}, RepsK K F v d → RepsK K F' v d
  | _, _, .nil => .nil
  | _, _, .cons h r => .cons (Rep.mono e h) (RepsK.mono e r)
theorem RepsT.mono (e : Same F F') : ∀ {v : List (List Key × V)} {d : List (List Key × D)}, RepsT K F v d → RepsT K F' v d
  | _, _, .nil => .nil
  | _, _, .cons h r => .cons (Rep.mono e h) (RepsT.mono e r)
theorem RepsF.mono (e : Same F F') : ∀ {v : List (Str × V)} {d : List (Str × D)}, RepsF K F v d → RepsF K F' v d
  | _, _, .nil => .nil
  | _, _, .cons h r => .cons (Rep.mono e h) (RepsF.mono e r)
end
theorem Reps.length : ∀ {v : List V} {d : List D}, Reps K F v d → v.length = d.length
  | _, _, .nil => rfl
  | _, _, .cons _ r => by rw [List.length_cons, List.length_cons, r.length]
theorem Reps.append : ∀ {v v' : List V} {d d' : List D}, Reps K F v d → Reps K F v' d' → Reps K F (v ++ v') (d ++ d')
  | _, _, _, _, .nil, s => s
  | _, _, _, _, .cons h r, s => .cons h (r.append s)
theorem Reps.get : ∀ {v : List V} {d : List D} {i : Nat} {x : D}, Reps K F v d → d[i]? = some x → ∃ u, v[i]? = some u ∧ Rep K F u x
  | _, _, _, _, .nil, e => by simp at e
  | _, _, 0, _, .cons h _, e => by simp at e; subst e; exact ⟨_, rfl, h⟩
  | _, _, i + 1, _, .cons _ r, e => by
    obtain ⟨u, h1, h2⟩ := r.get (i := i) (by simpa using e)
    exact ⟨u, by simpa using h1, h2⟩
theorem Reps.get' : ∀ {v : List V} {d : List D} {i : Nat} {u : V}, Reps K F v d → v[i]? = some u → ∃ x, d[i]? = some x ∧ Rep K F u x
  | _, _, _, _, .nil, e => by simp at e
  | _, _, 0, _, .cons h _, e => by simp at e; subst e; exact ⟨_, rfl, h⟩
  | _, _, i + 1, _, .cons _ r, e => by
    obtain ⟨u, h1, h2⟩ := r.get' (i := i) (by simpa using e)
    exact ⟨u, by simpa using h1, h2⟩
theorem Reps.take : ∀ {v : List V} {d : List D} (n : Nat), Reps K F v d → Reps K F (v.take n) (d.take n)
  | _, _, 0, _ => .nil
  | _, _, _ + 1, .nil => .nil
  | _, _, n + 1, .cons h r => .cons h (r.take n)
theorem Reps.drop : ∀ {v : List V} {d : List D} (n : Nat), Reps K F v d → Reps K F (v.drop n) (d.drop n)
  | _, _, 0, r => r
  | _, _, _ + 1, .nil => .nil
  | _, _, n + 1, .cons _ r => r.drop n
theorem Reps.set {u : V} {x : D} (h : Rep K F u x) : ∀ {v : List V} {d : List D} (n : Nat), Reps K F v d → Reps K F (v.set n u) (d.set n x)
  | _, _, _, .nil => .nil
  | _, _, 0, .cons _ r => .cons h r
  | _, _, n + 1, .cons g r => .cons g (r.set h n)
theorem Reps.eraseIdx : ∀ {v : List V} {d : List D} (n : Nat), Reps K F v d → Reps K F (v.eraseIdx n) (d.eraseIdx n)
  | _, _, _, .nil => .nil
  | _, _, 0, .cons _ r => r
  | _, _, n + 1, .cons h r => .cons h (r.eraseIdx n)
theorem Reps.reverse : ∀ {v : List V} {d : List D}, Reps K F v d → Reps K F v.reverse d.reverse
  | _, _, .nil => .nil
  | _, _, .cons h r => by
    rw [List.reverse_cons, List.reverse_cons]
    exact r.reverse.append (.cons h .nil)
theorem Reps.split : ∀ {v v' : List V} {d : List D}, Reps K F (v ++ v') d → ∃ d1 d2, d = d1 ++ d2 ∧ Reps K F v d1 ∧ Reps K F v' d2
  | [], _, d, r => ⟨[], d, rfl, .nil, r⟩
  | _ :: v, _, _, .cons h r => by
    obtain ⟨d1, d2, e, h1, h2⟩ := r.split (v := v)
    exact ⟨_ :: d1, d2, by rw [e]; rfl, .cons h h1, h2⟩
theorem RepsK.find : ∀ {v : List (Key × V)} {d : List (Key × D)} {k : Key} {x : D}, RepsK K F v d → lookK d k = some x → ∃ u, lookK v k = some u ∧ Rep K F u x
  | _, _, _, _, .nil, e => by simp [lookK] at e
  | _, _, k, x, .cons (k := k') h r, e => by
    unfold lookK at e ⊢
    rw [List.find?_cons] at e ⊢
    cases q : decide (k' = k) with
    | true => simp only [q] at e ⊢; simp at e; subst e; exact ⟨_, rfl, h⟩
    | false => simp only [q] at e ⊢; exact r.find e
theorem RepsK.miss : ∀ {v : List (Key × V)} {d : List (Key × D)} {k : Key}, RepsK K F v d → lookK d k = none → lookK v k = none
  | _, _, _, .nil, _ => rfl
  | _, _, k, .cons (k := k') h r, e => by
    unfold lookK at e ⊢
    rw [List.find?_cons] at e ⊢
    cases q : decide (k' = k) with
    | true => simp only [q] at e; simp at e
    | false => simp only [q] at e ⊢; exact r.miss e
theorem RepsK.isSome {v : List (Key × V)} {d : List (Key × D)} (r : RepsK K F v d) (k : Key) : (lookK v k).isSome = (lookK d k).isSome := by
  cases e : lookK d k with
  | none => rw [r.miss e]; rfl
  | some x => obtain ⟨u, hu, _⟩ := r.find e; rw [hu]; rfl
theorem RepsK.length : ∀ {v : List (Key × V)} {d : List (Key × D)}, RepsK K F v d → v.length = d.length
  | _, _, .nil => rfl
  | _, _, .cons _ r => by rw [List.length_cons, List.length_cons, r.length]
theorem RepsT.find : ∀ {v : List (List Key × V)} {d : List (List Key × D)} {k : List Key} {x : D}, RepsT K F v d → lookT d k = some x → ∃ u, lookT v k = some u ∧ Rep K F u x
  | _, _, _, _, .nil, e => by simp [lookT] at e
  | _, _, k, x, .cons (k := k') h r, e => by
    unfold lookT at e ⊢
    rw [List.find?_cons] at e ⊢
    cases q : decide (k' = k) with
    | true => simp only [q] at e ⊢; simp at e; subst e; exact ⟨_, rfl, h⟩
    | false => simp only [q] at e ⊢; exact r.find e
theorem RepsT.miss : ∀ {v : List (List Key × V)} {d : List (List Key × D)} {k : List Key}, RepsT K F v d → lookT d k = none → lookT v k = none
  | _, _, _, .nil, _ => rfl
  | _, _, k, .cons (k := k') h r, e => by
    unfold lookT at e ⊢
    rw [List.find?_cons] at e ⊢
    cases q : decide (k' = k) with
    | true => simp only [q] at e; simp at e
    | false => simp only [q] at e ⊢; exact r.miss e
theorem RepsT.isSome {v : List (List Key × V)} {d : List (List Key × D)} (r : RepsT K F v d) (k : List Key) : (lookT v k).isSome = (lookT d k).isSome := by
  cases e : lookT d k with
  | none => rw [r.miss e]; rfl
  | some x => obtain ⟨u, hu, _⟩ := r.find e; rw [hu]; rfl
theorem RepsT.length : ∀ {v : List (List Key × V)} {d : List (List Key × D)}, RepsT K F v d → v.length = d.length
  | _, _, .nil => rfl
  | _, _, .cons _ r => by rw [List.length_cons, List.length_cons, r.length]
theorem RepsF.find : ∀ {v : List (Str × V)} {d : List (Str × D)} {k : Str} {x : D}, RepsF K F v d → d.lookup k = some x → ∃ u, v.lookup k = some u ∧ Rep K F u x
  | _, _, _, _, .nil, e => by simp at e
  | _, _, k, x, .cons (k := k') h r, e => by
    rw [List.lookup_cons] at e ⊢
    cases q : (k == k') with
    | true => rw [q] at e; simp at e; subst e; exact ⟨_, rfl, h⟩
    | false => rw [q] at e; exact r.find (by simpa using e)
theorem RepsF.miss : ∀ {v : List (Str × V)} {d : List (Str × D)} {k : Str}, RepsF K F v d → d.lookup k = none → v.lookup k = none
  | _, _, _, .nil, _ => rfl
  | _, _, k, .cons (k := k') h r, e => by
    rw [List.lookup_cons] at e ⊢
    cases q : (k == k') with
    | true => rw [q] at e; simp at e
    | false => rw [q] at e; exact r.miss (by simpa using e)
theorem RepsF.length : ∀ {v : List (Str × V)} {d : List (Str × D)}, RepsF K F v d → v.length = d.length
  | _, _, .nil => rfl
  | _, _, .cons _ r => by rw [List.length_cons, List.length_cons, r.length]
end

/-! ### slots -/
inductive Slots (K : PySem.W.Frag) (F : Hp) : L2.St → List (Option D) → Prop
  | nil : Slots K F [] []
  | no {o : Option V} {σ : L2.St} {δ : List (Option D)} : Slots K F σ δ → Slots K F (o :: σ) (none :: δ)
  | yes {v : V} {d : D} {σ : L2.St} {δ : List (Option D)} : Rep K F v d → Slots K F σ δ → Slots K F (some v :: σ) (some d :: δ)
section
variable {K : PySem.W.Frag} {F F' : Hp}
theorem Slots.mono (e : Same F F') : ∀ {σ : L2.St} {δ : List (Option D)}, Slots K F σ δ → Slots K F' σ δ
  | _, _, .nil => .nil
  | _, _, .no r => .no (r.mono e)
  | _, _, .yes h r => .yes (h.mono e) (r.mono e)
theorem Slots.get : ∀ {σ : L2.St} {δ : List (Option D)} {i : Nat} {d : D}, Slots K F σ δ → δ[i]? = some (some d) → ∃ v, σ[i]? = some (some v) ∧ Rep K F v d
  | _, _, _, _, .nil, e => by simp at e
  | _, _, 0, _, .no _, e => by simp at e
  | _, _, 0, _, .yes h _, e => by simp at e; subst e; exact ⟨_, rfl, h⟩
  | _, _, i + 1, _, .no r, e => by
    obtain ⟨v, h1, h2⟩ := r.get (i := i) (by simpa using e)
    exact ⟨v, by simpa using h1, h2⟩
  | _, _, i + 1, _, .yes _ r, e => by
    obtain ⟨v, h1, h2⟩ := r.get (i := i) (by simpa using e)
    exact ⟨v, by simpa using h1, h2⟩
theorem Slots.set {v : V} {d : D} (h : Rep K F v d) : ∀ {σ : L2.St} {δ : List (Option D)} (i : Nat), Slots K F σ δ → Slots K F (σ.set i (some v)) (δ.set i (some d))
  | _, _, _, .nil => .nil
  | _, _, 0, .no r => .yes h r
  | _, _, 0, .yes _ r => .yes h r
  | _, _, i + 1, .no r => .no (r.set h i)
  | _, _, i + 1, .yes g r => .yes g (r.set h i)
theorem Slots.forget : ∀ {σ : L2.St} {δ : List (Option D)} (i : Nat), Slots K F σ δ → Slots K F σ (δ.set i none)
  | _, _, _, .nil => .nil
  | _, _, 0, .no r => .no r
  | _, _, 0, .yes _ r => .no r
  | _, _, i + 1, .no r => .no (r.forget i)
  | _, _, i + 1, .yes g r => .yes g (r.forget i)
theorem Slots.unset : ∀ {σ : L2.St} {δ : List (Option D)} (i : Nat), Slots K F σ δ → Slots K F (σ.set i none) (δ.set i none)
  | _, _, _, .nil => .nil
  | _, _, 0, .no r => .no r
  | _, _, 0, .yes _ r => .no r
  | _, _, i + 1, .no r => .no (r.unset i)
  | _, _, i + 1, .yes g r => .yes g (r.unset i)
/-- less is known -/
def Wk : List (Option D) → List (Option D) → Prop
  | [], [] => True
  | _ :: δ, none :: δ' => Wk δ δ'
  | some d :: δ, some d' :: δ' => d = d' ∧ Wk δ δ'
  | _, _ => False
theorem Wk.refl : ∀ δ : List (Option D), Wk δ δ
  | [] => trivial
  | none :: δ => Wk.refl δ
  | some _ :: δ => ⟨rfl, Wk.refl δ⟩
theorem Slots.wk : ∀ {σ : L2.St} {δ δ' : List (Option D)}, Slots K F σ δ → Wk δ δ' → Slots K F σ δ'
  | _, _, [], .nil, _ => .nil
  | _, _, _ :: _, .nil, w => nomatch w
  | _, _, [], .no _, w => nomatch w
  | _, _, none :: _, .no r, w => .no (r.wk w)
  | _, _, some _ :: _, .no r, w => nomatch w
  | _, _, [], .yes _ _, w => nomatch w
  | _, _, none :: _, .yes _ r, w => .no (r.wk w)
  | _, _, some _ :: _, .yes h r, w => by obtain ⟨e, w⟩ := w; subst e; exact .yes h (r.wk w)
def wipeD (δ : List (Option D)) : List Nat → List (Option D)
  | [] => δ
  | i :: r => (wipeD δ r).set i none
theorem Slots.len : ∀ {σ : L2.St} {δ : List (Option D)}, Slots K F σ δ → σ.length = δ.length
  | _, _, .nil => rfl
  | _, _, .no r => by rw [List.length_cons, List.length_cons, r.len]
  | _, _, .yes _ r => by rw [List.length_cons, List.length_cons, r.len]
theorem slots_start : ∀ {vs : List V} {ds : List D} (n : Nat), Reps K F vs ds → Slots K F (vs.map some ++ List.replicate n none) (ds.map some ++ List.replicate n none)
  | _, _, 0, .nil => .nil
  | _, _, n + 1, .nil => .no (slots_start (vs := []) (ds := []) n .nil)
  | _, _, n, .cons h r => .yes h (slots_start n r)
end

/-! ### the store of mutable objects -/
inductive MO where
  | lst (xs : List D) | dct (kvs : List (Key × D)) | ins (C : Addr) (fs : List (Str × D)) | dT (kvs : List (List Key × D)) | tab (q : Str) (Φ : Hp → Prop)
abbrev Store := List (Addr × MO)
def adrs (μ : Store) : List Addr := μ.map (·.1)
def MuOk (K : PySem.W.Frag) (F H : Hp) (l : Addr) : MO → Prop
  | .lst ds => ∃ xs, H l = some (.lst xs) ∧ Reps K F xs ds
  | .dct kvs => ∃ kv, H l = some (.dK kv) ∧ RepsK K F kv kvs
  | .ins C fs => ∃ dx fv, H l = some (.ins C dx fv) ∧ RepsF K F fv fs
  | .dT kvs => ∃ kv, H l = some (.dT kv) ∧ RepsT K F kv kvs
  | .tab q Φ => ∃ ps : Array Value, H l = some (.tbl ps) ∧ TriplesOk ps.toList ∧ (∀ (pos : Pos) (cv : Value), codeAmong pos ps.toList = some cv → ∃ c, cv = .ref c ∧ F c = some (LamX.CodeO c q)) ∧ ∀ F', Same F F' → Φ F'
structure Cm (K : PySem.W.Frag) (F H : Hp) (μ : Store) : Prop where
  ex : Same F H
  mu : ∀ p ∈ μ, F p.1 = none ∧ MuOk K F H p.1 p.2
  nd : (adrs μ).Nodup
/-- from one state to a later one -/
structure Mv (μ : Store) (F H : Hp) (μ' : Store) (F' H' : Hp) : Prop where
  kp : ∀ a o, H a = some o → a ∉ adrs μ → H' a = some o
  up : Same F F'
  nw : ∀ a, F' a ≠ none → F a ≠ none ∨ H a = none ∨ a ∈ adrs μ
  nm : ∀ a ∈ adrs μ', a ∈ adrs μ ∨ H a = none
  gr : ∀ a, H' a = none → H a = none
theorem Mv.refl (μ : Store) (F H : Hp) : Mv μ F H μ F H := ⟨fun _ _ h _ => h, Same.refl F, fun _ h => .inl h, fun _ h => .inl h, fun _ h => h⟩
theorem Mv.trans {μ μ1 μ2 : Store} {F H F1 H1 F2 H2 : Hp} (a : Mv μ F H μ1 F1 H1) (b : Mv μ1 F1 H1 μ2 F2 H2) : Mv μ F H μ2 F2 H2 where
  kp := fun x o h n => b.kp x o (a.kp x o h n) fun m => by
    rcases a.nm x m with q | q
    · exact n q
    · rw [h] at q; cases q
  up := a.up.trans b.up
  nw := fun x h => by
    rcases b.nw x h with q | q | q
    · exact a.nw x q
    · exact .inr (.inl (a.gr x q))
    · rcases a.nm x q with z | z
      · exact .inr (.inr z)
      · exact .inr (.inl z)
  nm := fun x h => by
    rcases b.nm x h with q | q
    · exact a.nm x q
    · exact .inr (a.gr x q)
  gr := fun x h => a.gr x (b.gr x h)
theorem MuOk.mono {K : PySem.W.Frag} {F F' H : Hp} (e : Same F F') {l : Addr} {m : MO} (h : MuOk K F H l m) : MuOk K F' H l m := by
  cases m with
  | lst ds => obtain ⟨xs, e1, r⟩ := h; exact ⟨xs, e1, r.mono e⟩
  | dct kvs => obtain ⟨xs, e1, r⟩ := h; exact ⟨xs, e1, r.mono e⟩
  | ins C fs => obtain ⟨dx, fv, e1, r⟩ := h; exact ⟨dx, fv, e1, r.mono e⟩
  | dT kvs => obtain ⟨xs, e1, r⟩ := h; exact ⟨xs, e1, r.mono e⟩
  | tab q Φ =>
    obtain ⟨ps, e1, e2, e3, e4⟩ := h
    refine ⟨ps, e1, e2, fun pos cv hc => ?_, fun F2 h2 => e4 F2 (e.trans h2)⟩
    obtain ⟨c, h1, h2⟩ := e3 pos cv hc
    exact ⟨c, h1, e _ _ h2⟩
theorem MuOk.some {K : PySem.W.Frag} {F H : Hp} {l : Addr} {m : MO} (h : MuOk K F H l m) : ∃ o, H l = some o := by
  cases m with
  | lst ds => obtain ⟨xs, e1, r⟩ := h; exact ⟨_, e1⟩
  | dct kvs => obtain ⟨xs, e1, r⟩ := h; exact ⟨_, e1⟩
  | ins C fs => obtain ⟨dx, fv, e1, r⟩ := h; exact ⟨_, e1⟩
  | dT kvs => obtain ⟨xs, e1, r⟩ := h; exact ⟨_, e1⟩
  | tab q Φ => obtain ⟨ps, e1, r⟩ := h; exact ⟨_, e1⟩
theorem MuOk.heap {K : PySem.W.Frag} {F H H' : Hp} {l : Addr} {m : MO} (h : MuOk K F H l m) (e : H' l = H l) : MuOk K F H' l m := by
  cases m with
  | lst ds => obtain ⟨xs, e1, r⟩ := h; exact ⟨xs, e.trans e1, r⟩
  | dct kvs => obtain ⟨xs, e1, r⟩ := h; exact ⟨xs, e.trans e1, r⟩
  | ins C fs => obtain ⟨dx, fv, e1, r⟩ := h; exact ⟨dx, fv, e.trans e1, r⟩
  | dT kvs => obtain ⟨xs, e1, r⟩ := h; exact ⟨xs, e.trans e1, r⟩
  | tab q Φ => obtain ⟨ps, e1, r⟩ := h; exact ⟨ps, e.trans e1, r⟩
section
variable {K : PySem.W.Frag} {F H F' H' : Hp} {μ μ' : Store}
/-- a new immutable object is laid -/
theorem mv_new {p : Addr} {o : HO} (c : Cm K F H μ) (n : H p = none) : Mv μ F H μ (upd F p o) (upd H p o) where
  kp := fun a u h _ => by rw [upd_ne (ne_of_none h n)]; exact h
  up := fun a u h => by rw [upd_ne (ne_of_none (c.ex a u h) n)]; exact h
  nw := fun a h => by
    by_cases e : a = p
    · subst e; exact .inr (.inl n)
    · rw [upd_ne e] at h; exact .inl h
  nm := fun _ h => .inl h
  gr := fun a h => by
    by_cases e : a = p
    · subst e; exact n
    · rw [upd_ne e] at h; exact h
theorem Cm.not_new {p : Addr} (c : Cm K F H μ) (n : H p = none) : p ∉ adrs μ := fun h => by
  obtain ⟨q, hq, e⟩ := List.mem_map.mp h
  obtain ⟨o, ho⟩ := (c.mu q hq).2.some
  rw [e, n] at ho; cases ho
theorem cm_new {p : Addr} {o : HO} (c : Cm K F H μ) (n : H p = none) : Cm K (upd F p o) (upd H p o) μ where
  ex := fun a u h => by
    by_cases e : a = p
    · subst e; rw [upd_same] at h ⊢; exact h
    · rw [upd_ne e] at h ⊢; exact c.ex a u h
  mu := fun q hq => by
    have np : q.1 ≠ p := fun e => c.not_new n (by rw [← e]; exact List.mem_map.mpr ⟨q, hq, rfl⟩)
    obtain ⟨h1, h2⟩ := c.mu q hq
    refine ⟨by rw [upd_ne np]; exact h1, (h2.mono (mv_new (o := o) c n).up).heap (by rw [upd_ne np])⟩
  nd := c.nd
/-- a new mutable one -/
theorem mv_newM {p : Addr} {o : HO} {m : MO} (c : Cm K F H μ) (n : H p = none) : Mv μ F H (μ ++ [(p, m)]) F (upd H p o) where
  kp := fun a u h _ => by rw [upd_ne (ne_of_none h n)]; exact h
  up := Same.refl F
  nw := fun a h => .inl h
  nm := fun a h => by
    rw [adrs, List.map_append] at h
    rcases List.mem_append.mp h with q | q
    · exact .inl q
    · simp at q; subst q; exact .inr n
  gr := fun a h => by
    by_cases e : a = p
    · subst e; exact n
    · rw [upd_ne e] at h; exact h
theorem Cm.f_none (c : Cm K F H μ) {p : Addr} (n : H p = none) : F p = none := by
  cases q : F p with
  | none => rfl
  | some o => rw [c.ex p o q] at n; cases n
theorem cm_newM {p : Addr} {o : HO} {m : MO} (c : Cm K F H μ) (n : H p = none) (h : MuOk K F (upd H p o) p m) : Cm K F (upd H p o) (μ ++ [(p, m)]) where
  ex := fun a u e => by rw [upd_ne (ne_of_none (c.ex a u e) n)]; exact c.ex a u e
  mu := fun q hq => by
    rcases List.mem_append.mp hq with hq | hq
    · have np : q.1 ≠ p := fun e => c.not_new n (by rw [← e]; exact List.mem_map.mpr ⟨q, hq, rfl⟩)
      obtain ⟨h1, h2⟩ := c.mu q hq
      exact ⟨h1, h2.heap (by rw [upd_ne np])⟩
    · simp at hq; subst hq; exact ⟨c.f_none n, h⟩
  nd := by
    show ((μ ++ [(p, m)]).map (·.1)).Nodup
    rw [List.map_append]
    refine List.nodup_append.mpr ⟨c.nd, by simp, ?_⟩
    intro a ha b hb e
    simp at hb
    subst hb; subst e
    exact c.not_new n ha
/-- a mutable one is changed -/
theorem mem_at {j : Nat} {l : Addr} {m : MO} (h : μ[j]? = some (l, m)) : (l, m) ∈ μ := List.mem_of_getElem? h
theorem adrs_set {j : Nat} {l : Addr} {m m' : MO} (h : μ[j]? = some (l, m)) : adrs (μ.set j (l, m')) = adrs μ := by
  unfold adrs
  rw [List.map_set]
  refine List.ext_getElem? fun i => ?_
  by_cases e : j = i
  · subst e
    rw [List.getElem?_set_self (by rw [List.length_map]; exact (List.getElem?_eq_some_iff.mp h).1), List.getElem?_map, h]; rfl
  · rw [List.getElem?_set_ne e]
theorem mv_set {j : Nat} {l : Addr} {m m' : MO} {o : HO} (h : μ[j]? = some (l, m)) (c : Cm K F H μ) : Mv μ F H (μ.set j (l, m')) F (upd H l o) where
  kp := fun a u e n => by
    have ne : a ≠ l := fun z => n (by rw [z]; exact List.mem_map.mpr ⟨_, mem_at h, rfl⟩)
    rw [upd_ne ne]; exact e
  up := Same.refl F
  nw := fun a e => .inl e
  nm := fun a e => by rw [adrs_set h] at e; exact .inl e
  gr := fun a e => by
    by_cases z : a = l
    · subst z; rw [upd_same] at e; cases e
    · rw [upd_ne z] at e; exact e
theorem adrs_inj (c : Cm K F H μ) {i j : Nat} {l : Addr} {m m' : MO} (h : μ[i]? = some (l, m)) (h' : μ[j]? = some (l, m')) : i = j := by
  have hn := c.nd
  have a : (adrs μ)[i]? = some l := by unfold adrs; rw [List.getElem?_map, h]; rfl
  have b : (adrs μ)[j]? = some l := by unfold adrs; rw [List.getElem?_map, h']; rfl
  exact nd_ix hn a b
theorem cm_set {j : Nat} {l : Addr} {m m' : MO} {o : HO} (h : μ[j]? = some (l, m)) (c : Cm K F H μ) (hm : MuOk K F (upd H l o) l m') : Cm K F (upd H l o) (μ.set j (l, m')) where
  ex := fun a u e => by
    have ne : a ≠ l := fun z => by rw [z, (c.mu _ (mem_at h)).1] at e; cases e
    rw [upd_ne ne]; exact c.ex a u e
  mu := fun q hq => by
    obtain ⟨i, hi⟩ := List.mem_iff_getElem?.mp hq
    by_cases e : j = i
    · subst e
      rw [List.getElem?_set_self (List.getElem?_eq_some_iff.mp h).1] at hi
      cases hi
      exact ⟨(c.mu _ (mem_at h)).1, hm⟩
    · rw [List.getElem?_set_ne e] at hi
      obtain ⟨h1, h2⟩ := c.mu q (List.mem_of_getElem? hi)
      have ne : q.1 ≠ l := fun z => e (adrs_inj c (l := l) h (by rw [hi, ← z]))
      exact ⟨h1, h2.heap (by rw [upd_ne ne])⟩
  nd := by rw [adrs_set h]; exact c.nd
/-- one is frozen -/
theorem mv_frz {j : Nat} {l : Addr} {m : MO} {o : HO} (h : μ[j]? = some (l, m)) (ho : H l = some o) (c : Cm K F H μ) : Mv μ F H (μ.eraseIdx j) (upd F l o) H where
  kp := fun a u e _ => e
  up := fun a u e => by
    have ne : a ≠ l := fun z => by rw [z, (c.mu _ (mem_at h)).1] at e; cases e
    rw [upd_ne ne]; exact e
  nw := fun a e => by
    by_cases z : a = l
    · subst z; exact .inr (.inr (List.mem_map.mpr ⟨_, mem_at h, rfl⟩))
    · rw [upd_ne z] at e; exact .inl e
  nm := fun a e => by
    obtain ⟨q, hq, rfl⟩ := List.mem_map.mp e
    exact .inl (List.mem_map.mpr ⟨q, List.mem_of_mem_eraseIdx hq, rfl⟩)
  gr := fun _ e => e
theorem adrs_erase {j : Nat} : adrs (μ.eraseIdx j) = (adrs μ).eraseIdx j := by
  unfold adrs
  induction μ generalizing j with
  | nil => rfl
  | cons q r ih =>
    cases j with
    | zero => rfl
    | succ j =>
      show q.1 :: (r.eraseIdx j).map (·.1) = q.1 :: (r.map (·.1)).eraseIdx j
      rw [ih]
theorem cm_frz {j : Nat} {l : Addr} {m : MO} {o : HO} (h : μ[j]? = some (l, m)) (ho : H l = some o) (c : Cm K F H μ) : Cm K (upd F l o) H (μ.eraseIdx j) where
  ex := fun a u e => by
    by_cases z : a = l
    · subst z; rw [upd_same] at e; cases e; exact ho
    · rw [upd_ne z] at e; exact c.ex a u e
  mu := fun q hq => by
    have up := (mv_frz h ho c).up
    have hq' := List.mem_of_mem_eraseIdx hq
    obtain ⟨h1, h2⟩ := c.mu q hq'
    have ne : q.1 ≠ l := fun z => by
      have nd := c.nd
      have h3 : l ∈ (adrs μ).eraseIdx j := by rw [← adrs_erase, ← z]; exact List.mem_map.mpr ⟨q, hq, rfl⟩
      obtain ⟨i, hi⟩ := List.mem_iff_getElem?.mp h3
      have a : (adrs μ)[j]? = some l := by unfold adrs; rw [List.getElem?_map, h]; rfl
      rw [List.getElem?_eraseIdx] at hi
      split at hi
      · have := nd_ix nd a hi; omega
      · have := nd_ix nd a hi; omega
    exact ⟨by rw [upd_ne ne]; exact h1, h2.mono up⟩
  nd := by rw [adrs_erase]; exact c.nd.sublist (List.eraseIdx_sublist ..)
/-- a part of the store is lent -/
theorem Cm.take {μ1 μ2 : Store} (c : Cm K F H (μ1 ++ μ2)) : Cm K F H μ1 :=
  ⟨c.ex, fun q hq => c.mu q (List.mem_append_left _ hq), by have := c.nd; unfold adrs at this ⊢; rw [List.map_append] at this; exact (List.nodup_append.mp this).1⟩
theorem Mv.lent {μ1 μ1' μ2 : Store} (c : Cm K F H (μ1 ++ μ2)) (m : Mv μ1 F H μ1' F' H') (c' : Cm K F' H' μ1') : Mv (μ1 ++ μ2) F H (μ1' ++ μ2) F' H' ∧ Cm K F' H' (μ1' ++ μ2) := by
  have ad : ∀ (a b : Store), adrs (a ++ b) = adrs a ++ adrs b := fun a b => by unfold adrs; rw [List.map_append]
  have nd := c.nd
  rw [ad] at nd
  have dj := (List.nodup_append.mp nd).2.2
  have two : ∀ q ∈ μ2, F' q.1 = none ∧ H' q.1 = H q.1 := fun q hq => by
    obtain ⟨h1, h2⟩ := c.mu q (List.mem_append_right _ hq)
    obtain ⟨o, ho⟩ := h2.some
    have nin : q.1 ∉ adrs μ1 := fun z => dj _ z _ (List.mem_map.mpr ⟨q, hq, rfl⟩) rfl
    refine ⟨?_, (m.kp _ _ ho nin).trans ho.symm⟩
    cases z : F' q.1 with
    | none => rfl
    | some u =>
      rcases m.nw q.1 (by rw [z]; exact fun e => by cases e) with w | w | w
      · exact absurd h1 w
      · rw [ho] at w; cases w
      · exact absurd w nin
  refine ⟨⟨fun a o h n => m.kp a o h fun z => n (by rw [ad]; exact List.mem_append_left _ z), m.up, fun a h => ?_, fun a h => ?_, m.gr⟩, ⟨c'.ex, fun q hq => ?_, ?_⟩⟩
  · rcases m.nw a h with w | w | w
    · exact .inl w
    · exact .inr (.inl w)
    · exact .inr (.inr (by rw [ad]; exact List.mem_append_left _ w))
  · rw [ad] at h ⊢
    rcases List.mem_append.mp h with w | w
    · rcases m.nm a w with z | z
      · exact .inl (List.mem_append_left _ z)
      · exact .inr z
    · exact .inl (List.mem_append_right _ w)
  · rcases List.mem_append.mp hq with w | w
    · exact c'.mu q w
    · obtain ⟨z1, z2⟩ := two q w
      obtain ⟨h1, h2⟩ := c.mu q (List.mem_append_right _ w)
      exact ⟨z1, (h2.mono m.up).heap z2⟩
  · rw [ad]
    refine List.nodup_append.mpr ⟨c'.nd, (List.nodup_append.mp nd).2.1, fun a ha b hb e => ?_⟩
    subst e
    rcases m.nm a ha with z | z
    · exact dj _ z _ hb rfl
    · obtain ⟨q, hq, rfl⟩ := List.mem_map.mp hb
      obtain ⟨o, ho⟩ := (c.mu q (List.mem_append_right _ hq)).2.some
      rw [ho] at z; cases z
end
end VL
set_option Elab.async false
set_option linter.all false
set_option maxRecDepth 100000
set_option maxHeartbeats 4000000
/-! VL1: judgements on readings by values, rules of readings. -/
namespace VL
open PySem PySem.Spec PyProof.Rows L2

/-- what is wanted of exceptions -/
structure Wish where
  E : XK
  R : Addr → List (Str × D) → Store → Prop
abbrev Wish.no : Wish := ⟨E0, fun _ _ _ => False⟩
def ZK (K : PySem.W.Frag) (Z : Wish) (μ : Store) (F H : Hp) : Prop :=
  ∀ C fs μ' F' H' d fv, Z.R C fs μ' → Mv μ F H μ' F' H' → Cm K F' H' μ' → F' d = some (.xd fv) → RepsF K F' fv fs → Z.E (.ref C) (some d) H'
theorem ZK.no {K : PySem.W.Frag} {μ : Store} {F H : Hp} : ZK K Wish.no μ F H := fun _ _ _ _ _ _ _ h => h.elim
theorem ZK.mv {K : PySem.W.Frag} {Z : Wish} {μ μ' : Store} {F H F' H' : Hp} (z : ZK K Z μ F H) (m : Mv μ F H μ' F' H') : ZK K Z μ' F' H' :=
  fun C fs μ2 F2 H2 d fv r m2 c h1 h2 => z C fs μ2 F2 H2 d fv r (m.trans m2) c h1 h2

abbrev Env := List (Option D)
inductive Fl where
  | nx (δ : Env) | bk (δ : Env) | ct (δ : Env) | rt (d : D)
structure KS (K : PySem.W.Frag) (P : Fl → Store → Prop) (μ : Store) (F H : Hp) (Dn : Ends) : Prop where
  nx : ∀ σ' δ' μ' F' H', P (.nx δ') μ' → Mv μ F H μ' F' H' → Cm K F' H' μ' → Slots K F' σ' δ' → Dn.nx σ' H'
  bk : ∀ σ' δ' μ' F' H', P (.bk δ') μ' → Mv μ F H μ' F' H' → Cm K F' H' μ' → Slots K F' σ' δ' → Dn.bk σ' H'
  ct : ∀ σ' δ' μ' F' H', P (.ct δ') μ' → Mv μ F H μ' F' H' → Cm K F' H' μ' → Slots K F' σ' δ' → Dn.ct σ' H'
  rt : ∀ v d μ' F' H', P (.rt d) μ' → Mv μ F H μ' F' H' → Cm K F' H' μ' → Rep K F' v d → Dn.rt v H'
theorem KS.mv {K : PySem.W.Frag} {P : Fl → Store → Prop} {μ μ' : Store} {F H F' H' : Hp} {Dn : Ends} (k : KS K P μ F H Dn) (m : Mv μ F H μ' F' H') : KS K P μ' F' H' Dn :=
  ⟨fun σ' δ' μ2 F2 H2 p m2 c s => k.nx σ' δ' μ2 F2 H2 p (m.trans m2) c s, fun σ' δ' μ2 F2 H2 p m2 c s => k.bk σ' δ' μ2 F2 H2 p (m.trans m2) c s,
   fun σ' δ' μ2 F2 H2 p m2 c s => k.ct σ' δ' μ2 F2 H2 p (m.trans m2) c s, fun v d μ2 F2 H2 p m2 c s => k.rt v d μ2 F2 H2 p (m.trans m2) c s⟩

section
variable (K : PySem.W.Frag) (Z : Wish)
def WE (t : TE) (δ : Env) (μ : Store) (P : D → Store → Prop) : Prop :=
  ∀ σ F H Q, Slots K F σ δ → Cm K F H μ → (∀ v d μ' F' H', P d μ' → Mv μ F H μ' F' H' → Cm K F' H' μ' → Rep K F' v d → Q v H') → ZK K Z μ F H → t σ H Q
def WT (t : TT) (δ : Env) (μ : Store) (P : Bool → Store → Prop) : Prop :=
  ∀ σ F H Q, Slots K F σ δ → Cm K F H μ → (∀ b μ' F' H', P b μ' → Mv μ F H μ' F' H' → Cm K F' H' μ' → Q b H') → ZK K Z μ F H → t σ H Q
def WA (t : TA) (δ : Env) (μ : Store) (P : List D → Store → Prop) : Prop :=
  ∀ σ F H Q, Slots K F σ δ → Cm K F H μ → (∀ vs ds μ' F' H', P ds μ' → Mv μ F H μ' F' H' → Cm K F' H' μ' → Reps K F' vs ds → Q vs H') → ZK K Z μ F H → t σ H Q
def WO (t : TO) (δ : Env) (μ : Store) (P : Option Int → Store → Prop) : Prop :=
  ∀ σ F H Q, Slots K F σ δ → Cm K F H μ → (∀ o μ' F' H', P o μ' → Mv μ F H μ' F' H' → Cm K F' H' μ' → Q o H') → ZK K Z μ F H → t σ H Q
/-- js: the slots that may change -/
def _root_.VL.Ch (js : List Nat) (σ σ' : L2.St) : Prop := (∀ i, i ∉ js → σ'[i]? = σ[i]?) ∧ σ'.length = σ.length
def WG (g : TG) (js : List Nat) (d : D) (δ : Env) (μ : Store) (P : Env → Store → Prop) : Prop :=
  ∀ v σ F H Q, Slots K F σ δ → Cm K F H μ → Rep K F v d → (∀ σ' δ' μ' F' H', P δ' μ' → Ch js σ σ' → Mv μ F H μ' F' H' → Cm K F' H' μ' → Slots K F' σ' δ' → Q σ' H') → ZK K Z μ F H → g v σ H Q
def WGs (g : TGs) (js : List Nat) (ds : List D) (δ : Env) (μ : Store) (P : Env → Store → Prop) : Prop :=
  ∀ vs σ F H Q, Slots K F σ δ → Cm K F H μ → Reps K F vs ds → (∀ σ' δ' μ' F' H', P δ' μ' → Ch js σ σ' → Mv μ F H μ' F' H' → Cm K F' H' μ' → Slots K F' σ' δ' → Q σ' H') → ZK K Z μ F H → g vs σ H Q
def WS (t : TS) (δ : Env) (μ : Store) (P : Fl → Store → Prop) : Prop :=
  ∀ σ F H Dn, Slots K F σ δ → Cm K F H μ → KS K P μ F H Dn → ZK K Z μ F H → t Dn σ H
def WOp (r : R2) (x y : D) (μ : Store) (P : D → Store → Prop) : Prop :=
  ∀ v u F H Q, Cm K F H μ → Rep K F v x → Rep K F u y → (∀ w d μ' F' H', P d μ' → Mv μ F H μ' F' H' → Cm K F' H' μ' → Rep K F' w d → Q w H') → ZK K Z μ F H → r v u H Q
def WUn (r : V → Hp → VK → Prop) (x : D) (μ : Store) (P : D → Store → Prop) : Prop :=
  ∀ v F H Q, Cm K F H μ → Rep K F v x → (∀ w d μ' F' H', P d μ' → Mv μ F H μ' F' H' → Cm K F' H' μ' → Rep K F' w d → Q w H') → ZK K Z μ F H → r v H Q
def WC (r : List V → Hp → VK → Prop) (xs : List D) (μ : Store) (P : D → Store → Prop) : Prop :=
  ∀ vs F H Q, Cm K F H μ → Reps K F vs xs → (∀ w d μ' F' H', P d μ' → Mv μ F H μ' F' H' → Cm K F' H' μ' → Rep K F' w d → Q w H') → ZK K Z μ F H → r vs H Q
def WM (T : String) (r : V → List V → Hp → VK → Prop) (x : D) (xs : List D) (μ : Store) (P : D → Store → Prop) : Prop :=
  ∀ v vs F H Q, Cm K F H μ → Rep K F v x → Reps K F vs xs → (∀ w d μ' F' H', P d μ' → Mv μ F H μ' F' H' → Cm K F' H' μ' → Rep K F' w d → Q w H') → ZK K Z μ F H → r v vs H Q
/-- what a walk yields, behind any growth -/
def ItD (F : Hp) (J : It) (ds : List D) : Prop := ∀ μ F' H' i, Same F F' → Cm K F' H' μ →
  (∀ d, ds[i]? = some d → J.go i H' ∧ ∀ x H2, J.yld i H' x H2 → ∃ F2, Mv μ F' H' μ F2 H2 ∧ Cm K F2 H2 μ ∧ Rep K F2 x d) ∧ (ds.length ≤ i → J.stop i H')
def WI (wi : TI) (δ : Env) (μ : Store) (P : List D → Store → Prop) : Prop :=
  ∀ σ F H R, Slots K F σ δ → Cm K F H μ → (∀ J ds μ' F' H', P ds μ' → Mv μ F H μ' F' H' → Cm K F' H' μ' → ItD K F' J ds → R J H') → ZK K Z μ F H → wi σ H R
end

section
variable {K : PySem.W.Frag} {Z : Wish} {δ : Env} {μ : Store} {ta tb te : TE} {tt tu : TT} {ts tu' : TS}
theorem WE.imp {t : TE} {P P' : D → Store → Prop} (h : WE K Z t δ μ P) (i : ∀ d μ', P d μ' → P' d μ') : WE K Z t δ μ P' :=
  fun σ F H Q s c k z => h σ F H Q s c (fun v d μ' F' H' p => k v d μ' F' H' (i d μ' p)) z
theorem WT.imp {t : TT} {P P' : Bool → Store → Prop} (h : WT K Z t δ μ P) (i : ∀ d μ', P d μ' → P' d μ') : WT K Z t δ μ P' :=
  fun σ F H Q s c k z => h σ F H Q s c (fun v μ' F' H' p => k v μ' F' H' (i v μ' p)) z
theorem WS.imp {t : TS} {P P' : Fl → Store → Prop} (h : WS K Z t δ μ P) (i : ∀ d μ', P d μ' → P' d μ') : WS K Z t δ μ P' :=
  fun σ F H Q s c k z => h σ F H Q s c ⟨fun σ' δ' μ' F' H' p => k.nx σ' δ' μ' F' H' (i _ _ p), fun σ' δ' μ' F' H' p => k.bk σ' δ' μ' F' H' (i _ _ p), fun σ' δ' μ' F' H' p => k.ct σ' δ' μ' F' H' (i _ _ p), fun v d μ' F' H' p => k.rt v d μ' F' H' (i _ _ p)⟩ z
/-! ### expressions -/
theorem we_var {i : Nat} {d : D} {P : D → Store → Prop} (h : δ[i]? = some (some d)) (p : P d μ) : WE K Z (tVar i) δ μ P := fun σ F H Q s c k z => by
  obtain ⟨v, e, r⟩ := s.get h
  exact ⟨v, e, k v d μ F H p (Mv.refl ..) c r⟩
theorem we_c {v : V} {d : D} {P : D → Store → Prop} (h : ∀ F, Rep K F v d) (p : P d μ) : WE K Z (tC v) δ μ P := fun σ F H Q s c k z => k v d μ F H p (Mv.refl ..) c (h F)
theorem we_op {r : R2} {P : D → Store → Prop} (h : WE K Z ta δ μ fun x μ1 => WE K Z tb δ μ1 fun y μ2 => WOp K Z r x y μ2 P) : WE K Z (tOp r ta tb) δ μ P := fun σ F H Q s c k z => by
  refine h σ F H _ s c (fun v x μ1 F1 H1 h1 m1 c1 r1 => ?_) z
  refine h1 σ F1 H1 _ (s.mono m1.up) c1 (fun u y μ2 F2 H2 h2 m2 c2 r2 => ?_) (z.mv m1)
  exact h2 v u F2 H2 Q c2 (r1.mono m2.up) r2 (fun w d μ' F' H' p m3 c3 r3 => k w d μ' F' H' p ((m1.trans m2).trans m3) c3 r3) ((z.mv m1).mv m2)
theorem we_un {r : V → Hp → VK → Prop} {P : D → Store → Prop} (h : WE K Z ta δ μ fun x μ1 => WUn K Z r x μ1 P) : WE K Z (tUn r ta) δ μ P := fun σ F H Q s c k z => by
  refine h σ F H _ s c (fun v x μ1 F1 H1 h1 m1 c1 r1 => ?_) z
  exact h1 v F1 H1 Q c1 r1 (fun w d μ' F' H' p m3 c3 r3 => k w d μ' F' H' p (m1.trans m3) c3 r3) (z.mv m1)
theorem wa_nil {P : List D → Store → Prop} (p : P [] μ) : WA K Z tNil δ μ P := fun σ F H Q s c k z => k [] [] μ F H p (Mv.refl ..) c .nil
theorem wa_cons {t : TA} {P : List D → Store → Prop} (h : WE K Z ta δ μ fun x μ1 => WA K Z t δ μ1 fun xs μ2 => P (x :: xs) μ2) : WA K Z (tCons ta t) δ μ P := fun σ F H Q s c k z => by
  refine h σ F H _ s c (fun v x μ1 F1 H1 h1 m1 c1 r1 => ?_) z
  exact h1 σ F1 H1 _ (s.mono m1.up) c1 (fun vs ds μ2 F2 H2 p m2 c2 r2 => k _ _ μ2 F2 H2 p (m1.trans m2) c2 (.cons (r1.mono m2.up) r2)) (z.mv m1)
/-- new objects: frozen at once -/
theorem we_tup {t : TA} {P : D → Store → Prop} (h : WA K Z t δ μ fun xs μ1 => xs.length ≤ 100000 ∧ P (.tup xs) μ1) : WE K Z (tTup t) δ μ P := fun σ F H Q s c k z =>
  h σ F H _ s c (fun vs xs μ1 F1 H1 ⟨hl, p⟩ m1 c1 r1 => ⟨by rw [r1.length]; exact Nat.le_trans hl (by decide), fun q n => k _ _ μ1 _ _ p (m1.trans (mv_new c1 n)) (cm_new c1 n) (.tup (SqT.of upd_same) (r1.mono (mv_new c1 n).up))⟩) z
theorem we_lst {t : TA} {P : D → Store → Prop} (h : WA K Z t δ μ fun xs μ1 => xs.length ≤ 100000 ∧ P (.lst xs) μ1) : WE K Z (tLst t) δ μ P := fun σ F H Q s c k z =>
  h σ F H _ s c (fun vs xs μ1 F1 H1 ⟨hl, p⟩ m1 c1 r1 => ⟨by rw [r1.length]; exact Nat.le_trans hl (by decide), fun q n => k _ _ μ1 _ _ p (m1.trans (mv_new c1 n)) (cm_new c1 n) (.lst upd_same (r1.mono (mv_new c1 n).up))⟩) z
/-- a new list that stays mutable -/
theorem we_lstM {t : TA} {P : D → Store → Prop} (h : WA K Z t δ μ fun xs μ1 => xs.length ≤ 100000 ∧ ∀ l, P (.ref l) (μ1 ++ [(l, .lst xs)])) : WE K Z (tLst t) δ μ P := fun σ F H Q s c k z =>
  h σ F H _ s c (fun vs xs μ1 F1 H1 ⟨hl, p⟩ m1 c1 r1 => ⟨by rw [r1.length]; exact Nat.le_trans hl (by decide), fun q n => k _ _ _ _ _ (p q) (m1.trans (mv_newM c1 n)) (cm_newM c1 n ⟨vs, upd_same, r1⟩) (.ref q)⟩) z
/-- a name that holds a mutable list is read, and the list is frozen -/
theorem we_frz {j : Nat} {l : Addr} {xs : List D} {P : D → Store → Prop} (h : WE K Z te δ μ fun d μ1 => d = .ref l ∧ μ1[j]? = some (l, .lst xs) ∧ P (.lst xs) (μ1.eraseIdx j)) : WE K Z te δ μ P := fun σ F H Q s c k z =>
  h σ F H Q s c (fun v d μ1 F1 H1 ⟨e, hj, p⟩ m1 c1 r1 => by
    subst e
    obtain ⟨_, vs, hl, rv⟩ := c1.mu _ (mem_at hj)
    cases r1
    have m2 := mv_frz hj hl c1
    exact k _ _ _ _ _ p (m1.trans m2) (cm_frz hj hl c1) (.lst upd_same (rv.mono m2.up))) z
/-! ### tests -/
theorem wt_test {t : TE} {P : Bool → Store → Prop} (h : WE K Z t δ μ fun d μ1 => ∃ b, d = .bl b ∧ P b μ1) : WT K Z (tTest t) δ μ P := fun σ F H Q s c k z =>
  h σ F H _ s c (fun v d μ1 F1 H1 ⟨b, e, p⟩ m1 c1 r1 => by subst e; cases r1; exact ⟨b, rfl, k b μ1 F1 H1 p m1 c1⟩) z
theorem wt_B {t : TE} {P : Bool → Store → Prop} (h : WE K Z t δ μ fun d μ1 => ∃ b, d = .bl b ∧ P b μ1) : WT K Z (tB t) δ μ P := fun σ F H Q s c k z =>
  h σ F H _ s c (fun v d μ1 F1 H1 ⟨b, e, p⟩ m1 c1 r1 => by subst e; cases r1; exact ⟨b, rfl, k b μ1 F1 H1 p m1 c1⟩) z
theorem wt_and {P : Bool → Store → Prop} (h : WT K Z tt δ μ fun b μ1 => if b = true then WT K Z tu δ μ1 P else P false μ1) : WT K Z (tAnd tt tu) δ μ P := fun σ F H Q s c k z =>
  h σ F H _ s c (fun b μ1 F1 H1 p m1 c1 => by
    cases b with
    | true => exact p σ F1 H1 Q (s.mono m1.up) c1 (fun b μ2 F2 H2 p2 m2 c2 => k b μ2 F2 H2 p2 (m1.trans m2) c2) (z.mv m1)
    | false => exact k false μ1 F1 H1 p m1 c1) z
theorem wt_or {P : Bool → Store → Prop} (h : WT K Z tt δ μ fun b μ1 => if b = true then P true μ1 else WT K Z tu δ μ1 P) : WT K Z (tOr tt tu) δ μ P := fun σ F H Q s c k z =>
  h σ F H _ s c (fun b μ1 F1 H1 p m1 c1 => by
    cases b with
    | true => exact k true μ1 F1 H1 p m1 c1
    | false => exact p σ F1 H1 Q (s.mono m1.up) c1 (fun b μ2 F2 H2 p2 m2 c2 => k b μ2 F2 H2 p2 (m1.trans m2) c2) (z.mv m1)) z
theorem wt_not {P : Bool → Store → Prop} (h : WT K Z tt δ μ fun b μ1 => P (!b) μ1) : WT K Z (tNot tt) δ μ P := fun σ F H Q s c k z =>
  h σ F H _ s c (fun b μ1 F1 H1 p m1 c1 => k _ μ1 F1 H1 p m1 c1) z
/-- truth of a value -/
def tru : D → Option Bool
  | .non => some false
  | .bl b => some b
  | .int i => some (i != 0)
  | .lst xs => some (!xs.isEmpty)
  | .tup xs => some (!xs.isEmpty)
  | _ => none
theorem tru_ok {F H : Hp} {v : V} {d : D} {b : Bool} (ex : Same F H) (r : Rep K F v d) (h : tru d = some b) : TruV K v H b := by
  cases r with
  | non => cases h; rfl
  | bl b => cases h; rfl
  | int i => cases h; rfl
  | str s => cases h
  | ty n => cases h
  | ref a => cases h
  | lst e r => cases h; exact .inl ⟨_, .inl (.inl (ex _ _ e)), by cases r <;> rfl⟩
  | tup e r => cases h; exact .inr (.inl ⟨_, same_t ex e, by cases r <;> rfl⟩)
  | dct e r => cases h
  | ins e r => cases h
  | scr e r => cases h
  | exc e _ r => cases h
  | dT e r => cases h
  | kt e => cases h
  | tupN e _ r => cases h
theorem wt_tru {P : Bool → Store → Prop} (h : WE K Z te δ μ fun d μ1 => ∃ b, tru d = some b ∧ P b μ1) : WT K Z (fun σ H Q => te σ H fun x H' => ∃ k, TruV K x H' k ∧ Q k H') δ μ P := fun σ F H Q s c k z =>
  h σ F H _ s c (fun v d μ1 F1 H1 ⟨b, e, p⟩ m1 c1 r1 => ⟨b, tru_ok c1.ex r1 e, k b μ1 F1 H1 p m1 c1⟩) z
theorem we_andV {P : D → Store → Prop} (h : WE K Z ta δ μ fun d μ1 => ∃ b, d = .bl b ∧ if b = true then WE K Z tb δ μ1 P else P (.bl false) μ1) : WE K Z (tAndV ta tb) δ μ P := fun σ F H Q s c k z =>
  h σ F H _ s c (fun v d μ1 F1 H1 ⟨b, e, p⟩ m1 c1 r1 => by
    subst e; cases r1
    refine ⟨b, rfl, ?_⟩
    cases b with
    | true => exact p σ F1 H1 Q (s.mono m1.up) c1 (fun v b μ2 F2 H2 p2 m2 c2 => k v b μ2 F2 H2 p2 (m1.trans m2) c2) (z.mv m1)
    | false => exact k _ _ μ1 F1 H1 p m1 c1 (.bl false)) z
theorem we_orV {P : D → Store → Prop} (h : WE K Z ta δ μ fun d μ1 => ∃ b, d = .bl b ∧ if b = true then P (.bl true) μ1 else WE K Z tb δ μ1 P) : WE K Z (tOrV ta tb) δ μ P := fun σ F H Q s c k z =>
  h σ F H _ s c (fun v d μ1 F1 H1 ⟨b, e, p⟩ m1 c1 r1 => by
    subst e; cases r1
    refine ⟨b, rfl, ?_⟩
    cases b with
    | true => exact k _ _ μ1 F1 H1 p m1 c1 (.bl true)
    | false => exact p σ F1 H1 Q (s.mono m1.up) c1 (fun v b μ2 F2 H2 p2 m2 c2 => k v b μ2 F2 H2 p2 (m1.trans m2) c2) (z.mv m1)) z
theorem we_notV {P : D → Store → Prop} (h : WE K Z ta δ μ fun d μ1 => ∃ b, d = .bl b ∧ P (.bl (!b)) μ1) : WE K Z (tNotV ta) δ μ P := fun σ F H Q s c k z =>
  h σ F H _ s c (fun v d μ1 F1 H1 ⟨b, e, p⟩ m1 c1 r1 => by subst e; cases r1; exact ⟨b, rfl, k _ _ μ1 F1 H1 p m1 c1 (.bl _)⟩) z
theorem we_if {P : D → Store → Prop} (h : WT K Z tt δ μ fun b μ1 => if b = true then WE K Z ta δ μ1 P else WE K Z tb δ μ1 P) : WE K Z (tIf tt ta tb) δ μ P := fun σ F H Q s c k z =>
  h σ F H _ s c (fun b μ1 F1 H1 p m1 c1 => by
    cases b with
    | true => exact p σ F1 H1 Q (s.mono m1.up) c1 (fun v b μ2 F2 H2 p2 m2 c2 => k v b μ2 F2 H2 p2 (m1.trans m2) c2) (z.mv m1)
    | false => exact p σ F1 H1 Q (s.mono m1.up) c1 (fun v b μ2 F2 H2 p2 m2 c2 => k v b μ2 F2 H2 p2 (m1.trans m2) c2) (z.mv m1)) z
/-! ### statements -/
theorem ws_seq {P : Fl → Store → Prop} (h : WS K Z ts δ μ fun f μ1 => match f with | .nx δ1 => WS K Z tu' δ1 μ1 P | f => P f μ1) : WS K Z (tSeq ts tu') δ μ P := fun σ F H Dn s c k z =>
  h σ F H _ s c ⟨fun σ' δ' μ' F' H' p m c' s' => p σ' F' H' Dn s' c' (k.mv m) (z.mv m), fun σ' δ' μ' F' H' p => k.bk σ' δ' μ' F' H' p, fun σ' δ' μ' F' H' p => k.ct σ' δ' μ' F' H' p, fun v d μ' F' H' p => k.rt v d μ' F' H' p⟩ z
theorem ws_next {P : Fl → Store → Prop} (p : P (.nx δ) μ) : WS K Z tNext δ μ P := fun σ F H Dn s c k z => k.nx σ δ μ F H p (Mv.refl ..) c s
theorem ws_brk {P : Fl → Store → Prop} (p : P (.bk δ) μ) : WS K Z tBreak δ μ P := fun σ F H Dn s c k z => k.bk σ δ μ F H p (Mv.refl ..) c s
theorem ws_cont {P : Fl → Store → Prop} (p : P (.ct δ) μ) : WS K Z tCont δ μ P := fun σ F H Dn s c k z => k.ct σ δ μ F H p (Mv.refl ..) c s
theorem ws_ret {P : Fl → Store → Prop} (h : WE K Z te δ μ fun d μ1 => P (.rt d) μ1) : WS K Z (tRet te) δ μ P := fun σ F H Dn s c k z =>
  h σ F H _ s c (fun v d μ1 F1 H1 p m1 c1 r1 => k.rt v d μ1 F1 H1 p m1 c1 r1) z
theorem ws_retN {P : Fl → Store → Prop} (p : P (.rt .non) μ) : WS K Z tRetN δ μ P := fun σ F H Dn s c k z => k.rt .non .non μ F H p (Mv.refl ..) c .non
theorem ws_drop {P : Fl → Store → Prop} (h : WE K Z te δ μ fun _ μ1 => P (.nx δ) μ1) : WS K Z (tDrop te) δ μ P := fun σ F H Dn s c k z =>
  h σ F H _ s c (fun v d μ1 F1 H1 p m1 c1 r1 => k.nx σ δ μ1 F1 H1 p m1 c1 (s.mono m1.up)) z
theorem ws_if {P : Fl → Store → Prop} (h : WT K Z tt δ μ fun b μ1 => if b = true then WS K Z ts δ μ1 P else WS K Z tu' δ μ1 P) : WS K Z (tIfS tt ts tu') δ μ P := fun σ F H Dn s c k z =>
  h σ F H _ s c (fun b μ1 F1 H1 p m1 c1 => by
    cases b with
    | true => exact p σ F1 H1 Dn (s.mono m1.up) c1 (k.mv m1) (z.mv m1)
    | false => exact p σ F1 H1 Dn (s.mono m1.up) c1 (k.mv m1) (z.mv m1)) z
theorem ws_asg {g : TG} {js : List Nat} {P : Fl → Store → Prop} (h : WE K Z te δ μ fun d μ1 => WG K Z g js d δ μ1 fun δ' μ2 => P (.nx δ') μ2) : WS K Z (tAsg te g) δ μ P := fun σ F H Dn s c k z =>
  h σ F H _ s c (fun v d μ1 F1 H1 p m1 c1 r1 => p v σ F1 H1 _ (s.mono m1.up) c1 r1 (fun σ' δ' μ' F' H' q _ m2 c2 s2 => k.nx σ' δ' μ' F' H' q (m1.trans m2) c2 s2) (z.mv m1)) z
theorem ws_never {P : Fl → Store → Prop} (h : False) : WS K Z tNever δ μ P := h.elim
/-! ### targets -/
theorem wg_name {i : Nat} {d : D} {P : Env → Store → Prop} (p : P (δ.set i (some d)) μ) : WG K Z (gName i) [i] d δ μ P := fun v σ F H Q s c r k z =>
  k _ _ μ F H p ⟨fun j hj => by rw [List.getElem?_set_ne (by simpa using fun e => hj (by simp [e]))], List.length_set ..⟩ (Mv.refl ..) c (s.set r i)
theorem wgs_nil {P : Env → Store → Prop} (p : P δ μ) : WGs K Z gNil [] [] δ μ P := fun vs σ F H Q s c r k z => by
  cases r
  exact ⟨rfl, k σ δ μ F H p ⟨fun _ _ => rfl, rfl⟩ (Mv.refl ..) c s⟩
theorem wgs_cons {g : TG} {gs : TGs} {js ks : List Nat} {d : D} {ds : List D} {P : Env → Store → Prop} (h : WG K Z g js d δ μ fun δ1 μ1 => WGs K Z gs ks ds δ1 μ1 P) : WGs K Z (gCons g gs) (js ++ ks) (d :: ds) δ μ P := fun vs σ F H Q s c r k z => by
  cases r with
  | @cons v _ vs _ r rr =>
    refine ⟨v, vs, rfl, h v σ F H _ s c r (fun σ1 δ1 μ1 F1 H1 p e1 m1 c1 s1 => ?_) z⟩
    exact p vs σ1 F1 H1 Q s1 c1 (rr.mono m1.up) (fun σ2 δ2 μ2 F2 H2 p2 e2 m2 c2 s2 => k σ2 δ2 μ2 F2 H2 p2 ⟨fun i hi => (e2.1 i fun q => hi (List.mem_append_right _ q)).trans (e1.1 i fun q => hi (List.mem_append_left _ q)), e2.2.trans e1.2⟩ (m1.trans m2) c2 s2) (z.mv m1)
theorem wg_tup {n : Nat} {gs : TGs} {js : List Nat} {ds : List D} {P : Env → Store → Prop} (hn : ds.length = n) (h : WGs K Z gs js ds δ μ P) : WG K Z (gTup K n gs) js (.tup ds) δ μ P := fun v σ F H Q s c r k z => by
  cases r with
  | @tup a xs _ e rr => exact ⟨a, xs, rfl, same_t c.ex e, by rw [rr.length]; exact hn, h xs σ F H Q s c rr k z⟩
/-! ### loops -/
def lp (I : Env → Store → Prop) (P : Fl → Store → Prop) : Fl → Store → Prop
  | .nx δ, μ => I δ μ
  | .ct δ, μ => I δ μ
  | .bk δ, μ => P (.nx δ) μ
  | .rt d, μ => P (.rt d) μ
theorem ws_for {wi : TI} {g : TG} {js : List Nat} {P : Fl → Store → Prop} (h : WI K Z wi δ μ fun ds μ1 => ∃ I : Nat → Env → Store → Prop, I 0 δ μ1 ∧
    (∀ i d δ' μ', ds[i]? = some d → I i δ' μ' → WG K Z g js d δ' μ' fun δ2 μ2 => WS K Z ts δ2 μ2 (lp (I (i + 1)) P)) ∧ ∀ δ' μ', I ds.length δ' μ' → P (.nx δ') μ') : WS K Z (tFor wi g ts) δ μ P := fun σ F H Dn s c k z => by
  refine h σ F H _ s c (fun J ds μ1 F1 H1 ⟨I, i0, hs, hd⟩ m1 c1 it => ?_) z
  have k1 := k.mv m1
  have z1 := z.mv m1
  refine ⟨fun i m σ' H' => m = ds.length - i ∧ i ≤ ds.length ∧ ∃ δ' μ' F', I i δ' μ' ∧ Mv μ1 F1 H1 μ' F' H' ∧ Cm K F' H' μ' ∧ Slots K F' σ' δ', ⟨ds.length, rfl, Nat.zero_le _, δ, μ1, F1, i0, Mv.refl .., c1, s.mono m1.up⟩, ?_⟩
  rintro i m σ' H' ⟨rfl, hi, δ', μ', F', p, mm, cc, ss⟩
  obtain ⟨go, stop⟩ := it μ' F' H' i mm.up cc
  by_cases hlt : i < ds.length
  · refine .inr ⟨(go _ (List.getElem?_eq_getElem hlt)).1, fun σ2 H2 => ∃ δ2 μ2 F2, I (i + 1) δ2 μ2 ∧ Mv μ1 F1 H1 μ2 F2 H2 ∧ Cm K F2 H2 μ2 ∧ Slots K F2 σ2 δ2, fun σ2 H2 q => ⟨ds.length - (i + 1), by omega, rfl, hlt, q⟩, fun x H2 y => ?_⟩
    obtain ⟨F2, m2, c2, r2⟩ := (go _ (List.getElem?_eq_getElem hlt)).2 x H2 y
    have mm2 := mm.trans m2
    refine hs i _ δ' μ' (List.getElem?_eq_getElem hlt) p x σ' F2 H2 _ (ss.mono m2.up) c2 r2 (fun σ3 δ3 μ3 F3 H3 w _ m3 c3 s3 => ?_) (z1.mv mm2)
    have mm3 := mm2.trans m3
    refine w σ3 F3 H3 _ s3 c3 ⟨fun σ4 δ4 μ4 F4 H4 q m4 c4 s4 => ⟨δ4, μ4, F4, q, mm3.trans m4, c4, s4⟩, fun σ4 δ4 μ4 F4 H4 q m4 c4 s4 => ?_, fun σ4 δ4 μ4 F4 H4 q m4 c4 s4 => ⟨δ4, μ4, F4, q, mm3.trans m4, c4, s4⟩, fun v d μ4 F4 H4 q m4 c4 r4 => ?_⟩ (z1.mv mm3)
    · exact k1.nx σ4 δ4 μ4 F4 H4 q (mm3.trans m4) c4 s4
    · exact k1.rt v d μ4 F4 H4 q (mm3.trans m4) c4 r4
  · have e : i = ds.length := by omega
    subst e
    exact .inl ⟨stop (Nat.le_refl _), k1.nx σ' δ' μ' F' H' (hd δ' μ' p) mm cc ss⟩
theorem ws_while {P : Fl → Store → Prop} (I : Nat → Env → Store → Prop) (h0 : ∃ m, I m δ μ) (hs : ∀ m δ' μ', I m δ' μ' → WT K Z tt δ' μ' fun b μ1 => if b = true then WS K Z ts δ' μ1 (lp (fun δ2 μ2 => ∃ m', m' < m ∧ I m' δ2 μ2) P) else P (.nx δ') μ1) :
    WS K Z (tWhile tt ts) δ μ P := fun σ F H Dn s c k z => by
  obtain ⟨m0, h0⟩ := h0
  refine ⟨fun m σ' H' => ∃ δ' μ' F', I m δ' μ' ∧ Mv μ F H μ' F' H' ∧ Cm K F' H' μ' ∧ Slots K F' σ' δ', ⟨m0, δ, μ, F, h0, Mv.refl .., c, s⟩, ?_⟩
  rintro m σ' H' ⟨δ', μ', F', p, mm, cc, ss⟩
  refine hs m δ' μ' p σ' F' H' _ ss cc (fun b μ1 F1 H1 q m1 c1 => ?_) (z.mv mm)
  have mm1 := mm.trans m1
  cases b with
  | true =>
    refine ⟨fun σ2 H2 => ∃ m', m' < m ∧ ∃ δ2 μ2 F2, I m' δ2 μ2 ∧ Mv μ F H μ2 F2 H2 ∧ Cm K F2 H2 μ2 ∧ Slots K F2 σ2 δ2, fun σ2 H2 ⟨m', l, q⟩ => ⟨m', l, q⟩, ?_⟩
    refine q σ' F1 H1 _ (ss.mono m1.up) c1 ⟨fun σ4 δ4 μ4 F4 H4 ⟨m', l, q⟩ m4 c4 s4 => ⟨m', l, δ4, μ4, F4, q, mm1.trans m4, c4, s4⟩, fun σ4 δ4 μ4 F4 H4 q m4 c4 s4 => ?_, fun σ4 δ4 μ4 F4 H4 ⟨m', l, q⟩ m4 c4 s4 => ⟨m', l, δ4, μ4, F4, q, mm1.trans m4, c4, s4⟩, fun v d μ4 F4 H4 q m4 c4 r4 => ?_⟩ (z.mv mm1)
    · exact k.nx σ4 δ4 μ4 F4 H4 q (mm1.trans m4) c4 s4
    · exact k.rt v d μ4 F4 H4 q (mm1.trans m4) c4 r4
  | false => exact k.nx σ' δ' μ1 F1 H1 q mm1 c1 (ss.mono m1.up)
/-! ### what is walked -/
theorem rep_ll {F : Hp} {v : V} {ds : List D} (r : Rep K F v (.lst ds)) : ∃ a xs, v = .ref a ∧ F a = some (.lst xs) ∧ Reps K F xs ds := by
  cases r with
  | lst e r => exact ⟨_, _, rfl, e, r⟩
theorem rep_tt {F : Hp} {v : V} {ds : List D} (r : Rep K F v (.tup ds)) : ∃ a xs, v = .ref a ∧ SqT K F a xs ∧ Reps K F xs ds := by
  cases r with
  | tup e r => exact ⟨_, _, rfl, e, r⟩
theorem lst_inj {H : Hp} {a : Addr} {xs ys : List V} (h : H a = some (.lst xs)) (h' : SqL K H a ys) (n : ¬ ∃ (o : Obj) (its : Array Value) (n : Nat), K.lookup a = some o ∧ o.cls = .type "list" ∧ o.dict = none ∧ o.data = .seq its n ∧ its.size ≤ sizeLine ∧ Vals ys its.toList) : xs = ys := by
  rcases h' with (q | ⟨o, q⟩) | q
  · rw [h] at q; cases q; rfl
  · rw [h] at q; cases q
  · exact absurd q n
end
end VL
set_option Elab.async false
set_option linter.all false
set_option maxRecDepth 100000
set_option maxHeartbeats 4000000
/-! VL2: what is walked, comprehensions, operators, by values. -/
namespace VL
open PySem PySem.Spec PyProof.Rows L2

section
variable {K : PySem.W.Frag} {Z : Wish} {δ : Env} {μ : Store} {ta tb te : TE} {tt tu : TT} {ts : TS}
/-! ### what is walked -/
theorem sq_list {F H : Hp} {a : Addr} {xs : List V} (ex : Same F H) (e : F a = some (.lst xs)) : SqL K H a xs := .inl (.inl (ex _ _ e))
theorem itd_list {F : Hp} {a : Addr} {xs : List V} {ds : List D} (e : F a = some (.lst xs)) (r : Reps K F xs ds) : ItD K F (Itl K a) ds := fun μ F' H' i up c => by
  have q : SqL K H' a xs := sq_list c.ex (up _ _ e)
  refine ⟨fun d hd => ?_, fun hl => ⟨xs, q, by rw [r.length]; exact hl⟩⟩
  obtain ⟨u, hu, ru⟩ := r.get hd
  refine ⟨⟨xs, u, q, hu⟩, fun x H2 ⟨e2, hx⟩ => ?_⟩
  subst e2
  have ex : x = u := Option.some.inj ((hx xs q).symm.trans hu)
  subst ex
  exact ⟨F', Mv.refl .., c, ru.mono up⟩
theorem itd_tup {F : Hp} {a : Addr} {xs : List V} {ds : List D} (e : SqT K F a xs) (r : Reps K F xs ds) : ItD K F (Itt K a) ds := fun μ F' H' i up c => by
  have q : SqT K H' a xs := same_t c.ex (same_t up e)
  refine ⟨fun d hd => ?_, fun hl => ⟨xs, q, by rw [r.length]; exact hl⟩⟩
  obtain ⟨u, hu, ru⟩ := r.get hd
  refine ⟨⟨xs, u, q, hu⟩, fun x H2 ⟨e2, hx⟩ => ?_⟩
  subst e2
  have ex : x = u := Option.some.inj ((hx xs q).symm.trans hu)
  subst ex
  exact ⟨F', Mv.refl .., c, ru.mono up⟩
theorem wi_list {P : List D → Store → Prop} (h : WE K Z te δ μ fun d μ1 => ∃ ds, d = .lst ds ∧ P ds μ1) : WI K Z (iList K te) δ μ P := fun σ F H R s c k z =>
  h σ F H _ s c (fun v d μ1 F1 H1 ⟨ds, e, p⟩ m1 c1 r1 => by
    subst e
    obtain ⟨a, xs, rfl, e, r⟩ := rep_ll r1
    exact ⟨a, rfl, ⟨xs, sq_list c1.ex e⟩, k _ ds μ1 F1 H1 p m1 c1 (itd_list e r)⟩) z
theorem wi_tup {P : List D → Store → Prop} (h : WE K Z te δ μ fun d μ1 => ∃ ds, d = .tup ds ∧ P ds μ1) : WI K Z (iTup K te) δ μ P := fun σ F H R s c k z =>
  h σ F H _ s c (fun v d μ1 F1 H1 ⟨ds, e, p⟩ m1 c1 r1 => by
    subst e
    obtain ⟨a, xs, rfl, e, r⟩ := rep_tt r1
    exact ⟨a, rfl, ⟨xs, same_t c1.ex e⟩, k _ ds μ1 F1 H1 p m1 c1 (itd_tup e r)⟩) z
def upto (lo : Int) (n : Nat) : List D := (List.range n).map fun i => .int (lo + (i : Nat))
theorem upto_len (lo : Int) (n : Nat) : (upto lo n).length = n := by unfold upto; rw [List.length_map, List.length_range]
theorem upto_at {lo : Int} {n i : Nat} {d : D} (h : (upto lo n)[i]? = some d) : i < n ∧ d = .int (lo + i) := by
  unfold upto at h
  rw [List.getElem?_map] at h
  by_cases e : i < n
  · rw [List.getElem?_range e] at h
    exact ⟨e, (Option.some.inj h).symm⟩
  · rw [List.getElem?_eq_none (by rw [List.length_range]; omega)] at h
    cases h
theorem itd_range {F : Hp} {lo : Int} {n : Nat} : ItD K F (Itr lo n) (upto lo n) := fun μ F' H' i up c => by
  refine ⟨fun d hd => ?_, fun hl => by rw [upto_len] at hl; exact hl⟩
  obtain ⟨h1, h2⟩ := upto_at hd
  refine ⟨h1, fun x H2 ⟨e1, e2⟩ => ?_⟩
  subst e1; subst e2; subst h2
  exact ⟨F', Mv.refl .., c, .int _⟩
theorem wi_range1 {t : TA} {P : List D → Store → Prop} (h : WA K Z t δ μ fun ds μ1 => ∃ j : Int, ds = [.int j] ∧ j ≤ 1000000000 ∧ -1000000000 ≤ j ∧ P (upto 0 j.toNat) μ1) : WI K Z (iRng1 t) δ μ P := fun σ F H R s c k z =>
  h σ F H _ s c (fun vs ds μ1 F1 H1 ⟨j, e, h1, h2, p⟩ m1 c1 r1 => by
    subst e
    cases r1 with
    | cons r rr =>
      cases rr
      cases r
      exact ⟨j, rfl, by omega, by omega, k _ _ μ1 F1 H1 p m1 c1 itd_range⟩) z
theorem wi_range2 {t : TA} {P : List D → Store → Prop} (h : WA K Z t δ μ fun ds μ1 => ∃ i j : Int, ds = [.int i, .int j] ∧ (j ≤ 1000000000 ∧ -1000000000 ≤ j ∧ i ≤ 1000000000 ∧ -1000000000 ≤ i) ∧ P (upto i (j - i).toNat) μ1) : WI K Z (iRng2 t) δ μ P := fun σ F H R s c k z =>
  h σ F H _ s c (fun vs ds μ1 F1 H1 ⟨i, j, e, ⟨h1, h2, h3, h4⟩, p⟩ m1 c1 r1 => by
    subst e
    cases r1 with
    | cons r rr =>
      cases rr with
      | cons r' rr =>
        cases rr
        cases r; cases r'
        exact ⟨i, j, rfl, ⟨by omega, by omega, by omega, by omega⟩, k _ _ μ1 F1 H1 p m1 c1 itd_range⟩) z
/-- the items of enumerate -/
def numbered (ds : List D) : List D := ds.zipIdx.map fun p => .tup [.int (p.2 : Nat), p.1]
theorem numbered_at {ds : List D} {i : Nat} {d : D} (h : (numbered ds)[i]? = some d) : ∃ x, ds[i]? = some x ∧ d = .tup [.int (i : Nat), x] := by
  unfold numbered at h
  rw [List.getElem?_map, List.getElem?_zipIdx] at h
  cases e : ds[i]? with
  | none => rw [e] at h; cases h
  | some x =>
    rw [e] at h
    simp at h
    exact ⟨x, rfl, h.symm⟩
theorem numbered_len (ds : List D) : (numbered ds).length = ds.length := by unfold numbered; simp
theorem itd_enum {F : Hp} {a : Addr} {xs : List V} {ds : List D} (e : F a = some (.lst xs)) (r : Reps K F xs ds) : ItD K F (Ite K a) (numbered ds) := fun μ F' H' i up c => by
  have q : SqL K H' a xs := sq_list c.ex (up _ _ e)
  refine ⟨fun d hd => ?_, fun hl => ⟨xs, q, by rw [r.length]; rw [numbered_len] at hl; exact hl⟩⟩
  obtain ⟨y, hy, ed⟩ := numbered_at hd
  obtain ⟨u, hu, ru⟩ := r.get hy
  refine ⟨⟨xs, u, q, hu⟩, fun x H2 ⟨T, w, e1, n, e2, hx⟩ => ?_⟩
  subst e1; subst e2; subst ed
  have ex : w = u := Option.some.inj ((hx xs q).symm.trans hu)
  subst ex
  have m := mv_new (o := .tup [V.int (i : Nat), w]) c n
  exact ⟨_, m, cm_new c n, .tup (SqT.of upd_same) (.cons (.int _) (.cons ((ru.mono up).mono m.up) .nil))⟩
theorem wi_enum {t : TA} {P : List D → Store → Prop} (h : WA K Z t δ μ fun as μ1 => ∃ ds, as = [.lst ds] ∧ P (numbered ds) μ1) : WI K Z (iEnum K t) δ μ P := fun σ F H R s c k z =>
  h σ F H _ s c (fun vs as μ1 F1 H1 ⟨ds, e, p⟩ m1 c1 r1 => by
    subst e
    cases r1 with
    | cons r rr =>
      cases rr
      obtain ⟨a, xs, rfl, e, r⟩ := rep_ll r
      exact ⟨a, xs, rfl, sq_list c1.ex e, k _ _ μ1 F1 H1 p m1 c1 (itd_enum e r)⟩) z
/-- the items of zip -/
def paired (xs ys : List D) : List D := (xs.zip ys).map fun p => .tup [p.1, p.2]
theorem itd_zip {F : Hp} {a b : Addr} {xs ys : List V} {ds es : List D} (e : F a = some (.lst xs)) (r : Reps K F xs ds) (e' : F b = some (.lst ys)) (r' : Reps K F ys es) : ItD K F (Itz K a b) (paired ds es) := fun μ F' H' i up c => by
  have q : SqL K H' a xs := sq_list c.ex (up _ _ e)
  have q' : SqL K H' b ys := sq_list c.ex (up _ _ e')
  refine ⟨fun d hd => ?_, fun hl => ⟨xs, ys, q, q', ?_⟩⟩
  · unfold paired at hd
    rw [List.getElem?_map] at hd
    cases ez : (ds.zip es)[i]? with
    | none => rw [ez] at hd; cases hd
    | some p =>
      rw [ez] at hd
      obtain ⟨h1, h2⟩ := List.getElem?_zip_eq_some.mp ez
      have ed : d = .tup [p.1, p.2] := (Option.some.inj hd).symm
      subst ed
      obtain ⟨u1, hu1, ru1⟩ := r.get h1
      obtain ⟨u2, hu2, ru2⟩ := r'.get h2
      refine ⟨⟨xs, ys, u1, u2, q, q', hu1, hu2⟩, fun x H2 ⟨T, w1, w2, e1, n, e2, hx, hy⟩ => ?_⟩
      subst e1; subst e2
      have ex : w1 = u1 := Option.some.inj ((hx xs q).symm.trans hu1)
      have ey : w2 = u2 := Option.some.inj ((hy ys q').symm.trans hu2)
      subst ex; subst ey
      have m := mv_new (o := .tup [w1, w2]) c n
      exact ⟨_, m, cm_new c n, .tup (SqT.of upd_same) (.cons ((ru1.mono up).mono m.up) (.cons ((ru2.mono up).mono m.up) .nil))⟩
  · unfold paired at hl
    rw [List.length_map, List.length_zip] at hl
    rw [r.length, r'.length]
    omega
theorem wi_zip {t : TA} {P : List D → Store → Prop} (h : WA K Z t δ μ fun as μ1 => ∃ ds es, as = [.lst ds, .lst es] ∧ P (paired ds es) μ1) : WI K Z (iZip K t) δ μ P := fun σ F H R s c k z =>
  h σ F H _ s c (fun vs as μ1 F1 H1 ⟨ds, es, e, p⟩ m1 c1 r1 => by
    subst e
    cases r1 with
    | cons r rr =>
      cases rr with
      | cons r' rr =>
        cases rr
        obtain ⟨a, xs, rfl, e, r⟩ := rep_ll r
        obtain ⟨b, ys, rfl, e', r'⟩ := rep_ll r'
        exact ⟨a, b, xs, ys, rfl, sq_list c1.ex e, sq_list c1.ex e', k _ _ μ1 F1 H1 p m1 c1 (itd_zip e r e' r')⟩) z
/-! ### comprehensions -/
theorem wipe_get {σ : L2.St} {i : Nat} : ∀ {vs : List Nat}, (wipe σ vs)[i]? = if i ∈ vs then (σ[i]?).map (fun _ => none) else σ[i]?
  | [] => by simp [wipe]
  | j :: vs => by
    show ((wipe σ vs).set j none)[i]? = _
    by_cases e : j = i
    · subst e
      rw [if_pos (by simp)]
      by_cases h : j < σ.length
      · rw [List.getElem?_set_self (by rw [wipe_length]; exact h), List.getElem?_eq_getElem h]; rfl
      · rw [List.getElem?_eq_none (by rw [List.length_set, wipe_length]; omega), List.getElem?_eq_none (by omega)]; rfl
    · rw [List.getElem?_set_ne e, wipe_get (vs := vs)]
      have : (i ∈ j :: vs) ↔ i ∈ vs := by simp [Ne.symm e]
      by_cases h : i ∈ vs
      · rw [if_pos h, if_pos (this.mpr h)]
      · rw [if_neg h, if_neg (fun q => h (this.mp q))]
theorem wipe_eq {σ σ' : L2.St} {vs : List Nat} (h : ∀ i, i ∉ vs → σ'[i]? = (wipe σ vs)[i]?) (hl : σ'.length = σ.length) : wipe σ' vs = wipe σ vs := by
  refine List.ext_getElem? fun i => ?_
  rw [wipe_get, wipe_get]
  by_cases e : i ∈ vs
  · rw [if_pos e, if_pos e]
    by_cases q : i < σ.length
    · rw [List.getElem?_eq_getElem q, List.getElem?_eq_getElem (by omega)]; rfl
    · rw [List.getElem?_eq_none (by omega), List.getElem?_eq_none (by omega)]
  · rw [if_neg e, if_neg e, h i e, wipe_get, if_neg e]
theorem Slots.wipe {F : Hp} {σ : L2.St} {δ : Env} (s : Slots K F σ δ) : ∀ vs : List Nat, Slots K F (L2.wipe σ vs) (wipeD δ vs)
  | [] => s
  | i :: vs => (s.wipe vs).unset i
/-- js: what the target sets; vs: the comprehension's own slots; the result is frozen -/
theorem we_lc {wi : TI} {g : TG} {js vs : List Nat} {P : D → Store → Prop} (hj : ∀ i ∈ js, i ∈ vs) (h : WI K Z wi δ μ fun ds μ1 => ds.length ≤ 100000 ∧ ∃ I : Nat → List D → Store → Prop, I 0 [] μ1 ∧
    (∀ i d acc μ', ds[i]? = some d → I i acc μ' → WG K Wish.no g js d (wipeD δ vs) μ' fun δ2 μ2 => WT K Wish.no tt δ2 μ2 fun b μ3 => if b = true then WE K Wish.no te δ2 μ3 fun y μ4 => I (i + 1) (acc ++ [y]) μ4 else I (i + 1) acc μ3) ∧
    ∀ acc μ', I ds.length acc μ' → P (.lst acc) μ') : WE K Z (tLc wi g tt te vs) δ μ P := fun σ F H Q s c k z => by
  refine h σ F H _ s c (fun J ds μ1 F1 H1 ⟨hz, I, i0, hs, hd⟩ m1 c1 it Dl nD => ?_) z
  have s1 := s.mono m1.up
  have kD := mv_newM (o := .lst []) (m := .lst []) c1 nD
  have cD := cm_newM (o := .lst []) (m := .lst []) c1 nD ⟨[], upd_same, .nil⟩
  refine ⟨fun i m H' => m = ds.length - i ∧ i ≤ ds.length ∧ ∃ acc μ' F', I i acc μ' ∧ acc.length ≤ i ∧ Mv μ1 F1 H1 (μ' ++ [(Dl, .lst acc)]) F' H' ∧ Cm K F' H' (μ' ++ [(Dl, .lst acc)]), ⟨ds.length, rfl, Nat.zero_le _, [], μ1, F1, i0, Nat.le_refl _, kD, cD⟩, ?_⟩
  rintro i m H' ⟨rfl, hi, acc, μ', F', p, ha, mm, cc⟩
  obtain ⟨go, stop⟩ := it (μ' ++ [(Dl, .lst acc)]) F' H' i mm.up cc
  by_cases hlt : i < ds.length
  · refine .inr ⟨(go _ (List.getElem?_eq_getElem hlt)).1, fun H2 => ∃ acc2 μ2 F2, I (i + 1) acc2 μ2 ∧ acc2.length ≤ i + 1 ∧ Mv μ1 F1 H1 (μ2 ++ [(Dl, .lst acc2)]) F2 H2 ∧ Cm K F2 H2 (μ2 ++ [(Dl, .lst acc2)]), fun H2 q => ⟨ds.length - (i + 1), by omega, rfl, hlt, q⟩, fun x H2 y => ?_⟩
    obtain ⟨F2, m2, c2, r2⟩ := (go _ (List.getElem?_eq_getElem hlt)).2 x H2 y
    have mm2 := mm.trans m2
    have sw : Slots K F2 (L2.wipe σ vs) (wipeD δ vs) := ((s1.wipe vs).mono mm.up).mono m2.up
    refine hs i _ acc μ' (List.getElem?_eq_getElem hlt) p x (L2.wipe σ vs) F2 H2 _ sw c2.take r2 (fun σ3 δ3 μ3 F3 H3 w e3 m3 c3 s3 => ?_) ZK.no
    obtain ⟨m3', c3'⟩ := Mv.lent c2 m3 c3
    refine ⟨wipe_eq (fun j hj' => e3.1 j fun q => hj' (hj j q)) (e3.2.trans (wipe_length ..)), ?_⟩
    · refine w σ3 F3 H3 _ s3 c3 (fun b μ4 F4 H4 w4 m4 c4 => ?_) ZK.no
      obtain ⟨m4', c4'⟩ := Mv.lent c3' m4 c4
      have mm4 := (mm2.trans m3').trans m4'
      cases b with
      | false => exact ⟨acc, μ4, F4, w4, Nat.le_succ_of_le ha, mm4, c4'⟩
      | true =>
        refine w4 σ3 F4 H4 _ (s3.mono m4.up) c4 (fun v y μ5 F5 H5 w5 m5 c5 r5 => ?_) ZK.no
        obtain ⟨m5', c5'⟩ := Mv.lent c4' m5 c5
        obtain ⟨_, xs, hx, rx⟩ := c5'.mu (Dl, .lst acc) (List.mem_append_right _ (by simp))
        have hj5 : (μ5 ++ [(Dl, MO.lst acc)])[μ5.length]? = some (Dl, MO.lst acc) := by rw [List.getElem?_append_right (Nat.le_refl _)]; simp
        have es : (μ5 ++ [(Dl, MO.lst acc)]).set μ5.length (Dl, .lst (acc ++ [y])) = μ5 ++ [(Dl, .lst (acc ++ [y]))] := by rw [List.set_append_right _ _ (Nat.le_refl _)]; simp
        refine ⟨xs, hx, ?_, acc ++ [y], μ5, F5, w5, by simp; omega, ?_, ?_⟩
        · rw [rx.length]; exact Nat.lt_of_le_of_lt ha (Nat.lt_of_lt_of_le hlt (Nat.le_trans hz (by decide)))
        · rw [← es]; exact (mm4.trans m5').trans (mv_set hj5 c5')
        · rw [← es]; exact cm_set hj5 c5' ⟨_, upd_same, rx.append (.cons r5 .nil)⟩
  · have e : i = ds.length := by omega
    subst e
    refine .inl ⟨stop (Nat.le_refl _), ?_⟩
    obtain ⟨_, xs, hx, rx⟩ := cc.mu (Dl, .lst acc) (List.mem_append_right _ (by simp))
    have hj5 : (μ' ++ [(Dl, MO.lst acc)])[μ'.length]? = some (Dl, MO.lst acc) := by rw [List.getElem?_append_right (Nat.le_refl _)]; simp
    have es : (μ' ++ [(Dl, MO.lst acc)]).eraseIdx μ'.length = μ' := by rw [List.eraseIdx_append_of_length_le (Nat.le_refl _)]; simp
    have mf := mv_frz hj5 hx cc
    have cf := cm_frz hj5 hx cc
    rw [es] at mf cf
    exact k _ _ μ' _ _ (hd acc μ' p) ((m1.trans mm).trans mf) cf (.lst upd_same (rx.mono mf.up))
end
end VL
set_option Elab.async false
set_option linter.all false
set_option maxRecDepth 100000
set_option maxHeartbeats 4000000
/-! VL3: data among the deep values; operators, subscripts, built-ins by values. -/
namespace VL
open PySem PySem.Spec PyProof.Rows L2

mutual
def toPy : D → PyData
  | .non => .none
  | .bl b => .bool b
  | .int i => .int i
  | .str s => .str s
  | .lst xs => .list (toPys xs)
  | .tup xs => .tuple (toPys xs)
  | .ty _ => .dict []
  | .ref _ => .dict []
  | .dct _ => .dict []
  | .ins _ _ => .dict []
  | .scr _ => .dict []
  | .exc _ _ => .dict []
  | .dT _ => .dict []
  | .kt _ => .dict []
  | .tupN _ => .dict []
def toPys : List D → List PyData
  | [] => []
  | x :: xs => toPy x :: toPys xs
end
theorem toPys_map : ∀ xs : List D, toPys xs = xs.map toPy
  | [] => by rw [toPys]; rfl
  | x :: xs => by rw [toPys, toPys_map xs]; rfl
mutual
/-- data: none, bools, ints, texts, lists and tuples of these, at most n deep -/
def okD : Nat → D → Bool
  | _, .non => true
  | _, .bl _ => true
  | _, .int _ => true
  | _, .str s => PyData.strOk s
  | n + 1, .lst xs => okDs n xs
  | n + 1, .tup xs => okDs n xs
  | 0, .lst _ => false
  | 0, .tup _ => false
  | _, .ty _ => false
  | _, .ref _ => false
  | _, .dct _ => false
  | _, .ins _ _ => false
  | _, .scr _ => false
  | _, .exc _ _ => false
  | _, .dT _ => false
  | _, .kt _ => false
  | _, .tupN _ => false
def okDs : Nat → List D → Bool
  | _, [] => true
  | n, x :: xs => okD n x && okDs n xs
end
theorem okDs_iff {n : Nat} : ∀ {xs : List D}, okDs n xs = true ↔ ∀ x ∈ xs, okD n x = true
  | [] => by simp [okDs]
  | x :: xs => by rw [okDs, Bool.and_eq_true, okDs_iff (xs := xs)]; simp
mutual
theorem ok_mono : ∀ {n m : Nat} {d : D}, n ≤ m → okD n d = true → okD m d = true
  | n, m, .non, _, _ => by simp [okD]
  | n, m, .bl _, _, _ => by simp [okD]
  | n, m, .int _, _, _ => by simp [okD]
  | n, m, .str s, _, h => by simpa [okD] using h
  | 0, m, .lst _, _, h => by simp [okD] at h
  | n + 1, 0, .lst _, l, h => by omega
  | n + 1, m + 1, .lst xs, l, h => by rw [okD] at h ⊢; exact oks_mono (by omega) h
  | 0, m, .tup _, _, h => by simp [okD] at h
  | n + 1, 0, .tup _, l, h => by omega
  | n + 1, m + 1, .tup xs, l, h => by rw [okD] at h ⊢; exact oks_mono (by omega) h
  | n, m, .ty _, _, h => by simp [okD] at h
  | n, m, .ref _, _, h => by simp [okD] at h
  | n, m, .dct _, _, h => by simp [okD] at h
  | n, m, .ins _ _, _, h => by simp [okD] at h
  | n, m, .scr _, _, h => by simp [okD] at h
  | n, m, .exc _ _, _, h => by simp [okD] at h
  | n, m, .dT _, _, h => by simp [okD] at h
  | n, m, .kt _, _, h => by simp [okD] at h
  | n, m, .tupN _, _, h => by simp [okD] at h
theorem oks_mono : ∀ {n m : Nat} {xs : List D}, n ≤ m → okDs n xs = true → okDs m xs = true
  | n, m, [], _, _ => by simp [okDs]
  | n, m, x :: xs, l, h => by
    rw [okDs, Bool.and_eq_true] at h ⊢
    exact ⟨ok_mono l h.1, oks_mono l h.2⟩
end
mutual
theorem ok_lay : ∀ {n : Nat} {d : D}, okD n d = true → (toPy d).canLay0 = true ∧ (toPy d).depth ≤ n
  | n, .non, _ => by simp [toPy, PyData.canLay0, PyData.depth]
  | n, .bl _, _ => by simp [toPy, PyData.canLay0, PyData.depth]
  | n, .int _, _ => by simp [toPy, PyData.canLay0, PyData.depth]
  | n, .str s, h => by rw [okD] at h; simp [toPy, PyData.canLay0, PyData.depth, h]
  | 0, .lst _, h => by simp [okD] at h
  | n + 1, .lst xs, h => by
    rw [okD] at h
    obtain ⟨h1, h2⟩ := oks_lay h
    rw [toPy, PyData.canLay0, PyData.depth]
    exact ⟨h1, by omega⟩
  | 0, .tup _, h => by simp [okD] at h
  | n + 1, .tup xs, h => by
    rw [okD] at h
    obtain ⟨h1, h2⟩ := oks_lay h
    rw [toPy, PyData.canLay0, PyData.depth]
    exact ⟨h1, by omega⟩
  | n, .ty _, h => by simp [okD] at h
  | n, .ref _, h => by simp [okD] at h
  | n, .dct _, h => by simp [okD] at h
  | n, .ins _ _, h => by simp [okD] at h
  | n, .scr _, h => by simp [okD] at h
  | n, .exc _ _, h => by simp [okD] at h
  | n, .dT _, h => by simp [okD] at h
  | n, .kt _, h => by simp [okD] at h
  | n, .tupN _, h => by simp [okD] at h
theorem oks_lay : ∀ {n : Nat} {xs : List D}, okDs n xs = true → PyData.canLayAll0 (toPys xs) = true ∧ PyData.depthAll (toPys xs) ≤ n
  | n, [], _ => by simp [toPys, PyData.canLayAll0, PyData.depthAll]
  | n, x :: xs, h => by
    rw [okDs, Bool.and_eq_true] at h
    obtain ⟨h1, h2⟩ := ok_lay h.1
    obtain ⟨h3, h4⟩ := oks_lay h.2
    rw [toPys, PyData.canLayAll0, PyData.depthAll, h1, h3]
    exact ⟨rfl, by omega⟩
end
theorem ok_shaped {n : Nat} {d : D} (hn : n ≤ 64) (h : okD n d = true) : SeqAt.shaped (toPy d) = true := by
  obtain ⟨h1, h2⟩ := ok_lay h
  unfold SeqAt.shaped
  rw [h1, decide_eq_true (by omega)]
  rfl
section
variable {K : PySem.W.Frag} {F H : Hp}
mutual
theorem rep_dp (ex : Same F H) : ∀ {n : Nat} {v : V} {d : D}, Rep K F v d → okD n d = true → Dp K H v (toPy d)
  | _, _, .non, .non, _ => by rw [toPy]; exact .non
  | _, _, .bl b, .bl _, _ => by rw [toPy]; exact .bl b
  | _, _, .int i, .int _, _ => by rw [toPy]; exact .int i
  | _, _, .str s, .str _, _ => by rw [toPy]; exact .str s
  | 0, _, .lst _, .lst _ _, h => by simp [okD] at h
  | n + 1, _, .lst xs, .lst e r, h => by rw [okD] at h; rw [toPy]; exact .lst (.inl (.inl (ex _ _ e))) (reps_dp ex r h)
  | 0, _, .tup _, .tup _ _, h => by simp [okD] at h
  | n + 1, _, .tup xs, .tup e r, h => by rw [okD] at h; rw [toPy]; exact .tup (same_t ex e) (reps_dp ex r h)
  | _, _, .ty _, .ty _, h => by simp [okD] at h
  | _, _, .ref _, .ref _, h => by simp [okD] at h
  | _, _, .dct _, .dct _ _, h => by simp [okD] at h
  | _, _, .ins _ _, .ins _ _, h => by simp [okD] at h
  | _, _, .scr _, .scr _ _, h => by simp [okD] at h
  | _, _, .exc _ _, .exc _ _ _, h => by simp [okD] at h
  | _, _, .dT _, .dT _ _, h => by simp [okD] at h
  | _, _, .kt _, .kt _, h => by simp [okD] at h
  | _, _, .tupN _, .tupN _ _ _, h => by simp [okD] at h
theorem reps_dp (ex : Same F H) : ∀ {n : Nat} {v : List V} {d : List D}, Reps K F v d → okDs n d = true → DpAll K H v (toPys d)
  | _, _, [], .nil, _ => by rw [toPys]; exact .nil
  | n, _, x :: xs, .cons h r, o => by
    rw [okDs, Bool.and_eq_true] at o
    rw [toPys]
    exact .cons (rep_dp ex h o.1) (reps_dp ex r o.2)
end
end
/-- == of data -/
def eqv (x y : D) : Bool := PyData.eqv (toPy x) (toPy y)
/-- < of data -/
def ltv (x y : D) : Bool := PySem.W.dataLt (toPy x) (toPy y)
def alk (x y : D) : Bool := PySem.W.alike (toPy x) (toPy y)

section
variable {X : Cx}
/-! ### operators, all kinds together -/
abbrev rAddU (K : PySem.W.Frag) : R2 := fun x y H Q => ((rI0 (fun i j => .int (i + j)) x y H Q ∨ (∃ i j, x = V.str i ∧ y = V.str j ∧ i.length + j.length ≤ sizeLine ∧ Q (V.str (i ++ j)) H)) ∨ rCat x y H Q) ∨ rCatT K x y H Q
theorem op_addU : OpR X (binaryOp .Add) (rAddU X.K) := ((op_add.or op_add_str).or op_cat).or op_catT
abbrev rMulU : R2 := fun x y H Q => rI CMul (fun i j => .int (i * j)) x y H Q ∨ rRep x y H Q
theorem op_mulU : OpR X (binaryOp .Mult) rMulU := op_mul.or op_rep
def rLtD (K : PySem.W.Frag) : R2 := fun x y H Q => ∃ d e, Dp K H x d ∧ Dp K H y e ∧ PySem.W.alike d e = true ∧ d ≠ .none ∧ d.depth ≤ 64 ∧ Q (.bl (PySem.W.dataLt d e)) H
theorem op_ltD (hu : X.A.units + 64 < cLine) : OpR X (compareOp .Lt) (rLtD X.K) := by
  intro pins s σ H x y v u Q I rx ry h
  obtain ⟨d, e, hd, he, al, nn, dp, q⟩ := h
  obtain ⟨as, r1⟩ := Dp.reads I d x v hd rx
  obtain ⟨bs, r2⟩ := Dp.reads I e y u he ry
  exact PySem.W.rcLt_alike d e X.A s v u as bs r1 r2 al nn (by omega) X.prog X.w _ _ ⟨.bl _, H, I, rfl, q⟩
def rInU (K : PySem.W.Frag) : R2 := fun x y H Q => ∃ d ds, Dp K H x d ∧ (Dp K H y (.list ds) ∨ Dp K H y (.tuple ds)) ∧ PyData.canLayAll0 ds = true ∧ d.canLay0 = true ∧ d.depth ≤ 64 ∧ Q (.bl (ds.any fun z => PyData.eqv z d)) H
def rNotInU (K : PySem.W.Frag) : R2 := fun x y H Q => ∃ d ds, Dp K H x d ∧ (Dp K H y (.list ds) ∨ Dp K H y (.tuple ds)) ∧ PyData.canLayAll0 ds = true ∧ d.canLay0 = true ∧ d.depth ≤ 64 ∧ Q (.bl (!ds.any fun z => PyData.eqv z d)) H
theorem op_inSeq (hu : X.A.units + 65 < cLine) : OpR X (compareOp .In) (rInU X.K) := by
  intro pins s σ H x y v u Q I rx ry h
  obtain ⟨d, ds, hd, he, se, sd, dp, q⟩ := h
  obtain ⟨as, r1⟩ := Dp.reads I d x v hd rx
  rcases he with he | he
  · obtain ⟨bs, r2⟩ := Dp.reads I (.list ds) y u he ry
    exact SeqAt.in_list_reads r2 r1 se sd (by omega) ⟨.bl _, H, I, rfl, q⟩
  · obtain ⟨bs, r2⟩ := Dp.reads I (.tuple ds) y u he ry
    exact SeqAt.in_tuple_reads r2 r1 se sd (by omega) ⟨.bl _, H, I, rfl, q⟩
theorem op_notInSeq (hu : X.A.units + 65 < cLine) : OpR X (compareOp .NotIn) (rNotInU X.K) := by
  intro pins s σ H x y v u Q I rx ry h
  obtain ⟨d, ds, hd, he, se, sd, dp, q⟩ := h
  obtain ⟨as, r1⟩ := Dp.reads I d x v hd rx
  rcases he with he | he
  · obtain ⟨bs, r2⟩ := Dp.reads I (.list ds) y u he ry
    exact SeqAt.notIn_list_reads r2 r1 se sd (by omega) ⟨.bl _, H, I, rfl, q⟩
  · obtain ⟨bs, r2⟩ := Dp.reads I (.tuple ds) y u he ry
    exact SeqAt.notIn_tuple_reads r2 r1 se sd (by omega) ⟨.bl _, H, I, rfl, q⟩
/-- in, not in: a text's sign, data in a list or tuple, a dict's key -/
def rInDct : R2 := fun y x H Q => ∃ a o, x = .ref a ∧ DGet H a y o ∧ Q (.bl o.isSome) H
def rNotInDct : R2 := fun y x H Q => ∃ a o, x = .ref a ∧ DGet H a y o ∧ Q (.bl (!o.isSome)) H
theorem op_inDct (hu : X.A.units + 1 < cLine) : OpR X (compareOp .In) rInDct := by
  intro pins s σ H y x iv u Q I ry rx h
  obtain ⟨a, ov, rfl, g, q2⟩ := h
  obtain rfl : u = Value.ref a := rx
  exact d_in hu I g ry fun s3 I3 => ⟨.bl ov.isSome, H, I3, rfl, q2⟩
theorem op_notInDct (hu : X.A.units + 1 < cLine) : OpR X (compareOp .NotIn) rNotInDct := by
  intro pins s σ H y x iv u Q I ry rx h
  obtain ⟨a, ov, rfl, g, q2⟩ := h
  obtain rfl : u = Value.ref a := rx
  exact d_notIn hu I g ry fun s3 I3 => ⟨.bl (!ov.isSome), H, I3, rfl, q2⟩
abbrev rInA (K : PySem.W.Frag) : R2 := fun x y H Q => (rInS x y H Q ∨ rInU K x y H Q) ∨ rInDct x y H Q
abbrev rNotInA (K : PySem.W.Frag) : R2 := fun x y H Q => (rNotInS x y H Q ∨ rNotInU K x y H Q) ∨ rNotInDct x y H Q
theorem op_inA (hu : X.A.units + 65 < cLine) : OpR X (compareOp .In) (rInA X.K) := (op_inS.or (op_inSeq hu)).or (op_inDct (by omega))
theorem op_notInA (hu : X.A.units + 65 < cLine) : OpR X (compareOp .NotIn) (rNotInA X.K) := (op_notInS.or (op_notInSeq hu)).or (op_notInDct (by omega))
abbrev rIsA : R2 := fun x y H Q => rIsN x y H Q ∨ rIsB x y H Q
abbrev rNotA : R2 := fun x y H Q => rNotN x y H Q ∨ rNotB x y H Q
theorem op_isA : OpR X (compareOp .Is) rIsA := op_isN1.or op_isBl
theorem op_notA : OpR X (compareOp .IsNot) rNotA := op_notN1.or op_notBl
/-! ### subscripts -/
def rIxD : R2 := fun x y H Q => ∃ a v, x = .ref a ∧ DGet H a y (some v) ∧ Q v H
theorem ix_dict (hu : X.A.units + 1 < cLine) : IxR X rIxD := by
  intro value slice pins s σ H x y v u Q I rx ry h hs
  obtain ⟨a, z, rfl, g, q⟩ := h
  obtain rfl : v = Value.ref a := rx
  have hT := dict_typeIs I g
  unfold subscriptTail
  refine wpAny_bind ?_
  rw [getitemInPython_of_ne hT.not_modules]
  refine wpAny_bind (wpAny_specialOf hT PySem.F.slot_dict_getitem.lookup ?_)
  have fin : wpAny (model X.prog X.w) X.A (subscripted slice false (.ref a) u) (fun r s₃ => wpAny (model X.prog X.w) X.A (letTemporaryGo value (.ref a) r >>= fun _ => pure r) (EP X pins σ Q) X.xe s₃) X.xe s := by
    rw [hs]
    exact wpAny_operating (wpAny_mono (d_getItem hu I g ry fun w' s3 I3 rw' => (⟨z, H, I3, rw', q⟩ : EP X pins σ Q w' s3)) (fun r s₃ h₃ => wpAny_bind (wpAny_letTemporaryGo (wpAny_pure h₃))) fun _ _ x => x)
  first
    | exact wpAny_pure (wpAny_bind fin)
    | exact wpAny_bind (wpAny_pure (wpAny_bind fin))
    | exact wpAny_bind fin
abbrev rIxA (K : PySem.W.Frag) : R2 := fun x y H Q => rIx K x y H Q ∨ rIxD x y H Q
theorem ix_all (hu : X.A.units + 1 < cLine) : IxR X (rIxA X.K) := ix_seq.or (ix_dict hu)
abbrev rSlA (K : PySem.W.Frag) : V → Option Int → Option Int → Hp → VK → Prop := fun x lo hi H Q => (rSlL K x lo hi H Q ∨ rSlT K x lo hi H Q) ∨ rSlS x lo hi H Q
theorem sl_all : SlR X (rSlA X.K) := (sl_list.or sl_tup).or sl_str
end

section
variable {K : PySem.W.Frag} {Z : Wish} {μ : Store}
/-! ### operators by values -/
/-- a scalar answer, the heap as it is -/
theorem wop_sc {r : R2} {x y d : D} {w : V} {P : D → Store → Prop} (hw : ∀ F, Rep K F w d) (h : ∀ v u F H (Q : VK), Cm K F H μ → Rep K F v x → Rep K F u y → Q w H → r v u H Q) (p : P d μ) : WOp K Z r x y μ P :=
  fun v u F H Q c r1 r2 k z => h v u F H Q c r1 r2 (k w d μ F H p (Mv.refl ..) c (hw F))
theorem wun_sc {r : V → Hp → VK → Prop} {x d : D} {w : V} {P : D → Store → Prop} (hw : ∀ F, Rep K F w d) (h : ∀ v F H (Q : VK), Cm K F H μ → Rep K F v x → Q w H → r v H Q) (p : P d μ) : WUn K Z r x μ P :=
  fun v F H Q c r1 k z => h v F H Q c r1 (k w d μ F H p (Mv.refl ..) c (hw F))
theorem wc_sc {r : List V → Hp → VK → Prop} {xs : List D} {d : D} {w : V} {P : D → Store → Prop} (hw : ∀ F, Rep K F w d) (h : ∀ vs F H (Q : VK), Cm K F H μ → Reps K F vs xs → Q w H → r vs H Q) (p : P d μ) : WC K Z r xs μ P :=
  fun vs F H Q c r1 k z => h vs F H Q c r1 (k w d μ F H p (Mv.refl ..) c (hw F))
theorem wop_I0 {g : Int → Int → V} {d : D} {i j : Int} {P : D → Store → Prop} (hw : ∀ F, Rep K F (g i j) d) (p : P d μ) : WOp K Z (rI0 g) (.int i) (.int j) μ P :=
  wop_sc hw (fun v u F H Q c r1 r2 q => by cases r1; cases r2; exact ⟨i, j, rfl, rfl, q⟩) p
theorem wop_I {C : Int → Int → Prop} {g : Int → Int → V} {d : D} {i j : Int} {P : D → Store → Prop} (hc : C i j) (hw : ∀ F, Rep K F (g i j) d) (p : P d μ) : WOp K Z (rI C g) (.int i) (.int j) μ P :=
  wop_sc hw (fun v u F H Q c r1 r2 q => by cases r1; cases r2; exact ⟨i, j, rfl, rfl, hc, q⟩) p
theorem wop_add_int {i j : Int} {P : D → Store → Prop} (p : P (.int (i + j)) μ) : WOp K Z (rAddU K) (.int i) (.int j) μ P :=
  wop_sc (w := .int (i + j)) (fun F => .int _) (fun v u F H Q c r1 r2 q => by cases r1; cases r2; exact .inl (.inl (.inl ⟨i, j, rfl, rfl, q⟩))) p
theorem wop_add_str {i j : Str} {P : D → Store → Prop} (h : i.length + j.length ≤ 100000) (p : P (.str (i ++ j)) μ) : WOp K Z (rAddU K) (.str i) (.str j) μ P :=
  wop_sc (w := .str (i ++ j)) (fun F => .str _) (fun v u F H Q c r1 r2 q => by cases r1; cases r2; exact .inl (.inl (.inr ⟨i, j, rfl, rfl, Nat.le_trans h (by decide), q⟩))) p
theorem wop_add_lst {i j : List D} {P : D → Store → Prop} (h : i.length + j.length ≤ 100000) (p : P (.lst (i ++ j)) μ) : WOp K Z (rAddU K) (.lst i) (.lst j) μ P :=
  fun v u F H Q c r1 r2 k z => by
    obtain ⟨a, xs, rfl, e, r⟩ := rep_ll r1
    obtain ⟨b, ys, rfl, e', r'⟩ := rep_ll r2
    refine .inl (.inr ⟨a, b, xs, ys, rfl, rfl, c.ex _ _ e, c.ex _ _ e', by rw [r.length, r'.length]; exact Nat.le_trans h (by decide), fun q n => ?_⟩)
    have m := mv_new (o := .lst (xs ++ ys)) c n
    exact k _ _ _ _ _ p m (cm_new c n) (.lst upd_same ((r.append r').mono m.up))
theorem wop_add_tup {i j : List D} {P : D → Store → Prop} (hi : i ≠ []) (h : i.length + j.length ≤ 100000) (p : P (.tup (i ++ j)) μ) : WOp K Z (rAddU K) (.tup i) (.tup j) μ P :=
  fun v u F H Q c r1 r2 k z => by
    obtain ⟨a, xs, rfl, e, r⟩ := rep_tt r1
    obtain ⟨b, ys, rfl, e', r'⟩ := rep_tt r2
    refine .inr ⟨a, b, xs, ys, rfl, rfl, same_t c.ex e, same_t c.ex e', fun z => hi (by subst z; cases r; rfl), by rw [r.length, r'.length]; exact Nat.le_trans h (by decide), fun ey => ?_, fun _ q n => ?_⟩
    · subst ey
      cases r'
      rw [List.append_nil] at p
      exact k _ _ _ _ _ p (Mv.refl ..) c (.tup e r)
    · have m := mv_new (o := .tup (xs ++ ys)) c n
      exact k _ _ _ _ _ p m (cm_new c n) (.tup (SqT.of upd_same) ((r.append r').mono m.up))
theorem wop_mul_int {i j : Int} {P : D → Store → Prop} (hc : CMul i j) (p : P (.int (i * j)) μ) : WOp K Z rMulU (.int i) (.int j) μ P :=
  wop_sc (w := .int (i * j)) (fun F => .int _) (fun v u F H Q c r1 r2 q => by cases r1; cases r2; exact .inl ⟨i, j, rfl, rfl, hc, q⟩) p
theorem reps_rep {F : Hp} {xs : List V} {ds : List D} (r : Reps K F xs ds) : ∀ n : Nat, Reps K F (List.replicate n xs).flatten (List.replicate n ds).flatten
  | 0 => .nil
  | n + 1 => by rw [List.replicate_succ, List.replicate_succ, List.flatten_cons, List.flatten_cons]; exact r.append (reps_rep r n)
/-- [..] * n: frozen | mutable -/
theorem wop_rep {xs : List D} {n : Int} {P : D → Store → Prop} (h0 : -1000000 ≤ n) (h : n ≤ 1000000) (hl : xs.length * n.toNat ≤ 1000000) (p : P (.lst (List.replicate n.toNat xs).flatten) μ) : WOp K Z rMulU (.lst xs) (.int n) μ P :=
  fun v u F H Q c r1 r2 k z => by
    obtain ⟨a, ys, rfl, e, r⟩ := rep_ll r1
    cases r2
    refine .inr ⟨a, n, ys, rfl, rfl, c.ex _ _ e, by omega, by omega, by rw [r.length]; exact Nat.le_trans hl (by decide), fun q nn => ?_⟩
    have m := mv_new (o := .lst (List.replicate n.toNat ys).flatten) c nn
    exact k _ _ _ _ _ p m (cm_new c nn) (.lst upd_same ((reps_rep r _).mono m.up))
theorem wop_repM {xs : List D} {n : Int} {P : D → Store → Prop} (h0 : -1000000 ≤ n) (h : n ≤ 1000000) (hl : xs.length * n.toNat ≤ 1000000) (p : ∀ l, P (.ref l) (μ ++ [(l, .lst (List.replicate n.toNat xs).flatten)])) : WOp K Z rMulU (.lst xs) (.int n) μ P :=
  fun v u F H Q c r1 r2 k z => by
    obtain ⟨a, ys, rfl, e, r⟩ := rep_ll r1
    cases r2
    refine .inr ⟨a, n, ys, rfl, rfl, c.ex _ _ e, by omega, by omega, by rw [r.length]; exact Nat.le_trans hl (by decide), fun q nn => ?_⟩
    exact k _ _ _ _ _ (p q) (mv_newM c nn) (cm_newM c nn ⟨_, upd_same, reps_rep r _⟩) (.ref q)
theorem wop_eq {x y : D} {P : D → Store → Prop} (hx : okD 64 x = true) (hy : okD 64 y = true) (p : P (.bl (eqv x y)) μ) : WOp K Z (rEqD K) x y μ P :=
  wop_sc (w := .bl (eqv x y)) (fun F => .bl _) (fun v u F H Q c r1 r2 q => ⟨_, _, rep_dp c.ex r1 hx, rep_dp c.ex r2 hy, ok_shaped (Nat.le_refl _) hx, ok_shaped (Nat.le_refl _) hy, q⟩) p
theorem wop_ne {x y : D} {P : D → Store → Prop} (hx : okD 64 x = true) (hy : okD 64 y = true) (p : P (.bl (!eqv x y)) μ) : WOp K Z (rNeD K) x y μ P :=
  wop_sc (w := .bl (!eqv x y)) (fun F => .bl _) (fun v u F H Q c r1 r2 q => ⟨_, _, rep_dp c.ex r1 hx, rep_dp c.ex r2 hy, ok_shaped (Nat.le_refl _) hx, ok_shaped (Nat.le_refl _) hy, q⟩) p
theorem wop_lt {x y : D} {P : D → Store → Prop} (hx : okD 64 x = true) (hy : okD 64 y = true) (ha : alk x y = true) (hn : toPy x ≠ .none) (p : P (.bl (ltv x y)) μ) : WOp K Z (rLtD K) x y μ P :=
  wop_sc (w := .bl (ltv x y)) (fun F => .bl _) (fun v u F H Q c r1 r2 q => ⟨_, _, rep_dp c.ex r1 hx, rep_dp c.ex r2 hy, ha, hn, (ok_lay hx).2, q⟩) p
theorem wop_in_sign {c : Nat} {z : Str} {P : D → Store → Prop} (p : P (.bl (decide (c ∈ z.cps.toList))) μ) : WOp K Z (rInA K) (.str ⟨#[c]⟩) (.str z) μ P :=
  wop_sc (w := .bl (decide (c ∈ z.cps.toList))) (fun F => .bl _) (fun v u F H Q cm r1 r2 q => by cases r1; cases r2; exact .inl (.inl ⟨c, z, rfl, rfl, q⟩)) p
def inD (x : D) (xs : List D) : Bool := xs.any fun z => eqv z x
theorem any_toPys {x : D} : ∀ {xs : List D}, ((toPys xs).any fun z => PyData.eqv z (toPy x)) = inD x xs
  | [] => by rw [toPys]; rfl
  | y :: xs => by rw [toPys, List.any_cons, any_toPys (xs := xs)]; rfl
theorem wop_in_lst {x : D} {xs : List D} {P : D → Store → Prop} (hx : okD 64 x = true) (hy : okDs 63 xs = true) (p : P (.bl (inD x xs)) μ) : WOp K Z (rInA K) x (.lst xs) μ P :=
  wop_sc (w := .bl (inD x xs)) (fun F => .bl _) (fun v u F H Q c r1 r2 q => .inl (.inr ⟨_, _, rep_dp c.ex r1 hx, .inl (by have := rep_dp c.ex (n := 64) r2 (by rw [okD]; exact hy); rw [toPy] at this; exact this), (oks_lay hy).1, (ok_lay hx).1, (ok_lay hx).2, by rw [any_toPys]; exact q⟩)) p
theorem wop_in_tup {x : D} {xs : List D} {P : D → Store → Prop} (hx : okD 64 x = true) (hy : okDs 63 xs = true) (p : P (.bl (inD x xs)) μ) : WOp K Z (rInA K) x (.tup xs) μ P :=
  wop_sc (w := .bl (inD x xs)) (fun F => .bl _) (fun v u F H Q c r1 r2 q => .inl (.inr ⟨_, _, rep_dp c.ex r1 hx, .inr (by have := rep_dp c.ex (n := 64) r2 (by rw [okD]; exact hy); rw [toPy] at this; exact this), (oks_lay hy).1, (ok_lay hx).1, (ok_lay hx).2, by rw [any_toPys]; exact q⟩)) p
theorem wop_notin_lst {x : D} {xs : List D} {P : D → Store → Prop} (hx : okD 64 x = true) (hy : okDs 63 xs = true) (p : P (.bl (!inD x xs)) μ) : WOp K Z (rNotInA K) x (.lst xs) μ P :=
  wop_sc (w := .bl (!inD x xs)) (fun F => .bl _) (fun v u F H Q c r1 r2 q => .inl (.inr ⟨_, _, rep_dp c.ex r1 hx, .inl (by have := rep_dp c.ex (n := 64) r2 (by rw [okD]; exact hy); rw [toPy] at this; exact this), (oks_lay hy).1, (ok_lay hx).1, (ok_lay hx).2, by rw [any_toPys]; exact q⟩)) p
theorem wop_notin_tup {x : D} {xs : List D} {P : D → Store → Prop} (hx : okD 64 x = true) (hy : okDs 63 xs = true) (p : P (.bl (!inD x xs)) μ) : WOp K Z (rNotInA K) x (.tup xs) μ P :=
  wop_sc (w := .bl (!inD x xs)) (fun F => .bl _) (fun v u F H Q c r1 r2 q => .inl (.inr ⟨_, _, rep_dp c.ex r1 hx, .inr (by have := rep_dp c.ex (n := 64) r2 (by rw [okD]; exact hy); rw [toPy] at this; exact this), (oks_lay hy).1, (ok_lay hx).1, (ok_lay hx).2, by rw [any_toPys]; exact q⟩)) p
/-! ### subscripts by values -/
theorem atI_rep {F : Hp} {xs : List V} {ds : List D} {i : Int} {d : D} (r : Reps K F xs ds) (h : atI ds i = some d) : ∃ v, atI xs i = some v ∧ Rep K F v d := by
  unfold atI at h ⊢
  rw [r.length]
  cases e : ixN ds.length i with
  | none => rw [e] at h; cases h
  | some j =>
    rw [e] at h
    exact r.get h
theorem wop_ix_lst {xs : List D} {i : Int} {d : D} {P : D → Store → Prop} (h : atI xs i = some d) (p : P d μ) : WOp K Z (rIxA K) (.lst xs) (.int i) μ P :=
  fun v u F H Q c r1 r2 k z => by
    obtain ⟨a, ys, rfl, e, r⟩ := rep_ll r1
    cases r2
    obtain ⟨w, hw, rw'⟩ := atI_rep r h
    exact .inl (.inl ⟨a, ys, i, w, rfl, rfl, sq_list c.ex e, hw, k _ _ _ _ _ p (Mv.refl ..) c rw'⟩)
theorem wop_ix_tup {xs : List D} {i : Int} {d : D} {P : D → Store → Prop} (h : atI xs i = some d) (p : P d μ) : WOp K Z (rIxA K) (.tup xs) (.int i) μ P :=
  fun v u F H Q c r1 r2 k z => by
    obtain ⟨a, ys, rfl, e, r⟩ := rep_tt r1
    cases r2
    obtain ⟨w, hw, rw'⟩ := atI_rep r h
    exact .inl (.inr (.inl ⟨a, ys, i, w, rfl, rfl, same_t c.ex e, hw, k _ _ _ _ _ p (Mv.refl ..) c rw'⟩))
theorem wop_ix_str {s : Str} {i : Int} {c : Nat} {P : D → Store → Prop} (hl : s.length ≤ 100000) (h : atI s.cps.toList i = some c) (p : P (.str ⟨#[c]⟩) μ) : WOp K Z (rIxA K) (.str s) (.int i) μ P :=
  wop_sc (w := .str ⟨#[c]⟩) (fun F => .str _) (fun v u F H Q cm r1 r2 q => by cases r1; cases r2; exact .inl (.inr (.inr ⟨s, i, c, rfl, rfl, Nat.le_trans hl (by decide), h, q⟩))) p
/-- a mutable list's item -/
theorem wop_ix_mut {j : Nat} {l : Addr} {xs : List D} {i : Int} {d : D} {P : D → Store → Prop} (hj : μ[j]? = some (l, .lst xs)) (h : atI xs i = some d) (p : P d μ) : WOp K Z (rIxA K) (.ref l) (.int i) μ P :=
  fun v u F H Q c r1 r2 k z => by
    cases r1; cases r2
    obtain ⟨_, ys, e, r⟩ := c.mu _ (mem_at hj)
    obtain ⟨w, hw, rw'⟩ := atI_rep r h
    exact .inl (.inl ⟨l, ys, i, w, rfl, rfl, SqL.of e, hw, k _ _ _ _ _ p (Mv.refl ..) c rw'⟩)
/-- the key of a value -/
def keyD : D → Option Key
  | .int i => some (.inl i)
  | .str s => some (.inr s)
  | _ => none
theorem key_rep {F : Hp} {v : V} {d : D} {k : Key} (r : Rep K F v d) (h : keyD d = some k) : v = kV k := by
  cases r <;> cases h <;> rfl
theorem valV_lookup {kvs : List (Key × V)} {k : Key} : valV kvs k = lookK kvs k := rfl
theorem wop_ix_dct {kvs : List (Key × D)} {x d : D} {k : Key} {P : D → Store → Prop} (hk : keyD x = some k) (h : lookK kvs k = some d) (p : P d μ) : WOp K Z (rIxA K) (.dct kvs) x μ P :=
  fun v u F H Q c r1 r2 kk z => by
    cases r1 with
    | @dct a kv _ e r =>
      obtain ⟨w, hw, rw'⟩ := r.find h
      refine .inr ⟨a, w, rfl, .inl ⟨kv, k, .inl (c.ex _ _ e), key_rep r2 hk, ?_⟩, kk _ _ _ _ _ p (Mv.refl ..) c rw'⟩
      rw [valV_lookup, hw]
theorem wop_ix_dctM {j : Nat} {l : Addr} {kvs : List (Key × D)} {x d : D} {k : Key} {P : D → Store → Prop} (hj : μ[j]? = some (l, .dct kvs)) (hk : keyD x = some k) (h : lookK kvs k = some d) (p : P d μ) : WOp K Z (rIxA K) (.ref l) x μ P :=
  fun v u F H Q c r1 r2 kk z => by
    cases r1
    obtain ⟨_, kv, e, r⟩ := c.mu _ (mem_at hj)
    obtain ⟨w, hw, rw'⟩ := r.find h
    refine .inr ⟨l, w, rfl, .inl ⟨kv, k, .inl e, key_rep r2 hk, ?_⟩, kk _ _ _ _ _ p (Mv.refl ..) c rw'⟩
    rw [valV_lookup, hw]
theorem wop_in_dct {kvs : List (Key × D)} {x : D} {k : Key} {P : D → Store → Prop} (hk : keyD x = some k) (p : P (.bl (lookK kvs k).isSome) μ) : WOp K Z (rInA K) x (.dct kvs) μ P :=
  wop_sc (w := .bl (lookK kvs k).isSome) (fun F => .bl _) (fun v u F H Q c r1 r2 q => by
    cases r2 with
    | @dct a kv _ e r =>
      refine .inr ⟨a, lookK kv k, rfl, .inl ⟨kv, k, .inl (c.ex _ _ e), key_rep r1 hk, valV_lookup.symm⟩, ?_⟩
      rw [r.isSome]; exact q) p
theorem wop_in_dctM {j : Nat} {l : Addr} {kvs : List (Key × D)} {x : D} {k : Key} {P : D → Store → Prop} (hj : μ[j]? = some (l, .dct kvs)) (hk : keyD x = some k) (p : P (.bl (lookK kvs k).isSome) μ) : WOp K Z (rInA K) x (.ref l) μ P :=
  wop_sc (w := .bl (lookK kvs k).isSome) (fun F => .bl _) (fun v u F H Q c r1 r2 q => by
    cases r2
    obtain ⟨_, kv, e, r⟩ := c.mu _ (mem_at hj)
    refine .inr ⟨l, lookK kv k, rfl, .inl ⟨kv, k, .inl e, key_rep r1 hk, valV_lookup.symm⟩, ?_⟩
    rw [r.isSome]; exact q) p
theorem wop_notin_dctM {j : Nat} {l : Addr} {kvs : List (Key × D)} {x : D} {k : Key} {P : D → Store → Prop} (hj : μ[j]? = some (l, .dct kvs)) (hk : keyD x = some k) (p : P (.bl (!(lookK kvs k).isSome)) μ) : WOp K Z (rNotInA K) x (.ref l) μ P :=
  wop_sc (w := .bl (!(lookK kvs k).isSome)) (fun F => .bl _) (fun v u F H Q c r1 r2 q => by
    cases r2
    obtain ⟨_, kv, e, r⟩ := c.mu _ (mem_at hj)
    refine .inr ⟨l, lookK kv k, rfl, .inl ⟨kv, k, .inl e, key_rep r1 hk, valV_lookup.symm⟩, ?_⟩
    rw [r.isSome]; exact q) p
def isNon : D → Bool
  | .non => true
  | _ => false
theorem wop_is_none {x : D} {P : D → Store → Prop} (p : P (.bl (isNon x)) μ) : WOp K Z rIsA x .non μ P :=
  wop_sc (w := .bl (isNon x)) (fun F => .bl _) (fun v u F H Q c r1 r2 q => by
    cases r2
    refine .inl ⟨rfl, ?_⟩
    cases r1 <;> exact q) p
theorem wop_isnot_none {x : D} {P : D → Store → Prop} (p : P (.bl (!isNon x)) μ) : WOp K Z rNotA x .non μ P :=
  wop_sc (w := .bl (!isNon x)) (fun F => .bl _) (fun v u F H Q c r1 r2 q => by
    cases r2
    refine .inl ⟨rfl, ?_⟩
    cases r1 <;> exact q) p
theorem wop_is_bl {x y : Bool} {P : D → Store → Prop} (p : P (.bl (decide (x = y))) μ) : WOp K Z rIsA (.bl x) (.bl y) μ P :=
  wop_sc (w := .bl (decide (x = y))) (fun F => .bl _) (fun v u F H Q c r1 r2 q => by cases r1; cases r2; exact .inr ⟨x, y, rfl, rfl, q⟩) p
theorem wop_isnot_bl {x y : Bool} {P : D → Store → Prop} (p : P (.bl (!decide (x = y))) μ) : WOp K Z rNotA (.bl x) (.bl y) μ P :=
  wop_sc (w := .bl (!decide (x = y))) (fun F => .bl _) (fun v u F H Q c r1 r2 q => by cases r1; cases r2; exact .inr ⟨x, y, rfl, rfl, q⟩) p
end
end VL
set_option Elab.async false
set_option linter.all false
set_option maxRecDepth 100000
set_option maxHeartbeats 4000000
/-! VL4: built-in calls, methods, attributes, slices, stores, calls of defs, by values. -/
namespace VL
open PySem PySem.Spec PyProof.Rows L2

section
variable {X : Cx}
/-- isinstance(x, T), T a tuple of classes that is read -/
def rIsiS (K : PySem.W.Frag) : List V → Hp → VK → Prop := fun xs H Q => ∃ (x : V) (tp : Addr) (cs : List V) (t : Value) (us : List Value) (b : Bool), xs = [x, .ref tp] ∧ SqT K H tp cs ∧ Paired ClsV cs us ∧ TyX K H x t ∧ PySem.W.kitAny K t us = some b ∧ Q (.bl b) H
theorem call_isiS : CallR X (.builtin "isinstance") (rIsiS X.K) := by
  intro pins s σ H xs us Q I r h
  obtain ⟨x, tp, cs, t, ws, b, rfl, hT, k, ty, e, q⟩ := h
  obtain ⟨u1, u2, rfl, r1, r2⟩ := vals2 r
  cases (show u2 = Value.ref tp from r2)
  obtain ⟨P, Z, p, hx⟩ := kit_of I r1 ty
  obtain ⟨its, rv, ⟨o, h1, h2, n, h3⟩, _⟩ := I.tuple hT
  have e3 := ClsV.all k rv
  subst e3
  obtain ⟨oc, od, dt, sl⟩ := o
  simp only at h2 h3
  subst h2 h3
  exact PySem.W.kia_tup Z I.kIn p h1 e hx fun tk => ⟨.bl b, H, I.tok tk, rfl, q⟩
abbrev rIsiA (K : PySem.W.Frag) : List V → Hp → VK → Prop := fun xs H Q => rIsi K xs H Q ∨ rIsiS K xs H Q
theorem call_isiA : CallR X (.builtin "isinstance") (rIsiA X.K) := call_isi.or call_isiS
def rMin3 : List V → Hp → VK → Prop := fun xs H Q => ∃ i j k, xs = [.int i, .int j, .int k] ∧ Q (.int (if j < i then (if k < j then k else j) else (if k < i then k else i))) H
theorem call_min3 (hc : X.calm = true) : CallR X (.builtin "min") rMin3 := by
  intro pins s σ H xs us Q I r h
  obtain ⟨i, j, k, rfl, q⟩ := h
  cases r with
  | cons r1 r =>
    cases r with
    | cons r2 r =>
      cases r with
      | cons r3 r =>
        cases r
        obtain ⟨t1, rfl⟩ := r1
        obtain ⟨t2, rfl⟩ := r2
        obtain ⟨t3, rfl⟩ := r3
        refine min_three_ints (I.ok.hd hc) fun h' tk hk => ?_
        have I2 : Inv X pins σ H { s with heap := h', toks := tk } := I.kept (t' := tk) hk
        by_cases e1 : j < i
        · rw [if_pos e1] at q ⊢
          by_cases e2 : k < j
          · rw [if_pos e2] at q ⊢; exact ⟨.int _, H, I2, ⟨_, rfl⟩, q⟩
          · rw [if_neg e2] at q ⊢; exact ⟨.int _, H, I2, ⟨_, rfl⟩, q⟩
        · rw [if_neg e1] at q ⊢
          by_cases e2 : k < i
          · rw [if_pos e2] at q ⊢; exact ⟨.int _, H, I2, ⟨_, rfl⟩, q⟩
          · rw [if_neg e2] at q ⊢; exact ⟨.int _, H, I2, ⟨_, rfl⟩, q⟩
abbrev rMinA (K : PySem.W.Frag) : List V → Hp → VK → Prop := fun xs H Q => ((∃ i j, xs = [V.int i, V.int j] ∧ Q (.int (if j < i then j else i)) H) ∨ rMin3 xs H Q) ∨ rMin K xs H Q
theorem call_minA (hc : X.calm = true) : CallR X (.builtin "min") (rMinA X.K) := ((call_min2 hc).or (call_min3 hc)).or (cr_min hc)
abbrev rMaxA (K : PySem.W.Frag) : List V → Hp → VK → Prop := fun xs H Q => (∃ i j, xs = [V.int i, V.int j] ∧ Q (.int (if j > i then j else i)) H) ∨ rMax K xs H Q
theorem call_maxA (hc : X.calm = true) : CallR X (.builtin "max") (rMaxA X.K) := (call_max2 hc).or (cr_max hc)
abbrev rLenA (K : PySem.W.Frag) : List V → Hp → VK → Prop := fun xs H Q => (∃ x n, xs = [x] ∧ LenV K x H n ∧ Q (.int (n : Nat)) H)
theorem call_lenA : CallR X (.builtin "len") (rLenA X.K) := call_len
/-! ### sorted -/
/-- sorted(xs): xs told as data; bs its values with what they are -/
def rSortedD (K : PySem.W.Frag) : List V → Hp → VK → Prop := fun vs H Q => ∃ (a : Addr) (bs : List (V × D)), vs = [.ref a] ∧ SqL K H a (bs.map (·.1)) ∧ (∀ b ∈ bs, Dp K H b.1 (toPy b.2)) ∧
  PySem.W.AllAlike (bs.map fun b => toPy b.2) ∧ PySem.W.Sortable (bs.map fun b => toPy b.2) ∧ (∀ b ∈ bs, (toPy b.2).depth ≤ 60) ∧
  ∀ p, H p = none → Q (.ref p) (upd H p (.lst ((bs.mergeSort fun x y => !ltv y.2 x.2).map (·.1))))
theorem each_of {I : V → Value → Prop} : ∀ {bs : List (V × D)} {us : List Value}, Paired I (bs.map (·.1)) us → PySem.W.EachIs (fun (u : Value) (b : V × D) => I b.1 u) us bs
  | [], _, .nil => .nil
  | _ :: _, _, .cons r t => .cons r (each_of t)
theorem of_each {I : V → Value → Prop} : ∀ {bs : List (V × D)} {us : List Value}, PySem.W.EachIs (fun (u : Value) (b : V × D) => I b.1 u) us bs → Paired I (bs.map (·.1)) us
  | [], _, .nil => .nil
  | _ :: _, _, .cons r t => .cons r (of_each t)
theorem each_and {α β : Type} {R S : α → β → Prop} : ∀ {as : List α} {bs : List β}, PySem.W.EachIs R as bs → (∀ a b, b ∈ bs → R a b → S a b) → PySem.W.EachIs S as bs
  | _, _, .nil, _ => .nil
  | _, _, .cons r t, h => .cons (h _ _ (by simp) r) (each_and t fun a b m => h a b (List.mem_cons_of_mem _ m))
theorem cr_sortedD (hu : X.A.units + 64 < cLine) : CallR X (.builtin "sorted") (rSortedD X.K) := by
  intro pins s σ H vs us Q I r h
  obtain ⟨a, bs, rfl, hs, hd, al, so, dp, q⟩ := h
  obtain ⟨its, rv, hl, hz⟩ := I.list hs
  rw [Vals.ref1 r]
  have e1 : PySem.W.EachIs (fun (u : Value) (b : V × D) => RelV b.1 u) its bs := each_of rv
  refine PySem.W.sorted_data (β := V × D) (enc := fun b => toPy b.2) (R := fun u b => RelV b.1 u) (bs := bs) hl.isList e1 (each_and e1 fun u b m ru => Dp.reads I _ b.1 u (hd b m) ru) al so (by rw [List.length_map] at hz; exact hz)
    (fun b m => by have := dp b m; omega) fun out h1 h2 => ?_
  obtain ⟨ep, he'⟩ := PyProof.Rows.sortedAll_at s.heap its (List.toArray out)
  have hv : Vals ((bs.mergeSort fun x y => !ltv y.2 x.2).map (·.1)) out := of_each h2
  have hlen : ((bs.mergeSort fun x y => !ltv y.2 x.2).map (·.1)).length ≤ sizeLine := by rw [List.length_map, List.length_mergeSort]; rw [List.length_map] at hz; exact hz
  exact ⟨.ref _, upd H (s.heap.objs.size + 1) (.lst _), I.laid (t' := s.toks) (fun _ _ => PyProof.Rows.sortedAll_old) (Nat.le_succ _) ⟨hlen, out, ep, hv, he'⟩, rfl, q _ (I.hok.fresh (Nat.le_succ _))⟩
end

section
variable {K : PySem.W.Frag} {Z : Wish} {δ : Env} {μ : Store} {te ta tv : TE}
theorem we_cb {r : List V → Hp → VK → Prop} {t : TA} {P : D → Store → Prop} (h : WA K Z t δ μ fun xs μ1 => WC K Z r xs μ1 P) : WE K Z (tCB r t) δ μ P := fun σ F H Q s c k z => by
  refine h σ F H _ s c (fun vs xs μ1 F1 H1 p m1 c1 r1 => ?_) z
  exact p vs F1 H1 Q c1 r1 (fun w d μ' F' H' q m2 c2 r2 => k w d μ' F' H' q (m1.trans m2) c2 r2) (z.mv m1)
theorem reps1 {F : Hp} {vs : List V} {d : D} (r : Reps K F vs [d]) : ∃ v, vs = [v] ∧ Rep K F v d := by
  cases r with
  | cons r rr => cases rr; exact ⟨_, rfl, r⟩
theorem reps2 {F : Hp} {vs : List V} {d e : D} (r : Reps K F vs [d, e]) : ∃ v u, vs = [v, u] ∧ Rep K F v d ∧ Rep K F u e := by
  cases r with
  | cons r rr =>
    cases rr with
    | cons r' rr => cases rr; exact ⟨_, _, rfl, r, r'⟩
/-! ### len -/
def lenD : D → Option Nat
  | .lst xs => some xs.length
  | .tup xs => some xs.length
  | _ => none
theorem wc_len {d : D} {n : Nat} {P : D → Store → Prop} (h : lenD d = some n) (p : P (.int (n : Nat)) μ) : WC K Z (rLenA K) [d] μ P :=
  wc_sc (w := .int (n : Nat)) (fun F => .int _) (fun vs F H Q c r q => by
    obtain ⟨v, rfl, r'⟩ := reps1 r; have r := r'; clear r'
    refine ⟨v, n, rfl, ?_, q⟩
    cases r with
    | lst e rr => cases h; exact .inl ⟨_, sq_list c.ex e, rr.length.symm⟩
    | tup e rr => cases h; exact .inr ⟨_, same_t c.ex e, rr.length.symm⟩
    | _ => cases h) p
theorem wc_len_str {s : Str} {P : D → Store → Prop} (h : s.length ≤ 100000) (p : P (.int (s.length : Nat)) μ) : WC K Z (rLenA K) [.str s] μ P :=
  wc_sc (w := .int (s.length : Nat)) (fun F => .int _) (fun vs F H Q c r q => by
    obtain ⟨v, rfl, r'⟩ := reps1 r; have r := r'; clear r'
    cases r
    exact ⟨.str s, s.length, rfl, ⟨Nat.le_trans h (by decide), rfl⟩, q⟩) p
theorem wc_len_mut {j : Nat} {l : Addr} {xs : List D} {P : D → Store → Prop} (hj : μ[j]? = some (l, .lst xs)) (p : P (.int (xs.length : Nat)) μ) : WC K Z (rLenA K) [.ref l] μ P :=
  wc_sc (w := .int (xs.length : Nat)) (fun F => .int _) (fun vs F H Q c r q => by
    obtain ⟨v, rfl, r'⟩ := reps1 r; have r := r'; clear r'
    cases r
    obtain ⟨_, ys, e, r⟩ := c.mu _ (mem_at hj)
    exact ⟨.ref l, xs.length, rfl, .inl ⟨ys, SqL.of e, r.length.symm⟩, q⟩) p
/-! ### isinstance -/
def tyN : D → Option String
  | .non => some "NoneType"
  | .bl _ => some "bool"
  | .int _ => some "int"
  | .str _ => some "str"
  | .lst _ => some "list"
  | .tup _ => some "tuple"
  | .dct _ => some "dict"
  | _ => none
theorem tyx_of {F H : Hp} {v : V} {d : D} {t : String} (ex : Same F H) (r : Rep K F v d) (h : tyN d = some t) : TyX K H v (.type t) := by
  cases r with
  | non => cases h; exact .base .non
  | bl b => cases h; exact .base (.bl b)
  | int i => cases h; exact .base (.int i)
  | str s => cases h; exact .base (.str s)
  | lst e r => cases h; exact .base (.lst (ex _ _ e))
  | tup e r =>
    cases h
    rcases e with (e | ⟨o, e⟩) | ⟨o, its, n, h1, h2, _⟩
    · exact .base (.tup (ex _ _ e))
    · exact .fTuple (ex _ _ e)
    · exact .kTuple h1 h2
  | dct e r => cases h; exact .base (.dK (ex _ _ e))
  | ins e r => cases h
  | scr e r => cases h
  | exc e _ r => cases h
  | dT e r => cases h
  | kt e => cases h
  | tupN e _ r => cases h
  | ref a => cases h
  | ty n => cases h
/-- what isinstance asks of an own class -/
structure InsOk (K : PySem.W.Frag) (C : Addr) : Prop where
  cl : Cls K C
  ha : PySem.W.findIn K (.ref C) "__class__" = some (some (.builtin "object.__class__"))
  hn : PySem.W.specialIn K (.builtin "object.__class__") "__get__" = some (some (.builtin "getset_descriptor.__get__"))
  ht : PySem.W.takesIn K (.builtin "object.__class__") = some true
  hm : PySem.W.mroIn K C (.type "object") = some true
/-- d's type as isinstance sees it -/
def TyD (K : PySem.W.Frag) (d : D) (t : Value) : Prop := (∃ n, tyN d = some n ∧ t = .type n) ∨ ∃ C fs, d = .ins C fs ∧ InsOk K C ∧ t = .ref C
theorem tyd_of {F H : Hp} {v : V} {d : D} {t : Value} (ex : Same F H) (r : Rep K F v d) (h : TyD K d t) : TyX K H v t := by
  rcases h with ⟨n, h, rfl⟩ | ⟨C, fs, rfl, ok, rfl⟩
  · exact tyx_of ex r h
  · cases r with
    | ins e r => exact .base (.ins (ex _ _ e) ok.cl ok.ha ok.hn ok.ht ok.hm)
theorem wc_isi {x : D} {t : Value} {T : String} {b : Bool} {P : D → Store → Prop} (h : TyD K x t) (hk : PySem.W.kitOne K t (.type T) = some b) (p : P (.bl b) μ) : WC K Z (rIsiA K) [x, .ty T] μ P :=
  wc_sc (w := .bl b) (fun F => .bl _) (fun vs F H Q c r q => by
    obtain ⟨v, u, rfl, r1, r2⟩ := reps2 r
    cases r2
    exact .inl ⟨v, .ty T, t, .type T, b, rfl, .ty T, tyd_of c.ex r1 h, hk, q⟩) p
theorem wc_isiC {x : D} {t : Value} {C : Addr} {b : Bool} {P : D → Store → Prop} (h : TyD K x t) (hk : PySem.W.kitOne K t (.ref C) = some b) (p : P (.bl b) μ) : WC K Z (rIsiA K) [x, .ref C] μ P :=
  wc_sc (w := .bl b) (fun F => .bl _) (fun vs F H Q c r q => by
    obtain ⟨v, u, rfl, r1, r2⟩ := reps2 r
    cases r2
    exact .inl ⟨v, .ref C, t, .ref C, b, rfl, .own C, tyd_of c.ex r1 h, hk, q⟩) p
/-- two built-in classes -/
theorem wc_isi2 {x : D} {t : Value} {T U : String} {b : Bool} {P : D → Store → Prop} (h : TyD K x t) (hk : PySem.W.kitAny K t [.type T, .type U] = some b) (p : P (.bl b) μ) : WC K Z (rIsiA K) [x, .tup [.ty T, .ty U]] μ P :=
  wc_sc (w := .bl b) (fun F => .bl _) (fun vs F H Q c r q => by
    obtain ⟨v, u, rfl, r1, r2⟩ := reps2 r
    obtain ⟨a, xs, rfl, e, r'⟩ := rep_tt r2
    obtain ⟨v1, v2, rfl, q1, q2⟩ := reps2 r'
    cases q1; cases q2
    exact .inr ⟨v, a, [.ty T, .ty U], t, [.type T, .type U], b, rfl, same_t c.ex e, .cons (.ty T) (.cons (.ty U) .nil), tyd_of c.ex r1 h, hk, q⟩) p
theorem kit_of_B {a b : String} {r : Bool} (h : kitB a b = some r) : PySem.W.kitOne K (.type a) (.type b) = some r := kit_ty h
/-! ### list, tuple, sums -/
abbrev rListA (K : PySem.W.Frag) : List V → Hp → VK → Prop := fun xs H Q => ∃ p ys, xs = [V.ref p] ∧ (SqL K H p ys ∨ SqT K H p ys) ∧ ∀ l, H l = none → Q (.ref l) (upd H l (.lst ys))
abbrev rTupA (K : PySem.W.Frag) : List V → Hp → VK → Prop := fun xs H Q => ∃ p ys, xs = [V.ref p] ∧ ((SqL K H p ys ∧ ∀ l, H l = none → Q (.ref l) (upd H l (.tup ys))) ∨ (SqT K H p ys ∧ Q (.ref p) H))
def itemsD : D → Option (List D)
  | .lst xs => some xs
  | .tup xs => some xs
  | _ => none
theorem items_rep {F H : Hp} {v : V} {d : D} {xs : List D} (ex : Same F H) (r : Rep K F v d) (h : itemsD d = some xs) : ∃ p ys, v = .ref p ∧ (SqL K H p ys ∨ SqT K H p ys) ∧ Reps K F ys xs := by
  cases r with
  | lst e r => cases h; exact ⟨_, _, rfl, .inl (sq_list ex e), r⟩
  | tup e r => cases h; exact ⟨_, _, rfl, .inr (same_t ex e), r⟩
  | _ => cases h
/-- list(x): frozen | mutable -/
theorem wc_list {d : D} {xs : List D} {P : D → Store → Prop} (h : itemsD d = some xs) (p : P (.lst xs) μ) : WC K Z (rListA K) [d] μ P := fun vs F H Q c r k z => by
  obtain ⟨v, rfl, r'⟩ := reps1 r; have r := r'; clear r'
  obtain ⟨q, ys, rfl, hs, r⟩ := items_rep c.ex r h
  exact ⟨q, ys, rfl, hs, fun l n => k _ _ _ _ _ p (mv_new c n) (cm_new c n) (.lst upd_same (r.mono (mv_new c n).up))⟩
theorem wc_listM {d : D} {xs : List D} {P : D → Store → Prop} (h : itemsD d = some xs) (p : ∀ l, P (.ref l) (μ ++ [(l, .lst xs)])) : WC K Z (rListA K) [d] μ P := fun vs F H Q c r k z => by
  obtain ⟨v, rfl, r'⟩ := reps1 r; have r := r'; clear r'
  obtain ⟨q, ys, rfl, hs, r⟩ := items_rep c.ex r h
  exact ⟨q, ys, rfl, hs, fun l n => k _ _ _ _ _ (p l) (mv_newM c n) (cm_newM c n ⟨ys, upd_same, r⟩) (.ref l)⟩
theorem wc_tup_l {xs : List D} {P : D → Store → Prop} (p : P (.tup xs) μ) : WC K Z (rTupA K) [.lst xs] μ P := fun vs F H Q c r k z => by
  obtain ⟨v, rfl, r'⟩ := reps1 r; have r := r'; clear r'
  obtain ⟨a, ys, rfl, e, r⟩ := rep_ll r
  exact ⟨a, ys, rfl, .inl ⟨sq_list c.ex e, fun l n => k _ _ _ _ _ p (mv_new c n) (cm_new c n) (.tup (SqT.of upd_same) (r.mono (mv_new c n).up))⟩⟩
theorem wc_tup_t {xs : List D} {P : D → Store → Prop} (p : P (.tup xs) μ) : WC K Z (rTupA K) [.tup xs] μ P := fun vs F H Q c r k z => by
  obtain ⟨v, rfl, r'⟩ := reps1 r; have r := r'; clear r'
  obtain ⟨a, ys, rfl, e, r'⟩ := rep_tt r
  exact ⟨a, ys, rfl, .inr ⟨same_t c.ex e, k _ _ _ _ _ p (Mv.refl ..) c r⟩⟩
theorem reps_bls {F : Hp} : ∀ {bs : List Bool} {vs : List V}, Reps K F vs (bs.map D.bl) → vs = bs.map V.bl
  | [], _, .nil => rfl
  | _ :: _, _, .cons r rr => by cases r; rw [reps_bls rr]; rfl
theorem reps_ints {F : Hp} : ∀ {ns : List Int} {vs : List V}, Reps K F vs (ns.map D.int) → vs = ns.map V.int
  | [], _, .nil => rfl
  | _ :: _, _, .cons r rr => by cases r; rw [reps_ints rr]; rfl
theorem wc_all {bs : List Bool} {P : D → Store → Prop} (p : P (.bl (bs.all id)) μ) : WC K Z (rAll K) [.lst (bs.map D.bl)] μ P :=
  wc_sc (w := .bl (bs.all id)) (fun F => .bl _) (fun vs F H Q c r q => by
    obtain ⟨v, rfl, r'⟩ := reps1 r; have r := r'; clear r'
    obtain ⟨a, xs, rfl, e, r⟩ := rep_ll r
    rw [reps_bls r] at e
    exact ⟨a, bs, rfl, sq_list c.ex e, q⟩) p
theorem wc_any {bs : List Bool} {P : D → Store → Prop} (p : P (.bl (bs.any id)) μ) : WC K Z (rAny K) [.lst (bs.map D.bl)] μ P :=
  wc_sc (w := .bl (bs.any id)) (fun F => .bl _) (fun vs F H Q c r q => by
    obtain ⟨v, rfl, r'⟩ := reps1 r; have r := r'; clear r'
    obtain ⟨a, xs, rfl, e, r⟩ := rep_ll r
    rw [reps_bls r] at e
    exact ⟨a, bs, rfl, sq_list c.ex e, q⟩) p
theorem wc_sum {ns : List Int} {P : D → Store → Prop} (p : P (.int ns.sum) μ) : WC K Z (rSum K) [.lst (ns.map D.int)] μ P :=
  wc_sc (w := .int ns.sum) (fun F => .int _) (fun vs F H Q c r q => by
    obtain ⟨v, rfl, r'⟩ := reps1 r; have r := r'; clear r'
    obtain ⟨a, xs, rfl, e, r⟩ := rep_ll r
    rw [reps_ints r] at e
    exact ⟨a, ns, rfl, sq_list c.ex e, q⟩) p
theorem wc_min2 {i j : Int} {P : D → Store → Prop} (p : P (.int (if j < i then j else i)) μ) : WC K Z (rMinA K) [.int i, .int j] μ P :=
  wc_sc (w := .int _) (fun F => .int _) (fun vs F H Q c r q => by
    obtain ⟨v, u, rfl, r1, r2⟩ := reps2 r
    cases r1; cases r2
    exact .inl (.inl ⟨i, j, rfl, q⟩)) p
theorem wc_max2 {i j : Int} {P : D → Store → Prop} (p : P (.int (if j > i then j else i)) μ) : WC K Z (rMaxA K) [.int i, .int j] μ P :=
  wc_sc (w := .int _) (fun F => .int _) (fun vs F H Q c r q => by
    obtain ⟨v, u, rfl, r1, r2⟩ := reps2 r
    cases r1; cases r2
    exact .inl ⟨i, j, rfl, q⟩) p
theorem wc_min3 {i j k : Int} {P : D → Store → Prop} (p : P (.int (if j < i then (if k < j then k else j) else (if k < i then k else i))) μ) : WC K Z (rMinA K) [.int i, .int j, .int k] μ P :=
  wc_sc (w := .int _) (fun F => .int _) (fun vs F H Q c r q => by
    cases r with
    | cons r1 r =>
      obtain ⟨v, u, rfl, r2, r3⟩ := reps2 r
      cases r1; cases r2; cases r3
      exact .inl (.inr ⟨i, j, k, rfl, q⟩)) p
theorem wc_minL {ns : List Int} {P : D → Store → Prop} (h : 0 < ns.length) (p : ∀ m, m ∈ ns → (∀ y, y ∈ ns → m ≤ y) → P (.int m) μ) : WC K Z (rMinA K) [.lst (ns.map D.int)] μ P := fun vs F H Q c r k z => by
  obtain ⟨v, rfl, r'⟩ := reps1 r; have r := r'; clear r'
  obtain ⟨a, xs, rfl, e, r⟩ := rep_ll r
  rw [reps_ints r] at e
  exact .inr ⟨a, ns, rfl, sq_list c.ex e, h, fun m h1 h2 => k _ _ _ _ _ (p m h1 h2) (Mv.refl ..) c (.int m)⟩
abbrev rAbs : List V → Hp → VK → Prop := fun xs H Q => ∃ i, xs = [.int i] ∧ Q (.int (if i < 0 then -i else i)) H
theorem wc_abs {i : Int} {P : D → Store → Prop} (p : P (.int (if i < 0 then -i else i)) μ) : WC K Z rAbs [.int i] μ P :=
  wc_sc (w := .int _) (fun F => .int _) (fun vs F H Q c r q => by
    obtain ⟨v, rfl, r'⟩ := reps1 r; have r := r'; clear r'
    cases r
    exact ⟨i, rfl, q⟩) p
abbrev rInt1 : List V → Hp → VK → Prop := fun xs H Q => (∃ i, xs = [.int i] ∧ Q (.int i) H) ∨ ∃ k, xs = [.bl k] ∧ Q (.int (if k then 1 else 0)) H
theorem wc_int {i : Int} {P : D → Store → Prop} (p : P (.int i) μ) : WC K Z rInt1 [.int i] μ P :=
  wc_sc (w := .int _) (fun F => .int _) (fun vs F H Q c r q => by
    obtain ⟨v, rfl, r'⟩ := reps1 r; have r := r'; clear r'
    cases r
    exact .inl ⟨i, rfl, q⟩) p
theorem wc_int_bl {b : Bool} {P : D → Store → Prop} (p : P (.int (if b then 1 else 0)) μ) : WC K Z rInt1 [.bl b] μ P :=
  wc_sc (w := .int _) (fun F => .int _) (fun vs F H Q c r q => by
    obtain ⟨v, rfl, r'⟩ := reps1 r; have r := r'; clear r'
    cases r
    exact .inr ⟨b, rfl, q⟩) p
abbrev rStr1 : List V → Hp → VK → Prop := fun xs H Q => ∃ i, xs = [.int i] ∧ i.natAbs.log2 < 1920 ∧ Q (.str (toString i)) H
theorem wc_str {i : Int} {P : D → Store → Prop} (h : i.natAbs < 2 ^ 1000) (p : P (.str (toString i)) μ) : WC K Z rStr1 [.int i] μ P :=
  wc_sc (w := .str _) (fun F => .str _) (fun vs F H Q c r q => by
    obtain ⟨v, rfl, r'⟩ := reps1 r; have r := r'; clear r'
    cases r
    refine ⟨i, rfl, ?_, q⟩
    by_cases e : i.natAbs = 0
    · rw [e]; decide
    · exact Nat.lt_of_lt_of_le ((Nat.log2_lt e).mpr h) (by decide)) p
def sortD (xs : List D) : List D := xs.mergeSort fun x y => !ltv y x
theorem zip_maps : ∀ {vs : List V} {ds : List D}, vs.length = ds.length → (vs.zip ds).map (·.1) = vs ∧ (vs.zip ds).map (·.2) = ds
  | [], [], _ => ⟨rfl, rfl⟩
  | [], _ :: _, h => by simp at h
  | _ :: _, [], h => by simp at h
  | v :: vs, d :: ds, h => by
    obtain ⟨h1, h2⟩ := zip_maps (vs := vs) (ds := ds) (by simpa using h)
    exact ⟨by rw [List.zip_cons_cons, List.map_cons, h1], by rw [List.zip_cons_cons, List.map_cons, h2]⟩
theorem reps_zip {F : Hp} : ∀ {vs : List V} {ds : List D}, Reps K F vs ds → ∀ b ∈ vs.zip ds, Rep K F b.1 b.2
  | _, _, .nil, b, h => by simp at h
  | _, _, .cons r rr, b, h => by
    rcases List.mem_cons.mp (by simpa using h) with e | e
    · subst e; exact r
    · exact reps_zip rr b e
theorem reps_of_zip {F : Hp} : ∀ {bs : List (V × D)}, (∀ b ∈ bs, Rep K F b.1 b.2) → Reps K F (bs.map (·.1)) (bs.map (·.2))
  | [], _ => .nil
  | b :: bs, h => .cons (h b (by simp)) (reps_of_zip fun c m => h c (List.mem_cons_of_mem _ m))
/-- data that sorted takes -/
structure SortOk (xs : List D) : Prop where
  ok : ∀ x ∈ xs, okD 60 x = true
  al : ∀ x ∈ xs, ∀ y ∈ xs, alk x y = true
  so : (∀ x ∈ xs, ∃ y r, toPy x = .tuple (y :: r)) ∨ ∀ x ∈ xs, toPy x ≠ .none ∧ ∀ ys, toPy x ≠ .tuple ys
theorem wc_sorted {xs : List D} {P : D → Store → Prop} (h : SortOk xs) (p : P (.lst (sortD xs)) μ) : WC K Z (rSortedD K) [.lst xs] μ P := fun vs F H Q c r k z => by
  obtain ⟨v, rfl, r'⟩ := reps1 r; have r := r'; clear r'
  obtain ⟨a, ys, rfl, e, r⟩ := rep_ll r
  obtain ⟨z1, z2⟩ := zip_maps r.length
  have rz := reps_zip r
  have mem2 : ∀ b ∈ ys.zip xs, b.2 ∈ xs := fun b hb => by rw [← z2]; exact List.mem_map.mpr ⟨b, hb, rfl⟩
  refine ⟨a, ys.zip xs, rfl, by rw [z1]; exact sq_list c.ex e, fun b hb => rep_dp c.ex (rz b hb) (h.ok _ (mem2 b hb)), ?_, ?_, fun b hb => (ok_lay (h.ok _ (mem2 b hb))).2, fun q n => ?_⟩
  · intro d hd d' hd'
    obtain ⟨b, hb, rfl⟩ := List.mem_map.mp hd
    obtain ⟨b', hb', rfl⟩ := List.mem_map.mp hd'
    exact h.al _ (mem2 b hb) _ (mem2 b' hb')
  · rcases h.so with q | q
    · refine .inl fun d hd => ?_
      obtain ⟨b, hb, rfl⟩ := List.mem_map.mp hd
      exact q _ (mem2 b hb)
    · refine .inr fun d hd => ?_
      obtain ⟨b, hb, rfl⟩ := List.mem_map.mp hd
      exact q _ (mem2 b hb)
  · have e2 : ((ys.zip xs).mergeSort fun x y => !ltv y.2 x.2).map (·.2) = sortD xs := by
      unfold sortD
      rw [PySem.W.sort_maps (s := fun x y => !ltv y x) (fun b : V × D => b.2) (fun _ _ _ _ => rfl), z2]
    have m := mv_new (o := .lst (((ys.zip xs).mergeSort fun x y => !ltv y.2 x.2).map (·.1))) c n
    refine k _ _ _ _ _ p m (cm_new c n) (.lst upd_same ?_)
    rw [← e2]
    refine (reps_of_zip fun b hb => ?_).mono m.up
    exact rz b (List.mem_mergeSort.mp hb)
/-! ### methods of built-in types -/
theorem we_bm {T : String} {r : V → List V → Hp → VK → Prop} {t : TA} {P : D → Store → Prop} (h : WE K Z te δ μ fun x μ1 => (∀ v F H, Cm K F H μ1 → Rep K F v x → tyV K T v H) ∧ WA K Z t δ μ1 fun xs μ2 => WM K Z T r x xs μ2 P) : WE K Z (tBM K T r te t) δ μ P := fun σ F H Q s c k z => by
  refine h σ F H _ s c (fun v x μ1 F1 H1 ⟨ht, p⟩ m1 c1 r1 => ⟨ht v F1 H1 c1 r1, ?_⟩) z
  refine p σ F1 H1 _ (s.mono m1.up) c1 (fun vs xs μ2 F2 H2 p2 m2 c2 r2 => ?_) (z.mv m1)
  exact p2 v vs F2 H2 Q c2 (r1.mono m2.up) r2 (fun w d μ' F' H' q m3 c3 r3 => k w d μ' F' H' q ((m1.trans m2).trans m3) c3 r3) ((z.mv m1).mv m2)
theorem we_bm0 {T : String} {r : V → List V → Hp → VK → Prop} {P : D → Store → Prop} (h : WE K Z te δ μ fun x μ1 => (∀ v F H, Cm K F H μ1 → Rep K F v x → tyV K T v H) ∧ WM K Z T r x [] μ1 P) : WE K Z (tBM0 K T r te) δ μ P := fun σ F H Q s c k z => by
  refine h σ F H _ s c (fun v x μ1 F1 H1 ⟨ht, p⟩ m1 c1 r1 => ⟨ht v F1 H1 c1 r1, ?_⟩) z
  exact p v [] F1 H1 Q c1 r1 .nil (fun w d μ' F' H' q m3 c3 r3 => k w d μ' F' H' q (m1.trans m3) c3 r3) (z.mv m1)
theorem ty_mut {j : Nat} {l : Addr} {xs : List D} (hj : μ[j]? = some (l, .lst xs)) : ∀ v F H, Cm K F H μ → Rep K F v (.ref l) → tyV K "list" v H := fun v F H c r => by
  cases r
  obtain ⟨_, ys, e, r⟩ := c.mu _ (mem_at hj)
  exact .inl ⟨rfl, _, SqL.of e⟩
theorem ty_lst {xs : List D} : ∀ v F H, Cm K F H μ → Rep K F v (.lst xs) → tyV K "list" v H := fun v F H c r => by
  obtain ⟨a, ys, rfl, e, r⟩ := rep_ll r
  exact .inl ⟨rfl, _, sq_list c.ex e⟩
theorem ty_str {s : Str} : ∀ v F H, Cm K F H μ → Rep K F v (.str s) → tyV K "str" v H := fun v F H c r => by cases r; rfl
theorem ty_int {i : Int} : ∀ v F H, Cm K F H μ → Rep K F v (.int i) → tyV K "int" v H := fun v F H c r => by cases r; rfl
theorem wm_append {T : String} {j : Nat} {l : Addr} {xs : List D} {y : D} {P : D → Store → Prop} (hj : μ[j]? = some (l, .lst xs)) (hl : xs.length ≤ 1000000) (p : P .non (μ.set j (l, .lst (xs ++ [y])))) : WM K Z T rAppend (.ref l) [y] μ P := fun v vs F H Q c r1 r2 k z => by
  cases r1
  obtain ⟨u, rfl, ru⟩ := reps1 r2
  obtain ⟨_, ys, e, r⟩ := c.mu _ (mem_at hj)
  refine ⟨l, ys, u, rfl, rfl, e, by rw [r.length]; exact Nat.lt_of_le_of_lt hl (by decide), ?_⟩
  exact k _ _ _ _ _ p (mv_set hj c) (cm_set hj c ⟨_, upd_same, r.append (.cons ru .nil)⟩) .non
theorem wm_extend {T : String} {j : Nat} {l : Addr} {xs ys : List D} {P : D → Store → Prop} (hj : μ[j]? = some (l, .lst xs)) (hl : xs.length + ys.length ≤ 1000000) (p : P .non (μ.set j (l, .lst (xs ++ ys)))) : WM K Z T rExtend (.ref l) [.lst ys] μ P := fun v vs F H Q c r1 r2 k z => by
  cases r1
  obtain ⟨u, rfl, ru⟩ := reps1 r2
  obtain ⟨b, zs, rfl, eb, rb⟩ := rep_ll ru
  obtain ⟨_, ws, e, r⟩ := c.mu _ (mem_at hj)
  refine ⟨l, b, ws, zs, rfl, rfl, e, c.ex _ _ eb, by rw [r.length, rb.length]; exact Nat.le_trans hl (by decide), ?_⟩
  exact k _ _ _ _ _ p (mv_set hj c) (cm_set hj c ⟨_, upd_same, r.append rb⟩) .non
theorem wm_popAt {T : String} {j n : Nat} {l : Addr} {xs : List D} {i : Int} {y : D} {P : D → Store → Prop} (hj : μ[j]? = some (l, .lst xs)) (hi : i = (n : Nat)) (hn : n < 1000000) (hy : xs[n]? = some y) (p : P y (μ.set j (l, .lst (xs.eraseIdx n)))) : WM K Z T rPopAt (.ref l) [.int i] μ P := fun v vs F H Q c r1 r2 k z => by
  cases r1
  obtain ⟨u, rfl, ru⟩ := reps1 r2
  cases ru
  obtain ⟨_, ws, e, r⟩ := c.mu _ (mem_at hj)
  obtain ⟨w, hw, rw'⟩ := r.get hy
  subst hi
  refine ⟨l, ws, n, n, w, rfl, rfl, e, by omega, by omega, ?_, hw, ?_⟩
  · have := (ixN_seq (n := ws.length) (i := (n : Nat)) (j := n) (by
      have h1 : n < ws.length := (List.getElem?_eq_some_iff.mp hw).1
      unfold ixN
      rw [if_pos (by omega), if_pos (by omega)]
      simp)).1
    exact this
  · exact k _ _ _ _ _ p (mv_set hj c) (cm_set hj c ⟨_, upd_same, r.eraseIdx n⟩) rw'
theorem we_bits {P : D → Store → Prop} (h : WE K Z te δ μ fun d μ1 => ∃ i, d = .int i ∧ P (.int (Builtin.Int.intBits i : Nat)) μ1) : WE K Z (tBits te) δ μ P := fun σ F H Q s c k z =>
  h σ F H _ s c (fun v d μ1 F1 H1 ⟨i, e, p⟩ m1 c1 r1 => by subst e; cases r1; exact ⟨i, rfl, k _ _ _ _ _ p m1 c1 (.int _)⟩) z
/-! ### attributes -/
/-- what an attribute of d is: of a frozen instance, of a mutable one -/
def FldD (K : PySem.W.Frag) (μ : Store) (d : D) (f : Str) (x : D) : Prop :=
  (∃ C fs, d = .ins C fs ∧ Cls K C ∧ NoAttr K C f ∧ fs.lookup f = some x) ∨ (∃ (j : Nat) (l C : Addr) (fs : List (Str × D)), d = .ref l ∧ μ[j]? = some (l, .ins C fs) ∧ Cls K C ∧ NoAttr K C f ∧ fs.lookup f = some x) ∨
    ∃ C fs xs, d = .ins C fs ∧ Cls K C ∧ NoAttr K C f ∧ fs.lookup f = some (.tupN xs) ∧ x = .tup xs
theorem rep_unN {F : Hp} {v : V} {xs : List D} (r : Rep K F v (.tupN xs)) : Rep K F v (.tup xs) := by
  cases r with
  | tupN e _ r => exact .tup (.inl (.inr ⟨_, e⟩)) r
theorem we_fld {f : Str} {P : D → Store → Prop} (h : WE K Z te δ μ fun d μ1 => ∃ x, FldD K μ1 d f x ∧ P x μ1) : WE K Z (tFld K te f) δ μ P := fun σ F H Q s c k z =>
  h σ F H _ s c (fun v d μ1 F1 H1 ⟨x, hf, p⟩ m1 c1 r1 => by
    rcases hf with ⟨C, fs, rfl, cl, na, l⟩ | ⟨j, a, C, fs, rfl, hj, cl, na, l⟩ | ⟨C, fs, xs, rfl, cl, na, l, rfl⟩
    · cases r1 with
      | ins e r =>
        obtain ⟨w, hw, rw'⟩ := r.find l
        exact ⟨_, _, _, _, w, rfl, c1.ex _ _ e, cl, na, hw, k _ _ _ _ _ p m1 c1 rw'⟩
    · cases r1
      obtain ⟨_, dx, fv, e, r⟩ := c1.mu _ (mem_at hj)
      obtain ⟨w, hw, rw'⟩ := r.find l
      exact ⟨a, C, dx, fv, w, rfl, e, cl, na, hw, k _ _ _ _ _ p m1 c1 rw'⟩
    · cases r1 with
      | ins e r =>
        obtain ⟨w, hw, rw'⟩ := r.find l
        exact ⟨_, _, _, _, w, rfl, c1.ex _ _ e, cl, na, hw, k _ _ _ _ _ p m1 c1 (rep_unN rw')⟩) z
def putD (f : Str) (v : D) : List (Str × D) → List (Str × D)
  | [] => [(f, v)]
  | (g, x) :: r => if g = f then (g, v) :: r else (g, x) :: putD f v r
theorem repsF_put {F : Hp} {v : V} {d : D} {f : Str} (h : Rep K F v d) : ∀ {fs : List (Str × V)} {ds : List (Str × D)}, RepsF K F fs ds → RepsF K F (putF f v fs) (putD f d ds)
  | _, _, .nil => .cons h .nil
  | _, _, .cons (k := g) r rr => by
    unfold putF putD
    by_cases e : g = f
    · rw [if_pos e, if_pos e]; exact .cons h rr
    · rw [if_neg e, if_neg e]; exact .cons r (repsF_put h rr)
/-- o.f = e, o a mutable instance -/
theorem ws_fld {f : Str} {P : Fl → Store → Prop} (h : WE K Z tv δ μ fun y μ1 => WE K Z ta δ μ1 fun d μ2 => ∃ (j : Nat) (l C : Addr) (fs : List (Str × D)), d = .ref l ∧ μ2[j]? = some (l, .ins C fs) ∧ Cls K C ∧ NoAttr K C f ∧ fs.length < 900 ∧ P (.nx δ) (μ2.set j (l, .ins C (putD f y fs)))) :
    WS K Z (sFld K ta tv f) δ μ P := fun σ F H Dn s c k z =>
  h σ F H _ s c (fun v y μ1 F1 H1 p m1 c1 r1 => by
    refine p σ F1 H1 _ (s.mono m1.up) c1 (fun u d μ2 F2 H2 ⟨j, l, C, fs, e, hj, cl, na, hl, q⟩ m2 c2 r2 => ?_) (z.mv m1)
    subst e; cases r2
    obtain ⟨_, dx, fv, e, r⟩ := c2.mu _ (mem_at hj)
    refine ⟨l, C, dx, fv, rfl, e, cl, na, by rw [r.length]; omega, ?_⟩
    have rp := repsF_put (f := f) (r1.mono m2.up) r
    exact k.nx σ δ _ _ _ q ((m1.trans m2).trans (mv_set hj c2)) (cm_set hj c2 ⟨dx, _, upd_same, rp⟩) ((s.mono m1.up).mono m2.up)) z
/-! ### o[i] = e -/
theorem wg_setL {ti : TE} {d : D} {P : Env → Store → Prop} (h : WE K Z ta δ μ fun o μ1 => WE K Z ti δ μ1 fun x μ2 => ∃ (j n : Nat) (l : Addr) (xs : List D) (i : Int), o = .ref l ∧ x = .int i ∧ μ2[j]? = some (l, .lst xs) ∧ ixN xs.length i = some n ∧ P δ (μ2.set j (l, .lst (xs.set n d)))) :
    WG K Z (gSub ta ti rSetL) [] d δ μ P := fun v σ F H Q s c r k z =>
  h σ F H _ s c (fun ov o μ1 F1 H1 p m1 c1 r1 => by
    refine p σ F1 H1 _ (s.mono m1.up) c1 (fun iv x μ2 F2 H2 ⟨j, n, l, xs, i, e1, e2, hj, hn, q⟩ m2 c2 r2 => ?_) (z.mv m1)
    subst e1; subst e2; cases r1; cases r2
    obtain ⟨_, ys, e, ry⟩ := c2.mu _ (mem_at hj)
    refine ⟨l, ys, i, n, rfl, rfl, e, by rw [ry.length]; exact hn, ?_⟩
    exact k σ δ _ _ _ q ⟨fun _ _ => rfl, rfl⟩ ((m1.trans m2).trans (mv_set hj c2)) (cm_set hj c2 ⟨_, upd_same, ry.set ((r.mono m1.up).mono m2.up) n⟩) ((s.mono m1.up).mono m2.up)) z
def putKD (kvs : List (Key × D)) (k : Key) (v : D) : List (Key × D) :=
  if (kvs.any fun kv => decide (kv.1 = k)) = true then kvs.map (fun kv => if kv.1 = k then (kv.1, v) else kv) else kvs ++ [(k, v)]
theorem repsK_any {F : Hp} {k : Key} : ∀ {kvs : List (Key × V)} {ds : List (Key × D)}, RepsK K F kvs ds → (kvs.any fun kv => decide (kv.1 = k)) = ds.any fun kv => decide (kv.1 = k)
  | _, _, .nil => rfl
  | _, _, .cons _ r => by rw [List.any_cons, List.any_cons, repsK_any r]
theorem repsK_app {F : Hp} {k : Key} {v : V} {d : D} (h : Rep K F v d) : ∀ {kvs : List (Key × V)} {ds : List (Key × D)}, RepsK K F kvs ds → RepsK K F (kvs ++ [(k, v)]) (ds ++ [(k, d)])
  | _, _, .nil => .cons h .nil
  | _, _, .cons g r => .cons g (repsK_app h r)
theorem repsK_map {F : Hp} {k : Key} {v : V} {d : D} (h : Rep K F v d) : ∀ {kvs : List (Key × V)} {ds : List (Key × D)}, RepsK K F kvs ds → RepsK K F (kvs.map fun kv => if kv.1 = k then (kv.1, v) else kv) (ds.map fun kv => if kv.1 = k then (kv.1, d) else kv)
  | _, _, .nil => .nil
  | _, _, .cons (k := k') g r => by
    rw [List.map_cons, List.map_cons]
    by_cases e : k' = k
    · rw [if_pos e, if_pos e]; exact .cons h (repsK_map h r)
    · rw [if_neg e, if_neg e]; exact .cons g (repsK_map h r)
theorem repsK_put {F : Hp} {k : Key} {v : V} {d : D} (h : Rep K F v d) {kvs : List (Key × V)} {ds : List (Key × D)} (r : RepsK K F kvs ds) : RepsK K F (putK kvs k v) (putKD ds k d) := by
  unfold putK putKD
  rw [repsK_any r]
  split
  · exact repsK_map h r
  · exact repsK_app h r
theorem wg_setD {ti : TE} {d : D} {P : Env → Store → Prop} (h : WE K Z ta δ μ fun o μ1 => WE K Z ti δ μ1 fun x μ2 => ∃ (j : Nat) (l : Addr) (kvs : List (Key × D)) (kk : Key), o = .ref l ∧ keyD x = some kk ∧ μ2[j]? = some (l, .dct kvs) ∧ kvs.length ≤ 1000000 ∧ P δ (μ2.set j (l, .dct (putKD kvs kk d)))) :
    WG K Z (gSub ta ti rSetD) [] d δ μ P := fun v σ F H Q s c r k z =>
  h σ F H _ s c (fun ov o μ1 F1 H1 p m1 c1 r1 => by
    refine p σ F1 H1 _ (s.mono m1.up) c1 (fun iv x μ2 F2 H2 ⟨j, l, kvs, kk, e1, hk, hj, hl, q⟩ m2 c2 r2 => ?_) (z.mv m1)
    subst e1; cases r1
    obtain ⟨_, ys, e, ry⟩ := c2.mu _ (mem_at hj)
    have ek := key_rep r2 hk
    subst ek
    refine ⟨l, _, rfl, DPut.k e (by rw [ry.length]; exact Nat.lt_of_le_of_lt hl (by decide)), ?_⟩
    exact k σ δ _ _ _ q ⟨fun _ _ => rfl, rfl⟩ ((m1.trans m2).trans (mv_set hj c2)) (cm_set hj c2 ⟨_, upd_same, repsK_put ((r.mono m1.up).mono m2.up) ry⟩) ((s.mono m1.up).mono m2.up)) z
/-! ### slices -/
theorem wo_none {P : Option Int → Store → Prop} (p : P none μ) : WO K Z tNoPart δ μ P := fun σ F H Q s c k z => k none μ F H p (Mv.refl ..) c
theorem wo_some {P : Option Int → Store → Prop} (h : WE K Z te δ μ fun d μ1 => ∃ i, d = .int i ∧ P (some i) μ1) : WO K Z (tPart te) δ μ P := fun σ F H Q s c k z =>
  h σ F H _ s c (fun v d μ1 F1 H1 ⟨i, e, p⟩ m1 c1 r1 => by subst e; cases r1; exact ⟨i, rfl, k _ _ _ _ p m1 c1⟩) z
def WSl (K : PySem.W.Frag) (Z : Wish) (r : V → Option Int → Option Int → Hp → VK → Prop) (x : D) (lo hi : Option Int) (μ : Store) (P : D → Store → Prop) : Prop :=
  ∀ v F H Q, Cm K F H μ → Rep K F v x → (∀ w d μ' F' H', P d μ' → Mv μ F H μ' F' H' → Cm K F' H' μ' → Rep K F' w d → Q w H') → ZK K Z μ F H → r v lo hi H Q
theorem we_sl {r : V → Option Int → Option Int → Hp → VK → Prop} {tl th : TO} {P : D → Store → Prop} (h : WE K Z te δ μ fun x μ1 => WO K Z tl δ μ1 fun lo μ2 => WO K Z th δ μ2 fun hi μ3 => WSl K Z r x lo hi μ3 P) : WE K Z (tSl r te tl th) δ μ P := fun σ F H Q s c k z => by
  refine h σ F H _ s c (fun v x μ1 F1 H1 p m1 c1 r1 => ?_) z
  refine p σ F1 H1 _ (s.mono m1.up) c1 (fun lo μ2 F2 H2 p2 m2 c2 => ?_) (z.mv m1)
  refine p2 σ F2 H2 _ ((s.mono m1.up).mono m2.up) c2 (fun hi μ3 F3 H3 p3 m3 c3 => ?_) ((z.mv m1).mv m2)
  exact p3 v F3 H3 Q c3 ((r1.mono m2.up).mono m3.up) (fun w d μ' F' H' q m4 c4 r4 => k w d μ' F' H' q (((m1.trans m2).trans m3).trans m4) c4 r4) (((z.mv m1).mv m2).mv m3)
def cutD (xs : List D) (lo hi : Option Int) : List D := (xs.drop (HT.sIx xs.length 0 lo)).take (HT.sIx xs.length xs.length hi - HT.sIx xs.length 0 lo)
theorem cut_rep {F : Hp} {vs : List V} {ds : List D} {lo hi : Option Int} (r : Reps K F vs ds) : Reps K F (cutV vs lo hi) (cutD ds lo hi) := by
  unfold cutV cutD
  rw [r.length]
  exact (r.drop _).take _
theorem wsl_lst {xs : List D} {lo hi : Option Int} {P : D → Store → Prop} (p : P (.lst (cutD xs lo hi)) μ) : WSl K Z (rSlA K) (.lst xs) lo hi μ P := fun v F H Q c r k z => by
  obtain ⟨a, ys, e0, e, ry⟩ := rep_ll r
  subst e0
  refine .inl (.inl ⟨a, ys, rfl, sq_list c.ex e, fun q n => ?_⟩)
  have m := mv_new (o := .lst (cutV ys lo hi)) c n
  exact k _ _ _ _ _ p m (cm_new c n) (.lst upd_same ((cut_rep ry).mono m.up))
theorem wsl_scr {xs : List D} {lo hi : Option Int} {P : D → Store → Prop} (p : P (.lst (cutD xs lo hi)) μ) : WSl K Z (rSlA K) (.scr xs) lo hi μ P := fun v F H Q c r k z => by
  cases r with
  | @scr a ys _ e ry =>
    refine .inl (.inl ⟨a, ys, rfl, same_l c.ex e, fun q n => ?_⟩)
    have m := mv_new (o := .lst (cutV ys lo hi)) c n
    exact k _ _ _ _ _ p m (cm_new c n) (.lst upd_same ((cut_rep ry).mono m.up))
/-- a tuple's slice that is not the whole -/
theorem wsl_tup {xs : List D} {lo hi : Option Int} {P : D → Store → Prop} (h : ¬ (HT.sIx xs.length 0 lo = 0 ∧ HT.sIx xs.length xs.length hi = xs.length)) (p : P (.tup (cutD xs lo hi)) μ) : WSl K Z (rSlA K) (.tup xs) lo hi μ P := fun v F H Q c r k z => by
  obtain ⟨a, ys, e0, e, ry⟩ := rep_tt r
  subst e0
  refine .inl (.inr ⟨a, ys, rfl, same_t c.ex e, by rw [ry.length]; exact h, fun q n => ?_⟩)
  have m := mv_new (o := .tup (cutV ys lo hi)) c n
  exact k _ _ _ _ _ p m (cm_new c n) (.tup (SqT.of upd_same) ((cut_rep ry).mono m.up))
theorem wsl_str {s : Str} {lo hi : Option Int} {P : D → Store → Prop} (h : s.length ≤ 100000) (p : P (.str (cutS s lo hi)) μ) : WSl K Z (rSlA K) (.str s) lo hi μ P := fun v F H Q c r k z => by
  cases r
  exact .inr ⟨s, rfl, Nat.le_trans h (by decide), k _ _ _ _ _ p (Mv.refl ..) c (.str _)⟩
end
section
variable {X : Cx}
theorem PSet.or {t u : TSet} (h : PSet X t) (h' : PSet X u) : PSet X (fun o i v H Q => t o i v H Q ∨ u o i v H Q) := by
  intro pins s σ H o i v ov iv w Q I r1 r2 r3 q
  rcases q with q | q
  · exact h pins s σ H o i v ov iv w Q I r1 r2 r3 q
  · exact h' pins s σ H o i v ov iv w Q I r1 r2 r3 q
end
end VL
set_option Elab.async false
set_option linter.all false
set_option maxRecDepth 100000
set_option maxHeartbeats 4000000
/-! VL5: rules on the syntax itself. -/
namespace VL
open PySem PySem.Spec PyProof.Rows L2

section
variable (X : Cx)
/-- the readings that say no more than the semantics -/
def rE (e : Expr) : TE := fun σ H Q => ∀ (pins : List (Addr × Obj)) (s : Shared), Inv X pins σ H s → wpAny (model X.prog X.w) X.A (eval e X.env) (EP X pins σ Q) X.xe s
def rT (e : Expr) : TT := fun σ H Q => ∀ (pins : List (Addr × Obj)) (s : Shared), Inv X pins σ H s → wpAny (model X.prog X.w) X.A (isTrue e X.env (eval e X.env)) (TP X pins σ Q) X.xe s
def rW (e : Expr) : TT := fun σ H Q => ∀ (whole : Sem Value) (pins : List (Addr × Obj)) (s : Shared), Inv X pins σ H s → wpAny (model X.prog X.w) X.A (isTrue e X.env whole) (TP X pins σ Q) X.xe s
def rA (es : List Expr) : TA := fun σ H Q => ∀ (pos : Pos) (pins : List (Addr × Obj)) (s : Shared), Inv X pins σ H s → wpAny (model X.prog X.w) X.A (spliced (backTo pos (starEach es X.env))) (AP X pins σ Q) X.xe s
def rO (e : Option Expr) : TO := fun σ H Q => ∀ (pins : List (Addr × Obj)) (s : Shared), Inv X pins σ H s → wpAny (model X.prog X.w) X.A (evalPart e X.env) (fun u s' => ∃ o H', Inv X pins σ H' s' ∧ IsPart u o ∧ Q o H') X.xe s
def rS (st : Stmt) : TS := fun Dn σ H => ∀ (pins : List (Addr × Obj)) (s : Shared), Inv X pins σ H s → wpAny (model X.prog X.w) X.A (exec st X.env) (SP X pins Dn) X.xe s
def rSs (st : List Stmt) : TS := fun Dn σ H => ∀ (pins : List (Addr × Obj)) (s : Shared), Inv X pins σ H s → wpAny (model X.prog X.w) X.A (execs st X.env) (SP X pins Dn) X.xe s
def rG (tg : Expr) : TG := fun v σ H Q => ∀ (pins : List (Addr × Obj)) (s : Shared) (u : Value), Inv X pins σ H s → RelV v u → wpAny (model X.prog X.w) X.A (assign tg X.env u) (fun _ s' => ∃ σ' H', Inv X pins σ' H' s' ∧ Q σ' H') X.xe s
def rGs (ts : List Expr) : TGs := fun vs σ H Q => ∀ (pins : List (Addr × Obj)) (s : Shared) (us : List Value), Inv X pins σ H s → Vals vs us → wpAny (model X.prog X.w) X.A (assignInOrder ((assignEach ts X.env).map (·.2)) us) (fun _ s' => ∃ σ' H', Inv X pins σ' H' s' ∧ Q σ' H') X.xe s
def rIt (tg iter : Expr) : TI := fun σ H R => ∀ (pins : List (Addr × Obj)) (s : Shared), Inv X pins σ H s → wpAny (model X.prog X.w) X.A (eval iter X.env) (fun v s1 => wpAny (model X.prog X.w) X.A (pyIter v) (PIE X pins σ tg R) X.xe s1) X.xe s
def rIf (ifs : List Expr) : TT := fun σ H Q => ∀ (pins : List (Addr × Obj)) (s : Shared), Inv X pins σ H s →
    wpAny (model X.prog X.w) X.A (forIn ifs true fun c r => if r = true then do let ok ← isTrue c X.env (eval c X.env); pure (ForInStep.yield ok) else pure (ForInStep.yield r)) (TP X pins σ Q) X.xe s
end
section
variable {X : Cx} {Z : Wish} {δ : Env} {μ : Store}
theorem pe_r {e : Expr} : PE X e (rE X e) := ⟨fun pins s σ H Q I h => h pins s I⟩
theorem pt_r {e : Expr} : PT X e (rT X e) := ⟨fun pins s σ H Q I h => h pins s I⟩
theorem pw_r {e : Expr} : PW X e (rW X e) := ⟨fun wh pins s σ H Q I h => h wh pins s I⟩
theorem pa_r {e : List Expr} : PA X e (rA X e) := ⟨fun pos pins s σ H Q I h => h pos pins s I⟩
theorem po_r {e : Option Expr} : PO X e (rO X e) := ⟨fun pins s σ H Q I h => h pins s I⟩
theorem ps_r {e : Stmt} : PS X e (rS X e) := ⟨fun pins s σ H Dn I h => h pins s I⟩
theorem pss_r {e : List Stmt} : PSs X e (rSs X e) := ⟨fun pins s σ H Dn I h => h pins s I⟩
theorem pg_r {e : Expr} : PG X e (rG X e) := ⟨fun pins s σ H v u Q I r h => h pins s u I r⟩
theorem pgs_r {e : List Expr} : PGs X e (rGs X e) := ⟨fun pins s σ H vs us Q I r h => h pins s us I r⟩
theorem pi_r {tg e : Expr} : PI X tg e (rIt X tg e) := ⟨fun pins s σ H R I h => h pins s I⟩
theorem pif_r {e : List Expr} : PTs X e (rIf X e) := ⟨fun pins s σ H Q I h => h pins s I⟩

abbrev VE (X : Cx) (Z : Wish) (e : Expr) (δ : Env) (μ : Store) (P : D → Store → Prop) : Prop := WE X.K Z (rE X e) δ μ P
abbrev VT (X : Cx) (Z : Wish) (e : Expr) (δ : Env) (μ : Store) (P : Bool → Store → Prop) : Prop := WT X.K Z (rT X e) δ μ P
abbrev VW (X : Cx) (Z : Wish) (e : Expr) (δ : Env) (μ : Store) (P : Bool → Store → Prop) : Prop := WT X.K Z (rW X e) δ μ P
abbrev VA (X : Cx) (Z : Wish) (e : List Expr) (δ : Env) (μ : Store) (P : List D → Store → Prop) : Prop := WA X.K Z (rA X e) δ μ P
abbrev VO (X : Cx) (Z : Wish) (e : Option Expr) (δ : Env) (μ : Store) (P : Option Int → Store → Prop) : Prop := WO X.K Z (rO X e) δ μ P
abbrev VS (X : Cx) (Z : Wish) (e : Stmt) (δ : Env) (μ : Store) (P : Fl → Store → Prop) : Prop := WS X.K Z (rS X e) δ μ P
abbrev VSs (X : Cx) (Z : Wish) (e : List Stmt) (δ : Env) (μ : Store) (P : Fl → Store → Prop) : Prop := WS X.K Z (rSs X e) δ μ P
abbrev VG (X : Cx) (Z : Wish) (e : Expr) (js : List Nat) (d : D) (δ : Env) (μ : Store) (P : Env → Store → Prop) : Prop := WG X.K Z (rG X e) js d δ μ P
abbrev VGs (X : Cx) (Z : Wish) (e : List Expr) (js : List Nat) (d : List D) (δ : Env) (μ : Store) (P : Env → Store → Prop) : Prop := WGs X.K Z (rGs X e) js d δ μ P
abbrev VI (X : Cx) (Z : Wish) (tg e : Expr) (δ : Env) (μ : Store) (P : List D → Store → Prop) : Prop := WI X.K Z (rIt X tg e) δ μ P
abbrev VIf (X : Cx) (Z : Wish) (e : List Expr) (δ : Env) (μ : Store) (P : Bool → Store → Prop) : Prop := WT X.K Z (rIf X e) δ μ P

theorem ve_of {e : Expr} {t : TE} {P : D → Store → Prop} (h : PE X e t) (w : WE X.K Z t δ μ P) : VE X Z e δ μ P := fun σ F H Q s c k z pins st I => h.run pins st σ H Q I (w σ F H Q s c k z)
theorem vt_of {e : Expr} {t : TT} {P : Bool → Store → Prop} (h : PT X e t) (w : WT X.K Z t δ μ P) : VT X Z e δ μ P := fun σ F H Q s c k z pins st I => h.run pins st σ H Q I (w σ F H Q s c k z)
theorem vw_of {e : Expr} {t : TT} {P : Bool → Store → Prop} (h : PW X e t) (w : WT X.K Z t δ μ P) : VW X Z e δ μ P := fun σ F H Q s c k z wh pins st I => h.run wh pins st σ H Q I (w σ F H Q s c k z)
theorem va_of {e : List Expr} {t : TA} {P : List D → Store → Prop} (h : PA X e t) (w : WA X.K Z t δ μ P) : VA X Z e δ μ P := fun σ F H Q s c k z pos pins st I => h.run pos pins st σ H Q I (w σ F H Q s c k z)
theorem vo_of {e : Option Expr} {t : TO} {P : Option Int → Store → Prop} (h : PO X e t) (w : WO X.K Z t δ μ P) : VO X Z e δ μ P := fun σ F H Q s c k z pins st I => h.run pins st σ H Q I (w σ F H Q s c k z)
theorem vs_of {e : Stmt} {t : TS} {P : Fl → Store → Prop} (h : PS X e t) (w : WS X.K Z t δ μ P) : VS X Z e δ μ P := fun σ F H Dn s c k z pins st I => h.run pins st σ H Dn I (w σ F H Dn s c k z)
theorem vss_of {e : List Stmt} {t : TS} {P : Fl → Store → Prop} (h : PSs X e t) (w : WS X.K Z t δ μ P) : VSs X Z e δ μ P := fun σ F H Dn s c k z pins st I => h.run pins st σ H Dn I (w σ F H Dn s c k z)
theorem vg_of {e : Expr} {t : TG} {js : List Nat} {d : D} {P : Env → Store → Prop} (h : PG X e t) (w : WG X.K Z t js d δ μ P) : VG X Z e js d δ μ P := fun v σ F H Q s c r k z pins st u I ru => h.run pins st σ H v u Q I ru (w v σ F H Q s c r k z)
theorem vgs_of {e : List Expr} {t : TGs} {js : List Nat} {d : List D} {P : Env → Store → Prop} (h : PGs X e t) (w : WGs X.K Z t js d δ μ P) : VGs X Z e js d δ μ P := fun v σ F H Q s c r k z pins st u I ru => h.run pins st σ H v u Q I ru (w v σ F H Q s c r k z)
theorem vi_of {tg e : Expr} {t : TI} {P : List D → Store → Prop} (h : PI X tg e t) (w : WI X.K Z t δ μ P) : VI X Z tg e δ μ P := fun σ F H Q s c k z pins st I => h.run pins st σ H Q I (w σ F H Q s c k z)
theorem vif_of {e : List Expr} {t : TT} {P : Bool → Store → Prop} (h : PTs X e t) (w : WT X.K Z t δ μ P) : VIf X Z e δ μ P := fun σ F H Q s c k z pins st I => h.run pins st σ H Q I (w σ F H Q s c k z)

/-! ### names, constants -/
/-- the slot of a name, looked up -/
def lookN : List Str → Env → Str → Option D
  | n :: N, o :: δ, x => if n = x then o else lookN N δ x
  | _, _, _ => none
theorem lookN_at : ∀ {N : List Str} {δ : Env} {x : Str} {d : D}, lookN N δ x = some d → ∃ i : Nat, N[i]? = some x ∧ δ[i]? = some (some d)
  | [], _, _, _, h => by simp [lookN] at h
  | _ :: _, [], _, _, h => by simp [lookN] at h
  | n :: N, o :: δ, x, d, h => by
    unfold lookN at h
    by_cases e : n = x
    · rw [if_pos e] at h; subst e; subst h; exact ⟨0, rfl, rfl⟩
    · rw [if_neg e] at h
      obtain ⟨i, h1, h2⟩ := lookN_at h
      exact ⟨i + 1, h1, h2⟩
variable {e a b c o : Expr} {es rest : List Expr} {pos p apos pos' : Pos} {x f nm : Str}
theorem ve_name (i : Nat) {d : D} {P : D → Store → Prop} (q : P d μ) (hN : (X.N : List Str)[i]? = some x := by rfl) (hd : (δ : List (Option D))[i]? = some (some d) := by rfl) (hv : Vis X.env.scope x := by first | exact Or.inl rfl | exact Or.inr (Or.inl rfl) | exact Or.inr (Or.inr rfl)) (h1 : (x == ("__debug__" : Str)) = false := by decide) (h2 : (x == ("__classdict__" : Str)) = false := by decide) :
    VE X Z (.Name x pos) δ μ P := ve_of (pe_var hN hv h1 h2) (we_var hd q)
theorem ve_glob {v : V} {u : Value} {d : D} {P : D → Store → Prop} (hm : X.mg x = some u) (r : RelV v u) (hv : ∀ F, Rep X.K F v d) (q : P d μ) (hg : Gl X x := by rfl) (hd : (x == ("__debug__" : Str)) = false := by decide) : VE X Z (.Name x pos) δ μ P := ve_of (pe_glob hg hm r hd) (we_c hv q)
theorem ve_bty {n : String} {P : D → Store → Prop} (hm : X.mg x = none) (q : P (.ty n) μ) (hv : bootBuiltins x = some (.type n) := by decide +kernel) (hg : Gl X x := by rfl) (hn : x ≠ "__name__" := by decide) (hd : (x == ("__debug__" : Str)) = false := by decide) : VE X Z (.Name x pos) δ μ P :=
  ve_of (pe_bltn hg hm hv (show RelV (.ty n) (.type n) from rfl) hn hd) (we_c (fun F => .ty n) q)
theorem ve_int {i : Int} {j} {P : D → Store → Prop} (q : P (.int i) μ) : VE X Z (.Constant (.int i) j pos) δ μ P := ve_of pe_int (we_c (fun F => .int i) q)
theorem ve_bl {i : Bool} {j} {P : D → Store → Prop} (q : P (.bl i) μ) : VE X Z (.Constant (.bool i) j pos) δ μ P := ve_of pe_bl (we_c (fun F => .bl i) q)
theorem ve_non {j} {P : D → Store → Prop} (q : P .non μ) : VE X Z (.Constant .none j pos) δ μ P := ve_of pe_non (we_c (fun F => .non) q)
theorem ve_str {i : Str} {j} {P : D → Store → Prop} (q : P (.str i) μ) : VE X Z (.Constant (.str i) j pos) δ μ P := ve_of pe_str (we_c (fun F => .str i) q)
/-! ### operators -/
theorem ve_add {P : D → Store → Prop} (h : VE X Z a δ μ fun x μ1 => VE X Z b δ μ1 fun y μ2 => WOp X.K Z (rAddU X.K) x y μ2 P) : VE X Z (.BinOp a .Add b pos) δ μ P := ve_of (pe_op op_addU pe_r pe_r) (we_op h)
theorem ve_sub {P : D → Store → Prop} (h : VE X Z a δ μ fun x μ1 => VE X Z b δ μ1 fun y μ2 => WOp X.K Z (rI0 fun i j => .int (i - j)) x y μ2 P) : VE X Z (.BinOp a .Sub b pos) δ μ P := ve_of (pe_op op_sub pe_r pe_r) (we_op h)
theorem ve_mul {P : D → Store → Prop} (h : VE X Z a δ μ fun x μ1 => VE X Z b δ μ1 fun y μ2 => WOp X.K Z rMulU x y μ2 P) : VE X Z (.BinOp a .Mult b pos) δ μ P := ve_of (pe_op op_mulU pe_r pe_r) (we_op h)
theorem ve_fdiv {P : D → Store → Prop} (h : VE X Z a δ μ fun x μ1 => VE X Z b δ μ1 fun y μ2 => WOp X.K Z (rI CDiv fun i j => .int (i / j)) x y μ2 P) : VE X Z (.BinOp a .FloorDiv b pos) δ μ P := ve_of (pe_op op_fdiv pe_r pe_r) (we_op h)
theorem ve_mod {P : D → Store → Prop} (h : VE X Z a δ μ fun x μ1 => VE X Z b δ μ1 fun y μ2 => WOp X.K Z (rI (fun _ j => 0 < j) fun i j => .int (i % j)) x y μ2 P) : VE X Z (.BinOp a .Mod b pos) δ μ P := ve_of (pe_op op_mod pe_r pe_r) (we_op h)
theorem ve_pow {P : D → Store → Prop} (h : VE X Z a δ μ fun x μ1 => VE X Z b δ μ1 fun y μ2 => WOp X.K Z (rI CPow fun i j => .int (i ^ j.toNat)) x y μ2 P) : VE X Z (.BinOp a .Pow b pos) δ μ P := ve_of (pe_op op_pow pe_r pe_r) (we_op h)
theorem ve_shl {P : D → Store → Prop} (h : VE X Z a δ μ fun x μ1 => VE X Z b δ μ1 fun y μ2 => WOp X.K Z (rI CPow fun i j => .int (i * 2 ^ j.toNat)) x y μ2 P) : VE X Z (.BinOp a .LShift b pos) δ μ P := ve_of (pe_op op_shl pe_r pe_r) (we_op h)
theorem ve_shr {P : D → Store → Prop} (h : VE X Z a δ μ fun x μ1 => VE X Z b δ μ1 fun y μ2 => WOp X.K Z (rI (fun _ j => 0 ≤ j) fun i j => .int (i / 2 ^ j.toNat)) x y μ2 P) : VE X Z (.BinOp a .RShift b pos) δ μ P := ve_of (pe_op op_shr pe_r pe_r) (we_op h)
theorem ve_band {P : D → Store → Prop} (h : VE X Z a δ μ fun x μ1 => VE X Z b δ μ1 fun y μ2 => WOp X.K Z (rI0 fun i j => .int (Builtin.bitAnd i j)) x y μ2 P) : VE X Z (.BinOp a .BitAnd b pos) δ μ P := ve_of (pe_op op_and pe_r pe_r) (we_op h)
theorem ve_bor {P : D → Store → Prop} (h : VE X Z a δ μ fun x μ1 => VE X Z b δ μ1 fun y μ2 => WOp X.K Z (rI0 fun i j => .int (Builtin.bitOr i j)) x y μ2 P) : VE X Z (.BinOp a .BitOr b pos) δ μ P := ve_of (pe_op op_or pe_r pe_r) (we_op h)
theorem ve_neg {P : D → Store → Prop} (h : VE X Z a δ μ fun x μ1 => WUn X.K Z (rU fun i => .int (-i)) x μ1 P) : VE X Z (.UnaryOp .USub a pos) δ μ P := ve_of (pe_un un_neg pe_r) (we_un h)
theorem wun_neg {K : PySem.W.Frag} {i : Int} {P : D → Store → Prop} (p : P (.int (-i)) μ) : WUn K Z (rU fun i => .int (-i)) (.int i) μ P :=
  wun_sc (w := .int (-i)) (fun F => .int _) (fun v F H Q c r q => by cases r; exact ⟨i, rfl, q⟩) p
/-! ### comparisons -/
/-- which rule answers op; r, its reading -/
inductive CmpR (X : Cx) : CmpOp → R2 → Prop where
  | eq (hu : X.A.units + 64 < cLine) : CmpR X .Eq (rEqD X.K)
  | ne (hu : X.A.units + 64 < cLine) : CmpR X .NotEq (rNeD X.K)
  | lt : CmpR X .Lt (rI0 fun i j => .bl (decide (i < j)))
  | le : CmpR X .LtE (rI0 fun i j => .bl (decide (i ≤ j)))
  | gt : CmpR X .Gt (rI0 fun i j => .bl (decide (j < i)))
  | ge : CmpR X .GtE (rI0 fun i j => .bl (decide (j ≤ i)))
  | ltD (hu : X.A.units + 64 < cLine) : CmpR X .Lt (rLtD X.K)
  | isIn (hu : X.A.units + 65 < cLine) : CmpR X .In (rInA X.K)
  | notIn (hu : X.A.units + 65 < cLine) : CmpR X .NotIn (rNotInA X.K)
  | is : CmpR X .Is rIsA
  | isNot : CmpR X .IsNot rNotA
  | of {op : CmpOp} {r : R2} (h : OpR X (compareOp op) r) : CmpR X op r
theorem CmpR.op {op : CmpOp} {r : R2} (h : CmpR X op r) : OpR X (compareOp op) r := by
  cases h with
  | eq hu => exact op_eqD hu
  | ne hu => exact op_neD hu
  | lt => exact op_lt
  | le => exact op_le
  | gt => exact op_gt
  | ge => exact op_ge
  | ltD hu => exact op_ltD hu
  | isIn hu => exact op_inA hu
  | notIn hu => exact op_notInA hu
  | is => exact op_isA
  | isNot => exact op_notA
  | of h => exact h
theorem ve_cmp {op : CmpOp} {r : R2} {P : D → Store → Prop} (hc : CmpR X op r) (h : VE X Z a δ μ fun x μ1 => VE X Z b δ μ1 fun y μ2 => WOp X.K Z r x y μ2 P) (hm : behindInMarks op b = false := by first | exact nomark _ | rfl) : VE X Z (.Compare a [op] [b] pos) δ μ P := ve_of (pe_cmpR hc.op pe_r pe_r hm) (we_op h)
theorem vt_cmp {op : CmpOp} {r : R2} {P : Bool → Store → Prop} (hc : CmpR X op r) (h : VE X Z a δ μ fun x μ1 => VE X Z b δ μ1 fun y μ2 => WOp X.K Z r x y μ2 fun d μ3 => ∃ k, d = .bl k ∧ P k μ3) (hm : behindInMarks op b = false := by first | exact nomark _ | rfl) : VT X Z (.Compare a [op] [b] pos) δ μ P := vt_of (pt_cmpR hc.op pe_r pe_r hm) (wt_test (we_op h))
theorem we_chain {K : PySem.W.Frag} {r r' : R2} {ta tb tc : TE} {P : D → Store → Prop} (h : WE K Z ta δ μ fun x μ1 => WE K Z tb δ μ1 fun y μ2 => WOp K Z r x y μ2 fun d μ3 => ∃ k, d = .bl k ∧ if k = true then WE K Z tc δ μ3 fun w μ4 => WOp K Z r' y w μ4 P else P (.bl false) μ3) : WE K Z (tChain r r' ta tb tc) δ μ P := fun σ F H Q s c k z => by
  refine h σ F H _ s c (fun v x μ1 F1 H1 h1 m1 c1 r1 => ?_) z
  refine h1 σ F1 H1 _ (s.mono m1.up) c1 (fun u y μ2 F2 H2 h2 m2 c2 r2 => ?_) (z.mv m1)
  refine h2 v u F2 H2 _ c2 (r1.mono m2.up) r2 (fun w d μ3 F3 H3 ⟨kk, e, q⟩ m3 c3 r3 => ?_) ((z.mv m1).mv m2)
  subst e; cases r3
  refine ⟨kk, rfl, ?_⟩
  have m := (m1.trans m2).trans m3
  cases kk with
  | false => exact k _ _ _ _ _ q m c3 (.bl false)
  | true =>
    refine q σ F3 H3 _ (s.mono m.up) c3 (fun w y' μ4 F4 H4 h4 m4 c4 r4 => ?_) (z.mv m)
    exact h4 u w F4 H4 Q c4 ((r2.mono m3.up).mono m4.up) r4 (fun w d μ' F' H' p m5 c5 r5 => k w d μ' F' H' p ((m.trans m4).trans m5) c5 r5) ((z.mv m).mv m4)
theorem ve_chain {op op' : CmpOp} {r r' : R2} {P : D → Store → Prop} (hc : CmpR X op r) (hc' : CmpR X op' r') (h : VE X Z a δ μ fun x μ1 => VE X Z b δ μ1 fun y μ2 => WOp X.K Z r x y μ2 fun d μ3 => ∃ k, d = .bl k ∧ if k = true then VE X Z c δ μ3 fun w μ4 => WOp X.K Z r' y w μ4 P else P (.bl false) μ3) (hm : lastMarks [op, op'] [b, c] = false := by with_unfolding_all rfl) :
    VE X Z (.Compare a [op, op'] [b, c] pos) δ μ P := ve_of (pe_chain hc.op hc'.op pe_r pe_r pe_r hm) (we_chain h)
theorem vt_chain {op op' : CmpOp} {r r' : R2} {P : Bool → Store → Prop} (hc : CmpR X op r) (hc' : CmpR X op' r') (h : VE X Z a δ μ fun x μ1 => VE X Z b δ μ1 fun y μ2 => WOp X.K Z r x y μ2 fun d μ3 => ∃ k, d = .bl k ∧ if k = true then VE X Z c δ μ3 fun w μ4 => WOp X.K Z r' y w μ4 fun d μ5 => ∃ k, d = .bl k ∧ P k μ5 else P false μ3) (hm : lastMarks [op, op'] [b, c] = false := by with_unfolding_all rfl) :
    VT X Z (.Compare a [op, op'] [b, c] pos) δ μ P := vt_of (pt_chain hc.op hc'.op pe_r pe_r pe_r hm) (wt_test (we_chain (h.imp fun x μ1 h1 => h1.imp fun y μ2 h2 v u F H Q c r1 r2 k z => h2 v u F H Q c r1 r2 (fun w d μ' F' H' ⟨kk, e, q⟩ m c' r' => k w d μ' F' H' ⟨kk, e, by
      cases kk with
      | true => exact q
      | false => exact ⟨false, rfl, q⟩⟩ m c' r') z)))
/-! ### tests -/
theorem vt_val {P : Bool → Store → Prop} (h : VE X Z a δ μ fun d μ1 => ∃ b, d = .bl b ∧ P b μ1) (he : ∀ whole, isTrue a X.env whole = (do let v ← whole; standAt a.pos; holding [v] (truthy v)) := by intro _; rfl) : VT X Z a δ μ P := vt_of (pt_val pe_r he) (wt_B h)
theorem vt_tru {P : Bool → Store → Prop} (h : VE X Z a δ μ fun d μ1 => ∃ b, tru d = some b ∧ P b μ1) (he : ∀ whole, isTrue a X.env whole = (do let v ← whole; standAt a.pos; holding [v] (truthy v)) := by intro _; rfl) : VT X Z a δ μ P := vt_of (pt_truth pe_r he) (wt_tru h)
theorem vt_not {P : Bool → Store → Prop} (h : VT X Z a δ μ fun b μ1 => P (!b) μ1) : VT X Z (.UnaryOp .Not a pos) δ μ P := vt_of (pt_not pt_r) (wt_not h)
theorem vt_w {P : Bool → Store → Prop} (h : VW X Z a δ μ P) : VT X Z a δ μ P := vt_of pw_r.pt h
theorem vw_and1 {P : Bool → Store → Prop} (h : VT X Z a δ μ P) : VW X Z (.BoolOp .And [a] pos) δ μ P := vw_of (pw_and1 pt_r) h
theorem vw_or1 {P : Bool → Store → Prop} (h : VT X Z a δ μ P) : VW X Z (.BoolOp .Or [a] pos) δ μ P := vw_of (pw_or1 pt_r) h
theorem vw_and {P : Bool → Store → Prop} (h : VT X Z a δ μ fun k μ1 => if k = true then VW X Z (.BoolOp .And (b :: rest) pos) δ μ1 P else P false μ1) : VW X Z (.BoolOp .And (a :: b :: rest) pos) δ μ P := vw_of (pw_and pt_r pw_r) (wt_and h)
theorem vw_or {P : Bool → Store → Prop} (h : VT X Z a δ μ fun k μ1 => if k = true then P true μ1 else VW X Z (.BoolOp .Or (b :: rest) pos) δ μ1 P) : VW X Z (.BoolOp .Or (a :: b :: rest) pos) δ μ P := vw_of (pw_or pt_r pw_r) (wt_or h)
theorem ve_one {op} {P : D → Store → Prop} (h : VE X Z a δ μ P) : VE X Z (.BoolOp op [a] pos) δ μ P := ve_of (pe_one pe_r) h
theorem ve_and {P : D → Store → Prop} (h : VE X Z a δ μ fun d μ1 => ∃ k, d = .bl k ∧ if k = true then VE X Z (.BoolOp .And (b :: rest) pos) δ μ1 P else P (.bl false) μ1) : VE X Z (.BoolOp .And (a :: b :: rest) pos) δ μ P := ve_of (pe_and pe_r pe_r) (we_andV h)
theorem ve_or {P : D → Store → Prop} (h : VE X Z a δ μ fun d μ1 => ∃ k, d = .bl k ∧ if k = true then P (.bl true) μ1 else VE X Z (.BoolOp .Or (b :: rest) pos) δ μ1 P) : VE X Z (.BoolOp .Or (a :: b :: rest) pos) δ μ P := ve_of (pe_or pe_r pe_r) (we_orV h)
theorem ve_not {P : D → Store → Prop} (h : VE X Z a δ μ fun d μ1 => ∃ k, d = .bl k ∧ P (.bl (!k)) μ1) : VE X Z (.UnaryOp .Not a pos) δ μ P := ve_of (pe_not pe_r) (we_notV h)
theorem ve_if {P : D → Store → Prop} (h : VT X Z c δ μ fun k μ1 => if k = true then VE X Z a δ μ1 P else VE X Z b δ μ1 P) : VE X Z (.IfExp c a b pos) δ μ P := ve_of (pe_ifExp pt_r pe_r pe_r) (we_if h)
/-! ### arguments, displays -/
theorem va_nil {P : List D → Store → Prop} (q : P [] μ) : VA X Z [] δ μ P := va_of pa_nil (wa_nil q)
theorem va_cons {P : List D → Store → Prop} (h : VE X Z e δ μ fun x μ1 => VA X Z es δ μ1 fun xs μ2 => P (x :: xs) μ2) (hs : starEach (e :: es) X.env = (false, eval e X.env) :: starEach es X.env := by rfl) : VA X Z (e :: es) δ μ P := va_of (pa_cons pe_r pa_r hs) (wa_cons h)
theorem ve_tup {k} {P : D → Store → Prop} (h : VA X Z es δ μ fun xs μ1 => xs.length ≤ 100000 ∧ P (.tup xs) μ1) : VE X Z (.Tuple es k pos) δ μ P := ve_of (pe_tup pa_r) (we_tup h)
theorem ve_lst {P : D → Store → Prop} (h : VA X Z es δ μ fun xs μ1 => xs.length ≤ 100000 ∧ P (.lst xs) μ1) : VE X Z (.List es pos) δ μ P := ve_of (pe_lst pa_r) (we_lst h)
theorem ve_lstM {P : D → Store → Prop} (h : VA X Z es δ μ fun xs μ1 => xs.length ≤ 100000 ∧ ∀ l, P (.ref l) (μ1 ++ [(l, .lst xs)])) : VE X Z (.List es pos) δ μ P := ve_of (pe_lst pa_r) (we_lstM h)
/-! ### subscripts, slices, attributes -/
theorem ve_ix {P : D → Store → Prop} (hu : X.A.units + 1 < cLine) (h : VE X Z a δ μ fun x μ1 => VE X Z b δ μ1 fun y μ2 => WOp X.K Z (rIxA X.K) x y μ2 P) (hs : PlainIx b := by exact fun _ _ => rfl) : VE X Z (.Subscript a b pos) δ μ P := ve_of (pe_ix (ix_all hu) pe_r pe_r hs) (we_op h)
theorem vo_none {P : Option Int → Store → Prop} (q : P none μ) : VO X Z none δ μ P := vo_of po_none (wo_none q)
theorem vo_some {P : Option Int → Store → Prop} (h : VE X Z e δ μ fun d μ1 => ∃ i, d = .int i ∧ P (some i) μ1) : VO X Z (some e) δ μ P := vo_of (po_some pe_r) (wo_some h)
theorem ve_slice {lo hi : Option Expr} {p2 : Pos} {P : D → Store → Prop} (h : VE X Z e δ μ fun x μ1 => VO X Z lo δ μ1 fun l μ2 => VO X Z hi δ μ2 fun u μ3 => WSl X.K Z (rSlA X.K) x l u μ3 P) : VE X Z (.Subscript e (.Slice lo hi none p2) pos) δ μ P := ve_of (pe_slice sl_all pe_r po_r po_r) (we_sl h)
theorem ve_fld {P : D → Store → Prop} (h : VE X Z e δ μ fun d μ1 => ∃ x, FldD X.K μ1 d f x ∧ P x μ1) (hb : attributeBase e f X.env (eval e X.env) = eval e X.env := by rfl) : VE X Z (.Attribute e f pos) δ μ P := ve_of (pe_fld pe_r hb) (we_fld h)
/-! ### calls of built-ins -/
theorem ve_cb {id : String} {r : List V → Hp → VK → Prop} {P : D → Store → Prop} (hc : CallR X (.builtin id) r) (hm : X.mg x = none) (hv : bootBuiltins x = some (.builtin id)) (h : VA X Z (e :: es) δ μ fun xs μ1 => WC X.K Z r xs μ1 P) (hg : Gl X x := by rfl)
    (hn : x ≠ "__name__" := by decide) (hd : (x == ("__debug__" : Str)) = false := by decide) (he : starEach (e :: es) X.env = (false, eval e X.env) :: starEach es X.env := by rfl) (hpl : (backTo pos (starEach es X.env)).any (·.1) = false := by rfl) :
    VE X Z (.Call (.Name x p) (e :: es) [] pos) δ μ P := ve_of (pe_callB hc hg hm hv pa_r hn hd he hpl) (we_cb h)
theorem ve_cty {T : String} {r : List V → Hp → VK → Prop} {P : D → Store → Prop} (hc : CallR X (.type T) r) (hm : X.mg x = none) (hv : bootBuiltins x = some (.type T)) (h : VA X Z (e :: es) δ μ fun xs μ1 => WC X.K Z r xs μ1 P) (hg : Gl X x := by rfl)
    (hn : x ≠ "__name__" := by decide) (hd : (x == ("__debug__" : Str)) = false := by decide) (he : starEach (e :: es) X.env = (false, eval e X.env) :: starEach es X.env := by rfl) (hpl : (backTo pos (starEach es X.env)).any (·.1) = false := by rfl) :
    VE X Z (.Call (.Name x p) (e :: es) [] pos) δ μ P := ve_of (pe_callTy hc hg hm hv pa_r hn hd he hpl) (we_cb h)
end
end VL
set_option Elab.async false
set_option linter.all false
set_option maxRecDepth 100000
set_option maxHeartbeats 4000000
/-! VL6: statements, targets, iterables, comprehensions: rules on the syntax itself. -/
namespace VL
open PySem PySem.Spec PyProof.Rows L2
/-- what holds of a body's context -/
structure Kx (X : Cx) : Prop where
  nd : X.N.Nodup
  calm : X.calm = true
  un : X.A.units + 70 < cLine
theorem Kx.u1 {X : Cx} (k : Kx X) : X.A.units + 1 < cLine := by have := k.un; omega
theorem Kx.u64 {X : Cx} (k : Kx X) : X.A.units + 64 < cLine := by have := k.un; omega
theorem Kx.u65 {X : Cx} (k : Kx X) : X.A.units + 65 < cLine := by have := k.un; omega
section
variable {X : Cx} {Z : Wish} {δ : Env} {μ : Store} {P : Fl → Store → Prop}
variable {e a b c o tg iter elt : Expr} {es ifs : List Expr} {st : Stmt} {rest body : List Stmt} {pos p p' apos pos' px py pt : Pos} {x y f nm : Str}
/-! ### blocks -/
theorem vss_nil (q : P (.nx δ) μ) : VSs X Z [] δ μ P := vss_of pss_nil (ws_next q)
theorem vss_cons (h : VS X Z st δ μ fun f μ1 => match f with | .nx δ1 => VSs X Z rest δ1 μ1 P | f => P f μ1) : VSs X Z (st :: rest) δ μ P := vss_of (pss_cons ps_r pss_r) (ws_seq h)
theorem vss_one (h : VS X Z st δ μ P) : VSs X Z [st] δ μ P := vss_of (pss_one ps_r) h
/-! ### small statements -/
theorem vs_doc {s : Str} {j} (q : P (.nx δ) μ) : VS X Z (.Expr (.Constant (.str s) j p) pos) δ μ P := vs_of ps_doc (ws_next q)
theorem vs_expr (h : VE X Z e δ μ fun _ μ1 => P (.nx δ) μ1) (hs : swapsWith e none pos.line X.env = pure false := by rfl) : VS X Z (.Expr e pos) δ μ P := vs_of (ps_expr pe_r hs) (ws_drop h)
theorem vs_ret (h : VE X Z e δ μ fun d μ1 => P (.rt d) μ1) : VS X Z (.Return (some e) pos) δ μ P := vs_of (ps_ret pe_r) (ws_ret h)
theorem vs_retN (q : P (.rt .non) μ) : VS X Z (.Return none pos) δ μ P := vs_of ps_retN (ws_retN q)
theorem vs_brk (q : P (.bk δ) μ) : VS X Z (.Break pos) δ μ P := vs_of ps_break (ws_brk q)
theorem vs_cont (q : P (.ct δ) μ) : VS X Z (.Continue pos) δ μ P := vs_of ps_continue (ws_cont q)
theorem vs_pass (q : P (.nx δ) μ) : VS X Z (.Pass pos) δ μ P := vs_of ps_pass (ws_next q)
theorem vs_if {as bs : List Stmt} (h : VT X Z c δ μ fun k μ1 => (k = true → VSs X Z as δ μ1 P) ∧ (k = false → VSs X Z bs δ μ1 P)) : VS X Z (.If c as bs pos) δ μ P :=
  vs_of (ps_if pt_r pss_r pss_r) (ws_if (WT.imp h fun k μ1 q => by
    cases k with
    | true => exact q.1 rfl
    | false => exact q.2 rfl))
/-! ### targets -/
theorem vg_name (i : Nat) {d : D} {Q : Env → Store → Prop} (k : Kx X) (q : Q ((δ : List (Option D)).set i (some d)) μ) (hi : (X.N : List Str)[i]? = some x := by rfl) (hx : Loc X.env.scope x := by first | exact Or.inl rfl | exact Or.inr rfl)
    (hf : X.fn x = true ∨ X.env.scope.names.lookup x = some .local := by first | exact .inl rfl | exact .inr rfl) : VG X Z (.Name x pos) [i] d δ μ Q := vg_of (pg_name k.nd hi hx hf) (wg_name q)
theorem vgs_nil {Q : Env → Store → Prop} (q : Q δ μ) : VGs X Z [] [] [] δ μ Q := vgs_of pgs_nil (wgs_nil q)
theorem vgs_cons {js ks : List Nat} {d : D} {ds : List D} {Q : Env → Store → Prop} (h : VG X Z e js d δ μ fun δ1 μ1 => VGs X Z es ks ds δ1 μ1 Q)
    (hs : (assignEach (e :: es) X.env).map (·.2) = assign e X.env :: (assignEach es X.env).map (·.2) := by rfl) : VGs X Z (e :: es) (js ++ ks) (d :: ds) δ μ Q := vgs_of (pgs_cons pg_r pgs_r hs) (wgs_cons h)
theorem vg_tup {js : List Nat} {ds : List D} {kk : Nat} {Q : Env → Store → Prop} (k : Kx X) (h : VGs X Z es js ds δ μ Q)
    (hn : (assignEach es X.env).length = ds.length := by rfl) (hst : (assignEach es X.env).findIdx? (·.1) = none := by rfl) : VG X Z (.Tuple es kk pos) js (.tup ds) δ μ Q := vg_of (pg_tup k.calm pgs_r hn hst) (wg_tup rfl h)
/-- o[i] = d, o a mutable list -/
theorem vg_setL {d : D} {Q : Env → Store → Prop} (h : VE X Z a δ μ fun o μ1 => VE X Z b δ μ1 fun y μ2 => ∃ (j n : Nat) (l : Addr) (xs : List D) (i : Int), o = .ref l ∧ y = .int i ∧ μ2[j]? = some (l, .lst xs) ∧ ixN xs.length i = some n ∧ Q δ (μ2.set j (l, .lst (xs.set n d))))
    (ha : ∀ v, assign (.Subscript a b pos) X.env v = (do
      let ov ← holding [v] (eval a X.env)
      let iv ← holding [v, ov] (eval b X.env)
      standAt pos
      holding [v, ov, iv] (setItem ov iv v)
      release [v, ov, iv] []) := by intro _; rfl) : VG X Z (.Subscript a b pos) [] d δ μ Q := vg_of (pg_sub pe_r pe_r set_list ha) (wg_setL h)
theorem vg_setD {d : D} {Q : Env → Store → Prop} (k : Kx X) (h : VE X Z a δ μ fun o μ1 => VE X Z b δ μ1 fun y μ2 => ∃ (j : Nat) (l : Addr) (kvs : List (Key × D)) (kk : Key), o = .ref l ∧ keyD y = some kk ∧ μ2[j]? = some (l, .dct kvs) ∧ kvs.length ≤ 1000000 ∧ Q δ (μ2.set j (l, .dct (putKD kvs kk d))))
    (ha : ∀ v, assign (.Subscript a b pos) X.env v = (do
      let ov ← holding [v] (eval a X.env)
      let iv ← holding [v, ov] (eval b X.env)
      standAt pos
      holding [v, ov, iv] (setItem ov iv v)
      release [v, ov, iv] []) := by intro _; rfl) : VG X Z (.Subscript a b pos) [] d δ μ Q := vg_of (pg_sub pe_r pe_r (set_dict k.u1) ha) (wg_setD h)
/-! ### assignments -/
theorem vs_set (i : Nat) (k : Kx X) (h : VE X Z e δ μ fun d μ1 => P (.nx ((δ : List (Option D)).set i (some d))) μ1) (hi : (X.N : List Str)[i]? = some x := by rfl) (hx : Loc X.env.scope x := by first | exact Or.inl rfl | exact Or.inr rfl)
    (hs : swapsWith e (some (.Name x pos')) pos.line X.env = pure false := by rfl) (hf : X.fn x = true ∨ X.env.scope.names.lookup x = some .local := by first | exact .inl rfl | exact .inr rfl) :
    VS X Z (.Assign [.Name x pos'] e pos) δ μ P := vs_of (ps_set k.nd hi hx pe_r hs hf) (ws_asg (js := [i]) (WE.imp h fun d μ1 q => wg_name q))
theorem vs_asg {js : List Nat} (h : VE X Z e δ μ fun d μ1 => VG X Z tg js d δ μ1 fun δ' μ2 => P (.nx δ') μ2) (hs : swapsWithSole [tg] e pos.line X.env = pure false := by rfl) (hw : swappedStores [tg] e X.env = pure none := by rfl)
    (h1 : (assignEach [tg] X.env).map (·.2) = [assign tg X.env] := by rfl) : VS X Z (.Assign [tg] e pos) δ μ P := vs_of (ps_asg pe_r pg_r hs hw h1) (ws_asg h)
theorem ws_par {i j : Nat} {K : PySem.W.Frag} {t : TA} (h : WA K Z t δ μ fun xs μ1 => ∃ d d', xs = [d, d'] ∧ P (.nx (((δ : List (Option D)).set i (some d)).set j (some d'))) μ1) : WS K Z (tPar i j t) δ μ P := fun σ F H Dn s c k z =>
  h σ F H _ s c (fun vs xs μ1 F1 H1 ⟨d, d', e, p⟩ m1 c1 r1 => by
    subst e
    obtain ⟨v, u, rfl, r, r'⟩ := reps2 r1
    exact ⟨v, u, rfl, k.nx _ _ _ _ _ p m1 c1 (((s.mono m1.up).set r i).set r' j)⟩) z
theorem vs_par (i j : Nat) (k : Kx X) {kt k2 pt2} (h : VA X Z [a, b] δ μ fun xs μ1 => ∃ d d', xs = [d, d'] ∧ P (.nx (((δ : List (Option D)).set i (some d)).set j (some d'))) μ1)
    (hi : (X.N : List Str)[i]? = some x := by rfl) (hj : (X.N : List Str)[j]? = some y := by rfl) (hij : i ≠ j := by decide) (hx : X.env.scope.names.lookup x = some .local := by rfl) (hy : X.env.scope.names.lookup y = some .local := by rfl)
    (hw : swappedStores [.Tuple [.Name x px, .Name y py] kt pt] (.Tuple [a, b] k2 pt2) X.env = pure (some [x, y]) := by rfl)
    (hs : swapsWithSole [.Tuple [.Name x px, .Name y py] kt pt] (.Tuple [a, b] k2 pt2) pos.line X.env = pure false := by rfl) :
    VS X Z (.Assign [.Tuple [.Name x px, .Name y py] kt pt] (.Tuple [a, b] k2 pt2) pos) δ μ P := vs_of (ps_par k.calm k.nd hi hj hij hx hy pa_r hw hs) (ws_par h)
/-- o.f = e -/
theorem vs_fld (h : VE X Z e δ μ fun y μ1 => VE X Z o δ μ1 fun d μ2 => ∃ (j : Nat) (l C : Addr) (fs : List (Str × D)), d = .ref l ∧ μ2[j]? = some (l, .ins C fs) ∧ Cls X.K C ∧ NoAttr X.K C f ∧ fs.length < 900 ∧ P (.nx δ) (μ2.set j (l, .ins C (putD f y fs))))
    (hs : swapsWith e (some (.Attribute o f pos')) pos.line X.env = pure false := by rfl) : VS X Z (.Assign [.Attribute o f pos'] e pos) δ μ P := vs_of (ps_fld pe_r pe_r hs) (ws_fld h)
/-- an attribute as a target -/
def gFld (K : PySem.W.Frag) (ta : TE) (f : Str) : TG := fun v σ H Q => ta σ H fun x H2 => ∃ a C dx fs, x = .ref a ∧ H2 a = some (.ins C dx fs) ∧ Cls K C ∧ NoAttr K C f ∧ fs.length < 1000 ∧ Q σ (upd H2 a (.ins C dx (putF f v fs)))
theorem pg_fld {ta : TE} (ha : PE X o ta) : PG X (.Attribute o f pos) (gFld X.K ta f) := by
  refine ⟨fun pins s σ H v u Q I r h => ?_⟩
  rw [assign_Attribute]
  refine wpAny_bind (wpAny_holding (thn (ha.run pins s σ H _ I h) fun ov s1 ⟨x, H1, I1, rx, a, C, dx, fs, ex, ea, cl, n, l, q⟩ => ?_))
  subst ex
  obtain rfl : ov = Value.ref a := rx
  refine wpAny_bind (wpAny_standAt (wpAny_bind (wpAny_holding (setattr_ok I1 ea cl n l r fun s3 I3 => ?_))))
  exact wpAny_release ⟨σ, _, I3, q⟩
theorem wg_fld {K : PySem.W.Frag} {ta : TE} {d : D} {Q : Env → Store → Prop} (h : WE K Z ta δ μ fun x μ2 => ∃ (j : Nat) (l C : Addr) (fs : List (Str × D)), x = .ref l ∧ μ2[j]? = some (l, .ins C fs) ∧ Cls K C ∧ NoAttr K C f ∧ fs.length < 900 ∧ Q δ (μ2.set j (l, .ins C (putD f d fs)))) :
    WG K Z (gFld K ta f) [] d δ μ Q := fun v σ F H Q' s c r k z =>
  h σ F H _ s c (fun u x μ2 F2 H2 ⟨j, l, C, fs, e, hj, cl, na, hl, q⟩ m2 c2 r2 => by
    subst e; cases r2
    obtain ⟨_, dx, fv, e, rr⟩ := c2.mu _ (mem_at hj)
    refine ⟨l, C, dx, fv, rfl, e, cl, na, by rw [rr.length]; omega, ?_⟩
    have rp := repsF_put (f := f) (r.mono m2.up) rr
    exact k σ δ _ _ _ q ⟨fun _ _ => rfl, rfl⟩ (m2.trans (mv_set hj c2)) (cm_set hj c2 ⟨dx, _, upd_same, rp⟩) (s.mono m2.up)) z
theorem vg_fld {d : D} {Q : Env → Store → Prop} (h : VE X Z o δ μ fun x μ2 => ∃ (j : Nat) (l C : Addr) (fs : List (Str × D)), x = .ref l ∧ μ2[j]? = some (l, .ins C fs) ∧ Cls X.K C ∧ NoAttr X.K C f ∧ fs.length < 900 ∧ Q δ (μ2.set j (l, .ins C (putD f d fs)))) :
    VG X Z (.Attribute o f pos) [] d δ μ Q := vg_of (pg_fld pe_r) (wg_fld h)
/-! ### loops -/
theorem vs_for {js : List Nat} (k : Kx X) (ow : PassesOwn (model X.prog X.w) X.A X.env X.xe) (h : VI X Z tg iter δ μ fun ds μ1 => ∃ I : Nat → Env → Store → Prop, I 0 δ μ1 ∧
    (∀ i d δ' μ', ds[i]? = some d → I i δ' μ' → VG X Z tg js d δ' μ' fun δ2 μ2 => VSs X Z body δ2 μ2 (lp (I (i + 1)) P)) ∧ ∀ δ' μ', I ds.length δ' μ' → P (.nx δ') μ')
    (hs : ∀ x, foldedSetIterable iter X.env x = pure x := by intro _; rfl) : VS X Z (.For tg iter body [] pos) δ μ P := vs_of (ps_for ow k.calm pi_r pg_r pss_r hs) (ws_for h)
theorem vs_while (ow : PassesOwn (model X.prog X.w) X.A X.env X.xe) (I : Nat → Env → Store → Prop) (h0 : ∃ m, I m δ μ) (hs : ∀ m δ' μ', I m δ' μ' → VT X Z c δ' μ' fun b μ1 => if b = true then VSs X Z body δ' μ1 (lp (fun δ2 μ2 => ∃ m', m' < m ∧ I m' δ2 μ2) P) else P (.nx δ') μ1) :
    VS X Z (.While c body [] pos) δ μ P := vs_of (ps_while ow pt_r pss_r) (ws_while I h0 hs)
/-! ### what is walked -/
theorem vi_lst {Q : List D → Store → Prop} (h : VE X Z e δ μ fun d μ1 => ∃ ds, d = .lst ds ∧ Q ds μ1) : VI X Z tg e δ μ Q := vi_of (pi_list pe_r) (wi_list h)
theorem vi_tup {Q : List D → Store → Prop} (h : VE X Z e δ μ fun d μ1 => ∃ ds, d = .tup ds ∧ Q ds μ1) : VI X Z tg e δ μ Q := vi_of (pi_tup pe_r) (wi_tup h)
theorem vi_range1 {Q : List D → Store → Prop} (hm : X.mg "range" = none) (h : VA X Z [a] δ μ fun ds μ1 => ∃ j : Int, ds = [.int j] ∧ j ≤ 1000000000 ∧ -1000000000 ≤ j ∧ Q (upto 0 j.toNat) μ1) (hg : Gl X "range" := by rfl) (hs : starEach [a] X.env = [(false, eval a X.env)] := by rfl) :
    VI X Z tg (.Call (.Name "range" p) [a] [] pos) δ μ Q := vi_of (pi_range1 hg hm pa_r hs) (wi_range1 h)
theorem vi_range2 {Q : List D → Store → Prop} (hm : X.mg "range" = none) (h : VA X Z [a, b] δ μ fun ds μ1 => ∃ i j : Int, ds = [.int i, .int j] ∧ (j ≤ 1000000000 ∧ -1000000000 ≤ j ∧ i ≤ 1000000000 ∧ -1000000000 ≤ i) ∧ Q (upto i (j - i).toNat) μ1) (hg : Gl X "range" := by rfl)
    (hs : starEach [a, b] X.env = [(false, eval a X.env), (false, eval b X.env)] := by rfl) (hs2 : starEach [b] X.env = [(false, eval b X.env)] := by rfl) :
    VI X Z tg (.Call (.Name "range" p) [a, b] [] pos) δ μ Q := vi_of (pi_range2 hg hm pa_r hs hs2) (wi_range2 h)
theorem vi_enum {ts : List Expr} {kk : Nat} {Q : List D → Store → Prop} (hm : X.mg "enumerate" = none) (h : VA X Z [e] δ μ fun as μ1 => ∃ ds, as = [.lst ds] ∧ Q (numbered ds) μ1) (hg : Gl X "enumerate" := by rfl) (hs : starEach [e] X.env = [(false, eval e X.env)] := by rfl) :
    VI X Z (.Tuple ts kk pt) (.Call (.Name "enumerate" p) [e] [] pos) δ μ Q := vi_of (pi_enum hg hm pa_r hs) (wi_enum h)
theorem vi_zip {ts : List Expr} {kk : Nat} {Q : List D → Store → Prop} (hm : X.mg "zip" = none) (h : VA X Z [a, b] δ μ fun as μ1 => ∃ ds es, as = [.lst ds, .lst es] ∧ Q (paired ds es) μ1) (hg : Gl X "zip" := by rfl)
    (hs : starEach [a, b] X.env = (false, eval a X.env) :: starEach [b] X.env := by rfl) (hpl : (backTo pos (starEach [b] X.env)).any (·.1) = false := by rfl) :
    VI X Z (.Tuple ts kk pt) (.Call (.Name "zip" p) [a, b] [] pos) δ μ Q := vi_of (pi_zip hg hm pa_r hs hpl) (wi_zip h)
/-! ### comprehensions -/
/-- what a block is entered with -/
structure BQ where
  s : Shared
  H : Hp
  C : Addr
  cl : List (Str × Addr)
  fp : List Addr
abbrev bk (X : Cx) (sc : Scope) (q : BQ) : Cx := X.blk q.s q.H sc (compEnvC sc q.cl q.C X.env) q.fp
def bG (X : Cx) (sc : Scope) (tg : Expr) : TG := fun v σ H Q => ∀ q : BQ, rG (bk X sc q) tg v σ H Q
def bT (X : Cx) (sc : Scope) (ifs : List Expr) : TT := fun σ H Q => ∀ q : BQ, rIf (bk X sc q) ifs σ H Q
def bE (X : Cx) (sc : Scope) (e : Expr) : TE := fun σ H Q => ∀ q : BQ, rE (bk X sc q) e σ H Q
theorem vif_nil {Q : Bool → Store → Prop} (q : Q true μ) : VIf X Z [] δ μ Q := vif_of pts_nil (fun σ F H Q' s c k z => k true μ F H q (Mv.refl ..) c)
theorem vif_one {Q : Bool → Store → Prop} (h : VT X Z c δ μ Q) : VIf X Z [c] δ μ Q := vif_of (pts_one pt_r) h
abbrev Turns (X : Cx) (sc : Scope) (tg : Expr) (ifs : List Expr) (elt : Expr) (js : List Nat) (δ : Env) (ds : List D) (I : Nat → List D → Store → Prop) : Prop :=
  ∀ i d acc μ', ds[i]? = some d → I i acc μ' → ∀ q, VG (bk X sc q) Wish.no tg js d δ μ' fun δ2 μ2 => ∀ q, VIf (bk X sc q) Wish.no ifs δ2 μ2 fun b μ3 => if b = true then ∀ q, VE (bk X sc q) Wish.no elt δ2 μ3 fun y μ4 => I (i + 1) (acc ++ [y]) μ4 else I (i + 1) acc μ3
theorem lc_in {sc : Scope} {js vs : List Nat} {Q : D → Store → Prop} (hj : ∀ i ∈ js, i ∈ vs) (h : VI X Z tg iter δ μ fun ds μ1 => ds.length ≤ 100000 ∧ ∃ I : Nat → List D → Store → Prop, I 0 [] μ1 ∧ Turns X sc tg ifs elt js (wipeD δ vs) ds I ∧
    ∀ acc μ', I ds.length acc μ' → Q (.lst acc) μ') : WE X.K Z (tLc (rIt X tg iter) (bG X sc tg) (bT X sc ifs) (bE X sc elt) vs) δ μ Q := by
  refine we_lc hj fun σ F H R s c k z => h σ F H R s c (fun J ds μ1 F1 H1 ⟨hl, I, i0, ht, hd⟩ m1 c1 it => k J ds μ1 F1 H1 ⟨hl, I, i0, fun i d acc μ' hi hI => ?_, hd⟩ m1 c1 it) z
  intro v σ F H Q' s c r k z q
  refine ht i d acc μ' hi hI q v σ F H Q' s c r (fun σ' δ' μ2 F' H' h2 e m c s' => k σ' δ' μ2 F' H' ?_ e m c s') z
  intro σ F H Q' s c k z q
  refine h2 q σ F H Q' s c (fun b μ3 F' H' h3 m c => k b μ3 F' H' ?_ m c) z
  cases b with
  | false => exact h3
  | true => intro σ F H Q' s c k z q; exact h3 q σ F H Q' s c k z
theorem ve_lc {sc : Scope} {js : List Nat} (own : List (Str × Nat)) {Q : D → Store → Prop} (k : Kx X) (h : VI X Z tg iter δ μ fun ds μ1 => ds.length ≤ 100000 ∧ ∃ I : Nat → List D → Store → Prop, I 0 [] μ1 ∧ Turns X sc tg ifs elt js (wipeD δ (own.map (·.2))) ds I ∧
    ∀ acc μ', I ds.length acc μ' → Q (.lst acc) μ') (ok : BlkOk X.N X.env.scope sc own := by exact blkOk_by (by kernel_rfl)) (hj : ∀ i ∈ js, i ∈ own.map (·.2) := by decide) (hs : ∀ x, foldedSetIterable iter X.env x = pure x := by intro _; rfl) :
    VE X Z (.ListComp elt [⟨tg, iter, ifs, 0⟩] sc pos) δ μ Q :=
  ve_of (pe_lc k.calm k.nd pi_r ok (fun s H C cl fp => ⟨fun pins s' σ H' v u Q I r w => w ⟨s, H, C, cl, fp⟩ pins s' u I r⟩) (fun s H C cl fp => ⟨fun pins s' σ H' Q I w => w ⟨s, H, C, cl, fp⟩ pins s' I⟩) (fun s H C cl fp => ⟨fun pins s' σ H' Q I w => w ⟨s, H, C, cl, fp⟩ pins s' I⟩) hs) (lc_in hj h)
theorem vs_setLc (i : Nat) {sc : Scope} {js : List Nat} (own : List (Str × Nat)) (k : Kx X) (h : VI X Z tg iter δ μ fun ds μ1 => ds.length ≤ 100000 ∧ ∃ I : Nat → List D → Store → Prop, I 0 [] μ1 ∧ Turns X sc tg ifs elt js (wipeD δ (own.map (·.2))) ds I ∧
    ∀ acc μ', I ds.length acc μ' → P (.nx ((δ : List (Option D)).set i (some (.lst acc)))) μ') (hi : (X.N : List Str)[i]? = some y := by rfl) (hyl : X.env.scope.names.lookup y = some .local := by rfl)
    (hsw : swapsWith (.ListComp elt [⟨tg, iter, ifs, 0⟩] sc p) (some (.Name y py)) pos.line X.env = pure true := by rfl) (ok : BlkOk X.N X.env.scope sc own := by exact blkOk_by (by kernel_rfl)) (hj : ∀ i ∈ js, i ∈ own.map (·.2) := by decide) (hs : ∀ x, foldedSetIterable iter X.env x = pure x := by intro _; rfl) :
    VS X Z (.Assign [.Name y py] (.ListComp elt [⟨tg, iter, ifs, 0⟩] sc p) pos) δ μ P :=
  vs_of (ps_setLc k.calm k.nd hi hyl hsw pi_r ok (fun s H C cl fp => ⟨fun pins s' σ H' v u Q I r w => w ⟨s, H, C, cl, fp⟩ pins s' u I r⟩) (fun s H C cl fp => ⟨fun pins s' σ H' Q I w => w ⟨s, H, C, cl, fp⟩ pins s' I⟩) (fun s H C cl fp => ⟨fun pins s' σ H' Q I w => w ⟨s, H, C, cl, fp⟩ pins s' I⟩) hs)
    (ws_asg (js := [i]) (WE.imp (lc_in (Q := fun d μ1 => ∃ acc, d = .lst acc ∧ P (.nx ((δ : List (Option D)).set i (some d))) μ1) hj (fun σ F H R s c k z => h σ F H R s c (fun J ds μ1 F1 H1 ⟨hl, I, i0, ht, hd⟩ => k J ds μ1 F1 H1 ⟨hl, I, i0, ht, fun acc μ' hh => ⟨acc, rfl, hd acc μ' hh⟩⟩) z)) fun d μ1 ⟨acc, e, q⟩ => by subst e; exact wg_name q))
end
end VL
set_option Elab.async false
set_option linter.all false
set_option maxRecDepth 100000
set_option maxHeartbeats 4000000
/-! VL7: defs, methods, classes: promises by values; their bodies; their calls. -/
namespace VL
open PySem PySem.Spec PyProof.Rows L2
/-! ### some of the store is forgotten -/
theorem Mv.less {μ μ1 μ2 : Store} {F H F' H' : Hp} (m : Mv μ F H μ1 F' H') (s : μ2.Sublist μ1) : Mv μ F H μ2 F' H' := ⟨m.kp, m.up, m.nw, fun a h => m.nm a ((s.map _).subset h), m.gr⟩
theorem Cm.less {K : PySem.W.Frag} {F H : Hp} {μ1 μ2 : Store} (c : Cm K F H μ1) (s : μ2.Sublist μ1) : Cm K F H μ2 := ⟨c.ex, fun p hp => c.mu p (s.subset hp), c.nd.sublist (s.map _)⟩
section
variable {K : PySem.W.Frag} {Z : Wish} {δ : Env} {μ ν : Store}
theorem we_less {t : TE} {P : D → Store → Prop} (h : WE K Z t δ μ fun d μ1 => ∃ μ2 : Store, μ2.Sublist μ1 ∧ P d μ2) : WE K Z t δ μ P := fun σ F H Q s c k z =>
  h σ F H Q s c (fun v d μ1 F1 H1 ⟨μ2, l, p⟩ m c' r => k v d μ2 F1 H1 p (m.less l) (c'.less l) r) z
theorem ws_less {t : TS} {P : Fl → Store → Prop} (h : WS K Z t δ μ fun f μ1 => ∃ μ2 : Store, μ2.Sublist μ1 ∧ P f μ2) : WS K Z t δ μ P := fun σ F H Dn s c k z =>
  h σ F H Dn s c ⟨fun σ' δ' μ1 F1 H1 ⟨μ2, l, p⟩ m c' r => k.nx σ' δ' μ2 F1 H1 p (m.less l) (c'.less l) r, fun σ' δ' μ1 F1 H1 ⟨μ2, l, p⟩ m c' r => k.bk σ' δ' μ2 F1 H1 p (m.less l) (c'.less l) r,
    fun σ' δ' μ1 F1 H1 ⟨μ2, l, p⟩ m c' r => k.ct σ' δ' μ2 F1 H1 p (m.less l) (c'.less l) r, fun v d μ1 F1 H1 ⟨μ2, l, p⟩ m c' r => k.rt v d μ2 F1 H1 p (m.less l) (c'.less l) r⟩ z
/-- the end of the store -/
theorem at_end {p : Addr × MO} : (μ ++ [p])[μ.length]? = some p := by rw [List.getElem?_append_right (Nat.le_refl _)]; simp
theorem set_end {p q : Addr × MO} : (μ ++ [p]).set μ.length q = μ ++ [q] := by rw [List.set_append_right _ _ (Nat.le_refl _)]; simp
theorem del_end {p : Addr × MO} : (μ ++ [p]).eraseIdx μ.length = μ := by rw [List.eraseIdx_append_of_length_le (Nat.le_refl _)]; simp
theorem at_left {j : Nat} {p : Addr × MO} (h : μ[j]? = some p) : (μ ++ ν)[j]? = some p := by rw [List.getElem?_append_left (List.getElem?_eq_some_iff.mp h).1]; exact h
theorem set_left {j : Nat} {p q : Addr × MO} (h : μ[j]? = some p) : (μ ++ ν).set j q = μ.set j q ++ ν := List.set_append_left _ _ (List.getElem?_eq_some_iff.mp h).1
theorem at_set {j : Nat} {p q : Addr × MO} (h : μ[j]? = some p) : (μ.set j q)[j]? = some q := List.getElem?_set_self (List.getElem?_eq_some_iff.mp h).1
theorem set_set' {j : Nat} {p q : Addr × MO} : (μ.set j q).set j p = μ.set j p := List.set_set ..
theorem set_same {j : Nat} {p : Addr × MO} (h : μ[j]? = some p) : μ.set j p = μ := by
  refine List.ext_getElem? fun i => ?_
  by_cases e : j = i
  · subst e; rw [at_set h, h]
  · rw [List.getElem?_set_ne e]
/-- a name that holds a mutable instance | dict is read, and it is frozen -/
theorem we_frzI {te : TE} {j : Nat} {l C : Addr} {fs : List (Str × D)} {P : D → Store → Prop} (h : WE K Z te δ μ fun d μ1 => d = .ref l ∧ μ1[j]? = some (l, .ins C fs) ∧ P (.ins C fs) (μ1.eraseIdx j)) : WE K Z te δ μ P := fun σ F H Q s c k z =>
  h σ F H Q s c (fun v d μ1 F1 H1 ⟨e, hj, p⟩ m1 c1 r1 => by
    subst e
    obtain ⟨_, dx, fv, hl, rv⟩ := c1.mu _ (mem_at hj)
    cases r1
    have m2 := mv_frz hj hl c1
    exact k _ _ _ _ _ p (m1.trans m2) (cm_frz hj hl c1) (.ins upd_same (rv.mono m2.up))) z
end
/-! ### promises -/
abbrev FSpec := List D → Store → (D → Store → Prop) → (Addr → List (Str × D) → Store → Prop) → Prop
def spOf (K : PySem.W.Frag) (S : FSpec) : Sp := fun vs H Q E => ∃ (F : Hp) (ds : List D) (μ : Store) (P : D → Store → Prop) (R : Addr → List (Str × D) → Store → Prop), Reps K F vs ds ∧ Cm K F H μ ∧ S ds μ P R ∧
  (∀ v d μ' F' H', P d μ' → Mv μ F H μ' F' H' → Cm K F' H' μ' → Rep K F' v d → Q v H') ∧ ZK K ⟨E, R⟩ μ F H
/-- what a call needs of the context -/
structure Fx (X : Cx) (Z : Wish) (j : Nat) : Prop where
  kx : Kx X
  rm : Room j X.A
  ps : Passes (L2.CX X.prog X.w) X Z.E
theorem Fx.bk {X : Cx} {Z : Wish} {j : Nat} (f : Fx X Z j) (sc : Scope) (q : BQ) : Fx (VL.bk X sc q) Wish.no j := ⟨⟨f.kx.nd, f.kx.calm, f.kx.un⟩, f.rm, fun _ _ _ _ _ _ _ h => by obtain ⟨_, _, _, _, _, _, _, _, _, _, _, _, h⟩ := h; exact h.elim⟩
theorem Fx.mono {X : Cx} {Z : Wish} {i j : Nat} (f : Fx X Z j) (h : i ≤ j) : Fx X Z i := ⟨f.kx, f.rm.mono h, f.ps⟩
section
variable (P : Program) (w : World) (K : PySem.W.Frag) (mg : Str → Option Value) (base : Heap)
structure Cal (k : Nat) (x : Str) (S : FSpec) (dds : List D) : Prop where
  ex : ∃ (f : Addr) (fd : FuncData) (ps : List Str) (ds : List Value) (dvs : List V), FnOk P w K mg base (L2.CX P w) k f fd ps (spOf K S) ∧ mg x = some (.ref f) ∧ PySem.W.keepIn K (.ref f) = true ∧ Binds K fd ps ds ∧ Vals dvs ds ∧ ∀ F, Reps K F dvs dds
structure Met (k : Nat) (C : Addr) (m : Str) (S : FSpec) (dds : List D) : Prop where
  ex : ∃ (f : Addr) (fd : FuncData) (ps : List Str) (ds : List Value) (dvs : List V), Cls K C ∧ Meth K C m f ∧ FnOk P w K mg base (L2.CX P w) k f fd ps (spOf K S) ∧ Binds K fd ps ds ∧ Vals dvs ds ∧ ∀ F, Reps K F dvs dds
structure Mak (k : Nat) (x : Str) (C : Addr) (S : FSpec) (dds : List D) : Prop where
  ex : ∃ (f : Addr) (fd : FuncData) (ps : List Str) (ds : List Value) (dvs : List V), Mk K C f ∧ FnOk P w K mg base (L2.CX P w) k f fd ps (spOf K S) ∧ mg x = some (.ref C) ∧ Binds K fd ps ds ∧ Vals dvs ds ∧ ∀ F, Reps K F dvs dds
end
/-- what a body is to reach -/
def retP (P : D → Store → Prop) : Fl → Store → Prop
  | .nx _, μ => ∃ μ2 : Store, μ2.Sublist μ ∧ P .non μ2
  | .rt d, μ => ∃ μ2 : Store, μ2.Sublist μ ∧ P d μ2
  | _, _ => False
def startD (N : List Str) (ds : List D) : Env := ds.map some ++ List.replicate (N.length - ds.length) none
section
variable {P : Program} {w : World} {K : PySem.W.Frag} {mg : Str → Option Value} {base : Heap} {x qual : Str} {params : Arguments} {body : List Stmt} {scope : Scope} {dvs : List V} {kws : List (Str × V)} {f : Addr} {fd : FuncData}
/-- THE RULE for a def: its body by values -/
theorem fn_ok {N ps : List Str} {k : Nat} {S : FSpec} (F : FunD K x qual params body scope dvs kws f fd) (sc : FnScope N ps scope) (len : ∀ ds μ P R, S ds μ P R → ds.length = ps.length)
    (hb : ∀ (cdv : Value) (A : Around) (outer : List PySem.Env) (s : Shared) (H : Hp) (E : XK) (ds : List D) (μ : Store) (Q : D → Store → Prop) (R : Addr → List (Str × D) → Store → Prop),
      let X : Cx := cxOf (L2.CX P w) P w K mg base N qual scope f cdv A outer s H E
      Fx X ⟨E, R⟩ k → PassesOwn (model X.prog X.w) X.A X.env X.xe → S ds μ Q R → VSs X ⟨E, R⟩ body (startD N ds) μ (retP Q)) :
    FnOk P w K mg base (L2.CX P w) (k + 1) f fd ps (spOf K S) := by
  refine F.ok sc (fun vs H Q E ⟨F, ds, μ, P, R, r, _, h, _⟩ => by rw [r.length]; exact len ds μ P R h) fun cdv A outer s H vs Q E hr h => ?_
  obtain ⟨F0, ds, μ, P0, R, r, c, hS, hk, hz⟩ := h
  refine ⟨_, pss_r, ?_⟩
  have ow := passes_of (X := cxOf (L2.CX P w) P w K mg base N qual scope f cdv A outer s H E) (K := fun e s'' => L2.CX P w outer H s E e s'') (E₁ := fun e' s'' => L2.CX P w outer H s E e' s'') rfl
  have tk : Takes (cxOf (L2.CX P w) P w K mg base N qual scope f cdv A outer s H E) (fun cls d _ H => E cls d H) := takes_of (E₁ := fun e' s'' => L2.CX P w outer H s E e' s'') rfl rfl rfl rfl
  have fx : Fx (cxOf (L2.CX P w) P w K mg base N qual scope f cdv A outer s H E) ⟨E, R⟩ k := ⟨⟨sc.nd, rfl, by have := hr.un; show (A.deeper _).units + 70 < _; omega⟩, hr, passes_call tk fun _ _ _ _ h => h⟩
  have w1 := hb cdv A outer s H E ds μ P0 R fx ow hS
  have sl : Slots K F0 (start N vs) (startD N ds) := by
    have := slots_start (N.length - ds.length) r
    unfold L2.start startD
    rw [r.length]; exact this
  refine w1 (start N vs) F0 H _ sl c ⟨fun σ' δ' μ' F' H' ⟨μ2, l, p⟩ m c' s' => ?_, fun σ' δ' μ' F' H' p m c' s' => ?_, fun σ' δ' μ' F' H' p m c' s' => ?_, fun v d μ' F' H' ⟨μ2, l, p⟩ m c' r' => ?_⟩ hz
  · exact hk _ _ _ _ _ p (m.less l) (c'.less l) .non
  · exact False.elim p
  · exact False.elim p
  · exact hk _ _ _ _ _ p (m.less l) (c'.less l) r'
end
/-! ### calls -/
/-- d is an instance of C that has no field m -/
def InsAt (μ : Store) (d : D) (C : Addr) (m : Str) : Prop := (∃ fs, d = .ins C fs ∧ fs.lookup m = none) ∨ ∃ (j : Nat) (l : Addr) (fs : List (Str × D)), d = .ref l ∧ μ[j]? = some (l, .ins C fs) ∧ fs.lookup m = none
theorem RepsF.none {K : PySem.W.Frag} {F : Hp} {m : Str} : ∀ {fv : List (Str × V)} {fs : List (Str × D)}, RepsF K F fv fs → fs.lookup m = none → fv.lookup m = none
  | _, _, .nil, _ => rfl
  | _, _, .cons (k := g) r rr, h => by
    rw [List.lookup_cons] at h ⊢
    split at h
    · cases h
    · exact RepsF.none rr h
section
variable {K : PySem.W.Frag} {Z : Wish} {δ : Env} {μ : Store} {P : D → Store → Prop} {S : FSpec} {dvs : List V} {dds : List D}
theorem Reps.app {F : Hp} : ∀ {vs us : List V} {ds es : List D}, Reps K F vs ds → Reps K F us es → Reps K F (vs ++ us) (ds ++ es)
  | _, _, _, _, .nil, q => q
  | _, _, _, _, .cons h r, q => .cons h (Reps.app r q)
theorem we_call {t : TA} (hd : ∀ F, Reps K F dvs dds) (h : WA K Z t δ μ fun xs μ1 => S (xs ++ dds) μ1 P Z.R) : WE K Z (tCall (spOf K S) dvs Z.E t) δ μ P := fun σ F H Q s c k z =>
  h σ F H _ s c (fun vs xs μ1 F1 H1 p m1 c1 r1 => ⟨F1, xs ++ dds, μ1, P, Z.R, Reps.app r1 (hd F1), c1, p, fun v d μ' F' H' q m2 c2 r2 => k v d μ' F' H' q (m1.trans m2) c2 r2, z.mv m1⟩) z
theorem we_meth {C : Addr} {m : Str} {ta : TE} {t : TA} (hd : ∀ F, Reps K F dvs dds) (h : WE K Z ta δ μ fun d μ1 => InsAt μ1 d C m ∧ WA K Z t δ μ1 fun xs μ2 => S (d :: (xs ++ dds)) μ2 P Z.R) : WE K Z (tMeth C m (spOf K S) dvs Z.E ta t) δ μ P := fun σ F H Q s c k z =>
  h σ F H _ s c (fun v d μ1 F1 H1 ⟨hi, p⟩ m1 c1 r1 => by
    have key : ∃ a dx fs, v = .ref a ∧ H1 a = some (.ins C dx fs) ∧ fs.lookup m = none := by
      rcases hi with ⟨fs, rfl, l⟩ | ⟨j, a, fs, rfl, hj, l⟩
      · cases r1 with
        | ins e r => exact ⟨_, _, _, rfl, c1.ex _ _ e, RepsF.none r l⟩
      · cases r1
        obtain ⟨_, dx, fv, e, r⟩ := c1.mu _ (mem_at hj)
        exact ⟨_, _, _, rfl, e, RepsF.none r l⟩
    obtain ⟨a, dx, fs, rfl, e, l⟩ := key
    refine ⟨a, dx, fs, rfl, e, l, ?_⟩
    refine p σ F1 H1 _ (s.mono m1.up) c1 (fun vs xs μ2 F2 H2 p2 m2 c2 r2 => ?_) (z.mv m1)
    exact ⟨F2, d :: (xs ++ dds), μ2, P, Z.R, .cons (r1.mono m2.up) (Reps.app r2 (hd F2)), c2, p2, fun v d μ' F' H' q m3 c3 r3 => k v d μ' F' H' q ((m1.trans m2).trans m3) c3 r3, (z.mv m1).mv m2⟩) z
/-- a new instance and its dict -/
theorem mv_made {F H : Hp} {x dx C : Addr} (c : Cm K F H μ) (hx : H x = none) (hd : H dx = none) (ne : dx ≠ x) : Mv μ F H (μ ++ [(x, .ins C [])]) F (upd (upd H dx (.own x)) x (.ins C dx [])) ∧ Cm K F (upd (upd H dx (.own x)) x (.ins C dx [])) (μ ++ [(x, .ins C [])]) := by
  have h1 : ∀ a o, H a = some o → (upd (upd H dx (.own x)) x (.ins C dx [])) a = some o := fun a o e => by
    rw [upd_ne (ne_of_none e hx), upd_ne (ne_of_none e hd)]; exact e
  refine ⟨⟨fun a o e _ => h1 a o e, Same.refl F, fun a h => .inl h, fun a h => ?_, fun a e => ?_⟩, ⟨fun a u e => h1 a u (c.ex a u e), fun q hq => ?_, ?_⟩⟩
  · rw [adrs, List.map_append] at h
    rcases List.mem_append.mp h with q | q
    · exact .inl q
    · simp at q; subst q; exact .inr hx
  · cases q : H a with
    | none => rfl
    | some o => rw [h1 a o q] at e; cases e
  · rcases List.mem_append.mp hq with hq | hq
    · obtain ⟨h2, h3⟩ := c.mu q hq
      obtain ⟨o, ho⟩ := h3.some
      exact ⟨h2, h3.heap ((h1 _ _ ho).trans ho.symm)⟩
    · simp at hq; subst hq
      exact ⟨c.f_none hx, dx, [], upd_same, .nil⟩
  · show ((μ ++ [(x, MO.ins C [])]).map (·.1)).Nodup
    rw [List.map_append]
    refine List.nodup_append.mpr ⟨c.nd, by simp, ?_⟩
    intro a ha b hb e
    simp at hb
    subst hb; subst e
    exact c.not_new hx ha
theorem we_make {C : Addr} {t : TA} (hd : ∀ F, Reps K F dvs dds) (h : WA K Z t δ μ fun xs μ1 => ∀ l, S (.ref l :: (xs ++ dds)) (μ1 ++ [(l, .ins C [])]) (fun d μ2 => d = .non ∧ P (.ref l) μ2) Z.R) : WE K Z (tMake C (spOf K S) dvs Z.E t) δ μ P := fun σ F H Q s c k z =>
  h σ F H _ s c (fun vs xs μ1 F1 H1 p m1 c1 r1 x dx hx hdx ne => by
    obtain ⟨m2, c2⟩ := mv_made (C := C) c1 hx hdx ne
    refine ⟨F1, .ref x :: (xs ++ dds), _, _, Z.R, .cons (.ref x) (Reps.app r1 (hd F1)), c2, p x, fun v d μ' F' H' ⟨e, q⟩ m3 c3 r3 => ?_, (z.mv m1).mv m2⟩
    subst e; cases r3
    exact ⟨rfl, k _ _ _ _ _ q ((m1.trans m2).trans m3) c3 (.ref x)⟩) z
end
section
variable {X : Cx} {Z : Wish} {δ : Env} {μ : Store} {P : D → Store → Prop} {S : FSpec} {dds : List D} {k j : Nat} {x m : Str} {C : Addr} {e o : Expr} {es : List Expr} {p pos apos : Pos}
theorem ve_call (c : Cal X.prog X.w X.K X.mg X.base k x S dds) (fx : Fx X Z j) (h : VA X Z (e :: es) δ μ fun xs μ1 => S (xs ++ dds) μ1 P Z.R) (hk : k ≤ j := by first | assumption | decide | omega) (hg : Gl X x := by rfl)
    (hdb : (x == ("__debug__" : Str)) = false := by decide) (he : starEach (e :: es) X.env = (false, eval e X.env) :: starEach es X.env := by rfl) (hpl : (backTo pos (starEach es X.env)).any (·.1) = false := by rfl) :
    VE X Z (.Call (.Name x p) (e :: es) [] pos) δ μ P := by
  obtain ⟨f, fd, ps, ds, dvs, F, hm, kp, b, d, r⟩ := c.ex
  exact ve_of (pe_call F (fx.rm.mono hk) hg hm kp b d fx.ps pa_r hdb he hpl) (we_call r h)
theorem ve_call0 (c : Cal X.prog X.w X.K X.mg X.base k x S dds) (fx : Fx X Z j) (h : S dds μ P Z.R) (hk : k ≤ j := by first | assumption | decide | omega) (hg : Gl X x := by rfl)
    (hdb : (x == ("__debug__" : Str)) = false := by decide) : VE X Z (.Call (.Name x p) [] [] pos) δ μ P := by
  obtain ⟨f, fd, ps, ds, dvs, F, hm, kp, b, d, r⟩ := c.ex
  exact ve_of (pe_call0 F (fx.rm.mono hk) hg hm kp b d fx.ps hdb) (we_call r (wa_nil h))
theorem ve_meth (pl : Sem Bool) (c : Met X.prog X.w X.K X.mg X.base k C m S dds) (fx : Fx X Z j) (h : VE X Z o δ μ fun d μ1 => InsAt μ1 d C m ∧ VA X Z (e :: es) δ μ1 fun xs μ2 => S (d :: (xs ++ dds)) μ2 P Z.R) (hk : k ≤ j := by first | assumption | decide | omega)
    (hst : starEach (e :: es) X.env = (false, eval e X.env) :: starEach es X.env := by rfl) (hpl : (backTo pos (starEach es X.env)).any (·.1) = false := by rfl)
    (ht : eval (.Call (.Attribute o m apos) (e :: es) [] pos) X.env = (do
      let ov ← eval o X.env
      standAt apos.atName
      let (f, first) ← holding [ov] (getMethod ov m pl)
      callWith pos f first (backTo pos (starEach (e :: es) X.env)) (backToKw pos (keywordEach [] X.env))) := by rfl) :
    VE X Z (.Call (.Attribute o m apos) (e :: es) [] pos) δ μ P := by
  obtain ⟨f, fd, ps, ds, dvs, cl, me, F, b, d, r⟩ := c.ex
  exact ve_of (pe_meth (pl := pl) pe_r cl me F (fx.rm.mono hk) b d fx.ps pa_r hst hpl ht) (we_meth r h)
theorem ve_meth0 (pl : Sem Bool) (c : Met X.prog X.w X.K X.mg X.base k C m S dds) (fx : Fx X Z j) (h : VE X Z o δ μ fun d μ1 => InsAt μ1 d C m ∧ S (d :: dds) μ1 P Z.R) (hk : k ≤ j := by first | assumption | decide | omega)
    (ht : eval (.Call (.Attribute o m apos) [] [] pos) X.env = (do
      let ov ← eval o X.env
      standAt apos.atName
      let (f, first) ← holding [ov] (getMethod ov m pl)
      callWith pos f first (backTo pos (starEach [] X.env)) (backToKw pos (keywordEach [] X.env))) := by rfl) :
    VE X Z (.Call (.Attribute o m apos) [] [] pos) δ μ P := by
  obtain ⟨f, fd, ps, ds, dvs, cl, me, F, b, d, r⟩ := c.ex
  exact ve_of (pe_meth0 (pl := pl) pe_r cl me F (fx.rm.mono hk) b d fx.ps ht) (we_meth r (h.imp fun d μ1 ⟨i, q⟩ => ⟨i, wa_nil q⟩))
theorem ve_make (c : Mak X.prog X.w X.K X.mg X.base k x C S dds) (fx : Fx X Z j) (h : VA X Z (e :: es) δ μ fun xs μ1 => ∀ l, S (.ref l :: (xs ++ dds)) (μ1 ++ [(l, .ins C [])]) (fun d μ2 => d = .non ∧ P (.ref l) μ2) Z.R) (hk : k + 1 ≤ j := by first | assumption | decide | omega) (hg : Gl X x := by rfl)
    (hdb : (x == ("__debug__" : Str)) = false := by decide) (he : starEach (e :: es) X.env = (false, eval e X.env) :: starEach es X.env := by rfl) (hpl : (backTo pos (starEach es X.env)).any (·.1) = false := by rfl) :
    VE X Z (.Call (.Name x p) (e :: es) [] pos) δ μ P := by
  obtain ⟨f, fd, ps, ds, dvs, M, F, hm, b, d, r⟩ := c.ex
  exact ve_of (pe_make M F (fx.rm.mono hk) hg hm b d fx.ps pa_r hdb he hpl) (we_make r h)
/-- an expression's value, a mutable object, is frozen at once -/
theorem ve_frz (j : Nat) {l : Addr} {xs : List D} (h : VE X Z e δ μ fun d μ1 => ∃ l xs, d = .ref l ∧ μ1[j]? = some (l, .lst xs) ∧ P (.lst xs) (μ1.eraseIdx j)) : VE X Z e δ μ P := fun σ F H Q s c k z =>
  h σ F H Q s c (fun v d μ1 F1 H1 ⟨l, xs, e, hj, p⟩ m1 c1 r1 => by
    subst e
    obtain ⟨_, vs, hl, rv⟩ := c1.mu _ (mem_at hj)
    cases r1
    have m2 := mv_frz hj hl c1
    exact k _ _ _ _ _ p (m1.trans m2) (cm_frz hj hl c1) (.lst upd_same (rv.mono m2.up))) z
theorem ve_frzI (h : VE X Z e δ μ fun d μ1 => ∃ (j : Nat) (l C : Addr) (fs : List (Str × D)), d = .ref l ∧ μ1[j]? = some (l, .ins C fs) ∧ P (.ins C fs) (μ1.eraseIdx j)) : VE X Z e δ μ P := fun σ F H Q s c k z =>
  h σ F H Q s c (fun v d μ1 F1 H1 ⟨j, l, C, fs, e, hj, p⟩ m1 c1 r1 => by
    subst e
    obtain ⟨_, dx, fv, hl, rv⟩ := c1.mu _ (mem_at hj)
    cases r1
    have m2 := mv_frz hj hl c1
    exact k _ _ _ _ _ p (m1.trans m2) (cm_frz hj hl c1) (.ins upd_same (rv.mono m2.up))) z
end
end VL
set_option Elab.async false
set_option linter.all false
set_option maxRecDepth 100000
set_option maxHeartbeats 4000000
/-! VL8: comprehensions that change nothing; all([..]). -/
namespace VL
open PySem PySem.Spec PyProof.Rows L2
section
variable {X : Cx} {Z : Wish} {δ : Env} {μ : Store} {tg iter elt : Expr} {ifs : List Expr} {pos p py pt : Pos} {y : Str} {α : Type}
/-- one turn of a comprehension that changes nothing: the item d gives r (none: left out) -/
abbrev Turn1 (X : Cx) (sc : Scope) (tg : Expr) (ifs : List Expr) (elt : Expr) (js : List Nat) (δ : Env) (μ : Store) (d : D) (r : Option D) : Prop :=
  ∀ q, VG (bk X sc q) Wish.no tg js d δ μ fun δ2 μ2 => ∀ q, VIf (bk X sc q) Wish.no ifs δ2 μ2 fun b μ3 => if b = true then ∀ q, VE (bk X sc q) Wish.no elt δ2 μ3 fun y μ4 => r = some y ∧ μ4 = μ else r = none ∧ μ3 = μ
theorem turns_of {sc : Scope} {js : List Nat} {ds : List D} (fn : Nat → Option D) (h : ∀ i d, ds[i]? = some d → Turn1 X sc tg ifs elt js δ μ d (fn i)) :
    Turns X sc tg ifs elt js δ ds fun i acc μ' => acc = (List.range i).filterMap fn ∧ μ' = μ := fun i d acc μ' hi ⟨ha, hm⟩ q => by
  subst hm
  refine fun v σ F H Q s c r k z => h i d hi q v σ F H Q s c r (fun σ' δ' μ2 F' H' h2 e m c s' => k σ' δ' μ2 F' H' (fun q2 => ?_) e m c s') z
  refine WT.imp (h2 q2) fun b μ3 h3 => ?_
  have e1 : (List.range (i + 1)).filterMap fn = (List.range i).filterMap fn ++ (fn i).toList := by
    rw [List.range_succ, List.filterMap_append]
    cases e : fn i <;> simp [List.filterMap, e]
  cases b with
  | false =>
    simp only [Bool.false_eq_true, if_false] at h3 ⊢
    exact ⟨by rw [e1, h3.1, ha]; simp, h3.2⟩
  | true =>
    simp only [if_true] at h3 ⊢
    intro q3
    refine WE.imp (h3 q3) fun y μ4 h4 => ?_
    exact ⟨by rw [e1, h4.1, ha]; simp, h4.2⟩
theorem range_filterMap {as : List α} {fn : α → Option D} : (List.range as.length).filterMap (fun i => (as[i]?).bind fn) = as.filterMap fn := by
  induction as with
  | nil => rfl
  | cons a as ih =>
    rw [List.length_cons, List.range_succ_eq_map, List.filterMap_cons, List.filterMap_map, List.filterMap_cons]
    have e : ((fun i => ((a :: as)[i]?).bind fn) ∘ Nat.succ) = fun i => (as[i]?).bind fn := by funext i; simp
    rw [e, ih]
    rfl
/-- [elt for tg in iter if ..], pure: each item g a gives fn a -/
theorem ve_lcF {sc : Scope} {js : List Nat} (own : List (Str × Nat)) {Q : D → Store → Prop} (k : Kx X) (h : VI X Z tg iter δ μ fun ds μ1 => ∃ (as : List α) (g : α → D) (fn : α → Option D), ds = as.map g ∧ as.length ≤ 100000 ∧
      (∀ a ∈ as, Turn1 X sc tg ifs elt js (wipeD δ (own.map (·.2))) μ1 (g a) (fn a)) ∧ Q (.lst (as.filterMap fn)) μ1)
    (ok : BlkOk X.N X.env.scope sc own := by exact blkOk_by (by kernel_rfl)) (hj : ∀ i ∈ js, i ∈ own.map (·.2) := by decide) (hs : ∀ x, foldedSetIterable iter X.env x = pure x := by intro _; rfl) :
    VE X Z (.ListComp elt [⟨tg, iter, ifs, 0⟩] sc pos) δ μ Q := by
  refine ve_lc own k (fun σ F H R s c kk z => h σ F H R s c (fun J ds μ1 F1 H1 ⟨as, g, fn, e, hl, ht, q⟩ m1 c1 it => kk J ds μ1 F1 H1 ⟨by rw [e, List.length_map]; exact hl, _, ⟨rfl, rfl⟩, turns_of (fun i => (as[i]?).bind fn) fun i d hi => ?_, ?_⟩ m1 c1 it) z) ok hj hs
  · subst e
    rw [List.getElem?_map] at hi
    cases ha : as[i]? with
    | none => rw [ha] at hi; cases hi
    | some a =>
      rw [ha] at hi
      cases hi
      exact ht a (List.mem_of_getElem? ha)
  · rintro acc μ' ⟨rfl, rfl⟩
    rw [e, List.length_map, range_filterMap]
    exact q
theorem vs_setLcF (i : Nat) {sc : Scope} {js : List Nat} (own : List (Str × Nat)) {P : Fl → Store → Prop} (k : Kx X) (h : VI X Z tg iter δ μ fun ds μ1 => ∃ (as : List α) (g : α → D) (fn : α → Option D), ds = as.map g ∧ as.length ≤ 100000 ∧
      (∀ a ∈ as, Turn1 X sc tg ifs elt js (wipeD δ (own.map (·.2))) μ1 (g a) (fn a)) ∧ P (.nx ((δ : List (Option D)).set i (some (.lst (as.filterMap fn))))) μ1) (hi : (X.N : List Str)[i]? = some y := by rfl) (hyl : X.env.scope.names.lookup y = some .local := by rfl)
    (hsw : swapsWith (.ListComp elt [⟨tg, iter, ifs, 0⟩] sc p) (some (.Name y py)) pos.line X.env = pure true := by rfl) (ok : BlkOk X.N X.env.scope sc own := by exact blkOk_by (by kernel_rfl)) (hj : ∀ i ∈ js, i ∈ own.map (·.2) := by decide) (hs : ∀ x, foldedSetIterable iter X.env x = pure x := by intro _; rfl) :
    VS X Z (.Assign [.Name y py] (.ListComp elt [⟨tg, iter, ifs, 0⟩] sc p) pos) δ μ P := by
  refine vs_setLc i own k (fun σ F H R s c kk z => h σ F H R s c (fun J ds μ1 F1 H1 ⟨as, g, fn, e, hl, ht, q⟩ m1 c1 it => kk J ds μ1 F1 H1 ⟨by rw [e, List.length_map]; exact hl, _, ⟨rfl, rfl⟩, turns_of (fun i => (as[i]?).bind fn) fun i d hi => ?_, ?_⟩ m1 c1 it) z) hi hyl hsw ok hj hs
  · subst e
    rw [List.getElem?_map] at hi
    cases ha : as[i]? with
    | none => rw [ha] at hi; cases hi
    | some a =>
      rw [ha] at hi
      cases hi
      exact ht a (List.mem_of_getElem? ha)
  · rintro acc μ' ⟨rfl, rfl⟩
    rw [e, List.length_map, range_filterMap]
    exact q
theorem fm_map {as : List α} {f : α → D} : as.filterMap (fun a => some (f a)) = as.map f := by rw [← List.filterMap_eq_map]; rfl
end
end VL
set_option Elab.async false
set_option linter.all false
set_option maxRecDepth 100000
set_option maxHeartbeats 4000000
/-! VL9: tests and operators that change nothing; small leaves. -/
namespace VL
open PySem PySem.Spec PyProof.Rows L2
section
variable {X : Cx} {Z : Wish} {δ : Env} {μ : Store} {a b c e o : Expr} {es rest : List Expr} {pos p p' apos : Pos} {x : Str} {ka kb : Bool}
/-! ### and, or, chains: each part a bool known beforehand, the store as it is -/
abbrev IsB (k : Bool) (μ : Store) : D → Store → Prop := fun d μ1 => d = .bl k ∧ μ1 = μ
abbrev IsT (k : Bool) (μ : Store) : Bool → Store → Prop := fun d μ1 => d = k ∧ μ1 = μ
theorem ve_and2 {P : D → Store → Prop} (h1 : VE X Z a δ μ fun d μ1 => d = .bl ka ∧ μ1 = μ) (h2 : ka = true → VE X Z (.BoolOp .And (b :: rest) pos) δ μ fun d μ1 => d = .bl kb ∧ μ1 = μ) (q : P (.bl (ka && kb)) μ) : VE X Z (.BoolOp .And (a :: b :: rest) pos) δ μ P :=
  ve_and (WE.imp h1 fun d μ1 ⟨e, m⟩ => by
    subst e; subst m
    refine ⟨ka, rfl, ?_⟩
    cases ka with
    | true => exact WE.imp (h2 rfl) fun d μ1 ⟨e, m⟩ => by subst e; subst m; exact q
    | false => exact q)
theorem ve_or2 {P : D → Store → Prop} (h1 : VE X Z a δ μ fun d μ1 => d = .bl ka ∧ μ1 = μ) (h2 : ka = false → VE X Z (.BoolOp .Or (b :: rest) pos) δ μ fun d μ1 => d = .bl kb ∧ μ1 = μ) (q : P (.bl (ka || kb)) μ) : VE X Z (.BoolOp .Or (a :: b :: rest) pos) δ μ P :=
  ve_or (WE.imp h1 fun d μ1 ⟨e, m⟩ => by
    subst e; subst m
    refine ⟨ka, rfl, ?_⟩
    cases ka with
    | false => exact WE.imp (h2 rfl) fun d μ1 ⟨e, m⟩ => by subst e; subst m; exact q
    | true => exact q)
theorem vw_and2 {P : Bool → Store → Prop} (h1 : VT X Z a δ μ fun d μ1 => d = ka ∧ μ1 = μ) (h2 : ka = true → VW X Z (.BoolOp .And (b :: rest) pos) δ μ fun d μ1 => d = kb ∧ μ1 = μ) (q : P (ka && kb) μ) : VW X Z (.BoolOp .And (a :: b :: rest) pos) δ μ P :=
  vw_and (WT.imp h1 fun d μ1 ⟨e, m⟩ => by
    subst e; subst m
    cases d with
    | true => exact WT.imp (h2 rfl) fun d μ1 ⟨e, m⟩ => by subst e; subst m; exact q
    | false => exact q)
theorem vw_or2 {P : Bool → Store → Prop} (h1 : VT X Z a δ μ fun d μ1 => d = ka ∧ μ1 = μ) (h2 : ka = false → VW X Z (.BoolOp .Or (b :: rest) pos) δ μ fun d μ1 => d = kb ∧ μ1 = μ) (q : P (ka || kb) μ) : VW X Z (.BoolOp .Or (a :: b :: rest) pos) δ μ P :=
  vw_or (WT.imp h1 fun d μ1 ⟨e, m⟩ => by
    subst e; subst m
    cases d with
    | false => exact WT.imp (h2 rfl) fun d μ1 ⟨e, m⟩ => by subst e; subst m; exact q
    | true => exact q)
theorem vt_and2 {P : Bool → Store → Prop} (h1 : VT X Z a δ μ fun d μ1 => d = ka ∧ μ1 = μ) (h2 : ka = true → VW X Z (.BoolOp .And (b :: rest) pos) δ μ fun d μ1 => d = kb ∧ μ1 = μ) (q : P (ka && kb) μ) : VT X Z (.BoolOp .And (a :: b :: rest) pos) δ μ P := vt_w (vw_and2 h1 h2 q)
theorem vt_or2 {P : Bool → Store → Prop} (h1 : VT X Z a δ μ fun d μ1 => d = ka ∧ μ1 = μ) (h2 : ka = false → VW X Z (.BoolOp .Or (b :: rest) pos) δ μ fun d μ1 => d = kb ∧ μ1 = μ) (q : P (ka || kb) μ) : VT X Z (.BoolOp .Or (a :: b :: rest) pos) δ μ P := vt_w (vw_or2 h1 h2 q)
abbrev IsD (x : D) (μ : Store) : D → Store → Prop := fun d μ1 => d = x ∧ μ1 = μ
theorem ve_chain2 {op op' : CmpOp} {r r' : R2} {x y : D} {P : D → Store → Prop} (hc : CmpR X op r) (hc' : CmpR X op' r') (h1 : VE X Z a δ μ fun d μ1 => d = x ∧ μ1 = μ) (h2 : VE X Z b δ μ fun d μ1 => d = y ∧ μ1 = μ) (h3 : WOp X.K Z r x y μ fun d μ1 => d = .bl ka ∧ μ1 = μ)
    (h4 : ka = true → VE X Z c δ μ fun w μ4 => WOp X.K Z r' y w μ4 fun d μ5 => d = .bl kb ∧ μ5 = μ) (q : P (.bl (ka && kb)) μ) (hm : lastMarks [op, op'] [b, c] = false := by with_unfolding_all rfl) : VE X Z (.Compare a [op, op'] [b, c] pos) δ μ P :=
  ve_chain hc hc' (WE.imp h1 fun d μ1 ⟨e, m⟩ => by
    subst e; subst m
    refine WE.imp h2 fun d μ1 ⟨e, m⟩ => ?_
    subst e; subst m
    intro v u F H Q c r1 r2 k zz
    refine h3 v u F H Q c r1 r2 (fun w d μ' F' H' ⟨e, m⟩ mv c' r' => k w d μ' F' H' ⟨ka, e, ?_⟩ mv c' r') zz
    subst m
    cases ka with
    | false => exact q
    | true =>
      refine WE.imp (h4 rfl) fun w μ4 hh => ?_
      intro v u F H Q c r1 r2 k zz
      exact hh v u F H Q c r1 r2 (fun w d μ' F' H' ⟨e, m⟩ mv c' r' => k w d μ' F' H' (by subst e; subst m; exact q) mv c' r') zz) hm
theorem vt_chain2 {op op' : CmpOp} {r r' : R2} {x y : D} {P : Bool → Store → Prop} (hc : CmpR X op r) (hc' : CmpR X op' r') (h1 : VE X Z a δ μ fun d μ1 => d = x ∧ μ1 = μ) (h2 : VE X Z b δ μ fun d μ1 => d = y ∧ μ1 = μ) (h3 : WOp X.K Z r x y μ fun d μ1 => d = .bl ka ∧ μ1 = μ)
    (h4 : ka = true → VE X Z c δ μ fun w μ4 => WOp X.K Z r' y w μ4 fun d μ5 => d = .bl kb ∧ μ5 = μ) (q : P (ka && kb) μ) (hm : lastMarks [op, op'] [b, c] = false := by with_unfolding_all rfl) : VT X Z (.Compare a [op, op'] [b, c] pos) δ μ P :=
  vt_chain hc hc' (WE.imp h1 fun d μ1 ⟨e, m⟩ => by
    subst e; subst m
    refine WE.imp h2 fun d μ1 ⟨e, m⟩ => ?_
    subst e; subst m
    intro v u F H Q c r1 r2 k zz
    refine h3 v u F H Q c r1 r2 (fun w d μ' F' H' ⟨e, m⟩ mv c' r' => k w d μ' F' H' ⟨ka, e, ?_⟩ mv c' r') zz
    subst m
    cases ka with
    | false => exact q
    | true =>
      refine WE.imp (h4 rfl) fun w μ4 hh => ?_
      intro v u F H Q c r1 r2 k zz
      exact hh v u F H Q c r1 r2 (fun w d μ' F' H' ⟨e, m⟩ mv c' r' => k w d μ' F' H' ⟨kb, e, by subst m; exact q⟩ mv c' r') zz) hm
theorem ve_ifS {P : D → Store → Prop} (h : VT X Z c δ μ fun k μ1 => (k = true → VE X Z a δ μ1 P) ∧ (k = false → VE X Z b δ μ1 P)) : VE X Z (.IfExp c a b pos) δ μ P :=
  ve_if (WT.imp h fun k μ1 q => by
    cases k with
    | true => exact q.1 rfl
    | false => exact q.2 rfl)
/-! ### methods -/
theorem ve_append {P : D → Store → Prop} (h : VE X Z o δ μ fun x μ1 => (∀ v F H, Cm X.K F H μ1 → Rep X.K F v x → tyV X.K "list" v H) ∧ VA X Z (e :: es) δ μ1 fun xs μ2 => WM X.K Z "list" rAppend x xs μ2 P)
    (hbase : attributeBase o "append" X.env (eval o X.env) = eval o X.env := by rfl) (hline : (apos.endLine == p.line) = true := by rfl)
    (hfew : ((backTo p (starEach (e :: es) X.env)).all (fun x => !x.1) && (backToKw p (keywordEach [] X.env)).all (fun x => x.1.isSome)
      && decide ((e :: es).length + ([] : List Keyword).length + (if ([] : List Keyword).isEmpty then 0 else 1) < 30)) = true := by rfl)
    (hs : starEach (e :: es) X.env = (false, eval e X.env) :: starEach es X.env := by rfl) (hplain : (backTo p (starEach es X.env)).any (·.1) = false := by rfl) : VE X Z (.Call (.Attribute o "append" apos) (e :: es) [] p) δ μ P :=
  ve_of (pe_bm F.plainAttrs_list F.slot_list_append F.type_list_append mt_append pe_r pa_r hbase hfew hline hs hplain) (we_bm h)
theorem ve_extend {P : D → Store → Prop} (h : VE X Z o δ μ fun x μ1 => (∀ v F H, Cm X.K F H μ1 → Rep X.K F v x → tyV X.K "list" v H) ∧ VA X Z (e :: es) δ μ1 fun xs μ2 => WM X.K Z "list" rExtend x xs μ2 P)
    (hbase : attributeBase o "extend" X.env (eval o X.env) = eval o X.env := by rfl) (hline : (apos.endLine == p.line) = true := by rfl)
    (hfew : ((backTo p (starEach (e :: es) X.env)).all (fun x => !x.1) && (backToKw p (keywordEach [] X.env)).all (fun x => x.1.isSome)
      && decide ((e :: es).length + ([] : List Keyword).length + (if ([] : List Keyword).isEmpty then 0 else 1) < 30)) = true := by rfl)
    (hs : starEach (e :: es) X.env = (false, eval e X.env) :: starEach es X.env := by rfl) (hplain : (backTo p (starEach es X.env)).any (·.1) = false := by rfl) : VE X Z (.Call (.Attribute o "extend" apos) (e :: es) [] p) δ μ P :=
  ve_of (pe_bm F.plainAttrs_list F.slot_list_extend F.type_list_extend mt_extend pe_r pa_r hbase hfew hline hs hplain) (we_bm h)
theorem ve_pop {P : D → Store → Prop} (h : VE X Z o δ μ fun x μ1 => (∀ v F H, Cm X.K F H μ1 → Rep X.K F v x → tyV X.K "list" v H) ∧ VA X Z (e :: es) δ μ1 fun xs μ2 => WM X.K Z "list" rPopAt x xs μ2 P)
    (hbase : attributeBase o "pop" X.env (eval o X.env) = eval o X.env := by rfl) (hline : (apos.endLine == p.line) = true := by rfl)
    (hfew : ((backTo p (starEach (e :: es) X.env)).all (fun x => !x.1) && (backToKw p (keywordEach [] X.env)).all (fun x => x.1.isSome)
      && decide ((e :: es).length + ([] : List Keyword).length + (if ([] : List Keyword).isEmpty then 0 else 1) < 30)) = true := by rfl)
    (hs : starEach (e :: es) X.env = (false, eval e X.env) :: starEach es X.env := by rfl) (hplain : (backTo p (starEach es X.env)).any (·.1) = false := by rfl) : VE X Z (.Call (.Attribute o "pop" apos) (e :: es) [] p) δ μ P :=
  ve_of (pe_bm F.plainAttrs_list F.slot_list_pop F.type_list_pop mt_popAt pe_r pa_r hbase hfew hline hs hplain) (we_bm h)
theorem ve_bits {P : D → Store → Prop} (h : VE X Z o δ μ fun d μ1 => ∃ i, d = .int i ∧ P (.int (Builtin.Int.intBits i : Nat)) μ1)
    (hbase : attributeBase o "bit_length" X.env (eval o X.env) = eval o X.env := by rfl) (hline : (apos.endLine == p.line) = true := by rfl) : VE X Z (.Call (.Attribute o "bit_length" apos) [] [] p) δ μ P :=
  ve_of (pe_bits pe_r hbase hline) (we_bits h)
end
section
variable {K : PySem.W.Frag} {Z : Wish} {μ : Store} {P : D → Store → Prop}
/-! ### operators -/
theorem wop_eqI {i j : Int} (p : P (.bl (decide (i = j))) μ) : WOp K Z (rEqD K) (.int i) (.int j) μ P := wop_eq rfl rfl (by
  have e : eqv (.int i) (.int j) = decide (i = j) := by rw [Bool.eq_iff_iff]; simp [eqv, toPy, PyData.eqv]
  rw [e]; exact p)
theorem wop_neI {i j : Int} (p : P (.bl (!decide (i = j))) μ) : WOp K Z (rNeD K) (.int i) (.int j) μ P := wop_ne rfl rfl (by
  have e : eqv (.int i) (.int j) = decide (i = j) := by rw [Bool.eq_iff_iff]; simp [eqv, toPy, PyData.eqv]
  rw [e]; exact p)
theorem eqv_str {s t : Str} : eqv (.str s) (.str t) = decide (s = t) := by rw [Bool.eq_iff_iff]; simp [eqv, toPy, PyData.eqv]
theorem eqv_int {i j : Int} : eqv (.int i) (.int j) = decide (i = j) := by rw [Bool.eq_iff_iff]; simp [eqv, toPy, PyData.eqv]
theorem wop_ltI {i j : Int} (p : P (.bl (decide (i < j))) μ) : WOp K Z (rI0 fun i j => .bl (decide (i < j))) (.int i) (.int j) μ P := wop_I0 (fun _ => .bl _) p
theorem wop_leI {i j : Int} (p : P (.bl (decide (i ≤ j))) μ) : WOp K Z (rI0 fun i j => .bl (decide (i ≤ j))) (.int i) (.int j) μ P := wop_I0 (fun _ => .bl _) p
theorem wop_gtI {i j : Int} (p : P (.bl (decide (j < i))) μ) : WOp K Z (rI0 fun i j => .bl (decide (j < i))) (.int i) (.int j) μ P := wop_I0 (fun _ => .bl _) p
theorem wop_geI {i j : Int} (p : P (.bl (decide (j ≤ i))) μ) : WOp K Z (rI0 fun i j => .bl (decide (j ≤ i))) (.int i) (.int j) μ P := wop_I0 (fun _ => .bl _) p
theorem wop_subI {i j : Int} (p : P (.int (i - j)) μ) : WOp K Z (rI0 fun i j => .int (i - j)) (.int i) (.int j) μ P := wop_I0 (fun _ => .int _) p
theorem wop_bandI {i j : Int} (p : P (.int (Builtin.bitAnd i j)) μ) : WOp K Z (rI0 fun i j => .int (Builtin.bitAnd i j)) (.int i) (.int j) μ P := wop_I0 (fun _ => .int _) p
theorem wop_borI {i j : Int} (p : P (.int (Builtin.bitOr i j)) μ) : WOp K Z (rI0 fun i j => .int (Builtin.bitOr i j)) (.int i) (.int j) μ P := wop_I0 (fun _ => .int _) p
theorem wop_fdivI {i j : Int} (h : CDiv i j) (p : P (.int (i / j)) μ) : WOp K Z (rI CDiv fun i j => .int (i / j)) (.int i) (.int j) μ P := wop_I h (fun _ => .int _) p
theorem wop_modI {i j : Int} (h : 0 < j) (p : P (.int (i % j)) μ) : WOp K Z (rI (fun _ j => 0 < j) fun i j => .int (i % j)) (.int i) (.int j) μ P := wop_I h (fun _ => .int _) p
theorem wop_powI {i j : Int} (h : CPow i j) (p : P (.int (i ^ j.toNat)) μ) : WOp K Z (rI CPow fun i j => .int (i ^ j.toNat)) (.int i) (.int j) μ P := wop_I h (fun _ => .int _) p
theorem wop_shlI {i j : Int} (h : CPow i j) (p : P (.int (i * 2 ^ j.toNat)) μ) : WOp K Z (rI CPow fun i j => .int (i * 2 ^ j.toNat)) (.int i) (.int j) μ P := wop_I h (fun _ => .int _) p
theorem wop_shrI {i j : Int} (h : 0 ≤ j) (p : P (.int (i / 2 ^ j.toNat)) μ) : WOp K Z (rI (fun _ j => 0 ≤ j) fun i j => .int (i / 2 ^ j.toNat)) (.int i) (.int j) μ P := wop_I h (fun _ => .int _) p
/-- < of texts -/
def ltS (s t : Str) : Bool := PySem.W.dataLt (.str s) (.str t)
theorem wop_ltS {s t : Str} (hs : PyData.strOk s = true) (ht : PyData.strOk t = true) (p : P (.bl (ltS s t)) μ) : WOp K Z (rLtD K) (.str s) (.str t) μ P := wop_lt (by simp [okD, hs]) (by simp [okD, ht]) rfl (by simp [toPy]) p
end
/-! constants of the module -/
section
variable {X : Cx} {Z : Wish} {δ : Env} {μ : Store} {P : D → Store → Prop} {x : Str} {pos : Pos}
theorem ve_gI {i : Int} {t : Tok} (hm : X.mg x = some (.int i t)) (q : P (.int i) μ) (hg : Gl X x := by rfl) (hd : (x == ("__debug__" : Str)) = false := by decide) : VE X Z (.Name x pos) δ μ P := ve_glob (v := .int i) hm ⟨t, rfl⟩ (fun F => .int i) q hg hd
theorem ve_gS {i : Str} {t : Tok} (hm : X.mg x = some (.str i t)) (q : P (.str i) μ) (hg : Gl X x := by rfl) (hd : (x == ("__debug__" : Str)) = false := by decide) : VE X Z (.Name x pos) δ μ P := ve_glob (v := .str i) hm ⟨t, rfl⟩ (fun F => .str i) q hg hd
theorem ve_gA {a : Addr} (hm : X.mg x = some (.ref a)) (q : P (.ref a) μ) (hg : Gl X x := by rfl) (hd : (x == ("__debug__" : Str)) = false := by decide) : VE X Z (.Name x pos) δ μ P := ve_glob (v := .ref a) hm rfl (fun F => .ref a) q hg hd
end
end VL
set_option Elab.async false
set_option linter.all false
set_option maxRecDepth 100000
set_option maxHeartbeats 4000000
/-! VL10: enumerate over a tuple; zip over tuples. -/
namespace PySem
open Sem (wp)
open AutoSeq1 (wpAny_loadPart')
theorem vl_meets_enumT (l : Addr) (items : Array Value) (n : Nat) (dct : Option Addr) (sl : Array (Option Value)) :
    Meets (Builtin.«enumerate.__new__» ⟨[.type "enumerate", .ref l], []⟩) (fun _ R s => s.heap.get? l = some { cls := .type "tuple", dict := dct, data := .seq items n, slots := sl } ∧
      R (.ok (.ret (.ref (s.heap.push { cls := .type "tuple_iterator", data := .fields #[.ref l, .int 0 0] }).objs.size)))
        { s with heap := (s.heap.push { cls := .type "tuple_iterator", data := .fields #[.ref l, .int 0 0] }).push { cls := .type "enumerate", data := .fields #[.none, .bool false, .ref s.heap.objs.size, rawInt 0, .none, .none] } }) :=
  .of_wp fun prog w A R s h => by
    obtain ⟨hp, g, d, tk, os⟩ := s; obtain ⟨hl, h⟩ := h
    have hsub := sub_enumerate
    have hL : Heap.IsTuple (Shared.heap ⟨hp, g, d, tk, os⟩) l items := ⟨_, hl, rfl, n, rfl⟩
    wp_walk using wpAny_loadPart' hl
    refine wpAny_stack_any fun st => wpAny_pure ?_
    split
    · rename_i c _ _ _ _ _
      cases (c == Value.type "enumerate")
      · wp_walk using wpAny_loadPart' hl, wpAny_pyIter_tuple hL
        exact ⟨_, rfl, h⟩
      · wp_walk using wpAny_loadPart' hl, wpAny_pyIter_tuple hL
        exact ⟨_, rfl, h⟩
    · wp_walk using wpAny_loadPart' hl, wpAny_pyIter_tuple hL
      exact ⟨_, rfl, h⟩
theorem vl_call_enumT {prog : Program} {w : World} {A : Around} {E : Value → Shared → Prop} {s : Shared} {l : Addr} {items : Array Value} {Q : Value → Shared → Prop} (hL : s.heap.IsTuple l items)
    (h : ∀ h', IsEnum h' (s.heap.objs.size + 1) s.heap.objs.size 0 .none → h'.IsTupleIter s.heap.objs.size l 0 → h'.objs.size = s.heap.objs.size + 2 →
      (∀ b o, s.heap.get? b = some o → h'.get? b = some o) → Q (.ref (s.heap.objs.size + 1)) { s with heap := h' }) :
    wpAny (model prog w) A (call (.type "enumerate") [.ref l]) Q E s := by
  obtain ⟨⟨c, dct, dt, sl⟩, hl, hc, n, hd⟩ := hL
  replace hc : c = .type "tuple" := hc
  replace hd : dt = .seq items n := hd
  subst hc hd
  refine callType_new F.called_enumerate (by decide) (F.typeCall_enumerate_1 _) (F.newCall_enumerate_1 _) (fun obj => F.args_object_init_2 obj _) F.entry_enumerate_new
    (vl_meets_enumT l items n dct sl) ⟨hl, ?_⟩
  have hz : (s.heap.push { cls := .type "tuple_iterator", data := .fields #[.ref l, .int 0 0] }).objs.size = s.heap.objs.size + 1 := Heap.size_push ..
  show _ ∧ _
  rw [hz]
  have he : IsEnum ((s.heap.push { cls := .type "tuple_iterator", data := .fields #[.ref l, .int 0 0] }).push
      { cls := .type "enumerate", data := .fields #[.none, .bool false, .ref s.heap.objs.size, rawInt 0, .none, .none] }) (s.heap.objs.size + 1) s.heap.objs.size 0 .none := by
    have := Heap.get?_push_size (s.heap.push { cls := .type "tuple_iterator", data := .fields #[.ref l, .int 0 0] })
      (o := { cls := .type "enumerate", data := .fields #[.none, .bool false, .ref s.heap.objs.size, rawInt 0, .none, .none] }) rfl
    rw [hz] at this; exact this
  refine ⟨⟨_, he, rfl⟩, h _ he ⟨_, Heap.get?_push_of_some _ (Heap.get?_push_size _ rfl), rfl, rfl⟩ (by rw [Heap.size_push, hz]) fun b o x => Heap.get?_push_of_some _ (Heap.get?_push_of_some _ x)⟩
end PySem
namespace L2
open PySem PySem.Spec PyProof.Rows
/-- the tuple at a as it stands at each turn, each item in a new pair -/
def IteT (K : PySem.W.Frag) (a : Addr) : It :=
  ⟨fun i H => ∃ (xs : List V) (x : V), SqT K H a xs ∧ xs[i]? = some x, fun i H v H' => ∃ T x, v = .ref T ∧ H T = none ∧ H' = upd H T (.tup [.int (i : Nat), x]) ∧ ∀ xs, SqT K H a xs → xs[i]? = some x, fun i H => ∃ xs : List V, SqT K H a xs ∧ xs.length ≤ i⟩
theorem turn_enumT {P : Program} {w : World} {K : PySem.W.Frag} {elts : List Expr} {kk : Nat} {tpos : Pos} (a e it : Addr) (hea : e ≠ a) (hia : it ≠ a) :
    Turn P w K (.Tuple elts kk tpos) (IteT K a) [e, it] e (fun i h => (∃ old, IsEnum h e it ((i : Nat) : Int) old) ∧ h.IsTupleIter it a i ∧ e ≠ it) where
  mem := by simp
  obj := fun i h st b hb => by
    obtain ⟨⟨old, he⟩, ⟨o, ho, hc, hd⟩, _⟩ := st
    have e' : b = e ∨ b = it := by simpa using hb
    rcases e' with z | z
    · rw [z]; exact ⟨_, he, fun v q => nomatch q⟩
    · rw [z]; exact ⟨o, ho, fun v q => by rw [hd] at q; cases q⟩
  keep := fun i h h' st k => let ⟨⟨old, he⟩, hi, hne⟩ := st; ⟨⟨old, k e (by simp) _ he⟩, hi.at fun o q => k it (by simp) o q, hne⟩
  item := by
    intro X hP hw hK hc i pins s σ H E I hf st hg
    subst hP hw hK
    obtain ⟨⟨old, he⟩, hit, hne⟩ := st
    obtain ⟨xs, x, hq, hx⟩ := hg
    obtain ⟨its, rv, p, hz⟩ := I.tuple hq
    obtain ⟨u, hu, ru⟩ := rv.get hx
    have hel : e < s.heap.objs.size := Heap.lt_size he
    have hil : it < s.heap.objs.size := by obtain ⟨_, q, _⟩ := hit; exact Heap.lt_size q
    have D := Draws.tuple (prog := X.prog) (w := X.w) (A := X.A.in1) (show X.A.in1.handled = none from I.ok.hd hc) it a (Ne.symm hia) its.toArray
    have p' : s.heap.IsTuple a its.toArray := p
    have hsz0 : i < its.toArray.size := by
      have := (List.getElem?_eq_some_iff.mp hu).1
      simpa using this
    refine wpAny_pyNext_enum_itemD D he ⟨hit, p'⟩ hsz0 hne (by simp [hne, hea]) fun y h' tk hP ho hs' hT hsz hk => ?_
    have hy : y = u := by
      have : its.toArray[i]? = some u := by simpa using hu
      rw [this] at hP
      exact (Option.some.inj hP).symm
    subst hy
    refine ⟨_, rfl, wpAny_letOwnedTupleGo_enum (s := { s with heap := h', toks := tk + 1 }) ho fun h'' he' sb => ?_⟩
    have hT2 : h''.get? s.heap.objs.size = some { cls := .type "tuple", data := .seq #[.int i tk, y] } := (sb.2 _ (Nat.ne_of_gt hel)).trans hT
    have new : ObjOk X.prog X.w (upd H s.heap.objs.size (.tup [.int (i : Nat), x])) h'' s.heap.objs.size (.tup [.int (i : Nat), x]) :=
      ⟨by show 2 ≤ sizeLine; decide, [.int i tk, y], .cons ⟨_, rfl⟩ (.cons ru .nil), ⟨_, hT2, rfl, _, rfl⟩⟩
    have I1 : Inv X pins σ (upd H s.heap.objs.size (.tup [.int (i : Nat), x])) { s with heap := h'', toks := tk + 1 } :=
      I.turnedNew (ch := [e, it]) (fun b ob hb q => (sb.2 b (fun z => hb (by simp [z]))).trans (hk b ob (fun z => hb (by simp [z])) (fun z => hb (by simp [z])) q)) hf (Nat.le_refl _) new
    refine ⟨.ref s.heap.objs.size, _, I1, rfl, ⟨_, x, rfl, I.hok.fresh (Nat.le_refl _), rfl, fun ys hy => by rw [I.tuple_inj hy hq]; exact hx⟩, ⟨⟨y, ?_⟩, hs'.1.at fun o q => (sb.2 it (Ne.symm hne)).trans q, hne⟩, fun b hb => ?_⟩
    · have e1 : ((i + 1 : Nat) : Int) = (i : Int) + 1 := by omega
      rw [e1]; exact he'
    · have hb' : b < s.heap.objs.size := by
        have e' : b = e ∨ b = it := by simpa using hb
        rcases e' with z | z
        · rw [z]; exact hel
        · rw [z]; exact hil
      rw [upd_ne (Nat.ne_of_lt hb')]
      exact (hf b hb).1
  done := by
    intro X hP hw hK hc i pins s σ H E I hf st hg
    subst hP hw hK
    obtain ⟨⟨old, he⟩, hit, hne⟩ := st
    obtain ⟨xs, hq, hx⟩ := hg
    obtain ⟨its, rv, p, hz⟩ := I.tuple hq
    obtain ⟨f0, f1, f2, f3, f4, f5⟩ := hf it (by simp)
    have hl := rv.length
    have p' : s.heap.IsTuple a its.toArray := p
    have hT : s.TypeIs (.ref e) "enumerate" := ⟨_, he, rfl⟩
    unfold pyNext
    refine wpAny_bind (wpAny_attempt (wpAny_callSpecial?_slot (name := Str.ofString "__next__") hT F.slot_enumerate_next
      (wpAny_call_entry F.slot_enumerate_next hT F.entry_enumerate_next ?_ (F.args_enumerate_next_1 _))))
    show wpAny _ _ (field (.ref e) 2 >>= _) _ _ _
    refine wpAny_bind (wpAny_field he rfl (x := .ref it) rfl ?_)
    refine wpAny_bind (wpAny_nextOf_tuple_end (show X.A.in1.handled = none from I.ok.hd hc) hit p' (by simp; omega) fun h' x hx1 hx' => ?_)
    obtain ⟨o, ho, hc'⟩ := hx'
    refine wpAny_bind (wpAny_isInstance (T := "StopIteration") (b := true) ⟨o, ho, hc'⟩ isSubtype_stop ?_)
    exact wpAny_pure ⟨rfl, I.turned (t' := s.toks) (fun b o hb q => hx1 b o hb q) f0 f1 f3 f4 f5⟩
  self := fun A i s Q E st h => let ⟨⟨_, he⟩, _⟩ := st; wpAny_pyIter_enum he h
def iEnumT (K : PySem.W.Frag) (ta : TA) : TI := fun σ H R => ta σ H fun vs H1 => ∃ a xs, vs = [.ref a] ∧ SqT K H1 a xs ∧ R (IteT K a) H1
theorem pi_enumT {X : Cx} {e : Expr} {ta : TA} {p pos tpos : Pos} {elts : List Expr} {kk : Nat} (hg : Gl X "enumerate") (hm : X.mg "enumerate" = none) (ha : PA X [e] ta) (hs : starEach [e] X.env = [(false, eval e X.env)] := by rfl) :
    PI X (.Tuple elts kk tpos) (.Call (.Name "enumerate" p) [e] [] pos) (iEnumT X.K ta) := by
  refine ⟨fun pins s σ H R I h => ?_⟩
  refine Call_ (ld_blt I hg hm boot_enumerate (PyProof.Rows.callWith_type1 (thn (ha.run pos pins s σ H _ I h) fun us s1 ⟨vs, H1, I1, r1, q1⟩ => ?_) hs rfl))
  obtain ⟨a, xs, ex, hq, q⟩ := q1
  subst ex
  cases r1 with
  | cons r rr =>
    cases rr
    cases r
    obtain ⟨its, rv, p', hz⟩ := I1.tuple hq
    have pt : s1.heap.IsTuple a its.toArray := p'
    have hal : a < s1.heap.objs.size := by obtain ⟨_, ho, _⟩ := pt; exact Heap.lt_size ho
    refine vl_call_enumT pt fun h' he hit hsz hk => wpAny_pyIter_enum he ?_
    have I2 : Inv X pins σ H1 { s1 with heap := h' } := I1.kept (t' := s1.toks) hk
    refine ⟨s1.heap.objs.size + 1, [s1.heap.objs.size + 1, s1.heap.objs.size], _, _, H1, rfl, I2, turn_enumT a (s1.heap.objs.size + 1) s1.heap.objs.size (Nat.ne_of_gt (Nat.lt_succ_of_lt hal)) (Nat.ne_of_gt hal), ⟨⟨.none, he⟩, hit, Nat.succ_ne_self _⟩, fun b hb => ?_, q⟩
    have e' : b = s1.heap.objs.size + 1 ∨ b = s1.heap.objs.size := by simpa using hb
    have hle : s1.heap.objs.size ≤ b := by
      rcases e' with z | z
      · rw [z]; exact Nat.le_add_right _ _
      · rw [z]; exact Nat.le_refl _
    exact I1.fpOk hle (I1.hok.fresh hle)
end L2
namespace VL
open PySem PySem.Spec PyProof.Rows L2 RZ
section
variable {K : PySem.W.Frag} {Z : Wish} {δ : Env} {μ : Store}
theorem itd_enumT {F : Hp} {a : Addr} {xs : List V} {ds : List D} (e : SqT K F a xs) (r : Reps K F xs ds) : ItD K F (IteT K a) (numbered ds) := fun μ F' H' i up c => by
  have q : SqT K H' a xs := same_t (up.trans c.ex) e
  refine ⟨fun d hd => ?_, fun hl => ⟨xs, q, by rw [r.length]; rw [numbered_len] at hl; exact hl⟩⟩
  obtain ⟨x, hx, rfl⟩ := numbered_at hd
  obtain ⟨u, hu, ru⟩ := r.get hx
  refine ⟨⟨xs, u, q, hu⟩, fun y H2 ⟨T, w, e1, n, e2, hall⟩ => ?_⟩
  subst e1; subst e2
  have ew : w = u := Option.some.inj ((hall xs q).symm.trans hu)
  subst ew
  have m := mv_new (o := .tup [.int (i : Nat), w]) c n
  exact ⟨_, m, cm_new c n, .tup (SqT.of upd_same) (.cons (.int _) (.cons ((ru.mono up).mono m.up) .nil))⟩
theorem wi_enumT {t : TA} {P : List D → Store → Prop} (h : WA K Z t δ μ fun as μ1 => ∃ ds, as = [.tup ds] ∧ P (numbered ds) μ1) : WI K Z (iEnumT K t) δ μ P := fun σ F H R s c k z =>
  h σ F H _ s c (fun vs as μ1 F1 H1 ⟨ds, e, p⟩ m1 c1 r1 => by
    subst e
    cases r1 with
    | cons r rr =>
      cases rr
      obtain ⟨a, xs, rfl, e, r⟩ := rep_tt r
      exact ⟨a, xs, rfl, same_t c1.ex e, k _ _ μ1 F1 H1 p m1 c1 (itd_enumT e r)⟩) z
theorem itd_zipT {F : Hp} {a b : Addr} {xs ys : List V} {ds es : List D} (e : SqT K F a xs) (r : Reps K F xs ds) (e' : SqT K F b ys) (r' : Reps K F ys es) : ItD K F (ItzT K a b) (paired ds es) := fun μ F' H' i up c => by
  have q : SqT K H' a xs := same_t (up.trans c.ex) e
  have q' : SqT K H' b ys := same_t (up.trans c.ex) e'
  refine ⟨fun d hd => ?_, fun hl => ⟨xs, ys, q, q', ?_⟩⟩
  · unfold paired at hd
    rw [List.getElem?_map] at hd
    cases ez : (ds.zip es)[i]? with
    | none => rw [ez] at hd; cases hd
    | some p =>
      rw [ez] at hd
      obtain ⟨h1, h2⟩ := List.getElem?_zip_eq_some.mp ez
      have ed : d = .tup [p.1, p.2] := (Option.some.inj hd).symm
      subst ed
      obtain ⟨u1, hu1, ru1⟩ := r.get h1
      obtain ⟨u2, hu2, ru2⟩ := r'.get h2
      refine ⟨⟨xs, ys, u1, u2, q, q', hu1, hu2⟩, fun x H2 ⟨T, w1, w2, e1, n, e2, hx, hy⟩ => ?_⟩
      subst e1; subst e2
      have ex : w1 = u1 := Option.some.inj ((hx xs q).symm.trans hu1)
      have ey : w2 = u2 := Option.some.inj ((hy ys q').symm.trans hu2)
      subst ex; subst ey
      have m := mv_new (o := .tup [w1, w2]) c n
      exact ⟨_, m, cm_new c n, .tup (SqT.of upd_same) (.cons ((ru1.mono up).mono m.up) (.cons ((ru2.mono up).mono m.up) .nil))⟩
  · unfold paired at hl
    rw [List.length_map, List.length_zip] at hl
    rw [r.length, r'.length]
    omega
/-- zip of two lists or two tuples -/
theorem wi_zipA {t : TA} {P : List D → Store → Prop} (h : WA K Z t δ μ fun as μ1 => ∃ ds es, (as = [.lst ds, .lst es] ∨ as = [.tup ds, .tup es]) ∧ P (paired ds es) μ1) : WI K Z (iZipA K t) δ μ P := fun σ F H R s c k z =>
  h σ F H _ s c (fun vs as μ1 F1 H1 ⟨ds, es, e, p⟩ m1 c1 r1 => by
    rcases e with e | e
    · subst e
      cases r1 with
      | cons r rr =>
        cases rr with
        | cons r' rr =>
          cases rr
          obtain ⟨a, xs, rfl, e, r⟩ := rep_ll r
          obtain ⟨b, ys, rfl, e', r'⟩ := rep_ll r'
          exact ⟨a, b, xs, ys, rfl, .inl ⟨sq_list c1.ex e, sq_list c1.ex e', k _ _ μ1 F1 H1 p m1 c1 (itd_zip e r e' r')⟩⟩
    · subst e
      cases r1 with
      | cons r rr =>
        cases rr with
        | cons r' rr =>
          cases rr
          obtain ⟨a, xs, rfl, e, r⟩ := rep_tt r
          obtain ⟨b, ys, rfl, e', r'⟩ := rep_tt r'
          exact ⟨a, b, xs, ys, rfl, .inr ⟨same_t c1.ex e, same_t c1.ex e', k _ _ μ1 F1 H1 p m1 c1 (itd_zipT e r e' r')⟩⟩) z
end
section
variable {X : Cx} {Z : Wish} {δ : Env} {μ : Store} {e a b : Expr} {p pt pos : Pos}
theorem vi_enumT {ts : List Expr} {kk : Nat} {Q : List D → Store → Prop} (hm : X.mg "enumerate" = none) (h : VA X Z [e] δ μ fun as μ1 => ∃ ds, as = [.tup ds] ∧ Q (numbered ds) μ1) (hg : Gl X "enumerate" := by rfl) (hs : starEach [e] X.env = [(false, eval e X.env)] := by rfl) :
    VI X Z (.Tuple ts kk pt) (.Call (.Name "enumerate" p) [e] [] pos) δ μ Q := vi_of (pi_enumT hg hm pa_r hs) (wi_enumT h)
theorem vi_zipA {ts : List Expr} {kk : Nat} {Q : List D → Store → Prop} (hm : X.mg "zip" = none) (h : VA X Z [a, b] δ μ fun as μ1 => ∃ ds es, (as = [.lst ds, .lst es] ∨ as = [.tup ds, .tup es]) ∧ Q (paired ds es) μ1) (hg : Gl X "zip" := by rfl)
    (hs : starEach [a, b] X.env = (false, eval a X.env) :: starEach [b] X.env := by rfl) (hpl : (backTo pos (starEach [b] X.env)).any (·.1) = false := by rfl) :
    VI X Z (.Tuple ts kk pt) (.Call (.Name "zip" p) [a, b] [] pos) δ μ Q := vi_of (pi_zipA hg hm pa_r hs hpl) (wi_zipA h)
end
end VL
set_option Elab.async false
set_option linter.all false
set_option maxRecDepth 100000
set_option maxHeartbeats 4000000
/-! VL11: an __init__ that begins by super().__init__(..), in a plain class. -/
namespace L2
open PySem PySem.Spec PyProof.Rows NdefX
theorem look1 {x y : Str} {c d : Addr} (h : List.lookup y [(x, c)] = some d) : y = x ∧ d = c := by
  have m := PySem.mem_of_lookup h
  rw [List.mem_singleton] at m
  exact ⟨congrArg Prod.fst m, congrArg Prod.snd m⟩
/-- what stands behind the top for such an __init__: f its function (NF F), D its class, f2 the __init__ above -/
structure SupF (P : Program) (K : PySem.W.Frag) (mg : Str → Option Value) (f : Addr) (F : NF) (D f2 cc : Addr) : Prop where
  fn : ∃ (oc : Value) (od : Option Addr) (osl : Array (Option Value)) (doc pm ctv : Value), K.lookup f = some ⟨oc, od, .func (F.fd doc pm ctv), osl⟩
  cl : F.cl = [(("__class__" : Str), cc)]
  code : PySem.W.codeIn K (.ref F.c) F.qual = true
  crec : ∃ (ccl : Value) (cdd : Option Addr) (ccs : Array (Option Value)) (vs : Array Value) (file : Str) (tf : Tok), K.lookup F.c = some ⟨ccl, cdd, .fields vs, ccs⟩ ∧ vs[2]? = some (.str file tf) ∧ ((P.main.file : Str) == file) = true
  cell : ∃ (cl : Value) (cld : Option Addr) (csl : Array (Option Value)), K.lookup cc = some ⟨cl, cld, .cell (some (.ref D)), csl⟩
  cls : ∃ cd, PySem.W.clsIn K D = some cd
  sub : PySem.W.mroIn K D (.ref D) = some true
  sup : mg "super" = none
  top : (P.main.scope.names.lookup ("super" : Str)).isSome = false
  opq : PySem.W.nsIn K cStatics "thirdparty.any" = some none
  up : PySem.W.ks_superIn K D D "__init__" = some (some (.ref f2))
  ty : PySem.W.typeIn K (.ref f2) = some (.type "function")
  fi : PySem.W.fnIn K f2 = true
  cD : Cls K D
theorem vl_super {P : Program} {w : World} {K : PySem.W.Frag} {mg : Str → Option Value} {base : Heap} {k : Nat} {F : NF} {f f2 D cc : Addr} {N ps : List Str} {sp sp2 : Sp} {e : Expr} {es : List Expr} {rest : List Stmt} {p0 p1 ap pos spos : Pos} {self : Str} (U : SupF P K mg f F D f2 cc)
    (hbd : F.body = .Expr (.Call (.Attribute (.Call (.Name "super" p0) [] [] p1) "__init__" ap) (e :: es) [] pos) spos :: rest)
    (S : NScope N (self :: ps) ["__class__"] F.scope) (hks : F.scope.names.lookup ("super" : Str) = some .globalImplicit) (hps : (F.params.posonlyargs ++ F.params.args).head?.map (·.arg) = some self)
    (hb : ∀ (doc pm ctv : Value) (us : List Value), us.length = (self :: ps).length → bindArgs (F.fd doc pm ctv) ⟨us, []⟩ = pure ((self :: ps).zip us)) (F2 : FnR P w K mg base (L2.CX P w) k f2 sp2)
    (hbody : ∀ (A : Around) (outer : List Env) (s : Shared) (H : Hp) (vs : List V) (Q : VK) (E : XK), Room k (A.deeper (envF F f s.heap.objs.size)) → sp vs H Q E →
      ∃ (t : TA) (tr : TS) (x dx : Addr) (fs : List (Str × V)) (ws : List V), vs = .ref x :: ws ∧ ws.length = ps.length ∧ H x = some (.ins D dx fs) ∧ PA (ncx (L2.CX P w) P w K mg base N F f A outer s H E) (e :: es) t ∧ PSs (ncx (L2.CX P w) P w K mg base N F f A outer s H E) rest tr ∧
        starEach (e :: es) (envF F f s.heap.objs.size) = (false, eval e (envF F f s.heap.objs.size)) :: starEach es (envF F f s.heap.objs.size) ∧ (backTo pos (starEach es (envF F f s.heap.objs.size))).any (·.1) = false ∧
        swapsWith (.Call (.Attribute (.Call (.Name "super" p0) [] [] p1) "__init__" ap) (e :: es) [] pos) none spos.line (envF F f s.heap.objs.size) = pure false ∧
        (∃ pl : Sem Bool, eval (.Call (.Attribute (.Call (.Name "super" p0) [] [] p1) "__init__" ap) (e :: es) [] pos) (envF F f s.heap.objs.size) = (do
          let ov ← attributeBase (.Call (.Name "super" p0) [] [] p1) "__init__" (envF F f s.heap.objs.size) (eval (.Call (.Name "super" p0) [] [] p1) (envF F f s.heap.objs.size))
          standAt ap.atName
          let (fn, first) ← holding [ov] (getMethod ov "__init__" pl)
          callWith pos fn first (backTo pos (starEach (e :: es) (envF F f s.heap.objs.size))) [])) ∧
        ∀ q, H q = none → t (startF N vs [none]) (upd H q (.met f2 x)) fun us H1 => H1 q = some (.met f2 x) ∧ sp2 (.ref x :: us) H1 (fun v H2 => tr { nx := fun _ H' => Q .non H', rt := Q } (startF N vs [none]) H2) E)
    (hx : ∀ (A : Around) (outer : List Env) (s : Shared) (H : Hp) (E : XK), Passes (L2.CX P w) (ncx (L2.CX P w) P w K mg base N F f A outer s H E) E) :
    FnR P w K mg base (L2.CX P w) (k + 1) f sp := by
  intro A outer s H us vs Q E hr e0 r hsp
  have KX : K.In s.heap := e0.mod.kin.keeps fun b o e => (e0.bs b o e).1
  have lim : s.heap.NoLimit := e0.mod.nolimit.keeps fun b o e => (e0.bs b o e).1
  obtain ⟨t, tr, x, dx, fs, ws, ev, hl, hx0, pa, pss, hst, hpl, hsw, ⟨pl, hev⟩, hq⟩ := hbody A outer s H vs Q E (hr.deeper _) hsp
  subst ev
  obtain ⟨oc, od, osl, doc, pm, ctv, hf⟩ := U.fn
  obtain ⟨cl', cld, csl, hcell⟩ := U.cell
  have ul : us.length = (self :: ps).length := by rw [← r.length]; simp [hl]
  refine codeAny_call_function hr.depth (KX _ _ hf) rfl S.co S.gen rfl (PySem.W.codeRec_of KX U.code) ?_
  rw [hb doc pm ctv us ul]
  refine wpAny_pure (wpAny_newFunctionEnv S.nocell (fun ⟨n, _⟩ hy => S.par n (List.of_mem_zip hy).1) (fun h₁ hns hsb => ⟨lim.fresh _ hsb, ?_⟩) S.kind)
  show codeAny _ _ (.func F.body (envF F f s.heap.objs.size)) _ _
  have kp : ∀ b o, s.heap.get? b = some o → h₁.get? b = some o := fun b o e => hsb.extBut b o (Nat.ne_of_lt (Heap.lt_size e)) (Heap.get?_push_of_some _ e)
  have CA : CellsAt F.cl ["__class__"] [none] s.heap H := by
    rw [U.cl]
    have hb0 := e0.mod.kin cc _ hcell
    refine ⟨rfl, fun y c hy => ?_, fun x y c h1 h2 => (look1 h1).1.trans (look1 h2).1.symm, fun i y hy => ?_⟩
    · obtain ⟨_, rfl⟩ := look1 hy
      exact ⟨(e0.bs _ _ hb0).2, _, _, (e0.bs _ _ hb0).1, rfl⟩
    · match i, hy with
      | 0, hy =>
        have hy : ("__class__" : Str) = y := Option.some.inj hy
        subst hy
        exact ⟨cc, by simp, fun v hv => by simp at hv⟩
  have I : Inv (ncx (L2.CX P w) P w K mg base N F f A outer s H E) [] (startF N (.ref x :: ws) [none]) H { s with heap := h₁, toks := s.toks + ((self :: ps).zip us).length } := inv_startN S hr.hd e0 (by simp [hl]) r CA hns kp
  have hxx := hx A outer s H E
  rw [hbd]
  refine ks_codeAny_funcAt ?_
  refine ks_wpAt_execs_cons ?_
  refine ks_wpAt_mono (ks_wpAt_Expr_any (Q := fun fl s' => fl = .next ∧ ∃ H2, Inv (ncx (L2.CX P w) P w K mg base N F f A outer s H E) [] (startF N (.ref x :: ws) [none]) H2 s' ∧ tr { nx := fun _ H' => Q .non H', rt := Q } (startF N (.ref x :: ws) [none]) H2) (E := (ncx (L2.CX P w) P w K mg base N F f A outer s H E).xe) ?_ I.quiet hsw) (fun fl s' hfl => ?_) fun e' s' he' => he'
  rotate_left
  · obtain ⟨rfl, H2, I2, hq2⟩ := hfl
    refine wpAt_of_wpAny ?_
    refine wpAny_mono (pss.run [] s' _ H2 _ I2 hq2) (fun fl s' hs => ?_) fun e s' hs => hs
    have fin : ∀ {σ' : L2.St} {H' : Hp} {v : V} {u : Value}, Inv (ncx (L2.CX P w) P w K mg base N F f A outer s H E) [] σ' H' s' → L2.RelV v u → Q v H' → CE outer P w H s Q u s' :=
      fun {σ' H' v u} J rv q => ⟨v, H', J.os, J.bare, J.base, J.hok, rv, q⟩
    cases fl with
    | ret u =>
      obtain ⟨v, σ', H', J, rv, q⟩ := hs
      exact fin J rv q
    | next =>
      obtain ⟨σ', H', J, q⟩ := hs
      exact fin (v := V.non) (u := Value.none) J rfl q
    | brk =>
      obtain ⟨_, _, _, q⟩ := hs
      exact False.elim q
    | cont =>
      obtain ⟨_, _, _, q⟩ := hs
      exact False.elim q
  · refine ks_wpAt_MethodCall (pl := pl) ?_ hev
    obtain ⟨ccl, cdd, ccs, vs0, file, tf, hcode, hvs, hfile⟩ := U.crec
    obtain ⟨ar, har, harn⟩ : ∃ ar : Arg, (F.params.posonlyargs ++ F.params.args).head? = some ar ∧ ar.arg = self := by
      cases z : (F.params.posonlyargs ++ F.params.args).head? with
      | none => rw [z] at hps; cases hps
      | some ar => rw [z] at hps; exact ⟨ar, rfl, Option.some.inj hps⟩
    have X1 : K.In h₁ := KX.keeps kp
    have hkc : F.scope.names.lookup ("__class__" : Str) = some .free := S.frk _ (by simp)
    have hsl : F.scope.names.lookup self = some .local := S.par _ (by simp)
    refine ks_wpAt_super_base (env := envF F f s.heap.objs.size) hks hkc (by decide) rfl (X1 _ _ hf) rfl har rfl (X1 _ _ hcode) rfl hvs hfile U.top ?_
    obtain ⟨mb, hmb1, hmb2⟩ := e0.mod.blt
    refine PySem.W.ks_loadName_global S.kind hks (Calls.loadGlobal_builtin (env := envF F f s.heap.objs.size) (I.mod.glob.keeps I.bk) U.sup (hmb1.keeps I.bk) ((hmb2 "super" (by decide)).trans (by kernel_rfl)) ⟨rfl, ?_⟩)
    refine wpAny_loadName_free S.kind hkc (by show F.cl.lookup _ = _; rw [U.cl]; rfl) ⟨_, X1 _ _ hcell, rfl⟩ ?_
    obtain ⟨m, hn, hlk⟩ := I.loc
    have N0 : N[0]? = some self := by
      have h3 : (N.take ((self :: ps).length + [("__class__" : Str)].length))[0]? = (self :: ps ++ [("__class__" : Str)])[0]? := by rw [S.pre]
      rw [List.getElem?_take_of_lt (by simp)] at h3
      exact h3
    obtain ⟨u0, ru0, lk0⟩ := hlk 0 self (.ref x) N0 (by simp [startF]) (.inl hsl)
    have hu0 : u0 = .ref x := ru0
    subst hu0
    have hv0 : m self = some (.ref x) := by
      rcases lk0 with ⟨_, h4⟩ | ⟨h4, _⟩
      · exact h4
      · have h4 : F.scope.names.lookup self = some .cell ∨ F.scope.names.lookup self = some .free := h4
        rw [hsl] at h4
        rcases h4 with h4 | h4 <;> cases h4
    rw [harn]
    refine wpAny_loadName_local S.kind hsl hn hv0 ?_
    obtain ⟨cdD, hcd⟩ := U.cls
    obtain ⟨oD, hD1, hD2⟩ : ∃ oD, h₁.get? D = some oD ∧ oD.data = .cls cdD := by
      have hcd' := hcd
      unfold PySem.W.clsIn at hcd'
      split at hcd'
      · rename_i c d cd' sl ho
        cases hcd'
        exact ⟨_, X1 _ _ ho, rfl⟩
      · cases hcd'
    have hx1 : (ncx (L2.CX P w) P w K mg base N F f A outer s H E).prog = P := rfl
    obtain ⟨mA, O, _⟩ := ins_get I.hok hx0
    obtain ⟨odx, J, _⟩ := O.look
    refine ks_wpAny_isType_cls hD1 hD2 ⟨rfl, ?_⟩
    refine ks_wpAny_call_super hD1 hD2 J.at_ J.cls (fun c e => ?_) (PySem.W.looks_mroIn X1 U.sub) (fun h' hso k1 => ?_)
    · have := J.no
      unfold PySem.W.notCls at this
      rw [e] at this
      exact Bool.noConfusion this
    have I1 : Inv (ncx (L2.CX P w) P w K mg base N F f A outer s H E) [] (startF N (.ref x :: ws) [none]) H { s with heap := h', toks := s.toks + ((self :: ps).zip us).length } := I.kept (t' := s.toks + ((self :: ps).zip us).length) k1
    have X2 : K.In h' := X1.keeps k1
    obtain ⟨mA1, O1, _⟩ := ins_get I1.hok hx0
    obtain ⟨odx1, J1, _⟩ := O1.look
    have hup := U.up
    unfold PySem.W.ks_superIn at hup
    rw [hcd] at hup
    obtain ⟨of, hof, hofc⟩ : ∃ of, h'.get? f2 = some of ∧ of.cls = .type "function" := by
      have ht' : (K.lookup f2).map (·.cls) = some (.type "function") := U.ty
      cases z : K.lookup f2 with
      | none => rw [z] at ht'; cases ht'
      | some of => rw [z] at ht'; exact ⟨of, X2 _ _ z, Option.some.inj ht'⟩
    refine ks_wpAny_getMethod_super hso (PySem.W.looks_opaque X2 U.opq) (l₀ := cdD.mro) (fun A Q E s k q => wpAny_bind ((PySem.W.looks_clsIn X2 hcd) A _ E s k (wpAny_pure q))) rfl X2 hup hof hofc (PySem.W.ks_ne X2 J1 hcd) (by decide) ?_
    have hqn : H h'.objs.size = none := I1.hok.fresh (Nat.le_refl _)
    have I2 : Inv (ncx (L2.CX P w) P w K mg base N F f A outer s H E) [] (startF N (.ref x :: ws) [none]) (upd H h'.objs.size (.met f2 x)) { s with heap := h'.push { cls := .type "method", data := .fields #[.ref f2, .ref x] }, toks := s.toks + ((self :: ps).zip us).length + 1 } :=
      I1.laid (t' := s.toks + ((self :: ps).zip us).length + 1) (a := h'.objs.size) (o := .met f2 x) (fun b u z => Heap.get?_push_of_some _ z) (Nat.le_refl _)
        (show (h'.push (PySem.W.methodObj (.ref f2) (.ref x))).get? h'.objs.size = some (PySem.W.methodObj (.ref f2) (.ref x)) from Heap.get?_push_size h' rfl)
    have hA := pa.run pos [] _ _ _ _ I2 (hq h'.objs.size hqn)
    show wpAny _ _ (callWith pos (.ref h'.objs.size) [] (backTo pos (starEach (e :: es) (envF F f s.heap.objs.size))) []) _ _ _
    change wpAny _ _ (spliced (backTo pos (starEach (e :: es) (envF F f s.heap.objs.size)))) _ _ _ at hA
    rw [hst] at hA ⊢
    refine callwith_met (X := ncx (L2.CX P w) P w K mg base N F f A outer s H E) (g := f2) (a := x) (by show ((false || (backTo pos (starEach es (envF F f s.heap.objs.size))).any (·.1)) || _) = false; rw [hpl]; rfl) U.fi (Calls.evalArgs_plain ?_)
    refine wpAny_mono hA (fun us2 s2 hA2 => ?_) fun _ _ z => z
    obtain ⟨xs, H2, I3, rxs, hm2, hsp2⟩ := hA2
    refine ⟨met_P I3 hm2, ?_⟩
    refine wpAny_call (call_met I3 hm2 (codeAny_mono (run_fnR (us := .ref x :: us2) (vs := .ref x :: xs) F2 (hr.deeper _) hxx I3 (.cons rfl rxs) hsp2) fun r s' hr' => ?_))
    cases r with
    | error e => exact hr'
    | ok fl =>
      cases fl with
      | ret u =>
        obtain ⟨v, H', I4, _, q4⟩ := hr'
        exact ⟨rfl, H', I4, q4⟩
      | next => exact False.elim hr'
      | brk => exact False.elim hr'
      | cont => exact False.elim hr'
end L2
set_option Elab.async false
set_option linter.all false
set_option maxRecDepth 100000
set_option maxHeartbeats 4000000
/-! VL12: star parameters, super().__init__ and making, by values. -/
namespace VL
open PySem PySem.Spec PyProof.Rows L2 NdefX StX 
/-- a promise of a def with a star parameter behind n others, told of the written arguments -/
def starS (n : Nat) (S : FSpec) : FSpec := fun ds μ P R => ∃ ws rest, ds = ws ++ rest ∧ ws.length = n ∧ rest.length ≤ 100000 ∧ S (ws ++ [.tup rest]) μ P R
theorem reps_split {K : PySem.W.Frag} {F : Hp} : ∀ {ws rest : List D} {vs : List V}, Reps K F vs (ws ++ rest) → ∃ v1 v2, vs = v1 ++ v2 ∧ Reps K F v1 ws ∧ Reps K F v2 rest
  | [], _, vs, r => ⟨[], vs, rfl, .nil, r⟩
  | w :: ws, rest, _, .cons h r => by
    obtain ⟨v1, v2, e, r1, r2⟩ := reps_split (ws := ws) r
    exact ⟨_ :: v1, v2, by rw [e]; rfl, .cons h r1, r2⟩
section
variable {P : Program} {w : World} {K : PySem.W.Frag} {mg : Str → Option Value} {base : Heap} {x qual : Str} {params : Arguments} {body : List Stmt} {scope : Scope} {f : Addr} {fd : FuncData}
theorem fx_of {N ps : List Str} {cdv : Value} {A : Around} {outer : List PySem.Env} {s : Shared} {H : Hp} {E : XK} {R : Addr → List (Str × D) → Store → Prop} {k : Nat} (nd : N.Nodup) (hr : Room k (A.deeper (envOfC qual scope s.heap.objs.size f cdv))) :
    Fx (cxOf (L2.CX P w) P w K mg base N qual scope f cdv A outer s H E) ⟨E, R⟩ k ∧ PassesOwn (model P w) (A.deeper (envOfC qual scope s.heap.objs.size f cdv)) (envOfC qual scope s.heap.objs.size f cdv) (cxOf (L2.CX P w) P w K mg base N qual scope f cdv A outer s H E).xe := by
  have ow := passes_of (X := cxOf (L2.CX P w) P w K mg base N qual scope f cdv A outer s H E) (K := fun e s'' => L2.CX P w outer H s E e s'') (E₁ := fun e' s'' => L2.CX P w outer H s E e' s'') rfl
  have tk : Takes (cxOf (L2.CX P w) P w K mg base N qual scope f cdv A outer s H E) (fun cls d _ H => E cls d H) := takes_of (E₁ := fun e' s'' => L2.CX P w outer H s E e' s'') rfl rfl rfl rfl
  have un := hr.units
  exact ⟨⟨⟨nd, rfl, by have := hr.un; show (A.deeper _).units + 70 < _; omega⟩, hr, passes_call tk fun _ _ _ _ h => h⟩, ow⟩
/-- def f(a, .., *v), by values -/
theorem fn_starD {N ps : List Str} {pv : Str} {k : Nat} {S : FSpec} (F : FunD K x qual params body scope [] [] f fd) (sc : FnScope N (ps ++ [pv]) scope)
    (hbi : ∀ (kV doc pm : Value) (an : Option Addr) (cdv ct : Value) (us rest : List Value), us.length = ps.length → bindArgs (PySem.W.fnOf x qual params body scope .none kV doc pm an cdv ct) ⟨us ++ rest, []⟩ = (newTuple rest >>= fun t => pure (ps.zip us ++ [(pv, t)])))
    (hb : ∀ (cdv : Value) (A : Around) (outer : List PySem.Env) (s : Shared) (H : Hp) (E : XK) (ds : List D) (μ : Store) (Q : D → Store → Prop) (R : Addr → List (Str × D) → Store → Prop),
      let X : Cx := cxOf (L2.CX P w) P w K mg base N qual scope f cdv A outer s H E
      Fx X ⟨E, R⟩ k → PassesOwn (model X.prog X.w) X.A X.env X.xe → S ds μ Q R → VSs X ⟨E, R⟩ body (startD N ds) μ (retP Q)) :
    FnR P w K mg base (L2.CX P w) (k + 1) f (spOf K (starS ps.length S)) := by
  obtain ⟨oc, od, dV, kV, doc, pm, an, cdv, ct, osl, rfl, lk, hcd, dfl, _⟩ := F.ex
  have e0 : dV = .none := by
    rcases dfl with ⟨_, e⟩ | ⟨ne, _⟩
    · exact e
    · exact absurd rfl ne
  subst e0
  refine (fn_star (sp := spOf K S) lk hcd sc cxUp (fun us rest hl => hbi kV doc pm an cdv ct us rest hl) fun A outer s H vs Q E hr h => ?_).imp fun vs H Q E ⟨F, ds, μ, P, R, r, c, ⟨ws, rest, e, hl, hr, hS⟩, k, z⟩ => ?_
  · obtain ⟨F0, ds, μ, P0, R, r, c, hS, hk, hz⟩ := h
    refine ⟨_, pss_r, ?_⟩
    obtain ⟨fx, ow⟩ := fx_of (P := P) (w := w) (K := K) (mg := mg) (base := base) (outer := outer) (H := H) (E := E) (R := R) (ps := ps) sc.nd hr
    have w1 := hb cdv A outer s H E ds μ P0 R fx ow hS
    have sl : Slots K F0 (L2.start N vs) (startD N ds) := by
      have := slots_start (N.length - ds.length) r
      unfold L2.start startD
      rw [r.length]; exact this
    refine w1 (L2.start N vs) F0 H _ sl c ⟨fun σ' δ' μ' F' H' ⟨μ2, l, p⟩ m c' s' => ?_, fun σ' δ' μ' F' H' p m c' s' => ?_, fun σ' δ' μ' F' H' p m c' s' => ?_, fun v d μ' F' H' ⟨μ2, l, p⟩ m c' r' => ?_⟩ hz
    · exact hk _ _ _ _ _ p (m.less l) (c'.less l) .non
    · exact False.elim p
    · exact False.elim p
    · exact hk _ _ _ _ _ p (m.less l) (c'.less l) r'
  · subst e
    obtain ⟨v1, v2, rfl, r1, r2⟩ := reps_split r
    refine ⟨v1, v2, rfl, by rw [r1.length]; exact hl, by rw [r2.length]; exact Nat.le_trans hr (by decide), fun p hp => ?_⟩
    have m := mv_new (o := .tup v2) c hp
    exact ⟨_, ws ++ [.tup rest], μ, P, R, Reps.app (r1.mono m.up) (.cons (.tup (SqT.of upd_same) (r2.mono m.up)) .nil), cm_new c hp, hS, fun v d μ' F' H' q m2 c2 r2 => k v d μ' F' H' q (m.trans m2) c2 r2, z.mv m⟩
/-- an __init__ that begins by super().__init__(..), by values -/
theorem fn_superD {k : Nat} {F : NF} {f2 D0 cc : Addr} {N ps : List Str} {S S2 : FSpec} {e : Expr} {es : List Expr} {rest : List Stmt} {p0 p1 ap pos spos : Pos} {self : Str} (U : SupF P K mg f F D0 f2 cc)
    (hbd : F.body = .Expr (.Call (.Attribute (.Call (.Name "super" p0) [] [] p1) "__init__" ap) (e :: es) [] pos) spos :: rest)
    (S0 : NScope N (self :: ps) ["__class__"] F.scope) (hks : F.scope.names.lookup ("super" : Str) = some .globalImplicit) (hps : (F.params.posonlyargs ++ F.params.args).head?.map (·.arg) = some self)
    (hbi : ∀ (doc pm ctv : Value) (us : List Value), us.length = (self :: ps).length → bindArgs (F.fd doc pm ctv) ⟨us, []⟩ = pure ((self :: ps).zip us)) (F2 : FnR P w K mg base (L2.CX P w) k f2 (spOf K S2))
    (hst : ∀ L, starEach (e :: es) (envF F f L) = (false, eval e (envF F f L)) :: starEach es (envF F f L)) (hpl : ∀ L, (backTo pos (starEach es (envF F f L))).any (·.1) = false)
    (hsw : ∀ L, swapsWith (.Call (.Attribute (.Call (.Name "super" p0) [] [] p1) "__init__" ap) (e :: es) [] pos) none spos.line (envF F f L) = pure false)
    (hev : ∀ L, ∃ pl : Sem Bool, eval (.Call (.Attribute (.Call (.Name "super" p0) [] [] p1) "__init__" ap) (e :: es) [] pos) (envF F f L) = (do
          let ov ← attributeBase (.Call (.Name "super" p0) [] [] p1) "__init__" (envF F f L) (eval (.Call (.Name "super" p0) [] [] p1) (envF F f L))
          standAt ap.atName
          let (fn, first) ← holding [ov] (getMethod ov "__init__" pl)
          callWith pos fn first (backTo pos (starEach (e :: es) (envF F f L))) []))
    (hb : ∀ (A : Around) (outer : List PySem.Env) (s : Shared) (H : Hp) (E : XK) (ds : List D) (μ : Store) (Q : D → Store → Prop) (R : Addr → List (Str × D) → Store → Prop),
      let X : Cx := ncx (L2.CX P w) P w K mg base N F f A outer s H E
      Fx X ⟨E, R⟩ k → PassesOwn (model X.prog X.w) X.A X.env X.xe → S ds μ Q R → ∃ (l : Addr) (ws : List D) (fs : List (Str × D)) (j : Nat), ds = .ref l :: ws ∧ ws.length = ps.length ∧ μ[j]? = some (l, .ins D0 fs) ∧
        VA X ⟨E, R⟩ (e :: es) (startD N ds) μ fun xs μ1 => S2 (.ref l :: xs) μ1 (fun _ μ2 => VSs X ⟨E, R⟩ rest (startD N ds) μ2 (retP Q)) R) :
    FnR P w K mg base (L2.CX P w) (k + 1) f (spOf K S) := by
  have hlN : (self :: ps).length + 1 ≤ N.length := by
    have q := congrArg List.length S0.pre
    rw [List.length_take, List.length_append] at q
    simp at q ⊢
    omega
  have tks : ∀ (A : Around) (outer : List PySem.Env) (s : Shared) (H : Hp) (E : XK), Takes (ncx (L2.CX P w) P w K mg base N F f A outer s H E) (fun cls d _ H => E cls d H) := fun A outer s H E =>
    takes_of (E₁ := fun e' s'' => L2.CX P w outer H s E e' s'') rfl rfl rfl rfl
  refine vl_super U hbd S0 hks hps hbi F2 (fun A outer s H vs Q E hr h => ?_) (fun A outer s H E => passes_call (tks A outer s H E) fun _ _ _ _ h => h)
  obtain ⟨F0, ds, μ, P0, R, r, c, hS, hk, hz⟩ := h
  have ow := passes_of (X := ncx (L2.CX P w) P w K mg base N F f A outer s H E) (K := fun e s'' => L2.CX P w outer H s E e s'') (E₁ := fun e' s'' => L2.CX P w outer H s E e' s'') rfl
  have un := hr.units
  have fx : Fx (ncx (L2.CX P w) P w K mg base N F f A outer s H E) ⟨E, R⟩ k := ⟨⟨S0.nd, rfl, by have := hr.un; show (A.deeper _).units + 70 < _; omega⟩, hr, passes_call (tks A outer s H E) fun _ _ _ _ h => h⟩
  obtain ⟨l, ws, fs, j, rfl, hwl, hj, hva⟩ := hb A outer s H E ds μ P0 R fx ow hS
  obtain ⟨_, dx, fv, hl0, rf⟩ := c.mu _ (mem_at hj)
  cases r with
  | @cons v _ vs _ r1 rr =>
    cases r1
    have hvl : vs.length = ps.length := by rw [rr.length]; exact hwl
    refine ⟨rA (ncx (L2.CX P w) P w K mg base N F f A outer s H E) (e :: es), rSs (ncx (L2.CX P w) P w K mg base N F f A outer s H E) rest, l, dx, fv, vs, rfl, hvl, hl0, pa_r, pss_r, hst _, hpl _, hsw _, hev _, fun q hq => ?_⟩
    have sl : Slots K F0 (startF N (.ref l :: vs) [none]) (startD N (.ref l :: ws)) := by
      have e1 : startF N (V.ref l :: vs) [none] = L2.start N (V.ref l :: vs) := by
        unfold startF L2.start
        have : N.length - (V.ref l :: vs).length = (N.length - (V.ref l :: vs).length - 1) + 1 := by simp at hlN ⊢; omega
        rw [this, List.replicate_succ]
        simp
      rw [e1]
      have := slots_start (N.length - (D.ref l :: ws).length) (Reps.cons (.ref l) rr)
      unfold L2.start startD
      rw [(Reps.cons (.ref l) rr : Reps K F0 (V.ref l :: vs) (D.ref l :: ws)).length]; exact this
    have mq : Mv μ F0 H μ F0 (upd H q (.met f2 l)) := ⟨fun a o e _ => by rw [upd_ne (ne_of_none e hq)]; exact e, Same.refl F0, fun a h => .inl h, fun a h => .inl h, fun a h => by
      by_cases z : a = q
      · subst z; exact hq
      · rw [upd_ne z] at h; exact h⟩
    have cq : Cm K F0 (upd H q (.met f2 l)) μ := ⟨fun a u e => by rw [upd_ne (ne_of_none (c.ex a u e) hq)]; exact c.ex a u e, fun p hp => by
      have np : p.1 ≠ q := fun e => c.not_new hq (by rw [← e]; exact List.mem_map.mpr ⟨p, hp, rfl⟩)
      exact ⟨(c.mu p hp).1, (c.mu p hp).2.heap (by rw [upd_ne np])⟩, c.nd⟩
    refine hva (startF N (.ref l :: vs) [none]) F0 (upd H q (.met f2 l)) _ sl cq (fun us xs μ1 F1 H1 p1 m1 c1 r1 => ?_) (hz.mv mq)
    refine ⟨m1.kp q _ upd_same fun z => c.not_new hq z, F1, .ref l :: xs, μ1, _, R, .cons (.ref l) r1, c1, p1, fun v d μ' F' H' w2 m2 c2 r2 => ?_, (hz.mv mq).mv m1⟩
    have mm := (mq.trans m1).trans m2
    refine w2 (startF N (.ref l :: vs) [none]) F' H' _ (sl.mono mm.up) c2 ⟨fun σ' δ' μ' F' H' ⟨μ2, l, p⟩ m c' s' => ?_, fun σ' δ' μ' F' H' p m c' s' => ?_, fun σ' δ' μ' F' H' p m c' s' => ?_, fun v d μ' F' H' ⟨μ2, l, p⟩ m c' r' => ?_⟩ (hz.mv mm)
    · exact hk _ _ _ _ _ p ((mm.trans m).less l) (c'.less l) .non
    · exact False.elim p
    · exact False.elim p
    · exact hk _ _ _ _ _ p ((mm.trans m).less l) (c'.less l) r'
end
/-! ### making by a positional promise -/
structure MakR (P : Program) (w : World) (K : PySem.W.Frag) (mg : Str → Option Value) (base : Heap) (k : Nat) (x : Str) (C : Addr) (S : FSpec) : Prop where
  ex : ∃ f : Addr, Mk K C f ∧ FnR P w K mg base (L2.CX P w) k f (spOf K S) ∧ mg x = some (.ref C)
theorem we_makeR {K : PySem.W.Frag} {Z : Wish} {δ : Env} {μ : Store} {P : D → Store → Prop} {S : FSpec} {C : Addr} {t : TA} (h : WA K Z t δ μ fun xs μ1 => ∀ l, S (.ref l :: xs) (μ1 ++ [(l, .ins C [])]) (fun d μ2 => d = .non ∧ P (.ref l) μ2) Z.R) : WE K Z (tMakeR C (spOf K S) Z.E t) δ μ P := fun σ F H Q s c k z =>
  h σ F H _ s c (fun vs xs μ1 F1 H1 p m1 c1 r1 x dx hx hdx ne => by
    obtain ⟨m2, c2⟩ := mv_made (C := C) c1 hx hdx ne
    refine ⟨F1, .ref x :: xs, _, _, Z.R, .cons (.ref x) r1, c2, p x, fun v d μ' F' H' ⟨e, q⟩ m3 c3 r3 => ?_, (z.mv m1).mv m2⟩
    subst e; cases r3
    exact ⟨rfl, k _ _ _ _ _ q ((m1.trans m2).trans m3) c3 (.ref x)⟩) z
theorem ve_makeR {X : Cx} {Z : Wish} {δ : Env} {μ : Store} {P : D → Store → Prop} {S : FSpec} {k j : Nat} {x : Str} {C : Addr} {e : Expr} {es : List Expr} {p pos : Pos} (c : MakR X.prog X.w X.K X.mg X.base k x C S) (fx : Fx X Z j) (h : VA X Z (e :: es) δ μ fun xs μ1 => ∀ l, S (.ref l :: xs) (μ1 ++ [(l, .ins C [])]) (fun d μ2 => d = .non ∧ P (.ref l) μ2) Z.R) (hk : k + 1 ≤ j := by first | assumption | decide | omega) (hg : Gl X x := by rfl)
    (hdb : (x == ("__debug__" : Str)) = false := by decide) (he : starEach (e :: es) X.env = (false, eval e X.env) :: starEach es X.env := by rfl) (hpl : (backTo pos (starEach es X.env)).any (·.1) = false := by rfl) :
    VE X Z (.Call (.Name x p) (e :: es) [] pos) δ μ P := by
  obtain ⟨f, M, F, hm⟩ := c.ex
  exact ve_of (pe_makeR M F (fx.rm.mono hk) hg hm fx.ps pa_r hdb he hpl) (we_makeR h)
end VL
set_option Elab.async false
set_option linter.all false
set_option maxRecDepth 100000
set_option maxHeartbeats 4000000
/-! VL13: dict comprehensions of two clauses (the proof follows HandS.Comp's lc2_core, HandS.DictComp's dc_core), and comprehensions with two clauses, dict comprehensions by values. -/
namespace L2
open PySem PySem.Spec PyProof.Rows
theorem compTurn2_outD (kx vx t0 i0 t1 i1 : Expr) (ifs0 ifs1 : List Expr) (scope : Scope) (pos : Pos) (it : Value) (D : Addr) (env : Env) :
    compTurn (.DictComp kx vx [⟨t0, i0, ifs0, 0⟩, ⟨t1, i1, ifs1, 0⟩] scope pos) 0 it (.ref D) env = (do
      standAt i0.pos
      match ← pyNext it with
      | none => pure (.done .next)
      | some v =>
        letOwnedTupleGo t0 it v
        assign t0 env v
        let mut ok := true
        for c in ifs0 do
          if ok then ok ← isTrue c env (eval c env)
        if ok then
          let x ← eval i1 env
          standAt i1.pos
          let x ← foldedSetIterable i1 env x
          let _ ← runOwn (.compStart (.DictComp kx vx [⟨t0, i0, ifs0, 0⟩, ⟨t1, i1, ifs1, 0⟩] scope pos) 1 (← holding [x] (pyIter x)) (.ref D) env) env
        again (.compLoop (.DictComp kx vx [⟨t0, i0, ifs0, 0⟩, ⟨t1, i1, ifs1, 0⟩] scope pos) 0 it (.ref D) env)) := by rfl
theorem compTurn2_inD (kx vx t0 i0 t1 i1 : Expr) (ifs0 ifs1 : List Expr) (scope : Scope) (pos : Pos) (it : Value) (D : Addr) (env : Env) :
    compTurn (.DictComp kx vx [⟨t0, i0, ifs0, 0⟩, ⟨t1, i1, ifs1, 0⟩] scope pos) 1 it (.ref D) env = (do
      standAt i1.pos
      match ← pyNext it with
      | none => pure (.done .next)
      | some v =>
        letOwnedTupleGo t1 it v
        assign t1 env v
        let mut ok := true
        for c in ifs1 do
          if ok then ok ← isTrue c env (eval c env)
        if ok then
          (do
            let kv ← eval kx env
            let vv ← holding [kv] (eval vx env)
            standAt { kx.pos with endLine := vx.pos.endLine, endCol := vx.pos.endCol }
            holding [kv, vv] (dictSet D kv vv))
        again (.compLoop (.DictComp kx vx [⟨t0, i0, ifs0, 0⟩, ⟨t1, i1, ifs1, 0⟩] scope pos) 1 it (.ref D) env)) := by rfl

section
variable {prog : Program} {w : World} {A : Around} {R : Result → Shared → Prop} {s : Shared} {kx vx t0 i0 t1 i1 : Expr} {ifs0 ifs1 : List Expr} {scope : Scope} {pos : Pos} {it : Value} {D : Addr} {env : Env}
/-- the loop of the first clause -/
theorem compLoop2_outD (hs : ∀ x, foldedSetIterable i1 env x = pure x) (I : Nat → Shared → Prop)
    (turn : ∀ n s, I n s → wpAny (model prog w) A (pyNext it) (fun r s₁ => match r with
      | none => R (.ok .next) s₁
      | some v => wpAny (model prog w) A (letOwnedTupleGo t0 it v) (fun _ s₁' => wpAny (model prog w) A (assign t0 env v) (fun _ s₂ =>
          wpAny (model prog w) A (forIn ifs0 true fun c r => if r = true then do let ok ← isTrue c env (eval c env); pure (ForInStep.yield ok) else pure (ForInStep.yield r)) (fun ok s₃ =>
            if ok = true then wpAny (model prog w) A (eval i1 env) (fun x s₄ => wpAny (model prog w) A (pyIter x) (fun it1 s₅ =>
              codeAny (model prog w) A (.compStart (.DictComp kx vx [⟨t0, i0, ifs0, 0⟩, ⟨t1, i1, ifs1, 0⟩] scope pos) 1 it1 (.ref D) env) (fun r s' => match r with
                | .ok _ => ∃ m, m < n ∧ I m s'
                | .error _ => False) s₅) (notedBy (model prog w) A env fun e s' => R (.error e) s') s₄) (notedBy (model prog w) A env fun e s' => R (.error e) s') s₃
            else ∃ m, m < n ∧ I m s₃) (notedBy (model prog w) A env fun e s' => R (.error e) s') s₂) (notedBy (model prog w) A env fun e s' => R (.error e) s') s₁') (notedBy (model prog w) A env fun e s' => R (.error e) s') s₁) (notedBy (model prog w) A env fun e s' => R (.error e) s') s)
    (n : Nat) (h : I n s) :
    codeAny (model prog w) A (.compLoop (.DictComp kx vx [⟨t0, i0, ifs0, 0⟩, ⟨t1, i1, ifs1, 0⟩] scope pos) 0 it (.ref D) env) R s := by
  refine codeAny_loop rfl I (fun n s hI => ?_) n h
  show wpAny _ A ((compTurn (.DictComp kx vx [⟨t0, i0, ifs0, 0⟩, ⟨t1, i1, ifs1, 0⟩] scope pos) 0 it (.ref D) env).onRaise (fun x => do noteFrame x env; theTreesLotGoes x)) _ _ s
  refine wpAny_noted ?_
  rw [compTurn2_outD]
  refine wpAny_bind (wpAny_standAt (wpAny_bind (wpAny_mono (turn n s hI) (fun r s₁ h₁ => ?_) fun _ _ h' => h')))
  cases r with
  | none => exact wpAny_pure h₁
  | some v =>
    refine wpAny_bind (wpAny_mono h₁ (fun _ s₁' h₁' => ?_) fun _ _ h' => h')
    refine wpAny_bind (wpAny_mono h₁' (fun _ s₂ h₂ => wpAny_bind (wpAny_mono h₂ (fun ok s₃ h₃ => ?_) fun _ _ h' => h')) fun _ _ h' => h')
    cases ok with
    | false => exact wpAny_pure ⟨rfl, h₃⟩
    | true =>
      refine wpAny_bind (wpAny_mono h₃ (fun x s₄ h₄ => ?_) fun _ _ h' => h')
      refine wpAny_bind (wpAny_standAt (wpAny_bind (wpAny_of_eq (hs x) (wpAny_bind (wpAny_holding (wpAny_mono h₄ (fun it1 s₅ h₅ => ?_) fun _ _ h' => h'))))))
      refine wpAny_bind (wpAny_runOwn ?_)
      rw [Around.mark_none]
      refine codeAny_mono h₅ fun r s' hr => ?_
      cases r with
      | ok f =>
        first
          | exact wpAny_pure ⟨rfl, hr⟩
          | exact wpAny_bind (wpAny_pure (wpAny_pure ⟨rfl, hr⟩))
      | error e => exact hr.elim
/-- the loop of the second -/
theorem compLoop2_inD (I : Nat → Shared → Prop)
    (turn : ∀ n s, I n s → wpAny (model prog w) A (pyNext it) (fun r s₁ => match r with
      | none => R (.ok .next) s₁
      | some v => wpAny (model prog w) A (letOwnedTupleGo t1 it v) (fun _ s₁' => wpAny (model prog w) A (assign t1 env v) (fun _ s₂ =>
          wpAny (model prog w) A (forIn ifs1 true fun c r => if r = true then do let ok ← isTrue c env (eval c env); pure (ForInStep.yield ok) else pure (ForInStep.yield r)) (fun ok s₃ =>
            if ok = true then wpAny (model prog w) A (eval kx env) (fun kv s₄ => wpAny (model prog w) A (eval vx env) (fun vv s₅ =>
              wpAny (model prog w) A (dictSet D kv vv) (fun _ s₆ => ∃ m, m < n ∧ I m s₆) (notedBy (model prog w) A env fun e s' => R (.error e) s') s₅) (notedBy (model prog w) A env fun e s' => R (.error e) s') s₄) (notedBy (model prog w) A env fun e s' => R (.error e) s') s₃
            else ∃ m, m < n ∧ I m s₃) (notedBy (model prog w) A env fun e s' => R (.error e) s') s₂) (notedBy (model prog w) A env fun e s' => R (.error e) s') s₁') (notedBy (model prog w) A env fun e s' => R (.error e) s') s₁) (notedBy (model prog w) A env fun e s' => R (.error e) s') s)
    (n : Nat) (h : I n s) :
    codeAny (model prog w) A (.compLoop (.DictComp kx vx [⟨t0, i0, ifs0, 0⟩, ⟨t1, i1, ifs1, 0⟩] scope pos) 1 it (.ref D) env) R s := by
  refine codeAny_loop rfl I (fun n s hI => ?_) n h
  show wpAny _ A ((compTurn (.DictComp kx vx [⟨t0, i0, ifs0, 0⟩, ⟨t1, i1, ifs1, 0⟩] scope pos) 1 it (.ref D) env).onRaise (fun x => do noteFrame x env; theTreesLotGoes x)) _ _ s
  refine wpAny_noted ?_
  rw [compTurn2_inD]
  refine wpAny_bind (wpAny_standAt (wpAny_bind (wpAny_mono (turn n s hI) (fun r s₁ h₁ => ?_) fun _ _ h' => h')))
  cases r with
  | none => exact wpAny_pure h₁
  | some v =>
    refine wpAny_bind (wpAny_mono h₁ (fun _ s₁' h₁' => ?_) fun _ _ h' => h')
    refine wpAny_bind (wpAny_mono h₁' (fun _ s₂ h₂ => wpAny_bind (wpAny_mono h₂ (fun ok s₃ h₃ => ?_) fun _ _ h' => h')) fun _ _ h' => h')
    cases ok with
    | false => exact wpAny_pure ⟨rfl, h₃⟩
    | true =>
      exact wpAny_bind (wpAny_bind (wpAny_mono h₃ (fun kv s₄ h₄ => wpAny_bind (wpAny_holding (wpAny_mono h₄ (fun vv s₅ h₅ => wpAny_bind (wpAny_standAt (wpAny_holding (wpAny_mono h₅ (fun _ s₆ h₆ => wpAny_pure ⟨rfl, h₆⟩) fun _ _ h' => h')))) fun _ _ h' => h'))) fun _ _ h' => h'))
/-- the second clause's start -/
theorem compStart1_okD (h0 : codeAny (model prog w) A (.compLoop (.DictComp kx vx [⟨t0, i0, ifs0, 0⟩, ⟨t1, i1, ifs1, 0⟩] scope pos) 1 it (.ref D) env) R s)
    (h : wpAny (model prog w) A (pyIter it) (fun it' s' => codeAny (model prog w) A (.compLoop (.DictComp kx vx [⟨t0, i0, ifs0, 0⟩, ⟨t1, i1, ifs1, 0⟩] scope pos) 1 it' (.ref D) env) R s')
      (notedBy (model prog w) A env fun x s' => R (.error x) s') s) :
    codeAny (model prog w) A (.compStart (.DictComp kx vx [⟨t0, i0, ifs0, 0⟩, ⟨t1, i1, ifs1, 0⟩] scope pos) 1 it (.ref D) env) R s := by
  refine codeAny_of_tree ?_
  show wpAny _ _ ((compStart (.DictComp kx vx [⟨t0, i0, ifs0, 0⟩, ⟨t1, i1, ifs1, 0⟩] scope pos) 1 it (.ref D) env).onRaise (fun x => do noteFrame x env; standAt theWindowsPlace)) _ _ s
  refine wpAny_notedAt ?_
  unfold compStart
  show wpAny _ _ (ask >>= _) _ _ s
  refine wpAny_bind (wpAny_askSetting (wpAny_ite ?_))
  split
  · first
      | exact wpAny_bind (wpAny_pure (wpAny_pure (And.intro rfl h0)))
      | exact wpAny_pure (And.intro rfl h0)
  · first
      | exact wpAny_bind (wpAny_rule (wpAny_bind (wpAny_standAt (wpAny_bind (wpAny_mono h (fun it' s' h' => wpAny_pure (And.intro rfl h')) fun _ _ x => x)))))
      | (refine wpAny_bind (wpAny_rule ?_); show wpAny _ _ (standAt i1.pos >>= _) _ _ s; exact wpAny_bind (wpAny_standAt (wpAny_bind (wpAny_mono h (fun it' s' h' => wpAny_pure (And.intro rfl h')) fun _ _ x => x))))
end

section
variable {X : Cx}
/-- [elt for tg in iter if .. for tg1 in iter1 if ..]: behind the first clause's store and tests the second source's own loop, from which Nx is reached. vs: the block's names; vs1: those of the second target -/
def tLc2D (wi : TI) (g : TG) (tt : TT) (wi1 : TI) (g1 : TG) (tt1 : TT) (tk tv : TE) (vs vs1 : List Nat) : TE := fun σ H Q => wi σ H fun J H1 => ∀ D, H1 D = none → ∃ W : Nat → Nat → Hp → Prop, (∃ m, W 0 m (upd H1 D (.dK []))) ∧ ∀ i m H, W i m H →
  (J.stop i H ∧ Q (.ref D) H) ∨ (J.go i H ∧ ∃ Nx : Hp → Prop, (∀ H', Nx H' → ∃ m', m' < m ∧ W (i + 1) m' H') ∧ ∀ x H', J.yld i H x H' → g x (wipe σ vs) H' fun σ2 H2 => wipe σ2 vs = wipe σ vs ∧ tt σ2 H2 fun b H3 =>
    if b = true then wi1 σ2 H3 fun J1 H4 => ∃ W1 : Nat → Nat → Hp → Prop, (∃ m, W1 0 m H4) ∧ ∀ j k H, W1 j k H →
      (J1.stop j H ∧ Nx H) ∨ (J1.go j H ∧ ∃ Nx1 : Hp → Prop, (∀ H', Nx1 H' → ∃ k', k' < k ∧ W1 (j + 1) k' H') ∧ ∀ x H', J1.yld j H x H' → g1 x (wipe σ2 vs1) H' fun σ3 H5 => wipe σ3 vs1 = wipe σ2 vs1 ∧ tt1 σ3 H5 fun b H6 =>
        if b = true then tk σ3 H6 fun y H7 => tv σ3 H7 fun z H8 => ∃ kvs k, y = kV k ∧ H8 D = some (.dK kvs) ∧ kvs.length < sizeLine ∧ Nx1 (upd H8 D (.dK (putK kvs k z))) else Nx1 H6)
    else Nx H3)
theorem lc2_coreD {pins : List (Addr × Obj)} {s : Shared} {σ : St} {H : Hp} {Q : VK} {kx vx tg iter tg1 iter1 : Expr} {ifs ifs1 : List Expr} {scope : Scope} {own : List (Str × Nat)} {vs1 : List Nat} {pos pos' : Pos} {wi wi1 : TI} {g g1 : TG} {tt tt1 : TT} {tk tv : TE} {use : Option (Value → Sem Unit)} {Qf : Value → Shared → Prop}
    (hc : X.calm = true) (hN : X.N.Nodup) (I : Inv X pins σ H s) (hi : PI X tg iter wi) (ok : BlkOk X.N X.env.scope scope own) (hv : ∀ i ∈ vs1, i ∈ own.map (·.2))
    (hg : ∀ (s : Shared) (H : Hp) (C : Addr) (cl : List (Str × Addr)) (fp : List Addr), PG (X.blk s H scope (compEnvC scope cl C X.env) fp) tg g) (ht : ∀ (s : Shared) (H : Hp) (C : Addr) (cl : List (Str × Addr)) (fp : List Addr), PTs (X.blk s H scope (compEnvC scope cl C X.env) fp) ifs tt)
    (hk : ∀ (s : Shared) (H : Hp) (C : Addr) (cl : List (Str × Addr)) (fp : List Addr), PE (X.blk s H scope (compEnvC scope cl C X.env) fp) kx tk) (he : ∀ (s : Shared) (H : Hp) (C : Addr) (cl : List (Str × Addr)) (fp : List Addr), PE (X.blk s H scope (compEnvC scope cl C X.env) fp) vx tv) (hs : ∀ x, foldedSetIterable iter X.env x = pure x)
    (hi1 : ∀ (s : Shared) (H : Hp) (C : Addr) (cl : List (Str × Addr)) (fp : List Addr), PI (X.blk s H scope (compEnvC scope cl C X.env) fp) tg1 iter1 wi1)
    (hg1 : ∀ (s : Shared) (H : Hp) (C : Addr) (cl : List (Str × Addr)) (fp : List Addr), PG (X.blk s H scope (compEnvC scope cl C X.env) fp) tg1 g1)
    (ht1 : ∀ (s : Shared) (H : Hp) (C : Addr) (cl : List (Str × Addr)) (fp : List Addr), PTs (X.blk s H scope (compEnvC scope cl C X.env) fp) ifs1 tt1)
    (hs1 : ∀ env x, foldedSetIterable iter1 env x = pure x)
    (h : tLc2D wi g tt wi1 g1 tt1 tk tv (own.map (·.2)) vs1 σ H Q)
    (hRR : ∀ D C s' m H', Inv X pins σ H' s' → Q (.ref D) H' → s'.heap.Ns C m → FpOk X pins H' C → compPost (model X.prog X.w) X.A X.xe use Qf (.ref D) C (.ok .next) s') :
    wpAny (model X.prog X.w) X.A (comprehension (.DictComp kx vx [⟨tg, iter, ifs, 0⟩, ⟨tg1, iter1, ifs1, 0⟩] scope pos) scope X.env pos' (newDict) false (eval iter X.env) use) Qf X.xe s := by
  have hfree : ∀ y ∈ scope.names, y.2 = .free → ∃ c, X.env.cells.lookup y.1 = some c := fun y hy e => by
    rcases ok.free y hy e with k | k
    · exact I.ok.has _ (.inl k)
    · exact I.ok.has _ (.inr k)
  refine wpAny_comprehension_free (use := use) rfl hs (closure_ok hfree) ok.kind (fun y hy e => by rw [ok.uniq y hy, e])
    (thn (hi.run pins s σ H _ I h) fun xv s1 hx => thn hx fun itv s2 h2 => ?_)
  obtain ⟨it, fp, tn, J, H2, e, I2, T, st2, f2, q⟩ := h2
  subst e
  refine wpAny_newObj_type (newEnv_comp ?_)
  generalize hD : s2.heap.objs.size = D
  have hDn : H2 D = none := I2.hok.fresh (Nat.le_of_eq hD)
  obtain ⟨W, ⟨m0, w0⟩, turn⟩ := q D hDn
  -- the new list
  generalize hs3 : ({ s2 with heap := s2.heap.push { cls := .type "dict", data := .dict #[] } } : Shared) = s3
  have I3 : Inv X pins σ (upd H2 D (.dK [])) s3 := by
    rw [← hs3]
    refine I2.laid (t' := s2.toks) (fun b o e => Heap.get?_push_of_some _ e) (Nat.le_of_eq hD) ?_
    rw [← hD]
    exact dk_empty s2.heap I2.big
  have h3 : s3.heap = s2.heap.push { cls := .type "dict", data := .dict #[] } := by rw [← hs3]
  have sz : ∀ b ∈ fp, b < s2.heap.objs.size := fun b hb => by
    obtain ⟨o, e, _⟩ := T.obj _ _ st2 b hb
    exact Heap.lt_size e
  have f3 : ∀ b ∈ fp, FpOk X pins (upd H2 D (.dK [])) b ∧ b < s3.heap.objs.size := fun b hb => by
    have hlt := sz b hb
    refine ⟨⟨?_, (f2 b hb).2⟩, by rw [h3, Heap.size_push]; exact Nat.lt_succ_of_lt hlt⟩
    rw [upd_ne (by rw [← hD]; exact Nat.ne_of_lt hlt)]
    exact (f2 b hb).1
  have st3 : tn 0 s3.heap := T.keep _ _ _ st2 fun b _ o e => by rw [h3]; exact Heap.get?_push_of_some _ e
  have I4 := block_start I3 ok hN f3
  have pg := hg s3 (upd H2 D (.dK [])) s3.heap.objs.size (cellsFrom (s3.heap.objs.size + 1) scope.names (cloFrom X.env.cells scope.names [])) fp
  have pt := ht s3 (upd H2 D (.dK [])) s3.heap.objs.size (cellsFrom (s3.heap.objs.size + 1) scope.names (cloFrom X.env.cells scope.names [])) fp
  have pk := hk s3 (upd H2 D (.dK [])) s3.heap.objs.size (cellsFrom (s3.heap.objs.size + 1) scope.names (cloFrom X.env.cells scope.names [])) fp
  have pe := he s3 (upd H2 D (.dK [])) s3.heap.objs.size (cellsFrom (s3.heap.objs.size + 1) scope.names (cloFrom X.env.cells scope.names [])) fp
  have pi1 := hi1 s3 (upd H2 D (.dK [])) s3.heap.objs.size (cellsFrom (s3.heap.objs.size + 1) scope.names (cloFrom X.env.cells scope.names [])) fp
  have pg1 := hg1 s3 (upd H2 D (.dK [])) s3.heap.objs.size (cellsFrom (s3.heap.objs.size + 1) scope.names (cloFrom X.env.cells scope.names [])) fp
  have pt1 := ht1 s3 (upd H2 D (.dK [])) s3.heap.objs.size (cellsFrom (s3.heap.objs.size + 1) scope.names (cloFrom X.env.cells scope.names [])) fp
  show codeAny _ _ (.compStart (.DictComp kx vx [⟨tg, iter, ifs, 0⟩, ⟨tg1, iter1, ifs1, 0⟩] scope pos) 0 (.ref it) (.ref D) (compEnvC scope (cellsFrom (s3.heap.objs.size + 1) scope.names (cloFrom X.env.cells scope.names [])) s3.heap.objs.size X.env)) (compPost (model X.prog X.w) X.A X.xe use Qf (.ref D) s3.heap.objs.size) { s3 with heap := pushCells (s3.heap.push { cls := .type "dict", data := .dict #[] }) scope.names }
  have nfp : ∀ b ∈ fp, (upd H2 D (.dK [])) b = none := fun b hb => (f3 b hb).1.1
  generalize hce : compEnvC scope (cellsFrom (s3.heap.objs.size + 1) scope.names (cloFrom X.env.cells scope.names [])) s3.heap.objs.size X.env = ce at I4 pg pt pk pe pi1 pg1 pt1 ⊢
  have cL : ce.locals = s3.heap.objs.size := by subst hce; rfl
  generalize hH3 : upd H2 D (.dK []) = H3 at I3 I4 pg pt pk pe pi1 pg1 pt1 w0 nfp f3
  generalize hs4 : ({ s3 with heap := pushCells (s3.heap.push { cls := .type "dict", data := .dict #[] }) scope.names } : Shared) = s4 at I4 ⊢
  have st4 : tn 0 s4.heap := T.keep _ _ _ st3 fun b _ o e => by rw [← hs4]; exact pushCells_keeps _ _ _ _ (Heap.get?_push_of_some _ e)
  have stat : ∀ {σ' : St} {H' : Hp} {s' : Shared}, Inv (X.blk s3 H3 scope ce fp) [] σ' H' s' → (∀ b ∈ fp, H' b = none) → ∀ b ∈ fp, FpOk (X.blk s3 H3 scope ce fp) [] H' b := fun {σ' H' s'} I' hn b hb =>
    ⟨hn b hb, (I'.ok.exf b hb).1, I'.ok.exfs b hb, .inl hb, fun x c e => (I'.ok.exf b hb).2 x c e, fun p hp => absurd (show p ∈ ([] : List (Addr × Obj)) ++ [] from hp) (by simp)⟩
  have loop : codeAny (model X.prog X.w) X.A (.compLoop (.DictComp kx vx [⟨tg, iter, ifs, 0⟩, ⟨tg1, iter1, ifs1, 0⟩] scope pos) 0 (.ref it) (.ref D) ce) (compPost (model X.prog X.w) X.A X.xe use Qf (.ref D) s3.heap.objs.size) s4 := by
    refine compLoop2_outD (hs1 ce) (fun n s' => ∃ i H', Inv (X.blk s3 H3 scope ce fp) [] (wipe σ (own.map (·.2))) H' s' ∧ tn i s'.heap ∧ (∀ b ∈ fp, H' b = none) ∧ W i n H') ?_ m0 ⟨0, H3, I4, st4, nfp, w0⟩
    rintro n s5 ⟨i, H5, I5, st5, n5, w5⟩
    rcases turn i n H5 w5 with ⟨stop, qq⟩ | ⟨go, Nx, hNx, step⟩
    · have td := T.done (X.blk s3 H3 scope ce fp) rfl rfl rfl hc i [] s5 _ H5 (fun _ _ => False) I5 (stat I5 n5) st5 stop
      refine thnF td fun r s6 ⟨hr, I6⟩ => ?_
      subst hr
      -- back in the def's context
      have I7 : Inv X pins σ H5 s6 := I3.call' (ch := fp) I6.os I6.base I6.hok I6.bare fun b hb => ⟨(f3 b hb).1.2.2.2.1, (f3 b hb).1.2.1, (f3 b hb).1.2.2.2.2.1, (f3 b hb).1.2.2.2.2.2⟩
      have nC : H5 s3.heap.objs.size = none := by
        have z : H5 ce.locals = none := I6.free
        rw [cL] at z
        exact z
      obtain ⟨m, hn, _⟩ := I6.loc
      have hn : s6.heap.Ns ce.locals m := hn
      rw [cL] at hn
      exact hRR D s3.heap.objs.size s6 m H5 I7 qq hn (I3.fpOk (Nat.le_refl _) nC)
    · have ti := T.item (X.blk s3 H3 scope ce fp) rfl rfl rfl hc i [] s5 _ H5 (fun _ _ => False) I5 (stat I5 n5) st5 go
      refine thnF ti fun r s6 ⟨u, hr, h6⟩ => ?_
      subst hr
      refine thnF h6 fun _ s7 ⟨x, H7, I7, r7, y7, st7, n7⟩ => ?_
      have I7' := I7.pinned (stat I7 n7) (T.obj _ _ st7)
      refine thnF (pg.run _ s7 _ H7 x u _ I7' r7 (step x H7 y7)) fun _ s8 ⟨σ8, H8, I8, hw8, q8⟩ => ?_
      refine thnF (pt.run _ s8 σ8 H8 _ I8 q8) fun b s9 ⟨H9, I9, q9⟩ => ?_
      -- the turn's end, from any slots that know what the block knew at its start
      have fin : ∀ {σ9 : St} {s' : Shared} {H' : Hp}, Inv (X.blk s3 H3 scope ce fp) ([] ++ pinsAt fp s7.heap) σ9 H' s' → (wipe σ (own.map (·.2))).length = σ9.length → (∀ (j : Nat) v, (wipe σ (own.map (·.2)))[j]? = some (some v) → σ9[j]? = some (some v)) → Nx H' →
          ∃ m, m < n ∧ ∃ i H', Inv (X.blk s3 H3 scope ce fp) [] (wipe σ (own.map (·.2))) H' s' ∧ tn i s'.heap ∧ (∀ b ∈ fp, H' b = none) ∧ W i m H' := fun {σ9 s' H'} I' hl hk nx => by
        obtain ⟨m', hm, w'⟩ := hNx H' nx
        have pin' : ∀ b ∈ fp, ∀ o, s7.heap.get? b = some o → s'.heap.get? b = some o ∧ H' b = none := fun b hb o e =>
          let z := I'.pin (b, o) (List.mem_append_right _ (List.mem_append_right _ (mem_pinsAt hb e)))
          ⟨z.1, z.2.1⟩
        refine ⟨m', hm, i + 1, H', (I'.unpinned (pins := [])).weak hl hk, T.keep _ _ _ st7 fun b hb o e => (pin' b hb o e).1, fun b hb => ?_, w'⟩
        obtain ⟨o, e, _⟩ := T.obj _ _ st7 b hb
        exact (pin' b hb o e).2
      have hl8 : (wipe σ (own.map (·.2))).length = σ8.length := by rw [← hw8, wipe_length]
      have hk8 : ∀ (j : Nat) v, (wipe σ (own.map (·.2)))[j]? = some (some v) → σ8[j]? = some (some v) := fun j v e => by
        rw [← hw8] at e
        exact (wipe_some e).1
      have hk9 : ∀ (j : Nat) v, (wipe σ (own.map (·.2)))[j]? = some (some v) → (wipe σ8 vs1)[j]? = some (some v) := fun j v e => by
        rw [← hw8] at e
        obtain ⟨e1, e2⟩ := wipe_some e
        rw [wipe_out fun z => e2 (hv j z)]
        exact e1
      cases b with
      | false =>
        simp only [Bool.false_eq_true, if_false] at q9 ⊢
        exact fin I9 hl8 hk8 q9
      | true =>
        simp only [if_true] at q9 ⊢
        refine thnF (pi1.run _ s9 σ8 H9 _ I9 q9) fun xv s10 hx => thnF hx fun itv s11 h11 => ?_
        obtain ⟨it1, fp1, tn1, J1, H11, e1, I11, T1, st11, f11, W1, ⟨m1, w1⟩, turn1⟩ := h11
        subst e1
        -- the inner loop
        have stat1 : ∀ {H' : Hp}, (∀ b ∈ fp1, H' b = none) → ∀ b ∈ fp1, FpOk (X.blk s3 H3 scope ce fp) ([] ++ pinsAt fp s7.heap) H' b := fun hn b hb => ⟨hn b hb, (f11 b hb).2⟩
        have loop1 : codeAny (model X.prog X.w) X.A (.compLoop (.DictComp kx vx [⟨tg, iter, ifs, 0⟩, ⟨tg1, iter1, ifs1, 0⟩] scope pos) 1 (.ref it1) (.ref D) ce)
            (fun r s' => match r with
              | .ok _ => ∃ m, m < n ∧ ∃ i H', Inv (X.blk s3 H3 scope ce fp) [] (wipe σ (own.map (·.2))) H' s' ∧ tn i s'.heap ∧ (∀ b ∈ fp, H' b = none) ∧ W i m H'
              | .error _ => False) s11 := by
          refine compLoop2_inD (fun k s' => ∃ j H', Inv (X.blk s3 H3 scope ce fp) ([] ++ pinsAt fp s7.heap) (wipe σ8 vs1) H' s' ∧ tn1 j s'.heap ∧ (∀ b ∈ fp1, H' b = none) ∧ W1 j k H') ?_ m1 ⟨0, H11, I11.weak (wipe_length _ _) (fun j v e => (wipe_some e).1), st11, fun b hb => (f11 b hb).1, w1⟩
          rintro k s12 ⟨j, H12, I12, st12, n12, w12⟩
          rcases turn1 j k H12 w12 with ⟨stop1, nx1⟩ | ⟨go1, Nx1, hNx1, step1⟩
          · refine thnF (T1.done (X.blk s3 H3 scope ce fp) rfl rfl rfl hc j _ s12 (wipe σ8 vs1) H12 (fun _ _ => False) I12 (stat1 n12) st12 stop1) fun r s13 ⟨hr, I13⟩ => ?_
            subst hr
            exact fin I13 (hl8.trans (wipe_length σ8 vs1).symm) hk9 nx1
          · refine thnF (T1.item (X.blk s3 H3 scope ce fp) rfl rfl rfl hc j _ s12 (wipe σ8 vs1) H12 (fun _ _ => False) I12 (stat1 n12) st12 go1) fun r s13 ⟨u1, hr, h13⟩ => ?_
            subst hr
            refine thnF h13 fun _ s14 ⟨x1, H14, I14, r14, y14, st14, n14⟩ => ?_
            have I14' := I14.pinned (stat1 n14) (T1.obj _ _ st14)
            refine thnF (pg1.run _ s14 (wipe σ8 vs1) H14 x1 u1 _ I14' r14 (step1 x1 H14 y14)) fun _ s15 ⟨σ15, H15, I15, hw15, q15⟩ => ?_
            refine thnF (pt1.run _ s15 σ15 H15 _ I15 q15) fun b1 s16 ⟨H16, I16, q16⟩ => ?_
            have fin1 : ∀ {s' : Shared} {H' : Hp}, Inv (X.blk s3 H3 scope ce fp) (([] ++ pinsAt fp s7.heap) ++ pinsAt fp1 s14.heap) σ15 H' s' → Nx1 H' → ∃ m, m < k ∧ ∃ j H', Inv (X.blk s3 H3 scope ce fp) ([] ++ pinsAt fp s7.heap) (wipe σ8 vs1) H' s' ∧ tn1 j s'.heap ∧ (∀ b ∈ fp1, H' b = none) ∧ W1 j m H' := fun {s' H'} I' nx => by
              obtain ⟨m', hm, w'⟩ := hNx1 H' nx
              have pin' : ∀ b ∈ fp1, ∀ o, s14.heap.get? b = some o → s'.heap.get? b = some o ∧ H' b = none := fun b hb o e =>
                let z := I'.pin (b, o) (List.mem_append_right _ (List.mem_append_right _ (mem_pinsAt hb e)))
                ⟨z.1, z.2.1⟩
              refine ⟨m', hm, j + 1, H', I'.unpinned.weak (by rw [← hw15, wipe_length]) (fun j v e => by rw [← hw15] at e; exact (wipe_some e).1), T1.keep _ _ _ st14 fun b hb o e => (pin' b hb o e).1, fun b hb => ?_, w'⟩
              obtain ⟨o, e, _⟩ := T1.obj _ _ st14 b hb
              exact (pin' b hb o e).2
            cases b1 with
            | false =>
              simp only [Bool.false_eq_true, if_false] at q16 ⊢
              exact fin1 I16 q16
            | true =>
              simp only [if_true] at q16 ⊢
              refine thnF (pk.run _ s16 σ15 H16 _ I16 q16) fun z s17 ⟨yk, H17, I17, r17, q17⟩ => ?_
              refine thnF (pe.run _ s17 σ15 H17 _ I17 q17) fun z2 s18 ⟨yv, H18, I18, r18, kvs, kk, ek, hD18, hz18, nx⟩ => ?_
              subst ek
              exact d_dictSet (X := X.blk s3 H3 scope ce fp) I18 hD18 hz18 r17 r18 fun s19 I19 => fin1 I19 nx
        exact compStart1_okD loop1 (T1.self X.A 0 _ _ _ st11 loop1)
  exact codeAny_compStart_dict loop (T.self X.A 0 _ _ _ st4 loop)
/-- as a value -/
theorem pe_lc2D {kx vx tg iter tg1 iter1 : Expr} {ifs ifs1 : List Expr} {scope : Scope} {own : List (Str × Nat)} {vs1 : List Nat} {pos : Pos} {wi wi1 : TI} {g g1 : TG} {tt tt1 : TT} {tk tv : TE} (hc : X.calm = true) (hN : X.N.Nodup) (hi : PI X tg iter wi) (ok : BlkOk X.N X.env.scope scope own) (hv : ∀ i ∈ vs1, i ∈ own.map (·.2))
    (hg : ∀ (s : Shared) (H : Hp) (C : Addr) (cl : List (Str × Addr)) (fp : List Addr), PG (X.blk s H scope (compEnvC scope cl C X.env) fp) tg g) (ht : ∀ (s : Shared) (H : Hp) (C : Addr) (cl : List (Str × Addr)) (fp : List Addr), PTs (X.blk s H scope (compEnvC scope cl C X.env) fp) ifs tt)
    (hi1 : ∀ (s : Shared) (H : Hp) (C : Addr) (cl : List (Str × Addr)) (fp : List Addr), PI (X.blk s H scope (compEnvC scope cl C X.env) fp) tg1 iter1 wi1)
    (hg1 : ∀ (s : Shared) (H : Hp) (C : Addr) (cl : List (Str × Addr)) (fp : List Addr), PG (X.blk s H scope (compEnvC scope cl C X.env) fp) tg1 g1) (ht1 : ∀ (s : Shared) (H : Hp) (C : Addr) (cl : List (Str × Addr)) (fp : List Addr), PTs (X.blk s H scope (compEnvC scope cl C X.env) fp) ifs1 tt1)
    (hk : ∀ (s : Shared) (H : Hp) (C : Addr) (cl : List (Str × Addr)) (fp : List Addr), PE (X.blk s H scope (compEnvC scope cl C X.env) fp) kx tk) (he : ∀ (s : Shared) (H : Hp) (C : Addr) (cl : List (Str × Addr)) (fp : List Addr), PE (X.blk s H scope (compEnvC scope cl C X.env) fp) vx tv) (hs : ∀ x, foldedSetIterable iter X.env x = pure x := by intro _; rfl) (hs1 : ∀ env x, foldedSetIterable iter1 env x = pure x := by intro _ _; rfl) :
    PE X (.DictComp kx vx [⟨tg, iter, ifs, 0⟩, ⟨tg1, iter1, ifs1, 0⟩] scope pos) (tLc2D wi g tt wi1 g1 tt1 tk tv (own.map (·.2)) vs1) := by
  refine ⟨fun pins s σ H Q I h => ?_⟩
  rw [arm_eval_DictComp]
  refine lc2_coreD hc hN I hi ok hv hg ht hk he hs hi1 hg1 ht1 hs1 h fun D C s' m H' I' q hn f => ⟨m, hn, fun h'' sb => ?_⟩
  obtain ⟨f0, f1, f2, f3, f4, f5⟩ := f
  exact ⟨.ref D, H', I'.turned (t' := s'.toks) (fun b o hb e => (sb.2 b hb).trans e) f0 f1 f3 f4 f5, rfl, q⟩
end
end L2
set_option Elab.async false
set_option linter.all false
set_option maxRecDepth 100000
set_option maxHeartbeats 4000000
/-! VL14: dict comprehensions, comprehensions of two clauses, by values (nothing else changes). -/
namespace VL
open PySem PySem.Spec PyProof.Rows L2
def dfold (kvs : List (Key × D)) (ps : List (Key × D)) : List (Key × D) := ps.foldl (fun kvs p => putKD kvs p.1 p.2) kvs
theorem putKD_len (kvs : List (Key × D)) (k : Key) (v : D) : (putKD kvs k v).length ≤ kvs.length + 1 := by
  unfold putKD
  split <;> simp
theorem dfold_len : ∀ (ps kvs : List (Key × D)), (dfold kvs ps).length ≤ kvs.length + ps.length
  | [], kvs => by simp [dfold]
  | p :: ps, kvs => by
    have h1 := dfold_len ps (putKD kvs p.1 p.2)
    have h2 := putKD_len kvs p.1 p.2
    show (dfold (putKD kvs p.1 p.2) ps).length ≤ _
    simp only [List.length_cons]
    omega
theorem dfold_app (ps qs kvs : List (Key × D)) : dfold kvs (ps ++ qs) = dfold (dfold kvs ps) qs := List.foldl_append
section
variable {K : PySem.W.Frag} {Z : Wish} {δ : Env} {μ : Store}
theorem fm_succ {α : Type} {fn : Nat → Option α} {i : Nat} : (List.range (i + 1)).filterMap fn = (List.range i).filterMap fn ++ (fn i).toList := by
  rw [List.range_succ, List.filterMap_append]
  cases e : fn i <;> simp [List.filterMap, e]
theorem fl_succ {α : Type} {fn : Nat → List α} {i : Nat} : (List.range (i + 1)).flatMap fn = (List.range i).flatMap fn ++ fn i := by
  rw [List.range_succ, List.flatMap_append]
  simp
theorem fl_take {α : Type} {fn : Nat → List α} {i n : Nat} (h : i ≤ n) : ((List.range i).flatMap fn).length ≤ ((List.range n).flatMap fn).length := by
  obtain ⟨k, rfl⟩ := Nat.exists_eq_add_of_le h
  rw [List.range_add, List.flatMap_append, List.length_append]
  omega
theorem fm_len {α : Type} {fn : Nat → Option α} {i : Nat} : ((List.range i).filterMap fn).length ≤ i := by
  have := List.length_filterMap_le fn (List.range i)
  rwa [List.length_range] at this
/-- {k: v for ..} -/
theorem we_dcF {wi : TI} {g : TG} {tt : TT} {tk tv : TE} {js vs : List Nat} {P : D → Store → Prop} (hj : ∀ i ∈ js, i ∈ vs) (h : WI K Z wi δ μ fun ds μ1 => ds.length ≤ 100000 ∧ ∃ fn : Nat → Option (Key × D),
    (∀ i d, ds[i]? = some d → WG K Wish.no g js d (wipeD δ vs) μ1 fun δ2 μ2 => WT K Wish.no tt δ2 μ2 fun b μ3 => if b = true then WE K Wish.no tk δ2 μ3 fun y μ4 => WE K Wish.no tv δ2 μ4 fun z μ5 => ∃ k, keyD y = some k ∧ fn i = some (k, z) ∧ μ5 = μ1 else fn i = none ∧ μ3 = μ1) ∧
    P (.dct (dfold [] ((List.range ds.length).filterMap fn))) μ1) : WE K Z (tDc wi g tt tk tv vs) δ μ P := fun σ F H Q s c k z => by
  refine h σ F H _ s c (fun J ds μ1 F1 H1 ⟨hz, fn, hs, hd⟩ m1 c1 it Dl nD => ?_) z
  have s1 := s.mono m1.up
  have kD := mv_newM (o := .dK []) (m := .dct []) c1 nD
  have cD := cm_newM (o := .dK []) (m := .dct []) c1 nD ⟨[], upd_same, .nil⟩
  refine ⟨fun i m H' => m = ds.length - i ∧ i ≤ ds.length ∧ ∃ F', Mv μ1 F1 H1 (μ1 ++ [(Dl, .dct (dfold [] ((List.range i).filterMap fn)))]) F' H' ∧ Cm K F' H' (μ1 ++ [(Dl, .dct (dfold [] ((List.range i).filterMap fn)))]), ⟨ds.length, rfl, Nat.zero_le _, F1, kD, cD⟩, ?_⟩
  rintro i m H' ⟨rfl, hi, F', mm, cc⟩
  obtain ⟨go, stop⟩ := it (μ1 ++ [(Dl, .dct (dfold [] ((List.range i).filterMap fn)))]) F' H' i mm.up cc
  by_cases hlt : i < ds.length
  · refine .inr ⟨(go _ (List.getElem?_eq_getElem hlt)).1, fun H2 => ∃ F2, Mv μ1 F1 H1 (μ1 ++ [(Dl, .dct (dfold [] ((List.range (i + 1)).filterMap fn)))]) F2 H2 ∧ Cm K F2 H2 (μ1 ++ [(Dl, .dct (dfold [] ((List.range (i + 1)).filterMap fn)))]), fun H2 q => ⟨ds.length - (i + 1), by omega, rfl, hlt, q⟩, fun x H2 y => ?_⟩
    obtain ⟨F2, m2, c2, r2⟩ := (go _ (List.getElem?_eq_getElem hlt)).2 x H2 y
    have mm2 := mm.trans m2
    have sw : Slots K F2 (L2.wipe σ vs) (wipeD δ vs) := ((s1.wipe vs).mono mm.up).mono m2.up
    refine hs i _ (List.getElem?_eq_getElem hlt) x (L2.wipe σ vs) F2 H2 _ sw c2.take r2 (fun σ3 δ3 μ3 F3 H3 w e3 m3 c3 s3 => ?_) ZK.no
    obtain ⟨m3', c3'⟩ := Mv.lent c2 m3 c3
    refine ⟨wipe_eq (fun j hj' => e3.1 j fun q => hj' (hj j q)) (e3.2.trans (wipe_length ..)), ?_⟩
    refine w σ3 F3 H3 _ s3 c3 (fun b μ4 F4 H4 w4 m4 c4 => ?_) ZK.no
    obtain ⟨m4', c4'⟩ := Mv.lent c3' m4 c4
    have mm4 := (mm2.trans m3').trans m4'
    cases b with
    | false =>
      obtain ⟨e, em⟩ := w4
      subst em
      have ee : (List.range (i + 1)).filterMap fn = (List.range i).filterMap fn := by rw [fm_succ, e]; simp
      refine ⟨F4, ?_, ?_⟩
      · rw [ee]; exact mm4
      · rw [ee]; exact c4'
    | true =>
      refine w4 σ3 F4 H4 _ (s3.mono m4.up) c4 (fun v y μ5 F5 H5 w5 m5 c5 r5 => ?_) ZK.no
      refine w5 σ3 F5 H5 _ ((s3.mono m4.up).mono m5.up) c5 (fun v2 zz μ6 F6 H6 ⟨kk, hk, e, em⟩ m6 c6 r6 => ?_) ZK.no
      subst em
      obtain ⟨m5', c5'⟩ := Mv.lent c4' m5 c5
      obtain ⟨m6', c6'⟩ := Mv.lent c5' m6 c6
      obtain ⟨_, kv, hx, rx⟩ := c6'.mu (Dl, .dct (dfold [] ((List.range i).filterMap fn))) (List.mem_append_right _ (by simp))
      have hj5 := at_end (μ := μ6) (p := (Dl, MO.dct (dfold [] ((List.range i).filterMap fn))))
      have ee : dfold [] ((List.range (i + 1)).filterMap fn) = putKD (dfold [] ((List.range i).filterMap fn)) kk zz := by rw [fm_succ, e, dfold_app]; rfl
      refine ⟨kv, kk, key_rep r5 hk, hx, ?_, F6, ?_, ?_⟩
      · have l1 := dfold_len ((List.range i).filterMap fn) []
        have l2 := fm_len (fn := fn) (i := i)
        rw [rx.length]
        simp only [List.length_nil] at l1
        exact Nat.lt_of_le_of_lt (Nat.le_trans l1 (by omega)) (Nat.lt_of_lt_of_le hlt (Nat.le_trans hz (by decide)))
      · rw [ee, ← set_end (p := (Dl, MO.dct (dfold [] ((List.range i).filterMap fn))))]; exact ((mm4.trans m5').trans m6').trans (mv_set hj5 c6')
      · rw [ee, ← set_end (p := (Dl, MO.dct (dfold [] ((List.range i).filterMap fn))))]; exact cm_set hj5 c6' ⟨_, upd_same, repsK_put r6 rx⟩
  · have e : i = ds.length := by omega
    subst e
    refine .inl ⟨stop (Nat.le_refl _), ?_⟩
    obtain ⟨_, kv, hx, rx⟩ := cc.mu (Dl, .dct (dfold [] ((List.range ds.length).filterMap fn))) (List.mem_append_right _ (by simp))
    have hj5 := at_end (μ := μ1) (p := (Dl, MO.dct (dfold [] ((List.range ds.length).filterMap fn))))
    have mf := mv_frz hj5 hx cc
    have cf := cm_frz hj5 hx cc
    rw [del_end] at mf cf
    exact k _ _ _ _ _ hd (m1.trans (mm.trans mf)) cf (.dct upd_same (rx.mono mf.up))
/-- what one outer turn of two clauses gives -/
abbrev In2 (K : PySem.W.Frag) (wi1 : TI) (g1 : TG) (tt1 : TT) (te : TE) (js1 vs1 : List Nat) (δ2 : Env) (μ3 μ1 : Store) (r : List D) : Prop :=
  WI K Wish.no wi1 δ2 μ3 fun ds1 μ4 => μ4 = μ1 ∧ ∃ fn1 : Nat → Option D, r = (List.range ds1.length).filterMap fn1 ∧
    ∀ i d, ds1[i]? = some d → WG K Wish.no g1 js1 d (wipeD δ2 vs1) μ1 fun δ5 μ5 => WT K Wish.no tt1 δ5 μ5 fun b μ6 => if b = true then WE K Wish.no te δ5 μ6 fun y μ7 => fn1 i = some y ∧ μ7 = μ1 else fn1 i = none ∧ μ6 = μ1
/-- [e for .. for ..] -/
theorem we_lc2F {wi wi1 : TI} {g g1 : TG} {tt tt1 : TT} {te : TE} {js vs js1 vs1 : List Nat} {P : D → Store → Prop} (hj : ∀ i ∈ js, i ∈ vs) (hj1 : ∀ i ∈ js1, i ∈ vs1) (h : WI K Z wi δ μ fun ds μ1 => ∃ fn : Nat → List D, ((List.range ds.length).flatMap fn).length ≤ 100000 ∧
    (∀ i d, ds[i]? = some d → WG K Wish.no g js d (wipeD δ vs) μ1 fun δ2 μ2 => WT K Wish.no tt δ2 μ2 fun b μ3 => if b = true then In2 K wi1 g1 tt1 te js1 vs1 δ2 μ3 μ1 (fn i) else fn i = [] ∧ μ3 = μ1) ∧
    P (.lst ((List.range ds.length).flatMap fn)) μ1) : WE K Z (tLc2 wi g tt wi1 g1 tt1 te vs vs1) δ μ P := fun σ F H Q s c k z => by
  refine h σ F H _ s c (fun J ds μ1 F1 H1 ⟨fn, hz, hs, hd⟩ m1 c1 it Dl nD => ?_) z
  have s1 := s.mono m1.up
  have kD := mv_newM (o := .lst []) (m := .lst []) c1 nD
  have cD := cm_newM (o := .lst []) (m := .lst []) c1 nD ⟨[], upd_same, .nil⟩
  refine ⟨fun i m H' => m = ds.length - i ∧ i ≤ ds.length ∧ ∃ F', Mv μ1 F1 H1 (μ1 ++ [(Dl, .lst ((List.range i).flatMap fn))]) F' H' ∧ Cm K F' H' (μ1 ++ [(Dl, .lst ((List.range i).flatMap fn))]), ⟨ds.length, rfl, Nat.zero_le _, F1, kD, cD⟩, ?_⟩
  rintro i m H' ⟨rfl, hi, F', mm, cc⟩
  obtain ⟨go, stop⟩ := it (μ1 ++ [(Dl, .lst ((List.range i).flatMap fn))]) F' H' i mm.up cc
  by_cases hlt : i < ds.length
  · refine .inr ⟨(go _ (List.getElem?_eq_getElem hlt)).1, fun H2 => ∃ F2, Mv μ1 F1 H1 (μ1 ++ [(Dl, .lst ((List.range (i + 1)).flatMap fn))]) F2 H2 ∧ Cm K F2 H2 (μ1 ++ [(Dl, .lst ((List.range (i + 1)).flatMap fn))]), fun H2 q => ⟨ds.length - (i + 1), by omega, rfl, hlt, q⟩, fun x H2 y => ?_⟩
    obtain ⟨F2, m2, c2, r2⟩ := (go _ (List.getElem?_eq_getElem hlt)).2 x H2 y
    have mm2 := mm.trans m2
    have sw : Slots K F2 (L2.wipe σ vs) (wipeD δ vs) := ((s1.wipe vs).mono mm.up).mono m2.up
    refine hs i _ (List.getElem?_eq_getElem hlt) x (L2.wipe σ vs) F2 H2 _ sw c2.take r2 (fun σ3 δ3 μ3 F3 H3 w e3 m3 c3 s3 => ?_) ZK.no
    obtain ⟨m3', c3'⟩ := Mv.lent c2 m3 c3
    refine ⟨wipe_eq (fun j hj' => e3.1 j fun q => hj' (hj j q)) (e3.2.trans (wipe_length ..)), ?_⟩
    refine w σ3 F3 H3 _ s3 c3 (fun b μ4 F4 H4 w4 m4 c4 => ?_) ZK.no
    obtain ⟨m4', c4'⟩ := Mv.lent c3' m4 c4
    have mm4 := (mm2.trans m3').trans m4'
    have s4 := s3.mono m4.up
    cases b with
    | false =>
      obtain ⟨e, em⟩ := w4
      subst em
      have ee : (List.range (i + 1)).flatMap fn = (List.range i).flatMap fn := by rw [fl_succ, e]; simp
      refine ⟨F4, ?_, ?_⟩
      · rw [ee]; exact mm4
      · rw [ee]; exact c4'
    | true =>
      refine w4 σ3 F4 H4 _ s4 c4 (fun J1 ds1 μ5 F5 H5 ⟨em, fn1, er, ht⟩ m5 c5 it1 => ?_) ZK.no
      subst em
      obtain ⟨m5', c5'⟩ := Mv.lent c4' m5 c5
      have mm5 := mm4.trans m5'
      have s5 := s4.mono m5.up
      have bnd : ∀ j, j ≤ ds1.length → ((List.range i).flatMap fn ++ (List.range j).filterMap fn1).length ≤ 100000 := fun j hj => by
        have h1 : ((List.range (i + 1)).flatMap fn).length ≤ 100000 := Nat.le_trans (fl_take hlt) hz
        rw [fl_succ, List.length_append, er] at h1
        have h2 : ((List.range j).filterMap fn1).length ≤ ((List.range ds1.length).filterMap fn1).length := by
          obtain ⟨t, rt⟩ := Nat.exists_eq_add_of_le hj
          rw [rt, List.range_add, List.filterMap_append, List.length_append]
          omega
        rw [List.length_append]
        omega
      refine ⟨fun j m H' => m = ds1.length - j ∧ j ≤ ds1.length ∧ ∃ F', Mv μ5 F1 H1 (μ5 ++ [(Dl, .lst ((List.range i).flatMap fn ++ (List.range j).filterMap fn1))]) F' H' ∧ Cm K F' H' (μ5 ++ [(Dl, .lst ((List.range i).flatMap fn ++ (List.range j).filterMap fn1))]) ∧ Same F5 F',
        ⟨ds1.length, rfl, Nat.zero_le _, F5, by simpa using mm5, by simpa using c5', Same.refl _⟩, ?_⟩
      rintro j m H6 ⟨rfl, hj', F6, mm6, cc6, up6⟩
      obtain ⟨go1, stop1⟩ := it1 (μ5 ++ [(Dl, .lst ((List.range i).flatMap fn ++ (List.range j).filterMap fn1))]) F6 H6 j up6 cc6
      by_cases hlt1 : j < ds1.length
      · refine .inr ⟨(go1 _ (List.getElem?_eq_getElem hlt1)).1, fun H2 => ∃ F2, Mv μ5 F1 H1 (μ5 ++ [(Dl, .lst ((List.range i).flatMap fn ++ (List.range (j + 1)).filterMap fn1))]) F2 H2 ∧ Cm K F2 H2 (μ5 ++ [(Dl, .lst ((List.range i).flatMap fn ++ (List.range (j + 1)).filterMap fn1))]) ∧ Same F5 F2, fun H2 q => ⟨ds1.length - (j + 1), by omega, rfl, hlt1, q⟩, fun x1 H7 y1 => ?_⟩
        obtain ⟨F7, m7, c7, r7⟩ := (go1 _ (List.getElem?_eq_getElem hlt1)).2 x1 H7 y1
        have mm7 := mm6.trans m7
        have sw7 : Slots K F7 (L2.wipe σ3 vs1) (wipeD δ3 vs1) := ((s5.wipe vs1).mono up6).mono m7.up
        refine ht j _ (List.getElem?_eq_getElem hlt1) x1 (L2.wipe σ3 vs1) F7 H7 _ sw7 c7.take r7 (fun σ8 δ8 μ8 F8 H8 w8 e8 m8 c8 s8 => ?_) ZK.no
        obtain ⟨m8', c8'⟩ := Mv.lent c7 m8 c8
        refine ⟨wipe_eq (fun j hj' => e8.1 j fun q => hj' (hj1 j q)) (e8.2.trans (wipe_length ..)), ?_⟩
        refine w8 σ8 F8 H8 _ s8 c8 (fun b μ9 F9 H9 w9 m9 c9 => ?_) ZK.no
        obtain ⟨m9', c9'⟩ := Mv.lent c8' m9 c9
        have mm9 := (mm7.trans m8').trans m9'
        cases b with
        | false =>
          obtain ⟨e, em⟩ := w9
          subst em
          have ee : (List.range (j + 1)).filterMap fn1 = (List.range j).filterMap fn1 := by rw [fm_succ, e]; simp
          refine ⟨F9, ?_, ?_, ((up6.trans m7.up).trans m8.up).trans m9.up⟩
          · rw [ee]; exact mm9
          · rw [ee]; exact c9'
        | true =>
          refine w9 σ8 F9 H9 _ (s8.mono m9.up) c9 (fun v y μa Fa Ha ⟨e, em⟩ ma ca ra => ?_) ZK.no
          subst em
          obtain ⟨ma', ca'⟩ := Mv.lent c9' ma ca
          obtain ⟨_, xs, hx, rx⟩ := ca'.mu (Dl, .lst ((List.range i).flatMap fn ++ (List.range j).filterMap fn1)) (List.mem_append_right _ (by simp))
          have hj5 := at_end (μ := μa) (p := (Dl, MO.lst ((List.range i).flatMap fn ++ (List.range j).filterMap fn1)))
          have ee : (List.range i).flatMap fn ++ (List.range (j + 1)).filterMap fn1 = ((List.range i).flatMap fn ++ (List.range j).filterMap fn1) ++ [y] := by rw [fm_succ, e]; simp
          refine ⟨xs, hx, ?_, Fa, ?_, ?_, (((up6.trans m7.up).trans m8.up).trans m9.up).trans ma.up⟩
          · rw [rx.length]
            exact Nat.lt_of_le_of_lt (bnd j hj') (by decide)
          · rw [ee, ← set_end (p := (Dl, MO.lst ((List.range i).flatMap fn ++ (List.range j).filterMap fn1)))]; exact (mm9.trans ma').trans (mv_set hj5 ca')
          · rw [ee, ← set_end (p := (Dl, MO.lst ((List.range i).flatMap fn ++ (List.range j).filterMap fn1)))]; exact cm_set hj5 ca' ⟨_, upd_same, rx.append (.cons ra .nil)⟩
      · have e : j = ds1.length := by omega
        subst e
        refine .inl ⟨stop1 (Nat.le_refl _), F6, ?_, ?_⟩
        · rw [fl_succ, er]; exact mm6
        · rw [fl_succ, er]; exact cc6
  · have e : i = ds.length := by omega
    subst e
    refine .inl ⟨stop (Nat.le_refl _), ?_⟩
    obtain ⟨_, xs, hx, rx⟩ := cc.mu (Dl, .lst ((List.range ds.length).flatMap fn)) (List.mem_append_right _ (by simp))
    have hj5 := at_end (μ := μ1) (p := (Dl, MO.lst ((List.range ds.length).flatMap fn)))
    have mf := mv_frz hj5 hx cc
    have cf := cm_frz hj5 hx cc
    rw [del_end] at mf cf
    exact k _ _ _ _ _ hd (m1.trans (mm.trans mf)) cf (.lst upd_same (rx.mono mf.up))
end
end VL
set_option Elab.async false
set_option linter.all false
set_option maxRecDepth 100000
set_option maxHeartbeats 4000000
/-! VL15: dict comprehensions of two clauses by values; the rules on the syntax. -/
namespace VL
open PySem PySem.Spec PyProof.Rows L2
section
variable {K : PySem.W.Frag} {Z : Wish} {δ : Env} {μ : Store}
/-- what one outer turn of two clauses gives -/
abbrev In2D (K : PySem.W.Frag) (wi1 : TI) (g1 : TG) (tt1 : TT) (tk tv : TE) (js1 vs1 : List Nat) (δ2 : Env) (μ3 μ1 : Store) (r : List (Key × D)) : Prop :=
  WI K Wish.no wi1 δ2 μ3 fun ds1 μ4 => μ4 = μ1 ∧ ∃ fn1 : Nat → Option (Key × D), r = (List.range ds1.length).filterMap fn1 ∧
    ∀ i d, ds1[i]? = some d → WG K Wish.no g1 js1 d (wipeD δ2 vs1) μ1 fun δ5 μ5 => WT K Wish.no tt1 δ5 μ5 fun b μ6 => if b = true then WE K Wish.no tk δ5 μ6 fun y μ7 => WE K Wish.no tv δ5 μ7 fun z μ8 => ∃ k, keyD y = some k ∧ fn1 i = some (k, z) ∧ μ8 = μ1 else fn1 i = none ∧ μ6 = μ1
/-- {k: v for .. for ..} -/
theorem we_dc2F {wi wi1 : TI} {g g1 : TG} {tt tt1 : TT} {tk tv : TE} {js vs js1 vs1 : List Nat} {P : D → Store → Prop} (hj : ∀ i ∈ js, i ∈ vs) (hj1 : ∀ i ∈ js1, i ∈ vs1) (h : WI K Z wi δ μ fun ds μ1 => ∃ fn : Nat → List (Key × D), ((List.range ds.length).flatMap fn).length ≤ 100000 ∧
    (∀ i d, ds[i]? = some d → WG K Wish.no g js d (wipeD δ vs) μ1 fun δ2 μ2 => WT K Wish.no tt δ2 μ2 fun b μ3 => if b = true then In2D K wi1 g1 tt1 tk tv js1 vs1 δ2 μ3 μ1 (fn i) else fn i = [] ∧ μ3 = μ1) ∧
    P (.dct (dfold [] ((List.range ds.length).flatMap fn))) μ1) : WE K Z (tLc2D wi g tt wi1 g1 tt1 tk tv vs vs1) δ μ P := fun σ F H Q s c k z => by
  refine h σ F H _ s c (fun J ds μ1 F1 H1 ⟨fn, hz, hs, hd⟩ m1 c1 it Dl nD => ?_) z
  have s1 := s.mono m1.up
  have kD := mv_newM (o := .dK []) (m := .dct []) c1 nD
  have cD := cm_newM (o := .dK []) (m := .dct []) c1 nD ⟨[], upd_same, .nil⟩
  refine ⟨fun i m H' => m = ds.length - i ∧ i ≤ ds.length ∧ ∃ F', Mv μ1 F1 H1 (μ1 ++ [(Dl, .dct (dfold [] ((List.range i).flatMap fn)))]) F' H' ∧ Cm K F' H' (μ1 ++ [(Dl, .dct (dfold [] ((List.range i).flatMap fn)))]), ⟨ds.length, rfl, Nat.zero_le _, F1, kD, cD⟩, ?_⟩
  rintro i m H' ⟨rfl, hi, F', mm, cc⟩
  obtain ⟨go, stop⟩ := it (μ1 ++ [(Dl, .dct (dfold [] ((List.range i).flatMap fn)))]) F' H' i mm.up cc
  by_cases hlt : i < ds.length
  · refine .inr ⟨(go _ (List.getElem?_eq_getElem hlt)).1, fun H2 => ∃ F2, Mv μ1 F1 H1 (μ1 ++ [(Dl, .dct (dfold [] ((List.range (i + 1)).flatMap fn)))]) F2 H2 ∧ Cm K F2 H2 (μ1 ++ [(Dl, .dct (dfold [] ((List.range (i + 1)).flatMap fn)))]), fun H2 q => ⟨ds.length - (i + 1), by omega, rfl, hlt, q⟩, fun x H2 y => ?_⟩
    obtain ⟨F2, m2, c2, r2⟩ := (go _ (List.getElem?_eq_getElem hlt)).2 x H2 y
    have mm2 := mm.trans m2
    have sw : Slots K F2 (L2.wipe σ vs) (wipeD δ vs) := ((s1.wipe vs).mono mm.up).mono m2.up
    refine hs i _ (List.getElem?_eq_getElem hlt) x (L2.wipe σ vs) F2 H2 _ sw c2.take r2 (fun σ3 δ3 μ3 F3 H3 w e3 m3 c3 s3 => ?_) ZK.no
    obtain ⟨m3', c3'⟩ := Mv.lent c2 m3 c3
    refine ⟨wipe_eq (fun j hj' => e3.1 j fun q => hj' (hj j q)) (e3.2.trans (wipe_length ..)), ?_⟩
    refine w σ3 F3 H3 _ s3 c3 (fun b μ4 F4 H4 w4 m4 c4 => ?_) ZK.no
    obtain ⟨m4', c4'⟩ := Mv.lent c3' m4 c4
    have mm4 := (mm2.trans m3').trans m4'
    have s4 := s3.mono m4.up
    cases b with
    | false =>
      obtain ⟨e, em⟩ := w4
      subst em
      have ee : (List.range (i + 1)).flatMap fn = (List.range i).flatMap fn := by rw [fl_succ, e]; simp
      refine ⟨F4, ?_, ?_⟩
      · rw [ee]; exact mm4
      · rw [ee]; exact c4'
    | true =>
      refine w4 σ3 F4 H4 _ s4 c4 (fun J1 ds1 μ5 F5 H5 ⟨em, fn1, er, ht⟩ m5 c5 it1 => ?_) ZK.no
      subst em
      obtain ⟨m5', c5'⟩ := Mv.lent c4' m5 c5
      have mm5 := mm4.trans m5'
      have s5 := s4.mono m5.up
      have bnd : ∀ j, j ≤ ds1.length → ((List.range i).flatMap fn ++ (List.range j).filterMap fn1).length ≤ 100000 := fun j hj => by
        have h1 : ((List.range (i + 1)).flatMap fn).length ≤ 100000 := Nat.le_trans (fl_take hlt) hz
        rw [fl_succ, List.length_append, er] at h1
        have h2 : ((List.range j).filterMap fn1).length ≤ ((List.range ds1.length).filterMap fn1).length := by
          obtain ⟨t, rt⟩ := Nat.exists_eq_add_of_le hj
          rw [rt, List.range_add, List.filterMap_append, List.length_append]
          omega
        rw [List.length_append]
        omega
      refine ⟨fun j m H' => m = ds1.length - j ∧ j ≤ ds1.length ∧ ∃ F', Mv μ5 F1 H1 (μ5 ++ [(Dl, .dct (dfold [] ((List.range i).flatMap fn ++ (List.range j).filterMap fn1)))]) F' H' ∧ Cm K F' H' (μ5 ++ [(Dl, .dct (dfold [] ((List.range i).flatMap fn ++ (List.range j).filterMap fn1)))]) ∧ Same F5 F',
        ⟨ds1.length, rfl, Nat.zero_le _, F5, by simpa using mm5, by simpa using c5', Same.refl _⟩, ?_⟩
      rintro j m H6 ⟨rfl, hj', F6, mm6, cc6, up6⟩
      obtain ⟨go1, stop1⟩ := it1 (μ5 ++ [(Dl, .dct (dfold [] ((List.range i).flatMap fn ++ (List.range j).filterMap fn1)))]) F6 H6 j up6 cc6
      by_cases hlt1 : j < ds1.length
      · refine .inr ⟨(go1 _ (List.getElem?_eq_getElem hlt1)).1, fun H2 => ∃ F2, Mv μ5 F1 H1 (μ5 ++ [(Dl, .dct (dfold [] ((List.range i).flatMap fn ++ (List.range (j + 1)).filterMap fn1)))]) F2 H2 ∧ Cm K F2 H2 (μ5 ++ [(Dl, .dct (dfold [] ((List.range i).flatMap fn ++ (List.range (j + 1)).filterMap fn1)))]) ∧ Same F5 F2, fun H2 q => ⟨ds1.length - (j + 1), by omega, rfl, hlt1, q⟩, fun x1 H7 y1 => ?_⟩
        obtain ⟨F7, m7, c7, r7⟩ := (go1 _ (List.getElem?_eq_getElem hlt1)).2 x1 H7 y1
        have mm7 := mm6.trans m7
        have sw7 : Slots K F7 (L2.wipe σ3 vs1) (wipeD δ3 vs1) := ((s5.wipe vs1).mono up6).mono m7.up
        refine ht j _ (List.getElem?_eq_getElem hlt1) x1 (L2.wipe σ3 vs1) F7 H7 _ sw7 c7.take r7 (fun σ8 δ8 μ8 F8 H8 w8 e8 m8 c8 s8 => ?_) ZK.no
        obtain ⟨m8', c8'⟩ := Mv.lent c7 m8 c8
        refine ⟨wipe_eq (fun j hj' => e8.1 j fun q => hj' (hj1 j q)) (e8.2.trans (wipe_length ..)), ?_⟩
        refine w8 σ8 F8 H8 _ s8 c8 (fun b μ9 F9 H9 w9 m9 c9 => ?_) ZK.no
        obtain ⟨m9', c9'⟩ := Mv.lent c8' m9 c9
        have mm9 := (mm7.trans m8').trans m9'
        cases b with
        | false =>
          obtain ⟨e, em⟩ := w9
          subst em
          have ee : (List.range (j + 1)).filterMap fn1 = (List.range j).filterMap fn1 := by rw [fm_succ, e]; simp
          refine ⟨F9, ?_, ?_, ((up6.trans m7.up).trans m8.up).trans m9.up⟩
          · rw [ee]; exact mm9
          · rw [ee]; exact c9'
        | true =>
          refine w9 σ8 F9 H9 _ (s8.mono m9.up) c9 (fun v0 y0 μb Fb Hb wb mb cb rb => ?_) ZK.no
          refine wb σ8 Fb Hb _ ((s8.mono m9.up).mono mb.up) cb (fun v y μa Fa Ha ⟨kk, hk, e, em⟩ ma ca ra => ?_) ZK.no
          subst em
          obtain ⟨mb', cb'⟩ := Mv.lent c9' mb cb
          obtain ⟨ma', ca'⟩ := Mv.lent cb' ma ca
          obtain ⟨_, xs, hx, rx⟩ := ca'.mu (Dl, .dct (dfold [] ((List.range i).flatMap fn ++ (List.range j).filterMap fn1))) (List.mem_append_right _ (by simp))
          have hj5 := at_end (μ := μa) (p := (Dl, MO.dct (dfold [] ((List.range i).flatMap fn ++ (List.range j).filterMap fn1))))
          have ee : dfold [] ((List.range i).flatMap fn ++ (List.range (j + 1)).filterMap fn1) = putKD (dfold [] ((List.range i).flatMap fn ++ (List.range j).filterMap fn1)) kk y := by rw [fm_succ, e, ← List.append_assoc, dfold_app]; rfl
          refine ⟨xs, kk, key_rep rb hk, hx, ?_, Fa, ?_, ?_, ((((up6.trans m7.up).trans m8.up).trans m9.up).trans mb.up).trans ma.up⟩
          · rw [rx.length]
            have l1 := dfold_len ((List.range i).flatMap fn ++ (List.range j).filterMap fn1) []
            simp only [List.length_nil, Nat.zero_add] at l1
            exact Nat.lt_of_le_of_lt (Nat.le_trans l1 (bnd j hj')) (by decide)
          · rw [ee, ← set_end (p := (Dl, MO.dct (dfold [] ((List.range i).flatMap fn ++ (List.range j).filterMap fn1))))]; exact ((mm9.trans mb').trans ma').trans (mv_set hj5 ca')
          · rw [ee, ← set_end (p := (Dl, MO.dct (dfold [] ((List.range i).flatMap fn ++ (List.range j).filterMap fn1))))]; exact cm_set hj5 ca' ⟨_, upd_same, repsK_put ra rx⟩
      · have e : j = ds1.length := by omega
        subst e
        refine .inl ⟨stop1 (Nat.le_refl _), F6, ?_, ?_⟩
        · rw [fl_succ, er]; exact mm6
        · rw [fl_succ, er]; exact cc6
  · have e : i = ds.length := by omega
    subst e
    refine .inl ⟨stop (Nat.le_refl _), ?_⟩
    obtain ⟨_, xs, hx, rx⟩ := cc.mu (Dl, .dct (dfold [] ((List.range ds.length).flatMap fn))) (List.mem_append_right _ (by simp))
    have hj5 := at_end (μ := μ1) (p := (Dl, MO.dct (dfold [] ((List.range ds.length).flatMap fn))))
    have mf := mv_frz hj5 hx cc
    have cf := cm_frz hj5 hx cc
    rw [del_end] at mf cf
    exact k _ _ _ _ _ hd (m1.trans (mm.trans mf)) cf (.dct upd_same (rx.mono mf.up))

end
section
variable {X : Cx} {Z : Wish} {δ : Env} {μ : Store} {tg iter tg1 iter1 elt kx vx : Expr} {ifs ifs1 : List Expr} {pos : Pos}
def bI (X : Cx) (sc : Scope) (tg it : Expr) : TI := fun σ H R => ∀ q : BQ, rIt (bk X sc q) tg it σ H R
theorem wg_b {X : Cx} {sc : Scope} {js : List Nat} {d : D} {Q : Env → Store → Prop} (h : ∀ q, VG (bk X sc q) Wish.no tg js d δ μ Q) : WG X.K Wish.no (bG X sc tg) js d δ μ Q := fun v σ F H Q' s c r k z q => h q v σ F H Q' s c r k z
theorem wt_b {X : Cx} {sc : Scope} {Q : Bool → Store → Prop} (h : ∀ q, VIf (bk X sc q) Wish.no ifs δ μ Q) : WT X.K Wish.no (bT X sc ifs) δ μ Q := fun σ F H Q' s c k z q => h q σ F H Q' s c k z
theorem we_b {X : Cx} {sc : Scope} {Q : D → Store → Prop} (h : ∀ q, VE (bk X sc q) Wish.no elt δ μ Q) : WE X.K Wish.no (bE X sc elt) δ μ Q := fun σ F H Q' s c k z q => h q σ F H Q' s c k z
theorem wi_b {X : Cx} {sc : Scope} {Q : List D → Store → Prop} (h : ∀ q, VI (bk X sc q) Wish.no tg iter δ μ Q) : WI X.K Wish.no (bI X sc tg iter) δ μ Q := fun σ F H Q' s c k z q => h q σ F H Q' s c k z
theorem WG.imp {K : PySem.W.Frag} {g : TG} {js : List Nat} {d : D} {Q Q' : Env → Store → Prop} (h : WG K Z g js d δ μ Q) (i : ∀ δ' μ', Q δ' μ' → Q' δ' μ') : WG K Z g js d δ μ Q' := fun v σ F H Q0 s c r k z => h v σ F H Q0 s c r (fun σ' δ' μ' F' H' q => k σ' δ' μ' F' H' (i _ _ q)) z
theorem WI.imp {K : PySem.W.Frag} {w : TI} {Q Q' : List D → Store → Prop} (h : WI K Z w δ μ Q) (i : ∀ δ' μ', Q δ' μ' → Q' δ' μ') : WI K Z w δ μ Q' := fun σ F H Q0 s c k z => h σ F H Q0 s c (fun J ds μ' F' H' q => k J ds μ' F' H' (i _ _ q)) z
theorem range_fm {α β : Type} {as : List α} {fn : α → Option β} : (List.range as.length).filterMap (fun i => (as[i]?).bind fn) = as.filterMap fn := by
  induction as with
  | nil => rfl
  | cons a as ih =>
    rw [List.length_cons, List.range_succ_eq_map, List.filterMap_cons, List.filterMap_map, List.filterMap_cons]
    have e : ((fun i => ((a :: as)[i]?).bind fn) ∘ Nat.succ) = fun i => (as[i]?).bind fn := by funext i; simp
    rw [e, ih]
    rfl
def orNil {α β : Type} (fn : α → List β) : Option α → List β
  | none => []
  | some a => fn a
theorem range_fl {α β : Type} {as : List α} {fn : α → List β} : (List.range as.length).flatMap (fun i => orNil fn as[i]?) = as.flatMap fn := by
  induction as with
  | nil => rfl
  | cons a as ih =>
    rw [List.length_cons, List.range_succ_eq_map, List.flatMap_cons, List.flatMap_map, List.flatMap_cons]
    show fn a ++ _ = _
    congr 1
/-- {k: v for tg in iter} : each item g a gives fn a -/
theorem ve_dcF {α : Type} {sc : Scope} {js : List Nat} (own : List (Str × Nat)) {Q : D → Store → Prop} (k : Kx X) (h : VI X Z tg iter δ μ fun ds μ1 => ∃ (as : List α) (g : α → D) (fn : α → Option (Key × D)), ds = as.map g ∧ as.length ≤ 100000 ∧
      (∀ a ∈ as, ∀ q, VG (bk X sc q) Wish.no tg js (g a) (wipeD δ (own.map (·.2))) μ1 fun δ2 μ2 => ∀ q, VIf (bk X sc q) Wish.no ifs δ2 μ2 fun b μ3 => if b = true then ∀ q, VE (bk X sc q) Wish.no kx δ2 μ3 fun y μ4 => ∀ q, VE (bk X sc q) Wish.no vx δ2 μ4 fun z μ5 => ∃ k, keyD y = some k ∧ fn a = some (k, z) ∧ μ5 = μ1 else fn a = none ∧ μ3 = μ1) ∧ Q (.dct (dfold [] (as.filterMap fn))) μ1)
    (ok : BlkOk X.N X.env.scope sc own := by exact blkOk_by (by kernel_rfl)) (hj : ∀ i ∈ js, i ∈ own.map (·.2) := by decide) (hs : ∀ x, foldedSetIterable iter X.env x = pure x := by intro _; rfl) :
    VE X Z (.DictComp kx vx [⟨tg, iter, ifs, 0⟩] sc pos) δ μ Q := by
  refine ve_of (pe_dc (g := bG X sc tg) (tt := bT X sc ifs) (tk := bE X sc kx) (tv := bE X sc vx) k.calm k.nd pi_r ok (fun s H C cl fp => ⟨fun pins s' σ H' v u Q I r w => w ⟨s, H, C, cl, fp⟩ pins s' u I r⟩) (fun s H C cl fp => ⟨fun pins s' σ H' Q I w => w ⟨s, H, C, cl, fp⟩ pins s' I⟩) (fun s H C cl fp => ⟨fun pins s' σ H' Q I w => w ⟨s, H, C, cl, fp⟩ pins s' I⟩) (fun s H C cl fp => ⟨fun pins s' σ H' Q I w => w ⟨s, H, C, cl, fp⟩ pins s' I⟩) hs) (we_dcF hj (WI.imp h fun ds μ1 ⟨as, g, fn, e, hl, ht, q⟩ => ?_))
  subst e
  refine ⟨by rw [List.length_map]; exact hl, fun i => (as[i]?).bind fn, fun i d hi => ?_, by rw [List.length_map, range_fm]; exact q⟩
  rw [List.getElem?_map] at hi
  cases ha : as[i]? with
  | none => rw [ha] at hi; cases hi
  | some a =>
    rw [ha] at hi
    cases hi
    simp only [ha, Option.bind_some]
    refine WG.imp (wg_b (ht a (List.mem_of_getElem? ha))) fun δ2 μ2 h2 => WT.imp (wt_b h2) fun b μ3 h3 => ?_
    cases b with
    | false => exact h3
    | true => exact WE.imp (we_b h3) fun y μ4 h4 => we_b h4
/-- [elt for tg in iter for tg1 in iter1], pure: the item g a gives fn a -/
theorem ve_lc2F {α : Type} {sc : Scope} {js js1 : List Nat} (own : List (Str × Nat)) (vs1 : List Nat) {Q : D → Store → Prop} (k : Kx X) (h : VI X Z tg iter δ μ fun ds μ1 => ∃ (as : List α) (g : α → D) (fn : α → List D), ds = as.map g ∧ (as.flatMap fn).length ≤ 100000 ∧
      (∀ a ∈ as, ∀ q, VG (bk X sc q) Wish.no tg js (g a) (wipeD δ (own.map (·.2))) μ1 fun δ2 μ2 => ∀ q, VIf (bk X sc q) Wish.no ifs δ2 μ2 fun b μ3 => if b = true then
        ∀ q, VI (bk X sc q) Wish.no tg1 iter1 δ2 μ3 fun ds1 μ4 => μ4 = μ1 ∧ ∃ (β : Type) (bs : List β) (g1 : β → D) (fn1 : β → Option D), ds1 = bs.map g1 ∧ fn a = bs.filterMap fn1 ∧ ∀ b ∈ bs, Turn1 X sc tg1 ifs1 elt js1 (wipeD δ2 vs1) μ1 (g1 b) (fn1 b)
        else fn a = [] ∧ μ3 = μ1) ∧ Q (.lst (as.flatMap fn)) μ1)
    (ok : BlkOk X.N X.env.scope sc own := by exact blkOk_by (by kernel_rfl)) (hj : ∀ i ∈ js, i ∈ own.map (·.2) := by decide) (hj1 : ∀ i ∈ js1, i ∈ vs1 := by decide) (hv : ∀ i ∈ vs1, i ∈ own.map (·.2) := by decide) (hs : ∀ x, foldedSetIterable iter X.env x = pure x := by intro _; rfl) (hs1 : ∀ env x, foldedSetIterable iter1 env x = pure x := by intro _ _; rfl) :
    VE X Z (.ListComp elt [⟨tg, iter, ifs, 0⟩, ⟨tg1, iter1, ifs1, 0⟩] sc pos) δ μ Q := by
  refine ve_of (pe_lc2 (g := bG X sc tg) (tt := bT X sc ifs) (wi1 := bI X sc tg1 iter1) (g1 := bG X sc tg1) (tt1 := bT X sc ifs1) (te := bE X sc elt) k.calm k.nd pi_r ok hv (fun s H C cl fp => ⟨fun pins s' σ H' v u Q I r w => w ⟨s, H, C, cl, fp⟩ pins s' u I r⟩) (fun s H C cl fp => ⟨fun pins s' σ H' Q I w => w ⟨s, H, C, cl, fp⟩ pins s' I⟩)
    (fun s H C cl fp => ⟨fun pins s' σ H' Q I w => w ⟨s, H, C, cl, fp⟩ pins s' I⟩) (fun s H C cl fp => ⟨fun pins s' σ H' v u Q I r w => w ⟨s, H, C, cl, fp⟩ pins s' u I r⟩) (fun s H C cl fp => ⟨fun pins s' σ H' Q I w => w ⟨s, H, C, cl, fp⟩ pins s' I⟩) (fun s H C cl fp => ⟨fun pins s' σ H' Q I w => w ⟨s, H, C, cl, fp⟩ pins s' I⟩) hs hs1) (we_lc2F hj hj1 (WI.imp h fun ds μ1 ⟨as, g, fn, e, hl, ht, q⟩ => ?_))
  subst e
  refine ⟨fun i => orNil fn as[i]?, by rw [List.length_map, range_fl]; exact hl, fun i d hi => ?_, by rw [List.length_map, range_fl]; exact q⟩
  rw [List.getElem?_map] at hi
  cases ha : as[i]? with
  | none => rw [ha] at hi; cases hi
  | some a =>
    rw [ha] at hi
    cases hi
    simp only [ha, orNil]
    refine WG.imp (wg_b (ht a (List.mem_of_getElem? ha))) fun δ2 μ2 h2 => WT.imp (wt_b h2) fun b μ3 h3 => ?_
    cases b with
    | false => exact h3
    | true =>
      refine WI.imp (wi_b h3) fun ds1 μ4 ⟨em, β, bs, g1, fn1, e1, er, ht1⟩ => ⟨em, fun i => (bs[i]?).bind fn1, ?_, fun i d hi => ?_⟩
      · rw [e1, List.length_map, range_fm]; exact er
      · subst e1
        rw [List.getElem?_map] at hi
        cases hb : bs[i]? with
        | none => rw [hb] at hi; cases hi
        | some b =>
          rw [hb] at hi
          cases hi
          simp only [hb, Option.bind_some]
          refine WG.imp (wg_b (ht1 b (List.mem_of_getElem? hb))) fun δ5 μ5 h5 => WT.imp (wt_b h5) fun bb μ6 h6 => ?_
          cases bb with
          | false => exact h6
          | true => exact we_b h6
/-- {k: v for tg in iter for tg1 in iter1}, pure -/
theorem ve_dc2F {α : Type} {sc : Scope} {js js1 : List Nat} (own : List (Str × Nat)) (vs1 : List Nat) {Q : D → Store → Prop} (k : Kx X) (h : VI X Z tg iter δ μ fun ds μ1 => ∃ (as : List α) (g : α → D) (fn : α → List (Key × D)), ds = as.map g ∧ (as.flatMap fn).length ≤ 100000 ∧
      (∀ a ∈ as, ∀ q, VG (bk X sc q) Wish.no tg js (g a) (wipeD δ (own.map (·.2))) μ1 fun δ2 μ2 => ∀ q, VIf (bk X sc q) Wish.no ifs δ2 μ2 fun b μ3 => if b = true then
        ∀ q, VI (bk X sc q) Wish.no tg1 iter1 δ2 μ3 fun ds1 μ4 => μ4 = μ1 ∧ ∃ (β : Type) (bs : List β) (g1 : β → D) (fn1 : β → Option (Key × D)), ds1 = bs.map g1 ∧ fn a = bs.filterMap fn1 ∧
          ∀ b ∈ bs, ∀ q, VG (bk X sc q) Wish.no tg1 js1 (g1 b) (wipeD δ2 vs1) μ1 fun δ5 μ5 => ∀ q, VIf (bk X sc q) Wish.no ifs1 δ5 μ5 fun bb μ6 => if bb = true then ∀ q, VE (bk X sc q) Wish.no kx δ5 μ6 fun y μ7 => ∀ q, VE (bk X sc q) Wish.no vx δ5 μ7 fun z μ8 => ∃ k, keyD y = some k ∧ fn1 b = some (k, z) ∧ μ8 = μ1 else fn1 b = none ∧ μ6 = μ1
        else fn a = [] ∧ μ3 = μ1) ∧ Q (.dct (dfold [] (as.flatMap fn))) μ1)
    (ok : BlkOk X.N X.env.scope sc own := by exact blkOk_by (by kernel_rfl)) (hj : ∀ i ∈ js, i ∈ own.map (·.2) := by decide) (hj1 : ∀ i ∈ js1, i ∈ vs1 := by decide) (hv : ∀ i ∈ vs1, i ∈ own.map (·.2) := by decide) (hs : ∀ x, foldedSetIterable iter X.env x = pure x := by intro _; rfl) (hs1 : ∀ env x, foldedSetIterable iter1 env x = pure x := by intro _ _; rfl) :
    VE X Z (.DictComp kx vx [⟨tg, iter, ifs, 0⟩, ⟨tg1, iter1, ifs1, 0⟩] sc pos) δ μ Q := by
  refine ve_of (pe_lc2D (g := bG X sc tg) (tt := bT X sc ifs) (wi1 := bI X sc tg1 iter1) (g1 := bG X sc tg1) (tt1 := bT X sc ifs1) (tk := bE X sc kx) (tv := bE X sc vx) k.calm k.nd pi_r ok hv (fun s H C cl fp => ⟨fun pins s' σ H' v u Q I r w => w ⟨s, H, C, cl, fp⟩ pins s' u I r⟩) (fun s H C cl fp => ⟨fun pins s' σ H' Q I w => w ⟨s, H, C, cl, fp⟩ pins s' I⟩)
    (fun s H C cl fp => ⟨fun pins s' σ H' Q I w => w ⟨s, H, C, cl, fp⟩ pins s' I⟩) (fun s H C cl fp => ⟨fun pins s' σ H' v u Q I r w => w ⟨s, H, C, cl, fp⟩ pins s' u I r⟩) (fun s H C cl fp => ⟨fun pins s' σ H' Q I w => w ⟨s, H, C, cl, fp⟩ pins s' I⟩) (fun s H C cl fp => ⟨fun pins s' σ H' Q I w => w ⟨s, H, C, cl, fp⟩ pins s' I⟩) (fun s H C cl fp => ⟨fun pins s' σ H' Q I w => w ⟨s, H, C, cl, fp⟩ pins s' I⟩) hs hs1) (we_dc2F hj hj1 (WI.imp h fun ds μ1 ⟨as, g, fn, e, hl, ht, q⟩ => ?_))
  subst e
  refine ⟨fun i => orNil fn as[i]?, by rw [List.length_map, range_fl]; exact hl, fun i d hi => ?_, by rw [List.length_map, range_fl]; exact q⟩
  rw [List.getElem?_map] at hi
  cases ha : as[i]? with
  | none => rw [ha] at hi; cases hi
  | some a =>
    rw [ha] at hi
    cases hi
    simp only [ha, orNil]
    refine WG.imp (wg_b (ht a (List.mem_of_getElem? ha))) fun δ2 μ2 h2 => WT.imp (wt_b h2) fun b μ3 h3 => ?_
    cases b with
    | false => exact h3
    | true =>
      refine WI.imp (wi_b h3) fun ds1 μ4 ⟨em, β, bs, g1, fn1, e1, er, ht1⟩ => ⟨em, fun i => (bs[i]?).bind fn1, ?_, fun i d hi => ?_⟩
      · rw [e1, List.length_map, range_fm]; exact er
      · subst e1
        rw [List.getElem?_map] at hi
        cases hb : bs[i]? with
        | none => rw [hb] at hi; cases hi
        | some b =>
          rw [hb] at hi
          cases hi
          simp only [hb, Option.bind_some]
          refine WG.imp (wg_b (ht1 b (List.mem_of_getElem? hb))) fun δ5 μ5 h5 => WT.imp (wt_b h5) fun bb μ6 h6 => ?_
          cases bb with
          | false => exact h6
          | true => exact WE.imp (we_b h6) fun y μ7 h7 => we_b h7
end
end VL
set_option Elab.async false
set_option linter.all false
set_option maxRecDepth 100000
set_option maxHeartbeats 4000000
/-! VL16: starred items. -/
namespace VL
open PySem PySem.Spec PyProof.Rows L2 StX
section
variable {K : PySem.W.Frag} {Z : Wish} {δ : Env} {μ : Store}
theorem wa_star {te : TE} {t : TA} {P : List D → Store → Prop} (h : WE K Z te δ μ fun x μ1 => ∃ xs, itemsD x = some xs ∧ WA K Z t δ μ1 fun ys μ2 => P (xs ++ ys) μ2) : WA K Z (tStar K te t) δ μ P := fun σ F H Q s c k z => by
  refine h σ F H _ s c (fun v x μ1 F1 H1 ⟨xs, e, h1⟩ m1 c1 r1 => ?_) z
  obtain ⟨p, ys, rfl, hp, rr⟩ := items_rep c1.ex r1 e
  refine ⟨p, ys, rfl, hp.symm, ?_⟩
  exact h1 σ F1 H1 _ (s.mono m1.up) c1 (fun vs ds μ2 F2 H2 p m2 c2 r2 => k _ _ μ2 F2 H2 p (m1.trans m2) c2 (Reps.app (rr.mono m2.up) r2)) (z.mv m1)
end
section
variable {X : Cx} {Z : Wish} {δ : Env} {μ : Store} {e : Expr} {es : List Expr} {p : Pos}
theorem va_star {P : List D → Store → Prop} (h : VE X Z e δ μ fun x μ1 => ∃ xs, itemsD x = some xs ∧ VA X Z es δ μ1 fun ys μ2 => P (xs ++ ys) μ2) (hs : starEach (.Starred e p :: es) X.env = (true, eval e X.env) :: starEach es X.env := by rfl) :
    VA X Z (.Starred e p :: es) δ μ P := va_of (pa_star pe_r pa_r hs) (wa_star h)
end
/-! ### a text's signs -/
def signsD (s : Str) : List D := s.cps.toList.map fun c => .str ⟨#[c]⟩
section
variable {K : PySem.W.Frag} {Z : Wish} {δ : Env} {μ : Store}
theorem wi_str {te : TE} {P : List D → Store → Prop} (h : WE K Z te δ μ fun d μ1 => ∃ s, d = .str s ∧ P (signsD s) μ1) : WI K Z (iStr te) δ μ P := fun σ F H R s c k z =>
  h σ F H _ s c (fun v d μ1 F1 H1 ⟨x, e, p⟩ m1 c1 r1 => by
    subst e; cases r1
    refine ⟨x, rfl, k _ _ μ1 F1 H1 p m1 c1 fun μ F' H' i up cc => ⟨fun d hd => ?_, fun hl => ?_⟩⟩
    · unfold signsD at hd
      rw [List.getElem?_map] at hd
      cases ec : x.cps.toList[i]? with
      | none => rw [ec] at hd; cases hd
      | some cc' =>
        rw [ec] at hd
        have ed : d = .str ⟨#[cc']⟩ := (Option.some.inj hd).symm
        subst ed
        have ec2 : x.cps[i]? = some cc' := by rw [← ec]; simp
        refine ⟨(Array.getElem?_eq_some_iff.mp ec2).1, fun y H2 ⟨e2, c2, h2, e3⟩ => ?_⟩
        subst e2; subst e3
        rw [ec2] at h2; cases h2
        exact ⟨F', Mv.refl .., cc, .str _⟩
    · show x.cps.size ≤ i
      unfold signsD at hl
      rw [List.length_map] at hl
      simpa using hl) z
end
section
variable {X : Cx} {Z : Wish} {δ : Env} {μ : Store} {e tg : Expr}
theorem vi_str {Q : List D → Store → Prop} (h : VE X Z e δ μ fun d μ1 => ∃ s, d = .str s ∧ Q (signsD s) μ1) : VI X Z tg e δ μ Q := vi_of (pi_str pe_r) (wi_str h)
end
theorem atI_at {α : Type} {xs : List α} {i : Int} {d : α} (j : Nat) (hi : i = (j : Int)) (h : xs[j]? = some d) : atI xs i = some d := by
  subst hi
  have hl := (List.getElem?_eq_some_iff.mp h).1
  unfold atI ixN
  rw [if_pos (by omega), if_pos (by omega)]
  simpa using h
theorem ixN_at {n : Nat} {i : Int} (j : Nat) (hi : i = (j : Int)) (h : j < n) : ixN n i = some j := by
  subst hi
  unfold ixN
  rw [if_pos (by omega), if_pos (by omega)]
  simp
end VL
set_option Elab.async false
set_option linter.all false
set_option maxRecDepth 100000
set_option maxHeartbeats 4000000
/-! VL17: plain lemmas on deep values. -/
namespace VL
open PySem PySem.Spec PyProof.Rows L2
theorem cutD_to {xs : List D} {i : Nat} (h : i ≤ xs.length) : cutD xs none (some (i : Int)) = xs.take i := by
  unfold cutD
  rw [HT.sIx_none, HT.sIx_nat, Nat.min_eq_left h]
  simp
theorem cutD_from {xs : List D} {i : Nat} (h : i ≤ xs.length) : cutD xs (some (i : Int)) none = xs.drop i := by
  unfold cutD
  rw [HT.sIx_none, HT.sIx_nat, Nat.min_eq_left h]
  rw [List.take_of_length_le (by simp)]
theorem inD_str {s : Str} {ts : List Str} : inD (.str s) (ts.map D.str) = decide (s ∈ ts) := by
  unfold inD
  rw [List.any_map, Bool.eq_iff_iff]
  simp [Function.comp_def, eqv_str]
theorem numbered_map {α : Type} {xs : List α} {g : α → D} : numbered (xs.map g) = xs.zipIdx.map fun p => .tup [.int (p.2 : Nat), g p.1] := by
  unfold numbered
  rw [List.zipIdx_map, List.map_map]
  rfl
theorem mem_zipIdx_at {α : Type} {xs : List α} {p : α × Nat} (h : p ∈ xs.zipIdx) : xs[p.2]? = some p.1 := by
  have := List.mem_zipIdx_iff_getElem?.mp h
  simpa using this
theorem mem_zipIdx_lt {α : Type} {xs : List α} {p : α × Nat} (h : p ∈ xs.zipIdx) : p.2 < xs.length := (List.getElem?_eq_some_iff.mp (mem_zipIdx_at h)).1
theorem nodup_zipIdx {α : Type} [DecidableEq α] : ∀ {xs : List α}, (xs.zipIdx.all fun p => !decide (p.1 ∈ xs.take p.2)) = decide xs.Nodup := by
  intro xs
  rw [Bool.eq_iff_iff, List.all_eq_true, decide_eq_true_eq]
  constructor
  · intro h
    unfold List.Nodup
    rw [List.pairwise_iff_getElem]
    intro i j hi hj hij e
    have hm : (xs[j], j) ∈ xs.zipIdx := List.mem_zipIdx_iff_getElem?.mpr (by simp)
    have := h _ hm
    simp only [Bool.not_eq_true', decide_eq_false_iff_not] at this
    apply this
    exact List.mem_iff_getElem?.mpr ⟨i, by rw [List.getElem?_take_of_lt hij, List.getElem?_eq_getElem hi, e]⟩
  · intro nd p hp
    simp only [Bool.not_eq_true', decide_eq_false_iff_not]
    intro hm
    obtain ⟨i, hi⟩ := List.mem_iff_getElem?.mp hm
    have hl := mem_zipIdx_lt hp
    have hil : i < p.2 := by
      have := (List.getElem?_eq_some_iff.mp hi).1
      rw [List.length_take] at this
      omega
    rw [List.getElem?_take_of_lt hil] at hi
    have := nd_ix nd hi (mem_zipIdx_at hp)
    omega
/-! ### a list or a tuple -/
section
variable {X : Cx} {Z : Wish} {δ : Env} {μ : Store} {d : D} {xs : List D} {x : Str} {tg : Expr} {pos pos' p pt : Pos} {Q : List D → Store → Prop}
theorem vi_var (i : Nat) (hx : itemsD d = some xs) (q : Q xs μ) (hN : (X.N : List Str)[i]? = some x := by rfl) (hd : (δ : List (Option D))[i]? = some (some d) := by rfl) (hv : Vis X.env.scope x := by first | exact Or.inl rfl | exact Or.inr (Or.inl rfl) | exact Or.inr (Or.inr rfl))
    (h1 : (x == ("__debug__" : Str)) = false := by decide) (h2 : (x == ("__classdict__" : Str)) = false := by decide) : VI X Z tg (.Name x pos) δ μ Q := by
  cases d with
  | lst ys => cases hx; exact vi_lst (ve_name i ⟨_, rfl, q⟩ hN hd hv h1 h2)
  | tup ys => cases hx; exact vi_tup (ve_name i ⟨_, rfl, q⟩ hN hd hv h1 h2)
  | _ => cases hx
theorem vi_enumV {ts : List Expr} {kk : Nat} (i : Nat) (hm : X.mg "enumerate" = none) (hx : itemsD d = some xs) (q : Q (numbered xs) μ) (hN : (X.N : List Str)[i]? = some x := by rfl) (hd : (δ : List (Option D))[i]? = some (some d) := by rfl) (hv : Vis X.env.scope x := by first | exact Or.inl rfl | exact Or.inr (Or.inl rfl) | exact Or.inr (Or.inr rfl))
    (h1 : (x == ("__debug__" : Str)) = false := by decide) (h2 : (x == ("__classdict__" : Str)) = false := by decide) (hg : Gl X "enumerate" := by rfl) : VI X Z (.Tuple ts kk pt) (.Call (.Name "enumerate" p) [.Name x pos] [] pos') δ μ Q := by
  cases d with
  | lst ys => cases hx; exact vi_enum hm (va_cons (ve_name i (va_nil ⟨_, rfl, q⟩) hN hd hv h1 h2)) hg
  | tup ys => cases hx; exact vi_enumT hm (va_cons (ve_name i (va_nil ⟨_, rfl, q⟩) hN hd hv h1 h2)) hg
  | _ => cases hx
end
section
variable {K : PySem.W.Frag} {Z : Wish} {μ : Store} {d : D} {xs : List D} {P : D → Store → Prop}
theorem wsl_items {lo hi : Option Int} (h : itemsD d = some xs) (nf : ¬ (HT.sIx xs.length 0 lo = 0 ∧ HT.sIx xs.length xs.length hi = xs.length)) (p : ∀ d', itemsD d' = some (cutD xs lo hi) → P d' μ) : WSl K Z (rSlA K) d lo hi μ P := by
  cases d with
  | lst ys => cases h; exact wsl_lst (p _ rfl)
  | tup ys => cases h; exact wsl_tup nf (p _ rfl)
  | _ => cases h
theorem wop_in_items {y : D} (h : itemsD d = some xs) (hx : okD 64 y = true) (hy : okDs 63 xs = true) (p : P (.bl (inD y xs)) μ) : WOp K Z (rInA K) y d μ P := by
  cases d with
  | lst ys => cases h; exact wop_in_lst hx hy p
  | tup ys => cases h; exact wop_in_tup hx hy p
  | _ => cases h
theorem wop_notin_items {y : D} (h : itemsD d = some xs) (hx : okD 64 y = true) (hy : okDs 63 xs = true) (p : P (.bl (!inD y xs)) μ) : WOp K Z (rNotInA K) y d μ P := by
  cases d with
  | lst ys => cases h; exact wop_notin_lst hx hy p
  | tup ys => cases h; exact wop_notin_tup hx hy p
  | _ => cases h
theorem wc_len_items (h : itemsD d = some xs) (p : P (.int (xs.length : Nat)) μ) : WC K Z (rLenA K) [d] μ P := by
  cases d with
  | lst ys => cases h; exact wc_len rfl p
  | tup ys => cases h; exact wc_len rfl p
  | _ => cases h
theorem wc_tup_items (h : itemsD d = some xs) (p : P (.tup xs) μ) : WC K Z (rTupA K) [d] μ P := by
  cases d with
  | lst ys => cases h; exact wc_tup_l p
  | tup ys => cases h; exact wc_tup_t p
  | _ => cases h
end
theorem tail_nf {xs : List D} (h : 1 ≤ xs.length) : ¬ (HT.sIx xs.length 0 (some 1) = 0 ∧ HT.sIx xs.length xs.length none = xs.length) := by
  intro h2
  have := h2.1
  rw [show (1 : Int) = ((1 : Nat) : Int) from rfl, HT.sIx_nat] at this
  omega
theorem cutD_tail {xs : List D} (h : 1 ≤ xs.length) : cutD xs (some 1) none = xs.drop 1 := by
  have := cutD_from (xs := xs) (i := 1) h
  exact this
theorem paired_map {α β : Type} {g : α → D} {h : β → D} : ∀ {xs : List α} {ys : List β}, paired (xs.map g) (ys.map h) = (xs.zip ys).map fun p => .tup [g p.1, h p.2]
  | [], _ => rfl
  | _ :: _, [] => rfl
  | x :: xs, y :: ys => by
    have ih := paired_map (g := g) (h := h) (xs := xs) (ys := ys)
    unfold paired at ih ⊢
    simp only [List.map_cons, List.zip_cons_cons]
    rw [ih]
end VL
set_option Elab.async false
set_option linter.all false
set_option maxRecDepth 100000
set_option maxHeartbeats 4000000
/-! VL18: sorted data. -/
namespace VL
open PySem PySem.Spec PyProof.Rows L2
def sortBy {α : Type} (g : α → D) (xs : List α) : List α := xs.mergeSort fun a b => !ltv (g b) (g a)
theorem sortD_map {α : Type} {g : α → D} {xs : List α} : sortD (xs.map g) = (sortBy g xs).map g := by
  unfold sortD sortBy
  rw [PySem.W.sort_maps (s := fun x y => !ltv y x) g (fun _ _ _ _ => rfl)]
theorem sortBy_perm {α : Type} {g : α → D} {xs : List α} : (sortBy g xs).Perm xs := List.mergeSort_perm ..
theorem sortOk_str {ss : List Str} (h : ∀ s ∈ ss, okD 60 (.str s) = true) : SortOk (ss.map D.str) where
  ok := fun x hx => by
    obtain ⟨s, hs, rfl⟩ := List.mem_map.mp hx
    exact h s hs
  al := fun x hx y hy => by
    obtain ⟨s, hs, rfl⟩ := List.mem_map.mp hx
    obtain ⟨t, ht, rfl⟩ := List.mem_map.mp hy
    rfl
  so := .inr fun x hx => by
    obtain ⟨s, hs, rfl⟩ := List.mem_map.mp hx
    exact ⟨fun e => by simp [toPy] at e, fun ys e => by simp [toPy] at e⟩
theorem sortOk_tup {α : Type} {g : α → D} {as : List α} (h : ∀ a ∈ as, okD 60 (g a) = true) (al : ∀ a ∈ as, ∀ b ∈ as, alk (g a) (g b) = true) (tu : ∀ a ∈ as, ∃ x xs, g a = .tup (x :: xs)) : SortOk (as.map g) where
  ok := fun x hx => by
    obtain ⟨s, hs, rfl⟩ := List.mem_map.mp hx
    exact h s hs
  al := fun x hx y hy => by
    obtain ⟨s, hs, rfl⟩ := List.mem_map.mp hx
    obtain ⟨t, ht, rfl⟩ := List.mem_map.mp hy
    exact al s hs t ht
  so := .inl fun x hx => by
    obtain ⟨s, hs, rfl⟩ := List.mem_map.mp hx
    obtain ⟨x, xs, e⟩ := tu s hs
    exact ⟨toPy x, toPys xs, by rw [e, toPy, toPys]⟩
theorem alk_strs : ∀ {ss ts : List Str}, PySem.W.alikeAll (toPys (ss.map D.str)) (toPys (ts.map D.str)) = true
  | [], ts => by simp [toPys, PySem.W.alikeAll]
  | _ :: _, [] => by simp [toPys, PySem.W.alikeAll]
  | s :: ss, t :: ts => by
    have ih := alk_strs (ss := ss) (ts := ts)
    simp only [List.map_cons, toPys, PySem.W.alikeAll, toPy, PySem.W.alike, Bool.true_and]
    exact ih
theorem alk_tupS {ss ts : List Str} : alk (.tup (ss.map D.str)) (.tup (ts.map D.str)) = true := by
  unfold alk
  rw [toPy, toPy, PySem.W.alike]
  exact alk_strs
theorem okD_tupS {n : Nat} {ss : List Str} (h : ∀ s ∈ ss, PyData.strOk s = true) : okD (n + 1) (.tup (ss.map D.str)) = true := by
  rw [okD, okDs_iff]
  intro x hx
  obtain ⟨s, hs, rfl⟩ := List.mem_map.mp hx
  simp [okD, h s hs]
/-- the order of data that are alike -/
theorem ltv_irrefl (x : D) : ltv x x = false := PyProof.Rows.lex_irrefl _
/-! ### sorted of a tuple -/
section
open PySem.W
variable {X : Cx}
def rSortedT (K : PySem.W.Frag) : List V → Hp → VK → Prop := fun vs H Q => ∃ (a : Addr) (bs : List (V × D)), vs = [.ref a] ∧ SqT K H a (bs.map (·.1)) ∧ (∀ b ∈ bs, Dp K H b.1 (toPy b.2)) ∧
  PySem.W.AllAlike (bs.map fun b => toPy b.2) ∧ PySem.W.Sortable (bs.map fun b => toPy b.2) ∧ (∀ b ∈ bs, (toPy b.2).depth ≤ 60) ∧
  ∀ p, H p = none → Q (.ref p) (upd H p (.lst ((bs.mergeSort fun x y => !ltv y.2 x.2).map (·.1))))
theorem cr_sortedT (hu : X.A.units + 64 < cLine) : CallR X (.builtin "sorted") (rSortedT X.K) := by
  intro pins s σ H vs us Q I r h
  obtain ⟨a, bs, rfl, hs, hd, al, so, dp, q⟩ := h
  obtain ⟨its, rv, ⟨o, ho, hc, n, hdt⟩, hz⟩ := I.tuple hs
  rw [Vals.ref1 r]
  have e1 : PySem.W.EachIs (fun (u : Value) (b : V × D) => RelV b.1 u) its bs := each_of rv
  have hl : its.length = bs.length := e1.length
  have hzb : bs.length ≤ sizeLine := by rw [List.length_map] at hz; exact hz
  have hzi : its.length ≤ sizeLine := by rw [hl]; exact hzb
  refine Calls.call_function_entry PyProof.Rows.kind_sorted PyProof.Rows.plain_sorted PyProof.Rows.entry_sorted (PyProof.Rows.args_sorted1 _) ?_
  unfold Builtin.«sorted»
  refine wpAny_bind (m := checkCount "sorted" 1 1 _) (wpAny_pure ?_)
  refine wpAny_bind (wpAny_collect_seq a (.inr rfl) ho hc hdt (fun h' hk => ?_) (by rw [List.size_toArray]; exact hzi))
  have I1 : Inv X pins σ H { s with heap := h' } := I.kept (t' := s.toks) hk
  have eL : its.toArray.toList = its := by simp
  rw [eL]
  refine wpAny_bind (wpAny_newList ?_ hzi)
  have hoL : (h'.push (seqObj "list" its.toArray 0)).get? h'.objs.size = some (seqObj "list" its.toArray 0) := Heap.get?_push_size _ rfl
  show wpAny _ _ _ _ _ { s with heap := h'.push (seqObj "list" its.toArray 0) }
  have old : ∀ b u, h'.get? b = some u → (sortingHeap (h'.push (seqObj "list" its.toArray 0)) h'.objs.size its).get? b = some u := fun b u e => sortingHeap_old (Nat.ne_of_lt (Heap.lt_size e)) (Heap.get?_push_of_some _ e)
  have er : PySem.W.EachIs (fun (u : Value) (b : V × D) => ∃ as, Reads (sortingHeap (h'.push (seqObj "list" its.toArray 0)) h'.objs.size its) u (toPy b.2) as) its bs :=
    each_and e1 fun u b m ru => by
      obtain ⟨as, rr⟩ := Dp.reads I1 _ b.1 u (hd b m) ru
      exact ⟨as, PyProof.Rows.Reads.keeps old rr⟩
  have S := SortsAt.data (prog := X.prog) (w := X.w) (A := X.A.in1.in1) (s := { s with heap := sortingHeap (h'.push (seqObj "list" its.toArray 0)) h'.objs.size its }) (each_map (R := fun v d => ∃ as, Reads (sortingHeap (h'.push (seqObj "list" its.toArray 0)) h'.objs.size its) v d as) (fun b : V × D => toPy b.2) er) al so (fun d hd' => by
    obtain ⟨b, hb, rfl⟩ := List.mem_map.mp hd'
    have := dp b hb
    show X.A.units + 1 + 1 + _ < _
    omega)
  refine wpAny_bind (wpAny_holding (wpAny_call_entry PyProof.Rows.slot_list_sort ⟨_, hoL, rfl⟩ PyProof.Rows.entry_list_sort
    (list_sort_vals (s := { s with heap := h'.push (seqObj "list" its.toArray 0) }) hoL S hzi ⟨_, rfl, ?_⟩) (PyProof.Rows.args_list_sort _)))
  have h2 := sortVals_data (enc := fun b : V × D => toPy b.2) false e1 er al
  have hv : Vals ((bs.mergeSort fun x y => !ltv y.2 x.2).map (·.1)) (sortVals (dataKind (sortingHeap (h'.push (seqObj "list" its.toArray 0)) h'.objs.size its) (bs.map fun b => toPy b.2)) false its its) := of_each h2
  have hlen : ((bs.mergeSort fun x y => !ltv y.2 x.2).map (·.1)).length ≤ sizeLine := by rw [List.length_map, List.length_mergeSort]; exact hzb
  obtain ⟨e', he'⟩ := PyProof.Rows.sortedHeap_at (vs := its) (out := (sortVals (dataKind (sortingHeap (h'.push (seqObj "list" its.toArray 0)) h'.objs.size its) (bs.map fun b => toPy b.2)) false its its).toArray) hoL
  refine wpAny_pure ⟨_, rfl, .ref h'.objs.size, upd H h'.objs.size (.lst _), I1.laid (t' := s.toks) (fun b u e => ?_) (Nat.le_refl _) ⟨hlen, _, e', hv, he'⟩, rfl, q _ (I1.hok.fresh (Nat.le_refl _))⟩
  have hb : b < h'.objs.size := Heap.lt_size e
  rw [PyProof.Rows.sortedHeap_old (Nat.ne_of_lt hb) (by rw [size_push']; exact Nat.lt_succ_of_lt hb)]
  exact Heap.get?_push_of_some _ e
end
abbrev rSortedA (K : PySem.W.Frag) : List V → Hp → VK → Prop := fun vs H Q => rSortedD K vs H Q ∨ rSortedT K vs H Q
theorem cr_sortedA {X : Cx} (hu : X.A.units + 64 < cLine) : CallR X (.builtin "sorted") (rSortedA X.K) := (cr_sortedD hu).or (cr_sortedT hu)
theorem wc_sortedT {K : PySem.W.Frag} {Z : Wish} {μ : Store} {xs : List D} {P : D → Store → Prop} (h : SortOk xs) (p : P (.lst (sortD xs)) μ) : WC K Z (rSortedT K) [.tup xs] μ P := fun vs F H Q c r k z => by
  obtain ⟨v, rfl, r'⟩ := reps1 r; have r := r'; clear r'
  obtain ⟨a, ys, rfl, e, r⟩ := rep_tt r
  obtain ⟨z1, z2⟩ := zip_maps r.length
  have rz := reps_zip r
  have mem2 : ∀ b ∈ ys.zip xs, b.2 ∈ xs := fun b hb => by rw [← z2]; exact List.mem_map.mpr ⟨b, hb, rfl⟩
  refine ⟨a, ys.zip xs, rfl, by rw [z1]; exact same_t c.ex e, fun b hb => rep_dp c.ex (rz b hb) (h.ok _ (mem2 b hb)), ?_, ?_, fun b hb => (ok_lay (h.ok _ (mem2 b hb))).2, fun q n => ?_⟩
  · intro d hd d' hd'
    obtain ⟨b, hb, rfl⟩ := List.mem_map.mp hd
    obtain ⟨b', hb', rfl⟩ := List.mem_map.mp hd'
    exact h.al _ (mem2 b hb) _ (mem2 b' hb')
  · rcases h.so with q | q
    · refine .inl fun d hd => ?_
      obtain ⟨b, hb, rfl⟩ := List.mem_map.mp hd
      exact q _ (mem2 b hb)
    · refine .inr fun d hd => ?_
      obtain ⟨b, hb, rfl⟩ := List.mem_map.mp hd
      exact q _ (mem2 b hb)
  · have e2 : ((ys.zip xs).mergeSort fun x y => !ltv y.2 x.2).map (·.2) = sortD xs := by
      unfold sortD
      rw [PySem.W.sort_maps (s := fun x y => !ltv y x) (fun b : V × D => b.2) (fun _ _ _ _ => rfl), z2]
    have m := mv_new (o := .lst (((ys.zip xs).mergeSort fun x y => !ltv y.2 x.2).map (·.1))) c n
    refine k _ _ _ _ _ p m (cm_new c n) (.lst upd_same ?_)
    rw [← e2]
    refine (reps_of_zip fun b hb => ?_).mono m.up
    exact rz b (List.mem_mergeSort.mp hb)
theorem wc_sortedA {K : PySem.W.Frag} {Z : Wish} {μ : Store} {d : D} {xs : List D} {P : D → Store → Prop} (hx : itemsD d = some xs) (h : SortOk xs) (p : P (.lst (sortD xs)) μ) : WC K Z (rSortedA K) [d] μ P := by
  cases d with
  | lst ys => cases hx; exact fun vs F H Q c r k z => .inl (wc_sorted h p vs F H Q c r k z)
  | tup ys => cases hx; exact fun vs F H Q c r k z => .inr (wc_sortedT h p vs F H Q c r k z)
  | _ => cases hx
theorem putD_len (f : Str) (v : D) : ∀ fs : List (Str × D), (putD f v fs).length ≤ fs.length + 1
  | [] => by simp [putD]
  | (g, x) :: r => by
    have := putD_len f v r
    unfold putD
    split <;> simp <;> omega
theorem putD_lt {f : Str} {v : D} {fs : List (Str × D)} {n : Nat} (h : fs.length < n) : (putD f v fs).length < n + 1 := Nat.lt_of_le_of_lt (putD_len f v fs) (Nat.succ_lt_succ h)
end VL
set_option Elab.async false
set_option linter.all false
set_option maxRecDepth 100000
set_option maxHeartbeats 4000000
/-! VL19: a dict of one written pair; bits. -/
namespace VL
open PySem PySem.Spec PyProof.Rows L2
section
variable {K : PySem.W.Frag} {Z : Wish} {δ : Env} {μ : Store}
theorem we_disp1 {tk tv : TE} {P : D → Store → Prop} (h : WE K Z tk δ μ fun x μ1 => WE K Z tv δ μ1 fun y μ2 => ∃ kk, keyD x = some kk ∧ ∀ l, P (.ref l) (μ2 ++ [(l, .dct [(kk, y)])])) : WE K Z (tDisp [(tk, tv)]) δ μ P := fun σ F H Q s c k z p hp => by
  have np := c.not_new hp
  have mq : Mv μ F H μ F (upd H p (.dK [])) := ⟨fun a o e _ => by rw [upd_ne (ne_of_none e hp)]; exact e, Same.refl F, fun a h => .inl h, fun a h => .inl h, fun a h => by
    by_cases z : a = p
    · subst z; exact hp
    · rw [upd_ne z] at h; exact h⟩
  have cq : Cm K F (upd H p (.dK [])) μ := ⟨fun a u e => by rw [upd_ne (ne_of_none (c.ex a u e) hp)]; exact c.ex a u e, fun q hq => by
    have nq : q.1 ≠ p := fun e => np (by rw [← e]; exact List.mem_map.mpr ⟨q, hq, rfl⟩)
    exact ⟨(c.mu q hq).1, (c.mu q hq).2.heap (by rw [upd_ne nq])⟩, c.nd⟩
  refine h σ F _ _ s cq (fun v x μ1 F1 H1 h1 m1 c1 r1 => ?_) (z.mv mq)
  refine h1 σ F1 H1 _ (s.mono m1.up) c1 (fun u y μ2 F2 H2 ⟨kk, hk, q⟩ m2 c2 r2 => ?_) ((z.mv mq).mv m1)
  have mm := m1.trans m2
  have e2 : H2 p = some (.dK []) := mm.kp p _ upd_same np
  refine ⟨e2, [(kk, u)], by rw [key_rep r1 hk]; rfl, by simp, ?_⟩
  have fp : F2 p = none := by
    cases e : F2 p with
    | none => rfl
    | some o =>
      rcases mm.nw p (by rw [e]; exact fun z => by cases z) with w | w | w
      · exact absurd (c.f_none hp) w
      · rw [upd_same] at w; cases w
      · exact absurd w np
  have ap : p ∉ adrs μ2 := fun hm => by
    rcases mm.nm p hm with w | w
    · exact np w
    · rw [upd_same] at w; cases w
  have mall := mq.trans mm
  have cfin : Cm K F2 (upd H2 p (.dK [(kk, u)])) (μ2 ++ [(p, .dct [(kk, y)])]) := by
    refine ⟨fun a w e => ?_, fun q hq => ?_, ?_⟩
    · have ne : a ≠ p := fun z => by rw [z, fp] at e; cases e
      rw [upd_ne ne]; exact c2.ex a w e
    · rcases List.mem_append.mp hq with hq | hq
      · have ne : q.1 ≠ p := fun e => ap (by rw [← e]; exact List.mem_map.mpr ⟨q, hq, rfl⟩)
        exact ⟨(c2.mu q hq).1, (c2.mu q hq).2.heap (by rw [upd_ne ne])⟩
      · simp at hq; subst hq
        exact ⟨fp, _, upd_same, .cons r2 .nil⟩
    · unfold adrs
      rw [List.map_append]
      refine List.nodup_append.mpr ⟨c2.nd, by simp, ?_⟩
      intro a ha b hb e
      simp at hb
      subst hb; subst e
      exact ap ha
  have mfin : Mv μ F H (μ2 ++ [(p, .dct [(kk, y)])]) F2 (upd H2 p (.dK [(kk, u)])) := by
    refine ⟨fun a o e n => ?_, mall.up, mall.nw, fun a ha => ?_, fun a e => ?_⟩
    · rw [upd_ne (ne_of_none e hp)]; exact mall.kp a o e n
    · rw [adrs, List.map_append] at ha
      rcases List.mem_append.mp ha with w | w
      · exact mall.nm a w
      · simp at w; subst w; exact .inr hp
    · by_cases ne : a = p
      · subst ne; exact hp
      · rw [upd_ne ne] at e; exact mall.gr a e
  exact k _ _ _ _ _ (q p) mfin cfin (.ref p)
end
section
variable {X : Cx} {Z : Wish} {δ : Env} {μ : Store} {a b : Expr} {pos : Pos}
theorem ve_disp1 {P : D → Store → Prop} (h : VE X Z a δ μ fun x μ1 => VE X Z b δ μ1 fun y μ2 => ∃ kk, keyD x = some kk ∧ ∀ l, P (.ref l) (μ2 ++ [(l, .dct [(kk, y)])])) : VE X Z (.Dict [some a] [b] pos) δ μ P :=
  ve_of (pe_disp (pps_cons pe_r pe_r pps_nil) rfl rfl (by simp) (by simp)) (we_disp1 h)
end
theorem bitAnd_nat (a b : Nat) : Builtin.bitAnd (a : Int) (b : Int) = ((a &&& b : Nat) : Int) := by
  unfold Builtin.bitAnd
  rw [decide_eq_true (by omega : (0 : Int) ≤ (a : Int)), decide_eq_true (by omega : (0 : Int) ≤ (b : Int))]
  simp
theorem bitOr_apart {a b : Nat} (h : a &&& b = 0) : Builtin.bitOr (a : Int) (b : Int) = ((a + b : Nat) : Int) := by
  rw [bitOr_and, bitAnd_nat, h]
  omega
theorem pow_and {k s : Nat} (h : s < 2 ^ k) : 2 ^ k &&& s = 0 := by
  refine Nat.eq_of_testBit_eq fun i => ?_
  rw [Nat.testBit_and, Nat.zero_testBit, Nat.testBit_two_pow]
  by_cases e : k = i
  · subst e
    rw [Nat.testBit_lt_two_pow h]; simp
  · simp [e]
theorem intBits_top {k r : Nat} (h : r < 2 ^ k) : Builtin.Int.intBits ((2 ^ k + r : Nat) : Int) = k + 1 := by
  unfold Builtin.Int.intBits
  have hp := Nat.two_pow_pos k
  have h0 : (((2 ^ k + r : Nat) : Int) == 0) = false := by
    rw [beq_eq_false_iff_ne]
    omega
  rw [h0]
  simp only [Bool.false_eq_true, if_false, Int.natAbs_natCast]
  congr 1
  refine (Nat.log2_eq_iff (by omega)).mpr ⟨by omega, ?_⟩
  rw [Nat.pow_succ]
  omega
theorem top_of {n : Nat} (h : 0 < n) : ∃ k r, n = 2 ^ k + r ∧ r < 2 ^ k := by
  refine ⟨n.log2, n - 2 ^ n.log2, ?_, ?_⟩
  · have := Nat.log2_self_le (n := n) (by omega)
    omega
  · have h1 := Nat.lt_log2_self (n := n)
    rw [Nat.pow_succ] at h1
    omega
end VL
set_option Elab.async false
set_option linter.all false
set_option maxRecDepth 100000
set_option maxHeartbeats 4000000
namespace VK
open PySem PySem.Spec PyProof.Rows L2 VL
abbrev FnP (K : PySem.W.Frag) (x : Str) (st : Stmt) (f : Addr) (fd : FuncData) : Prop := FunD K x x (defArgs st) (defBody st) (defScope st) [] [] f fd
/-- the built-ins' names are the built-ins; the module's constants -/
structure Bi (mg : Str → Option Value) : Prop where
  isinstance : mg "isinstance" = none
  int : mg "int" = none
  bool : mg "bool" = none
  str : mg "str" = none
  list : mg "list" = none
  tuple : mg "tuple" = none
  len : mg "len" = none
  all : mg "all" = none
  sum : mg "sum" = none
  sorted : mg "sorted" = none
  min : mg "min" = none
  abs : mg "abs" = none
  range : mg "range" = none
  enumerate : mg "enumerate" = none
  zip : mg "zip" = none
/-! ### data -/
abbrev SIGNS : Str := "abcdefghijklmnopqrstuvwxyz0123456789"
def sgB (c : Nat) : Bool := decide (c ∈ SIGNS.cps.toList)
def ltB (c : Nat) : Bool := decide (c ∈ (cutS SIGNS none (some 26)).cps.toList)
/-- a name of the program -/
def nameB (s : Str) : Bool := decide (1 ≤ s.length) && (decide (s.length ≤ 12) && (s.cps.toList.head?.any ltB && s.cps.toList.all sgB))
theorem sg_small {c : Nat} (h : sgB c = true) : c < 128 := by
  have h : c ∈ SIGNS.cps.toList := of_decide_eq_true h
  have : SIGNS.cps.toList.all (fun c => decide (c < 128)) = true := by decide +kernel
  exact of_decide_eq_true (List.all_eq_true.mp this c h)
theorem nm_parts {s : Str} (h : nameB s = true) : 1 ≤ s.length ∧ s.length ≤ 12 ∧ s.cps.toList.head?.any ltB = true ∧ s.cps.toList.all sgB = true := by
  unfold nameB at h
  rw [Bool.and_eq_true, Bool.and_eq_true, Bool.and_eq_true] at h
  exact ⟨of_decide_eq_true h.1, of_decide_eq_true h.2.1, h.2.2.1, h.2.2.2⟩
theorem nm_ok {s : Str} (h : nameB s = true) : PyData.strOk s = true := by
  obtain ⟨_, _, _, h⟩ := nm_parts h
  unfold PyData.strOk
  rw [← Array.all_toList, List.all_eq_true]
  intro c hc
  have := sg_small (List.all_eq_true.mp h c hc)
  exact decide_eq_true (by omega)
theorem nm_okD {s : Str} {n : Nat} (h : nameB s = true) : okD n (.str s) = true := by simp [okD, nm_ok h]
section
variable {P : Program} {w : World} {K : PySem.W.Frag} {mg : Str → Option Value} {base : Heap} {f : Addr} {fd : FuncData}
theorem cal_mk {x : Str} {st : Stmt} {ps : List Str} {k : Nat} {S : FSpec} (F : FnP K x st f fd) (ok : FnOk P w K mg base (L2.CX P w) k f fd ps (spOf K S)) (hm : mg x = some (.ref f))
    (hb : ∀ (kV doc pm : Value) (an : Option Addr) (cdv ct : Value) (us : List Value), us.length = ps.length → bindArgs (PySem.W.fnOf x x (defArgs st) (defBody st) (defScope st) .none kV doc pm an cdv ct) ⟨us, []⟩ = pure (ps.zip us)) : Cal P w K mg base k x S [] := by
  obtain ⟨oc, od, dV, kV, doc, pm, an, cdv, ct, osl, rfl, lk, hcd, dfl, _⟩ := F.ex
  have e0 : dV = .none := by
    rcases dfl with ⟨_, e⟩ | ⟨ne, _⟩
    · exact e
    · exact absurd rfl ne
  subst e0
  exact ⟨f, _, ps, [], [], ok, hm, F.kp, .all (fun us hl => hb kV doc pm an cdv ct us hl), .nil, fun _ => .nil⟩
def S_is_integer : FSpec := fun ds μ P _ => ∃ i : Int, ds = [.int i] ∧ P (.bl true) μ
def S_is_within : FSpec := fun ds μ P _ => ∃ i lo hi : Int, ds = [.int i, .int lo, .int hi] ∧ P (.bl (decide (lo ≤ i) && decide (i ≤ hi))) μ
def S_is_list : FSpec := fun ds μ P _ => ∃ d xs, ds = [d] ∧ itemsD d = some xs ∧ P (.bl true) μ
end
end VK
set_option Elab.async false
set_option linter.all false
set_option maxRecDepth 100000
set_option maxHeartbeats 4000000
namespace VK
open PySem PySem.Spec PyProof.Rows L2 VL
section
variable {P : Program} {w : World} {K : PySem.W.Frag} {mg : Str → Option Value} {base : Heap} {f : Addr} {fd : FuncData}
theorem allB (bs : List Bool) : bs.all id = bs.all (fun b => b) := rfl
def S_is_name : FSpec := fun ds μ P _ => ∃ s : Str, ds = [.str s] ∧ s.length ≤ 1000 ∧ P (.bl (nameB s)) μ
end
end VK
set_option Elab.async false
set_option linter.all false
set_option maxRecDepth 100000
set_option maxHeartbeats 4000000
namespace VK
open PySem PySem.Spec PyProof.Rows L2 VL
section
variable {P : Program} {w : World} {K : PySem.W.Frag} {mg : Str → Option Value} {base : Heap} {f : Addr} {fd : FuncData}
theorem all_id {α : Type} (xs : List α) (g : α → Bool) : (xs.map g).all id = xs.all g := by rw [List.all_map]; rfl
theorem okDs_str {n : Nat} {ss : List Str} (h : ∀ s ∈ ss, nameB s = true) : okDs n (ss.map D.str) = true := okDs_iff.mpr fun x hx => by
  obtain ⟨s, hs, rfl⟩ := List.mem_map.mp hx
  exact nm_okD (h s hs)
def S_are_unlike : FSpec := fun ds μ P _ => ∃ (d : D) (ss : List Str), ds = [d] ∧ itemsD d = some (ss.map D.str) ∧ (∀ s ∈ ss, nameB s = true) ∧ ss.length ≤ 1000 ∧ P (.bl (decide ss.Nodup)) μ
/-- each less than the next -/
def ascS : List Str → Bool
  | s :: t :: r => ltS s t && ascS (t :: r)
  | _ => true
theorem asc_zip : ∀ ss : List Str, ((ss.zip (ss.drop 1)).all fun p => ltS p.1 p.2) = ascS ss
  | [] => rfl
  | [_] => rfl
  | s :: t :: r => by
    have ih := asc_zip (t :: r)
    show (ltS s t && (((t :: r).zip ((t :: r).drop 1)).all fun p => ltS p.1 p.2)) = _
    rw [ih]; rfl
def S_is_lot : FSpec := fun ds μ P _ => ∃ (ss : List Str), ds = [.tup (ss.map D.str)] ∧ ss ≠ [] ∧ (∀ s ∈ ss, nameB s = true) ∧ ss.length ≤ 1000 ∧ P (.bl (ascS ss)) μ
def S_need_integer : FSpec := fun ds μ P _ => ∃ (i lo hi : Int) (p : D), ds = [.int i, p, .int lo, .int hi] ∧ lo ≤ i ∧ i ≤ hi ∧ P .non μ
end
end VK
set_option Elab.async false
set_option linter.all false
set_option maxRecDepth 100000
set_option maxHeartbeats 4000000
namespace VK
open PySem PySem.Spec PyProof.Rows L2 VL
/-- a class of the program: its name, its object -/
structure ClsF (K : PySem.W.Frag) (mg : Str → Option Value) (x : Str) (C : Addr) : Prop where
  g : mg x = some (.ref C)
  c : Cls K C
  i : InsOk K C
  me : PySem.W.kitOne K (.ref C) (.ref C) = some true
section
variable {P : Program} {w : World} {K : PySem.W.Frag} {mg : Str → Option Value} {base : Heap} {f : Addr} {fd : FuncData}
def S_is_rope : FSpec := fun ds μ P _ => ∃ (d : D) (ss : List Str), ds = [d] ∧ itemsD d = some (ss.map D.str) ∧ ss.length = 3 ∧ (∀ s ∈ ss, nameB s = true) ∧ P (.bl true) μ
def S_need_structure (C : Addr) : FSpec := fun ds μ P _ => ∃ fs p, ds = [.ins C fs, p] ∧ P .non μ
end
mutual
/-- lists as tuples, all the way in -/
def fixD : D → D
  | .lst xs => .tup (fixDs xs)
  | .tup xs => .tup (fixDs xs)
  | .non => .non
  | .bl b => .bl b
  | .int i => .int i
  | .str s => .str s
  | .ty n => .ty n
  | .ref a => .ref a
  | .dct k => .dct k
  | .ins C fs => .ins C fs
  | .scr k => .scr k
  | .exc C fs => .exc C fs
  | .dT kvs => .dT kvs
  | .kt k => .kt k
  | .tupN xs => .tupN xs
def fixDs : List D → List D
  | [] => []
  | x :: xs => fixD x :: fixDs xs
end
theorem fixDs_map : ∀ xs : List D, fixDs xs = xs.map fixD
  | [] => by rw [fixDs]; rfl
  | x :: xs => by rw [fixDs, fixDs_map xs]; rfl
mutual
def fxOk : Nat → D → Bool
  | _, .non => true
  | _, .bl _ => true
  | _, .int _ => true
  | _, .str _ => true
  | n + 1, .lst xs => decide (xs.length ≤ 1000) && fxOks n xs
  | n + 1, .tup xs => decide (xs.length ≤ 1000) && fxOks n xs
  | 0, .lst _ => false
  | 0, .tup _ => false
  | _, .ty _ => false
  | _, .ref _ => false
  | _, .dct _ => true
  | _, .ins _ _ => false
  | _, .scr _ => false
  | _, .exc _ _ => false
  | _, .dT _ => false
  | _, .kt _ => false
  | _, .tupN _ => false
def fxOks : Nat → List D → Bool
  | _, [] => true
  | n, x :: xs => fxOk n x && fxOks n xs
end
theorem fxOks_iff {n : Nat} : ∀ {xs : List D}, fxOks n xs = true ↔ ∀ x ∈ xs, fxOk n x = true
  | [] => by simp [fxOks]
  | x :: xs => by rw [fxOks, Bool.and_eq_true, fxOks_iff (xs := xs)]; simp
section
variable {P : Program} {w : World} {K : PySem.W.Frag} {mg : Str → Option Value} {base : Heap} {f : Addr} {fd : FuncData}
abbrev s_fixed : Stmt := top 1
def S_fixed (n : Nat) : FSpec := fun ds μ P _ => ∃ d, ds = [d] ∧ fxOk n d = true ∧ P (fixD d) μ
theorem sc_fixed : FnScope ["value", "each"] ["value"] (defScope s_fixed) := ⟨rfl, rfl, rfl, by decide +kernel, rfl, by decide +kernel, by decide +kernel⟩
theorem ok_fixed (F : FnP K "fixed" s_fixed f fd) (b : Bi mg) (hm : mg "fixed" = some (.ref f)) : ∀ n : Nat, FnOk P w K mg base (L2.CX P w) (n + 1) f fd ["value"] (spOf K (S_fixed n)) := by
  intro n
  induction n with
  | zero =>
    refine fn_ok F sc_fixed (fun ds μ P R ⟨_, e, _⟩ => by subst e; rfl) fun cdv A outer s H E ds μ Q R => ?_
    intro X fx ow h
    obtain ⟨d, rfl, hd, q⟩ := h
    have ty : ∃ n, tyN d = some n ∧ PySem.W.kitAny X.K (.type n) [.type "list", .type "tuple"] = some false ∧ fixD d = d := by
      cases d <;> first | (simp [fxOk] at hd; done) | exact ⟨_, rfl, by kernel_rfl, by simp [fixD]⟩
    obtain ⟨n, h1, h2, h3⟩ := ty
    refine vss_one ?_
    refine vs_ret ?_
    refine ve_ifS ?_
    refine vt_val ?_
    refine ve_cb call_isiA b.isinstance boot_isinstance ?_
    refine va_cons ?_
    refine ve_name 0 ?_ -- value
    refine va_cons ?_
    refine ve_tup ?_
    refine va_cons ?_
    refine ve_bty (n := "list") b.list ?_
    refine va_cons ?_
    refine ve_bty (n := "tuple") b.tuple ?_
    refine va_nil ?_
    refine ⟨by decide, ?_⟩
    refine va_nil ?_
    refine wc_isi2 (.inl ⟨_, h1, rfl⟩) h2 ?_
    refine ⟨_, rfl, ?_⟩
    refine ⟨fun hk => (by cases hk), fun hk => ?_⟩
    refine ve_name 0 ?_ -- value
    rw [h3] at q
    exact ⟨μ, List.Sublist.refl _, q⟩
  | succ n ih =>
    have c_fixed : Cal P w K mg base (n + 1) "fixed" (S_fixed n) [] := cal_mk F ih hm fun kV doc pm an cdv ct us hl => match us, hl with | [_], _ => rfl
    refine fn_ok F sc_fixed (fun ds μ P R ⟨_, e, _⟩ => by subst e; rfl) fun cdv A outer s H E ds μ Q R => ?_
    intro X fx ow h
    obtain ⟨d, rfl, hd, q⟩ := h
    have ty : (∃ n, tyN d = some n ∧ PySem.W.kitAny X.K (.type n) [.type "list", .type "tuple"] = some false ∧ fixD d = d) ∨
        ∃ n' xs, tyN d = some n' ∧ itemsD d = some xs ∧ PySem.W.kitAny X.K (.type n') [.type "list", .type "tuple"] = some true ∧ fixD d = .tup (xs.map fixD) ∧ xs.length ≤ 1000 ∧ ∀ x ∈ xs, fxOk n x = true := by
      cases d with
      | lst xs =>
        rw [fxOk, Bool.and_eq_true, fxOks_iff] at hd
        exact .inr ⟨_, _, rfl, rfl, by kernel_rfl, by rw [fixD, fixDs_map], of_decide_eq_true hd.1, hd.2⟩
      | tup xs =>
        rw [fxOk, Bool.and_eq_true, fxOks_iff] at hd
        exact .inr ⟨_, _, rfl, rfl, by kernel_rfl, by rw [fixD, fixDs_map], of_decide_eq_true hd.1, hd.2⟩
      | ty _ => simp [fxOk] at hd
      | ref _ => simp [fxOk] at hd
      | ins _ _ => simp [fxOk] at hd
      | scr _ => simp [fxOk] at hd
      | exc _ _ => simp [fxOk] at hd
      | dT _ => simp [fxOk] at hd
      | kt _ => simp [fxOk] at hd
      | tupN _ => simp [fxOk] at hd
      | _ => exact .inl ⟨_, rfl, by kernel_rfl, by simp [fixD]⟩
    refine vss_one ?_
    refine vs_ret ?_
    refine ve_ifS ?_
    refine vt_val ?_
    refine ve_cb call_isiA b.isinstance boot_isinstance ?_
    refine va_cons ?_
    refine ve_name 0 ?_ -- value
    refine va_cons ?_
    refine ve_tup ?_
    refine va_cons ?_
    refine ve_bty (n := "list") b.list ?_
    refine va_cons ?_
    refine ve_bty (n := "tuple") b.tuple ?_
    refine va_nil ?_
    refine ⟨by decide, ?_⟩
    refine va_nil ?_
    rcases ty with ⟨n', h1, h2, h3⟩ | ⟨n', xs, h1, hi, h2, h3, hl, hx⟩
    · refine wc_isi2 (.inl ⟨_, h1, rfl⟩) h2 ?_
      refine ⟨_, rfl, ?_⟩
      refine ⟨fun hk => (by cases hk), fun hk => ?_⟩
      refine ve_name 0 ?_ -- value
      rw [h3] at q
      exact ⟨μ, List.Sublist.refl _, q⟩
    · refine wc_isi2 (.inl ⟨_, h1, rfl⟩) h2 ?_
      refine ⟨_, rfl, ?_⟩
      refine ⟨fun hk => ?_, fun hk => (by cases hk)⟩
      refine ve_cty call_tuple_of b.tuple boot_tuple ?_
      refine va_cons ?_
      refine ve_lcF (α := D) (js := [1]) [("each", 1)] fx.kx ?_
      refine vi_var 0 hi ?_
      refine ⟨xs, id, fun x => some (fixD x), by simp, by omega, fun a ha q1 => ?_, ?_⟩
      · refine vg_name 1 (fx.bk _ q1).kx ?_ -- each
        intro q1
        refine vif_nil ?_
        simp only [if_true]
        intro q1
        refine ve_call c_fixed (fx.bk _ q1) ?_
        refine va_cons ?_
        refine ve_name 1 ?_ -- each
        refine va_nil ?_
        refine ⟨a, rfl, hx a ha, ?_⟩
        exact ⟨rfl, rfl⟩
      refine va_nil ?_
      rw [fm_map]
      refine wc_tup_l ?_
      rw [h3] at q
      exact ⟨μ, List.Sublist.refl _, q⟩
end
end VK
set_option Elab.async false
set_option linter.all false
set_option maxRecDepth 100000
set_option maxHeartbeats 4000000
namespace VK
open PySem PySem.Spec PyProof.Rows L2 VL
abbrev Rope := Str × Str × Str
def ropeD (r : Rope) : D := .tup [.str r.1, .str r.2.1, .str r.2.2]
structure PsOk (ps : List Str) : Prop where
  nm : ∀ p ∈ ps, nameB p = true
  nd : ps.Nodup
  lo : 1 ≤ ps.length
  hi : ps.length ≤ 12
structure RsOk (ps : List Str) (rs : List Rope) : Prop where
  nm : ∀ r ∈ rs, nameB r.1 = true
  nd : (rs.map (·.1)).Nodup
  hi : rs.length ≤ 80
  e1 : ∀ r ∈ rs, r.2.1 ∈ ps
  e2 : ∀ r ∈ rs, r.2.2 ∈ ps
  ne : ∀ r ∈ rs, r.2.1 ≠ r.2.2
theorem numbered_get {α : Type} {xs : List α} {g : α → D} {i : Nat} {d : D} (h : (numbered (xs.map g))[i]? = some d) : ∃ x, xs[i]? = some x ∧ d = .tup [.int (i : Nat), g x] := by
  obtain ⟨y, hy, rfl⟩ := numbered_at h
  rw [List.getElem?_map] at hy
  cases e : xs[i]? with
  | none => rw [e] at hy; cases hy
  | some x => rw [e] at hy; cases hy; exact ⟨x, rfl, rfl⟩
theorem map_get {α : Type} {xs : List α} {g : α → D} {i : Nat} {d : D} (h : (xs.map g)[i]? = some d) : ∃ x, xs[i]? = some x ∧ d = g x := by
  rw [List.getElem?_map] at h
  cases e : xs[i]? with
  | none => rw [e] at h; cases h
  | some x => rw [e] at h; cases h; exact ⟨x, rfl, rfl⟩
theorem nd_take {α : Type} {xs : List α} (nd : xs.Nodup) {i : Nat} {x : α} (h : xs[i]? = some x) : x ∉ xs.take i := fun hm => by
  obtain ⟨j, hj⟩ := List.mem_iff_getElem?.mp hm
  have hl : j < i := by
    have := (List.getElem?_eq_some_iff.mp hj).1
    rw [List.length_take] at this
    omega
  rw [List.getElem?_take_of_lt hl] at hj
  have := nd_ix nd hj h
  omega
section
variable {P : Program} {w : World} {K : PySem.W.Frag} {mg : Str → Option Value} {base : Heap} {f : Addr} {fd : FuncData}
def S_need_ropes : FSpec := fun ds μ P _ => ∃ (d pd : D) (ps : List Str) (rs : List Rope), ds = [d, pd] ∧ itemsD d = some (rs.map ropeD) ∧ itemsD pd = some (ps.map D.str) ∧ PsOk ps ∧ RsOk ps rs ∧ P (.lst (rs.map ropeD)) μ
end
end VK
set_option Elab.async false
set_option linter.all false
set_option maxRecDepth 100000
set_option maxHeartbeats 4000000
/-! VTN: tuples known as objects, good for .index; list.index of texts. -/
namespace VL
open PySem PySem.Spec PyProof.Rows L2
def rTupN (K : PySem.W.Frag) : List V → Hp → VK → Prop := fun xs H Q => ∃ p ys, xs = [.ref p] ∧ SqL K H p ys ∧ ∀ (l : Addr) (o : Obj), H l = none → o.dict = none → Q (.ref l) (upd H l (.frz o (.tup ys)))
theorem call_tupleN {X : Cx} : CallR X (.type "tuple") (rTupN X.K) := by
  intro pins s σ H xs us Q I r h
  obtain ⟨p, ys, rfl, hq, q⟩ := h
  obtain ⟨u, rfl, rx⟩ := vals1 r
  cases rx
  obtain ⟨its, r', pl, hz⟩ := I.list hq
  have hlen := r'.length
  refine call_tuple_list pl.isList (fun h' kp => ?_) (by simp only [List.size_toArray] <;> omega)
  have I1 : Inv X pins σ H { s with heap := h' } := I.kept (t' := s.toks) kp
  have I2 : Inv X pins σ (upd H h'.objs.size (.frz { cls := .type "tuple", data := .seq its.toArray } (.tup ys))) { s with heap := h'.push { cls := .type "tuple", data := .seq its.toArray } } :=
    I1.laid (t' := s.toks) (fun b o e => Heap.get?_push_of_some _ e) (Nat.le_refl _) (show ObjOk X.prog X.w _ _ _ (.frz { cls := .type "tuple", data := .seq its.toArray } (.tup ys)) from ⟨Heap.get?_push_size _ rfl, hz, its, r', IsTup.new _ _⟩)
  exact ⟨.ref h'.objs.size, _, I2, rfl, q _ _ (I1.hok.fresh (Nat.le_refl _)) rfl⟩
section
variable {K : PySem.W.Frag} {Z : Wish} {δ : Env} {μ : Store}
theorem wc_tupN {xs : List D} {P : D → Store → Prop} (p : P (.tupN xs) μ) : WC K Z (rTupN K) [.lst xs] μ P := fun vs F H Q c r k z => by
  obtain ⟨v, rfl, r'⟩ := reps1 r
  obtain ⟨a, ys, rfl, e, rr⟩ := rep_ll r'
  refine ⟨a, ys, rfl, sq_list c.ex e, fun l o hn hd => ?_⟩
  have m := mv_new (o := .frz o (.tup ys)) c hn
  exact k _ _ _ _ _ p m (cm_new c hn) (.tupN upd_same hd (rr.mono m.up))
/-- the call of .index of such a tuple -/
def tIdxN (to te : TE) : TE := fun σ H Q => to σ H fun x H1 => (∃ (p : Addr) (o : Obj) (ys : List V), x = .ref p ∧ H1 p = some (.frz o (.tup ys)) ∧ o.dict = none) ∧ te σ H1 fun y H2 => ∃ (p : Addr) (ys : List Str) (z : Str) (j : Nat), x = .ref p ∧ y = .str z ∧ (∃ o, H2 p = some (.frz o (.tup (ys.map V.str)))) ∧ ys[j]? = some z ∧ (∀ m, m < j → ys[m]? ≠ some z) ∧ Q (.int (j : Nat)) H2
theorem reps_strN {F : Hp} : ∀ {vs : List V} {ys : List Str}, Reps K F vs (ys.map D.str) → vs = ys.map V.str
  | _, [], .nil => rfl
  | _, y :: ys, .cons h r => by
    cases h
    rw [reps_strN r]; rfl
theorem idx_at {ps : List Str} {s : Str} (h : s ∈ ps) : ps[ps.idxOf s]? = some s := by
  have hl := List.idxOf_lt_length_of_mem h
  rw [List.getElem?_eq_getElem hl, List.getElem_idxOf]
theorem idx_no {ps : List Str} {s : Str} : ∀ m, m < ps.idxOf s → ps[m]? ≠ some s := fun m hm e => by
  obtain ⟨hl, e2⟩ := List.getElem?_eq_some_iff.mp e
  have := List.not_of_lt_findIdx (p := (· == s)) (xs := ps) (i := m) hm
  rw [e2] at this
  simp at this
theorem we_tindex {to te : TE} {P : D → Store → Prop} (h : WE K Z to δ μ fun x μ1 => ∃ ps : List Str, x = .tupN (ps.map D.str) ∧ WE K Z te δ μ1 fun y μ2 => ∃ s : Str, y = .str s ∧ s ∈ ps ∧ P (.int ((ps.idxOf s : Nat) : Int)) μ2) : WE K Z (tIdxN to te) δ μ P := fun σ F H Q s c k z => by
  refine h σ F H _ s c (fun v x μ1 F1 H1 ⟨ps, e, p⟩ m1 c1 r1 => ?_) z
  subst e
  cases r1 with
  | @tupN a o xs _ e hd rr =>
    have ex := reps_strN rr
    subst ex
    refine ⟨⟨a, o, _, rfl, c1.ex _ _ e, hd⟩, ?_⟩
    refine p σ F1 H1 _ (s.mono m1.up) c1 (fun v2 y μ2 F2 H2 ⟨st, e2, hm, p2⟩ m2 c2 r2 => ?_) (z.mv m1)
    subst e2
    cases r2
    exact ⟨a, ps, st, ps.idxOf st, rfl, rfl, ⟨o, c2.ex _ _ (m2.up _ _ e)⟩, idx_at hm, idx_no, k _ _ _ _ _ p2 (m1.trans m2) c2 (.int _)⟩
end
section
variable {X : Cx} {Z : Wish} {δ : Env} {μ : Store} {P : D → Store → Prop} {o e : Expr} {x : Str} {pos apos cpos : Pos} {to te : TE}
theorem pe_idxN (ho : PE X o to) (he : PE X e te) (hbase : attributeBase o "index" X.env (eval o X.env) = eval o X.env := by rfl)
    (hfew : ((backTo cpos (starEach [e] X.env)).all (fun x => !x.1) && (backToKw cpos (keywordEach [] X.env)).all (fun x => x.1.isSome)
      && decide ([e].length + ([] : List Keyword).length + (if ([] : List Keyword).isEmpty then 0 else 1) < 30)) = true := by rfl)
    (hline : (apos.endLine == cpos.line) = true := by rfl) (hs : starEach [e] X.env = (false, eval e X.env) :: starEach [] X.env := by rfl) :
    PE X (.Call (.Attribute o "index" apos) [e] [] cpos) (tIdxN to te) := by
  refine ⟨fun pins s σ H Q I h => ?_⟩
  refine wpAny_Call_method_late hbase hfew hline rfl (thn (ho.run pins s σ H _ I h) fun v s1 ⟨x, H1, I1, r1, ⟨p, ob, ys, ex, ep, hd⟩, q1⟩ => ?_)
  subst ex
  cases r1
  obtain ⟨g1, g2⟩ : ObjOk X.prog X.w H1 s1.heap p (.frz ob (.tup ys)) := I1.hok p _ ep
  obtain ⟨_, its, _, ob2, g3, g4, _⟩ := g2
  have eo : ob2 = ob := by rw [g1] at g3; exact (Option.some.inj g3).symm
  subst eo
  refine ⟨"tuple", "tuple.index", PySem.F.plainAttrs_tuple, PySem.F.slot_tuple_index, PySem.F.type_tuple_index, ⟨ob2, g1, g4⟩, fun a ea => ?_, ?_⟩
  · cases ea; exact ⟨ob2, g1, hd⟩
  have hA := (pa_cons he pa_nil hs).run cpos pins s1 σ H1 (fun vs H2 => match vs with | [y] => (∃ (p' : Addr) (ys : List Str) (z : Str) (j : Nat), V.ref p = .ref p' ∧ y = .str z ∧ (∃ o, H2 p' = some (.frz o (.tup (ys.map V.str)))) ∧ ys[j]? = some z ∧ (∀ m, m < j → ys[m]? ≠ some z) ∧ Q (.int (j : Nat)) H2) | _ => False) I1 q1
  rw [hs] at hA ⊢
  refine Calls.callWith_builtin rfl (Calls.evalArgs_plain ?_)
  exact thn hA fun us s2 ⟨vs, H2, I2, r2, q2⟩ => by
    match vs, r2, q2 with
    | [y], r2, ⟨p', ys2, zz, j, e1, e2, ⟨o2, e3⟩, e4, e5, q3⟩ =>
      cases e1
      exact mt_tup_index pins s2 σ H2 (.ref p) [y] (.ref p) us Q I2 rfl r2 ⟨p, ys2, zz, j, rfl, by rw [e2], .inl (.inr ⟨o2, e3⟩), e4, e5, q3⟩
    | [], _, q2 => exact q2.elim
    | _ :: _ :: _, _, q2 => exact q2.elim
theorem ve_tindex (h : VE X Z o δ μ fun x μ1 => ∃ ps : List Str, x = .tupN (ps.map D.str) ∧ VE X Z e δ μ1 fun y μ2 => ∃ s : Str, y = .str s ∧ s ∈ ps ∧ P (.int ((ps.idxOf s : Nat) : Int)) μ2)
    (hbase : attributeBase o "index" X.env (eval o X.env) = eval o X.env := by rfl)
    (hfew : ((backTo cpos (starEach [e] X.env)).all (fun x => !x.1) && (backToKw cpos (keywordEach [] X.env)).all (fun x => x.1.isSome)
      && decide ([e].length + ([] : List Keyword).length + (if ([] : List Keyword).isEmpty then 0 else 1) < 30)) = true := by rfl)
    (hline : (apos.endLine == cpos.line) = true := by rfl) (hs : starEach [e] X.env = (false, eval e X.env) :: starEach [] X.env := by rfl) : VE X Z (.Call (.Attribute o "index" apos) [e] [] cpos) δ μ P :=
  ve_of (pe_idxN pe_r pe_r hbase hfew hline hs) (we_tindex h)
/-- xs.index(s) of a list of texts -/
theorem wm_lindex {K : PySem.W.Frag} {ps : List Str} {s : Str} (hm : s ∈ ps) (p : P (.int ((ps.idxOf s : Nat) : Int)) μ) : WM K Z "list" (rIndex K) (.lst (ps.map D.str)) [.str s] μ P := fun v vs F H Q c r1 r2 k z => by
  obtain ⟨a, ys, rfl, e, rr⟩ := rep_ll r1
  have ey := reps_strN rr
  subst ey
  obtain ⟨u, rfl, ru⟩ := reps1 r2
  cases ru
  refine ⟨a, ps.map V.str, .str s, ps.idxOf s, .str s, rfl, rfl, sq_list c.ex e, rfl, flat_strs _, by rw [List.getElem?_map, idx_at hm]; rfl, by show (s == s) = true; exact beq_self_eq_true s, fun m z' hlt hz => ?_, k _ _ _ _ _ p (Mv.refl ..) c (.int _)⟩
  rw [List.getElem?_map] at hz
  cases q : ps[m]? with
  | none => rw [q] at hz; cases hz
  | some t =>
    rw [q] at hz
    cases hz
    show (t == s) = false
    exact beq_eq_false_iff_ne.mpr fun ee => idx_no m hlt (by rw [q, ee])
theorem ve_lindex (h : VE X Z o δ μ fun x μ1 => ∃ ps : List Str, x = .lst (ps.map D.str) ∧ VE X Z e δ μ1 fun y μ2 => ∃ s : Str, y = .str s ∧ s ∈ ps ∧ P (.int ((ps.idxOf s : Nat) : Int)) μ2)
    (hbase : attributeBase o "index" X.env (eval o X.env) = eval o X.env := by rfl)
    (hfew : ((backTo cpos (starEach [e] X.env)).all (fun x => !x.1) && (backToKw cpos (keywordEach [] X.env)).all (fun x => x.1.isSome)
      && decide ([e].length + ([] : List Keyword).length + (if ([] : List Keyword).isEmpty then 0 else 1) < 30)) = true := by rfl)
    (hline : (apos.endLine == cpos.line) = true := by rfl) (hs : starEach [e] X.env = (false, eval e X.env) :: starEach [] X.env := by rfl) (hpl : (backTo cpos (starEach [] X.env)).any (·.1) = false := by rfl) : VE X Z (.Call (.Attribute o "index" apos) [e] [] cpos) δ μ P :=
  ve_of (pe_bm F.plainAttrs_list F.slot_list_index F.type_list_index mt_index pe_r pa_r hbase hfew hline hs hpl) (we_bm (h.imp fun x μ1 ⟨ps, e, p⟩ => by
    subst e
    exact ⟨ty_lst, va_cons (hs := hs) (p.imp fun y μ2 ⟨s, e2, hm, q⟩ => by subst e2; exact va_nil (wm_lindex hm q))⟩))
theorem ve_unN (h : VE X Z e δ μ fun d μ1 => ∃ xs, d = .tupN xs ∧ P (.tup xs) μ1) : VE X Z e δ μ P := fun σ F H Q s c k z =>
  h σ F H Q s c (fun v d μ1 F1 H1 ⟨xs, e, p⟩ m1 c1 r1 => by
    subst e
    exact k _ _ μ1 F1 H1 p m1 c1 (rep_unN r1)) z
end
end VL
set_option Elab.async false
set_option linter.all false
set_option maxRecDepth 100000
set_option maxHeartbeats 4000000
namespace VK
open PySem PySem.Spec PyProof.Rows L2 VL
abbrev FnQ (K : PySem.W.Frag) (x q : Str) (st : Stmt) (dvs : List V) (f : Addr) (fd : FuncData) : Prop := FunD K x q (defArgs st) (defBody st) (defScope st) dvs [] f fd
def gradeOf (n : Nat) : Int := if n = 1 then 1 else if n = 2 then 3 else 6
/-- a Structure -/
def strucF (n : Nat) (ps : List Str) (rs : List Rope) : List (Str × D) := [("dimension", .int n), ("pieces", .tupN (ps.map D.str)), ("ropes", .tup (rs.map ropeD)), ("grade", .int (gradeOf n))]
def strucD (C : Addr) (n : Nat) (ps : List Str) (rs : List Rope) : D := .ins C (strucF n ps rs)
structure StOk (n : Nat) (ps : List Str) (rs : List Rope) : Prop where
  n1 : 1 ≤ n
  n3 : n ≤ 3
  p : PsOk ps
  r : RsOk ps rs
/-- its fields may be stored and read -/
structure StrF (K : PySem.W.Frag) (mg : Str → Option Value) (C : Addr) : Prop where
  cls : ClsF K mg "Structure" C
  dimension : NoAttr K C "dimension"
  pieces : NoAttr K C "pieces"
  ropes : NoAttr K C "ropes"
  grade : NoAttr K C "grade"
  GRADES : ∃ a, mg "GRADES" = some (.ref a) ∧ ∀ H, SqT K H a [.non, .int 1, .int 3, .int 6]
theorem psOk_perm {ps qs : List Str} (h : ps.Perm qs) (o : PsOk ps) : PsOk qs := ⟨fun p hp => o.nm p (h.mem_iff.mpr hp), h.nodup_iff.mp o.nd, by rw [← h.length_eq]; exact o.lo, by rw [← h.length_eq]; exact o.hi⟩
theorem rsOk_perm {ps qs : List Str} {rs ts : List Rope} (h : ps.Perm qs) (g : rs.Perm ts) (o : RsOk ps rs) : RsOk qs ts :=
  ⟨fun r hr => o.nm r (g.mem_iff.mpr hr), (g.map _).nodup_iff.mp o.nd, by rw [← g.length_eq]; exact o.hi, fun r hr => h.mem_iff.mp (o.e1 r (g.mem_iff.mpr hr)), fun r hr => h.mem_iff.mp (o.e2 r (g.mem_iff.mpr hr)), fun r hr => o.ne r (g.mem_iff.mpr hr)⟩
abbrev sortS (ps : List Str) : List Str := sortBy D.str ps
abbrev sortR (rs : List Rope) : List Rope := sortBy ropeD rs
theorem sortS_perm (ps : List Str) : (sortS ps).Perm ps := sortBy_perm
theorem sortR_perm (rs : List Rope) : (sortR rs).Perm rs := sortBy_perm
theorem rope_ok {ps : List Str} {rs : List Rope} (po : PsOk ps) (ro : RsOk ps rs) : ∀ r ∈ rs, okD 60 (ropeD r) = true := fun r hr =>
  okD_tupS (n := 59) (ss := [r.1, r.2.1, r.2.2]) fun s hs => by
    simp at hs
    rcases hs with rfl | rfl | rfl
    · exact nm_ok (ro.nm r hr)
    · exact nm_ok (po.nm _ (ro.e1 r hr))
    · exact nm_ok (po.nm _ (ro.e2 r hr))
section
variable {P : Program} {w : World} {K : PySem.W.Frag} {mg : Str → Option Value} {base : Heap} {f : Addr} {fd : FuncData} {C : Addr}
def S_St_init (C : Addr) : FSpec := fun ds μ P _ => ∃ (l : Addr) (j n : Nat) (pd rd : D) (ps : List Str) (rs : List Rope), ds = [.ref l, .int n, pd, rd] ∧ μ[j]? = some (l, .ins C []) ∧ itemsD pd = some (ps.map D.str) ∧ itemsD rd = some (rs.map ropeD) ∧
  StOk n ps rs ∧ P .non (μ.set j (l, .ins C (strucF n (sortS ps) (sortR rs))))
end
end VK
set_option Elab.async false
set_option linter.all false
set_option maxRecDepth 100000
set_option maxHeartbeats 4000000
namespace VK
open PySem PySem.Spec PyProof.Rows L2 VL
theorem _root_.VL.WA.imp {K : PySem.W.Frag} {Z : Wish} {t : TA} {δ : VL.Env} {μ : Store} {P P' : List D → Store → Prop} (h : WA K Z t δ μ P) (i : ∀ d μ', P d μ' → P' d μ') : WA K Z t δ μ P' :=
  fun σ F H Q s c k z => h σ F H Q s c (fun v d μ' F' H' p => k v d μ' F' H' (i d μ' p)) z
theorem fm_filter {α : Type} {p : α → Bool} {g : α → D} : ∀ {xs : List α}, xs.filterMap (fun r => if p r = true then some (g r) else none) = (xs.filter p).map g
  | [] => rfl
  | x :: xs => by
    have ih := fm_filter (p := p) (g := g) (xs := xs)
    rw [List.filterMap_cons, List.filter_cons]
    cases p x <;> simp [ih]
theorem ve_Structure {X : Cx} {Z : Wish} {δ : VL.Env} {μ : Store} {k j : Nat} {C : Addr} {e : Expr} {es : List Expr} {p pos : Pos} {P : D → Store → Prop} (c : Mak X.prog X.w X.K X.mg X.base k "Structure" C (S_St_init C) []) (fx : Fx X Z j)
    (h : VA X Z (e :: es) δ μ fun xs μ1 => ∃ (n : Nat) (pd rd : D) (ps : List Str) (rs : List Rope), xs = [.int n, pd, rd] ∧ itemsD pd = some (ps.map D.str) ∧ itemsD rd = some (rs.map ropeD) ∧ StOk n ps rs ∧ P (strucD C n (sortS ps) (sortR rs)) μ1)
    (hk : k + 1 ≤ j := by first | assumption | decide | omega) (hg : Gl X "Structure" := by rfl)
    (he : starEach (e :: es) X.env = (false, eval e X.env) :: starEach es X.env := by rfl) (hpl : (backTo pos (starEach es X.env)).any (·.1) = false := by rfl) :
    VE X Z (.Call (.Name "Structure" p) (e :: es) [] pos) δ μ P := by
  refine ve_frzI (ve_make c fx (WA.imp h fun xs μ1 ⟨n, pd, rd, ps, rs, ex, h1, h2, so, q⟩ l => ?_) hk hg (by decide) he hpl)
  subst ex
  refine ⟨l, μ1.length, n, pd, rd, ps, rs, rfl, at_end, h1, h2, so, rfl, μ1.length, l, C, _, rfl, at_set at_end, ?_⟩
  rw [set_end, del_end]
  exact q
section
variable {P : Program} {w : World} {K : PySem.W.Frag} {mg : Str → Option Value} {base : Heap} {f : Addr} {fd : FuncData} {C : Addr}
theorem fld_at {μ : Store} {fs : List (Str × D)} {x : Str} {d : D} (c : Cls K C) (n : NoAttr K C x) (h : fs.lookup x = some d) : FldD K μ (.ins C fs) x d := .inl ⟨C, fs, rfl, c, n, h⟩
theorem fld_atN {μ : Store} {fs : List (Str × D)} {x : Str} {xs : List D} (c : Cls K C) (n : NoAttr K C x) (h : fs.lookup x = some (.tupN xs)) : FldD K μ (.ins C fs) x (.tup xs) := .inr (.inr ⟨C, fs, xs, rfl, c, n, h, rfl⟩)
def S_St_names (C : Addr) : FSpec := fun ds μ P _ => ∃ (n : Nat) (ps : List Str) (rs : List Rope), ds = [strucD C n ps rs] ∧ rs.length ≤ 1000 ∧ P (.tup ((rs.map (·.1)).map D.str)) μ
def S_need_names (C : Addr) : FSpec := fun ds μ P _ => ∃ (n : Nat) (ps : List Str) (rs : List Rope) (d : D) (ss : List Str), ds = [strucD C n ps rs, d] ∧ itemsD d = some (ss.map D.str) ∧ StOk n ps rs ∧ ss.Nodup ∧ ss.length ≤ 1000 ∧ (∀ s ∈ ss, s ∈ rs.map (·.1)) ∧ P (.tup (ss.map D.str)) μ
def S_St_with_ropes (C : Addr) : FSpec := fun ds μ P _ => ∃ (n : Nat) (ps : List Str) (rs ts : List Rope) (d : D), ds = [strucD C n ps rs, d] ∧ itemsD d = some (ts.map ropeD) ∧ StOk n ps rs ∧ StOk n ps (rs ++ ts) ∧ P (strucD C n (sortS ps) (sortR (rs ++ ts))) μ
theorem rsOk_right {ps : List Str} {rs ts : List Rope} (o : RsOk ps (rs ++ ts)) : RsOk ps ts :=
  ⟨fun r hr => o.nm r (List.mem_append_right _ hr), by have := o.nd; rw [List.map_append] at this; exact (List.nodup_append.mp this).2.1, by have := o.hi; rw [List.length_append] at this; omega, fun r hr => o.e1 r (List.mem_append_right _ hr), fun r hr => o.e2 r (List.mem_append_right _ hr), fun r hr => o.ne r (List.mem_append_right _ hr)⟩
def S_St_without (C : Addr) : FSpec := fun ds μ P _ => ∃ (n : Nat) (ps : List Str) (rs : List Rope) (d : D) (ss : List Str), ds = [strucD C n ps rs, d] ∧ itemsD d = some (ss.map D.str) ∧ StOk n ps rs ∧ ss.Nodup ∧ ss.length ≤ 1000 ∧ (∀ s ∈ ss, s ∈ rs.map (·.1)) ∧
  P (strucD C n (sortS ps) (sortR (rs.filter fun r => !decide (r.1 ∈ ss)))) μ
theorem rsOk_filter {ps : List Str} {rs : List Rope} (p : Rope → Bool) (o : RsOk ps rs) : RsOk ps (rs.filter p) :=
  ⟨fun r hr => o.nm r (List.mem_filter.mp hr).1, o.nd.sublist ((List.filter_sublist).map _), Nat.le_trans (List.length_filter_le ..) o.hi, fun r hr => o.e1 r (List.mem_filter.mp hr).1, fun r hr => o.e2 r (List.mem_filter.mp hr).1, fun r hr => o.ne r (List.mem_filter.mp hr).1⟩
end
end VK
set_option Elab.async false
set_option linter.all false
set_option maxRecDepth 100000
set_option maxHeartbeats 4000000
namespace VK
open PySem PySem.Spec PyProof.Rows L2 VL
abbrev Gr := List (List Str)
def tupS (g : List Str) : D := .tup (g.map D.str)
def grD (G : Gr) : D := .tup (G.map tupS)
/-! ### plain lemmas -/
theorem eqvAll_strs : ∀ {ss ts : List Str}, PyData.eqvAll (toPys (ss.map D.str)) (toPys (ts.map D.str)) = decide (ss = ts)
  | [], [] => by simp [toPys, PyData.eqvAll]
  | [], _ :: _ => by simp [toPys, PyData.eqvAll]
  | _ :: _, [] => by simp [toPys, PyData.eqvAll]
  | s :: ss, t :: ts => by
    have ih := eqvAll_strs (ss := ss) (ts := ts)
    have e1 := eqv_str (s := s) (t := t)
    unfold eqv at e1
    simp only [List.map_cons, toPys, PyData.eqvAll]
    rw [ih, e1, Bool.eq_iff_iff]
    simp
theorem eqv_lstS {ss ts : List Str} : eqv (.lst (ss.map D.str)) (.lst (ts.map D.str)) = decide (ss = ts) := by
  unfold eqv
  rw [toPy, toPy, PyData.eqv]
  exact eqvAll_strs
theorem eqv_tupS {ss ts : List Str} : eqv (tupS ss) (tupS ts) = decide (ss = ts) := by
  unfold eqv tupS
  rw [toPy, toPy, PyData.eqv]
  exact eqvAll_strs
theorem lookK_nil {k : Key} : lookK ([] : List (Key × D)) k = none := rfl
theorem lookK_cons {k k' : Key} {v : D} {r : List (Key × D)} : lookK ((k', v) :: r) k = if k' = k then some v else lookK r k := by
  unfold lookK
  rw [List.find?_cons]
  by_cases e : k' = k
  · simp [e]
  · simp [e]
theorem lookK_app {k k' : Key} {v : D} : ∀ {r : List (Key × D)}, lookK (r ++ [(k', v)]) k = match lookK r k with
    | some u => some u
    | none => if k' = k then some v else none
  | [] => by rw [List.nil_append, lookK_cons, lookK_nil]
  | (g, u) :: r => by
    rw [List.cons_append, lookK_cons, lookK_cons]
    by_cases e : g = k
    · rw [if_pos e, if_pos e]
    · rw [if_neg e, if_neg e]; exact lookK_app
theorem lookK_map {k k' : Key} {v : D} : ∀ {r : List (Key × D)}, lookK (r.map fun kv => if kv.1 = k' then (kv.1, v) else kv) k = if k = k' then (lookK r k).map (fun _ => v) else lookK r k
  | [] => by simp [lookK]
  | (g, u) :: r => by
    have ih := lookK_map (k := k) (k' := k') (v := v) (r := r)
    rw [List.map_cons, lookK_cons]
    by_cases e : g = k'
    · rw [if_pos e, lookK_cons, ih]
      by_cases e2 : g = k
      · have : k = k' := e2.symm.trans e
        rw [if_pos e2, if_pos this, if_pos e2]; rfl
      · rw [if_neg e2, if_neg e2]
    · rw [if_neg e, lookK_cons, ih]
      by_cases e2 : g = k
      · have : k ≠ k' := fun h => e (e2.trans h)
        rw [if_pos e2, if_neg this, if_pos e2]
      · rw [if_neg e2, if_neg e2]
theorem lookK_any {k : Key} : ∀ {r : List (Key × D)}, (r.any fun kv => decide (kv.1 = k)) = (lookK r k).isSome
  | [] => rfl
  | (g, u) :: r => by
    rw [List.any_cons, lookK_cons, lookK_any (r := r)]
    by_cases e : g = k
    · simp [e]
    · simp [e]
theorem lookK_put {kvs : List (Key × D)} {k k' : Key} {v : D} : lookK (putKD kvs k v) k' = if k' = k then some v else lookK kvs k' := by
  unfold putKD
  rw [lookK_any]
  split
  · rename_i h
    rw [lookK_map]
    by_cases e : k' = k
    · subst e
      rw [if_pos rfl, if_pos rfl]
      cases q : lookK kvs k' with
      | none => rw [q] at h; cases h
      | some u => rfl
    · rw [if_neg e, if_neg e]
  · rename_i h
    rw [lookK_app]
    by_cases e : k' = k
    · subst e
      cases q : lookK kvs k' with
      | none => simp
      | some u => rw [q] at h; exact absurd rfl h
    · rw [if_neg e]
      cases q : lookK kvs k' with
      | none => simp [Ne.symm e]
      | some u => rfl
theorem lookK_fold : ∀ {ps kvs : List (Key × D)} {k : Key} {v : D}, (ps.map (·.1)).Nodup → (k, v) ∈ ps → lookK (dfold kvs ps) k = some v
  | p :: ps, kvs, k, v, nd, hm => by
    have keep : ∀ (qs kvs : List (Key × D)), k ∉ qs.map (·.1) → lookK (dfold kvs qs) k = lookK kvs k := by
      intro qs
      induction qs with
      | nil => intro kvs _; rfl
      | cons q qs ih =>
        intro kvs hn
        rw [List.map_cons] at hn
        show lookK (dfold (putKD kvs q.1 q.2) qs) k = _
        rw [ih _ (fun h => hn (List.mem_cons_of_mem _ h)), lookK_put, if_neg (fun e => hn (by rw [e]; exact List.mem_cons_self))]
    rw [List.map_cons] at nd
    obtain ⟨n1, n2⟩ := List.nodup_cons.mp nd
    show lookK (dfold (putKD kvs p.1 p.2) ps) k = _
    rcases List.mem_cons.mp hm with e | hm
    · subst e
      rw [keep ps _ n1, lookK_put, if_pos rfl]
    · exact lookK_fold n2 hm
/-! ### the dict of a grouping -/
def gpairs (G : Gr) : List (Key × D) := G.zipIdx.flatMap fun p => p.1.map fun s => (Sum.inr s, D.int (p.2 : Nat))
def gdict (G : Gr) : List (Key × D) := dfold [] (gpairs G)
/-- a grouping told in form -/
structure GrOk (ps : List Str) (G : Gr) : Prop where
  ne : ∀ g ∈ G, g ≠ []
  up : ∀ g ∈ G, ascS g = true
  nm : ∀ g ∈ G, ∀ s ∈ g, nameB s = true
  asc : ((G.zip (G.drop 1)).all fun p => ltv (tupS p.1) (tupS p.2)) = true
  all : sortS G.flatten = ps
  nd : G.flatten.Nodup
  lo : 1 ≤ G.length
  hi : G.flatten.length ≤ 12
theorem GrOk.len {ps : List Str} {G : Gr} (o : GrOk ps G) : G.length ≤ 12 := by
  have h1 : ∀ G : Gr, (∀ g ∈ G, g ≠ []) → G.length ≤ G.flatten.length := by
    intro G
    induction G with
    | nil => intro _; simp
    | cons g G ih =>
      intro h
      have h1 := ih fun g hg => h g (List.mem_cons_of_mem _ hg)
      have h2 : 1 ≤ g.length := by
        have := h g (List.mem_cons_self)
        cases g with
        | nil => exact absurd rfl this
        | cons _ _ => simp
      rw [List.flatten_cons, List.length_append, List.length_cons]
      omega
  exact Nat.le_trans (h1 G o.ne) o.hi
theorem GrOk.glen {ps : List Str} {G : Gr} (o : GrOk ps G) {g : List Str} (hg : g ∈ G) : g.length ≤ 12 := by
  have : g.length ≤ G.flatten.length := (List.sublist_flatten_of_mem hg).length_le
  exact Nat.le_trans this o.hi
theorem gpairs_keys : ∀ (G : Gr) (n : Nat), ((G.zipIdx n).flatMap fun p => p.1.map fun s => ((Sum.inr s, D.int (p.2 : Nat)) : Key × D)).map (·.1) = G.flatten.map Sum.inr
  | [], _ => rfl
  | g :: G, n => by
    rw [List.zipIdx_cons, List.flatMap_cons, List.map_append, gpairs_keys G (n + 1), List.flatten_cons, List.map_append, List.map_map]
    rfl
theorem gpairs_nd {ps : List Str} {G : Gr} (o : GrOk ps G) : ((gpairs G).map (·.1)).Nodup := by
  unfold gpairs
  rw [gpairs_keys]
  exact o.nd.map _ (fun a b h e => h (Sum.inr.inj e))
theorem gpairs_mem {G : Gr} {g : List Str} {i : Nat} {s : Str} (hg : G[i]? = some g) (hs : s ∈ g) : ((Sum.inr s, D.int (i : Nat)) : Key × D) ∈ gpairs G :=
  List.mem_flatMap.mpr ⟨(g, i), List.mem_zipIdx_iff_getElem?.mpr (by simpa using hg), List.mem_map.mpr ⟨s, hs, rfl⟩⟩
/-- the group of a piece -/
theorem gdict_at {ps : List Str} {G : Gr} (o : GrOk ps G) {g : List Str} {i : Nat} {s : Str} (hg : G[i]? = some g) (hs : s ∈ g) : lookK (gdict G) (.inr s) = some (.int (i : Nat)) :=
  lookK_fold (gpairs_nd o) (gpairs_mem hg hs)
def colI (G : Gr) (s : Str) : Int := match lookK (gdict G) (.inr s) with
  | some (.int i) => i
  | _ => -1
theorem gdict_some {ps : List Str} {G : Gr} (o : GrOk ps G) {s : Str} (hs : s ∈ G.flatten) : lookK (gdict G) (.inr s) = some (.int (colI G s)) := by
  obtain ⟨g, hg, hs⟩ := List.mem_flatten.mp hs
  obtain ⟨i, hi⟩ := List.mem_iff_getElem?.mp hg
  have := gdict_at o hi hs
  unfold colI
  rw [this]
/-- the ropes that cross, the surplus -/
def crossR (G : Gr) (rs : List Rope) : List Rope := rs.filter fun r => !decide (colI G r.2.1 = colI G r.2.2)
def surpG (n : Nat) (rs : List Rope) (G : Gr) : Int := ((crossR G rs).length : Nat) - gradeOf n * ((G.length : Nat) - 1)
theorem grOk_mem {ps : List Str} {G : Gr} (o : GrOk ps G) {s : Str} (hs : s ∈ ps) : s ∈ G.flatten := by
  rw [← o.all] at hs
  exact (sortS_perm _).mem_iff.mp hs
section
variable {P : Program} {w : World} {K : PySem.W.Frag} {mg : Str → Option Value} {base : Heap} {f : Addr} {fd : FuncData} {C : Addr}
def S_groups_by_piece : FSpec := fun ds μ P _ => ∃ (ps : List Str) (G : Gr), ds = [grD G] ∧ GrOk ps G ∧ P (.dct (gdict G)) μ
def S_crossing_in (C : Addr) : FSpec := fun ds μ P _ => ∃ (n : Nat) (ps : List Str) (rs : List Rope) (G : Gr), ds = [strucD C n ps rs, grD G] ∧ StOk n ps rs ∧ GrOk ps G ∧ P (.tup (((crossR G rs).map (·.1)).map D.str)) μ
theorem grade_small (n : Nat) : 1 ≤ gradeOf n ∧ gradeOf n ≤ 6 := by
  unfold gradeOf
  split
  · omega
  · split <;> omega
def S_surplus_in (C : Addr) : FSpec := fun ds μ P _ => ∃ (n : Nat) (ps : List Str) (rs : List Rope) (G : Gr), ds = [strucD C n ps rs, grD G] ∧ StOk n ps rs ∧ GrOk ps G ∧ P (.int (surpG n rs G)) μ
end
end VK
set_option Elab.async false
set_option linter.all false
set_option maxRecDepth 100000
set_option maxHeartbeats 4000000
namespace VK
open PySem PySem.Spec PyProof.Rows L2 VL
theorem inD_empty {G : Gr} (h : ∀ g ∈ G, g ≠ []) : inD (.tup []) (G.map tupS) = false := by
  unfold inD
  rw [List.any_map, List.any_eq_false]
  intro g hg
  have := eqv_tupS (ss := g) (ts := [])
  simp only [Function.comp_def]
  rw [show (D.tup []) = tupS [] from rfl, this]
  simpa using h g hg
theorem grOk_okD {ps : List Str} {G : Gr} (o : GrOk ps G) {n : Nat} : okDs (n + 1) (G.map tupS) = true := okDs_iff.mpr fun x hx => by
  obtain ⟨g, hg, rfl⟩ := List.mem_map.mp hx
  exact okD_tupS fun s hs => nm_ok (o.nm g hg s hs)
theorem fixD_str {ss : List Str} : fixDs (ss.map D.str) = ss.map D.str := by
  rw [fixDs_map, List.map_map]
  exact List.map_congr_left fun s _ => by simp [fixD]
theorem fixD_gr {G : Gr} : fixD (grD G) = grD G := by
  unfold grD
  rw [fixD, fixDs_map, List.map_map]
  congr 1
  exact List.map_congr_left fun g _ => by
    show fixD (tupS g) = tupS g
    unfold tupS
    rw [fixD, fixD_str]
theorem fxOk_gr {ps : List Str} {G : Gr} (o : GrOk ps G) {n : Nat} : fxOk (n + 2) (grD G) = true := by
  unfold grD
  rw [fxOk, Bool.and_eq_true, fxOks_iff]
  refine ⟨decide_eq_true (by rw [List.length_map]; exact Nat.le_trans o.len (by decide)), fun x hx => ?_⟩
  obtain ⟨g, hg, rfl⟩ := List.mem_map.mp hx
  unfold tupS
  rw [fxOk, Bool.and_eq_true, fxOks_iff]
  refine ⟨decide_eq_true (by rw [List.length_map]; exact Nat.le_trans (o.glen hg) (by decide)), fun x hx => ?_⟩
  obtain ⟨s, hs, rfl⟩ := List.mem_map.mp hx
  simp [fxOk]
section
variable {P : Program} {w : World} {K : PySem.W.Frag} {mg : Str → Option Value} {base : Heap} {f : Addr} {fd : FuncData} {C : Addr}
def S_is_grouping : FSpec := fun ds μ P _ => ∃ (ps : List Str) (G : Gr), ds = [.tup (ps.map D.str), grD G] ∧ PsOk ps ∧ GrOk ps G ∧ P (.bl true) μ
def S_grouping_told (C : Addr) : FSpec := fun ds μ P _ => ∃ (n : Nat) (ps : List Str) (rs : List Rope) (G : Gr), ds = [strucD C n ps rs, grD G] ∧ PsOk ps ∧ GrOk ps G ∧ P (grD G) μ
def S_surplus (C : Addr) : FSpec := fun ds μ P _ => ∃ (n : Nat) (ps : List Str) (rs : List Rope) (G : Gr), ds = [strucD C n ps rs, grD G] ∧ StOk n ps rs ∧ GrOk ps G ∧ P (.int (surpG n rs G)) μ
end
end VK
set_option Elab.async false
set_option linter.all false
set_option maxRecDepth 100000
set_option maxHeartbeats 4000000
namespace VK
open PySem PySem.Spec PyProof.Rows L2 VL NdefX
/-- a class of papers -/
structure PapF (K : PySem.W.Frag) (C : Addr) : Prop where
  c : Cls K C
  word : NoAttr K C "word"
  parts : NoAttr K C "parts"
section
variable {P : Program} {w : World} {K : PySem.W.Frag} {mg : Str → Option Value} {base : Heap} {f : Addr} {fd : FuncData} {C : Addr}
abbrev s_Paper_init : Stmt := mth 2 0
def S_Paper (C : Addr) (n : Nat) : FSpec := fun ds μ P _ => ∃ (l : Addr) (j : Nat) (x : Str) (rest : List D), ds = [.ref l, .str x, .tup rest] ∧ μ[j]? = some (l, .ins C []) ∧ rest.length ≤ 1000 ∧ (∀ d ∈ rest, fxOk n d = true) ∧
  P .non (μ.set j (l, .ins C [("word", .str x), ("parts", .tup (rest.map fixD))]))
theorem sc_Paper_init : FnScope ["self", "word", "parts"] ["self", "word", "parts"] (defScope s_Paper_init) := ⟨rfl, rfl, rfl, by decide +kernel, rfl, by decide +kernel, by decide +kernel⟩
theorem ok_Paper_init (F : FnQ K "__init__" "Paper.__init__" s_Paper_init [] f fd) (p : PapF K C) {n : Nat} (c_fixed : Cal P w K mg base (n + 2) "fixed" (S_fixed (n + 1)) []) : FnR P w K mg base (L2.CX P w) (n + 3) f (spOf K (starS 2 (S_Paper C n))) := by
  refine fn_starD (N := ["self", "word", "parts"]) (ps := ["self", "word"]) (pv := "parts") F sc_Paper_init (fun kV doc pm an cdv ct => StX.bind_star2 (B := fun us => bindArgs (PySem.W.fnOf "__init__" "Paper.__init__" (defArgs s_Paper_init) (defBody s_Paper_init) (defScope s_Paper_init) .none kV doc pm an cdv ct) ⟨us, []⟩) (fun _ _ => rfl) (fun _ _ _ _ => rfl)) fun cdv A outer s H E ds μ Q R => ?_
  intro X fx ow h
  obtain ⟨l, j, x, rest, rfl, hj, hl, hx, q⟩ := h
  refine vss_cons ?_
  refine vs_fld ?_
  refine ve_name 1 ?_ -- word
  refine ve_name 0 ?_ -- self
  refine ⟨_, _, _, _, rfl, hj, p.c, p.word, by decide, ?_⟩
  refine vss_one ?_
  refine vs_fld ?_
  refine ve_call c_fixed fx ?_
  refine va_cons ?_
  refine ve_name 2 ?_ -- parts
  refine va_nil ?_
  refine ⟨_, rfl, by rw [fxOk, Bool.and_eq_true, fxOks_iff]; exact ⟨decide_eq_true hl, hx⟩, ?_⟩
  refine ve_name 0 ?_ -- self
  refine ⟨_, _, _, _, rfl, at_set hj, p.c, p.parts, (by (repeat refine putD_lt ?_); decide), ?_⟩
  rw [set_set', fixD, fixDs_map]
  exact ⟨_, List.Sublist.refl _, q⟩
def worstF (least : Int) (G : Gr) : List (Str × D) := [("word", .str "worst"), ("parts", .tup [.int least, grD G]), ("surplus", .int least), ("grouping", grD G)]
def worstD (C : Addr) (least : Int) (G : Gr) : D := .ins C (worstF least G)
def S_Worst (C : Addr) : FSpec := fun ds μ P _ => ∃ (l : Addr) (j : Nat) (least : Int) (G : Gr), ds = [.ref l, .int least, grD G] ∧ μ[j]? = some (l, .ins C []) ∧ fxOk 2 (grD G) = true ∧ P .non (μ.set j (l, .ins C (worstF least G)))
structure WorF (K : PySem.W.Frag) (mg : Str → Option Value) (C : Addr) : Prop where
  cls : ClsF K mg "Worst" C
  pap : PapF K C
  surplus : NoAttr K C "surplus"
  grouping : NoAttr K C "grouping"
def nfOf (q : Str) (st : Stmt) (cc c : Addr) : NF := ⟨"__init__", q, defArgs st, defBody st, defScope st, [(("__class__" : Str), cc)], c⟩
theorem fld_mu {μ : Store} {C l : Addr} {j : Nat} {fs : List (Str × D)} {x : Str} {d : D} (hj : μ[j]? = some (l, .ins C fs)) (c : Cls K C) (n : NoAttr K C x) (h : fs.lookup x = some d) : FldD K μ (.ref l) x d := .inr (.inl ⟨j, l, C, fs, rfl, hj, c, n, h⟩)
end
end VK
/-! KP: plain: subsets as numbers, canonical partitions, the best one. -/
namespace VK
/-- a is a part of b -/
def sub (a b : Nat) : Prop := a &&& b = a
theorem sub_refl (a : Nat) : sub a a := Nat.and_self a
theorem sub_zero (a : Nat) : sub 0 a := Nat.zero_and a
theorem sub_le {a b : Nat} (h : sub a b) : a ≤ b := by
  have : a &&& b ≤ b := Nat.and_le_right
  rw [show a &&& b = a from h] at this
  exact this
theorem sub_bit {a b : Nat} (h : sub a b) (i : Nat) (ha : a.testBit i = true) : b.testBit i = true := by
  have : (a &&& b).testBit i = true := by rw [show a &&& b = a from h]; exact ha
  rw [Nat.testBit_and, Bool.and_eq_true] at this
  exact this.2
theorem sub_of_bit {a b : Nat} (h : ∀ i, a.testBit i = true → b.testBit i = true) : sub a b := by
  refine Nat.eq_of_testBit_eq fun i => ?_
  rw [Nat.testBit_and]
  cases e : a.testBit i with
  | false => rfl
  | true => rw [h i e]; rfl
theorem and_sub (a b : Nat) : sub (a &&& b) b := by
  refine sub_of_bit fun i h => ?_
  rw [Nat.testBit_and, Bool.and_eq_true] at h
  exact h.2
theorem sub_half {a b : Nat} (h : sub a b) : sub (a / 2) (b / 2) := sub_of_bit fun i hi => by
  rw [Nat.testBit_div_two] at hi ⊢
  exact sub_bit h _ hi
theorem and_half (a b : Nat) : (a &&& b) / 2 = (a / 2) &&& (b / 2) := by
  refine Nat.eq_of_testBit_eq fun i => ?_
  rw [Nat.testBit_div_two, Nat.testBit_and, Nat.testBit_and, Nat.testBit_div_two, Nat.testBit_div_two]
theorem and_mod2 (a b : Nat) : (a &&& b) % 2 = (a % 2) * (b % 2) := by
  have h0 : ∀ n : Nat, n % 2 = if n.testBit 0 = true then 1 else 0 := fun n => by
    rw [Nat.testBit_zero]
    have := Nat.mod_two_eq_zero_or_one n
    rcases this with e | e <;> rw [e] <;> simp
  rw [h0, h0 a, h0 b, Nat.testBit_and]
  cases a.testBit 0 <;> cases b.testBit 0 <;> rfl
theorem sub_mod2 {a b : Nat} (h : sub a b) : a % 2 ≤ b % 2 := by
  have e := and_mod2 a b
  rw [show a &&& b = a from h] at e
  rcases Nat.mod_two_eq_zero_or_one a with e1 | e1 <;> rcases Nat.mod_two_eq_zero_or_one b with e2 | e2 <;> simp [e1, e2] at e ⊢
/-- the next part below s -/
theorem next_below : ∀ (s b t : Nat), sub s b → sub t b → t < s → t ≤ (s - 1) &&& b := by
  intro s
  induction s using Nat.strongRecOn with
  | ind s ih =>
    intro b t hs ht hlt
    have e1 := Nat.div_add_mod ((s - 1) &&& b) 2
    rw [and_half, and_mod2] at e1
    have hs2 := sub_half hs
    have ht2 := sub_half ht
    rcases Nat.mod_two_eq_zero_or_one s with e | e
    · have h1 : (s - 1) / 2 = s / 2 - 1 := by omega
      have h2 : (s - 1) % 2 = 1 := by omega
      rw [h1, h2, Nat.one_mul] at e1
      have hm := sub_mod2 ht
      by_cases hq : t / 2 < s / 2
      · have := ih (s / 2) (by omega) (b / 2) (t / 2) hs2 ht2 hq
        omega
      · omega
    · have h1 : (s - 1) / 2 = s / 2 := by omega
      have h2 : (s - 1) % 2 = 0 := by omega
      rw [h1, h2, Nat.zero_mul, show s / 2 &&& b / 2 = s / 2 from hs2] at e1
      omega
theorem next_lt {s b : Nat} (h : 0 < s) : (s - 1) &&& b < s := Nat.lt_of_le_of_lt Nat.and_le_left (by omega)
theorem diff_bit : ∀ (i a b : Nat), sub a b → (b - a).testBit i = (b.testBit i && !a.testBit i)
  | 0, a, b, h => by
    have h1 := sub_mod2 h
    have h2 := sub_le (sub_half h)
    rw [Nat.testBit_zero, Nat.testBit_zero, Nat.testBit_zero]
    rcases Nat.mod_two_eq_zero_or_one a with e1 | e1 <;> rcases Nat.mod_two_eq_zero_or_one b with e2 | e2
    · rw [show (b - a) % 2 = 0 by omega, e1, e2]; rfl
    · rw [show (b - a) % 2 = 1 by omega, e1, e2]; rfl
    · omega
    · rw [show (b - a) % 2 = 0 by omega, e1, e2]; rfl
  | i + 1, a, b, h => by
    have h1 := sub_mod2 h
    have h2 := sub_le (sub_half h)
    rw [Nat.testBit_succ, Nat.testBit_succ, Nat.testBit_succ, show (b - a) / 2 = b / 2 - a / 2 by omega]
    exact diff_bit i _ _ (sub_half h)
theorem sub_diff {a b : Nat} (h : sub a b) : sub (b - a) b := sub_of_bit fun i hi => by
  rw [diff_bit i a b h, Bool.and_eq_true] at hi
  exact hi.1
/-! ### partitions -/
/-- lot parted, the first group with the top bit -/
inductive PartL : Nat → List Nat → Prop
  | nil : PartL 0 []
  | cons {k rest s : Nat} {gs : List Nat} : rest < 2 ^ k → sub s rest → PartL (rest - s) gs → PartL (2 ^ k + rest) ((2 ^ k + s) :: gs)
theorem top_uniq {k k' r r' : Nat} (h : 2 ^ k + r = 2 ^ k' + r') (hr : r < 2 ^ k) (hr' : r' < 2 ^ k') : k = k' ∧ r = r' := by
  have key : k = k' := by
    rcases Nat.lt_trichotomy k k' with l | l | l
    · have : 2 ^ (k + 1) ≤ 2 ^ k' := Nat.pow_le_pow_right (by decide) l
      rw [Nat.pow_succ] at this
      omega
    · exact l
    · have : 2 ^ (k' + 1) ≤ 2 ^ k := Nat.pow_le_pow_right (by decide) l
      rw [Nat.pow_succ] at this
      omega
  subst key
  exact ⟨rfl, by omega⟩
theorem PartL.inv {k rest : Nat} {gs : List Nat} (hr : rest < 2 ^ k) (h : PartL (2 ^ k + rest) gs) : ∃ s gs', gs = (2 ^ k + s) :: gs' ∧ sub s rest ∧ PartL (rest - s) gs' := by
  generalize e : 2 ^ k + rest = lot at h
  cases h with
  | nil => have := Nat.two_pow_pos k; omega
  | cons hr' hs hp =>
    obtain ⟨rfl, rfl⟩ := top_uniq e hr hr'
    exact ⟨_, _, rfl, hs, hp⟩
theorem PartL.zero {gs : List Nat} (h : PartL 0 gs) : gs = [] := by
  generalize e : 0 = lot at h
  cases h with
  | nil => rfl
  | @cons k _ _ _ hr hs hp => have := Nat.two_pow_pos k; omega
def gsum (gain : Nat → Int) : List Nat → Int
  | [] => 0
  | g :: gs => gain g + gsum gain gs
/-- v is the greatest sum of a partition of lot -/
structure IsBest (gain : Nat → Int) (lot : Nat) (v : Int) : Prop where
  ex : ∃ gs, PartL lot gs ∧ gsum gain gs = v
  ub : ∀ gs, PartL lot gs → gsum gain gs ≤ v
theorem IsBest.uniq {gain : Nat → Int} {lot : Nat} {v u : Int} (h : IsBest gain lot v) (h' : IsBest gain lot u) : v = u := by
  obtain ⟨gs, p, e⟩ := h.ex
  obtain ⟨gs', p', e'⟩ := h'.ex
  have := h.ub _ p'
  have := h'.ub _ p
  omega
theorem best_zero {gain : Nat → Int} : IsBest gain 0 0 := ⟨⟨[], .nil, rfl⟩, fun gs h => by rw [h.zero]; exact Int.le_refl _⟩
/-- the candidate s of the lot 2^k + rest gives t -/
def Cand (gain : Nat → Int) (k rest s : Nat) (t : Int) : Prop := ∃ v, IsBest gain (rest - s) v ∧ t = gain (2 ^ k + s) + v
/-- .. and g its first group, the greatest such -/
structure BestG (gain : Nat → Int) (lot : Nat) (v : Int) (g : Nat) : Prop where
  best : IsBest gain lot v
  grp : ∀ k rest, lot = 2 ^ k + rest → rest < 2 ^ k → ∃ s v', g = 2 ^ k + s ∧ sub s rest ∧ IsBest gain (rest - s) v' ∧ v = gain g + v'
  fst : ∀ k rest s, lot = 2 ^ k + rest → rest < 2 ^ k → g = 2 ^ k + s → ∀ s' t', sub s' rest → Cand gain k rest s' t' → s < s' → t' < v
theorem bestG_zero {gain : Nat → Int} : BestG gain 0 0 0 := ⟨best_zero, fun k rest e hr => by have := Nat.two_pow_pos k; omega, fun k rest s e hr => by have := Nat.two_pow_pos k; omega⟩
theorem Cand.uniq {gain : Nat → Int} {k rest s : Nat} {t u : Int} (h : Cand gain k rest s t) (h' : Cand gain k rest s u) : t = u := by
  obtain ⟨v, hv, rfl⟩ := h
  obtain ⟨v', hv', rfl⟩ := h'
  rw [hv.uniq hv']
theorem best_of {gain : Nat → Int} {k rest s : Nat} {t : Int} (hr : rest < 2 ^ k) (hs : sub s rest) (hc : Cand gain k rest s t) (hall : ∀ s', sub s' rest → ∃ t', Cand gain k rest s' t' ∧ t' ≤ t ∧ (s < s' → t' < t)) : BestG gain (2 ^ k + rest) t (2 ^ k + s) := by
  have hcc := hc
  obtain ⟨v, hv, rfl⟩ := hc
  refine ⟨⟨?_, fun gs hp => ?_⟩, fun k' rest' e hr' => ?_, fun k' rest' s2 e hr' eg s' t' h1 h2 h3 => ?_⟩
  · obtain ⟨gs, hp, e⟩ := hv.ex
    exact ⟨_, .cons hr hs hp, by rw [gsum, e]⟩
  · obtain ⟨s', gs', rfl, hs', hp'⟩ := hp.inv hr
    obtain ⟨t', ⟨v', hv', rfl⟩, hle, _⟩ := hall s' hs'
    have := hv'.ub _ hp'
    rw [gsum]
    omega
  · obtain ⟨rfl, rfl⟩ := top_uniq e hr hr'
    exact ⟨s, v, rfl, hs, hv, rfl⟩
  · obtain ⟨rfl, rfl⟩ := top_uniq e hr hr'
    have es : s2 = s := by omega
    subst es
    obtain ⟨t2, c2, _, l2⟩ := hall s' h1
    rw [h2.uniq c2]
    exact l2 h3
theorem BestG.same {gain : Nat → Int} {lot : Nat} {v v' : Int} {g g' : Nat} (h : BestG gain lot v g) (h' : BestG gain lot v' g') (h0 : lot ≠ 0) : g = g' := by
  have ev := h.best.uniq h'.best
  subst ev
  obtain ⟨k, rest, e, hr⟩ := VL.top_of (Nat.pos_of_ne_zero h0)
  obtain ⟨s, u, eg, hs, hu, e1⟩ := h.grp k rest e hr
  obtain ⟨s', u', eg', hs', hu', e1'⟩ := h'.grp k rest e hr
  rcases Nat.lt_trichotomy s s' with q | q | q
  · have := h.fst k rest s e hr eg s' v hs' ⟨u', hu', by rw [e1', eg']⟩ q
    omega
  · omega
  · have := h'.fst k rest s' e hr eg' s v hs ⟨u, hu, by rw [e1, eg]⟩ q
    omega
/-- the groups, one behind another -/
inductive ChainG (gain : Nat → Int) : Nat → List Nat → Prop
  | nil : ChainG gain 0 []
  | cons {lot g : Nat} {v : Int} {gs : List Nat} : lot ≠ 0 → BestG gain lot v g → ChainG gain (lot - g) gs → ChainG gain lot (g :: gs)
theorem ChainG.same {gain : Nat → Int} {lot : Nat} {gs gs' : List Nat} (h : ChainG gain lot gs) (h' : ChainG gain lot gs') : gs = gs' := by
  induction h generalizing gs' with
  | nil =>
    cases h' with
    | nil => rfl
    | cons h0 => exact absurd rfl h0
  | cons h0 hb _ ih =>
    cases h' with
    | nil => exact absurd rfl h0
    | cons h0' hb' hc' =>
      have e := hb.same hb' h0
      subst e
      rw [ih hc']
/-- the groups so far, and what is left -/
inductive PreG (gain : Nat → Int) (lot : Nat) : List Nat → Nat → Prop
  | nil : PreG gain lot [] lot
  | snoc {left g : Nat} {v : Int} {gs : List Nat} : PreG gain lot gs left → left ≠ 0 → BestG gain left v g → PreG gain lot (gs ++ [g]) (left - g)
theorem PreG.chain {gain : Nat → Int} {lot left : Nat} {gs : List Nat} (h : PreG gain lot gs left) : ∀ {hs : List Nat}, ChainG gain left hs → ChainG gain lot (gs ++ hs) := by
  induction h with
  | nil => exact fun c => c
  | snoc _ h0 hb ih => exact fun c => by rw [List.append_assoc]; exact ih (.cons h0 hb c)
end VK
set_option Elab.async false
set_option linter.all false
set_option maxRecDepth 100000
set_option maxHeartbeats 4000000
namespace VK
open PySem PySem.Spec PyProof.Rows L2 VL
/-- a list of different numbers below n is no longer than n -/
theorem nodup_below : ∀ (n : Nat) (l : List Nat), l.Nodup → (∀ x ∈ l, x < n) → l.length ≤ n
  | 0, l, _, h => by
    cases l with
    | nil => simp
    | cons x l => exact absurd (h x (List.mem_cons_self)) (by omega)
  | n + 1, l, nd, h => by
    have h1 := nodup_below n (l.erase n) (nd.erase n) fun x hx => by
      have h2 := (List.Nodup.mem_erase_iff nd).mp hx
      have := h x h2.2
      omega
    have h2 : l.length ≤ (l.erase n).length + 1 := by
      rw [List.length_erase]
      split <;> omega
    omega
structure PtF (K : PySem.W.Frag) (mg : Str → Option Value) (C : Addr) : Prop where
  cls : ClsF K mg "Parting" C
  structure_ : NoAttr K C "structure"
  many : NoAttr K C "many"
  whole : NoAttr K C "whole"
  inner : NoAttr K C "inner"
  best : NoAttr K C "best"
def ptF (S : D) (m : Nat) (inn : List Int) (lb : Addr) : List (Str × D) := [("structure", S), ("many", .int m), ("whole", .int ((2 ^ m - 1 : Nat) : Int)), ("inner", .lst (inn.map .int)), ("best", .ref lb)]
/-- what is remembered -/
structure MemoOk (gain : Nat → Int) (m : Nat) (kvs : List (Key × D)) : Prop where
  zero : lookK kvs (.inl 0) = some (.tup [.int 0, .int 0])
  ok : ∀ (lot : Nat) d, lookK kvs (.inl (lot : Int)) = some d → ∃ v g, d = .tup [.int v, .int (g : Nat)] ∧ BestG gain lot v g
  keys : ∃ ks : List Nat, kvs.map (·.1) = ks.map (fun k : Nat => (Sum.inl (k : Int) : Key)) ∧ ks.Nodup ∧ ∀ k ∈ ks, k < 2 ^ m
theorem MemoOk.len {gain : Nat → Int} {m : Nat} {kvs : List (Key × D)} (o : MemoOk gain m kvs) (hm : m ≤ 12) : kvs.length ≤ 1000000 := by
  obtain ⟨ks, e, nd, lt⟩ := o.keys
  have h1 := nodup_below _ ks nd lt
  have h2 := congrArg List.length e
  rw [List.length_map, List.length_map] at h2
  have h3 : 2 ^ m ≤ 2 ^ 12 := Nat.pow_le_pow_right (by decide) hm
  omega
theorem putKD_keys {kvs : List (Key × D)} {k : Key} {v : D} (h : lookK kvs k = none) : (putKD kvs k v).map (·.1) = kvs.map (·.1) ++ [k] := by
  unfold putKD
  rw [lookK_any, h]
  simp
theorem putKD_keys' {kvs : List (Key × D)} {k : Key} {v : D} (h : (lookK kvs k).isSome = true) : (putKD kvs k v).map (·.1) = kvs.map (·.1) := by
  unfold putKD
  rw [lookK_any, h]
  simp only [if_true, List.map_map]
  exact List.map_congr_left fun kv _ => by
    show (if kv.1 = k then (kv.1, v) else kv).1 = kv.1
    split <;> rfl
theorem lookK_none {kvs : List (Key × D)} {k : Key} (h : lookK kvs k = none) : k ∉ kvs.map (·.1) := fun hm => by
  obtain ⟨kv, h1, h2⟩ := List.mem_map.mp hm
  have := lookK_any (r := kvs) (k := k)
  rw [h] at this
  have h3 : (kvs.any fun kv => decide (kv.1 = k)) = true := List.any_eq_true.mpr ⟨kv, h1, decide_eq_true h2⟩
  rw [h3] at this
  cases this
theorem MemoOk.put {gain : Nat → Int} {m : Nat} {kvs : List (Key × D)} (o : MemoOk gain m kvs) {lot g : Nat} {v : Int} (hl : lot < 2 ^ m) (h0 : lot ≠ 0) (h : BestG gain lot v g) : MemoOk gain m (putKD kvs (.inl (lot : Int)) (.tup [.int v, .int (g : Nat)])) where
  zero := by
    rw [lookK_put, if_neg (fun e => h0 (by have := Sum.inl.inj e; omega))]
    exact o.zero
  ok := fun l d hd => by
    rw [lookK_put] at hd
    split at hd
    · rename_i e
      have e : l = lot := by have := Sum.inl.inj e; omega
      subst e
      cases hd
      exact ⟨v, g, rfl, h⟩
    · exact o.ok l d hd
  keys := by
    obtain ⟨ks, e, nd, lt⟩ := o.keys
    cases q : lookK kvs (.inl (lot : Int)) with
    | some u => exact ⟨ks, by rw [putKD_keys' (by rw [q]; rfl)]; exact e, nd, lt⟩
    | none =>
      have hn := lookK_none q
      refine ⟨ks ++ [lot], by rw [putKD_keys q, e]; simp, ?_, ?_⟩
      · refine List.nodup_append.mpr ⟨nd, by simp, fun a ha b hb e2 => ?_⟩
        simp at hb
        subst hb; subst e2
        rw [e] at hn
        exact hn (List.mem_map.mpr ⟨a, ha, rfl⟩)
      · intro k hk
        rcases List.mem_append.mp hk with hk | hk
        · exact lt k hk
        · simp at hk; subst hk; exact hl
abbrev gainOf (n : Nat) (inn : List Int) : Nat → Int := fun i => inn.getD i 0 + gradeOf n
section
variable {P : Program} {w : World} {K : PySem.W.Frag} {mg : Str → Option Value} {base : Heap} {f : Addr} {fd : FuncData} {C CS : Addr}
def S_part (C CS : Addr) (N : Nat) : FSpec := fun ds μ P _ => ∃ (l lb : Addr) (j jb n : Nat) (ps : List Str) (rs : List Rope) (inn : List Int) (kvs : List (Key × D)) (lot : Nat), ds = [.ref l, .int (lot : Nat)] ∧ μ[j]? = some (l, .ins C (ptF (strucD CS n ps rs) ps.length inn lb)) ∧
  μ[jb]? = some (lb, .dct kvs) ∧ j ≠ jb ∧ inn.length = 2 ^ ps.length ∧ ps.length ≤ 12 ∧ lot < 2 ^ N ∧ N ≤ ps.length ∧ MemoOk (gainOf n inn) ps.length kvs ∧
  ∀ kvs' v g, MemoOk (gainOf n inn) ps.length kvs' → BestG (gainOf n inn) lot v g → P (.tup [.int v, .int (g : Nat)]) (μ.set jb (lb, .dct kvs'))
def S_split (C CS : Addr) (N : Nat) : FSpec := fun ds μ P _ => ∃ (l lb : Addr) (j jb n : Nat) (ps : List Str) (rs : List Rope) (inn : List Int) (kvs : List (Key × D)) (k rest first : Nat), ds = [.ref l, .int ((2 ^ k + rest : Nat) : Int), .int ((2 ^ k : Nat) : Int), .int (first : Nat)] ∧
  μ[j]? = some (l, .ins C (ptF (strucD CS n ps rs) ps.length inn lb)) ∧ μ[jb]? = some (lb, .dct kvs) ∧ j ≠ jb ∧ inn.length = 2 ^ ps.length ∧ ps.length ≤ 12 ∧ rest < 2 ^ k ∧ k ≤ N ∧ N < ps.length ∧ sub first rest ∧ MemoOk (gainOf n inn) ps.length kvs ∧
  ∀ kvs' t s0, MemoOk (gainOf n inn) ps.length kvs' → (sub s0 rest ∧ s0 ≤ first) → Cand (gainOf n inn) k rest s0 t → (∀ s', sub s' rest → s' ≤ first → ∃ t', Cand (gainOf n inn) k rest s' t' ∧ t' ≤ t ∧ (s0 < s' → t' < t)) → P (.tup [.int t, .int ((2 ^ k + s0 : Nat) : Int)]) (μ.set jb (lb, .dct kvs'))
theorem at_set_ne {μ : Store} {j jb : Nat} {p q : Addr × MO} (h : μ[j]? = some p) (ne : j ≠ jb) : (μ.set jb q)[j]? = some p := by rw [List.getElem?_set_ne (Ne.symm ne)]; exact h
end
end VK
set_option Elab.async false
set_option linter.all false
set_option maxRecDepth 100000
set_option maxHeartbeats 4000000
namespace VK
open PySem PySem.Spec PyProof.Rows L2 VL
section
variable {P : Program} {w : World} {K : PySem.W.Frag} {mg : Str → Option Value} {base : Heap} {f f' : Addr} {fd fd' : FuncData} {C CS : Addr}
/-- a method by its promise -/
theorem met_mk {x q : Str} {st : Stmt} {ps : List Str} {k : Nat} {S : FSpec} {D0 : Addr} (cl : Cls K D0) (me : Meth K D0 x f) (F : FnQ K x q st [] f fd) (ok : FnOk P w K mg base (L2.CX P w) k f fd ps (spOf K S))
    (hb : ∀ (kV doc pm : Value) (an : Option Addr) (cdv ct : Value) (us : List Value), us.length = ps.length → bindArgs (PySem.W.fnOf x q (defArgs st) (defBody st) (defScope st) .none kV doc pm an cdv ct) ⟨us, []⟩ = pure (ps.zip us)) : Met P w K mg base k D0 x S [] := by
  obtain ⟨oc, od, dV, kV, doc, pm, an, cdv, ct, osl, rfl, lk, hcd, dfl, _⟩ := F.ex
  have e0 : dV = .none := by
    rcases dfl with ⟨_, e⟩ | ⟨ne, _⟩
    · exact e
    · exact absurd rfl ne
  subst e0
  exact ⟨f, _, ps, [], [], cl, me, ok, .all (fun us hl => hb kV doc pm an cdv ct us hl), .nil, fun _ => .nil⟩
end
end VK
set_option Elab.async false
set_option linter.all false
set_option maxRecDepth 100000
set_option maxHeartbeats 4000000
/-! KQ: plain: ropes within a lot, counted by the top piece. -/
namespace VK
open PySem VL
def ixOf (ps : List Str) (s : Str) : Nat := ps.idxOf s
def inB (ps : List Str) (lot : Nat) (r : Rope) : Bool := lot.testBit (ixOf ps r.2.1) && lot.testBit (ixOf ps r.2.2)
def inN (ps : List Str) (rs : List Rope) (lot : Nat) : Nat := rs.countP (inB ps lot)
def jix (ps : List Str) (r : Rope) : Nat := min (ixOf ps r.2.1) (ixOf ps r.2.2) * ps.length + max (ixOf ps r.2.1) (ixOf ps r.2.2)
def cntJ (ps : List Str) (rs : List Rope) (q : Nat) : Nat := rs.countP fun r => decide (jix ps r = q)
theorem ix_lt {ps : List Str} {s : Str} (h : s ∈ ps) : ixOf ps s < ps.length := List.idxOf_lt_length_of_mem h
theorem ix_at {ps : List Str} {s : Str} (h : s ∈ ps) : ps[ixOf ps s]? = some s := by
  rw [List.getElem?_eq_getElem (ix_lt h)]
  exact congrArg some (List.getElem_idxOf (ix_lt h))
theorem ix_inj {ps : List Str} {s t : Str} (hs : s ∈ ps) (ht : t ∈ ps) (h : ixOf ps s = ixOf ps t) : s = t := by
  have h1 := ix_at hs
  have h2 := ix_at ht
  rw [h, h2] at h1
  exact (Option.some.inj h1).symm
theorem jix_eq {ps : List Str} {r : Rope} {at_ top : Nat} (h1 : r.2.1 ∈ ps) (h2 : r.2.2 ∈ ps) (ht : top < ps.length) : jix ps r = at_ * ps.length + top ↔ min (ixOf ps r.2.1) (ixOf ps r.2.2) = at_ ∧ max (ixOf ps r.2.1) (ixOf ps r.2.2) = top := by
  have l1 := ix_lt h1
  have l2 := ix_lt h2
  unfold jix
  constructor
  · intro h
    have hm : max (ixOf ps r.2.1) (ixOf ps r.2.2) < ps.length := Nat.max_lt.mpr ⟨l1, l2⟩
    have d1 : (min (ixOf ps r.2.1) (ixOf ps r.2.2) * ps.length + max (ixOf ps r.2.1) (ixOf ps r.2.2)) / ps.length = min (ixOf ps r.2.1) (ixOf ps r.2.2) := by
      rw [Nat.mul_comm, Nat.mul_add_div (by omega), Nat.div_eq_of_lt hm, Nat.add_zero]
    have d2 : (at_ * ps.length + top) / ps.length = at_ := by
      rw [Nat.mul_comm, Nat.mul_add_div (by omega), Nat.div_eq_of_lt ht, Nat.add_zero]
    rw [h, d2] at d1
    refine ⟨d1.symm, ?_⟩
    rw [← d1] at h
    omega
  · rintro ⟨rfl, rfl⟩
    rfl
theorem sum_ind {Q : Prop} [Decidable Q] {c : Nat} : ∀ {L : List Nat}, L.Nodup → (L.map fun a => if c = a ∧ Q then 1 else 0).sum = if c ∈ L ∧ Q then 1 else 0
  | [], _ => by simp
  | a :: L, nd => by
    obtain ⟨n1, n2⟩ := List.nodup_cons.mp nd
    rw [List.map_cons, List.sum_cons, sum_ind n2]
    by_cases hq : Q
    · by_cases e : c = a
      · subst e
        simp [n1, hq]
      · simp [e, hq]
    · simp [hq]
theorem sum_add : ∀ {L : List Nat} {f g : Nat → Nat}, (L.map fun a => f a + g a).sum = (L.map f).sum + (L.map g).sum
  | [], _, _ => rfl
  | a :: L, f, g => by
    rw [List.map_cons, List.map_cons, List.map_cons, List.sum_cons, List.sum_cons, List.sum_cons, sum_add]
    omega
theorem bit_top {top rest i : Nat} (hr : rest < 2 ^ top) : (2 ^ top + rest).testBit i = (decide (top = i) || rest.testBit i) := by
  have h := Nat.two_pow_add_eq_or_of_lt hr 1
  rw [Nat.mul_one] at h
  rw [h, Nat.testBit_or, Nat.testBit_two_pow]
/-- one rope -/
theorem ind_top {a b top rest : Nat} (hr : rest < 2 ^ top) (hne : a ≠ b) : (if ((2 ^ top + rest).testBit a && (2 ^ top + rest).testBit b) = true then 1 else 0) = (if (rest.testBit a && rest.testBit b) = true then 1 else 0) + (if min a b ∈ (List.range top).filter (fun x => rest.testBit x) ∧ max a b = top then 1 else 0) := by
  simp only [bit_top hr, List.mem_filter, List.mem_range]
  have small : ∀ x, rest.testBit x = true → x < top := fun x hx => by
    rcases Nat.lt_or_ge x top with l | l
    · exact l
    · rw [Nat.testBit_lt_two_pow (Nat.lt_of_lt_of_le hr (Nat.pow_le_pow_right (by decide) l))] at hx
      cases hx
  by_cases ea : top = a
  · subst ea
    have hb : ¬ top = b := hne
    have ha0 : rest.testBit top = false := by
      cases e : rest.testBit top with
      | false => rfl
      | true => exact absurd (small _ e) (Nat.lt_irrefl _)
    cases hbb : rest.testBit b with
    | false =>
      have : ¬ ((min top b < top ∧ rest.testBit (min top b) = true) ∧ max top b = top) := by
        rintro ⟨⟨h1, h2⟩, h3⟩
        have : min top b = b := by omega
        rw [this, hbb] at h2; cases h2
      simp [ha0, hb, this]
    | true =>
      have l := small b hbb
      have : (min top b < top ∧ rest.testBit (min top b) = true) ∧ max top b = top := ⟨⟨by omega, by rw [show min top b = b by omega]; exact hbb⟩, by omega⟩
      simp [ha0, this]
  · by_cases eb : top = b
    · subst eb
      have ha0 : rest.testBit top = false := by
        cases e : rest.testBit top with
        | false => rfl
        | true => exact absurd (small _ e) (Nat.lt_irrefl _)
      cases hbb : rest.testBit a with
      | false =>
        have : ¬ ((min a top < top ∧ rest.testBit (min a top) = true) ∧ max a top = top) := by
          rintro ⟨⟨h1, h2⟩, h3⟩
          have : min a top = a := by omega
          rw [this, hbb] at h2; cases h2
        simp [ea, this]
      | true =>
        have l := small a hbb
        have : (min a top < top ∧ rest.testBit (min a top) = true) ∧ max a top = top := ⟨⟨by omega, by rw [show min a top = a by omega]; exact hbb⟩, by omega⟩
        simp [ha0, this]
    · have : ¬ ((min a b < top ∧ rest.testBit (min a b) = true) ∧ max a b = top) := by
        rintro ⟨⟨h1, h2⟩, h3⟩
        omega
      simp [ea, eb, this]
/-- a lot's ropes: those of the rest, those to the top piece -/
theorem inN_top {ps : List Str} {top rest : Nat} (hr : rest < 2 ^ top) (ht : top < ps.length) : ∀ (rs : List Rope), (∀ r ∈ rs, r.2.1 ∈ ps) → (∀ r ∈ rs, r.2.2 ∈ ps) → (∀ r ∈ rs, r.2.1 ≠ r.2.2) →
    inN ps rs (2 ^ top + rest) = inN ps rs rest + (((List.range top).filter fun x => rest.testBit x).map fun a => cntJ ps rs (a * ps.length + top)).sum
  | [], _, _, _ => by
    have : ∀ L : List Nat, (L.map fun a => cntJ ps [] (a * ps.length + top)).sum = 0 := by
      intro L
      induction L with
      | nil => rfl
      | cons a L ih => rw [List.map_cons, List.sum_cons, ih]; rfl
    rw [this]; rfl
  | r :: rs, h1, h2, h3 => by
    have ih := inN_top hr ht rs (fun r hr => h1 r (List.mem_cons_of_mem _ hr)) (fun r hr => h2 r (List.mem_cons_of_mem _ hr)) (fun r hr => h3 r (List.mem_cons_of_mem _ hr))
    have m1 := h1 r (List.mem_cons_self)
    have m2 := h2 r (List.mem_cons_self)
    have hne : ixOf ps r.2.1 ≠ ixOf ps r.2.2 := fun e => h3 r (List.mem_cons_self) (ix_inj m1 m2 e)
    have e1 : ∀ lot, inN ps (r :: rs) lot = inN ps rs lot + if inB ps lot r = true then 1 else 0 := fun lot => List.countP_cons
    have e2 : ∀ q, cntJ ps (r :: rs) q = cntJ ps rs q + if jix ps r = q then 1 else 0 := fun q => by
      have := List.countP_cons (p := fun r => decide (jix ps r = q)) (a := r) (l := rs)
      simp only [decide_eq_true_eq] at this
      exact this
    rw [e1, e1, ih]
    have e3 : (((List.range top).filter fun x => rest.testBit x).map fun a => cntJ ps (r :: rs) (a * ps.length + top)) = (((List.range top).filter fun x => rest.testBit x).map fun a => cntJ ps rs (a * ps.length + top) + if min (ixOf ps r.2.1) (ixOf ps r.2.2) = a ∧ max (ixOf ps r.2.1) (ixOf ps r.2.2) = top then 1 else 0) :=
      List.map_congr_left fun a _ => by
        rw [e2]
        congr 1
        simp only [jix_eq m1 m2 ht]
    rw [e3, sum_add, sum_ind (List.Pairwise.filter _ List.nodup_range)]
    have := ind_top (a := ixOf ps r.2.1) (b := ixOf ps r.2.2) hr hne
    unfold inB
    omega
theorem inN_zero {ps : List Str} {rs : List Rope} : inN ps rs 0 = 0 := by
  unfold inN
  rw [List.countP_eq_zero]
  intro r _
  unfold inB
  simp
end VK
set_option Elab.async false
set_option linter.all false
set_option maxRecDepth 100000
set_option maxHeartbeats 4000000
/-! VM1: a tuple target of a list; small sorts. -/
namespace VL
open PySem PySem.Spec PyProof.Rows L2
section
variable {X : Cx} {Z : Wish} {δ : Env} {μ : Store} {es : List Expr} {pos : Pos}
theorem wg_tupL {K : PySem.W.Frag} {n : Nat} {gs : TGs} {js : List Nat} {ds : List D} {P : Env → Store → Prop} (hn : ds.length = n) (h : WGs K Z gs js ds δ μ P) : WG K Z (gLst K n gs) js (.lst ds) δ μ P := fun v σ F H Q s c r k z => by
  obtain ⟨a, xs, rfl, e, rr⟩ := rep_ll r
  exact ⟨a, xs, rfl, sq_list c.ex e, by rw [rr.length]; exact hn, h xs σ F H Q s c rr k z⟩
theorem vg_tupL {js : List Nat} {ds : List D} {kk : Nat} {Q : Env → Store → Prop} (k : Kx X) (h : VGs X Z es js ds δ μ Q)
    (hn : (assignEach es X.env).length = ds.length := by rfl) (hst : (assignEach es X.env).findIdx? (·.1) = none := by rfl) : VG X Z (.Tuple es kk pos) js (.lst ds) δ μ Q := vg_of (pg_lst k.calm pgs_r hn hst) (wg_tupL rfl h)
end
theorem ltv_int {i j : Int} : ltv (.int i) (.int j) = decide (i < j) := by
  unfold ltv
  rw [toPy, toPy]
  exact PySem.W.dataLt_int i j
theorem sortD_two (x y : D) : sortD [x, y] = if ltv y x = true then [y, x] else [x, y] := by
  unfold sortD
  simp [List.mergeSort, List.merge]
  cases ltv y x <;> simp
theorem sortOk_ints {ns : List Int} : SortOk (ns.map D.int) where
  ok := fun x hx => by
    obtain ⟨s, hs, rfl⟩ := List.mem_map.mp hx
    simp [okD]
  al := fun x hx y hy => by
    obtain ⟨s, hs, rfl⟩ := List.mem_map.mp hx
    obtain ⟨t, ht, rfl⟩ := List.mem_map.mp hy
    rfl
  so := .inr fun x hx => by
    obtain ⟨s, hs, rfl⟩ := List.mem_map.mp hx
    exact ⟨fun e => by simp [toPy] at e, fun ys e => by simp [toPy] at e⟩
theorem rep_const {d : D} : ∀ n : Nat, (List.replicate n [d]).flatten = (List.range n).map fun _ => d
  | 0 => rfl
  | n + 1 => by
    rw [List.replicate_succ', List.flatten_append, rep_const n, List.range_succ, List.map_append]
    simp
theorem upto_zero (n : Nat) : upto 0 n = (List.range n).map fun i : Nat => D.int (i : Int) := by
  unfold upto
  exact List.map_congr_left fun i _ => by rw [Int.zero_add]
theorem shr_bit (r a : Nat) : decide (Builtin.bitAnd ((r : Int) / 2 ^ ((a : Nat) : Int).toNat) 1 = 1) = r.testBit a := by
  rw [bitAnd_m1, Int.toNat_natCast, Nat.testBit_eq_decide_div_mod_eq]
  have e : ((r : Int) / 2 ^ a) % 2 = ((r / 2 ^ a % 2 : Nat) : Int) := by push_cast; rfl
  rw [e]
  congr 1
  apply propext
  omega
end VL
set_option Elab.async false
set_option linter.all false
set_option maxRecDepth 100000
set_option maxHeartbeats 4000000
/-! VM2: a dict made in place for a local name. -/
namespace L2
open PySem PySem.Spec PyProof.Rows
section
variable {X : Cx}
/-- name = {..} on one line, the name a local -/
theorem ps_setDc {i : Nat} {y : Str} {py : Pos} {kx vx tg iter : Expr} {ifs : List Expr} {scope : Scope} {own : List (Str × Nat)} {pos spos : Pos} {wi : TI} {g : TG} {tt : TT} {tk tv : TE} (hc : X.calm = true) (hN : X.N.Nodup) (hy : X.N[i]? = some y) (hyl : X.env.scope.names.lookup y = some .local)
    (hsw : swapsWith (.DictComp kx vx [⟨tg, iter, ifs, 0⟩] scope pos) (some (.Name y py)) spos.line X.env = pure true) (hi : PI X tg iter wi) (ok : BlkOk X.N X.env.scope scope own)
    (hg : ∀ (s : Shared) (H : Hp) (C : Addr) (cl : List (Str × Addr)) (fp : List Addr), PG (X.blk s H scope (compEnvC scope cl C X.env) fp) tg g) (ht : ∀ (s : Shared) (H : Hp) (C : Addr) (cl : List (Str × Addr)) (fp : List Addr), PTs (X.blk s H scope (compEnvC scope cl C X.env) fp) ifs tt)
    (hk : ∀ (s : Shared) (H : Hp) (C : Addr) (cl : List (Str × Addr)) (fp : List Addr), PE (X.blk s H scope (compEnvC scope cl C X.env) fp) kx tk)
    (he : ∀ (s : Shared) (H : Hp) (C : Addr) (cl : List (Str × Addr)) (fp : List Addr), PE (X.blk s H scope (compEnvC scope cl C X.env) fp) vx tv) (hs : ∀ x, foldedSetIterable iter X.env x = pure x := by intro _; rfl) :
    PS X (.Assign [.Name y py] (.DictComp kx vx [⟨tg, iter, ifs, 0⟩] scope pos) spos) (tAsg (tDc wi g tt tk tv (own.map (·.2))) (gName i)) := by
  refine ⟨fun pins s σ H D I h => ?_⟩
  rw [exec_Assign_Name_used _ _ _ _ hsw]
  refine wpAny_bind (wpAny_standAt (wpAny_bind ?_))
  show wpAny _ X.A (do let _ ← comprehension (.DictComp kx vx [⟨tg, iter, ifs, 0⟩] scope pos) scope X.env (firstIterPos [⟨tg, iter, ifs, 0⟩] pos) newDict false (eval iter X.env) (some (assign (.Name y py) X.env))) _ _ s
  have h : tDc wi g tt tk tv (own.map (·.2)) σ H (fun x H1 => gName i x σ H1 D.nx) := h
  refine wpAny_bind (thn (dc_core (Qf := fun _ s' => SP X pins D .next s') hc hN I hi ok hg ht hk he hs h fun L C s' m H' I' q hn f => ?_) fun _ s' hq => wpAny_pure (wpAny_pure hq))
  show wpAny _ _ (assign (.Name y py) X.env (.ref L)) _ _ _
  refine wpAny_assign_Name (store_ok2 (v := V.ref L) I' hN hy (.inl hyl) rfl (fun s2 I2 ⟨a, sb, ha⟩ => ?_) (.inr hyl))
  obtain ⟨f0, f1, f2, f3, f4, f5⟩ := f
  have haC : C ≠ a := by
    rcases ha with z | z
    · rw [z]; exact f1
    · exact fun e => f4 y a z e.symm
  refine ⟨m, hn.sameBut sb haC, fun h3 sb3 => ?_⟩
  exact ⟨_, H', I2.turned (t' := s2.toks) (fun b o hb e => (sb3.2 b hb).trans e) f0 f1 f3 f4 f5, q⟩
end
end L2
namespace VL
open PySem PySem.Spec PyProof.Rows L2
section
variable {X : Cx} {Z : Wish} {δ : Env} {μ : Store} {tg iter kx vx : Expr} {ifs : List Expr} {pos p py : Pos} {y : Str}
theorem vs_setDcF {α : Type} (i : Nat) {sc : Scope} {js : List Nat} (own : List (Str × Nat)) {P : Fl → Store → Prop} (k : Kx X) (h : VI X Z tg iter δ μ fun ds μ1 => ∃ (as : List α) (g : α → D) (fn : α → Option (Key × D)), ds = as.map g ∧ as.length ≤ 100000 ∧
      (∀ a ∈ as, ∀ q, VG (bk X sc q) Wish.no tg js (g a) (wipeD δ (own.map (·.2))) μ1 fun δ2 μ2 => ∀ q, VIf (bk X sc q) Wish.no ifs δ2 μ2 fun b μ3 => if b = true then ∀ q, VE (bk X sc q) Wish.no kx δ2 μ3 fun y μ4 => ∀ q, VE (bk X sc q) Wish.no vx δ2 μ4 fun z μ5 => ∃ k, keyD y = some k ∧ fn a = some (k, z) ∧ μ5 = μ1 else fn a = none ∧ μ3 = μ1) ∧ P (.nx ((δ : List (Option D)).set i (some (.dct (dfold [] (as.filterMap fn)))))) μ1)
    (hi : (X.N : List Str)[i]? = some y := by rfl) (hyl : X.env.scope.names.lookup y = some .local := by rfl)
    (hsw : swapsWith (.DictComp kx vx [⟨tg, iter, ifs, 0⟩] sc p) (some (.Name y py)) pos.line X.env = pure true := by rfl)
    (ok : BlkOk X.N X.env.scope sc own := by exact blkOk_by (by kernel_rfl)) (hj : ∀ i ∈ js, i ∈ own.map (·.2) := by decide) (hs : ∀ x, foldedSetIterable iter X.env x = pure x := by intro _; rfl) :
    VS X Z (.Assign [.Name y py] (.DictComp kx vx [⟨tg, iter, ifs, 0⟩] sc p) pos) δ μ P := by
  refine vs_of (ps_setDc (g := bG X sc tg) (tt := bT X sc ifs) (tk := bE X sc kx) (tv := bE X sc vx) k.calm k.nd hi hyl hsw pi_r ok (fun s H C cl fp => ⟨fun pins s' σ H' v u Q I r w => w ⟨s, H, C, cl, fp⟩ pins s' u I r⟩) (fun s H C cl fp => ⟨fun pins s' σ H' Q I w => w ⟨s, H, C, cl, fp⟩ pins s' I⟩) (fun s H C cl fp => ⟨fun pins s' σ H' Q I w => w ⟨s, H, C, cl, fp⟩ pins s' I⟩) (fun s H C cl fp => ⟨fun pins s' σ H' Q I w => w ⟨s, H, C, cl, fp⟩ pins s' I⟩) hs)
    (ws_asg (js := [i]) (WE.imp (we_dcF (P := fun d μ1 => P (.nx ((δ : List (Option D)).set i (some d))) μ1) hj (WI.imp h fun ds μ1 ⟨as, g, fn, e, hl, ht, q⟩ => ?_)) fun d μ1 q => wg_name q))
  subst e
  refine ⟨by rw [List.length_map]; exact hl, fun i => (as[i]?).bind fn, fun i d hi => ?_, by rw [List.length_map, range_fm]; exact q⟩
  rw [List.getElem?_map] at hi
  cases ha : as[i]? with
  | none => rw [ha] at hi; cases hi
  | some a =>
    rw [ha] at hi
    cases hi
    simp only [ha, Option.bind_some]
    refine WG.imp (wg_b (ht a (List.mem_of_getElem? ha))) fun δ2 μ2 h2 => WT.imp (wt_b h2) fun b μ3 h3 => ?_
    cases b with
    | false => exact h3
    | true => exact WE.imp (we_b h3) fun y μ4 h4 => WE.imp (we_b h4) fun z μ5 ⟨k, e1, e2, e3⟩ => ⟨k, e1, e2, e3⟩
end
end VL
set_option Elab.async false
set_option linter.all false
set_option maxRecDepth 100000
set_option maxHeartbeats 4000000
/-! VX: a head's hook with one test more, and one more reading of the fragment. -/
namespace He
open PySem PySem.Spec PyProof.Rows L2
/-! ### super().__init__ of a class -/
end He
set_option Elab.async false
set_option linter.all false
set_option maxRecDepth 100000
set_option maxHeartbeats 4000000
/-! VX2: what the test of super tells. -/
namespace He
open PySem PySem.Spec PyProof.Rows L2
theorem supB_ok {P : Program} {K : PySem.W.Frag} {mg : Str → Option Value} {x y qual : Str} {params : Arguments} {body : List Stmt} {scope : Scope} (h : supB P.main.file K x y qual = true)
    (e : supW K (fAd K (x, some "__init__")) = supV qual params body scope) (sup : mg "super" = none) (top : (P.main.scope.names.lookup ("super" : Str)).isSome = false) (cD : Cls K (ga K x)) :
    L2.SupF P K mg (fAd K (x, some "__init__")) ⟨"__init__", qual, params, body, scope, [(("__class__" : Str), clA K (fAd K (x, some "__init__")))], coA K (fAd K (x, some "__init__"))⟩ (ga K x) (fAd K (y, some "__init__")) (clA K (fAd K (x, some "__init__"))) := by
  unfold supB at h
  obtain ⟨h1, h⟩ := ba h
  obtain ⟨h2, h⟩ := ba h
  obtain ⟨h3, h⟩ := ba h
  obtain ⟨h4, h⟩ := ba h
  obtain ⟨h5, h⟩ := ba h
  obtain ⟨h6, h⟩ := ba h
  obtain ⟨h7, h⟩ := ba h
  obtain ⟨h8, h⟩ := ba h
  obtain ⟨h9, h10⟩ := ba h
  generalize hf : fAd K (x, some "__init__") = f at *
  generalize hcl : clA K f = cl at *
  generalize hco : coA K f = co at *
  refine { fn := ?_, cl := rfl, code := h2, crec := ?_, cell := ?_, cls := Option.isSome_iff_exists.mp h5, sub := of_decide_eq_true h6, sup := sup, top := top, opq := eqO_ok h7, up := eqO_ok h8, ty := of_decide_eq_true h9, fi := h10, cD := cD }
  · unfold supW supV at e
    cases q : K.lookup f with
    | none => rw [q] at e; cases e
    | some o =>
      obtain ⟨oc, od, dt, osl⟩ := o
      rw [q] at e h1
      cases dt with
      | func fd =>
        obtain ⟨a1, a2⟩ := ba h1
        have b1 := of_decide_eq_true a1
        have b2 := of_decide_eq_true a2
        clear a1 a2 h1 h
        cases fd
        simp only [Option.some.injEq, Prod.mk.injEq] at e b1 b2
        obtain ⟨rfl, rfl, rfl, rfl, rfl, rfl, rfl, rfl, rfl, rfl⟩ := e
        subst b1
        subst b2
        exact ⟨_, _, _, _, _, _, rfl⟩
      | _ => cases e
  · cases q : K.lookup co with
    | none => rw [q] at h3; cases h3
    | some o =>
      obtain ⟨oc, od, dt, osl⟩ := o
      rw [q] at h3
      cases dt with
      | fields vs =>
        cases q2 : (vs : Array Value)[2]? with
        | none => simp only [q2] at h3; cases h3
        | some v =>
          simp only [q2] at h3
          cases v with
          | str z t => exact ⟨_, _, _, _, _, _, rfl, q2, h3⟩
          | _ => cases h3
      | _ => cases h3
  · cases q : K.lookup cl with
    | none => rw [q] at h4; cases h4
    | some o =>
      obtain ⟨oc, od, dt, osl⟩ := o
      rw [q] at h4
      cases dt with
      | cell v =>
        cases v with
        | none => cases h4
        | some v =>
          cases v with
          | ref d =>
            have := of_decide_eq_true h4
            subst this
            exact ⟨_, _, _, rfl⟩
          | _ => cases h4
      | _ => cases h4
end He
set_option Elab.async false
set_option linter.all false
set_option maxRecDepth 100000
set_option maxHeartbeats 4000000
/-! VX3: a class that isinstance reads. -/
namespace He
open PySem PySem.Spec PyProof.Rows L2
theorem insB_ok {K : PySem.W.Frag} {x : Str} (h : insB K x = true) (c : Cls K (ga K x)) : VL.InsOk K (ga K x) ∧ PySem.W.kitOne K (.ref (ga K x)) (.ref (ga K x)) = some true := by
  unfold insB at h
  obtain ⟨h1, h⟩ := ba h
  obtain ⟨h2, h⟩ := ba h
  obtain ⟨h3, h⟩ := ba h
  obtain ⟨h4, h5⟩ := ba h
  exact ⟨⟨c, eqO_ok h1, of_decide_eq_true h2, of_decide_eq_true h3, of_decide_eq_true h4⟩, of_decide_eq_true h5⟩
end He
set_option Elab.async false
set_option linter.all false
set_option maxRecDepth 100000
set_option maxHeartbeats 4000000
/-! VN: == and != by an own __eq__, truth by an own __bool__. -/
namespace VL
open PySem PySem.Spec PyProof.Rows PySem.W L2
/-- what the text's class C has: an own ==, the object's != -/
structure EqF (K : PySem.W.Frag) (C f : Addr) : Prop where
  eq : PySem.W.findIn K (.ref C) "__eq__" = some (some (.ref f))
  fn : PySem.W.isFn K (.ref f) = true
  ne : PySem.W.findIn K (.ref C) "__ne__" = some (some (.builtin "object.__ne__"))
  sub : PySem.W.subIn K (.ref C) (.type "object") = some true
section
variable {prog : Program} {w : World} {A : Around} {E : Value → Shared → Prop} {s : Shared} {K : PySem.W.Frag} {x C L f : Addr} {h₀ : Heap} {m : Str → Option Value} {ox : Obj} {od : Option Obj} {name : Str} {b tb : Value}
theorem ifBoundB_K {M : Model} {id : String} {args : List Value} {Q : Option Value → Shared → Prop} (X : K.In s.heap) (I : InstAt s.heap x ox C od) (hs : findIn K (.ref C) name = some (some (.builtin id))) (hb : ∀ self, bindSpecial (.builtin id) self = pure (.builtin id, [self]))
    (h : wpAny M A (call (.builtin id) (.ref x :: args)) (fun v => Q (some v)) E s) : wpAny M A (callSpecialIfBound? (.ref x) name args) Q E s := by
  simp only [callSpecialIfBound?, bindSpecialIfBound?]
  refine wpAny_holding (wpAny_bind (wpAny_bind (wpAny_bind (I.type.here ((looks_findIn X hs).here ?_)))))
  refine wpAny_bind (wpAny_askSetting (wpAny_ite ?_))
  have fin : wpAny M A (call (.builtin id) ([.ref x] ++ args) >>= fun v => pure (some v)) Q E s := wpAny_bind (wpAny_mono h (fun v s' h' => wpAny_pure h') fun _ _ h' => h')
  split
  · refine wpAny_bind ?_
    rw [hb]
    exact wpAny_pure (wpAny_pure (by exact fin))
  · refine wpAny_tryCatch (wpAny_bind ?_)
    rw [hb]
    exact wpAny_pure (wpAny_pure (by exact fin))
theorem ne_entry {Q : Fin → Shared → Prop} (X : K.In s.heap) (I : InstAt s.heap x ox C od) (e : EqF K C f) (hu : A.units < cLine)
    (h : wpAny (model prog w) A (call (.ref f) [.ref x, b]) (fun v s' => ∃ r, v = .bool r ∧ Q (.done (.ret (.bool (!r)))) s') E s) : wpAny (model prog w) A (Builtin.«object.__ne__» ⟨[.ref x, b], []⟩) Q E s := by
  unfold Builtin.«object.__ne__»
  refine wpAny_bind (m := slotArgs "__ne__" 1 _) (wpAny_pure ?_)
  refine wpAny_bind (wpAny_cRoomFor hu ?_)
  refine wpAny_bind (m := callSpecialIfBound? (.ref x) (Str.ofString "__eq__") [b]) (ifBound_K X I e.eq e.fn (wpAny_mono h (fun v s' ⟨r, hv, q⟩ => ?_) fun _ _ z => z))
  subst hv
  exact wpAny_bind (wpAny_truthy_bool (wpAny_pure q))
theorem ne_K {Q : Value → Shared → Prop} (hu : A.units + 1 < cLine) (F : Fr h₀ L s.heap m) (X₀ : K.In h₀) (I : InstAt s.heap x ox C od) (hb : Looks (model prog w) s.heap (typeOf b) tb) (hn : notFirst K C tb = true) (e : EqF K C f)
    (h : wpAny (model prog w) A.in1 (call (.ref f) [.ref x, b]) (fun v s' => ∃ r, v = .bool r ∧ Q (.bool (!r)) s') E s) : wpAny (model prog w) A (richCompare .NotEq (.ref x) b) Q E s := by
  have X := X₀.keeps F.keep
  have hi : Looks (model prog w) s.heap (isInstance (.ref x) (.type "object")) true := I.type.andThen (looks_subIn X e.sub)
  have one : wpAny (model prog w) A (tryCompare (.ref x) (cmpInfo .NotEq).2.1 b) (fun r s' => ∃ v, r = some v ∧ Q v s') E s := by
    unfold tryCompare
    refine wpAny_bind (ifBoundB_K X I e.ne PySem.F.cmp_object.ne.bind (wpAny_call (codeAny_call_builtin PySem.F.cmp_object.ne.plain PySem.F.cmpEntry_ne (PySem.W.check_slot PySem.F.cmpKind_ne PySem.F.cmpSplit_ne hi (PySem.F.cmpArgs_ne _ _) (ne_entry (A := A.in1) X I e hu (wpAny_mono h (fun v s' ⟨r, hv, q⟩ => ?_) fun _ _ z => z))))))
    subst hv
    exact ⟨_, rfl, wpAny_pure ⟨_, rfl, q⟩⟩
  unfold richCompare
  simp only [oneThing_ref]
  refine wpAny_holding (wpAny_bind (wpAny_cRoomFor (by omega) ?_))
  refine wpAny_bind (I.type.here (wpAny_bind (hb.here ?_)))
  split
  · rename_i q
    have e : subIn K tb (.ref C) = some false := by
      rcases Bool.or_eq_true_iff.mp hn with e | e
      · rw [beq_iff_eq.mp e] at q; simp at q
      · exact beq_iff_eq.mp e
    refine wpAny_bind ((looks_subIn X e).here ?_)
    simp only [Bool.false_eq_true, if_false]
    refine wpAny_bind (wpAny_mono one (fun r s' z => ?_) fun _ _ e => e)
    obtain ⟨v, rfl, hq⟩ := z
    exact wpAny_pure hq
  · refine wpAny_bind (wpAny_pure ?_)
    simp only [Bool.false_eq_true, if_false]
    refine wpAny_bind (wpAny_mono one (fun r s' z => ?_) fun _ _ e => e)
    obtain ⟨v, rfl, hq⟩ := z
    exact wpAny_pure hq
end
end VL
set_option Elab.async false
set_option linter.all false
set_option maxRecDepth 100000
set_option maxHeartbeats 4000000
/-! VG: promises for callers outside of any repr; repr of data; == and truth by values. -/
namespace VL
open PySem PySem.Spec PyProof.Rows L2
theorem WA.imp' {K : PySem.W.Frag} {Z : Wish} {δ : Env} {μ : Store} {t : TA} {P P' : List D → Store → Prop} (h : WA K Z t δ μ P) (i : ∀ d μ', P d μ' → P' d μ') : WA K Z t δ μ P' :=
  fun σ F H Q s c k z => h σ F H Q s c (fun v d μ' F' H' p => k v d μ' F' H' (i d μ' p)) z
/-- as FnOk, called where no repr is under way -/
structure FnG (P : Program) (w : World) (K : PySem.W.Frag) (mg : Str → Option Value) (base : Heap) (k : Nat) (f : Addr) (fd : FuncData) (ps : List Str) (sp : Sp) : Prop where
  ln : ∀ vs H Q E, sp vs H Q E → vs.length = ps.length
  go : ∀ (A : Around) (outer : List PySem.Env) (s : Shared) (H : Hp) (args : Args) (us : List Value) (vs : List V) (Q : VK) (E : XK), Room k A → A.guards = some [] → Env0 P w K mg base A outer s H → BindsTo s fd args (ps.zip us) → Vals vs us → sp vs H Q E → codeAny (model P w) A (.call (.ref f) args) (CR (L2.CX P w) outer P w H s Q E) s
theorem FnG.of {P : Program} {w : World} {K : PySem.W.Frag} {mg : Str → Option Value} {base : Heap} {k : Nat} {f : Addr} {fd : FuncData} {ps : List Str} {sp : Sp} (F : FnOk P w K mg base (L2.CX P w) k f fd ps sp) : FnG P w K mg base k f fd ps sp := ⟨F.len, fun A outer s H args us vs Q E r _ => F.run A outer s H args us vs Q E r⟩
section
variable {P : Program} {w : World} {K : PySem.W.Frag} {mg : Str → Option Value} {base : Heap} {x qual : Str} {params : Arguments} {body : List Stmt} {scope : Scope} {dvs : List V} {kws : List (Str × V)} {f : Addr} {fd : FuncData}
theorem fn_okG {N ps : List Str} {k : Nat} {S : FSpec} (F : FunD K x qual params body scope dvs kws f fd) (sc : FnScope N ps scope) (len : ∀ ds μ P R, S ds μ P R → ds.length = ps.length)
    (hb : ∀ (cdv : Value) (A : Around) (outer : List PySem.Env) (s : Shared) (H : Hp) (E : XK) (ds : List D) (μ : Store) (Q : D → Store → Prop) (R : Addr → List (Str × D) → Store → Prop),
      let X : Cx := cxOf (L2.CX P w) P w K mg base N qual scope f cdv A outer s H E
      Fx X ⟨E, R⟩ k → PassesOwn (model X.prog X.w) X.A X.env X.xe → X.A.guards = some [] → S ds μ Q R → VSs X ⟨E, R⟩ body (startD N ds) μ (retP Q)) :
    FnG P w K mg base (k + 1) f fd ps (spOf K S) := by
  obtain ⟨oc, od, dV, kV, doc, pm, an, cdv, ct, osl, rfl, lk, hcd, _, _⟩ := F.ex
  have hlen : ∀ vs H Q E, spOf K S vs H Q E → vs.length = ps.length := fun vs H Q E ⟨F, ds, μ, P, R, r, _, h, _⟩ => by rw [r.length]; exact len ds μ P R h
  refine ⟨hlen, fun A outer s H args us vs Q E hr hgd e0 hbd rv hsp => ?_⟩
  have nl := hlen _ _ _ _ hsp
  have kin : K.In s.heap := e0.mod.kin.keeps fun b o e => (e0.bs b o e).1
  have lim : s.heap.NoLimit := e0.mod.nolimit.keeps fun b o e => (e0.bs b o e).1
  have kinds : ∀ y ∈ ps.zip us, scope.names.lookup y.1 = some .local ∨ (scope.names.lookup y.1 = some .cell ∧ ((cellsFrom (s.heap.objs.size + 1) scope.names []).lookup y.1).isSome = true) := fun ⟨n, v⟩ hy =>
    (sc.par n (List.of_mem_zip hy).1).elim Or.inl fun q => Or.inr ⟨q, PySem.W.cellsFrom_some _ _ _ (.inl q)⟩
  refine codeAny_call_function hr.depth (kin _ _ lk) rfl sc.co sc.gen rfl (PySem.W.codeRec_of kin hcd) (hbd _ _ _ _ (wpAny_newFunctionEnv_cells sc.kind kinds fun env he s1 xx => ?_))
  subst he
  refine ⟨lim.keeps xx.toInCall.keep, codeAny_func ?_⟩
  obtain ⟨F0, ds, μ, P0, R, r, c, hS, hk, hz⟩ := hsp
  have hrd := hr.deeper (envOfC qual scope s.heap.objs.size f cdv)
  have ow := passes_of (X := cxOf (L2.CX P w) P w K mg base N qual scope f cdv A outer s H E) (K := fun e s'' => L2.CX P w outer H s E e s'') (E₁ := fun e' s'' => L2.CX P w outer H s E e' s'') rfl
  have tk : Takes (cxOf (L2.CX P w) P w K mg base N qual scope f cdv A outer s H E) (fun cls d _ H => E cls d H) := takes_of (E₁ := fun e' s'' => L2.CX P w outer H s E e' s'') rfl rfl rfl rfl
  have fx : Fx (cxOf (L2.CX P w) P w K mg base N qual scope f cdv A outer s H E) ⟨E, R⟩ k := ⟨⟨sc.nd, rfl, by have := hrd.un; show (A.deeper _).units + 70 < _; omega⟩, hrd, passes_call tk fun _ _ _ _ h => h⟩
  have I : Inv (cxOf (L2.CX P w) P w K mg base N qual scope f cdv A outer s H E) [] (L2.start N vs) H s1 := inv_start sc hr.hd e0 nl rv xx
  have sl : Slots K F0 (L2.start N vs) (startD N ds) := by
    have := slots_start (N.length - ds.length) r
    unfold L2.start startD
    rw [r.length]; exact this
  have w1 := hb cdv A outer s H E ds μ P0 R fx ow hgd hS
  have w2 := w1 (L2.start N vs) F0 H { nx := fun _ H' => Q .non H', rt := Q } sl c ⟨fun σ' δ' μ' F' H' ⟨μ2, l, p⟩ m c' s' => hk _ _ _ _ _ p (m.less l) (c'.less l) .non, fun σ' δ' μ' F' H' p m c' s' => False.elim p, fun σ' δ' μ' F' H' p m c' s' => False.elim p, fun v d μ' F' H' ⟨μ2, l, p⟩ m c' r' => hk _ _ _ _ _ p (m.less l) (c'.less l) r'⟩ hz
  refine wpAny_mono (pss_r.run [] s1 (L2.start N vs) H _ I w2) (fun fl s' hs => ?_) fun e s' hs => hs
  cases fl with
  | ret u => obtain ⟨v, σ', H', J, r', q⟩ := hs; exact ⟨v, H', J.os, J.bare, J.base, J.hok, r', q⟩
  | next => obtain ⟨σ', H', J, q⟩ := hs; exact ⟨V.non, H', J.os, J.bare, J.base, J.hok, rfl, q⟩
  | brk => exact False.elim (let ⟨_, _, _, q⟩ := hs; q)
  | cont => exact False.elim (let ⟨_, _, _, q⟩ := hs; q)
end
/-! ### calls of such -/
structure CalG (P : Program) (w : World) (K : PySem.W.Frag) (mg : Str → Option Value) (base : Heap) (k : Nat) (x : Str) (S : FSpec) : Prop where
  ex : ∃ (f : Addr) (fd : FuncData) (ps : List Str), FnG P w K mg base k f fd ps (spOf K S) ∧ mg x = some (.ref f) ∧ PySem.W.keepIn K (.ref f) = true ∧ Binds K fd ps []
section
variable {X : Cx} {Z : Wish} {δ : Env} {μ : Store} {P : D → Store → Prop} {S : FSpec} {k j : Nat} {x : Str} {e : Expr} {es : List Expr} {p pos : Pos}
theorem pe_callG {f : Addr} {fd : FuncData} {ps : List Str} {sp : Sp} {E : XK} {t : TA} (F : FnG X.prog X.w X.K X.mg X.base k f fd ps sp) (hr : Room k X.A) (hgd : X.A.guards = some []) (hg : Gl X x) (hm : X.mg x = some (.ref f)) (hk : PySem.W.keepIn X.K (.ref f) = true) (hb : Binds X.K fd ps [])
    (hx : Passes (L2.CX X.prog X.w) X E) (ha : PA X (e :: es) t) (hdb : (x == ("__debug__" : Str)) = false) (he : starEach (e :: es) X.env = (false, eval e X.env) :: starEach es X.env) (hpl : (backTo pos (starEach es X.env)).any (·.1) = false) : PE X (.Call (.Name x p) (e :: es) [] pos) (tCall sp [] E t) := ⟨fun pins s σ H Q I h => by
  refine wpAny_Call_Name_kw (ld_glob I hg hm (PySem.W.callWith_K (h₀ := X.base) I.ok.mod.kin hk (thn (ha.run pos pins s σ H _ I h) fun us s1 ⟨vs, H1, I1, r, q⟩ => ⟨I1.kIn, ?_⟩) he hpl) hdb)
  have r2 : Vals (vs ++ []) (us ++ []) := r.append .nil
  refine wpAny_call (codeAny_mono (F.go X.A X.stack s1 H1 ⟨us, []⟩ (us ++ []) (vs ++ []) Q E hr hgd I1.env0 (hb s1 us I1.kIn (by rw [← r2.length]; exact F.ln _ _ _ _ q)) r2 q) fun r' s' hq => ?_)
  match r', hq with
  | .error e, hq => exact hx pins σ H1 s1 e s' I1 hq
  | .ok (.ret u), hq => exact I1.after hq
  | .ok .next, hq => exact hq.elim
  | .ok .brk, hq => exact hq.elim
  | .ok .cont, hq => exact hq.elim⟩
theorem ve_callG (c : CalG X.prog X.w X.K X.mg X.base k x S) (fx : Fx X Z j) (gd : X.A.guards = some []) (h : VA X Z (e :: es) δ μ fun xs μ1 => S xs μ1 P Z.R) (hk : k ≤ j := by first | assumption | decide | omega) (hg : Gl X x := by rfl)
    (hdb : (x == ("__debug__" : Str)) = false := by decide) (he : starEach (e :: es) X.env = (false, eval e X.env) :: starEach es X.env := by rfl) (hpl : (backTo pos (starEach es X.env)).any (·.1) = false := by rfl) : VE X Z (.Call (.Name x p) (e :: es) [] pos) δ μ P := by
  obtain ⟨f, fd, ps, F, hm, kp, b⟩ := c.ex
  exact ve_of (pe_callG F (fx.rm.mono hk) gd hg hm kp b fx.ps pa_r hdb he hpl) (we_call (fun _ => .nil) (WA.imp' h fun xs μ1 q => by rw [List.append_nil]; exact q))
end
/-! ### repr -/
def rRepr (K : PySem.W.Frag) : List V → Hp → VK → Prop := fun xs H Q => ∃ (x : V) (d : PyData), xs = [x] ∧ Dp K H x d ∧ d.showable = true ∧ d.hasDict = false ∧ d.shown.length ≤ sizeLine ∧ d.depth ≤ 64 ∧ Q (.str d.shown) H
theorem call_repr {X : Cx} (hu : X.A.units + 70 < cLine) (gd : X.A.guards = some []) : CallR X (.builtin "repr") (rRepr X.K) := fun pins s σ H xs us Q I r h => by
  obtain ⟨x, d, rfl, hd, h1, h2, h3, h4, q⟩ := h
  obtain ⟨u, rfl, ru⟩ := vals1 r
  obtain ⟨as, rd⟩ := Dp.reads I d x u hd ru
  have fin : ∀ {h' : Heap} {tk : Nat} {t : Tok}, (∀ b o, s.heap.get? b = some o → h'.get? b = some o) → EP X pins σ Q (.str d.shown t) { s with heap := h', toks := tk } := fun kp => ⟨.str d.shown, H, I.kept kp, ⟨_, rfl⟩, q⟩
  cases hd with
  | non => cases ru; exact PySem.P.repr_of_none (fin fun _ _ e => e)
  | bl b => cases ru; exact PySem.P.repr_of_bool (fin fun _ _ e => e)
  | int i =>
    obtain ⟨t, rfl⟩ := ru
    exact PySem.P.repr_of_int (of_decide_eq_true h1) (fin fun _ _ e => e)
  | str y =>
    obtain ⟨t, rfl⟩ := ru
    exact PySem.P.repr_of_str (fin fun _ _ e => e) h3
  | lst e r2 => cases ru; exact repr_of_reads' rd h1 (fun z => by rw [h2] at z; cases z) gd (by omega) (fun _ _ e => e) (fun h' u tk kp => fin kp) h3
  | tup e r2 => cases ru; exact repr_of_reads' rd h1 (fun z => by rw [h2] at z; cases z) gd (by omega) (fun _ _ e => e) (fun h' u tk kp => fin kp) h3
/-- the text of a deep value -/
def shownD (d : D) : Str := (toPy d).shown
end VL
set_option Elab.async false
set_option linter.all false
set_option maxRecDepth 100000
set_option maxHeartbeats 4000000
/-! VK2: calls with keywords; repr, own == and own truth by values; the law's end outside of any repr. -/
namespace VL
open PySem PySem.Spec PyProof.Rows L2
def pickL {α : Type} (ix : List Nat) (l : List α) : List α := ix.filterMap (l[·]?)
theorem vals_get : ∀ {vs : List V} {us : List Value} (i : Nat), Vals vs us → (vs[i]? = none ∧ us[i]? = none) ∨ ∃ v u, vs[i]? = some v ∧ us[i]? = some u ∧ RelV v u
  | _, _, _, .nil => .inl ⟨by simp, by simp⟩
  | _, _, 0, .cons r _ => .inr ⟨_, _, rfl, rfl, r⟩
  | _, _, i + 1, .cons _ rr => by simpa using vals_get i rr
theorem pick_vals {vs : List V} {us : List Value} (r : Vals vs us) : ∀ ix : List Nat, Vals (pickL ix vs) (pickL ix us)
  | [] => .nil
  | i :: ix => by
    unfold pickL
    rw [List.filterMap_cons, List.filterMap_cons]
    rcases vals_get i r with ⟨a, b⟩ | ⟨v, u, a, b, q⟩
    · rw [a, b]; exact pick_vals r ix
    · rw [a, b]; exact .cons q (pick_vals r ix)
theorem pick_reps {K : PySem.W.Frag} {F : Hp} {vs : List V} {ds : List D} (r : Reps K F vs ds) : ∀ ix : List Nat, Reps K F (pickL ix vs) (pickL ix ds)
  | [] => .nil
  | i :: ix => by
    unfold pickL
    rw [List.filterMap_cons, List.filterMap_cons]
    cases e : ds[i]? with
    | none =>
      have : vs[i]? = none := by rw [List.getElem?_eq_none_iff] at e ⊢; rw [r.length]; exact e
      rw [this]; exact pick_reps r ix
    | some x =>
      obtain ⟨u, e2, q⟩ := r.get e
      rw [e2]; exact .cons q (pick_reps r ix)
def rKs (X : Cx) : List Keyword → TA
  | [] => tNil
  | ⟨_, e, _⟩ :: r => tCons (rE X e) (rKs X r)
theorem pk_rs {X : Cx} : ∀ kws : List Keyword, PK X kws (rKs X kws)
  | [] => pk_nil
  | ⟨_, _, _⟩ :: r => pk_cons pe_r (pk_rs r)
abbrev VKw (X : Cx) (Z : Wish) (kws : List Keyword) (δ : Env) (μ : Store) (P : List D → Store → Prop) : Prop := WA X.K Z (rKs X kws) δ μ P
theorem vk_nil {X : Cx} {Z : Wish} {δ : Env} {μ : Store} {P : List D → Store → Prop} (p : P [] μ) : VKw X Z [] δ μ P := wa_nil p
theorem vk_cons {X : Cx} {Z : Wish} {δ : Env} {μ : Store} {nm : Option Str} {e : Expr} {kp : Pos} {r : List Keyword} {P : List D → Store → Prop} (h : VE X Z e δ μ fun x μ1 => VKw X Z r δ μ1 fun xs μ2 => P (x :: xs) μ2) : VKw X Z (⟨nm, e, kp⟩ :: r) δ μ P := wa_cons h
/-- a def called with n positional values and the keywords ks -/
structure CalK (P : Program) (w : World) (K : PySem.W.Frag) (mg : Str → Option Value) (base : Heap) (k : Nat) (x : Str) (S : FSpec) (n : Nat) (ks : List Str) (ix : List Nat) : Prop where
  ex : ∃ (f : Addr) (fd : FuncData) (ps : List Str), FnOk P w K mg base (L2.CX P w) k f fd ps (spOf K S) ∧ mg x = some (.ref f) ∧ PySem.W.keepIn K (.ref f) = true ∧
    ∀ (s : Shared) (us ws : List Value), us.length = n → ws.length = ks.length → BindsTo s fd ⟨us, ks.zip ws⟩ (ps.zip (pickL ix (us ++ ws)))
section
variable {X : Cx} {Z : Wish} {δ : Env} {μ : Store} {P : D → Store → Prop} {S : FSpec} {k j n : Nat} {ks : List Str} {ix : List Nat} {x : Str} {es : List Expr} {kws : List Keyword} {p pos : Pos}
theorem run_kw {f : Addr} {fd : FuncData} {ps : List Str} {sp : Sp} {E : XK} {pins : List (Addr × Obj)} {σ : L2.St} {H : Hp} {s : Shared} {Q : VK} {us ws : List Value} {vs zs : List V} (F : FnOk X.prog X.w X.K X.mg X.base (L2.CX X.prog X.w) k f fd ps sp) (hr : Room k X.A)
    (hb : BindsTo s fd ⟨us, ks.zip ws⟩ (ps.zip (pickL ix (us ++ ws)))) (hx : Passes (L2.CX X.prog X.w) X E) (I : Inv X pins σ H s) (r : Vals vs us) (rz : Vals zs ws) (h : sp (pickL ix (vs ++ zs)) H Q E) : wpAny (model X.prog X.w) X.A (call (.ref f) us (ks.zip ws)) (EP X pins σ Q) X.xe s := by
  refine wpAny_call (codeAny_mono (F.run X.A X.stack s H ⟨us, ks.zip ws⟩ (pickL ix (us ++ ws)) (pickL ix (vs ++ zs)) Q E hr I.env0 hb (pick_vals (r.append rz) ix) h) fun r' s' hq => ?_)
  match r', hq with
  | .error e, hq => exact hx pins σ H s e s' I hq
  | .ok (.ret u), hq => exact I.after hq
  | .ok .next, hq => exact hq.elim
  | .ok .brk, hq => exact hq.elim
  | .ok .cont, hq => exact hq.elim
def tCallKw (sp : Sp) (n m : Nat) (ix : List Nat) (E : XK) (t tk : TA) : TE := fun σ H Q => t σ H fun vs H1 => tk σ H1 fun zs H2 => vs.length = n ∧ zs.length = m ∧ sp (pickL ix (vs ++ zs)) H2 Q E
theorem pe_callKw {f : Addr} {fd : FuncData} {ps : List Str} {sp : Sp} {E : XK} {t tk : TA} (F : FnOk X.prog X.w X.K X.mg X.base (L2.CX X.prog X.w) k f fd ps sp) (hr : Room k X.A) (hg : Gl X x) (hm : X.mg x = some (.ref f)) (hk : PySem.W.keepIn X.K (.ref f) = true)
    (hb : ∀ (s : Shared) (us ws : List Value), us.length = n → ws.length = ks.length → BindsTo s fd ⟨us, ks.zip ws⟩ (ps.zip (pickL ix (us ++ ws)))) (hx : Passes (L2.CX X.prog X.w) X E) (ha : PA X es t) (hkw : PK X kws tk)
    (hall : (backToKw pos (keywordEach kws X.env)).all (·.1.isSome) = true) (hks : (backToKw pos (keywordEach kws X.env)).filterMap (·.1) = ks) (hdb : (x == ("__debug__" : Str)) = false)
    (he : ∀ e r, es = e :: r → starEach (e :: r) X.env = (false, eval e X.env) :: starEach r X.env) (hpl : ((backTo pos (starEach es X.env)).any (·.1) || (backToKw pos (keywordEach kws X.env)).any (·.1.isNone)) = false) (h0 : es = [] → t = tNil) : PE X (.Call (.Name x p) es kws pos) (tCallKw sp n ks.length ix E t tk) := ⟨fun pins s σ H Q I h => by
  have fin : ∀ (us : List Value) (vs : List V) (s1 : Shared) (H1 : Hp), Inv X pins σ H1 s1 → Vals vs us → tk σ H1 (fun zs H2 => vs.length = n ∧ zs.length = ks.length ∧ sp (pickL ix (vs ++ zs)) H2 Q E) →
      wpAny (model X.prog X.w) X.A (evalAll ((backToKw pos (keywordEach kws X.env)).map (·.2))) (fun ws s₂ => X.K.In s₂.heap ∧ wpAny (model X.prog X.w) X.A (call (.ref f) ([] ++ us) (((backToKw pos (keywordEach kws X.env)).filterMap (·.1)).zip ws)) (EP X pins σ Q) X.xe s₂) X.xe s1 :=
    fun us vs s1 H1 I1 r q => thn (hkw.run pos pins s1 σ H1 _ I1 q) fun ws s2 ⟨zs, H2, I2, rz, l1, l2, q2⟩ => ⟨I2.kIn, by rw [hks]; exact run_kw F hr (hb s2 us ws (by rw [← r.length]; exact l1) (by rw [← rz.length]; exact l2)) hx I2 r rz q2⟩
  refine wpAny_Call_Name_kw (ld_glob I hg hm ?_ hdb)
  cases es with
  | nil => rw [h0 rfl] at h; exact PySem.W.callWith_KW0 (h₀ := X.base) I.ok.mod.kin hk hall (fin [] [] s H I .nil h) hpl
  | cons e r => exact PySem.W.callWith_KW (h₀ := X.base) I.ok.mod.kin hk hall (thn (ha.run pos pins s σ H _ I h) fun us s1 ⟨vs, H1, I1, rv, q⟩ => fin us vs s1 H1 I1 rv q) hpl (he e r rfl)⟩
theorem we_callKw {t tk : TA} (hk : WA X.K Z t δ μ fun xs μ1 => xs.length = n ∧ WA X.K Z tk δ μ1 fun ys μ2 => ys.length = ks.length ∧ S (pickL ix (xs ++ ys)) μ2 P Z.R) : WE X.K Z (tCallKw (spOf X.K S) n ks.length ix Z.E t tk) δ μ P := fun σ F H Q s c k z =>
  hk σ F H _ s c (fun vs xs μ1 F1 H1 ⟨l1, p⟩ m1 c1 r1 => p σ F1 H1 _ (s.mono m1.up) c1 (fun zs ys μ2 F2 H2 ⟨l2, p2⟩ m2 c2 r2 => ⟨by rw [r1.length]; exact l1, by rw [r2.length]; exact l2, F2, pickL ix (xs ++ ys), μ2, P, Z.R, pick_reps ((r1.mono m2.up).app r2) ix, c2, p2, fun v d μ' F' H' q m3 c3 r3 => k v d μ' F' H' q ((m1.trans m2).trans m3) c3 r3, (z.mv m1).mv m2⟩) (z.mv m1)) z
theorem ve_callKw (c : CalK X.prog X.w X.K X.mg X.base k x S n ks ix) (fx : Fx X Z j) (h : VA X Z (e :: es) δ μ fun xs μ1 => xs.length = n ∧ VKw X Z kws δ μ1 fun ys μ2 => ys.length = ks.length ∧ S (pickL ix (xs ++ ys)) μ2 P Z.R) (hk : k ≤ j := by first | assumption | decide | omega) (hg : Gl X x := by rfl)
    (hdb : (x == ("__debug__" : Str)) = false := by decide) (hall : (backToKw pos (keywordEach kws X.env)).all (·.1.isSome) = true := by rfl) (hks : (backToKw pos (keywordEach kws X.env)).filterMap (·.1) = ks := by rfl)
    (he : starEach (e :: es) X.env = (false, eval e X.env) :: starEach es X.env := by rfl) (hpl : ((backTo pos (starEach (e :: es) X.env)).any (·.1) || (backToKw pos (keywordEach kws X.env)).any (·.1.isNone)) = false := by rfl) : VE X Z (.Call (.Name x p) (e :: es) kws pos) δ μ P := by
  obtain ⟨f, fd, ps, F, hm, kp, b⟩ := c.ex
  exact ve_of (pe_callKw F (fx.rm.mono hk) hg hm kp b fx.ps pa_r (pk_rs kws) hall hks hdb (fun _ _ z => by cases z; exact he) hpl (fun z => nomatch z)) (we_callKw h)
theorem ve_callKw0 (c : CalK X.prog X.w X.K X.mg X.base k x S 0 ks ix) (fx : Fx X Z j) (h : VKw X Z kws δ μ fun ys μ2 => ys.length = ks.length ∧ S (pickL ix ys) μ2 P Z.R) (hk : k ≤ j := by first | assumption | decide | omega) (hg : Gl X x := by rfl)
    (hdb : (x == ("__debug__" : Str)) = false := by decide) (hall : (backToKw pos (keywordEach kws X.env)).all (·.1.isSome) = true := by rfl) (hks : (backToKw pos (keywordEach kws X.env)).filterMap (·.1) = ks := by rfl)
    (hpl : ((backTo pos (starEach [] X.env)).any (·.1) || (backToKw pos (keywordEach kws X.env)).any (·.1.isNone)) = false := by rfl) : VE X Z (.Call (.Name x p) [] kws pos) δ μ P := by
  obtain ⟨f, fd, ps, F, hm, kp, b⟩ := c.ex
  exact ve_of (pe_callKw F (fx.rm.mono hk) hg hm kp b fx.ps (t := tNil) pa_nil (pk_rs kws) hall hks hdb (fun _ _ z => nomatch z) hpl (fun _ => rfl)) (we_callKw (wa_nil ⟨rfl, h⟩))
end
/-! ### repr -/
/-- what repr shows: depth at most n, weight at most W -/
inductive ReOk : Nat → Nat → D → Prop
  | non {n W : Nat} : ReOk n W .non
  | bl {n W : Nat} (b : Bool) : ReOk n W (.bl b)
  | int {n W : Nat} {i : Int} (h : i.natAbs < 10 ^ 12) (hw : 50 ≤ W) : ReOk n W (.int i)
  | str {n W : Nat} {s : Str} (h : PyData.strOk s = true) (hw : s.length ≤ W) : ReOk n W (.str s)
  | lst {n W B : Nat} {xs : List D} (h : ∀ x ∈ xs, ReOk n B x) (hw : xs.length * (B + 1) ≤ W) : ReOk (n + 1) W (.lst xs)
  | tup {n W B : Nat} {xs : List D} (h : ∀ x ∈ xs, ReOk n B x) (hw : xs.length * (B + 1) ≤ W) : ReOk (n + 1) W (.tup xs)
structure ReFacts (n W : Nat) (d : D) : Prop where
  ok : okD n d = true
  wt : (toPy d).weight ≤ W
  sh : (toPy d).showable = true
  nd : (toPy d).hasDict = false
  it : (toPy d).intsShort 13 = true
theorem ReFacts.all {n B : Nat} : ∀ {xs : List D}, (∀ x ∈ xs, ReFacts n B x) → okDs n xs = true ∧ PyData.weightAll (toPys xs) ≤ xs.length * (B + 1) ∧ PyData.showableAll (toPys xs) = true ∧ PyData.hasDictAll (toPys xs) = false ∧ PyData.intsShortAll 13 (toPys xs) = true
  | [], _ => by simp [okDs, toPys, PyData.weightAll, PyData.showableAll, PyData.hasDictAll, PyData.intsShortAll]
  | x :: xs, h => by
    obtain ⟨a1, a2, a3, a4, a5⟩ := ReFacts.all fun y hy => h y (List.mem_cons_of_mem _ hy)
    have f := h x List.mem_cons_self
    refine ⟨by rw [okDs, f.ok, a1]; rfl, ?_, by rw [toPys, PyData.showableAll, f.sh, a3]; rfl, by rw [toPys, PyData.hasDictAll, f.nd, a4]; rfl, by rw [toPys, PyData.intsShortAll, f.it, a5]; rfl⟩
    have := f.wt
    rw [toPys, PyData.weightAll, List.length_cons, Nat.add_mul, Nat.one_mul]
    omega
theorem ReOk.facts {n W : Nat} {d : D} (h : ReOk n W d) : ReFacts n W d := by
  induction h with
  | non => exact ⟨by simp [okD], by simp [toPy, PyData.weight], by simp [toPy, PyData.showable], by simp [toPy, PyData.hasDict], by simp [toPy, PyData.intsShort]⟩
  | bl b => exact ⟨by simp [okD], by simp [toPy, PyData.weight], by simp [toPy, PyData.showable], by simp [toPy, PyData.hasDict], by simp [toPy, PyData.intsShort]⟩
  | @int n W i h hw =>
    have l2 : i.natAbs.log2 < 40 := by
      rcases Nat.eq_zero_or_pos i.natAbs with e | e
      · rw [e]; decide
      · exact (Nat.log2_lt (by omega)).mpr (by omega)
    refine ⟨by simp [okD], ?_, by simp [toPy, PyData.showable]; omega, by simp [toPy, PyData.hasDict], ?_⟩
    · rw [toPy, PyData.weight]; split <;> omega
    · rw [toPy, PyData.intsShort]; exact decide_eq_true (PyData.shown_int_le h)
  | str h hw => exact ⟨by simp [okD, h], by rw [toPy, PyData.weight]; exact hw, by simp [toPy, PyData.showable], by simp [toPy, PyData.hasDict], by simp [toPy, PyData.intsShort]⟩
  | lst h hw ih =>
    obtain ⟨a1, a2, a3, a4, a5⟩ := ReFacts.all ih
    exact ⟨by rw [okD]; exact a1, by rw [toPy, PyData.weight]; omega, by rw [toPy, PyData.showable]; exact a3, by rw [toPy, PyData.hasDict]; exact a4, by rw [toPy, PyData.intsShort]; exact a5⟩
  | tup h hw ih =>
    obtain ⟨a1, a2, a3, a4, a5⟩ := ReFacts.all ih
    exact ⟨by rw [okD]; exact a1, by rw [toPy, PyData.weight]; omega, by rw [toPy, PyData.showable]; exact a3, by rw [toPy, PyData.hasDict]; exact a4, by rw [toPy, PyData.intsShort]; exact a5⟩
theorem wc_repr {K : PySem.W.Frag} {Z : Wish} {μ : Store} {d : D} {P : D → Store → Prop} (h : ReOk 60 1000000 d) (p : P (.str (shownD d)) μ) : WC K Z (rRepr K) [d] μ P :=
  wc_sc (w := .str (shownD d)) (fun F => .str _) (fun vs F H Q c r q => by
    obtain ⟨v, rfl, r'⟩ := reps1 r
    have f := h.facts
    obtain ⟨l1, l2⟩ := ok_lay f.ok
    have l3 := f.wt
    have lay : PyData.layable0 (toPy d) = true := by
      unfold PyData.layable0
      rw [l1, decide_eq_true (by omega : (toPy d).depth ≤ 64), decide_eq_true (by omega : (toPy d).weight ≤ 2 ^ 20)]; rfl
    exact ⟨v, toPy d, rfl, rep_dp c.ex r' f.ok, f.sh, f.nd, PyData.shown_fits_of_layable0 (by decide) (by decide) lay f.it, by omega, q⟩) p
/-- == and != of texts of any kind -/
theorem wop_eqS {K : PySem.W.Frag} {Z : Wish} {μ : Store} {i j : Str} {P : D → Store → Prop} (p : P (.bl (decide (i = j))) μ) : WOp K Z rEq (.str i) (.str j) μ P :=
  wop_sc (w := .bl (decide (i = j))) (fun F => .bl _) (fun v u F H Q c r1 r2 q => by cases r1; cases r2; exact ⟨rfl, by rw [show decide (V.str i = V.str j) = decide (i = j) by simp]; exact q⟩) p
theorem wop_neS {K : PySem.W.Frag} {Z : Wish} {μ : Store} {i j : Str} {P : D → Store → Prop} (p : P (.bl (!decide (i = j))) μ) : WOp K Z rNe (.str i) (.str j) μ P :=
  wop_sc (w := .bl (!decide (i = j))) (fun F => .bl _) (fun v u F H Q c r1 r2 q => by cases r1; cases r2; exact ⟨rfl, by rw [show decide (V.str i = V.str j) = decide (i = j) by simp]; exact q⟩) p
end VL
set_option Elab.async false
set_option linter.all false
set_option maxRecDepth 100000
set_option maxHeartbeats 4000000
/-! VEQ: own == and own truth by values; the law's end outside of any repr. -/
namespace VL
open PySem PySem.Spec PyProof.Rows L2
def rEqO (K : PySem.W.Frag) (C : Addr) (sp : Sp) (E : XK) (neg : Bool) : R2 := fun x y H Q => ∃ (a dx : Addr) (fs : List (Str × V)) (t : Value), x = .ref a ∧ H a = some (.ins C dx fs) ∧ TyX K H y t ∧ PySem.W.notFirst K C t = true ∧ sp [x, y] H (fun v H' => ∃ b, v = .bl b ∧ Q (.bl (b != neg)) H') E
section
variable {X : Cx} {C f : Addr} {fd : FuncData} {ps : List Str} {k : Nat} {sp : Sp} {E : XK}
/-- the own == is run in A -/
theorem run_eq {pins : List (Addr × Obj)} {σ : L2.St} {H : Hp} {s : Shared} {A : Around} {x y : V} {v u : Value} {Q' : VK} {R : Value → Shared → Prop} (F : FnOk X.prog X.w X.K X.mg X.base (L2.CX X.prog X.w) k f fd ps sp) (hb : Binds X.K fd ps []) (hx : Passes (L2.CX X.prog X.w) X E) (hr : Room k A) (fr : A.frames = X.A.frames)
    (I : Inv X pins σ H s) (rx : RelV x v) (ry : RelV y u) (hsp : sp [x, y] H Q' E) (fin : ∀ w s', EP X pins σ Q' w s' → R w s') : wpAny (model X.prog X.w) A (call (.ref f) [v, u]) R X.xe s := by
  have e0 : Env0 X.prog X.w X.K X.mg X.base A X.stack s H := by
    have e := I.env0
    exact ⟨by rw [fr]; exact e.frames, e.mod, e.bs, e.bsz, e.funs, e.frf, e.hok, e.bare⟩
  have hl : ([v, u] ++ ([] : List Value)).length = ps.length := by rw [← F.len _ _ _ _ hsp]; rfl
  refine wpAny_call (codeAny_mono (F.run A X.stack s H ⟨[v, u], []⟩ ([v, u] ++ []) [x, y] Q' E hr e0 (hb s [v, u] I.kIn hl) (.cons rx (.cons ry .nil)) hsp) fun r' s' hq => ?_)
  match r', hq with
  | .error e, hq => exact hx pins σ H s e s' I hq
  | .ok (.ret u), hq => exact fin _ _ (I.after hq)
  | .ok .next, hq => exact hq.elim
  | .ok .brk, hq => exact hq.elim
  | .ok .cont, hq => exact hq.elim
theorem op_eqO (F : FnOk X.prog X.w X.K X.mg X.base (L2.CX X.prog X.w) k f fd ps sp) (e : EqF X.K C f) (hb : Binds X.K fd ps []) (hx : Passes (L2.CX X.prog X.w) X E) (hr : Room (k + 1) X.A) : OpR X (compareOp .Eq) (rEqO X.K C sp E false) := fun pins s σ H x y v u Q I rx ry h => by
  obtain ⟨a, dx, fs, t, rfl, ha, ty, nf, hsp⟩ := h
  cases rx
  obtain ⟨Pq, kx, hp, _⟩ := kit_of I ry ty
  obtain ⟨mA, J, _⟩ := ins_get I.hok ha
  obtain ⟨od, J, _⟩ := J.look
  obtain ⟨m, hF⟩ := I.fr
  show wpAny (model X.prog X.w) X.A (richCompare .Eq (.ref a) u) (EP X pins σ Q) X.xe s
  refine PySem.W.cmp_K (op := .Eq) (tb := t) (by have := hr.un; omega) hF I.ok.mod.kin J (kx.ty _ _ I.kIn hp) nf e.eq e.fn ?_
  refine run_eq F hb hx (hr.mono (Nat.le_succ _)) rfl I (show RelV (V.ref a) (Value.ref a) from rfl) ry hsp fun w s' ⟨z, H', I', rz, b, ez, q⟩ => ?_
  subst ez
  cases rz
  exact ⟨.bl b, H', I', rfl, by simpa using q⟩
theorem op_neO (F : FnOk X.prog X.w X.K X.mg X.base (L2.CX X.prog X.w) k f fd ps sp) (e : EqF X.K C f) (hb : Binds X.K fd ps []) (hx : Passes (L2.CX X.prog X.w) X E) (hr : Room (k + 1) X.A) : OpR X (compareOp .NotEq) (rEqO X.K C sp E true) := fun pins s σ H x y v u Q I rx ry h => by
  obtain ⟨a, dx, fs, t, rfl, ha, ty, nf, hsp⟩ := h
  cases rx
  obtain ⟨Pq, kx, hp, _⟩ := kit_of I ry ty
  obtain ⟨mA, J, _⟩ := ins_get I.hok ha
  obtain ⟨od, J, _⟩ := J.look
  obtain ⟨m, hF⟩ := I.fr
  show wpAny (model X.prog X.w) X.A (richCompare .NotEq (.ref a) u) (EP X pins σ Q) X.xe s
  refine ne_K (tb := t) (by have := hr.un; omega) hF I.ok.mod.kin J (kx.ty _ _ I.kIn hp) nf e ?_
  refine run_eq F hb hx hr.in1 rfl I (show RelV (V.ref a) (Value.ref a) from rfl) ry hsp fun w s' ⟨z, H', I', rz, b, ez, q⟩ => ?_
  subst ez
  cases rz
  exact ⟨b, rfl, .bl (!b), H', I', rfl, by simpa using q⟩
/-- truth by an own __bool__ -/
def rTruO (K : PySem.W.Frag) (C : Addr) (sp : Sp) (E : XK) : V → Hp → (Bool → Hp → Prop) → Prop := fun x H Q => ∃ (a dx : Addr) (fs : List (Str × V)), x = .ref a ∧ H a = some (.ins C dx fs) ∧ sp [x] H (fun v H' => ∃ b, v = .bl b ∧ Q b H') E
theorem tru_O (F : FnOk X.prog X.w X.K X.mg X.base (L2.CX X.prog X.w) k f fd ps sp) (hs : PySem.W.findIn X.K (.ref C) "__bool__" = some (some (.ref f))) (hf : PySem.W.isFn X.K (.ref f) = true) (hb : Binds X.K fd ps []) (hx : Passes (L2.CX X.prog X.w) X E) (hr : Room k X.A) : TruR X (rTruO X.K C sp E) := fun pins s σ H x v Q I rx h => by
  obtain ⟨a, dx, fs, rfl, ha, hsp⟩ := h
  cases rx
  obtain ⟨mA, J, _⟩ := ins_get I.hok ha
  obtain ⟨od, J, _⟩ := J.look
  obtain ⟨m, hF⟩ := I.fr
  refine PySem.W.truthy_K hF I.ok.mod.kin J hs hf ?_
  have hl : ([Value.ref a] ++ ([] : List Value)).length = ps.length := by rw [← F.len _ _ _ _ hsp]; rfl
  have r1 : Vals [V.ref a] ([Value.ref a] ++ []) := .cons rfl .nil
  refine wpAny_call (codeAny_mono (F.run X.A X.stack s H ⟨[.ref a], []⟩ ([.ref a] ++ []) [.ref a] _ E hr I.env0 (hb s [.ref a] I.kIn hl) r1 hsp) fun r' s' hq => ?_)
  match r', hq with
  | .error e, hq => exact hx pins σ H s e s' I hq
  | .ok (.ret u), hq =>
    obtain ⟨z, H', I', rz, b, ez, q⟩ := I.after hq
    subst ez
    cases rz
    exact ⟨H', I', q⟩
  | .ok .next, hq => exact hq.elim
  | .ok .brk, hq => exact hq.elim
  | .ok .cont, hq => exact hq.elim
end
/-- a class's own == by values; its own truth -/
structure MetE (P : Program) (w : World) (K : PySem.W.Frag) (mg : Str → Option Value) (base : Heap) (k : Nat) (C : Addr) (S : FSpec) : Prop where
  ex : ∃ (f : Addr) (fd : FuncData) (ps : List Str), EqF K C f ∧ FnOk P w K mg base (L2.CX P w) k f fd ps (spOf K S) ∧ Binds K fd ps []
structure MetB (P : Program) (w : World) (K : PySem.W.Frag) (mg : Str → Option Value) (base : Heap) (k : Nat) (C : Addr) (S : FSpec) : Prop where
  ex : ∃ (f : Addr) (fd : FuncData) (ps : List Str), PySem.W.findIn K (.ref C) "__bool__" = some (some (.ref f)) ∧ PySem.W.isFn K (.ref f) = true ∧ FnOk P w K mg base (L2.CX P w) k f fd ps (spOf K S) ∧ Binds K fd ps []
section
variable {X : Cx} {Z : Wish} {δ : Env} {μ : Store} {S : FSpec} {k j : Nat} {C : Addr}
theorem cmp_eqO (c : MetE X.prog X.w X.K X.mg X.base k C S) (fx : Fx X Z j) (hk : k + 1 ≤ j := by first | assumption | decide | omega) : CmpR X .Eq (rEqO X.K C (spOf X.K S) Z.E false) := by
  obtain ⟨f, fd, ps, e, F, b⟩ := c.ex
  exact .of (op_eqO F e b fx.ps (fx.rm.mono hk))
theorem cmp_neO (c : MetE X.prog X.w X.K X.mg X.base k C S) (fx : Fx X Z j) (hk : k + 1 ≤ j := by first | assumption | decide | omega) : CmpR X .NotEq (rEqO X.K C (spOf X.K S) Z.E true) := by
  obtain ⟨f, fd, ps, e, F, b⟩ := c.ex
  exact .of (op_neO F e b fx.ps (fx.rm.mono hk))
theorem wop_eqO {K : PySem.W.Frag} {x y : D} {fs : List (Str × D)} {t : Value} {neg : Bool} {P : D → Store → Prop} (hx : x = .ins C fs) (hy : TyD K y t) (hn : PySem.W.notFirst K C t = true) (h : S [x, y] μ (fun d μ' => ∃ b, d = .bl b ∧ P (.bl (b != neg)) μ') Z.R) : WOp K Z (rEqO K C (spOf K S) Z.E neg) x y μ P := fun v u F H Q c r1 r2 k z => by
  subst hx
  cases r1 with
  | @ins a _ dx fv _ e r =>
    refine ⟨a, dx, fv, t, rfl, c.ex _ _ e, tyd_of c.ex r2 hy, hn, F, _, μ, _, Z.R, .cons (.ins e r) (.cons r2 .nil), c, h, fun w d μ' F' H' ⟨b, e2, p⟩ m c' r' => ?_, z⟩
    subst e2
    cases r'
    exact ⟨b, rfl, k _ _ _ _ _ p m c' (.bl _)⟩
theorem vt_truO {a : Expr} {P : Bool → Store → Prop} (c : MetB X.prog X.w X.K X.mg X.base k C S) (fx : Fx X Z j) (h : VE X Z a δ μ fun x μ1 => (∃ fs, x = .ins C fs) ∧ S [x] μ1 (fun d μ' => ∃ b, d = .bl b ∧ P b μ') Z.R) (hk : k ≤ j := by first | assumption | decide | omega)
    (he : ∀ whole, isTrue a X.env whole = (do let v ← whole; standAt a.pos; holding [v] (truthy v)) := by intro _; rfl) : VT X Z a δ μ P := by
  obtain ⟨f, fd, ps, hs, hf, F, b⟩ := c.ex
  refine vt_of (pt_truthR pe_r (tru_O F hs hf b fx.ps (fx.rm.mono hk)) he) fun σ F0 H Q s c0 kk z => ?_
  refine h σ F0 H _ s c0 (fun v d μ1 F1 H1 ⟨⟨fs, e⟩, p⟩ m1 c1 r1 => ?_) z
  subst e
  cases r1 with
  | @ins a _ dx fv _ e r =>
    refine ⟨a, dx, fv, rfl, c1.ex _ _ e, F1, _, μ1, _, Z.R, .cons (.ins e r) .nil, c1, p, fun w d μ' F' H' ⟨b, e2, p2⟩ m c' r' => ?_, z.mv m1⟩
    subst e2
    cases r'
    exact ⟨b, rfl, kk _ _ _ _ p2 (m1.trans m) c'⟩
end
end VL
set_option Elab.async false
set_option linter.all false
set_option maxRecDepth 100000
set_option maxHeartbeats 4000000
/-! VCN: x.__class__ and C.__name__ read. -/
namespace VL
open PySem PySem.Spec PyProof.Rows PySem.W PySem.Builtin PySem.Builtin.Getset_descriptor L2
theorem entry_tname : entryFor table "type.__name__" = some Builtin.«type.__name__» := entryFor_of_tree (by kernel_rfl)
theorem type_tname {s : Shared} : s.TypeIs (.builtin "type.__name__") "getset_descriptor" := by
  show typeOf (.builtin "type.__name__") = pure (.type "getset_descriptor")
  kernel_rfl
theorem owner_tname : Getset_descriptor.descrOwnerAndName "type.__name__" = ("type", "__name__") := by decide +kernel
section
variable {prog : Program} {w : World} {A : Around} {s : Shared} {K : PySem.W.Frag} {C : Addr} {R : Result → Shared → Prop} {nm : Str} {tp : Value}
theorem name_get (X : K.In s.heap) (ht : typeIn K (.ref C) = some (.type "type")) (hn : nameIn K C = some nm) (h : ∀ tk, R (.ok (.ret (.str nm tk))) s) : codeAny (model prog w) A (.call (.builtin "getset_descriptor.__get__") ⟨[.builtin "type.__name__", .ref C, tp], []⟩) R s := by
  have L0 := looks_typeIn (M := model prog w) X ht
  unfold nameIn at hn
  split at hn
  · rename_i cl di da sl ho
    split at hn
    · rename_i z tk e2
      cases hn
      have ho2 := X _ _ ho
      obtain ⟨hh, g, dr, t, os⟩ := s
      refine codeAny_call_builtin KF.slot_gs.plain KF.entry_gs (KF.slot_gs.check _ _ _ _ _ _ _ _ type_tname (KF.args_gs _ _ _) ?_)
      unfold Builtin.«getset_descriptor.__get__» descrGet
      rw [dga_obj]
      refine wpAny_bind (wpAny_pure ?_)
      unfold descrGetter descrCheckInstance descrNameAndClass isInstance
      simp only [owner_tname]
      repeat lk
      refine ⟨Code.quiet_builtin _ (by decide +kernel), codeAny_builtin entry_tname ?_⟩
      unfold Builtin.«type.__name__» keptObject PySem.slotAt
      repeat lk
      rw [e2]
      exact wpAny_pure (h tk)
    · cases hn
  · cases hn
end
/-- the class of an own instance; its name -/
structure NmF (K : PySem.W.Frag) (C : Addr) (nm : Str) : Prop where
  ins : InsOk K C
  pg : plainGet K C "__class__" = true
  hd : hasDictIn K C = true
  rd : readsIn K C (.type "type") = true
  fc : findCls K (.ref C) (.type "type") "__name__" = some (.get (.builtin "getset_descriptor.__get__") (.builtin "type.__name__") (.ref C) (.type "type"))
  ty : typeIn K (.ref C) = some (.type "type")
  nm : nameIn K C = some nm
section
variable {X : Cx} {Z : Wish} {δ : Env} {μ : Store} {P : D → Store → Prop} {e : Expr} {pos : Pos}
def tCls (K : PySem.W.Frag) (te : TE) : TE := fun σ H Q => te σ H fun x H1 => ∃ (a C dx : Addr) (fs : List (Str × V)) (nm : Str), x = .ref a ∧ H1 a = some (.ins C dx fs) ∧ NmF K C nm ∧ Q (.ref C) H1
theorem pe_cls {te : TE} (he : PE X e te) (hb : attributeBase e "__class__" X.env (eval e X.env) = eval e X.env) : PE X (.Attribute e "__class__" pos) (tCls X.K te) := ⟨fun pins s σ H Q I h => by
  refine attr_of hb (thn (he.run pins s σ H _ I h) fun u s1 ⟨x, H1, I1, rx, a, C, dx, fs, nm, ex, ha, k, q⟩ => ?_)
  subst ex
  cases rx
  obtain ⟨mA, J, _⟩ := ins_get I1.hok ha
  obtain ⟨od, J, _⟩ := J.look
  have hf : findObj X.K C (some od) "__class__" = some (.bind (.builtin "getset_descriptor.__get__") (.builtin "object.__class__")) := findObj_data (by obtain ⟨cd, hc, _⟩ := any_some k.hd; rw [hc]; rfl) k.ins.ha k.ins.hn k.ins.ht
  refine get_open I1.kIn J (plainGet_of k.pg).1 (kin_hooked (s := { s1 with toks := s1.toks + 1 }) I1.kIn J hf (plainGet_of k.pg).2 (wpAny_call (class_get (s := { s1 with toks := s1.toks + 1 }) I1.kIn J k.ins.hm (handed_on rfl ?_))))
  exact ⟨.ref C, H1, I1.tok _, rfl, q⟩⟩
def tNm (K : PySem.W.Frag) (te : TE) : TE := fun σ H Q => te σ H fun x H1 => ∃ (C : Addr) (nm : Str), x = .ref C ∧ NmF K C nm ∧ Q (.str nm) H1
theorem pe_nm {te : TE} (he : PE X e te) (hb : attributeBase e "__name__" X.env (eval e X.env) = eval e X.env) : PE X (.Attribute e "__name__" pos) (tNm X.K te) := ⟨fun pins s σ H Q I h => by
  refine attr_of hb (thn (he.run pins s σ H _ I h) fun u s1 ⟨x, H1, I1, rx, C, nm, ex, k, q⟩ => ?_)
  subst ex
  cases rx
  refine cls_bind I1.kIn k.rd k.fc (wpAny_call (name_get (s := { s1 with toks := s1.toks + 1 }) I1.kIn k.ty k.nm fun tk => handed_on rfl ?_))
  exact ⟨.str nm, H1, I1.tok _, ⟨_, rfl⟩, q⟩⟩
/-- e.__class__.__name__ -/
theorem ve_clsname {p2 : Pos} (h : VE X Z e δ μ fun d μ1 => ∃ (C : Addr) (fs : List (Str × D)) (nm : Str), d = .ins C fs ∧ NmF X.K C nm ∧ P (.str nm) μ1) (hb : attributeBase e "__class__" X.env (eval e X.env) = eval e X.env := by rfl)
    (hb2 : attributeBase (.Attribute e "__class__" p2) "__name__" X.env (eval (.Attribute e "__class__" p2) X.env) = eval (.Attribute e "__class__" p2) X.env := by rfl) : VE X Z (.Attribute (.Attribute e "__class__" p2) "__name__" pos) δ μ P :=
  ve_of (pe_nm (pe_cls pe_r hb) hb2) fun σ F H Q s c k z => h σ F H _ s c (fun v d μ1 F1 H1 ⟨C, fs, nm, ed, kf, p⟩ m1 c1 r1 => by
    subst ed
    cases r1 with
    | @ins a _ dx fv _ e r => exact ⟨a, C, dx, fv, nm, rfl, c1.ex _ _ e, kf, C, nm, rfl, kf, k _ _ _ _ _ p m1 c1 (.str nm)⟩) z
end
end VL
set_option Elab.async false
set_option linter.all false
set_option maxRecDepth 100000
set_option maxHeartbeats 4000000
/-! VX4: tests of the fragment for own ==, own truth, class names, isinstance of other classes. -/
namespace He
open PySem PySem.Spec PyProof.Rows L2
theorem fnB_ok {K : PySem.W.Frag} {x m : Str} {f : Addr} (h : fnB K x m f = true) : PySem.W.findIn K (.ref (ga K x)) m = some (some (.ref f)) ∧ PySem.W.isFn K (.ref f) = true := by
  unfold fnB at h
  obtain ⟨h1, h2⟩ := ba h
  exact ⟨eqO_ok h1, h2⟩
theorem eqB_ok {K : PySem.W.Frag} {x y : Str} (h : eqB K x y = true) : VL.EqF K (ga K x) (fAd K (y, some "__eq__")) := by
  unfold eqB at h
  obtain ⟨h1, h⟩ := ba h
  obtain ⟨h2, h3⟩ := ba h
  exact ⟨(fnB_ok h1).1, (fnB_ok h1).2, eqO_ok h2, of_decide_eq_true h3⟩
theorem nmB_ok {K : PySem.W.Frag} {x : Str} (h : nmB K x = true) (i : VL.InsOk K (ga K x)) : VL.NmF K (ga K x) x := by
  unfold nmB at h
  obtain ⟨h1, h⟩ := ba h
  obtain ⟨h2, h⟩ := ba h
  obtain ⟨h3, h⟩ := ba h
  obtain ⟨h4, h⟩ := ba h
  obtain ⟨h5, h6⟩ := ba h
  refine ⟨i, h1, h2, h3, ?_, of_decide_eq_true h5, of_decide_eq_true h6⟩
  split at h4
  · rename_i g a o t e
    obtain ⟨a1, h4⟩ := ba h4
    obtain ⟨a2, h4⟩ := ba h4
    obtain ⟨a3, a4⟩ := ba h4
    rw [e, of_decide_eq_true a1, of_decide_eq_true a2, of_decide_eq_true a3, of_decide_eq_true a4]
  · cases h4
end He
set_option Elab.async false
set_option linter.all false
set_option maxRecDepth 100000
set_option maxHeartbeats 4000000
namespace VK
open PySem PySem.Spec PyProof.Rows L2 VL
def placesP (ps : List Str) : List (Key × D) := ps.zipIdx.map fun p => (Sum.inr p.1, D.int (p.2 : Nat))
def placesK (ps : List Str) : List (Key × D) := dfold [] (placesP ps)
theorem placesP_keys : ∀ (ps : List Str) (n : Nat), ((ps.zipIdx n).map fun p => ((Sum.inr p.1, D.int (p.2 : Nat)) : Key × D)).map (·.1) = ps.map Sum.inr
  | [], _ => rfl
  | p :: ps, n => by
    rw [List.zipIdx_cons, List.map_cons, List.map_cons, placesP_keys ps (n + 1)]
    rfl
theorem places_at {ps : List Str} (nd : ps.Nodup) {s : Str} (h : s ∈ ps) : lookK (placesK ps) (.inr s) = some (.int (ixOf ps s : Nat)) := by
  refine lookK_fold ?_ (List.mem_map.mpr ⟨(s, ixOf ps s), List.mem_zipIdx_iff_getElem?.mpr (ix_at h), rfl⟩)
  unfold placesP
  rw [placesP_keys]
  exact nd.map _ (fun a b h e => h (Sum.inr.inj e))
theorem sort_ints2 (a b : Nat) : sortD [.int (a : Int), .int (b : Int)] = [.int ((min a b : Nat) : Int), .int ((max a b : Nat) : Int)] := by
  rw [sortD_two, ltv_int]
  by_cases h : b < a
  · rw [if_pos (decide_eq_true (by omega)), Nat.min_eq_right (by omega), Nat.max_eq_left (by omega)]
  · rw [if_neg (by simp; omega), Nat.min_eq_left (by omega), Nat.max_eq_right (by omega)]
def jlOf (ps : List Str) (ts : List Rope) : List D := (List.range (ps.length * ps.length)).map fun q => D.int (cntJ ps ts q : Nat)
theorem jl_len (ps : List Str) (ts : List Rope) : (jlOf ps ts).length = ps.length * ps.length := by unfold jlOf; rw [List.length_map, List.length_range]
theorem jl_at {ps : List Str} {ts : List Rope} {q : Nat} (h : q < ps.length * ps.length) : (jlOf ps ts)[q]? = some (.int (cntJ ps ts q : Nat)) := by
  unfold jlOf
  rw [List.getElem?_map, List.getElem?_range h]; rfl
theorem jix_lt {ps : List Str} {r : Rope} (h1 : r.2.1 ∈ ps) (h2 : r.2.2 ∈ ps) : jix ps r < ps.length * ps.length := by
  have l1 := ix_lt h1
  have l2 := ix_lt h2
  unfold jix
  have a1 : min (ixOf ps r.2.1) (ixOf ps r.2.2) + 1 ≤ ps.length := by omega
  have a2 := Nat.mul_le_mul_right ps.length a1
  rw [Nat.add_mul] at a2
  omega
theorem cnt_snoc {ps : List Str} {ts : List Rope} {r : Rope} {q : Nat} : cntJ ps (ts ++ [r]) q = cntJ ps ts q + if jix ps r = q then 1 else 0 := by
  unfold cntJ
  rw [List.countP_append, List.countP_singleton]
  simp only [decide_eq_true_eq]
theorem take_snoc {α : Type} {rs : List α} {i : Nat} {r : α} (h : rs[i]? = some r) : rs.take (i + 1) = rs.take i ++ [r] := by rw [List.take_add_one, h]; rfl
theorem jl_step {ps : List Str} {rs : List Rope} {i : Nat} {r : Rope} (h : rs[i]? = some r) : (jlOf ps (rs.take i)).set (jix ps r) (.int ((cntJ ps (rs.take i) (jix ps r) : Nat) + 1)) = jlOf ps (rs.take (i + 1)) := by
  refine List.ext_getElem? fun q => ?_
  rw [take_snoc h]
  by_cases hq : q < ps.length * ps.length
  · by_cases e : jix ps r = q
    · subst e
      rw [List.getElem?_set_self (by rw [jl_len]; exact hq), jl_at hq, cnt_snoc, if_pos rfl]
      congr 2
    · rw [List.getElem?_set_ne e, jl_at hq, jl_at hq, cnt_snoc, if_neg e]; rfl
  · rw [List.getElem?_eq_none (by rw [List.length_set, jl_len]; omega), List.getElem?_eq_none (by rw [jl_len]; omega)]
theorem jl_zero (ps : List Str) : (List.replicate (ps.length * ps.length) [D.int 0]).flatten = jlOf ps [] := by rw [rep_const]; rfl
def innOf (ps : List Str) (rs : List Rope) : List Int := (List.range (2 ^ ps.length)).map fun q => (inN ps rs q : Int)
theorem innOf_len (ps : List Str) (rs : List Rope) : (innOf ps rs).length = 2 ^ ps.length := by unfold innOf; rw [List.length_map, List.length_range]
def flOf (ps : List Str) (rs : List Rope) (x : Nat) : List D := (List.range (2 ^ ps.length)).map fun q => D.int (if q < x then ((inN ps rs q : Nat) : Int) else 0)
theorem fl_len (ps : List Str) (rs : List Rope) (x : Nat) : (flOf ps rs x).length = 2 ^ ps.length := by unfold flOf; rw [List.length_map, List.length_range]
theorem fl_at {ps : List Str} {rs : List Rope} {x q : Nat} (h : q < 2 ^ ps.length) : (flOf ps rs x)[q]? = some (.int (if q < x then ((inN ps rs q : Nat) : Int) else 0)) := by
  unfold flOf
  rw [List.getElem?_map, List.getElem?_range h]; rfl
theorem fl_step {ps : List Str} {rs : List Rope} {x : Nat} : (flOf ps rs x).set x (.int (inN ps rs x : Nat)) = flOf ps rs (x + 1) := by
  refine List.ext_getElem? fun q => ?_
  by_cases hq : q < 2 ^ ps.length
  · by_cases e : x = q
    · subst e
      rw [List.getElem?_set_self (by rw [fl_len]; exact hq), fl_at hq, if_pos (by omega)]
    · rw [List.getElem?_set_ne e, fl_at hq, fl_at hq]
      by_cases h : q < x
      · rw [if_pos h, if_pos (by omega)]
      · rw [if_neg h, if_neg (by omega)]
  · rw [List.getElem?_eq_none (by rw [List.length_set, fl_len]; omega), List.getElem?_eq_none (by rw [fl_len]; omega)]
theorem fl_one (ps : List Str) (rs : List Rope) : (List.replicate (2 ^ ps.length) [D.int 0]).flatten = flOf ps rs 1 := by
  rw [rep_const]
  unfold flOf
  refine List.map_congr_left fun q _ => ?_
  by_cases h : q < 1
  · rw [if_pos h, show q = 0 by omega, inN_zero]; rfl
  · rw [if_neg h]
theorem fl_end (ps : List Str) (rs : List Rope) : flOf ps rs (2 ^ ps.length) = (innOf ps rs).map D.int := by
  unfold flOf innOf
  rw [List.map_map]
  refine List.map_congr_left fun q hq => ?_
  rw [if_pos (List.mem_range.mp hq)]; rfl
theorem sum_cast : ∀ (L : List Nat), (L.map fun n : Nat => (n : Int)).sum = (L.sum : Nat)
  | [] => rfl
  | a :: L => by rw [List.map_cons, List.sum_cons, sum_cast L, List.sum_cons]; push_cast; rfl
theorem cntJ_le {ps : List Str} {rs : List Rope} {q : Nat} : cntJ ps rs q ≤ rs.length := List.countP_le_length
section
variable {P : Program} {w : World} {K : PySem.W.Frag} {mg : Str → Option Value} {base : Heap} {f : Addr} {fd : FuncData} {C CS : Addr}
/-- its fields as far as made -/
def ptF0 (S : D) (m : Nat) : List (Str × D) := [("structure", S), ("many", .int m), ("whole", .int ((2 ^ m - 1 : Nat) : Int))]
def S_counted (C CS : Addr) : FSpec := fun ds μ P _ => ∃ (l : Addr) (j n : Nat) (ps : List Str) (rs : List Rope), ds = [.ref l] ∧ μ[j]? = some (l, .ins C (ptF0 (strucD CS n ps rs) ps.length)) ∧ StOk n ps rs ∧ P (.lst ((innOf ps rs).map .int)) μ
end
end VK
set_option Elab.async false
set_option linter.all false
set_option maxRecDepth 100000
set_option maxHeartbeats 4000000
/-! KR: plain: orders and sorting. -/
namespace VK
open PySem VL PyProof.Rows
theorem ltv_irrefl (x : D) : ltv x x = false := lex_irrefl _
theorem ltv_trans {x y z : D} (h1 : ltv x y = true) (h2 : ltv y z = true) : ltv x z = true := lex_trans _ _ _ h1 h2
theorem ltv_total {x y : D} (h1 : ltv x y = false) (h2 : ltv y x = false) : PySem.W.keyToks (toPy x) = PySem.W.keyToks (toPy y) := lex_total _ _ h1 h2
theorem ltv_asym {x y : D} (h : ltv x y = true) : ltv y x = false := by
  cases e : ltv y x with
  | false => rfl
  | true => have := ltv_trans h e; rw [ltv_irrefl] at this; cases this
theorem ltv_toks {x x' y : D} (h : PySem.W.keyToks (toPy x) = PySem.W.keyToks (toPy x')) : ltv x y = ltv x' y := by unfold ltv PySem.W.dataLt; rw [h]
/-- the keys tell all -/
def Inj {α : Type} (g : α → D) : Prop := ∀ a b, PySem.W.keyToks (toPy (g a)) = PySem.W.keyToks (toPy (g b)) → a = b
theorem inj_str : Inj D.str := fun a b h => by
  simp only [toPy, PySem.W.keyToks, List.cons.injEq, and_true] at h
  exact PySem.W.str_of_cps (Sum.inr.inj h)
theorem toks_strs : ∀ {ss ts : List Str}, PySem.W.keyToksAll (toPys (ss.map D.str)) = PySem.W.keyToksAll (toPys (ts.map D.str)) → ss = ts
  | [], [], _ => rfl
  | [], _ :: _, h => by simp [toPys, PySem.W.keyToksAll] at h
  | _ :: _, [], h => by simp [toPys, PySem.W.keyToksAll] at h
  | s :: ss, t :: ts, h => by
    simp only [List.map_cons, toPys, PySem.W.keyToksAll, toPy, PySem.W.keyToks, List.cons_append, List.nil_append, List.cons.injEq, true_and] at h
    rw [PySem.W.str_of_cps (Sum.inr.inj h.1), toks_strs h.2]
theorem inj_tupS : Inj tupS := fun a b h => by
  unfold tupS at h
  rw [toPy, toPy, PySem.W.keyToks, PySem.W.keyToks] at h
  exact toks_strs h
theorem inj_ropeD : Inj ropeD := fun a b h => by
  have : Inj tupS := inj_tupS
  have := this [a.1, a.2.1, a.2.2] [b.1, b.2.1, b.2.2] h
  simp only [List.cons.injEq, and_true] at this
  obtain ⟨h1, h2, h3⟩ := this
  exact Prod.ext h1 (Prod.ext h2 h3)
theorem Inj.lt {α : Type} {g : α → D} (i : Inj g) {a b : α} (h : a ≠ b) (h2 : ltv (g b) (g a) = false) : ltv (g a) (g b) = true := by
  cases e : ltv (g a) (g b) with
  | true => rfl
  | false => exact absurd (i _ _ (ltv_total e h2)) h
theorem sort_pw {α : Type} {g : α → D} (xs : List α) : (sortBy g xs).Pairwise fun a b => ltv (g b) (g a) = false := by
  have := List.pairwise_mergeSort (le := fun a b => !ltv (g b) (g a)) (fun a b c h1 h2 => ?_) (fun a b => ?_) xs
  · exact this.imp fun h => by simpa using h
  · simp only [Bool.not_eq_true'] at h1 h2 ⊢
    cases e : ltv (g c) (g a) with
    | false => rfl
    | true =>
      cases e2 : ltv (g b) (g c) with
      | true => rw [ltv_trans e2 e] at h1; cases h1
      | false =>
        rw [ltv_toks (ltv_total h2 e2)] at e
        rw [e] at h1; cases h1
  · cases e : ltv (g b) (g a) with
    | false => rfl
    | true => rw [ltv_asym e]; rfl
theorem sort_perm_eq {α : Type} {g : α → D} (i : Inj g) {xs ys : List α} (h : xs.Perm ys) : sortBy g xs = sortBy g ys :=
  List.Perm.eq_of_pairwise (le := fun a b => ltv (g b) (g a) = false) (fun a b _ _ h1 h2 => i a b (ltv_total h2 h1)) (sort_pw xs) (sort_pw ys) (sortBy_perm.trans (h.trans sortBy_perm.symm))
theorem sort_fix {α : Type} {g : α → D} (i : Inj g) {xs : List α} (h : xs.Pairwise fun a b => ltv (g a) (g b) = true) : sortBy g xs = xs :=
  List.Perm.eq_of_pairwise (le := fun a b => ltv (g b) (g a) = false) (fun a b _ _ h1 h2 => i a b (ltv_total h2 h1)) (sort_pw xs) (h.imp fun h => ltv_asym h) sortBy_perm
theorem sort_lt {α : Type} {g : α → D} (i : Inj g) {xs : List α} (nd : xs.Nodup) : (sortBy g xs).Pairwise fun a b => ltv (g a) (g b) = true := by
  have h1 := sort_pw (g := g) xs
  have h2 : (sortBy g xs).Nodup := sortBy_perm.nodup_iff.mpr nd
  exact (h1.and h2).imp fun h => i.lt h.2 h.1
theorem sort_sort {α : Type} {g : α → D} (i : Inj g) (xs : List α) : sortBy g (sortBy g xs) = sortBy g xs := sort_perm_eq i sortBy_perm
theorem zip_of_pw {α : Type} {R : α → α → Bool} : ∀ {xs : List α}, xs.Pairwise (fun a b => R a b = true) → ((xs.zip (xs.drop 1)).all fun p => R p.1 p.2) = true
  | [], _ => rfl
  | [_], _ => rfl
  | a :: b :: r, h => by
    obtain ⟨h1, h2⟩ := List.pairwise_cons.mp h
    have ih := zip_of_pw h2
    show (R a b && (((b :: r).zip ((b :: r).drop 1)).all fun p => R p.1 p.2)) = true
    rw [ih, h1 b (List.mem_cons_self)]; rfl
theorem ltv_str (s t : Str) : ltv (.str s) (.str t) = ltS s t := by
  unfold ltv ltS
  rw [toPy, toPy]
theorem asc_of_pw {ss : List Str} (h : ss.Pairwise fun a b => ltv (D.str a) (D.str b) = true) : ascS ss = true := by
  rw [← asc_zip]
  exact zip_of_pw (h.imp fun h => by rw [← ltv_str]; exact h)
theorem sortS_fix_pw {ps : List Str} (h : sortS ps = ps) (nd : ps.Nodup) : ps.Pairwise fun a b => ltv (D.str a) (D.str b) = true := by
  rw [← h]
  exact sort_lt inj_str nd
end VK
set_option Elab.async false
set_option linter.all false
set_option maxRecDepth 100000
set_option maxHeartbeats 4000000
/-! KS: plain: partitions of the pieces as groupings and as colourings. -/
namespace VK
open PySem VL
/-- the pieces of a lot -/
def grpOf (ps : List Str) (lot : Nat) : List Str := ps.filter fun s => lot.testBit (ixOf ps s)
theorem grp_zip {ps : List Str} (nd : ps.Nodup) (lot : Nat) : ((ps.zipIdx.filter fun p => lot.testBit p.2).map fun p => D.str p.1) = (grpOf ps lot).map D.str := by
  have e : (ps.zipIdx.filter fun p => lot.testBit p.2) = ps.zipIdx.filter ((fun s => lot.testBit (ixOf ps s)) ∘ Prod.fst) := List.filter_congr fun p hp => by
    have h1 := List.mem_zipIdx_iff_getElem?.mp hp
    have h2 : ixOf ps p.1 = p.2 := by
      have hm := List.mem_of_getElem? h1
      have h3 := ix_at hm
      have l2 := (List.getElem?_eq_some_iff.mp h1).1
      have l3 := ix_lt hm
      have e1 := (List.getElem?_eq_some_iff.mp h1).2
      have e2 := (List.getElem?_eq_some_iff.mp h3).2
      exact (List.getElem_inj nd).mp (e2.trans e1.symm)
    simp only [Function.comp_apply, h2]
  unfold grpOf
  rw [e, show (fun p : Str × Nat => D.str p.1) = D.str ∘ Prod.fst from rfl, ← List.map_map, ← List.filter_map, List.zipIdx_map_fst]
theorem grp_mem {ps : List Str} {lot : Nat} {s : Str} : s ∈ grpOf ps lot ↔ s ∈ ps ∧ lot.testBit (ixOf ps s) = true := List.mem_filter
/-- each piece in just one part -/
theorem part_count {lot : Nat} {gs : List Nat} (h : PartL lot gs) (i : Nat) : gs.countP (fun g => g.testBit i) = if lot.testBit i = true then 1 else 0 := by
  induction h with
  | nil => simp
  | @cons k rest s gs hr hs hp ih =>
    have hsl := sub_le hs
    rw [List.countP_cons, ih, bit_top (by omega), bit_top hr, diff_bit i s rest hs]
    have h1 := sub_bit hs i
    by_cases e : k = i
    · subst e
      have h2 : rest.testBit k = false := Nat.testBit_lt_two_pow hr
      have h3 : s.testBit k = false := Nat.testBit_lt_two_pow (by omega)
      simp [h2, h3]
    · cases a : s.testBit i <;> cases b : rest.testBit i <;> simp [a, b, e] at h1 ⊢
theorem part_top {lot : Nat} {gs : List Nat} (h : PartL lot gs) : ∀ g ∈ gs, ∃ i, g.testBit i = true ∧ lot.testBit i = true := by
  intro g hg
  have h1 : ∃ i, g.testBit i = true := by
    have : g ≠ 0 := by
      induction h with
      | nil => cases hg
      | @cons k rest s gs hr hs hp ih =>
        rcases List.mem_cons.mp hg with rfl | hg
        · have := Nat.two_pow_pos k; omega
        · exact ih hg
    exact Nat.exists_testBit_of_ne_zero this
  obtain ⟨i, hi⟩ := h1
  refine ⟨i, hi, ?_⟩
  have h2 := part_count h i
  have h3 : 0 < gs.countP (fun g => g.testBit i) := List.countP_pos_iff.mpr ⟨g, hg, hi⟩
  split at h2
  · rename_i e; exact e
  · omega
theorem flat_count {ps : List Str} (nd : ps.Nodup) {s : Str} (hs : s ∈ ps) : ∀ gs : List Nat, (gs.map (grpOf ps)).flatten.count s = gs.countP fun g => g.testBit (ixOf ps s)
  | [] => rfl
  | g :: gs => by
    rw [List.map_cons, List.flatten_cons, List.count_append, flat_count nd hs gs, List.countP_cons]
    have : (grpOf ps g).count s = if g.testBit (ixOf ps s) = true then 1 else 0 := by
      have h1 : (grpOf ps g).Nodup := nd.filter _
      rw [h1.count]
      simp only [grp_mem, hs, true_and]
    omega
theorem whole_bit {m i : Nat} : (2 ^ m - 1).testBit i = decide (i < m) := Nat.testBit_two_pow_sub_one ..
theorem flat_perm {ps : List Str} {gs : List Nat} (nd : ps.Nodup) (h : PartL (2 ^ ps.length - 1) gs) : (gs.map (grpOf ps)).flatten.Perm ps := by
  refine List.perm_iff_count.mpr fun s => ?_
  by_cases hs : s ∈ ps
  · rw [flat_count nd hs, part_count h, whole_bit, nd.count, if_pos hs, decide_eq_true (ix_lt hs)]
    rfl
  · rw [List.count_eq_zero_of_not_mem hs, List.count_eq_zero_of_not_mem]
    intro hm
    obtain ⟨g, hg, h2⟩ := List.mem_flatten.mp hm
    obtain ⟨l, _, rfl⟩ := List.mem_map.mp hg
    exact hs (grp_mem.mp h2).1
theorem nodup_flat {α : Type} : ∀ {L : List (List α)}, L.flatten.Nodup → (∀ g ∈ L, g ≠ []) → L.Nodup
  | [], _, _ => List.nodup_nil
  | g :: L, h, ne => by
    rw [List.flatten_cons] at h
    obtain ⟨h1, h2, h3⟩ := List.nodup_append.mp h
    refine List.nodup_cons.mpr ⟨fun hg => ?_, nodup_flat h2 fun g hg => ne g (List.mem_cons_of_mem _ hg)⟩
    cases g with
    | nil => exact ne _ (List.mem_cons_self) rfl
    | cons a g => exact h3 a (List.mem_cons_self) a (List.mem_flatten.mpr ⟨_, hg, List.mem_cons_self⟩) rfl
abbrev sortG (G : Gr) : Gr := sortBy tupS G
def namedG (ps : List Str) (gs : List Nat) : Gr := sortG (gs.map (grpOf ps))
theorem grp_ne {ps : List Str} {gs : List Nat} (h : PartL (2 ^ ps.length - 1) gs) (nd : ps.Nodup) : ∀ g ∈ gs.map (grpOf ps), g ≠ [] := by
  intro g hg
  obtain ⟨l, hl, rfl⟩ := List.mem_map.mp hg
  obtain ⟨i, h1, h2⟩ := part_top h l hl
  rw [whole_bit] at h2
  have hi := of_decide_eq_true h2
  have hm : ps[i] ∈ ps := List.getElem_mem hi
  have hx : ixOf ps ps[i] = i := by
    have := ix_at hm
    exact (List.getElem_inj nd).mp (List.getElem?_eq_some_iff.mp this).2
  have : ps[i] ∈ grpOf ps l := grp_mem.mpr ⟨hm, by rw [hx]; exact h1⟩
  exact List.ne_nil_of_mem this
theorem named_ok {ps : List Str} {gs : List Nat} (po : PsOk ps) (so : sortS ps = ps) (h : PartL (2 ^ ps.length - 1) gs) : GrOk ps (namedG ps gs) := by
  have pm : (namedG ps gs).flatten.Perm ps := (List.Perm.flatten sortBy_perm).trans (flat_perm po.nd h)
  have ne := grp_ne h po.nd
  have mm : ∀ g ∈ namedG ps gs, g ∈ gs.map (grpOf ps) := fun g hg => sortBy_perm.mem_iff.mp hg
  have nd0 : (gs.map (grpOf ps)).Nodup := nodup_flat ((flat_perm po.nd h).nodup_iff.mpr po.nd) ne
  exact {
    ne := fun g hg => ne g (mm g hg)
    up := fun g hg => by
      obtain ⟨l, _, rfl⟩ := List.mem_map.mp (mm g hg)
      exact asc_of_pw ((sortS_fix_pw so po.nd).filter _)
    nm := fun g hg s hs => by
      obtain ⟨l, _, rfl⟩ := List.mem_map.mp (mm g hg)
      exact po.nm s (grp_mem.mp hs).1
    asc := zip_of_pw (sort_lt inj_tupS nd0)
    all := (sort_perm_eq inj_str pm).trans so
    nd := pm.nodup_iff.mpr po.nd
    lo := by
      rcases Nat.eq_zero_or_pos (namedG ps gs).length with e | e
      · have := pm.length_eq
        rw [List.eq_nil_of_length_eq_zero e] at this
        have := po.lo
        simp at *
        omega
      · exact e
    hi := by rw [pm.length_eq]; exact po.hi }
theorem named_len {ps : List Str} {gs : List Nat} : (namedG ps gs).length = gs.length := by
  have := (sortBy_perm (g := tupS) (xs := gs.map (grpOf ps))).length_eq
  rw [List.length_map] at this
  exact this
/-! ### ropes within parts -/
theorem sum_count {ps : List Str} {rs : List Rope} : ∀ {gs : List Nat}, (∀ r ∈ rs, gs.countP (fun g => inB ps g r) ≤ 1) → (gs.map (inN ps rs)).sum = rs.countP fun r => gs.any fun g => inB ps g r := by
  intro gs h
  induction rs with
  | nil =>
    have : ∀ L : List Nat, (L.map (inN ps [])).sum = 0 := by
      intro L
      induction L with
      | nil => rfl
      | cons a L ih => rw [List.map_cons, List.sum_cons, ih]; rfl
    rw [this]; rfl
  | cons r rs ih =>
    have ih := ih fun r hr => h r (List.mem_cons_of_mem _ hr)
    have h0 := h r (List.mem_cons_self)
    have e1 : gs.map (inN ps (r :: rs)) = gs.map fun g => inN ps rs g + (if inB ps g r = true then 1 else 0) := List.map_congr_left fun g _ => List.countP_cons
    have e2 : ∀ L : List Nat, (L.map fun g => if inB ps g r = true then 1 else 0).sum = L.countP fun g => inB ps g r := by
      intro L
      induction L with
      | nil => rfl
      | cons a L ih => rw [List.map_cons, List.sum_cons, ih, List.countP_cons]; omega
    rw [e1, sum_add, ih, e2, List.countP_cons]
    congr 1
    by_cases ha : (gs.any fun g => inB ps g r) = true
    · rw [if_pos ha]
      have : 0 < gs.countP (fun g => inB ps g r) := by
        obtain ⟨g, hg, h2⟩ := List.any_eq_true.mp ha
        exact List.countP_pos_iff.mpr ⟨g, hg, h2⟩
      omega
    · rw [if_neg ha, List.countP_eq_zero]
      intro g hg h2
      exact ha (List.any_eq_true.mpr ⟨g, hg, h2⟩)
theorem part_sum {ps : List Str} {rs : List Rope} {lot : Nat} {gs : List Nat} (h : PartL lot gs) : (gs.map (inN ps rs)).sum = rs.countP fun r => gs.any fun g => inB ps g r :=
  sum_count fun r _ => by
    have h1 : gs.countP (fun g => inB ps g r) ≤ gs.countP (fun g => g.testBit (ixOf ps r.2.1)) := List.countP_mono_left fun g _ h => by
      unfold inB at h
      rw [Bool.and_eq_true] at h
      exact h.1
    rw [part_count h] at h1
    split at h1 <;> omega
theorem colI_same {ps : List Str} {G : Gr} (o : GrOk ps G) {a b : Str} (ha : a ∈ ps) (hb : b ∈ ps) : colI G a = colI G b ↔ ∃ g ∈ G, a ∈ g ∧ b ∈ g := by
  have at_ : ∀ {s : Str} {i : Nat} {g : List Str}, G[i]? = some g → s ∈ g → colI G s = (i : Nat) := fun hi hs => by
    unfold colI
    rw [gdict_at o hi hs]
  obtain ⟨g, hg, h1⟩ := List.mem_flatten.mp (grOk_mem o ha)
  obtain ⟨g', hg', h1'⟩ := List.mem_flatten.mp (grOk_mem o hb)
  obtain ⟨i, hi⟩ := List.mem_iff_getElem?.mp hg
  obtain ⟨j, hj⟩ := List.mem_iff_getElem?.mp hg'
  constructor
  · intro e
    rw [at_ hi h1, at_ hj h1'] at e
    have e : i = j := by omega
    subst e
    rw [hi] at hj
    cases hj
    exact ⟨g, hg, h1, h1'⟩
  · rintro ⟨g2, h2, h3, h4⟩
    obtain ⟨k, hk⟩ := List.mem_iff_getElem?.mp h2
    rw [at_ hk h3, at_ hk h4]
theorem cross_len {ps : List Str} {rs : List Rope} {G : Gr} : (crossR G rs).length + rs.countP (fun r => decide (colI G r.2.1 = colI G r.2.2)) = rs.length := by
  unfold crossR
  rw [← List.countP_eq_length_filter, List.length_eq_countP_add_countP (fun r : Rope => decide (colI G r.2.1 = colI G r.2.2)) (l := rs), Nat.add_comm]
  congr 1
  refine List.countP_congr fun r _ => ?_
  simp
theorem named_surp {n : Nat} {ps : List Str} {rs : List Rope} {gs : List Nat} (po : PsOk ps) (ro : RsOk ps rs) (so : sortS ps = ps) (h : PartL (2 ^ ps.length - 1) gs) :
    surpG n rs (namedG ps gs) = (rs.length : Nat) - (((gs.map (inN ps rs)).sum : Nat) : Int) - gradeOf n * ((gs.length : Nat) - 1) := by
  have o := named_ok po so h
  unfold surpG
  rw [named_len, part_sum h]
  have h1 := cross_len (ps := ps) (rs := rs) (G := namedG ps gs)
  have h2 : (rs.countP fun r => decide (colI (namedG ps gs) r.2.1 = colI (namedG ps gs) r.2.2)) = rs.countP fun r => gs.any fun g => inB ps g r := List.countP_congr fun r hr => by
    rw [decide_eq_true_iff, colI_same o (ro.e1 r hr) (ro.e2 r hr), List.any_eq_true]
    constructor
    · rintro ⟨g, hg, ha, hb⟩
      obtain ⟨l, hl, rfl⟩ := List.mem_map.mp (sortBy_perm.mem_iff.mp hg)
      refine ⟨l, hl, ?_⟩
      unfold inB
      rw [(grp_mem.mp ha).2, (grp_mem.mp hb).2]; rfl
    · rintro ⟨l, hl, h⟩
      unfold inB at h
      rw [Bool.and_eq_true] at h
      exact ⟨grpOf ps l, sortBy_perm.mem_iff.mpr (List.mem_map.mpr ⟨l, hl, rfl⟩), grp_mem.mpr ⟨ro.e1 r hr, h.1⟩, grp_mem.mpr ⟨ro.e2 r hr, h.2⟩⟩
  rw [h2] at h1
  omega
end VK
set_option Elab.async false
set_option linter.all false
set_option maxRecDepth 100000
set_option maxHeartbeats 4000000
/-! KT: plain: colourings and partitions, the least surplus. -/
namespace VK
open PySem VL
/-- the colours told of some pieces -/
def Cols (c : Str → Int) (ps : List Str) (k : Nat) : Prop := ∃ L : List Int, L.Nodup ∧ L.length = k ∧ ∀ x, x ∈ L ↔ ∃ s ∈ ps, c s = x
def crossC (c : Str → Int) (rs : List Rope) : Nat := rs.countP fun r => !decide (c r.2.1 = c r.2.2)
def costC (n : Nat) (rs : List Rope) (c : Str → Int) (k : Nat) : Int := (crossC c rs : Nat) - gradeOf n * ((k : Nat) - 1)
/-- the least surplus of two colours or more -/
structure LeastC (n : Nat) (ps : List Str) (rs : List Rope) (v : Int) : Prop where
  ex : ∃ c k, Cols c ps k ∧ 2 ≤ k ∧ v = costC n rs c k
  le : ∀ c k, Cols c ps k → 2 ≤ k → v ≤ costC n rs c k
theorem LeastC.uniq {n : Nat} {ps : List Str} {rs : List Rope} {v u : Int} (h : LeastC n ps rs v) (h' : LeastC n ps rs u) : v = u := by
  obtain ⟨c, k, h1, h2, e⟩ := h.ex
  obtain ⟨c', k', h1', h2', e'⟩ := h'.ex
  have := h.le c' k' h1' h2'
  have := h'.le c k h1 h2
  omega
theorem Cols.uniq {c : Str → Int} {ps : List Str} {k k' : Nat} (h : Cols c ps k) (h' : Cols c ps k') : k = k' := by
  obtain ⟨L, nd, e, m⟩ := h
  obtain ⟨L', nd', e', m'⟩ := h'
  have : L.Perm L' := (List.perm_ext_iff_of_nodup nd nd').mpr fun x => (m x).trans (m' x).symm
  rw [← e, ← e', this.length_eq]
theorem mask (p : Nat → Bool) : ∀ N : Nat, ∃ s, s < 2 ^ N ∧ ∀ i, s.testBit i = (decide (i < N) && p i)
  | 0 => ⟨0, by simp, fun i => by simp⟩
  | N + 1 => by
    obtain ⟨s, hs, h⟩ := mask p N
    have hp := Nat.pow_succ (m := N) (n := 2)
    by_cases e : p N = true
    · refine ⟨2 ^ N + s, by omega, fun i => ?_⟩
      rw [bit_top hs, h]
      by_cases e2 : N = i
      · subst e2; simp [e]
      · by_cases l : i < N
        · simp [e2, l, Nat.lt_succ_of_lt l]
        · simp [e2, l, show ¬ i < N + 1 by omega]
    · refine ⟨s, by omega, fun i => ?_⟩
      rw [h]
      by_cases e2 : N = i
      · subst e2; simp [e]
      · by_cases l : i < N
        · simp [l, Nat.lt_succ_of_lt l]
        · simp [l, show ¬ i < N + 1 by omega]
theorem part_of_col (χ : Nat → Int) : ∀ lot : Nat, ∃ gs, PartL lot gs ∧ (∀ i j, lot.testBit i = true → lot.testBit j = true → (χ i = χ j ↔ ∃ g ∈ gs, g.testBit i = true ∧ g.testBit j = true)) ∧
    ∃ L : List Int, L.Nodup ∧ L.length = gs.length ∧ ∀ x, x ∈ L ↔ ∃ i, lot.testBit i = true ∧ χ i = x := by
  intro lot
  induction lot using Nat.strongRecOn with
  | ind lot ih =>
    rcases Nat.eq_zero_or_pos lot with rfl | pos
    · exact ⟨[], .nil, fun i j h => by simp at h, [], List.nodup_nil, rfl, fun x => by simp⟩
    · obtain ⟨k, rest, rfl, hr⟩ := top_of pos
      obtain ⟨s, hs, hb⟩ := mask (fun i => rest.testBit i && decide (χ i = χ k)) k
      have hlt : ∀ i, rest.testBit i = true → i < k := fun i hi => by
        rcases Nat.lt_or_ge i k with l | l
        · exact l
        · rw [Nat.testBit_lt_two_pow (Nat.lt_of_lt_of_le hr (Nat.pow_le_pow_right (by decide) l))] at hi; cases hi
      have hsb : ∀ i, s.testBit i = (rest.testBit i && decide (χ i = χ k)) := fun i => by
        rw [hb]
        cases e : rest.testBit i with
        | false => simp
        | true => simp [hlt i e]
      have hsub : sub s rest := sub_of_bit fun i hi => by rw [hsb, Bool.and_eq_true] at hi; exact hi.1
      have hd : ∀ i, (rest - s).testBit i = (rest.testBit i && !decide (χ i = χ k)) := fun i => by
        rw [diff_bit i s rest hsub, hsb]
        cases rest.testBit i <;> cases decide (χ i = χ k) <;> rfl
      have hk2 := Nat.two_pow_pos k
      obtain ⟨gs, hp, hsame, L, nd, len, mem⟩ := ih (rest - s) (by omega)
      have h1 : ∀ i, (2 ^ k + s).testBit i = (decide (k = i) || s.testBit i) := fun i => bit_top hs
      have h2 : ∀ i, (2 ^ k + rest).testBit i = (decide (k = i) || rest.testBit i) := fun i => bit_top hr
      have c1 : ∀ i, (2 ^ k + s).testBit i = true ↔ (2 ^ k + rest).testBit i = true ∧ χ i = χ k := fun i => by
        rw [h1, h2, hsb]
        by_cases e : k = i
        · subst e; simp
        · simp [e]
      have c2 : ∀ i, (rest - s).testBit i = true ↔ (2 ^ k + rest).testBit i = true ∧ χ i ≠ χ k := fun i => by
        rw [hd, h2]
        by_cases e : k = i
        · subst e
          simp
        · simp [e]
      refine ⟨(2 ^ k + s) :: gs, .cons hr hsub hp, fun i j hi hj => ?_, χ k :: L, ?_, by rw [List.length_cons, List.length_cons, len], fun x => ?_⟩
      · have inl : ∀ g ∈ gs, ∀ x, g.testBit x = true → (rest - s).testBit x = true := fun g hg x hx => by
          have := part_count hp x
          have h3 : 0 < gs.countP (fun g => g.testBit x) := List.countP_pos_iff.mpr ⟨g, hg, hx⟩
          split at this
          · rename_i e; exact e
          · omega
        constructor
        · intro e
          by_cases ek : χ i = χ k
          · exact ⟨_, List.mem_cons_self, (c1 i).mpr ⟨hi, ek⟩, (c1 j).mpr ⟨hj, e ▸ ek⟩⟩
          · obtain ⟨g, hg, a, b⟩ := (hsame i j ((c2 i).mpr ⟨hi, ek⟩) ((c2 j).mpr ⟨hj, e ▸ ek⟩)).mp e
            exact ⟨g, List.mem_cons_of_mem _ hg, a, b⟩
        · rintro ⟨g, hg, a, b⟩
          rcases List.mem_cons.mp hg with rfl | hg
          · exact ((c1 i).mp a).2.trans ((c1 j).mp b).2.symm
          · exact (hsame i j (inl g hg i a) (inl g hg j b)).mpr ⟨g, hg, a, b⟩
      · refine List.nodup_cons.mpr ⟨fun hm => ?_, nd⟩
        obtain ⟨i, a, b⟩ := (mem _).mp hm
        exact ((c2 i).mp a).2 b
      · rw [List.mem_cons, mem]
        constructor
        · rintro (rfl | ⟨i, a, b⟩)
          · exact ⟨k, by rw [h2]; simp, rfl⟩
          · exact ⟨i, ((c2 i).mp a).1, b⟩
        · rintro ⟨i, a, b⟩
          by_cases e : χ i = χ k
          · exact .inl (b.symm.trans e)
          · exact .inr ⟨i, (c2 i).mpr ⟨a, e⟩, b⟩
theorem crossC_add {c : Str → Int} {rs : List Rope} : crossC c rs + rs.countP (fun r => decide (c r.2.1 = c r.2.2)) = rs.length := by
  unfold crossC
  rw [List.length_eq_countP_add_countP (fun r : Rope => decide (c r.2.1 = c r.2.2)) (l := rs), Nat.add_comm]
  congr 1
  refine List.countP_congr fun r _ => ?_
  simp
/-- a colouring as a partition -/
theorem part_col {ps : List Str} {rs : List Rope} {c : Str → Int} {k : Nat} (nd : ps.Nodup) (ro : RsOk ps rs) (h : Cols c ps k) : ∃ gs, PartL (2 ^ ps.length - 1) gs ∧ gs.length = k ∧ (gs.map (inN ps rs)).sum + crossC c rs = rs.length := by
  obtain ⟨gs, hp, hsame, L, ndL, len, mem⟩ := part_of_col (fun i => match ps[i]? with | some s => c s | none => 0) (2 ^ ps.length - 1)
  have hx : ∀ s ∈ ps, (match ps[ixOf ps s]? with | some s => c s | none => 0) = c s := fun s hs => by rw [ix_at hs]
  refine ⟨gs, hp, ?_, ?_⟩
  · refine Cols.uniq (c := c) (ps := ps) ⟨L, ndL, len, fun x => (mem x).trans ⟨?_, ?_⟩⟩ h
    · rintro ⟨i, a, b⟩
      rw [whole_bit] at a
      have hi := of_decide_eq_true a
      rw [List.getElem?_eq_getElem hi] at b
      exact ⟨ps[i], List.getElem_mem hi, b⟩
    · rintro ⟨s, hs, e⟩
      exact ⟨ixOf ps s, by rw [whole_bit]; exact decide_eq_true (ix_lt hs), (hx s hs).trans e⟩
  · rw [part_sum hp, ← crossC_add (c := c) (rs := rs), Nat.add_comm]
    congr 1
    refine List.countP_congr fun r hr => ?_
    have b1 : (2 ^ ps.length - 1).testBit (ixOf ps r.2.1) = true := by rw [whole_bit]; exact decide_eq_true (ix_lt (ro.e1 r hr))
    have b2 : (2 ^ ps.length - 1).testBit (ixOf ps r.2.2) = true := by rw [whole_bit]; exact decide_eq_true (ix_lt (ro.e2 r hr))
    have := hsame _ _ b1 b2
    simp only [hx _ (ro.e1 r hr), hx _ (ro.e2 r hr)] at this
    rw [decide_eq_true_iff, this, List.any_eq_true]
    unfold inB
    simp only [Bool.and_eq_true]
theorem colI_cols {ps : List Str} {G : Gr} (o : GrOk ps G) : Cols (colI G) ps G.length := by
  have at_ : ∀ {s : Str} {i : Nat} {g : List Str}, G[i]? = some g → s ∈ g → colI G s = (i : Nat) := fun hi hs => by
    unfold colI
    rw [gdict_at o hi hs]
  have mem_ps : ∀ s, s ∈ ps ↔ s ∈ G.flatten := fun s => by
    rw [← o.all]
    exact (sortS_perm _).mem_iff
  refine ⟨(List.range G.length).map fun i : Nat => (i : Int), List.nodup_range.map _ (fun a b h e => h (by omega)), by rw [List.length_map, List.length_range], fun x => ?_⟩
  rw [List.mem_map]
  constructor
  · rintro ⟨i, hi, rfl⟩
    have hi := List.mem_range.mp hi
    have hg : G[i] ∈ G := List.getElem_mem hi
    have := o.ne _ hg
    cases e : G[i] with
    | nil => exact absurd e this
    | cons s g =>
      have hs : s ∈ G[i] := by rw [e]; exact List.mem_cons_self
      exact ⟨s, (mem_ps s).mpr (List.mem_flatten.mpr ⟨_, hg, hs⟩), at_ (List.getElem?_eq_getElem hi) hs⟩
  · rintro ⟨s, hs, rfl⟩
    obtain ⟨g, hg, h1⟩ := List.mem_flatten.mp ((mem_ps s).mp hs)
    obtain ⟨i, hi⟩ := List.mem_iff_getElem?.mp hg
    exact ⟨i, List.mem_range.mpr (List.getElem?_eq_some_iff.mp hi).1, (at_ hi h1).symm⟩
theorem surpG_cost {n : Nat} {rs : List Rope} {G : Gr} : surpG n rs G = costC n rs (colI G) G.length := by
  unfold surpG costC crossR crossC
  rw [← List.countP_eq_length_filter]
/-- the best partition of two parts or more gives the least surplus -/
theorem least_of {n : Nat} {ps : List Str} {rs : List Rope} {gs : List Nat} (po : PsOk ps) (ro : RsOk ps rs) (so : sortS ps = ps) (h : PartL (2 ^ ps.length - 1) gs) (h2 : 2 ≤ gs.length)
    (hb : ∀ gs', PartL (2 ^ ps.length - 1) gs' → 2 ≤ gs'.length → (((gs'.map (inN ps rs)).sum : Nat) : Int) + gradeOf n * gs'.length ≤ (((gs.map (inN ps rs)).sum : Nat) : Int) + gradeOf n * gs.length) :
    GrOk ps (namedG ps gs) ∧ 2 ≤ (namedG ps gs).length ∧ LeastC n ps rs (surpG n rs (namedG ps gs)) := by
  have o := named_ok po so h
  refine ⟨o, by rw [named_len]; exact h2, ⟨_, _, colI_cols o, by rw [named_len]; exact h2, surpG_cost⟩, fun c k hc hk => ?_⟩
  obtain ⟨gs', hp, hl, hs⟩ := part_col po.nd ro hc
  have := hb gs' hp (by omega)
  rw [named_surp po ro so h]
  unfold costC
  rw [hl] at this
  rw [Int.mul_sub, Int.mul_sub]
  omega
end VK
set_option Elab.async false
set_option linter.all false
set_option maxRecDepth 100000
set_option maxHeartbeats 4000000
namespace VK
open PySem PySem.Spec PyProof.Rows L2 VL
/-! ### plain -/
theorem part_le {lot : Nat} {gs : List Nat} (h : PartL lot gs) : ∀ g ∈ gs, g ≤ lot := by
  induction h with
  | nil => intro g hg; cases hg
  | @cons k rest s gs hr hs hp ih =>
    intro g hg
    have := sub_le hs
    rcases List.mem_cons.mp hg with rfl | hg
    · omega
    · have := ih g hg; omega
theorem gain_inn {n : Nat} {ps : List Str} {rs : List Rope} {g : Nat} (h : g < 2 ^ ps.length) : gainOf n (innOf ps rs) g = (inN ps rs g : Nat) + gradeOf n := by
  unfold gainOf innOf
  rw [List.getD_eq_getElem?_getD, List.getElem?_map, List.getElem?_range h]
  rfl
theorem gsum_inn {n : Nat} {ps : List Str} {rs : List Rope} : ∀ {gs : List Nat}, (∀ g ∈ gs, g < 2 ^ ps.length) → gsum (gainOf n (innOf ps rs)) gs = (((gs.map (inN ps rs)).sum : Nat) : Int) + gradeOf n * gs.length
  | [], _ => by simp [gsum]
  | g :: gs, h => by
    rw [gsum, gsum_inn fun g hg => h g (List.mem_cons_of_mem _ hg), gain_inn (h g (List.mem_cons_self)), List.map_cons, List.sum_cons, List.length_cons]
    push_cast
    rw [Int.mul_add]
    omega
theorem MemoOk.start (gain : Nat → Int) (m : Nat) : MemoOk gain m [(.inl 0, .tup [.int 0, .int 0])] where
  zero := by rw [lookK_cons, if_pos rfl]
  ok := fun lot d h => by
    rw [lookK_cons] at h
    split at h
    · rename_i e
      have e : lot = 0 := by have := Sum.inl.inj e; omega
      subst e
      cases h
      exact ⟨0, 0, rfl, bestG_zero⟩
    · rw [lookK_nil] at h; cases h
  keys := ⟨[0], rfl, by simp, fun k hk => by simp at hk; subst hk; exact Nat.two_pow_pos m⟩
/-- what the walk of the groups finds is the best of all partitions of two parts or more -/
theorem groups_best {n : Nat} {ps : List Str} {rs : List Rope} {k s0 : Nat} {t : Int} {gs : List Nat} (hm : ps.length = k + 1)
    (hall : ∀ s', sub s' (2 ^ k - 1) → s' ≤ (2 ^ k - 1 - 1) &&& (2 ^ k - 1) → ∃ t', Cand (gainOf n (innOf ps rs)) k (2 ^ k - 1) s' t' ∧ t' ≤ t ∧ (s0 < s' → t' < t)) (hp : PartL (2 ^ ps.length - 1) gs) (hg : gsum (gainOf n (innOf ps rs)) gs = t) :
    ∀ gs', PartL (2 ^ ps.length - 1) gs' → 2 ≤ gs'.length → (((gs'.map (inN ps rs)).sum : Nat) : Int) + gradeOf n * gs'.length ≤ (((gs.map (inN ps rs)).sum : Nat) : Int) + gradeOf n * gs.length := by
  intro gs' hp' h2
  have hpw : 0 < 2 ^ ps.length := Nat.two_pow_pos _
  have lt : ∀ {gs : List Nat}, PartL (2 ^ ps.length - 1) gs → ∀ g ∈ gs, g < 2 ^ ps.length := fun h g hg => by have := part_le h g hg; omega
  rw [← gsum_inn (lt hp), ← gsum_inn (lt hp'), hg]
  have hk := Nat.two_pow_pos k
  have ew : 2 ^ ps.length - 1 = 2 ^ k + (2 ^ k - 1) := by rw [hm, Nat.pow_succ]; omega
  rw [ew] at hp'
  obtain ⟨s', gs2, rfl, hs', hp2⟩ := hp'.inv (by omega)
  have hne : s' ≠ 2 ^ k - 1 := fun e => by
    rw [e, Nat.sub_self] at hp2
    rw [hp2.zero] at h2
    simp at h2
  have hle := sub_le hs'
  obtain ⟨t', ⟨v, hv, rfl⟩, h3, _⟩ := hall s' hs' (next_below _ _ s' (sub_refl _) hs' (by omega))
  have := hv.ub _ hp2
  rw [gsum]
  omega
section
variable {P : Program} {w : World} {K : PySem.W.Frag} {mg : Str → Option Value} {base : Heap} {f : Addr} {fd : FuncData} {C CS CW : Addr}
/-! ### Parting.__init__ -/
def S_Pt_init (C CS : Addr) : FSpec := fun ds μ P _ => ∃ (l : Addr) (j n : Nat) (ps : List Str) (rs : List Rope), ds = [.ref l, strucD CS n ps rs] ∧ μ[j]? = some (l, .ins C []) ∧ StOk n ps rs ∧
  ∀ lb, P .non (μ.set j (l, .ins C (ptF (strucD CS n ps rs) ps.length (innOf ps rs) lb)) ++ [(lb, .dct [(.inl 0, .tup [.int 0, .int 0])])])
/-! ### Parting.named -/
def S_named (C CS : Addr) : FSpec := fun ds μ P _ => ∃ (l lb : Addr) (j n : Nat) (ps : List Str) (rs : List Rope) (inn : List Int) (gs : List Nat), ds = [.ref l, .lst (gs.map fun g : Nat => .int (g : Nat))] ∧ μ[j]? = some (l, .ins C (ptF (strucD CS n ps rs) ps.length inn lb)) ∧
  PsOk ps ∧ (∃ gs', PartL (2 ^ ps.length - 1) gs' ∧ gs'.Perm gs) ∧ P (grD (namedG ps gs)) μ
theorem part_len {ps : List Str} {gs : List Nat} (nd : ps.Nodup) (h : PartL (2 ^ ps.length - 1) gs) : gs.length ≤ ps.length := by
  have h1 : ∀ G : Gr, (∀ g ∈ G, g ≠ []) → G.length ≤ G.flatten.length := by
    intro G
    induction G with
    | nil => intro _; simp
    | cons g G ih =>
      intro h
      have h1 := ih fun g hg => h g (List.mem_cons_of_mem _ hg)
      have h2 : 1 ≤ g.length := by
        have := h g (List.mem_cons_self)
        cases g with
        | nil => exact absurd rfl this
        | cons _ _ => simp
      rw [List.flatten_cons, List.length_append, List.length_cons]
      omega
  have h2 := h1 _ (grp_ne h nd)
  rw [(flat_perm nd h).length_eq, List.length_map] at h2
  exact h2
end
end VK
set_option Elab.async false
set_option linter.all false
set_option maxRecDepth 100000
set_option maxHeartbeats 4000000
namespace VK
open PySem PySem.Spec PyProof.Rows L2 VL
section
variable {P : Program} {w : World} {K : PySem.W.Frag} {mg : Str → Option Value} {base : Heap} {f : Addr} {fd : FuncData} {C CS CW : Addr}
/-- the grouping that the walk tells -/
def ToldG (n : Nat) (ps : List Str) (rs : List Rope) (G : Gr) : Prop := ∃ (k s0 : Nat) (t : Int) (gs : List Nat), ps.length = k + 1 ∧ sub s0 (2 ^ k - 1) ∧ s0 ≤ (2 ^ k - 1 - 1) &&& (2 ^ k - 1) ∧ Cand (gainOf n (innOf ps rs)) k (2 ^ k - 1) s0 t ∧
  (∀ s', sub s' (2 ^ k - 1) → s' ≤ (2 ^ k - 1 - 1) &&& (2 ^ k - 1) → ∃ t', Cand (gainOf n (innOf ps rs)) k (2 ^ k - 1) s' t' ∧ t' ≤ t ∧ (s0 < s' → t' < t)) ∧ ChainG (gainOf n (innOf ps rs)) (2 ^ k - 1 - s0) gs ∧ G = namedG ps ((2 ^ k + s0) :: gs)
theorem ToldG.same {n : Nat} {ps : List Str} {rs : List Rope} {G G' : Gr} (h : ToldG n ps rs G) (h' : ToldG n ps rs G') : G = G' := by
  obtain ⟨k, s0, t, gs, e, a1, a2, c, hall, ch, rfl⟩ := h
  obtain ⟨k', s0', t', gs', e', a1', a2', c', hall', ch', rfl⟩ := h'
  have ek : k = k' := by omega
  subst ek
  have es : s0 = s0' := by
    obtain ⟨u, cu, lu, su⟩ := hall s0' a1' a2'
    obtain ⟨u', cu', lu', su'⟩ := hall' s0 a1 a2
    have e1 := c.uniq cu'
    have e2 := c'.uniq cu
    rcases Nat.lt_trichotomy s0 s0' with q | q | q
    · have := su q; omega
    · exact q
    · have := su' q; omega
  subst es
  rw [ch.same ch']
/-- a least surplus and a grouping that has it -/
structure WorstOk (n : Nat) (ps : List Str) (rs : List Rope) (least : Int) (G : Gr) : Prop where
  gr : GrOk ps G
  two : 2 ≤ G.length
  sur : surpG n rs G = least
  le : LeastC n ps rs least
  told : ToldG n ps rs G
def S_groups (C CS : Addr) : FSpec := fun ds μ P _ => ∃ (l lb : Addr) (j jb n : Nat) (ps : List Str) (rs : List Rope) (kvs : List (Key × D)), ds = [.ref l] ∧ μ[j]? = some (l, .ins C (ptF (strucD CS n ps rs) ps.length (innOf ps rs) lb)) ∧ μ[jb]? = some (lb, .dct kvs) ∧ j ≠ jb ∧
  MemoOk (gainOf n (innOf ps rs)) ps.length kvs ∧ StOk n ps rs ∧ sortS ps = ps ∧ 2 ≤ ps.length ∧ ∀ kvs' least G, WorstOk n ps rs least G → P (.tup [.int least, grD G]) (μ.set jb (lb, .dct kvs'))
end
end VK
set_option Elab.async false
set_option linter.all false
set_option maxRecDepth 100000
set_option maxHeartbeats 4000000
namespace VK
open PySem PySem.Spec PyProof.Rows L2 VL
theorem fxOk_gr2 {ps : List Str} {G : Gr} (o : GrOk ps G) : fxOk 2 (grD G) = true := fxOk_gr (n := 0) o
/-- a told least surplus, made and frozen -/
theorem ve_Worst {X : Cx} {Z : Wish} {δ : VL.Env} {μ : Store} {k j : Nat} {C : Addr} {e : Expr} {es : List Expr} {p pos : Pos} {P : D → Store → Prop} (c : MakR X.prog X.w X.K X.mg X.base k "Worst" C (S_Worst C)) (fx : Fx X Z j)
    (h : VA X Z (e :: es) δ μ fun xs μ1 => ∃ (least : Int) (G : Gr), xs = [.int least, grD G] ∧ fxOk 2 (grD G) = true ∧ P (worstD C least G) μ1)
    (hk : k + 1 ≤ j := by first | assumption | decide | omega) (hg : Gl X "Worst" := by rfl)
    (he : starEach (e :: es) X.env = (false, eval e X.env) :: starEach es X.env := by rfl) (hpl : (backTo pos (starEach es X.env)).any (·.1) = false := by rfl) :
    VE X Z (.Call (.Name "Worst" p) (e :: es) [] pos) δ μ P := by
  refine ve_frzI (ve_makeR c fx (WA.imp h fun xs μ1 ⟨least, G, ex, ho, q⟩ l => ?_) hk hg (by decide) he hpl)
  subst ex
  refine ⟨l, μ1.length, least, G, rfl, at_end, ho, rfl, μ1.length, l, C, _, rfl, at_set at_end, ?_⟩
  rw [set_end, del_end]
  exact q
section
variable {P : Program} {w : World} {K : PySem.W.Frag} {mg : Str → Option Value} {base : Heap} {f : Addr} {fd : FuncData} {C CS CW : Addr}
def S_worst_in (CS : Addr) : FSpec := fun ds μ P _ => ∃ (n : Nat) (ps : List Str) (rs : List Rope), ds = [strucD CS n ps rs] ∧ StOk n ps rs ∧ sortS ps = ps ∧ 2 ≤ ps.length ∧ ∀ least G, WorstOk n ps rs least G → P (.tup [.int least, grD G]) μ
def S_worst (CS CW : Addr) : FSpec := fun ds μ P _ => ∃ (n : Nat) (ps : List Str) (rs : List Rope), ds = [strucD CS n ps rs] ∧ StOk n ps rs ∧ sortS ps = ps ∧ (ps.length = 1 → P .non μ) ∧ (2 ≤ ps.length → ∀ least G, WorstOk n ps rs least G → P (worstD CW least G) μ)
def S_can_hold (CS : Addr) : FSpec := fun ds μ P _ => ∃ (n : Nat) (ps : List Str) (rs : List Rope), ds = [strucD CS n ps rs] ∧ StOk n ps rs ∧ sortS ps = ps ∧ (ps.length = 1 → P (.bl true) μ) ∧ (2 ≤ ps.length → ∀ least, LeastC n ps rs least → P (.bl (decide (0 < least))) μ)
end
end VK
set_option Elab.async false
set_option linter.all false
set_option maxRecDepth 100000
set_option maxHeartbeats 4000000
/-! VEND: the law's end where the law's promise is for callers outside of any repr. -/
namespace VL
open PySem PySem.Spec PyProof.Rows L2
theorem ints_rep {K : PySem.W.Frag} {F : Hp} : ∀ ns : List Int, Reps K F (ns.map V.int) (ns.map D.int)
  | [] => .nil
  | _ :: ns => .cons (.int _) (ints_rep ns)
/-- what the law's call comes to, from a heap in which at most the script is tracked -/
theorem core_callG {P : Program} {w : World} {K : PySem.W.Frag} {mg mb : Str → Option Value} {k : Nat} {fa a : Addr} {fd : FuncData} {x : Str} {sp : Sp} {st : Shared} {vs : List Value} {H : Hp}
    (kin : K.In st.heap) (hns : st.heap.Ns mainGlobals mg) (hb : st.heap.Ns builtinsNs mb) (hbb : ∀ x : Str, x ≠ "__name__" → mb x = bootBuiltins x) (hlim : st.heap.NoLimit) (hg : st.gens = #[])
    (ha : st.heap.get? a = some { cls := .type "list", data := .seq vs.toArray }) (hr : Room k callerA) (F : ∀ base : Heap, K.In base → base.Ns mainGlobals mg → FnG P w K mg base k fa fd [x] sp) (hbind : ∀ (s : Shared) (u : Value), BindsTo s fd ⟨[u], []⟩ [(x, u)])
    (hsp : sp [.ref a] H (fun v _ => v = .bl true) fun _ _ _ => False) (hO : Only H) (hok : HOk P w H st.heap) (hA : ∀ b, H b ≠ none → b = a) (hK : H a ≠ none → K.lookup a = none) :
    codeAny (model P w) callerA (.call (.ref fa) ⟨[.ref a], []⟩) (fun r s' => r = .ok (.ret (.bool true)) ∧ OldK st.heap s'.heap ∧ s'.os = st.os ∧ AllBare s'.gens) st := by
  have toBase : ∀ {b : Addr} {o : Obj}, st.heap.get? b = some o → H b = none → (hidT st.heap H).get? b = some o := fun e n => hidT_get e n
  have free : ∀ {b : Addr} {o : Obj} {es : Array DictEntry} {ep : Nat}, st.heap.get? b = some o → o.data = .dict es ep → H b = none := fun {b o es ep} e d => by
    by_cases z : H b = none
    · exact z
    · have hba := hA b z
      rw [hba, ha] at e
      injection e with e
      rw [← e] at d
      exact absurd d (by intro q; cases q)
  have spaces : ∀ {b : Addr} {m : Str → Option Value}, st.heap.Ns b m → (hidT st.heap H).Ns b m := fun ⟨o, es, ep, e, d, r⟩ => ⟨o, es, ep, toBase e (free e d), d, r⟩
  have kinB : K.In (hidT st.heap H) := fun b o e => toBase (kin b o e) (by
    by_cases z : H b = none
    · exact z
    · have hba := hA b z
      have := hK (by rw [← hba]; exact z)
      rw [hba, this] at e
      cases e)
  have md : Mod K mg (hidT st.heap H) := ⟨kinB, spaces hns, ⟨mb, spaces hb, hbb⟩, let ⟨mc, h1, h2⟩ := hlim; ⟨mc, spaces h1, h2⟩⟩
  have e0 : Env0 P w K mg (hidT st.heap H) callerA [] st H := ⟨rfl, md, fun b o e => of_hidT e, Nat.le_of_eq (hidT_size _ _), trivial, fun b hb => absurd (show b ∈ ([] : List Addr) from hb) (by simp), hok, .of_eq hg⟩
  have rv : Vals [V.ref a] [Value.ref a] := .cons rfl .nil
  refine codeAny_mono ((F _ kinB (spaces hns)).go callerA [] st H ⟨[.ref a], []⟩ [.ref a] [.ref a] _ _ hr rfl e0 (hbind st (.ref a)) rv hsp) fun r s' h => ?_
  match r, h with
  | .error e, ⟨_, _, _, _, _, _, _, _, _, _, _, _, z⟩ => exact z.elim
  | .ok .next, h => exact h.elim
  | .ok .brk, h => exact h.elim
  | .ok .cont, h => exact h.elim
  | .ok (.ret u), ⟨v, H', os, bare, un, hok', r', q⟩ =>
    have q' : v = .bl true := q
    subst q'
    have hu : u = Value.bool true := r'
    subst hu
    refine ⟨rfl, OldK.of_keep fun b o e => ?_, os, bare⟩
    by_cases z : H b = none
    · exact un.keep b o e z (fun y => absurd (show b ∈ ([] : List Addr) from y) (by simp)) (by simp)
    · rcases hO b with y | ⟨ob, xs, y⟩
      · exact absurd y z
      · have y2 := un.frzs b ob _ y
        obtain ⟨e1, _⟩ := hok b _ y
        obtain ⟨e2, _⟩ := hok' b _ y2
        rw [e] at e1
        cases e1
        exact e2
/-- the law's promise from the script: a list of ints -/
def lawSp (K : PySem.W.Frag) (sp : Sp) (n : Nat) : Prop := ∀ (H : Hp) (a : Addr) (ns : List Int), ns.length ≤ n → SqL K H a (ns.map V.int) → sp [.ref a] H (fun v _ => v = .bl true) fun _ _ _ => False
theorem walk_ofG {l : PySem.W.OpenLaw} {n k : Nat} {q : Program} {loose : List Str} {XP : (Str → Option Value) → Heap → Prop} {YP : World → Heap → Prop} {d : DefRec} {x : Str}
    (hn : l.most = some n) (hn2 : n ≤ sizeLine) (hdf : d.params.defaults = []) (hr : Room k callerA)
    (F : ∀ (w : World) (mg : Str → Option Value) (fa : Addr) (h : Heap), YP w h → h.Ns mainGlobals mg → mg d.name = some (.ref fa) → ∃ (K : PySem.W.Frag) (fd : FuncData) (sp : Sp), K.In h ∧ (∀ (s : Shared) (u : Value), BindsTo s fd ⟨[u], []⟩ [(x, u)]) ∧ lawSp K sp n ∧
      ∀ base : Heap, K.In base → base.Ns mainGlobals mg → FnG l.prog w K mg base k fa fd [x] sp) :
    PySem.W.WalkO q loose XP YP l.row.toRowW d [] (fun f vs => PySem.call f vs) := by
  refine Att.attach_call hn hdf fun w s₀ s₁ mg mb fa o pm cd doc a vs ns G Y ho hd hcd hmg hobj hints hlen hg => ?_
  obtain ⟨K, fd, sp, KX, hb, hsp, hF⟩ := F w mg fa _ Y G.T.g hmg
  have ri := vals_ints hints
  have zl : ns.length ≤ sizeLine := Nat.le_trans hlen hn2
  have zv : vs.length = ns.length := hints.length
  have part := fun (H : Hp) (hO : Only H) (hS : SqL K H a (ns.map V.int)) (hok : HOk l.prog w H s₁.heap) (hA : ∀ b, H b ≠ none → b = a) (hK : H a ≠ none → K.lookup a = none) =>
    core_callG KX G.T.g G.T.b G.T.builtins G.T.nolimit hg hobj hr hF hb (hsp H a ns hlen hS) hO hok hA hK
  by_cases hk : K.lookup a = none
  · have at_a : ∀ b, (if b = a then some (HO.frz { cls := .type "list", data := .seq vs.toArray } (.lst (ns.map V.int))) else none) ≠ none → b = a := fun b z => by
      by_cases e : b = a
      · exact e
      · exact absurd (if_neg e) z
    refine part (fun b => if b = a then some (.frz { cls := .type "list", data := .seq vs.toArray } (.lst (ns.map V.int))) else none) (fun b => ?_) (.inl (.inr ⟨_, if_pos rfl⟩)) (fun b u z => ?_) at_a fun _ => hk
    · by_cases e : b = a
      · exact .inr ⟨_, _, if_pos e⟩
      · exact .inl (if_neg e)
    · have e := at_a b (fun y => by have q := z.symm.trans y; cases q)
      subst e
      have z2 := (if_pos rfl).symm.trans z
      cases z2
      exact ⟨hobj, by rw [List.length_map]; exact zl, vs, _, ri, hobj⟩
  · obtain ⟨ob, e⟩ := Option.ne_none_iff_exists'.mp hk
    have e2 := KX a ob e
    rw [hobj] at e2
    cases e2
    refine part (fun _ => none) (fun _ => .inl rfl) (.inr ⟨_, vs.toArray, _, e, rfl, rfl, rfl, by rw [List.size_toArray, zv]; exact zl, by simpa using ri⟩) (fun b u z => ?_) (fun b z => absurd rfl z) fun z => absurd rfl z
    have z' : (none : Option HO) = some u := z
    cases z'
/-- a promise by values, of a law -/
theorem lawSp_of {K : PySem.W.Frag} {S : FSpec} {n : Nat} (h : ∀ (ns : List Int) (P : D → Store → Prop) (R : Addr → List (Str × D) → Store → Prop), P (.bl true) [] → S [.scr (ns.map D.int)] [] P R) : lawSp K (spOf K S) n := fun H a ns _ hS =>
  ⟨H, [.scr (ns.map D.int)], [], fun d _ => d = .bl true, fun _ _ _ => False, .cons (.scr hS (ints_rep ns)) .nil, ⟨Same.refl H, (fun p hp => nomatch hp), List.nodup_nil⟩, h ns _ _ rfl, (fun v d μ' F' H' e m c r => by subst e; cases r; rfl), (fun _ _ _ _ _ _ _ h => h.elim)⟩
end VL
set_option Elab.async false
set_option linter.all false
set_option maxRecDepth 100000
set_option maxHeartbeats 4000000
/-! KM1: promises from the head's facts: calls for callers outside of any repr, calls with keywords, the structures' maker. -/
namespace VK
open PySem PySem.Spec PyProof.Rows L2 VL
section
variable {P : Program} {w : World} {K : PySem.W.Frag} {mg : Str → Option Value} {base : Heap} {f : Addr} {fd : FuncData} {S : FSpec} {k : Nat}
theorem calg_mk {x : Str} {st : Stmt} {ps : List Str} (F : FnP K x st f fd) (ok : FnG P w K mg base k f fd ps (spOf K S)) (hm : mg x = some (.ref f))
    (hb : ∀ (kV doc pm : Value) (an : Option Addr) (cdv ct : Value) (us : List Value), us.length = ps.length → bindArgs (PySem.W.fnOf x x (defArgs st) (defBody st) (defScope st) .none kV doc pm an cdv ct) ⟨us, []⟩ = pure (ps.zip us)) : CalG P w K mg base k x S :=
  ⟨f, fd, ps, ok, hm, F.kp, F.bindsN hb⟩
theorem calk_mk {x : Str} {st : Stmt} {ps ks : List Str} {n : Nat} {ix : List Nat} (F : FnP K x st f fd) (ok : FnOk P w K mg base (L2.CX P w) k f fd ps (spOf K S)) (hm : mg x = some (.ref f))
    (hb : ∀ (kV doc pm : Value) (an : Option Addr) (cdv ct : Value) (us ws : List Value), us.length = n → ws.length = ks.length → bindArgs (PySem.W.fnOf x x (defArgs st) (defBody st) (defScope st) .none kV doc pm an cdv ct) ⟨us, ks.zip ws⟩ = pure (ps.zip (pickL ix (us ++ ws)))) : CalK P w K mg base k x S n ks ix := by
  refine ⟨f, fd, ps, ok, hm, F.kp, fun s us ws l1 l2 => ?_⟩
  obtain ⟨oc, od, dV, kV, doc, pm, an, cdv, ct, osl, rfl, lk, hcd, hD, hK⟩ := F.ex
  rcases hD with ⟨_, rfl⟩ | ⟨e, _⟩
  · exact .of_eq (hb kV doc pm an cdv ct us ws l1 l2)
  · exact absurd rfl e
end
end VK
set_option Elab.async false
set_option linter.all false
set_option maxRecDepth 100000
set_option maxHeartbeats 4000000
/-! PA: Short, papers' == and truth, judged. -/
namespace VK
open PySem PySem.Spec PyProof.Rows L2 VL NdefX
section
variable {P : Program} {w : World} {K : PySem.W.Frag} {mg : Str → Option Value} {base : Heap} {f : Addr} {fd : FuncData} {C CS CW CH CP : Addr}
abbrev s_Short_init : Stmt := mth 5 0
def shortF (g : D) : List (Str × D) := [("word", .str "short"), ("parts", .tup [g]), ("grouping", g)]
def shortD (C : Addr) (g : D) : D := .ins C (shortF g)
def S_Short (C : Addr) : FSpec := fun ds μ P _ => ∃ (l : Addr) (j : Nat) (g : D), ds = [.ref l, g] ∧ μ[j]? = some (l, .ins C []) ∧ fxOk 2 g = true ∧ P .non (μ.set j (l, .ins C (shortF (fixD g))))
structure ShoF (K : PySem.W.Frag) (mg : Str → Option Value) (C : Addr) : Prop where
  cls : ClsF K mg "Short" C
  pap : PapF K C
  grouping : NoAttr K C "grouping"
theorem sc_Short_init : NScope ["self", "grouping", "__class__"] ["self", "grouping"] ["__class__"] (defScope s_Short_init) := nscope_by (by decide +kernel)
theorem ks_Short_init : (defScope s_Short_init).names.lookup ("super" : Str) = some .globalImplicit := by decide +kernel
theorem ok_Short_init {f2 cc cd : Addr} (U : L2.SupF P K mg f (nfOf "Short.__init__" s_Short_init cc cd) C f2 cc) (sf : ShoF K mg C) (F2 : FnR P w K mg base (L2.CX P w) 5 f2 (spOf K (starS 2 (S_Paper C 2)))) : FnR P w K mg base (L2.CX P w) 6 f (spOf K (S_Short C)) := by
  refine fn_superD (N := ["self", "grouping", "__class__"]) (ps := ["grouping"]) (self := "self") U rfl sc_Short_init ks_Short_init rfl (fun doc pm ctv us hl => match us, hl with | [_, _], _ => rfl) F2 (fun L => rfl) (fun L => rfl) (fun L => rfl) (fun L => ⟨_, rfl⟩) fun A outer s H E ds μ Q R => ?_
  intro X fx ow h
  obtain ⟨l, j, g, rfl, hj, hg, q⟩ := h
  refine ⟨l, [g], [], j, rfl, rfl, hj, ?_⟩
  refine va_cons ?_
  refine ve_str ?_
  refine va_cons ?_
  refine ve_name 1 ?_
  refine va_nil ?_
  refine ⟨[.ref l, .str "short"], [g], rfl, rfl, by simp, l, j, _, _, rfl, hj, by simp, fun d hd => ?_, ?_⟩
  · simp at hd
    rw [hd]; exact hg
  rw [show [g].map fixD = [fixD g] by simp]
  refine vss_one ?_
  refine vs_fld ?_
  refine ve_ix fx.kx.u1 ?_
  refine ve_fld ?_
  refine ve_name 0 ?_
  refine ⟨_, fld_mu (at_set hj) sf.cls.c sf.pap.parts rfl, ?_⟩
  refine ve_int ?_
  refine wop_ix_tup (d := fixD g) (atI_at 0 rfl rfl) ?_
  refine ve_name 0 ?_
  refine ⟨_, _, _, _, rfl, at_set hj, sf.cls.c, sf.grouping, by simp, ?_⟩
  rw [set_set']
  exact ⟨_, List.Sublist.refl _, q⟩
theorem ve_Short {X : Cx} {Z : Wish} {δ : VL.Env} {μ : Store} {k j : Nat} {C : Addr} {e : Expr} {es : List Expr} {p pos : Pos} {P : D → Store → Prop} (c : MakR X.prog X.w X.K X.mg X.base k "Short" C (S_Short C)) (fx : Fx X Z j)
    (h : VA X Z (e :: es) δ μ fun xs μ1 => ∃ g : D, xs = [g] ∧ fxOk 2 g = true ∧ P (shortD C (fixD g)) μ1)
    (hk : k + 1 ≤ j := by first | assumption | decide | omega) (hg : Gl X "Short" := by rfl)
    (he : starEach (e :: es) X.env = (false, eval e X.env) :: starEach es X.env := by rfl) (hpl : (backTo pos (starEach es X.env)).any (·.1) = false := by rfl) :
    VE X Z (.Call (.Name "Short" p) (e :: es) [] pos) δ μ P := by
  refine ve_frzI (ve_makeR c fx (WA.imp h fun xs μ1 ⟨g, ex, ho, q⟩ l => ?_) hk hg (by decide) he hpl)
  subst ex
  refine ⟨l, μ1.length, g, rfl, at_end, ho, rfl, μ1.length, l, C, _, rfl, at_set at_end, ?_⟩
  rw [set_end, del_end]
  exact q
/-! ### == of papers -/
abbrev s_Paper_eq : Stmt := mth 2 2
/-- a class of papers under Paper -/
structure PcF (K : PySem.W.Frag) (CP C : Addr) (nm : Str) : Prop where
  nf : NmF K C nm
  pap : PapF K C
  isp : PySem.W.kitOne K (.ref C) (.ref CP) = some true
def S_Paper_eq (K : PySem.W.Frag) (CP : Addr) : FSpec := fun ds μ P _ => ∃ (C1 C2 : Addr) (n1 n2 w1 w2 : Str) (p1 p2 : D) (f1 f2 : List (Str × D)), ds = [.ins C1 f1, .ins C2 f2] ∧ PcF K CP C1 n1 ∧ PcF K CP C2 n2 ∧ f1.lookup ("word" : Str) = some (.str w1) ∧ f1.lookup ("parts" : Str) = some p1 ∧ f2.lookup ("word" : Str) = some (.str w2) ∧ f2.lookup ("parts" : Str) = some p2 ∧
  okD 64 p1 = true ∧ okD 64 p2 = true ∧ P (.bl (decide (n2 = n1) && (decide (w1 = w2) && eqv p1 p2))) μ
theorem wc_bool {Z : Wish} {μ : Store} {k : Bool} {P : D → Store → Prop} (p : P (.bl k) μ) : WC K Z (fun xs H Q => (∃ i, xs = [V.int i] ∧ Q (.bl (i != 0)) H) ∨ ∃ k, xs = [V.bl k] ∧ Q (.bl k) H) [.bl k] μ P :=
  wc_sc (w := .bl k) (fun F => .bl k) (fun vs F H Q c r q => by
    obtain ⟨v, rfl, r'⟩ := reps1 r
    cases r'
    exact .inr ⟨k, rfl, q⟩) p
theorem sc_Paper_eq : FnScope ["self", "other"] ["self", "other"] (defScope s_Paper_eq) := ⟨rfl, rfl, rfl, by decide +kernel, rfl, by decide +kernel, by decide +kernel⟩
theorem ok_Paper_eq (F : FnQ K "__eq__" "Paper.__eq__" s_Paper_eq [] f fd) (b : Bi mg) (gP : mg "Paper" = some (.ref CP)) : FnOk P w K mg base (L2.CX P w) 1 f fd ["self", "other"] (spOf K (S_Paper_eq K CP)) := by
  refine fn_ok F sc_Paper_eq (fun ds μ P R ⟨_, _, _, _, _, _, _, _, _, _, e, _⟩ => by subst e; rfl) fun cdv A outer s H E ds μ Q R => ?_
  intro X fx ow h
  obtain ⟨C1, C2, n1, n2, w1, w2, p1, p2, f1, f2, rfl, k1, k2, lw1, lp1, lw2, lp2, o1, o2, q⟩ := h
  refine vss_cons ?_
  refine vs_if ?_
  apply vt_or2 (ka := false) (kb := !decide (n2 = n1))
  · refine vt_not ?_
    refine vt_val ?_
    refine ve_cb call_isiA b.isinstance boot_isinstance ?_
    refine va_cons ?_
    refine ve_name 1 ?_ -- other
    refine va_cons ?_
    refine ve_glob (v := .ref CP) (d := .ref CP) gP rfl (fun F => .ref CP) ?_
    refine va_nil ?_
    refine wc_isiC (.inr ⟨C2, f2, rfl, k2.nf.ins, rfl⟩) k2.isp ?_
    refine ⟨_, rfl, ?_⟩
    exact ⟨rfl, rfl⟩
  · intro hk
    refine vw_or1 ?_
    refine vt_cmp (.of op_ne) ?_
    refine ve_clsname ?_
    refine ve_name 1 ?_ -- other
    refine ⟨C2, f2, n2, rfl, k2.nf, ?_⟩
    refine ve_clsname ?_
    refine ve_name 0 ?_ -- self
    refine ⟨C1, f1, n1, rfl, k1.nf, ?_⟩
    refine wop_neS ?_
    refine ⟨_, rfl, ?_⟩
    exact ⟨rfl, rfl⟩
  refine ⟨fun hk => ?_, fun hk => ?_⟩
  · refine vss_one ?_
    refine vs_ret ?_
    refine ve_bl ?_
    rw [Bool.false_or, Bool.not_eq_true'] at hk
    rw [hk] at q
    exact ⟨μ, List.Sublist.refl _, q⟩
  · rw [Bool.false_or, Bool.not_eq_false'] at hk
    rw [hk, Bool.true_and] at q
    refine vss_nil ?_
    refine vss_one ?_
    refine vs_ret ?_
    refine ve_cty call_bool1 b.bool boot_bool ?_
    refine va_cons ?_
    apply ve_and2 (ka := decide (w1 = w2)) (kb := eqv p1 p2)
    · refine ve_cmp (.of op_eq) ?_
      refine ve_fld ?_
      refine ve_name 0 ?_ -- self
      refine ⟨_, fld_at k1.pap.c k1.pap.word lw1, ?_⟩
      refine ve_fld ?_
      refine ve_name 1 ?_ -- other
      refine ⟨_, fld_at k2.pap.c k2.pap.word lw2, ?_⟩
      refine wop_eqS ?_
      exact ⟨rfl, rfl⟩
    · intro hk
      refine ve_one ?_
      refine ve_cmp (.eq fx.kx.u64) ?_
      refine ve_fld ?_
      refine ve_name 0 ?_ -- self
      refine ⟨_, fld_at k1.pap.c k1.pap.parts lp1, ?_⟩
      refine ve_fld ?_
      refine ve_name 1 ?_ -- other
      refine ⟨_, fld_at k2.pap.c k2.pap.parts lp2, ?_⟩
      refine wop_eq o1 o2 ?_
      exact ⟨rfl, rfl⟩
    refine va_nil ?_
    refine wc_bool ?_
    exact ⟨μ, List.Sublist.refl _, q⟩
/-! ### truth of papers -/
abbrev s_Paper_bool : Stmt := mth 2 1
def S_bool (k : Bool) : FSpec := fun ds μ P _ => ∃ d : D, ds = [d] ∧ P (.bl k) μ
theorem sc_Paper_bool : FnScope ["self"] ["self"] (defScope s_Paper_bool) := ⟨rfl, rfl, rfl, by decide +kernel, rfl, by decide +kernel, by decide +kernel⟩
theorem ok_Paper_bool (F : FnQ K "__bool__" "Paper.__bool__" s_Paper_bool [] f fd) : FnOk P w K mg base (L2.CX P w) 1 f fd ["self"] (spOf K (S_bool true)) := by
  refine fn_ok F sc_Paper_bool (fun ds μ P R ⟨_, e, _⟩ => by subst e; rfl) fun cdv A outer s H E ds μ Q R => ?_
  intro X fx ow h
  obtain ⟨d, rfl, q⟩ := h
  refine vss_one ?_
  refine vs_ret ?_
  refine ve_bl ?_
  exact ⟨μ, List.Sublist.refl _, q⟩
abbrev s_Denial_bool : Stmt := mth 3 0
theorem sc_Denial_bool : FnScope ["self"] ["self"] (defScope s_Denial_bool) := ⟨rfl, rfl, rfl, by decide +kernel, rfl, by decide +kernel, by decide +kernel⟩
theorem ok_Denial_bool (F : FnQ K "__bool__" "Denial.__bool__" s_Denial_bool [] f fd) : FnOk P w K mg base (L2.CX P w) 1 f fd ["self"] (spOf K (S_bool false)) := by
  refine fn_ok F sc_Denial_bool (fun ds μ P R ⟨_, e, _⟩ => by subst e; rfl) fun cdv A outer s H E ds μ Q R => ?_
  intro X fx ow h
  obtain ⟨d, rfl, q⟩ := h
  refine vss_one ?_
  refine vs_ret ?_
  refine ve_bl ?_
  exact ⟨μ, List.Sublist.refl _, q⟩
/-! ### judged -/
def S_judged (CS CW CH : Addr) : FSpec := fun ds μ P _ => ∃ (n : Nat) (ps : List Str) (rs : List Rope), ds = [strucD CS n ps rs] ∧ StOk n ps rs ∧ sortS ps = ps ∧ (ps.length = 1 → P .non μ) ∧ (2 ≤ ps.length → ∀ least G, WorstOk n ps rs least G → P (if 0 < least then worstD CW least G else shortD CH (grD G)) μ)
end
end VK
set_option Elab.async false
set_option linter.all false
set_option maxRecDepth 100000
set_option maxHeartbeats 4000000
/-! VMI: a walk over a mutable list that stands as it is while it is walked (printed by mkvmi.py). -/
namespace VL
open PySem PySem.Spec PyProof.Rows L2
def ItDM (K : PySem.W.Frag) (F : Hp) (J : It) (ds : List D) (S : Store → Prop) : Prop := ∀ μ F' H' i, Same F F' → Cm K F' H' μ → S μ →
  (∀ d, ds[i]? = some d → J.go i H' ∧ ∀ x H2, J.yld i H' x H2 → ∃ F2, Mv μ F' H' μ F2 H2 ∧ Cm K F2 H2 μ ∧ Rep K F2 x d) ∧ (ds.length ≤ i → J.stop i H')
def WIM (K : PySem.W.Frag) (Z : Wish) (wi : TI) (δ : Env) (μ : Store) (P : List D → (Store → Prop) → Store → Prop) : Prop :=
  ∀ σ F H R, Slots K F σ δ → Cm K F H μ → (∀ J ds S μ' F' H', P ds S μ' → Mv μ F H μ' F' H' → Cm K F' H' μ' → ItDM K F' J ds S → R J H') → ZK K Z μ F H → wi σ H R
abbrev VIM (X : Cx) (Z : Wish) (tg e : Expr) (δ : Env) (μ : Store) (P : List D → (Store → Prop) → Store → Prop) : Prop := WIM X.K Z (rIt X tg e) δ μ P
section
variable {K : PySem.W.Frag} {Z : Wish} {δ : Env} {μ : Store} {ta tb te : TE} {tt tu : TT} {ts : TS}
theorem itd_mut {F : Hp} {l : Addr} {ds : List D} : ItDM K F (Itl K l) ds fun μ => (l, MO.lst ds) ∈ μ := fun μ F' H' i up c hm => by
  obtain ⟨_, xs, e, r⟩ := c.mu _ hm
  have q : SqL K H' l xs := .inl (.inl e)
  refine ⟨fun d hd => ?_, fun hl => ⟨xs, q, by rw [r.length]; exact hl⟩⟩
  obtain ⟨u, hu, ru⟩ := r.get hd
  refine ⟨⟨xs, u, q, hu⟩, fun x H2 ⟨e2, hx⟩ => ?_⟩
  subst e2
  have ex : x = u := Option.some.inj ((hx xs q).symm.trans hu)
  subst ex
  exact ⟨F', Mv.refl .., c, ru⟩
theorem wi_mut {P : List D → (Store → Prop) → Store → Prop} (h : WE K Z te δ μ fun d μ1 => ∃ (l : Addr) (ds : List D), d = .ref l ∧ (l, MO.lst ds) ∈ μ1 ∧ P ds (fun μ => (l, MO.lst ds) ∈ μ) μ1) : WIM K Z (iList K te) δ μ P := fun σ F H R s c k z =>
  h σ F H _ s c (fun v d μ1 F1 H1 ⟨l, ds, e, hm, p⟩ m1 c1 r1 => by
    subst e
    cases r1
    obtain ⟨_, xs, e, r⟩ := c1.mu _ hm
    exact ⟨l, rfl, ⟨xs, .inl (.inl e)⟩, k _ ds _ μ1 F1 H1 p m1 c1 itd_mut⟩) z
theorem ws_forI {wi : TI} {g : TG} {js : List Nat} {P : Fl → Store → Prop} (h : WIM K Z wi δ μ fun ds S μ1 => ∃ I : Nat → Env → Store → Prop, I 0 δ μ1 ∧ (∀ i δ' μ', I i δ' μ' → S μ') ∧
    (∀ i d δ' μ', ds[i]? = some d → I i δ' μ' → WG K Z g js d δ' μ' fun δ2 μ2 => WS K Z ts δ2 μ2 (lp (I (i + 1)) P)) ∧ ∀ δ' μ', I ds.length δ' μ' → P (.nx δ') μ') : WS K Z (tFor wi g ts) δ μ P := fun σ F H Dn s c k z => by
  refine h σ F H _ s c (fun J ds S μ1 F1 H1 ⟨I, i0, sI, hs, hd⟩ m1 c1 it => ?_) z
  have k1 := k.mv m1
  have z1 := z.mv m1
  refine ⟨fun i m σ' H' => m = ds.length - i ∧ i ≤ ds.length ∧ ∃ δ' μ' F', I i δ' μ' ∧ Mv μ1 F1 H1 μ' F' H' ∧ Cm K F' H' μ' ∧ Slots K F' σ' δ', ⟨ds.length, rfl, Nat.zero_le _, δ, μ1, F1, i0, Mv.refl .., c1, s.mono m1.up⟩, ?_⟩
  rintro i m σ' H' ⟨rfl, hi, δ', μ', F', p, mm, cc, ss⟩
  obtain ⟨go, stop⟩ := it μ' F' H' i mm.up cc (sI _ _ _ p)
  by_cases hlt : i < ds.length
  · refine .inr ⟨(go _ (List.getElem?_eq_getElem hlt)).1, fun σ2 H2 => ∃ δ2 μ2 F2, I (i + 1) δ2 μ2 ∧ Mv μ1 F1 H1 μ2 F2 H2 ∧ Cm K F2 H2 μ2 ∧ Slots K F2 σ2 δ2, fun σ2 H2 q => ⟨ds.length - (i + 1), by omega, rfl, hlt, q⟩, fun x H2 y => ?_⟩
    obtain ⟨F2, m2, c2, r2⟩ := (go _ (List.getElem?_eq_getElem hlt)).2 x H2 y
    have mm2 := mm.trans m2
    refine hs i _ δ' μ' (List.getElem?_eq_getElem hlt) p x σ' F2 H2 _ (ss.mono m2.up) c2 r2 (fun σ3 δ3 μ3 F3 H3 w _ m3 c3 s3 => ?_) (z1.mv mm2)
    have mm3 := mm2.trans m3
    refine w σ3 F3 H3 _ s3 c3 ⟨fun σ4 δ4 μ4 F4 H4 q m4 c4 s4 => ⟨δ4, μ4, F4, q, mm3.trans m4, c4, s4⟩, fun σ4 δ4 μ4 F4 H4 q m4 c4 s4 => ?_, fun σ4 δ4 μ4 F4 H4 q m4 c4 s4 => ⟨δ4, μ4, F4, q, mm3.trans m4, c4, s4⟩, fun v d μ4 F4 H4 q m4 c4 r4 => ?_⟩ (z1.mv mm3)
    · exact k1.nx σ4 δ4 μ4 F4 H4 q (mm3.trans m4) c4 s4
    · exact k1.rt v d μ4 F4 H4 q (mm3.trans m4) c4 r4
  · have e : i = ds.length := by omega
    subst e
    exact .inl ⟨stop (Nat.le_refl _), k1.nx σ' δ' μ' F' H' (hd δ' μ' p) mm cc ss⟩
theorem we_lcI {wi : TI} {g : TG} {js vs : List Nat} {P : D → Store → Prop} (hj : ∀ i ∈ js, i ∈ vs) (h : WIM K Z wi δ μ fun ds S μ1 => ds.length ≤ 100000 ∧ (∀ μ ν, S μ → S (μ ++ ν)) ∧ ∃ I : Nat → List D → Store → Prop, I 0 [] μ1 ∧ (∀ i acc μ', I i acc μ' → S μ') ∧
    (∀ i d acc μ', ds[i]? = some d → I i acc μ' → WG K Wish.no g js d (wipeD δ vs) μ' fun δ2 μ2 => WT K Wish.no tt δ2 μ2 fun b μ3 => if b = true then WE K Wish.no te δ2 μ3 fun y μ4 => I (i + 1) (acc ++ [y]) μ4 else I (i + 1) acc μ3) ∧
    ∀ acc μ', I ds.length acc μ' → P (.lst acc) μ') : WE K Z (tLc wi g tt te vs) δ μ P := fun σ F H Q s c k z => by
  refine h σ F H _ s c (fun J ds S μ1 F1 H1 ⟨hz, sA, I, i0, sI, hs, hd⟩ m1 c1 it Dl nD => ?_) z
  have s1 := s.mono m1.up
  have kD := mv_newM (o := .lst []) (m := .lst []) c1 nD
  have cD := cm_newM (o := .lst []) (m := .lst []) c1 nD ⟨[], upd_same, .nil⟩
  refine ⟨fun i m H' => m = ds.length - i ∧ i ≤ ds.length ∧ ∃ acc μ' F', I i acc μ' ∧ acc.length ≤ i ∧ Mv μ1 F1 H1 (μ' ++ [(Dl, .lst acc)]) F' H' ∧ Cm K F' H' (μ' ++ [(Dl, .lst acc)]), ⟨ds.length, rfl, Nat.zero_le _, [], μ1, F1, i0, Nat.le_refl _, kD, cD⟩, ?_⟩
  rintro i m H' ⟨rfl, hi, acc, μ', F', p, ha, mm, cc⟩
  obtain ⟨go, stop⟩ := it (μ' ++ [(Dl, .lst acc)]) F' H' i mm.up cc (sA _ _ (sI _ _ _ p))
  by_cases hlt : i < ds.length
  · refine .inr ⟨(go _ (List.getElem?_eq_getElem hlt)).1, fun H2 => ∃ acc2 μ2 F2, I (i + 1) acc2 μ2 ∧ acc2.length ≤ i + 1 ∧ Mv μ1 F1 H1 (μ2 ++ [(Dl, .lst acc2)]) F2 H2 ∧ Cm K F2 H2 (μ2 ++ [(Dl, .lst acc2)]), fun H2 q => ⟨ds.length - (i + 1), by omega, rfl, hlt, q⟩, fun x H2 y => ?_⟩
    obtain ⟨F2, m2, c2, r2⟩ := (go _ (List.getElem?_eq_getElem hlt)).2 x H2 y
    have mm2 := mm.trans m2
    have sw : Slots K F2 (L2.wipe σ vs) (wipeD δ vs) := ((s1.wipe vs).mono mm.up).mono m2.up
    refine hs i _ acc μ' (List.getElem?_eq_getElem hlt) p x (L2.wipe σ vs) F2 H2 _ sw c2.take r2 (fun σ3 δ3 μ3 F3 H3 w e3 m3 c3 s3 => ?_) ZK.no
    obtain ⟨m3', c3'⟩ := Mv.lent c2 m3 c3
    refine ⟨wipe_eq (fun j hj' => e3.1 j fun q => hj' (hj j q)) (e3.2.trans (wipe_length ..)), ?_⟩
    · refine w σ3 F3 H3 _ s3 c3 (fun b μ4 F4 H4 w4 m4 c4 => ?_) ZK.no
      obtain ⟨m4', c4'⟩ := Mv.lent c3' m4 c4
      have mm4 := (mm2.trans m3').trans m4'
      cases b with
      | false => exact ⟨acc, μ4, F4, w4, Nat.le_succ_of_le ha, mm4, c4'⟩
      | true =>
        refine w4 σ3 F4 H4 _ (s3.mono m4.up) c4 (fun v y μ5 F5 H5 w5 m5 c5 r5 => ?_) ZK.no
        obtain ⟨m5', c5'⟩ := Mv.lent c4' m5 c5
        obtain ⟨_, xs, hx, rx⟩ := c5'.mu (Dl, .lst acc) (List.mem_append_right _ (by simp))
        have hj5 : (μ5 ++ [(Dl, MO.lst acc)])[μ5.length]? = some (Dl, MO.lst acc) := by rw [List.getElem?_append_right (Nat.le_refl _)]; simp
        have es : (μ5 ++ [(Dl, MO.lst acc)]).set μ5.length (Dl, .lst (acc ++ [y])) = μ5 ++ [(Dl, .lst (acc ++ [y]))] := by rw [List.set_append_right _ _ (Nat.le_refl _)]; simp
        refine ⟨xs, hx, ?_, acc ++ [y], μ5, F5, w5, by simp; omega, ?_, ?_⟩
        · rw [rx.length]; exact Nat.lt_of_le_of_lt ha (Nat.lt_of_lt_of_le hlt (Nat.le_trans hz (by decide)))
        · rw [← es]; exact (mm4.trans m5').trans (mv_set hj5 c5')
        · rw [← es]; exact cm_set hj5 c5' ⟨_, upd_same, rx.append (.cons r5 .nil)⟩
  · have e : i = ds.length := by omega
    subst e
    refine .inl ⟨stop (Nat.le_refl _), ?_⟩
    obtain ⟨_, xs, hx, rx⟩ := cc.mu (Dl, .lst acc) (List.mem_append_right _ (by simp))
    have hj5 : (μ' ++ [(Dl, MO.lst acc)])[μ'.length]? = some (Dl, MO.lst acc) := by rw [List.getElem?_append_right (Nat.le_refl _)]; simp
    have es : (μ' ++ [(Dl, MO.lst acc)]).eraseIdx μ'.length = μ' := by rw [List.eraseIdx_append_of_length_le (Nat.le_refl _)]; simp
    have mf := mv_frz hj5 hx cc
    have cf := cm_frz hj5 hx cc
    rw [es] at mf cf
    exact k _ _ μ' _ _ (hd acc μ' p) ((m1.trans mm).trans mf) cf (.lst upd_same (rx.mono mf.up))
end
section
variable {X : Cx} {Z : Wish} {δ : Env} {μ : Store} {P : Fl → Store → Prop}
variable {e a b c o tg iter elt : Expr} {es ifs : List Expr} {st : Stmt} {rest body : List Stmt} {pos p p' apos pos' px py pt : Pos} {x y f nm : Str}
theorem vi_mut {Q : List D → (Store → Prop) → Store → Prop} (h : VE X Z e δ μ fun d μ1 => ∃ (l : Addr) (ds : List D), d = .ref l ∧ (l, MO.lst ds) ∈ μ1 ∧ Q ds (fun μ => (l, MO.lst ds) ∈ μ) μ1) : VIM X Z tg e δ μ Q := fun σ F H R s c k z pins st I => (pi_list (X := X) (tg := tg) pe_r).run pins st σ H R I (wi_mut h σ F H R s c k z)
theorem vs_forI {js : List Nat} (k : Kx X) (ow : PassesOwn (model X.prog X.w) X.A X.env X.xe) (h : VIM X Z tg iter δ μ fun ds S μ1 => ∃ I : Nat → Env → Store → Prop, I 0 δ μ1 ∧ (∀ i δ' μ', I i δ' μ' → S μ') ∧
    (∀ i d δ' μ', ds[i]? = some d → I i δ' μ' → VG X Z tg js d δ' μ' fun δ2 μ2 => VSs X Z body δ2 μ2 (lp (I (i + 1)) P)) ∧ ∀ δ' μ', I ds.length δ' μ' → P (.nx δ') μ')
    (hs : ∀ x, foldedSetIterable iter X.env x = pure x := by intro _; rfl) : VS X Z (.For tg iter body [] pos) δ μ P := vs_of (ps_for ow k.calm pi_r pg_r pss_r hs) (ws_forI h)
theorem lc_inI {sc : Scope} {js vs : List Nat} {Q : D → Store → Prop} (hj : ∀ i ∈ js, i ∈ vs) (h : VIM X Z tg iter δ μ fun ds S μ1 => ds.length ≤ 100000 ∧ (∀ μ ν, S μ → S (μ ++ ν)) ∧ ∃ I : Nat → List D → Store → Prop, I 0 [] μ1 ∧ (∀ i acc μ', I i acc μ' → S μ') ∧ Turns X sc tg ifs elt js (wipeD δ vs) ds I ∧
    ∀ acc μ', I ds.length acc μ' → Q (.lst acc) μ') : WE X.K Z (tLc (rIt X tg iter) (bG X sc tg) (bT X sc ifs) (bE X sc elt) vs) δ μ Q := by
  refine we_lcI hj fun σ F H R s c k z => h σ F H R s c (fun J ds S μ1 F1 H1 ⟨hl, sA, I, i0, sI, ht, hd⟩ m1 c1 it => k J ds S μ1 F1 H1 ⟨hl, sA, I, i0, sI, fun i d acc μ' hi hI => ?_, hd⟩ m1 c1 it) z
  intro v σ F H Q' s c r k z q
  refine ht i d acc μ' hi hI q v σ F H Q' s c r (fun σ' δ' μ2 F' H' h2 e m c s' => k σ' δ' μ2 F' H' ?_ e m c s') z
  intro σ F H Q' s c k z q
  refine h2 q σ F H Q' s c (fun b μ3 F' H' h3 m c => k b μ3 F' H' ?_ m c) z
  cases b with
  | false => exact h3
  | true => intro σ F H Q' s c k z q; exact h3 q σ F H Q' s c k z
theorem ve_lcI {sc : Scope} {js : List Nat} (own : List (Str × Nat)) {Q : D → Store → Prop} (k : Kx X) (h : VIM X Z tg iter δ μ fun ds S μ1 => ds.length ≤ 100000 ∧ (∀ μ ν, S μ → S (μ ++ ν)) ∧ ∃ I : Nat → List D → Store → Prop, I 0 [] μ1 ∧ (∀ i acc μ', I i acc μ' → S μ') ∧ Turns X sc tg ifs elt js (wipeD δ (own.map (·.2))) ds I ∧
    ∀ acc μ', I ds.length acc μ' → Q (.lst acc) μ') (ok : BlkOk X.N X.env.scope sc own := by exact blkOk_by (by kernel_rfl)) (hj : ∀ i ∈ js, i ∈ own.map (·.2) := by decide) (hs : ∀ x, foldedSetIterable iter X.env x = pure x := by intro _; rfl) :
    VE X Z (.ListComp elt [⟨tg, iter, ifs, 0⟩] sc pos) δ μ Q :=
  ve_of (pe_lc k.calm k.nd pi_r ok (fun s H C cl fp => ⟨fun pins s' σ H' v u Q I r w => w ⟨s, H, C, cl, fp⟩ pins s' u I r⟩) (fun s H C cl fp => ⟨fun pins s' σ H' Q I w => w ⟨s, H, C, cl, fp⟩ pins s' I⟩) (fun s H C cl fp => ⟨fun pins s' σ H' Q I w => w ⟨s, H, C, cl, fp⟩ pins s' I⟩) hs) (lc_inI hj h)
theorem vs_setLcI (i : Nat) {sc : Scope} {js : List Nat} (own : List (Str × Nat)) (k : Kx X) (h : VIM X Z tg iter δ μ fun ds S μ1 => ds.length ≤ 100000 ∧ (∀ μ ν, S μ → S (μ ++ ν)) ∧ ∃ I : Nat → List D → Store → Prop, I 0 [] μ1 ∧ (∀ i acc μ', I i acc μ' → S μ') ∧ Turns X sc tg ifs elt js (wipeD δ (own.map (·.2))) ds I ∧
    ∀ acc μ', I ds.length acc μ' → P (.nx ((δ : List (Option D)).set i (some (.lst acc)))) μ') (hi : (X.N : List Str)[i]? = some y := by rfl) (hyl : X.env.scope.names.lookup y = some .local := by rfl)
    (hsw : swapsWith (.ListComp elt [⟨tg, iter, ifs, 0⟩] sc p) (some (.Name y py)) pos.line X.env = pure true := by rfl) (ok : BlkOk X.N X.env.scope sc own := by exact blkOk_by (by kernel_rfl)) (hj : ∀ i ∈ js, i ∈ own.map (·.2) := by decide) (hs : ∀ x, foldedSetIterable iter X.env x = pure x := by intro _; rfl) :
    VS X Z (.Assign [.Name y py] (.ListComp elt [⟨tg, iter, ifs, 0⟩] sc p) pos) δ μ P :=
  vs_of (ps_setLc k.calm k.nd hi hyl hsw pi_r ok (fun s H C cl fp => ⟨fun pins s' σ H' v u Q I r w => w ⟨s, H, C, cl, fp⟩ pins s' u I r⟩) (fun s H C cl fp => ⟨fun pins s' σ H' Q I w => w ⟨s, H, C, cl, fp⟩ pins s' I⟩) (fun s H C cl fp => ⟨fun pins s' σ H' Q I w => w ⟨s, H, C, cl, fp⟩ pins s' I⟩) hs)
    (ws_asg (js := [i]) (WE.imp (lc_inI (Q := fun d μ1 => ∃ acc, d = .lst acc ∧ P (.nx ((δ : List (Option D)).set i (some d))) μ1) hj (fun σ F H R s c k z => h σ F H R s c (fun J ds S μ1 F1 H1 ⟨hl, sA, I, i0, sI, ht, hd⟩ => k J ds S μ1 F1 H1 ⟨hl, sA, I, i0, sI, ht, fun acc μ' hh => ⟨acc, rfl, hd acc μ' hh⟩⟩) z)) fun d μ1 ⟨acc, e, q⟩ => by subst e; exact wg_name q))
end
end VL
set_option Elab.async false
set_option linter.all false
set_option maxRecDepth 100000
set_option maxHeartbeats 4000000
/-! VS1: sets of texts: made of a list, sorted. -/
namespace VL
open PySem PySem.Spec PyProof.Rows L2
def keyT (e : Int × Value) : Str := match e.2 with | .str k _ => k | _ => Str.empty
def addT (ks : List Str) (x : Str) : List Str := if x ∈ ks then ks else ks ++ [x]
/-- the texts that a row has, each once -/
def setT (xs : List Str) : List Str := xs.foldl addT []
theorem addT_mem {ks : List Str} {x y : Str} : y ∈ addT ks x ↔ y ∈ ks ∨ y = x := by
  unfold addT
  split
  · exact ⟨.inl, fun h => h.elim id fun e => e ▸ ‹_›⟩
  · rw [List.mem_append, List.mem_singleton]
theorem addT_nodup {ks : List Str} {x : Str} (h : ks.Nodup) : (addT ks x).Nodup := by
  unfold addT
  split
  · exact h
  · rename_i hx
    refine List.nodup_append.mpr ⟨h, by simp, fun a ha b hb => ?_⟩
    rw [List.mem_singleton] at hb
    exact fun e => hx (hb ▸ e ▸ ha)
theorem addT_len {ks : List Str} {x : Str} : (addT ks x).length ≤ ks.length + 1 := by
  unfold addT
  split <;> simp
theorem fold_mem : ∀ (xs ks : List Str) (y : Str), y ∈ xs.foldl addT ks ↔ y ∈ ks ∨ y ∈ xs
  | [], ks, y => by simp
  | x :: xs, ks, y => by
    rw [List.foldl_cons, fold_mem xs, addT_mem, List.mem_cons, or_assoc]
theorem fold_nodup : ∀ (xs ks : List Str), ks.Nodup → (xs.foldl addT ks).Nodup
  | [], _, h => h
  | x :: xs, ks, h => fold_nodup xs _ (addT_nodup h)
theorem fold_len : ∀ (xs ks : List Str), (xs.foldl addT ks).length ≤ ks.length + xs.length
  | [], _ => by simp
  | x :: xs, ks => by
    rw [List.foldl_cons, List.length_cons]
    have h1 := fold_len xs (addT ks x)
    have h2 := addT_len (ks := ks) (x := x)
    omega
theorem setT_mem {xs : List Str} {y : Str} : y ∈ setT xs ↔ y ∈ xs := by
  unfold setT
  rw [fold_mem]
  simp
theorem setT_nodup {xs : List Str} : (setT xs).Nodup := fold_nodup xs [] List.nodup_nil
theorem setT_len {xs : List Str} : (setT xs).length ≤ xs.length := by
  have := fold_len xs []
  simpa [setT] using this
section
variable {P : Program} {w : World} {A : Around} {E : Value → Shared → Prop} {s : Shared} {a : Addr} {ks : List Str}
def TxtE (P : Program) (w : World) (e : Int × Value) : Prop := ∃ k tk, e.2 = Value.str k tk ∧ e.1 = (PySem.strKind P w).hash k
/-- the set of texts at a -/
def SetTx (P : Program) (w : World) (h : Heap) (a : Addr) (ks : List Str) : Prop :=
  ∃ o es ep t, h.get? a = some o ∧ o.ExactSet ∧ o.data = .set es ep t ∧ (∀ e ∈ es.toList, TxtE P w e) ∧ (es.toList.map keyT).Perm ks ∧ ks.Nodup ∧
    es.size < scanBound ∧ t.fits es.size = true ∧ Ris t.place.toList ∧ (w.params.followText "set-order" = true ∨ t.led = true)
theorem SetTx.at {h h' : Heap} (R : SetTx P w h a ks) (k : ∀ o, h.get? a = some o → h'.get? a = some o) : SetTx P w h' a ks := by
  obtain ⟨o, es, ep, t, ho, r⟩ := R
  exact ⟨o, es, ep, t, k o ho, r⟩
theorem txt_elems {l : List (Int × Value)} (g : ∀ e ∈ l, TxtE P w e) : ElemsOf (PySem.strKind P w) l := fun e he => by
  obtain ⟨k, tk, h1, h2⟩ := g e he
  exact ⟨⟨k, by rw [h1]; exact strKind_is P w k tk, h2⟩, by rw [h1] <;> rfl⟩
theorem txt_is {e : Int × Value} (g : TxtE P w e) (k : Str) : (PySem.strKind P w).is k e.2 = true ↔ keyT e = k := by
  obtain ⟨k0, tk, h1, _⟩ := g
  unfold keyT
  rw [h1]
  constructor
  · intro h
    exact (PySem.strKind P w).inj (.str k0 tk) k0 k (strKind_is P w k0 tk) h
  · intro e
    show (PySem.strKind P w).is k (.str k0 tk) = true
    have e' : k0 = k := e
    rw [← e']
    exact strKind_is P w k0 tk
theorem txt_mem {l : List (Int × Value)} (g : ∀ e ∈ l, TxtE P w e) (k : Str) : k ∈ l.map keyT ↔ ∃ e ∈ l, (PySem.strKind P w).is k e.2 = true := by
  rw [List.mem_map]
  constructor
  · rintro ⟨e, he, q⟩
    exact ⟨e, he, (txt_is (g e he) k).2 q⟩
  · rintro ⟨e, he, q⟩
    exact ⟨e, he, (txt_is (g e he) k).1 q⟩
theorem setTx_tail {g : Bool → Sem Unit} (hg : ∀ (b : Bool) (s₁ : Shared) (Q' : Unit → Shared → Prop), Q' () s₁ → wpAny (model P w) A (g b) Q' E s₁)
    {o : Obj} {es : Array (Int × Value)} {ep : Nat} {t : SetTable} (ho : s.heap.get? a = some o) (hex : o.ExactSet) (hd : o.data = .set es ep t)
    {es1 : Array (Int × Value)} {t2 : SetTable} {ks' : List Str} (g1 : ∀ e ∈ es1.toList, TxtE P w e) (pm1 : (es1.toList.map keyT).Perm ks') (nd1 : ks'.Nodup)
    (hb1 : es1.size < scanBound) (hf2 : t2.fits es1.size = true) (hr : Ris t2.place.toList) (hl : w.params.followText "set-order" = true ∨ t2.led = true) {wasDummy : Bool} {R : Option Bool → Shared → Prop}
    (hR : ∀ h', Heap.SameBut a s.heap h' → SetTx P w h' a ks' → R (some true) { s with heap := h' }) :
    wpAny (model P w) A (do
        storeSet a es1 t2
        if (!wasDummy && t2.tooFull) = true then do
            g (relayAll t2 es1 (SetTable.grown es1.size)).2.2
            storeSet a (relayAll t2 es1 (SetTable.grown es1.size)).1 (relayAll t2 es1 (SetTable.grown es1.size)).2.1
            pure (some true)
          else pure (some true)) R E s := by
  refine wpAny_bind (wpAny_storeSet_of ho hd ?_ (fits_of_scanBound hb1))
  have ho1 := store_at (es' := es1) (t' := t2) ho hd
  have sb1 := Heap.SameBut.update s.heap a (Obj.putSet es1 t2)
  split
  · have pm := relayAll_perm t2 es1 (SetTable.grown es1.size)
    have hf3 := relayAll_fits t2 es1 (SetTable.grown es1.size)
    have hr3 := relayAll_ris t2 es1 (SetTable.grown es1.size)
    have hl3 := relayAll_led t2 es1 (SetTable.grown es1.size)
    generalize relayAll t2 es1 (SetTable.grown es1.size) = Z at pm hf3 hr3 hl3 ⊢
    obtain ⟨es2, t3, gave⟩ := Z
    dsimp only at pm hf3 hr3 hl3 ⊢
    have hsz : es2.size = es1.size := by rw [← Array.length_toList, pm.length_eq, Array.length_toList]
    have hb2 : es2.size < scanBound := by rw [hsz]; exact hb1
    refine wpAny_bind (hg _ _ _ ?_)
    refine wpAny_bind (wpAny_storeSet_of ho1 rfl ?_ (fits_of_scanBound hb2))
    have ho2 := store_at (es' := es2) (t' := t3) ho1 rfl
    refine wpAny_pure (hR _ (sb1.trans (Heap.SameBut.update _ a _)) ?_)
    exact ⟨_, es2, _, t3, ho2, hex, rfl, fun e he => g1 e (pm.mem_iff.mp he), (pm.map keyT).trans pm1, nd1, hb2, hf3, hr3, hl.imp id fun z => by rw [hl3]; exact z⟩
  · exact wpAny_pure (hR _ sb1 ⟨_, es1, _, t2, ho1, hex, rfl, g1, pm1, nd1, hb1, hf2, hr, hl⟩)
theorem setTx_add {x : Str} {tk : Tok} {Q : Bool → Shared → Prop} (R : SetTx P w s.heap a ks) (room : ks.length + 1 < scanBound)
    (hQ : ∀ h' b, Heap.SameBut a s.heap h' → SetTx P w h' a (addT ks x) → Q b { s with heap := h' }) :
    wpAny (model P w) A (setAddHashed a (.str x tk) ((PySem.strKind P w).hash x)) Q E s := by
  obtain ⟨o, es, ep, t, ho, hex, hd, g, pm0, nd, hb, hf, hr, hl⟩ := R
  have hn : es.size = ks.length := by rw [← pm0.length_eq, List.length_map, Array.length_toList]
  have hkey : (PySem.strKind P w).is x (.str x tk) = true := strKind_is P w x tk
  have hsc : (Value.str x tk).scannable = true := rfl
  have hel : ElemsOf (PySem.strKind P w) es.toList := txt_elems g
  unfold setAddHashed setAddHashedIn
  refine wpAny_holding (wpAny_bind (wpAny_setState_of ho hd hf ?_))
  dsimp only
  rw [byScan_of hsc hb hel]
  simp only [↓reduceIte]
  unfold setAddByScan
  refine wpAny_bind ?_
  refine wpAny_bind (wpAny_rule ?_)
  refine wpAny_bind (wpAny_setScan_of hkey ho hd hf hel ?_)
  cases hfi : List.findIdx? (fun e => (PySem.strKind P w).is x e.2) es.toList with
  | some j =>
    dsimp only
    obtain ⟨hj, pj, _⟩ := List.findIdx?_eq_some_iff_getElem.mp hfi
    have hx : x ∈ ks := pm0.mem_iff.mp ((txt_mem (P := P) (w := w) g x).2 ⟨es.toList[j], List.getElem_mem hj, pj⟩)
    refine wpAny_pure (wpAny_pure ?_)
    refine hQ s.heap _ (Heap.SameBut.refl a s.heap) ?_
    unfold addT
    rw [if_pos hx]
    exact ⟨o, es, ep, t, ho, hex, hd, g, pm0, nd, hb, hf, hr, hl⟩
  | none =>
    dsimp only
    have hnk : x ∉ es.toList.map keyT := fun z => by
      obtain ⟨e, he, q⟩ := (txt_mem (P := P) (w := w) g x).1 z
      have c := List.findIdx?_eq_none_iff.mp hfi e he
      rw [q] at c
      cases c
    have hx : x ∉ ks := fun z => hnk (pm0.mem_iff.mpr z)
    have hgw : ∀ (b : Bool) {s₁ : Shared} {Q' : Unit → Shared → Prop}, Q' () s₁ → wpAny (model P w) A (match b with | true => rule "set.scan.the-table-gave-way" | false => pure ()) Q' E s₁ :=
      fun b s₁ Q' q => by cases b <;> first | exact wpAny_pure q | exact wpAny_rule q
    have pm := layNew_perm t es ((PySem.strKind P w).hash x) (.str x tk)
    have hf1 := layNew_fits t es ((PySem.strKind P w).hash x) (.str x tk)
    have hr1 := layNew_ris t es ((PySem.strKind P w).hash x) (.str x tk) hr
    have hl1 := layNew_led t es ((PySem.strKind P w).hash x) (.str x tk)
    generalize layNew t es ((PySem.strKind P w).hash x) (.str x tk) = Z at pm hf1 hr1 hl1 ⊢
    obtain ⟨es1, t1, wasDummy, gave⟩ := Z
    dsimp only at pm hf1 hr1 hl1 ⊢
    rw [Array.toList_push] at pm
    have g1 : ∀ e ∈ es1.toList, TxtE P w e := fun e he => by
      rcases List.mem_append.mp (pm.mem_iff.mp he) with z | z
      · exact g e z
      · rw [List.mem_singleton.mp z]; exact ⟨x, tk, rfl, rfl⟩
    have pm1 : (es1.toList.map keyT).Perm (addT ks x) := by
      unfold addT
      rw [if_neg hx]
      have h1 := pm.map keyT
      rw [List.map_append] at h1
      exact h1.trans (pm0.append_right _)
    have nd1 : (addT ks x).Nodup := addT_nodup nd
    have hsz : es1.size = ks.length + 1 := by rw [← Array.length_toList, pm.length_eq, List.length_append, Array.length_toList, hn]; rfl
    have hb1 : es1.size < scanBound := by rw [hsz]; exact room
    have hled : w.params.followText "set-order" = true ∨ t1.led = true := hl.imp id fun z => by rw [hl1]; exact z
    refine wpAny_bind (hgw _ ?_)
    split
    · refine wpAny_bind ?_
      rw [hashByValue_scannable 8 hsc]
      refine wpAny_pure ?_
      refine setTx_tail ?_ ho hex hd g1 pm1 nd1 hb1 ?_ ?_ ?_ ?_
      · intro b s₁ Q' q; cases b <;> first | exact wpAny_pure q | exact wpAny_rule q
      · first | (split <;> first | exact hf1 | exact SetTable.fits_plain_off hf1) | exact hf1
      · first | (split <;> exact hr1) | exact hr1
      · first | (split <;> exact hled) | exact hled
      · intro h' sb r; dsimp only; exact wpAny_pure (hQ h' _ sb r)
    · refine wpAny_bind (wpAny_pure ?_)
      simp only [↓reduceIte]
      refine setTx_tail ?_ ho hex hd g1 pm1 nd1 hb1 hf1 hr1 hled ?_
      · intro b s₁ Q' q; cases b <;> first | exact wpAny_pure q | exact wpAny_rule q
      · intro h' sb r; dsimp only; exact wpAny_pure (hQ h' _ sb r)
theorem setTx_fresh {h : Heap} (ho : h.get? a = some { cls := .type "set", dict := none, data := .set #[] 0 (.fresh 0 0 (!w.params.followText "set-order")) }) : SetTx P w h a [] :=
  ⟨_, #[], 0, _, ho, ⟨rfl, rfl, rfl⟩, rfl, (fun e he => by simp at he), (by simp), List.nodup_nil, (by decide), (by rfl), List.Pairwise.nil, by
    show _ ∨ (!w.params.followText "set-order") = true
    cases w.params.followText "set-order"
    · exact .inr rfl
    · exact .inl rfl⟩
theorem set_update_txt {I : Addr} {fp wr : List Addr} {G : Array GenState → Array GenState → Prop} {n : Nat} {Pv : Nat → Value → Prop} {St : Nat → Shared → Prop} {R : Result → Shared → Prop}
    (W : WalksS P w A.in1 I fp wr G n Pv St) (S : Addr) (hSf : S ∉ fp) (ns : List Str) (hn : n = ns.length) (hb : ns.length + 1 < scanBound) (hval : ∀ i v, Pv i v → ∃ k t, ns[i]? = some k ∧ v = .str k t) :
    ∀ (k i : Nat) (s : Shared), n - i = k → i ≤ n → St i s → SetTx P w s.heap S (setT (ns.take i)) →
      (∀ s', Moved (S :: wr) G s s' → SetTx P w s'.heap S (setT ns) → R (.ok (.ret .none)) s') →
      codeAny (model P w) A (.builtin "set.update.loop" ⟨[.ref S, .ref I], []⟩) R s := by
  have hSw : S ∉ wr := fun h => hSf (W.sub _ h)
  have hsub : ∀ b ∈ wr, b ∈ S :: wr := fun b hb => List.mem_cons_of_mem _ hb
  intro k
  induction k with
  | zero =>
    intro i s hk' hi hst hS hR
    have hin : i = n := by omega
    subst hin
    refine codeAny_builtin F.entry_set_update_loop ?_
    rw [Around.under_plainId F.plain_set_update_loop _]
    show wpAny _ A.in1 (pyNext (.ref I) >>= _) _ _ s
    refine wpAny_bind (W.done s _ _ hst fun s' hm => ?_)
    show wpAny _ A.in1 (ret Value.none) _ _ s'
    have e : ns.take i = ns := List.take_of_length_le (by omega)
    rw [e] at hS
    exact wpAny_pure (hR s' (hm.mono hsub) (hS.at fun o e => hm.heap S o hSw e))
  | succ k ih =>
    intro i s hk' hi hst hS hR
    have hlt : i < n := by omega
    refine codeAny_builtin F.entry_set_update_loop ?_
    rw [Around.under_plainId F.plain_set_update_loop _]
    show wpAny _ A.in1 (pyNext (.ref I) >>= _) _ _ s
    refine wpAny_bind (W.item i s _ _ hlt hst fun v s' hP hst' hm => ?_)
    obtain ⟨z, t, hz, rfl⟩ := hval i v hP
    have hS' : SetTx P w s'.heap S (setT (ns.take i)) := hS.at fun o e => hm.heap S o hSw e
    show wpAny _ A.in1 (holding [Value.str z t] (setAdd S (.str z t)) >>= _) _ _ s'
    refine wpAny_bind (wpAny_holding ?_)
    unfold setAdd
    refine wpAny_holding ?_
    refine wpAny_bind ((PySem.strKind P w).pyHash (k := z) (strKind_is _ _ _ _) ?_)
    have hroom : (setT (ns.take i)).length + 1 < scanBound := by
      have h1 := setT_len (xs := ns.take i)
      rw [List.length_take] at h1
      omega
    refine setTx_add (s := { s' with toks := s'.toks + 1 }) hS' hroom fun h' b hsb hS2 => ?_
    have hS3 : SetTx P w h' S (setT (ns.take (i + 1))) := by
      have e : setT (ns.take (i + 1)) = addT (setT (ns.take i)) z := by
        unfold setT
        rw [List.take_add_one, hz, List.foldl_append]
        rfl
      rw [e]
      exact hS2
    refine wpAny_pure ⟨plainId_quiet F.plain_set_update_loop _, ih (i + 1) _ (by omega) hlt (W.frame _ s' _ _ hst' (Nat.le_succ _) fun b hb o e => ?_) hS3 fun s'' hm'' hS'' => ?_⟩
    · rw [hsb.2 b (fun h : b = S => hSf (by rw [← h]; exact hb))]; exact e
    · refine hR s'' (Moved.trans W.gtrans ((hm.mono hsub).then_heap (Nat.le_succ _) fun b o hb e => ?_) hm'') hS''
      rw [hsb.2 b (fun h : b = S => hb (by rw [h]; exact List.mem_cons_self))]; exact e
end
end VL
set_option Elab.async false
set_option linter.all false
set_option maxRecDepth 100000
set_option maxHeartbeats 4000000
/-! VS2: set(a list of texts), sorted(a set of texts). -/
namespace VL
open PySem PySem.Spec PyProof.Rows L2
section
variable {P : Program} {w : World} {A : Around} {E : Value → Shared → Prop} {s : Shared} {a : Addr} {ks : List Str}
theorem strs_at2 : ∀ {us : List Value} {xs : List Str}, StrsAre us xs → ∀ (i : Nat) (v : Value), us[i]? = some v → ∃ k t, xs[i]? = some k ∧ v = .str k t
  | _, _, .nil, i, v, h => by simp at h
  | _, _, .cons n t hr, 0, v, h => by simp at h; exact ⟨n, t, rfl, h.symm⟩
  | _, _, .cons n t hr, i + 1, v, h => by
    simp only [List.getElem?_cons_succ] at h ⊢
    exact strs_at2 hr i v h
set_option maxRecDepth 100000 in
set_option maxHeartbeats 3200000 in
theorem call_setTx {l : Addr} {items : Array Value} (ns : List Str) {Q : Value → Shared → Prop} (hh : A.handled = none) (hl : s.heap.IsList l items) (hit : StrsAre items.toList ns) (hb : ns.length + 1 < scanBound)
    (h : ∀ (h' : Heap) (tk : Nat), SetTx P w h' s.heap.objs.size (setT ns) → (∀ b o, s.heap.get? b = some o → h'.get? b = some o) → Q (.ref s.heap.objs.size) { s with heap := h', toks := tk }) :
    wpAny (model P w) A (call (.type "set") [.ref l]) Q E s := by
  have hisz : items.size = ns.length := by
    have q := StrsAre.len_eq hit
    rw [Array.length_toList] at q
    exact q
  obtain ⟨c, tl, hmro⟩ := F.called_set.mro
  have hmade := F.called_set.made
  have hsub := F.called_set.sub
  refine wpAny_call (codeAny_of_tree ?_)
  show wpAny _ _ (callAny (.type "set") _) _ _ _
  refine wpAny_pure ⟨Code.quiet_builtin _ (by decide +kernel), codeAny_builtin F.entry_type_call ?_⟩
  rw [Around.under_plain (weight_type_call_type "set" [.ref l] []) rfl]
  have h1 := F.called_set.notType
  have h2 := F.called_set.canCreate
  have hct := F.typeCall_set_1 (.ref l)
  repeat (any_goals (first | assumption | wp_step))

  refine codeAny_mono (code_set_led1 (.ref l) (E := E) (Q₁ := fun obj s₁ => obj = .ref s.heap.objs.size ∧ s₁ = { s with heap := s.heap.push { cls := .type "set", dict := none, data := .set #[] 0 (.fresh 0 0 (!w.params.followText "set-order")) } }) ⟨rfl, rfl⟩) fun r s₁ hr => ?_
  cases r with
  | error e => exact hr
  | ok fl =>
    cases fl with
    | ret obj =>
      obtain ⟨rfl, rfl⟩ := hr
      have hS : (s.heap.push { cls := .type "set", dict := none, data := .set #[] 0 (.fresh 0 0 (!w.params.followText "set-order")) }).get? s.heap.objs.size = some { cls := .type "set", dict := none, data := .set #[] 0 (.fresh 0 0 (!w.params.followText "set-order")) } := Heap.get?_push_size _ rfl
      have hT : Shared.TypeIs { s with heap := s.heap.push { cls := .type "set", dict := none, data := .set #[] 0 (.fresh 0 0 (!w.params.followText "set-order")) } } (.ref s.heap.objs.size) "set" := ⟨_, hS, rfl⟩
      have hli := F.called_set.init.lookup
      have hbi := F.called_set.init.bind (.ref s.heap.objs.size)
      repeat (any_goals (first | assumption | wp_step))

      refine codeAny_mono (codeAny_call_builtin (R := wants (fun r s₂ => r = .none ∧ ∃ h' tk, s₂ = { s with heap := h', toks := tk } ∧ SetTx P w h' s.heap.objs.size (setT ns) ∧
          (∀ b o, s.heap.get? b = some o → h'.get? b = some o)) E) F.called_set.init.plain F.entry_set_init (check_set_init_1 hT ?_)) fun r₂ s₂ hr₂ => ?_
      · obtain ⟨ol, hol, hcl, nl, hdl⟩ := hl
        obtain ⟨ocls, odict, odata, oslots⟩ := ol
        simp only at hcl hdl
        subst hcl; subst hdl
        have hol' : (s.heap.push { cls := .type "set", dict := none, data := .set #[] 0 (.fresh 0 0 (!w.params.followText "set-order")) }).get? l = some { cls := .type "list", dict := odict, data := .seq items nl, slots := oslots } := Heap.get?_push_of_some _ hol
        have hsls := F.sub_list_set
        have hslf := F.sub_list_frozenset
        have hne : (Value.type "list" == Value.type "dict") = false := by decide
        have hl1 : (s.heap.push { cls := .type "set", dict := none, data := .set #[] 0 (.fresh 0 0 (!w.params.followText "set-order")) }).IsList l items := ⟨_, hol', rfl, nl, rfl⟩
        unfold Builtin.«set.__init__» noKeywords Builtin.Frozenset.updateFrom
        generalize hPI : pyIter = PI
        wp_walk
        subst hPI

        refine wpAny_pyIter_list hl1 ?_
        refine wpAny_bind (wpAny_runValue ?_)
        have hlS : l < s.heap.objs.size := Heap.lt_size hol
        have hh3 : A.in1.in1.in1.handled = none := by simp [hh]
        have hneI : l ≠ (s.heap.push { cls := .type "set", dict := none, data := .set #[] 0 (.fresh 0 0 (!w.params.followText "set-order")) }).objs.size := by
          rw [Heap.size_push]; exact Nat.ne_of_lt (Nat.lt_succ_of_lt hlS)
        have hSf : s.heap.objs.size ∉ [(s.heap.push { cls := .type "set", dict := none, data := .set #[] 0 (.fresh 0 0 (!w.params.followText "set-order")) }).objs.size, l] := by
          rw [Heap.size_push]; simp only [List.mem_cons, List.mem_singleton, List.not_mem_nil, or_false, not_or]
          exact ⟨Nat.ne_of_lt (Nat.lt_succ_self _), Nat.ne_of_gt hlS⟩
        have hval : ∀ (i : Nat) (v : Value), items[i]? = some v → ∃ k t, ns[i]? = some k ∧ v = .str k t := fun i v hv => strs_at2 hit i v (by rw [Array.getElem?_toList]; exact hv)
        refine set_update_txt ((Walks.list hh3 _ l hneI items).toS) s.heap.objs.size
          hSf ns hisz hb hval (items.size - 0) 0 _ (by omega) (Nat.zero_le _)
          ⟨⟨_, Heap.get?_push_size _ rfl, rfl, rfl⟩, (hl1.push _)⟩ ?hS0 ?hR
        case hS0 =>
          have hget : ((s.heap.push { cls := .type "set", dict := none, data := .set #[] 0 (.fresh 0 0 (!w.params.followText "set-order")) }).push { cls := .type "list_iterator", data := .fields #[.ref l, .int 0 0] }).get? s.heap.objs.size
              = some { cls := .type "set", dict := none, data := .set #[] 0 (.fresh 0 0 (!w.params.followText "set-order")) } := Heap.get?_push_of_some _ hS
          exact setTx_fresh hget
        case hR =>
          intro s' hm hS'
          obtain ⟨h', g2, d', tk', os'⟩ := s'
          have eg : g2 = s.gens := hm.gens
          have ed : d' = s.drawn := hm.drawn
          have eo : os' = s.os := hm.os
          subst eg; subst ed; subst eo
          show wpAny _ _ _ _ _ _
          refine wpAny_pure ?_
          show wpAny _ _ (ret Value.none) _ _ _
          refine wpAny_pure ⟨rfl, h', tk', rfl, hS', fun b o e => ?_⟩
          have hb0 : b < s.heap.objs.size := Heap.lt_size e
          have hb1 : b ≠ s.heap.objs.size := Nat.ne_of_lt hb0
          have hb2 : b ≠ (s.heap.push { cls := .type "set", dict := none, data := .set #[] 0 (.fresh 0 0 (!w.params.followText "set-order")) }).objs.size := by
            rw [Heap.size_push]; exact Nat.ne_of_lt (Nat.lt_succ_of_lt hb0)
          exact hm.heap b o (by simp only [List.mem_cons, List.mem_singleton, List.not_mem_nil, or_false, not_or]; exact ⟨hb1, hb2⟩) (Heap.get?_push_of_some _ (Heap.get?_push_of_some _ e))

      · cases r₂ with
        | error e => exact hr₂
        | ok fl₂ =>
          cases fl₂ with
          | ret r =>
            obtain ⟨rfl, h', tk, rfl, hS', hk'⟩ := hr₂
            repeat (any_goals (first | assumption | wp_step))
            exact h _ _ hS' hk'
          | _ => exact hr₂.elim
    | _ => exact hr.elim
theorem strsAre_keys : ∀ (vs : List Value), (∀ v ∈ vs, ∃ k tk, v = Value.str k tk) → StrsAre vs (vs.map fun v => keyT (0, v))
  | [], _ => .nil
  | v :: vs, h => by
    obtain ⟨k, tk, rfl⟩ := h v List.mem_cons_self
    exact .cons k tk (strsAre_keys vs fun u hu => h u (List.mem_cons_of_mem _ hu))
/-- sorted(a set of texts) -/
theorem sorted_setTx {Q : Value → Shared → Prop} (R : SetTx P w s.heap a ks) (hh : A.handled = none) (h64 : ks.length < 64)
    (hQ : ∀ s' p (out : Array Value) (c : Nat) (ys : List Str), (∀ b o, s.heap.get? b = some o → s'.heap.get? b = some o) → s'.gens = s.gens → s'.os = s.os → s.heap.objs.size ≤ p →
      s'.heap.get? p = some (seqObj "list" out c) → StrsAre out.toList ys → ys.Perm ks → sortedS ys = true → Q (.ref p) s') :
    wpAny (model P w) A (call (.builtin "sorted") [.ref a]) Q E s := by
  obtain ⟨o, es, ep, t, ho, hex, hd, g, pm0, nd, hb, hf, hr, hl⟩ := R
  refine Calls.call_function_entry PyProof.Rows.kind_sorted PyProof.Rows.plain_sorted PyProof.Rows.entry_sorted (PyProof.Rows.args_sorted1 _) ?_
  unfold Builtin.«sorted»
  refine wpAny_bind (m := checkCount "sorted" 1 1 _) (wpAny_pure ?_)
  refine wpAny_bind (collect_set (A := A.in1) hh ⟨o, ho, hex.1, hd⟩ hf hb hr hl fun s1 vs k1 hz g1 o1 pm => ?_)
  have hS : StrsAre vs (vs.map fun v => keyT (0, v)) := strsAre_keys vs fun v hv => by
    obtain ⟨e, he, q⟩ := List.mem_map.mp (pm.mem_iff.mp hv)
    obtain ⟨k, tk, h1, _⟩ := g e he
    exact ⟨k, tk, by rw [← q]; exact h1⟩
  have pk : (vs.map fun v => keyT (0, v)).Perm ks := by
    have q := pm.map fun v => keyT (0, v)
    rw [List.map_map] at q
    have e : es.toList.map ((fun v => keyT (0, v)) ∘ fun x => x.2) = es.toList.map keyT := List.map_congr_left fun e _ => rfl
    rw [e] at q
    exact q.trans pm0
  have hvl : vs.length = ks.length := by
    have := pk.length_eq
    rw [List.length_map] at this
    exact this
  refine wpAny_bind (wpAny_newList ?_ (by rw [hvl, sizeLine_eq]; omega))
  have hoL : (s1.heap.push (seqObj "list" vs.toArray 0)).get? s1.heap.objs.size = some (seqObj "list" vs.toArray 0) := Heap.get?_push_size _ rfl
  refine wpAny_bind (wpAny_holding (wpAny_call_entry PyProof.Rows.slot_list_sort ⟨_, hoL, rfl⟩ PyProof.Rows.entry_list_sort
    (list_sort_treeK strKind_oneLt (s := { s1 with heap := s1.heap.push (seqObj "list" vs.toArray 0) }) hoL hS.keysOf (fun v₁ v₂ rest e => keyKind_strs (by rw [← e]; exact hS)) (by rw [hvl]; exact h64) fun st' hp hs => ⟨_, rfl, ?_⟩)
    (PyProof.Rows.args_list_sort _)))
  obtain ⟨ys, g1', g2, g3⟩ := sorted_out_str hS hp hs
  obtain ⟨e', he'⟩ := PyProof.Rows.sortedHeap_at (vs := vs) (out := (arrOf st').map (·.2)) hoL
  refine wpAny_pure ⟨_, rfl, hQ _ s1.heap.objs.size _ e' ys (fun b u e => ?_) g1 o1 hz he' g1' (g2.trans pk) g3⟩
  have q := k1 b u e
  have hlt := Heap.lt_size q
  show (sortedHeap (s1.heap.push (seqObj "list" vs.toArray 0)) s1.heap.objs.size vs ((arrOf st').map (·.2))).get? b = some u
  rw [PyProof.Rows.sortedHeap_old (Nat.ne_of_lt hlt) (by rw [size_push']; exact Nat.lt_succ_of_lt hlt)]
  exact Heap.get?_push_of_some _ q
end
section
variable {X : Cx}
/-- sorted(set(xs)), xs a list of texts -/
def SetTO (P : Program) (w : World) (a : Addr) (ks : List Str) : HO := .ext fun h => SetTx P w h a ks
theorem setTO_new {w : World} {P : Program} {H : Hp} {h : Heap} {a : Addr} {ks : List Str} (R : SetTx P w h a ks) : ObjOk P w H h a (SetTO P w a ks) := by
  have ⟨o, _, _, _, ho, _⟩ := R
  exact ⟨R, ⟨o, ho⟩, fun h1 h2 p k => SetTx.at p k⟩
theorem setTO_get {pins : List (Addr × Obj)} {σ : L2.St} {H : Hp} {s : Shared} {a : Addr} {ks : List Str} (I : Inv X pins σ H s) (ha : H a = some (SetTO X.prog X.w a ks)) : SetTx X.prog X.w s.heap a ks := (I.hok a _ ha).1
def rSetTx (K : PySem.W.Frag) (P : Program) (w : World) : List V → Hp → VK → Prop := fun xs H Q => ∃ (l : Addr) (ns : List Str), xs = [V.ref l] ∧ SqL K H l (ns.map V.str) ∧ ns.length ≤ 1000 ∧ ∀ p, H p = none → Q (.ref p) (upd H p (SetTO P w p (setT ns)))
theorem cr_setTx (hc : X.calm = true) : CallR X (.type "set") (rSetTx X.K X.prog X.w) := by
  intro pins s σ H xs us Q I r h
  obtain ⟨l, ns, rfl, hq, hn, q⟩ := h
  obtain ⟨its, rv, pl, hz⟩ := I.list hq
  rw [Vals.ref1 r]
  refine call_setTx ns (I.ok.hd hc) pl.isList (by simpa using strsAre_of rv) (by unfold scanBound; omega) fun h' tk R k => ?_
  exact ⟨.ref _, upd H s.heap.objs.size (SetTO X.prog X.w s.heap.objs.size (setT ns)), I.laid (t' := tk) k (Nat.le_refl _) (setTO_new R), rfl, q _ (I.hok.fresh (Nat.le_refl _))⟩
def rSortTx (P : Program) (w : World) : List V → Hp → VK → Prop := fun vs H Q => ∃ (a : Addr) (ks : List Str), vs = [V.ref a] ∧ H a = some (SetTO P w a ks) ∧ ks.length < 64 ∧
  ∀ (ys : List Str) (p : Addr), ys.Perm ks → sortedS ys = true → H p = none → Q (.ref p) (upd H p (.lst (ys.map V.str)))
theorem cr_sortTx (hc : X.calm = true) : CallR X (.builtin "sorted") (rSortTx X.prog X.w) := by
  intro pins s σ H vs us Q I r h
  obtain ⟨a, ks, rfl, ha, h64, q⟩ := h
  have R := setTO_get I ha
  rw [Vals.ref1 r]
  refine sorted_setTx R (I.ok.hd hc) h64 fun s' p out c ys k g o hp hg hi hm hs => ?_
  have hlen : (ys.map V.str).length ≤ sizeLine := by rw [List.length_map, hm.length_eq, sizeLine_eq]; omega
  have hn : H p = none := I.hok.fresh hp
  have J : Inv X pins σ (upd H p (.lst (ys.map V.str))) { s with heap := s'.heap, gens := s'.gens, drawn := s'.drawn, toks := s'.toks } :=
    I.call (ch := []) (Un.laid k hp hn) (I.hok.laid k hp ⟨hlen, out.toList, c, vals_of_strs hi, hg⟩) (by rw [g]; exact I.bare) (fun _ z => nomatch z)
  have e : s' = { s with heap := s'.heap, gens := s'.gens, drawn := s'.drawn, toks := s'.toks } := by
    cases s'
    cases s
    cases o
    rfl
  rw [e]
  exact ⟨.ref p, _, J, rfl, q ys p hm hs hn⟩
end
theorem reps_strs {K : PySem.W.Frag} {F : Hp} : ∀ {ns : List Str} {vs : List V}, Reps K F vs (ns.map D.str) → vs = ns.map V.str
  | [], _, .nil => rfl
  | n :: ns, _, .cons r rr => by
    cases r
    rw [reps_strs rr, List.map_cons]
theorem strs_reps {K : PySem.W.Frag} {F : Hp} : ∀ (ns : List Str), Reps K F (ns.map V.str) (ns.map D.str)
  | [] => .nil
  | n :: ns => .cons (.str n) (strs_reps ns)
section
variable {X : Cx} {Z : Wish} {δ : Env} {μ : Store} {e : Expr} {p p2 q pos : Pos}
/-- sorted(set(e)), e a list of texts -/
theorem ve_sortSet {P : D → Store → Prop} (hc : X.calm = true) (hm : X.mg "sorted" = none) (hm2 : X.mg "set" = none)
    (h : VA X Z [e] δ μ fun xs μ1 => ∃ ns : List Str, xs = [.lst (ns.map D.str)] ∧ ns.length < 64 ∧ ∀ ys : List Str, ys.Perm (setT ns) → sortedS ys = true → P (.lst (ys.map D.str)) μ1) (hg : Gl X "sorted" := by rfl) (hg2 : Gl X "set" := by rfl)
    (he : starEach [e] X.env = (false, eval e X.env) :: starEach [] X.env := by rfl) (he2 : starEach [.Call (.Name "set" p2) [e] [] q] X.env = (false, eval (.Call (.Name "set" p2) [e] [] q) X.env) :: starEach [] X.env := by rfl) :
    VE X Z (.Call (.Name "sorted" p) [.Call (.Name "set" p2) [e] [] q] [] pos) δ μ P := by
  refine ve_of (pe_callB (cr_sortTx hc) hg hm boot_sorted (pa_cons (pe_callTy (cr_setTx hc) hg2 hm2 boot_set pa_r (by decide) (by decide) he rfl) pa_nil he2) (by decide) (by decide) he2 rfl) ?_
  intro σ F H Q s c k z
  show rA X [e] σ H _
  refine h σ F H _ s c (fun vs ds μ1 F1 H1 ⟨ns, ed, hn, k0⟩ m1 c1 r1 => ?_) z
  subst ed
  obtain ⟨v, rfl, r2⟩ := reps1 r1
  obtain ⟨a, xs, rfl, ea, ra⟩ := rep_ll r2
  have ex := reps_strs ra
  subst ex
  refine ⟨a, ns, rfl, sq_list c1.ex ea, by omega, fun p0 n0 => ?_⟩
  have c2 := cm_new (o := SetTO X.prog X.w p0 (setT ns)) c1 n0
  have m2 := mv_new (o := SetTO X.prog X.w p0 (setT ns)) c1 n0
  refine ⟨p0, setT ns, rfl, upd_same .., Nat.lt_of_le_of_lt setT_len hn, fun ys p1 hp hs n1 => ?_⟩
  have c3 := cm_new (o := .lst (ys.map V.str)) c2 n1
  have m3 := mv_new (o := .lst (ys.map V.str)) c2 n1
  exact k _ _ μ1 _ _ (k0 ys hp hs) (m1.trans (m2.trans m3)) c3 (.lst (upd_same ..) (strs_reps ys))
end
end VL
set_option Elab.async false
set_option linter.all false
set_option maxRecDepth 100000
set_option maxHeartbeats 4000000
/-! VFZ: a variable's mutable list is frozen between statements. -/
namespace VL
open PySem PySem.Spec PyProof.Rows L2
theorem Slots.frz {K : PySem.W.Frag} {F F' : Hp} {l : Addr} {d : D} (e : Same F F') (r : Rep K F' (.ref l) d) : ∀ {σ : L2.St} {δ : List (Option D)} (i : Nat), Slots K F σ δ → δ[i]? = some (some (.ref l)) → Slots K F' σ (δ.set i (some d))
  | _, _, _, .nil, h => by simp at h
  | _, _, 0, .no _, h => by simp at h
  | _, _, 0, .yes g s, h => by
    simp at h
    subst h
    cases g
    exact .yes r (s.mono e)
  | _, _, i + 1, .no s, h => .no (Slots.frz e r i s (by simpa using h))
  | _, _, i + 1, .yes g s, h => .yes (g.mono e) (Slots.frz e r i s (by simpa using h))
theorem vss_frz {X : Cx} {Z : Wish} {δ : Env} {μ : Store} {st : List Stmt} {P : Fl → Store → Prop} (i j : Nat) {l : Addr} {xs : List D} (hi : δ[i]? = some (some (.ref l))) (hj : μ[j]? = some (l, .lst xs)) (h : VSs X Z st (δ.set i (some (.lst xs))) (μ.eraseIdx j) P) : VSs X Z st δ μ P := fun σ F H Dn s c k z => by
  obtain ⟨_, vs, hl, rv⟩ := c.mu _ (mem_at hj)
  have m2 := mv_frz hj hl c
  exact h σ _ H Dn (s.frz m2.up (.lst upd_same (rv.mono m2.up)) i hi) (cm_frz hj hl c) (k.mv m2) (z.mv m2)
end VL
set_option Elab.async false
set_option linter.all false
set_option maxRecDepth 100000
set_option maxHeartbeats 4000000
/-! VSL: a tuple's slice that is the whole. -/
namespace VL
open PySem PySem.Spec PyProof.Rows L2
section
open HT
variable {prog : Program} {w : World} {A : Around} {E : Value → Shared → Prop} {s : Shared}
theorem getItem_tuple_whole {t sl : Addr} {items : Array Value} {vl vu : Value} {lo hi : Option Int} {Q : Value → Shared → Prop} (ht : IsTup s.heap t items) (hs : s.heap.IsSliceOf sl vl vu .none) (pl : IsPart vl lo) (pu : IsPart vu hi)
    (hw : sIx items.size 0 lo = 0 ∧ sIx items.size items.size hi = items.size) (h : Q (.ref t) s) : wpAny (model prog w) A (getItem (.ref t) (.ref sl)) Q E s := by
  obtain ⟨os, hos, hcs, hds⟩ := id hs
  have hTs : s.TypeIs (.ref sl) "slice" := ⟨os, hos, hcs⟩
  unfold getItem
  try with_reducible refine wpAny_holding ?_
  first | refine wpAny_bind (wpAny_pure ?_) | skip
  refine wpAny_bind (wpAny_sequenceKey ht.typeIs (by decide) ?_)
  refine wpAny_bind (wpAny_callSpecial?_slot (name := Str.ofString "__getitem__") ht.typeIs PyProof.Rows.slot_tuple_getitem
    (wpAny_call_entry PyProof.Rows.slot_tuple_getitem ht.typeIs entry_tuple_getitem ?_ (args_tuple_getitem _ _)))
  show wpAny _ _ (Builtin.Tuple.tupleItemsOf (.ref t) >>= _) _ _ s
  refine wpAny_bind (tupleItemsOf_ ht ?_)
  refine wpAny_bind (wpAny_typeOf hTs ?_)
  rw [if_pos (by decide)]
  refine wpAny_bind (sliceApplied_gen hs pl pu ?_)
  have hyes : ((((sIx items.size 0 lo : Nat) : Int) == 0 && (1 : Int) == 1 && (sIx items.size items.size hi - sIx items.size 0 lo) == items.size) = true) := by
    rw [hw.1, hw.2]
    simp
  show wpAny _ _ (if (((sIx items.size 0 lo : Nat) : Int) == 0 && (1 : Int) == 1 && (sIx items.size items.size hi - sIx items.size 0 lo) == items.size) = true then _ else _) _ _ s
  rw [if_pos hyes]
  unfold Builtin.Tuple.tupleIsExact
  refine wpAny_bind (wpAny_bind (wpAny_typeOf ht.typeIs ?_))
  refine wpAny_pure ?_
  rw [if_pos (by decide)]
  refine wpAny_bind (wpAny_rule ?_)
  exact wpAny_pure ⟨_, rfl, wpAny_pure h⟩
end
section
variable {X : Cx} {Z : Wish} {δ : Env} {μ : Store} {e : Expr} {pos : Pos}
def rSlTW (K : PySem.W.Frag) : V → Option Int → Option Int → Hp → VK → Prop := fun x lo hi H Q => ∃ a xs, x = .ref a ∧ SqT K H a xs ∧ (HT.sIx xs.length 0 lo = 0 ∧ HT.sIx xs.length xs.length hi = xs.length) ∧ Q (.ref a) H
theorem sl_tupW : SlR X (rSlTW X.K) := by
  intro pins s σ H x v vl vu lo hi sl Q I rx hs pl pu h
  obtain ⟨a, xs, rfl, hx, hw, q⟩ := h
  cases rx
  obtain ⟨its, r, ht, hz⟩ := I.tuple hx
  have hlen : its.toArray.size = xs.length := by rw [List.size_toArray]; exact r.length.symm
  refine ⟨"tuple", _, PyProof.Rows.slot_tuple_getitem.lookup, ht.typeIs, ?_⟩
  refine getItem_tuple_whole ht hs pl pu (by rw [hlen]; exact hw) ?_
  exact ⟨.ref a, H, I, rfl, q⟩
abbrev rSlB (K : PySem.W.Frag) : V → Option Int → Option Int → Hp → VK → Prop := fun x lo hi H Q => rSlA K x lo hi H Q ∨ rSlTW K x lo hi H Q
theorem ve_sliceB {lo hi : Option Expr} {p2 : Pos} {P : D → Store → Prop} (h : VE X Z e δ μ fun x μ1 => VO X Z lo δ μ1 fun l μ2 => VO X Z hi δ μ2 fun u μ3 => WSl X.K Z (rSlB X.K) x l u μ3 P) : VE X Z (.Subscript e (.Slice lo hi none p2) pos) δ μ P := ve_of (pe_slice (sl_all.or sl_tupW) pe_r po_r po_r) (we_sl h)
theorem wslB_tup {K : PySem.W.Frag} {xs : List D} {lo hi : Option Int} {P : D → Store → Prop} (p : P (.tup (VL.cutD xs lo hi)) μ) : WSl K Z (rSlB K) (.tup xs) lo hi μ P := fun v F H Q c r k z => by
  by_cases h : HT.sIx xs.length 0 lo = 0 ∧ HT.sIx xs.length xs.length hi = xs.length
  · obtain ⟨a, ys, e0, e, ry⟩ := rep_tt r
    subst e0
    have e1 : VL.cutD xs lo hi = xs := by
      unfold VL.cutD
      rw [h.1, h.2]
      simp
    rw [e1] at p
    exact .inr ⟨a, ys, rfl, same_t c.ex e, by rw [ry.length]; exact h, k _ _ _ _ _ p (Mv.refl ..) c r⟩
  · exact .inl (wsl_tup h p v F H Q c r k z)
theorem wslB_lst {K : PySem.W.Frag} {xs : List D} {lo hi : Option Int} {P : D → Store → Prop} (p : P (.lst (VL.cutD xs lo hi)) μ) : WSl K Z (rSlB K) (.lst xs) lo hi μ P := fun v F H Q c r k z => .inl (wsl_lst p v F H Q c r k z)
theorem WSl.imp {K : PySem.W.Frag} {r : V → Option Int → Option Int → Hp → VK → Prop} {x : D} {lo hi : Option Int} {P P' : D → Store → Prop} (h : WSl K Z r x lo hi μ P) (i : ∀ d μ', P d μ' → P' d μ') : WSl K Z r x lo hi μ P' :=
  fun v F H Q c r1 k z => h v F H Q c r1 (fun w d μ' F' H' p => k w d μ' F' H' (i d μ' p)) z
theorem cutD_tl {xs : List D} : VL.cutD xs (some 1) none = xs.drop 1 := by
  cases xs with
  | nil => rfl
  | cons x xs => exact cutD_tail (by simp)
end
end VL
set_option Elab.async false
set_option linter.all false
set_option maxRecDepth 100000
set_option maxHeartbeats 4000000
/-! VEX1: errors of own classes: made by an own base's __init__, raised. -/
namespace VL
open PySem PySem.Spec PyProof.Rows L2
section
variable {X : Cx} {e : Expr} {es : List Expr} {ta : TA} {p1 p2 pos : Pos} {x : Str} {C0 : Addr} {mc : Value}
/-- B.__init__(self, ..), B an own class that has ValueError's -/
theorem pe_hinit {pl : Sem Bool} (hg : Gl X x) (hm : X.mg x = some (.ref C0)) (r : ClX.CRead X.K C0 mc) (vV : PySem.W.findCls X.K (.ref C0) mc "__init__" = some (.val (.builtin "ValueError.__init__"))) (ha : PA X (e :: es) ta) (hdb : (x == ("__debug__" : Str)) = false := by decide)
    (hc : eval (.Call (.Attribute (.Name x p1) "__init__" p2) (e :: es) [] pos) X.env = (do
      let ov ← eval (.Name x p1) X.env
      standAt p2.atName
      let (f, first) ← holding [ov] (getMethod ov "__init__" pl)
      callWith pos f first (backTo pos (starEach (e :: es) X.env)) (backToKw pos (keywordEach [] X.env))) := by rfl)
    (he : starEach (e :: es) X.env = (false, eval e X.env) :: starEach es X.env := by rfl) (hpl : (backTo pos (starEach es X.env)).any (·.1) = false := by rfl) :
    PE X (.Call (.Attribute (.Name x p1) "__init__" p2) (e :: es) [] pos) (tVeI X.K ta) := by
  refine ⟨fun pins s σ H Q I h => ?_⟩
  refine PySem.W.methodCall_KW (ld_glob I hg hm ?_ hdb) hc
  refine PySem.W.method_cls I.kIn r.ga (PySem.W.cls_value I.kIn r.rd vV (by decide +kernel) ?_)
  show wpAny _ _ (callWith pos (Value.builtin "ValueError.__init__") [] (backTo pos (starEach (e :: es) X.env)) []) _ _ _
  refine PyProof.Rows.callWith_method1 (thn (ha.run pos pins _ σ H _ (I.tok _) h) fun us s1 ⟨vs, H1, I1, r1, a, C, ws, ev, hl, T, ea, q⟩ => ?_) he hpl
  subst ev
  cases r1 with
  | @cons _ u0 _ ur ra rw' =>
    obtain rfl : u0 = Value.ref a := ra
    have hlen : ur.length ≤ sizeLine := by
      rw [← Paired.length rw', sizeLine_eq]
      omega
    exact oinit_ok T I1 ea hlen fun s' J => ⟨.non, H1, J, rfl, q⟩
end
end VL
set_option Elab.async false
set_option linter.all false
set_option maxRecDepth 100000
set_option maxHeartbeats 4000000
/-! VEX2: raise C(e), C an own error of one field. -/
namespace VL
open PySem PySem.Spec PyProof.Rows L2
/-- what an error's __init__ does, f its one field -/
def spErr (C : Addr) (f : Str) : Sp := fun vs H Q E => ∃ (a : Addr) (v : V), vs = [.ref a, v] ∧ H a = some (exo a C none) ∧ ∀ dx, H dx = none → dx ≠ a → Q .non (upd (upd H dx (exd dx [(f, v)])) a (exo a C (some dx)))
/-- the error class x at C is made so -/
structure MkE (P : Program) (w : World) (K : PySem.W.Frag) (mg : Str → Option Value) (base : Heap) (k : Nat) (x : Str) (C : Addr) (f : Str) : Prop where
  ex : ∃ (fI : Addr) (fd : FuncData) (ps : List Str), OexC K C ∧ PySem.W.findIn K (.ref C) "__init__" = some (some (.ref fI)) ∧ PySem.W.typeIn K (.ref fI) = some (.type "function") ∧ FnOk P w K mg base (L2.CX P w) k fI fd ps (spErr C f) ∧ Binds K fd ps [] ∧ mg x = some (.ref C)
section
variable {X : Cx} {Z : Wish} {δ : Env} {μ : Store} {P : Fl → Store → Prop} {e : Expr} {k j : Nat} {x f : Str} {C : Addr} {p pos pos' : Pos}
theorem vs_raise (m : MkE X.prog X.w X.K X.mg X.base k x C f) (fx : Fx X Z j) (tk : Takes X (fun cls d _ H => Z.E cls d H)) (h : VE X Z e δ μ fun d μ1 => Z.R C [(f, d)] μ1)
    (hk : k + 1 ≤ j := by first | assumption | decide | omega) (hg : Gl X x := by rfl) (hdb : (x == ("__debug__" : Str)) = false := by decide)
    (he : starEach [e] X.env = (false, eval e X.env) :: starEach [] X.env := by rfl) (hpl : (backTo pos (starEach [] X.env)).any (·.1) = false := by rfl) :
    VS X Z (.Raise (some (.Call (.Name x p) [e] [] pos)) none pos') δ μ P := by
  obtain ⟨fI, fd, ps, T, iC, tI, F1, hb, hm⟩ := m.ex
  refine vs_of (ps_raise fx.kx.calm tk (pmk_oex T iC tI F1 (fx.rm.mono hk) hb .nil (fun _ _ _ _ _ _ _ hh => by obtain ⟨_, _, _, _, _, _, _, _, _, _, _, _, hh⟩ := hh; exact hh.elim) hg hm (pa_cons pe_r pa_nil he) hdb he hpl)) ?_
  intro σ F H Dn s c kk z
  refine h σ F H _ s c (fun v d μ1 F1' H1 r1 m1 c1 rv => ?_) z
  refine ⟨by simp, fun a na => ⟨a, v, rfl, upd_same, fun dx n ne => ?_⟩⟩
  have n1 : H1 dx = none := by rw [upd_ne ne] at n; exact n
  refine ⟨rfl, dx, [(f, v)], upd_same, by rw [upd_ne ne, upd_same], n1, ?_⟩
  have eH : upd (del (upd (upd (upd H1 a (exo a C none)) dx (exd dx [(f, v)])) a (exo a C (some dx))) a) dx (.xd [(f, v)]) = upd H1 dx (.xd [(f, v)]) := by
    funext b
    by_cases h1 : b = dx
    · subst h1; rw [upd_same, upd_same]
    · rw [upd_ne h1, upd_ne h1]
      by_cases h2 : b = a
      · subst h2; rw [del_same, na]
      · rw [del_ne h2, upd_ne h2, upd_ne h1, upd_ne h2]
  rw [eH]
  have m2 := mv_new (o := .xd [(f, v)]) c1 n1
  exact z C [(f, d)] μ1 _ _ dx [(f, v)] r1 (m1.trans m2) (cm_new c1 n1) upd_same (.cons (rv.mono m2.up) .nil)
end
end VL
set_option Elab.async false
set_option linter.all false
set_option maxRecDepth 100000
set_option maxHeartbeats 4000000
/-! VEX3: try: g(..) except C as n: x = n.f -/
namespace VL
open PySem PySem.Spec PyProof.Rows L2
section
variable {X : Cx} {Z : Wish} {δ : Env} {μ : Store} {P : Fl → Store → Prop} {e : Expr} {es : List Expr} {k j i ix : Nat} {g x n fld cn : Str} {CB : Addr} {S : FSpec} {t : TA} {p p1 p2 p3 p4 p5 p6 p7 p8 pos : Pos}
theorem set_three {α : Type} {l : List α} {i ix : Nat} {y z u : α} (h : i ≠ ix) : ((l.set i y).set ix z).set i u = (l.set ix z).set i u := by
  rw [List.set_comm z u (Ne.symm h), List.set_set, List.set_comm u z h]
theorem vs_tryFld (hs : X.stack = X.env :: X.outer) (hf : X.env.frame = some X.env.locals) (c : Cal X.prog X.w X.K X.mg X.base k g S []) (fx : Fx X Z j) (tk0 : Takes X (fun cls d _ H => Z.E cls d H))
    (i ix : Nat) (hi : X.N[i]? = some n) (hln : X.env.kindOf n = some .local) (hix : X.N[ix]? = some x) (hlx : X.env.scope.names.lookup x = some .local) (hne : i ≠ ix) (hil : i < (δ : List (Option D)).length) (hc : X.mg cn = some (.ref CB)) (XF : XfC X.K CB) (hno : PySem.W.findIn X.K (.ref CB) fld = some none)
    (hex : PySem.W.exmOne X.K (.ref CB) (.ref CB) = some true) (ht : ∀ pn xe, PA (X.tr pn xe) (e :: es) t)
    (h : WA X.K Z t δ μ fun xs μ1 => S xs μ1 (fun d μ2 => P (.nx δ) μ2) (fun C fs μ2 => C = CB ∧ ∃ v, fs.lookup fld = some v ∧ P (.nx ((δ.set ix (some v)).set i none)) μ2))
    (hk : k ≤ j := by first | assumption | decide | omega) (hg : Gl X g := by rfl) (hgc : Gl X cn := by rfl) (hdb : (g == ("__debug__" : Str)) = false := by decide) (hdc : (cn == ("__debug__" : Str)) = false := by decide)
    (hv : Vis X.env.scope n := by first | exact Or.inl rfl | exact Or.inr (Or.inl rfl) | exact Or.inr (Or.inr rfl)) (hn1 : (n == ("__debug__" : Str)) = false := by decide) (hn2 : (n == ("__classdict__" : Str)) = false := by decide)
    (he : starEach (e :: es) X.env = (false, eval e X.env) :: starEach es X.env := by rfl) (hpl : (backTo p (starEach es X.env)).any (·.1) = false := by rfl)
    (hse : swapsWith (.Call (.Name g p1) (e :: es) [] p) none p2.line X.env = pure false := by rfl) (hsa : swapsWith (.Attribute (.Name n p3) fld p4) (some (.Name x p5)) p6.line X.env = pure false := by rfl)
    (hb0 : attributeBase (.Name n p3) fld X.env (eval (.Name n p3) X.env) = eval (.Name n p3) X.env := by rfl) :
    VS X Z (.Try [.Expr (.Call (.Name g p1) (e :: es) [] p) p2] [.ExceptHandler (some (.Name cn p7)) (some n) [.Assign [.Name x p5] (.Attribute (.Name n p3) fld p4) p6] p8] [] [] pos) δ μ P := by
  obtain ⟨f, fd, ps, ds, dvs, F, hm, kp, b, d0, r0⟩ := c.ex
  have e1 : dvs = [] := by
    have := r0 fun _ => none
    cases this
    rfl
  subst e1
  have e2 : ds = [] := by
    cases d0
    rfl
  subst e2
  refine vs_of (ps_try_as (tb := fun W => tDrop (tCallS (spOf X.K S) (L2.WE W) t)) (ts := fun a cls d => tAsg (tXf a cls d CB fld (tVar i)) (gName ix)) (Wout := fun cls d _ H => Z.E cls d H) hs hf fx.kx.nd hi hln ⟨hgc, hdc, .inl hc⟩ tk0
    (fun W pn xe tkW ow => pss_one (ps_expr (pe_callS F (fx.rm.mono hk) hg hm kp b (fun σ => passAt tkW σ) (ht pn xe) hdb he hpl) hse))
    (fun a oe cls d pn hz hfl => pss_one (ps_set fx.kx.nd hix (.inl hlx) (pe_xf XF hno hz hfl (pe_var hi hv hn1 hn2) hb0) hsa (.inr hlx)))) ?_
  intro σ F0 H Dn s c kk z
  refine h σ F0 H _ s c (fun vs xs μ1 F1 H1 p m1 c1 r1 => ⟨F1, xs, μ1, _, _, r1, c1, p, fun v d μ' F' H' q m2 c2 r2 => kk.nx σ δ μ' F' H' q (m1.trans m2) c2 (s.mono (m1.trans m2).up), fun C fs μ' F' H' dd fv hR m2 c2 hd rf => ?_⟩) z
  obtain ⟨rfl, v, hl, q⟩ := hR
  obtain ⟨u, hu, ru⟩ := rf.find hl
  refine ⟨true, hex, fun _ a na => ?_, fun hh => by cases hh⟩
  refine ⟨.ref a, List.getElem?_set_self (by rw [s.len]; exact hil), rfl, rfl, dd, fv, u, rfl, c2.ex _ _ hd, hu, ?_⟩
  show Dn.nx (((σ.set i (some (.ref a))).set ix (some u)).set i none) H'
  rw [set_three hne]
  exact kk.nx _ _ μ' F' H' q (m1.trans m2) c2 (((s.mono (m1.trans m2).up).set ru ix).unset i)
end
end VL
set_option Elab.async false
set_option linter.all false
set_option maxRecDepth 100000
set_option maxHeartbeats 4000000
/-! VDC: a mutable dict is frozen at once. -/
namespace VL
open PySem PySem.Spec PyProof.Rows L2
section
variable {X : Cx} {Z : Wish} {δ : Env} {μ : Store} {e : Expr} {P : D → Store → Prop}
theorem ve_frzD (h : VE X Z e δ μ fun d μ1 => ∃ (j : Nat) (l : Addr) (kvs : List (Key × D)), d = .ref l ∧ μ1[j]? = some (l, .dct kvs) ∧ P (.dct kvs) (μ1.eraseIdx j)) : VE X Z e δ μ P := fun σ F H Q s c k z =>
  h σ F H Q s c (fun v d μ1 F1 H1 ⟨j, l, kvs, e, hj, p⟩ m1 c1 r1 => by
    subst e
    obtain ⟨_, kv, hl, rv⟩ := c1.mu _ (mem_at hj)
    cases r1
    have m2 := mv_frz hj hl c1
    exact k _ _ _ _ _ p (m1.trans m2) (cm_frz hj hl c1) (.dct upd_same (rv.mono m2.up))) z
end
end VL
set_option Elab.async false
set_option linter.all false
set_option maxRecDepth 100000
set_option maxHeartbeats 4000000
/-! VTA: t + u of tuples, t empty as well. -/
namespace VL
open PySem PySem.Spec PyProof.Rows L2
section
open HT
variable {prog : Program} {w : World} {A : Around} {E : Value → Shared → Prop} {s : Shared}
theorem cat_tup0 {t b : Addr} {ws : List Value} {Q : Value → Shared → Prop} (ht : IsTup s.heap t ([] : List Value).toArray) (hb : IsTup s.heap b ws.toArray)
    (h1 : Q (.ref b) s) : wpAny (model prog w) A (binaryOp .Add (.ref t) (.ref b)) Q E s := by
  obtain ⟨⟨cls, dd, data, sl⟩, ho, hc, n, hd⟩ := id ht
  obtain ⟨⟨cls2, dd2, data2, sl2⟩, ho2, hc2, n2, hd2⟩ := id hb
  simp only at hc hd hc2 hd2
  subst hc hd hc2 hd2
  exact concat_meets ⟨_, ho, rfl⟩ ⟨_, ho2, rfl⟩ noFill_tuple_add seq_tuple_add PySem.F.slot_tuple_add PySem.F.entry_tuple_add (PySem.F.args_tuple_add_2 _ _)
      (tuple_addW0 t b _ ws.toArray n n2 dd dd2 sl sl2 (by simp)) ⟨ho, ho2, h1⟩
end
section
variable {X : Cx} {Z : Wish} {δ : Env} {μ : Store} {a b : Expr} {pos : Pos}
/-- t + u, t empty: u itself -/
def rCatT0 (K : PySem.W.Frag) : R2 := fun x y H Q => ∃ a b ys, x = .ref a ∧ y = .ref b ∧ SqT K H a [] ∧ SqT K H b ys ∧ Q (.ref b) H
theorem op_catT0 : OpR X (binaryOp .Add) (rCatT0 X.K) := by
  intro pins s σ H x y v u Q I rx ry h
  obtain ⟨a, b, ys, rfl, rfl, ha, hb, q1⟩ := h
  cases rx
  cases ry
  obtain ⟨its, r1, p1, _⟩ := I.tuple ha
  obtain ⟨its2, r2, p2, _⟩ := I.tuple hb
  cases r1
  exact cat_tup0 p1 p2 ⟨.ref b, H, I, rfl, q1⟩
abbrev rAddE (K : PySem.W.Frag) : R2 := fun x y H Q => rAddU K x y H Q ∨ rCatT0 K x y H Q
theorem ve_addE {P : D → Store → Prop} (h : VE X Z a δ μ fun x μ1 => VE X Z b δ μ1 fun y μ2 => WOp X.K Z (rAddE X.K) x y μ2 P) : VE X Z (.BinOp a .Add b pos) δ μ P := ve_of (pe_op (op_addU.or op_catT0) pe_r pe_r) (we_op h)
theorem wop_e {K : PySem.W.Frag} {x y : D} {P : D → Store → Prop} (h : WOp K Z (rAddU K) x y μ P) : WOp K Z (rAddE K) x y μ P := fun v u F H Q c r1 r2 k z => .inl (h v u F H Q c r1 r2 k z)
theorem wop_addE_tup {K : PySem.W.Frag} {i j : List D} {P : D → Store → Prop} (h : i.length + j.length ≤ 100000) (p : P (.tup (i ++ j)) μ) : WOp K Z (rAddE K) (.tup i) (.tup j) μ P := by
  cases i with
  | cons x i => exact wop_e (wop_add_tup (by simp) h p)
  | nil =>
    intro v u F H Q c r1 r2 k z
    obtain ⟨a, xs, rfl, e, r⟩ := rep_tt r1
    obtain ⟨b, ys, rfl, e', r'⟩ := rep_tt r2
    cases r
    exact .inr ⟨a, b, ys, rfl, rfl, same_t c.ex e, same_t c.ex e', k _ _ _ _ _ p (Mv.refl ..) c r2⟩
end
end VL
set_option Elab.async false
set_option linter.all false
set_option maxRecDepth 100000
set_option maxHeartbeats 4000000
/-! VTR: xs[::-1] of a tuple or a list. -/
namespace VL
open PySem PySem.Spec PyProof.Rows L2
section
open HT
variable {prog : Program} {w : World} {A : Around} {E : Value → Shared → Prop} {s : Shared}
theorem adjust_rev (n : Int) : Builtin.Slice.sliceAdjust none none (-1) n = (n - 1, -1) := rfl
theorem places_rev (n : Nat) : Builtin.Slice.slicePlaces ((n : Int) - 1) (-1) (-1) = n := by
  unfold Builtin.Slice.slicePlaces
  rw [if_neg (by decide)]
  split
  · rw [show (-(-1) : Int) = 1 by decide, Int.ediv_one]
    omega
  · omega
theorem sliceApplied_rev {sl : Addr} {vl vu vs : Value} {n : Nat} {Q : Int × Int × Nat → Shared → Prop} (hs : s.heap.IsSliceOf sl vl vu vs) (pl : IsPart vl none) (pu : IsPart vu none) (ps : IsPart vs (some (-1)))
    (h : Q ((n : Int) - 1, -1, n) s) : wpAny (model prog w) A (Builtin.Slice.sliceApplied (.ref sl) (pure (n : Int))) Q E s := by
  obtain ⟨os, hos, hcs, hds⟩ := id hs
  unfold Builtin.Slice.sliceApplied Builtin.Slice.sliceFields
  refine wpAny_bind (wpAny_bind (wpAny_field hos hds (x := vl) rfl (wpAny_bind (wpAny_field hos hds (x := vu) rfl (wpAny_bind (wpAny_field hos hds (x := vs) rfl (wpAny_pure ?_)))))))
  refine wpAny_bind (slicePart_ ps ?_)
  show wpAny _ _ (if ((-1 : Int) == 0) = true then _ else _) _ _ s
  rw [if_neg (by decide)]
  refine wpAny_bind (slicePart_ pl (wpAny_bind (slicePart_ pu (wpAny_bind (wpAny_pure ?_)))))
  show wpAny _ _ (match Builtin.Slice.sliceAdjust none none (-1) (n : Int) with | (lo, hi) => pure (lo, (-1 : Int), Builtin.Slice.slicePlaces lo hi (-1))) _ _ s
  rw [adjust_rev]
  show wpAny _ _ (pure ((n : Int) - 1, (-1 : Int), Builtin.Slice.slicePlaces ((n : Int) - 1) (-1) (-1))) _ _ s
  rw [places_rev]
  exact wpAny_pure h
theorem filterMap_same {α β : Type} {f g : α → Option β} : ∀ {l : List α}, (∀ k ∈ l, f k = g k) → l.filterMap f = l.filterMap g
  | [], _ => rfl
  | a :: l, h => by
    rw [List.filterMap_cons, List.filterMap_cons, h a (List.mem_cons_self ..), filterMap_same fun k m => h k (List.mem_cons_of_mem _ m)]
theorem pick_rev (xs : Array Value) : ((List.range xs.size).filterMap fun (m : Nat) => xs[(((xs.size : Int) - 1) + (m : Int) * -1).toNat]?).toArray = xs.toList.reverse.toArray := by
  have e : ((List.range xs.size).filterMap fun (m : Nat) => xs[(((xs.size : Int) - 1) + (m : Int) * -1).toNat]?) = ((List.range xs.size).map fun k => xs.size - 1 - k).filterMap (xs[·]?) := by
    rw [List.filterMap_map]
    apply filterMap_same
    intro k hk
    have := List.mem_range.mp hk
    have e : (((xs.size : Int) - 1) + (k : Int) * -1).toNat = xs.size - 1 - k := by omega
    show xs[_]? = xs[_]?
    rw [e]
  rw [e, PySem.W.krv_range, List.filterMap_reverse, PySem.W.krv_all]
theorem getItem_tuple_rev {t sl : Addr} {items : Array Value} {vl vu vs : Value} {Q : Value → Shared → Prop} (ht : IsTup s.heap t items) (hs : s.heap.IsSliceOf sl vl vu vs) (pl : IsPart vl none) (pu : IsPart vu none) (ps : IsPart vs (some (-1)))
    (h : Q (.ref s.heap.objs.size) { s with heap := s.heap.push { cls := .type "tuple", data := .seq items.toList.reverse.toArray } })
    (hsz : items.size ≤ sizeLine) : wpAny (model prog w) A (getItem (.ref t) (.ref sl)) Q E s := by
  have htake : sizeOk (.seq items.toList.reverse.toArray) := by
    show items.toList.reverse.toArray.size ≤ sizeLine
    rw [List.size_toArray, List.length_reverse, Array.length_toList]
    omega
  obtain ⟨os, hos, hcs, hds⟩ := id hs
  have hTs : s.TypeIs (.ref sl) "slice" := ⟨os, hos, hcs⟩
  unfold getItem
  try with_reducible refine wpAny_holding ?_
  first | refine wpAny_bind (wpAny_pure ?_) | skip
  refine wpAny_bind (wpAny_sequenceKey ht.typeIs (by decide) ?_)
  refine wpAny_bind (wpAny_callSpecial?_slot (name := Str.ofString "__getitem__") ht.typeIs PyProof.Rows.slot_tuple_getitem
    (wpAny_call_entry PyProof.Rows.slot_tuple_getitem ht.typeIs entry_tuple_getitem ?_ (args_tuple_getitem _ _)))
  show wpAny _ _ (Builtin.Tuple.tupleItemsOf (.ref t) >>= _) _ _ s
  refine wpAny_bind (tupleItemsOf_ ht ?_)
  refine wpAny_bind (wpAny_typeOf hTs ?_)
  rw [if_pos (by decide)]
  refine wpAny_bind (sliceApplied_rev hs pl pu ps ?_)
  have hno : ¬ ((((items.size : Int) - 1) == 0 && (-1 : Int) == 1 && items.size == items.size) = true) := by
    rw [show ((-1 : Int) == 1) = false by decide, Bool.and_false, Bool.false_and]
    decide
  show wpAny _ _ (if (((items.size : Int) - 1) == 0 && (-1 : Int) == 1 && items.size == items.size) = true then _ else _) _ _ s
  rw [if_neg hno, pick_rev]
  first
    | exact wpAny_bind (m := Builtin.Tuple.tupleExact _) (wpAny_newObj_type (wpAny_pure ⟨_, rfl, wpAny_pure h⟩) htake)
    | exact wpAny_bind (m := Builtin.Tuple.tupleExact _) (wpAny_newObj_type (wpAny_bind (wpAny_pure (wpAny_pure ⟨_, rfl, wpAny_pure h⟩))) htake)
    | exact wpAny_bind (wpAny_bind (m := Builtin.Tuple.tupleExact _) (wpAny_newObj_type (wpAny_pure (wpAny_pure ⟨_, rfl, wpAny_pure h⟩)) htake))
    | exact wpAny_bind (wpAny_bind (m := Builtin.Tuple.tupleExact _) (wpAny_newObj_type (wpAny_pure ⟨_, rfl, wpAny_pure h⟩) htake))
end
section
variable {X : Cx} {Z : Wish} {δ : Env} {μ : Store} {e : Expr} {pos : Pos}
def rRev (K : PySem.W.Frag) : V → Hp → VK → Prop := fun x H Q => (∃ a xs, x = .ref a ∧ SqL K H a xs ∧ ∀ p, H p = none → Q (.ref p) (upd H p (.lst xs.reverse))) ∨ (∃ a xs, x = .ref a ∧ SqT K H a xs ∧ ∀ p, H p = none → Q (.ref p) (upd H p (.tup xs.reverse)))
theorem pe_rev {te : TE} {k : Nat} {p1 p2 p3 : Pos} (he : PE X e te) : PE X (.Subscript e (.Slice none none (some (.UnaryOp .USub (.Constant (.int 1) k p1) p2)) p3) pos) (tUn (rRev X.K) te) := by
  refine ⟨fun pins s σ H Q I h => ?_⟩
  refine Subscript_ (thn (he.run pins s σ H _ I h) fun v s1 ⟨x, H1, I1, r1, q1⟩ => ?_)
  have hst : PO X (some (.UnaryOp .USub (.Constant (.int 1) k p1) p2)) (tPart (tUn (rU fun i => .int (-i)) (tC (.int 1)))) := po_some (pe_un un_neg pe_int)
  refine wpAny_Slice (thn (po_none.run pins s1 σ H1 (fun o H2 => o = none ∧ H2 = H1) I1 ⟨rfl, rfl⟩) fun vl s2 ⟨l, H2, I2, pl, el, e2⟩ => ?_)
  subst el e2
  refine thn (po_none.run pins s2 σ H2 (fun o H3 => o = none ∧ H3 = H2) I2 ⟨rfl, rfl⟩) fun vu s3 ⟨u, H3, I3, pu, eu, e3⟩ => ?_
  subst eu e3
  refine thn (hst.run pins s3 σ H3 (fun o H4 => o = some (-1) ∧ H4 = H3) I3 ⟨1, rfl, -1, rfl, rfl, rfl⟩) fun vs s4 ⟨o, H4, I4, ps, eo, e4⟩ => ?_
  subst eo e4
  have I5 : Inv X pins σ H4 { s4 with heap := s4.heap.push { cls := .type "slice", data := .fields #[vl, vu, vs] } } := I4.kept (t' := s4.toks) fun b ob q => Heap.get?_push_of_some _ q
  rcases q1 with ⟨a, xs, ex, hx, q⟩ | ⟨a, xs, ex, hx, q⟩
  · subst ex
    cases r1
    obtain ⟨its, r, ht, hz⟩ := I5.list hx
    have hlen := r.length
    show wpAny (model X.prog X.w) X.A (subscriptTail e (.Slice none none (some (.UnaryOp .USub (.Constant (.int 1) k p1) p2)) p3) (.ref a) (.ref s4.heap.objs.size)) (EP X pins σ Q) X.xe { s4 with heap := s4.heap.push { cls := .type "slice", data := .fields #[vl, vu, vs] } }
    refine tail_any (ops := [.ref a, .ref s4.heap.objs.size]) ht.isList.typeIs (PySem.slot_list_getitem.lookup) ?_ (by with_unfolding_all rfl)
    refine wpAny_getItem_list_slice ht.isList (Heap.IsSliceOf.new _ vl vu vs) pl pu ps (by decide) ?_ (by rw [List.size_toArray]; omega)
    rw [PySem.W.krv_pick]
    refine ⟨.ref _, _, I5.laid (t' := s4.toks) (o := .lst xs.reverse) (fun b ob q => Heap.get?_push_of_some _ q) (Nat.le_refl _) ?_, rfl, q _ (I5.hok.fresh (Nat.le_refl _))⟩
    exact ⟨by rw [List.length_reverse]; exact hz, _, 0, r.reverse, Heap.get?_push_size _ rfl⟩
  · subst ex
    cases r1
    obtain ⟨its, r, ht, hz⟩ := I5.tuple hx
    have hlen := r.length
    show wpAny (model X.prog X.w) X.A (subscriptTail e (.Slice none none (some (.UnaryOp .USub (.Constant (.int 1) k p1) p2)) p3) (.ref a) (.ref s4.heap.objs.size)) (EP X pins σ Q) X.xe { s4 with heap := s4.heap.push { cls := .type "slice", data := .fields #[vl, vu, vs] } }
    refine tail_any (ops := [.ref a, .ref s4.heap.objs.size]) ht.typeIs (PyProof.Rows.slot_tuple_getitem.lookup) ?_ (by with_unfolding_all rfl)
    refine getItem_tuple_rev ht (Heap.IsSliceOf.new _ vl vu vs) pl pu ps ?_ (by rw [List.size_toArray]; omega)
    refine ⟨.ref _, _, I5.laid (t' := s4.toks) (o := .tup xs.reverse) (fun b ob q => Heap.get?_push_of_some _ q) (Nat.le_refl _) ?_, rfl, q _ (I5.hok.fresh (Nat.le_refl _))⟩
    exact ⟨by rw [List.length_reverse]; exact hz, _, r.reverse, IsTup.new _ _⟩
theorem reps_reverse {K : PySem.W.Frag} {F : Hp} : ∀ {vs : List V} {ds : List D}, Reps K F vs ds → Reps K F vs.reverse ds.reverse
  | _, _, .nil => .nil
  | _, _, .cons h r => by
    rw [List.reverse_cons, List.reverse_cons]
    exact (reps_reverse r).append (.cons h .nil)
theorem wun_rev_lst {K : PySem.W.Frag} {xs : List D} {P : D → Store → Prop} (p : P (.lst xs.reverse) μ) : WUn K Z (rRev K) (.lst xs) μ P := fun v F H Q c r k z => by
  obtain ⟨a, ys, e0, e, ry⟩ := rep_ll r
  subst e0
  refine .inl ⟨a, ys, rfl, sq_list c.ex e, fun q n => ?_⟩
  have m := mv_new (o := .lst ys.reverse) c n
  exact k _ _ _ _ _ p m (cm_new c n) (.lst upd_same ((reps_reverse ry).mono m.up))
theorem wun_rev_tup {K : PySem.W.Frag} {xs : List D} {P : D → Store → Prop} (p : P (.tup xs.reverse) μ) : WUn K Z (rRev K) (.tup xs) μ P := fun v F H Q c r k z => by
  obtain ⟨a, ys, e0, e, ry⟩ := rep_tt r
  subst e0
  refine .inr ⟨a, ys, rfl, same_t c.ex e, fun q n => ?_⟩
  have m := mv_new (o := .tup ys.reverse) c n
  exact k _ _ _ _ _ p m (cm_new c n) (.tup (SqT.of upd_same) ((reps_reverse ry).mono m.up))
theorem ve_rev {k : Nat} {p1 p2 p3 : Pos} {P : D → Store → Prop} (h : VE X Z e δ μ fun x μ1 => WUn X.K Z (rRev X.K) x μ1 P) : VE X Z (.Subscript e (.Slice none none (some (.UnaryOp .USub (.Constant (.int 1) k p1) p2)) p3) pos) δ μ P := ve_of (pe_rev pe_r) (we_un h)
end
end VL
set_option Elab.async false
set_option linter.all false
set_option maxRecDepth 100000
set_option maxHeartbeats 4000000
/-! VTJ: sep.join(list or tuple of texts). -/
namespace VL
open PySem PySem.Spec PyProof.Rows L2
section
variable {X : Cx} {Z : Wish} {δ : Env} {μ : Store} {o e : Expr} {pos apos : Pos}
/-- a list or tuple whose items are these texts -/
def TextsD (d : D) (ys : List Str) : Prop := d = .lst (ys.map D.str) ∨ d = .tup (ys.map D.str)
theorem reps_texts {K : PySem.W.Frag} {F : Hp} : ∀ {vs : List V} {ys : List Str}, Reps K F vs (ys.map D.str) → vs = ys.map V.str
  | _, [], .nil => rfl
  | _, y :: ys, .cons h r => by
    cases h
    rw [reps_texts r]
    rfl
theorem we_join {to te : TE} {P : D → Store → Prop} (h : WE X.K Z to δ μ fun x μ1 => ∃ a, x = .str a ∧ WE X.K Z te δ μ1 fun y μ2 => ∃ ys, TextsD y ys ∧ (ys.map (·.length)).sum + ys.length * a.length ≤ 16777216 ∧ P (.str (Txt.join a ys)) μ2) :
    WE X.K Z (tM1 (fun x xs H Q => ∃ a p, ∃ ys : List Str, x = .str a ∧ xs = [.ref p] ∧ (SqL X.K H p (ys.map V.str) ∨ SqT X.K H p (ys.map V.str)) ∧
      (ys.map (·.length)).sum + ys.length * a.length ≤ 16777216 ∧ Q (.str (Txt.join a ys)) H) to te) δ μ P := fun σ F H Q s c k z => by
  refine h σ F H _ s c (fun v x μ1 F1 H1 p m1 c1 r1 => ?_) z
  obtain ⟨a, rfl, p⟩ := p
  cases r1
  refine ⟨⟨a, rfl⟩, ?_⟩
  refine p σ F1 H1 _ (s.mono m1.up) c1 (fun v2 y μ2 F2 H2 p2 m2 c2 r2 => ?_) (z.mv m1)
  obtain ⟨ys, ty, hz, p2⟩ := p2
  rcases ty with rfl | rfl
  · obtain ⟨b, us, rfl, e, r⟩ := rep_ll r2
    rw [reps_texts r] at e
    exact ⟨a, b, ys, rfl, rfl, .inl (sq_list c2.ex e), hz, k _ _ _ _ _ p2 (m1.trans m2) c2 (.str _)⟩
  · obtain ⟨b, us, rfl, e, r⟩ := rep_tt r2
    rw [reps_texts r] at e
    exact ⟨a, b, ys, rfl, rfl, .inr (same_t c2.ex e), hz, k _ _ _ _ _ p2 (m1.trans m2) c2 (.str _)⟩
theorem ve_join {P : D → Store → Prop} (h : VE X Z o δ μ fun x μ1 => ∃ a, x = .str a ∧ VE X Z e δ μ1 fun y μ2 => ∃ ys, TextsD y ys ∧ (ys.map (·.length)).sum + ys.length * a.length ≤ 16777216 ∧ P (.str (Txt.join a ys)) μ2)
    (hs : starEach [e] X.env = [(false, eval e X.env)] := by rfl) (hbase : attributeBase o "join" X.env (eval o X.env) = eval o X.env := by rfl) (hline : (apos.endLine == pos.line) = true := by rfl) :
    VE X Z (.Call (.Attribute o "join" apos) [e] [] pos) δ μ P := ve_of (pe_join pe_r pe_r hs hbase hline) (we_join h)
end
end VL
set_option Elab.async false
set_option linter.all false
set_option maxRecDepth 100000
set_option maxHeartbeats 4000000
/-! VSP: s.split(sep): a list of texts, frozen at once. -/
namespace VL
open PySem PySem.Spec PyProof.Rows L2
section
variable {X : Cx} {Z : Wish} {δ : Env} {μ : Store} {o e : Expr} {pos apos : Pos}
theorem reps_txs {K : PySem.W.Frag} {F : Hp} : ∀ ys : List Str, Reps K F (ys.map V.str) (ys.map D.str)
  | [] => .nil
  | y :: ys => .cons (.str y) (reps_txs ys)
theorem we_split {to te : TE} {P : D → Store → Prop} (h : WE X.K Z to δ μ fun x μ1 => ∃ a, x = .str a ∧ WE X.K Z te δ μ1 fun y μ2 => ∃ b, y = .str b ∧ (b.length == 0) = false ∧ a.length + 2 ≤ sizeLine ∧ P (.lst ((Txt.split a b).map D.str)) μ2) :
    WE X.K Z (tM1 (fun x xs H Q => ∃ a b, x = .str a ∧ xs = [.str b] ∧ (b.length == 0) = false ∧ a.length + 2 ≤ sizeLine ∧ rNewStrs (Txt.split a b) H Q) to te) δ μ P := fun σ F H Q s c k z => by
  refine h σ F H _ s c (fun v x μ1 F1 H1 p m1 c1 r1 => ?_) z
  obtain ⟨a, rfl, p⟩ := p
  cases r1
  refine ⟨⟨a, rfl⟩, ?_⟩
  refine p σ F1 H1 _ (s.mono m1.up) c1 (fun v2 y μ2 F2 H2 p2 m2 c2 r2 => ?_) (z.mv m1)
  obtain ⟨b, rfl, h1, h2, p2⟩ := p2
  cases r2
  refine ⟨a, b, rfl, rfl, h1, h2, fun p np => ?_⟩
  have m3 := mv_new (o := .lst ((Txt.split a b).map V.str)) c2 np
  exact k _ _ _ _ _ p2 ((m1.trans m2).trans m3) (cm_new c2 np) (.lst upd_same ((reps_txs _).mono m3.up))
theorem ve_split {P : D → Store → Prop} (h : VE X Z o δ μ fun x μ1 => ∃ a, x = .str a ∧ VE X Z e δ μ1 fun y μ2 => ∃ b, y = .str b ∧ (b.length == 0) = false ∧ a.length + 2 ≤ sizeLine ∧ P (.lst ((Txt.split a b).map D.str)) μ2)
    (hs : starEach [e] X.env = [(false, eval e X.env)] := by rfl) (hbase : attributeBase o "split" X.env (eval o X.env) = eval o X.env := by rfl) (hline : (apos.endLine == pos.line) = true := by rfl) :
    VE X Z (.Call (.Attribute o "split" apos) [e] [] pos) δ μ P := ve_of (pe_split pe_r pe_r hs hbase hline) (we_split h)
end
end VL
set_option Elab.async false
set_option linter.all false
set_option maxRecDepth 100000
set_option maxHeartbeats 4000000
/-! VLR: lists of lists that may be changed: made by a comprehension, changed, frozen. -/
namespace VL
open PySem PySem.Spec PyProof.Rows L2
section
variable {X : Cx} {Z : Wish} {δ : Env} {μ : Store} {o e : Expr} {pos apos : Pos}
theorem we_splitM {to te : TE} {P : D → Store → Prop} (h : WE X.K Z to δ μ fun x μ1 => ∃ a, x = .str a ∧ WE X.K Z te δ μ1 fun y μ2 => ∃ b, y = .str b ∧ (b.length == 0) = false ∧ a.length + 2 ≤ sizeLine ∧ ∀ l, P (.ref l) (μ2 ++ [(l, .lst ((Txt.split a b).map D.str))])) :
    WE X.K Z (tM1 (fun x xs H Q => ∃ a b, x = .str a ∧ xs = [.str b] ∧ (b.length == 0) = false ∧ a.length + 2 ≤ sizeLine ∧ rNewStrs (Txt.split a b) H Q) to te) δ μ P := fun σ F H Q s c k z => by
  refine h σ F H _ s c (fun v x μ1 F1 H1 p m1 c1 r1 => ?_) z
  obtain ⟨a, rfl, p⟩ := p
  cases r1
  refine ⟨⟨a, rfl⟩, ?_⟩
  refine p σ F1 H1 _ (s.mono m1.up) c1 (fun v2 y μ2 F2 H2 p2 m2 c2 r2 => ?_) (z.mv m1)
  obtain ⟨b, rfl, h1, h2, p2⟩ := p2
  cases r2
  refine ⟨a, b, rfl, rfl, h1, h2, fun p np => ?_⟩
  exact k _ _ _ _ _ (p2 p) ((m1.trans m2).trans (mv_newM c2 np)) (cm_newM c2 np ⟨_, upd_same, reps_txs _⟩) (.ref p)
theorem ve_splitM {P : D → Store → Prop} (h : VE X Z o δ μ fun x μ1 => ∃ a, x = .str a ∧ VE X Z e δ μ1 fun y μ2 => ∃ b, y = .str b ∧ (b.length == 0) = false ∧ a.length + 2 ≤ sizeLine ∧ ∀ l, P (.ref l) (μ2 ++ [(l, .lst ((Txt.split a b).map D.str))]))
    (hs : starEach [e] X.env = [(false, eval e X.env)] := by rfl) (hbase : attributeBase o "split" X.env (eval o X.env) = eval o X.env := by rfl) (hline : (apos.endLine == pos.line) = true := by rfl) :
    VE X Z (.Call (.Attribute o "split" apos) [e] [] pos) δ μ P := ve_of (pe_split pe_r pe_r hs hbase hline) (we_splitM h)
end
section
variable {K : PySem.W.Frag} {Z : Wish} {δ : Env} {μ : Store} {tt : TT} {te : TE}
theorem we_lcM {wi : TI} {g : TG} {js vs : List Nat} {P : D → Store → Prop} (hj : ∀ i ∈ js, i ∈ vs) (h : WI K Z wi δ μ fun ds μ1 => ds.length ≤ 100000 ∧ ∃ I : Nat → List D → Store → Prop, I 0 [] μ1 ∧
    (∀ i d acc μ', ds[i]? = some d → I i acc μ' → WG K Wish.no g js d (wipeD δ vs) μ' fun δ2 μ2 => WT K Wish.no tt δ2 μ2 fun b μ3 => if b = true then WE K Wish.no te δ2 μ3 fun y μ4 => I (i + 1) (acc ++ [y]) μ4 else I (i + 1) acc μ3) ∧
    ∀ acc μ' l, I ds.length acc μ' → P (.ref l) (μ' ++ [(l, .lst acc)])) : WE K Z (tLc wi g tt te vs) δ μ P := fun σ F H Q s c k z => by
  refine h σ F H _ s c (fun J ds μ1 F1 H1 ⟨hz, I, i0, hs, hd⟩ m1 c1 it Dl nD => ?_) z
  have s1 := s.mono m1.up
  have kD := mv_newM (o := .lst []) (m := .lst []) c1 nD
  have cD := cm_newM (o := .lst []) (m := .lst []) c1 nD ⟨[], upd_same, .nil⟩
  refine ⟨fun i m H' => m = ds.length - i ∧ i ≤ ds.length ∧ ∃ acc μ' F', I i acc μ' ∧ acc.length ≤ i ∧ Mv μ1 F1 H1 (μ' ++ [(Dl, .lst acc)]) F' H' ∧ Cm K F' H' (μ' ++ [(Dl, .lst acc)]), ⟨ds.length, rfl, Nat.zero_le _, [], μ1, F1, i0, Nat.le_refl _, kD, cD⟩, ?_⟩
  rintro i m H' ⟨rfl, hi, acc, μ', F', p, ha, mm, cc⟩
  obtain ⟨go, stop⟩ := it (μ' ++ [(Dl, .lst acc)]) F' H' i mm.up cc
  by_cases hlt : i < ds.length
  · refine .inr ⟨(go _ (List.getElem?_eq_getElem hlt)).1, fun H2 => ∃ acc2 μ2 F2, I (i + 1) acc2 μ2 ∧ acc2.length ≤ i + 1 ∧ Mv μ1 F1 H1 (μ2 ++ [(Dl, .lst acc2)]) F2 H2 ∧ Cm K F2 H2 (μ2 ++ [(Dl, .lst acc2)]), fun H2 q => ⟨ds.length - (i + 1), by omega, rfl, hlt, q⟩, fun x H2 y => ?_⟩
    obtain ⟨F2, m2, c2, r2⟩ := (go _ (List.getElem?_eq_getElem hlt)).2 x H2 y
    have mm2 := mm.trans m2
    have sw : Slots K F2 (L2.wipe σ vs) (wipeD δ vs) := ((s1.wipe vs).mono mm.up).mono m2.up
    refine hs i _ acc μ' (List.getElem?_eq_getElem hlt) p x (L2.wipe σ vs) F2 H2 _ sw c2.take r2 (fun σ3 δ3 μ3 F3 H3 w e3 m3 c3 s3 => ?_) ZK.no
    obtain ⟨m3', c3'⟩ := Mv.lent c2 m3 c3
    refine ⟨wipe_eq (fun j hj' => e3.1 j fun q => hj' (hj j q)) (e3.2.trans (wipe_length ..)), ?_⟩
    · refine w σ3 F3 H3 _ s3 c3 (fun b μ4 F4 H4 w4 m4 c4 => ?_) ZK.no
      obtain ⟨m4', c4'⟩ := Mv.lent c3' m4 c4
      have mm4 := (mm2.trans m3').trans m4'
      cases b with
      | false => exact ⟨acc, μ4, F4, w4, Nat.le_succ_of_le ha, mm4, c4'⟩
      | true =>
        refine w4 σ3 F4 H4 _ (s3.mono m4.up) c4 (fun v y μ5 F5 H5 w5 m5 c5 r5 => ?_) ZK.no
        obtain ⟨m5', c5'⟩ := Mv.lent c4' m5 c5
        obtain ⟨_, xs, hx, rx⟩ := c5'.mu (Dl, .lst acc) (List.mem_append_right _ (by simp))
        have hj5 : (μ5 ++ [(Dl, MO.lst acc)])[μ5.length]? = some (Dl, MO.lst acc) := by rw [List.getElem?_append_right (Nat.le_refl _)]; simp
        have es : (μ5 ++ [(Dl, MO.lst acc)]).set μ5.length (Dl, .lst (acc ++ [y])) = μ5 ++ [(Dl, .lst (acc ++ [y]))] := by rw [List.set_append_right _ _ (Nat.le_refl _)]; simp
        refine ⟨xs, hx, ?_, acc ++ [y], μ5, F5, w5, by simp; omega, ?_, ?_⟩
        · rw [rx.length]; exact Nat.lt_of_le_of_lt ha (Nat.lt_of_lt_of_le hlt (Nat.le_trans hz (by decide)))
        · rw [← es]; exact (mm4.trans m5').trans (mv_set hj5 c5')
        · rw [← es]; exact cm_set hj5 c5' ⟨_, upd_same, rx.append (.cons r5 .nil)⟩
  · have e : i = ds.length := by omega
    subst e
    refine .inl ⟨stop (Nat.le_refl _), ?_⟩
    exact k _ _ (μ' ++ [(Dl, .lst acc)]) _ _ (hd acc μ' Dl p) (m1.trans mm) cc (.ref Dl)
end
section
variable {X : Cx} {Z : Wish} {δ : Env} {μ : Store} {tg iter elt : Expr} {ifs : List Expr} {p py pos : Pos} {y : Str} {P : Fl → Store → Prop}
theorem lc_inM {sc : Scope} {js vs : List Nat} {Q : D → Store → Prop} (hj : ∀ i ∈ js, i ∈ vs) (h : VI X Z tg iter δ μ fun ds μ1 => ds.length ≤ 100000 ∧ ∃ I : Nat → List D → Store → Prop, I 0 [] μ1 ∧ Turns X sc tg ifs elt js (wipeD δ vs) ds I ∧
    ∀ acc μ' l, I ds.length acc μ' → Q (.ref l) (μ' ++ [(l, .lst acc)])) : WE X.K Z (tLc (rIt X tg iter) (bG X sc tg) (bT X sc ifs) (bE X sc elt) vs) δ μ Q := by
  refine we_lcM hj fun σ F H R s c k z => h σ F H R s c (fun J ds μ1 F1 H1 ⟨hl, I, i0, ht, hd⟩ m1 c1 it => k J ds μ1 F1 H1 ⟨hl, I, i0, fun i d acc μ' hi hI => ?_, hd⟩ m1 c1 it) z
  intro v σ F H Q' s c r k z q
  refine ht i d acc μ' hi hI q v σ F H Q' s c r (fun σ' δ' μ2 F' H' h2 e m c s' => k σ' δ' μ2 F' H' ?_ e m c s') z
  intro σ F H Q' s c k z q
  refine h2 q σ F H Q' s c (fun b μ3 F' H' h3 m c => k b μ3 F' H' ?_ m c) z
  cases b with
  | false => exact h3
  | true => intro σ F H Q' s c k z q; exact h3 q σ F H Q' s c k z
/-- x = [e for ..], the list may be changed later -/
theorem vs_setLcM (i : Nat) {sc : Scope} {js : List Nat} (own : List (Str × Nat)) (k : Kx X) (h : VI X Z tg iter δ μ fun ds μ1 => ds.length ≤ 100000 ∧ ∃ I : Nat → List D → Store → Prop, I 0 [] μ1 ∧ Turns X sc tg ifs elt js (wipeD δ (own.map (·.2))) ds I ∧
    ∀ acc μ' l, I ds.length acc μ' → P (.nx ((δ : List (Option D)).set i (some (.ref l)))) (μ' ++ [(l, .lst acc)])) (hi : (X.N : List Str)[i]? = some y := by rfl) (hyl : X.env.scope.names.lookup y = some .local := by rfl)
    (hsw : swapsWith (.ListComp elt [⟨tg, iter, ifs, 0⟩] sc p) (some (.Name y py)) pos.line X.env = pure true := by rfl) (ok : BlkOk X.N X.env.scope sc own := by exact blkOk_by (by kernel_rfl)) (hj : ∀ i ∈ js, i ∈ own.map (·.2) := by decide) (hs : ∀ x, foldedSetIterable iter X.env x = pure x := by intro _; rfl) :
    VS X Z (.Assign [.Name y py] (.ListComp elt [⟨tg, iter, ifs, 0⟩] sc p) pos) δ μ P :=
  vs_of (ps_setLc k.calm k.nd hi hyl hsw pi_r ok (fun s H C cl fp => ⟨fun pins s' σ H' v u Q I r w => w ⟨s, H, C, cl, fp⟩ pins s' u I r⟩) (fun s H C cl fp => ⟨fun pins s' σ H' Q I w => w ⟨s, H, C, cl, fp⟩ pins s' I⟩) (fun s H C cl fp => ⟨fun pins s' σ H' Q I w => w ⟨s, H, C, cl, fp⟩ pins s' I⟩) hs)
    (ws_asg (js := [i]) (WE.imp (lc_inM (Q := fun d μ1 => ∃ l, d = .ref l ∧ P (.nx ((δ : List (Option D)).set i (some d))) μ1) hj (fun σ F H R s c k z => h σ F H R s c (fun J ds μ1 F1 H1 ⟨hl, I, i0, ht, hd⟩ => k J ds μ1 F1 H1 ⟨hl, I, i0, ht, fun acc μ' l hh => ⟨l, rfl, hd acc μ' l hh⟩⟩) z)) fun d μ1 ⟨l, e, q⟩ => by subst e; exact wg_name q))
end
section
variable {K : PySem.W.Frag} {Z : Wish} {μ : Store}
/-- list(x) of one that may be changed: a frozen one -/
theorem wc_list_mut {j : Nat} {l : Addr} {xs : List D} {P : D → Store → Prop} (hj : μ[j]? = some (l, .lst xs)) (p : P (.lst xs) μ) : WC K Z (rListA K) [.ref l] μ P := fun vs F H Q c r k z => by
  obtain ⟨v, rfl, r'⟩ := reps1 r
  cases r'
  obtain ⟨_, ys, e, r⟩ := c.mu _ (mem_at hj)
  exact ⟨l, ys, rfl, .inl (SqL.of e), fun q n => k _ _ _ _ _ p (mv_new c n) (cm_new c n) (.lst upd_same (r.mono (mv_new c n).up))⟩
def rInsert : V → List V → Hp → VK → Prop := fun x vs H Q => ∃ (l : Addr) (xs : List V) (i : Int) (y : V), x = .ref l ∧ vs = [.int i, y] ∧ H l = some (.lst xs) ∧ xs.length < sizeLine ∧ 0 ≤ i ∧ i < 2 ^ 63 ∧ Q .non (upd H l (.lst (xs.take i.toNat ++ [y] ++ xs.drop i.toNat)))
theorem wm_insert {T : String} {j n : Nat} {l : Addr} {xs : List D} {i : Int} {y : D} {P : D → Store → Prop} (hj : μ[j]? = some (l, .lst xs)) (hl : xs.length ≤ 1000000) (hi : i = (n : Nat)) (hn : n ≤ 1000000) (p : P .non (μ.set j (l, .lst (xs.take n ++ [y] ++ xs.drop n)))) : WM K Z T rInsert (.ref l) [.int i, y] μ P := fun v vs F H Q c r1 r2 k z => by
  cases r1
  cases r2 with
  | cons ri r2 =>
    cases ri
    obtain ⟨u, rfl, ru⟩ := reps1 r2
    obtain ⟨_, ys, e, r⟩ := c.mu _ (mem_at hj)
    subst hi
    refine ⟨l, ys, n, u, rfl, rfl, e, by rw [r.length]; exact Nat.lt_of_le_of_lt hl (by decide), by omega, by omega, ?_⟩
    exact k _ _ _ _ _ p (mv_set hj c) (cm_set hj c ⟨_, upd_same, by rw [Int.toNat_natCast]; exact ((r.take n).append (.cons ru .nil)).append (r.drop n)⟩) .non
end
section
variable {X : Cx} {Z : Wish} {δ : Env} {μ : Store} {o e : Expr} {es : List Expr} {p apos : Pos}
theorem ve_insert {P : D → Store → Prop} (h : VE X Z o δ μ fun x μ1 => (∀ v F H, Cm X.K F H μ1 → Rep X.K F v x → tyV X.K "list" v H) ∧ VA X Z (e :: es) δ μ1 fun xs μ2 => WM X.K Z "list" rInsert x xs μ2 P)
    (hbase : attributeBase o "insert" X.env (eval o X.env) = eval o X.env := by rfl) (hline : (apos.endLine == p.line) = true := by rfl)
    (hfew : ((backTo p (starEach (e :: es) X.env)).all (fun x => !x.1) && (backToKw p (keywordEach [] X.env)).all (fun x => x.1.isSome)
      && decide ((e :: es).length + ([] : List Keyword).length + (if ([] : List Keyword).isEmpty then 0 else 1) < 30)) = true := by rfl)
    (hs : starEach (e :: es) X.env = (false, eval e X.env) :: starEach es X.env := by rfl) (hplain : (backTo p (starEach es X.env)).any (·.1) = false := by rfl) : VE X Z (.Call (.Attribute o "insert" apos) (e :: es) [] p) δ μ P :=
  ve_of (pe_bm F.plainAttrs_list F.slot_list_insert F.type_list_insert mt_insert pe_r pa_r hbase hfew hline hs hplain) (we_bm h)
end
end VL
set_option Elab.async false
set_option linter.all false
set_option maxRecDepth 100000
set_option maxHeartbeats 4000000
/-! VLR2: rows of texts that may be changed, in the store; frozen, all at once. -/
namespace VL
open PySem PySem.Spec PyProof.Rows L2
def rowM (ws : List Str) : MO := .lst (ws.map D.str)
def rowsM (ls : List Addr) (rows : List (List Str)) : Store := (ls.zip rows).map fun p => (p.1, rowM p.2)
theorem rowsM_len {ls : List Addr} {rows : List (List Str)} (h : ls.length = rows.length) : (rowsM ls rows).length = rows.length := by
  unfold rowsM; rw [List.length_map, List.length_zip]; omega
theorem rowsM_snoc {ls : List Addr} {rows : List (List Str)} {l : Addr} {ws : List Str} (h : ls.length = rows.length) : rowsM (ls ++ [l]) (rows ++ [ws]) = rowsM ls rows ++ [(l, rowM ws)] := by
  unfold rowsM; rw [List.zip_append h, List.map_append]; rfl
theorem rowsM_get {ls : List Addr} {rows : List (List Str)} {i : Nat} {l : Addr} {ws : List Str} (h1 : ls[i]? = some l) (h2 : rows[i]? = some ws) : (rowsM ls rows)[i]? = some (l, rowM ws) := by
  unfold rowsM
  rw [List.getElem?_map, List.getElem?_zip_eq_some (z := (l, ws)) |>.mpr ⟨h1, h2⟩]; rfl
theorem rowsM_set {ls : List Addr} {rows : List (List Str)} {i : Nat} {l : Addr} {ws : List Str} (h1 : ls[i]? = some l) : (rowsM ls rows).set i (l, rowM ws) = rowsM ls (rows.set i ws) := by
  refine List.ext_getElem? fun k => ?_
  unfold rowsM
  by_cases e : i = k
  · subst e
    by_cases hr : i < rows.length
    · rw [List.getElem?_set_self (by rw [List.length_map, List.length_zip]; exact Nat.lt_min.mpr ⟨(List.getElem?_eq_some_iff.mp h1).1, hr⟩), List.getElem?_map, (List.getElem?_zip_eq_some (z := (l, ws))).mpr ⟨h1, List.getElem?_set_self hr⟩]; rfl
    · rw [List.set_eq_of_length_le (by rw [List.length_map, List.length_zip]; omega), List.set_eq_of_length_le (by omega)]
  · rw [List.getElem?_set_ne e, List.getElem?_map, List.getElem?_map, List.zip_eq_zipWith, List.zip_eq_zipWith, List.getElem?_zipWith, List.getElem?_zipWith, List.getElem?_set_ne e]
section
variable {μ ν : Store} {ls : List Addr} {rows : List (List Str)} {i : Nat} {l : Addr} {ws ws' : List Str}
theorem rows_get (h1 : ls[i]? = some l) (h2 : rows[i]? = some ws) : (μ ++ rowsM ls rows ++ ν)[μ.length + i]? = some (l, rowM ws) := by
  have e := rowsM_get h1 h2
  have hl := (List.getElem?_eq_some_iff.mp e).1
  rw [List.getElem?_append_left (by rw [List.length_append]; omega), List.getElem?_append_right (by omega), Nat.add_sub_cancel_left]
  exact e
theorem rows_set (h1 : ls[i]? = some l) (h2 : rows[i]? = some ws) : (μ ++ rowsM ls rows ++ ν).set (μ.length + i) (l, rowM ws') = μ ++ rowsM ls (rows.set i ws') ++ ν := by
  have e := rowsM_get h1 h2
  have hl := (List.getElem?_eq_some_iff.mp e).1
  rw [List.set_append_left _ _ (by rw [List.length_append]; omega), List.set_append_right _ _ (by omega), Nat.add_sub_cancel_left, rowsM_set h1]
theorem rows_out {m : MO} (h : ls.length = rows.length) : (μ ++ rowsM ls rows ++ [(l, m)])[μ.length + rows.length]? = some (l, m) := by
  rw [List.getElem?_append_right (by rw [List.length_append, rowsM_len h]; omega), List.length_append, rowsM_len h, Nat.sub_self]; rfl
theorem rows_outset {m m' : MO} (h : ls.length = rows.length) : (μ ++ rowsM ls rows ++ [(l, m)]).set (μ.length + rows.length) (l, m') = μ ++ rowsM ls rows ++ [(l, m')] := by
  rw [List.set_append_right _ _ (by rw [List.length_append, rowsM_len h]; omega), List.length_append, rowsM_len h, Nat.sub_self]; rfl
end
/-- what is told of a thing once the rows are frozen -/
def RowR (ls : List Addr) (rows : List (List Str)) (d d' : D) : Prop := d = d' ∨ ∃ (i : Nat) (l : Addr) (ws : List Str), ls[i]? = some l ∧ rows[i]? = some ws ∧ d = .ref l ∧ d' = .lst (ws.map D.str)
inductive RowsR (ls : List Addr) (rows : List (List Str)) : List D → List D → Prop
  | nil : RowsR ls rows [] []
  | cons {d d' : D} {ds ds' : List D} : RowR ls rows d d' → RowsR ls rows ds ds' → RowsR ls rows (d :: ds) (d' :: ds')
theorem rowsR_of {ls : List Addr} {rows : List (List Str)} : ∀ {ds ds' : List D}, ds.length = ds'.length → (∀ (i : Nat) (d d' : D), ds[i]? = some d → ds'[i]? = some d' → RowR ls rows d d') → RowsR ls rows ds ds'
  | [], [], _, _ => .nil
  | [], _ :: _, h, _ => by simp at h
  | _ :: _, [], h, _ => by simp at h
  | d :: ds, d' :: ds', h, g => .cons (g 0 d d' rfl rfl) (rowsR_of (by simpa using h) fun i a b h1 h2 => g (i + 1) a b h1 h2)
section
variable {K : PySem.W.Frag} {F H : Hp} {μ : Store}
theorem frz_rows : ∀ {ls : List Addr} {rows : List (List Str)} {ν : Store} {F : Hp}, ls.length = rows.length → Cm K F H (μ ++ rowsM ls rows ++ ν) → ∃ F', Mv (μ ++ rowsM ls rows ++ ν) F H (μ ++ ν) F' H ∧ Cm K F' H (μ ++ ν) ∧ ∀ (i : Nat) (l : Addr) (ws : List Str), ls[i]? = some l → rows[i]? = some ws → Rep K F' (.ref l) (.lst (ws.map D.str))
  | [], [], ν, F, _, c => by
    have e : μ ++ rowsM [] [] ++ ν = μ ++ ν := by unfold rowsM; simp
    rw [e] at c ⊢
    exact ⟨F, Mv.refl .., c, fun i l ws h => by simp at h⟩
  | [], _ :: _, _, _, h, _ => by simp at h
  | _ :: _, [], _, _, h, _ => by simp at h
  | l :: ls, ws :: rows, ν, F, h, c => by
    have h0 : (μ ++ rowsM (l :: ls) (ws :: rows) ++ ν)[μ.length + 0]? = some (l, rowM ws) := rows_get rfl rfl
    rw [Nat.add_zero] at h0
    have e : (μ ++ rowsM (l :: ls) (ws :: rows) ++ ν).eraseIdx μ.length = μ ++ rowsM ls rows ++ ν := by
      rw [List.append_assoc, List.eraseIdx_append_of_length_le (Nat.le_refl _), Nat.sub_self, List.append_assoc]
      unfold rowsM
      rfl
    obtain ⟨_, vs, hl, rv⟩ := c.mu _ (mem_at h0)
    have m1 := mv_frz h0 hl c
    have c1 := cm_frz h0 hl c
    rw [e] at m1 c1
    obtain ⟨F', m2, c2, hr⟩ := frz_rows (ls := ls) (rows := rows) (by simpa using h) c1
    refine ⟨F', m1.trans m2, c2, fun i l' ws' h1 h2 => ?_⟩
    cases i with
    | zero =>
      simp at h1 h2
      subst h1; subst h2
      exact .lst (m2.up _ _ upd_same) ((rv.mono m1.up).mono m2.up)
    | succ i => exact hr i l' ws' (by simpa using h1) (by simpa using h2)
theorem reps_rowsR {ls : List Addr} {rows : List (List Str)} (hr : ∀ (i : Nat) (l : Addr) (ws : List Str), ls[i]? = some l → rows[i]? = some ws → Rep K F (.ref l) (.lst (ws.map D.str))) : ∀ {vs : List V} {ds ds' : List D}, Reps K F vs ds → RowsR ls rows ds ds' → Reps K F vs ds'
  | _, _, _, .nil, .nil => .nil
  | _, _, _, .cons r rs, .cons g gs => by
    refine .cons ?_ (reps_rowsR hr rs gs)
    rcases g with rfl | ⟨i, l, ws, h1, h2, rfl, rfl⟩
    · exact r
    · cases r
      exact hr i l ws h1 h2
end
/-- the rows are frozen, and the list of them -/
theorem vss_frzRows {X : Cx} {Z : Wish} {δ : Env} {μ : Store} {st : List Stmt} {P : Fl → Store → Prop} (i : Nat) {ls : List Addr} {rows : List (List Str)} {lo : Addr} {acc acc' : List D} (hi : δ[i]? = some (some (.ref lo))) (hl : ls.length = rows.length) (hr : RowsR ls rows acc acc')
    (h : VSs X Z st (δ.set i (some (.lst acc'))) μ P) : VSs X Z st δ (μ ++ rowsM ls rows ++ [(lo, .lst acc)]) P := fun σ F H Dn s c k z => by
  obtain ⟨F1, m1, c1, hrep⟩ := frz_rows hl c
  have hj : (μ ++ [(lo, MO.lst acc)])[μ.length]? = some (lo, .lst acc) := by rw [List.getElem?_append_right (Nat.le_refl _), Nat.sub_self]; rfl
  obtain ⟨_, vs, hv, rv⟩ := c1.mu _ (mem_at hj)
  have m2 := mv_frz hj hv c1
  have c2 := cm_frz hj hv c1
  have e : (μ ++ [(lo, MO.lst acc)]).eraseIdx μ.length = μ := by rw [List.eraseIdx_append_of_length_le (Nat.le_refl _), Nat.sub_self]; simp
  rw [e] at m2 c2
  have m := m1.trans m2
  refine h σ _ H Dn ((s.mono m1.up).frz m2.up (.lst upd_same (reps_rowsR (fun i l ws a b => (hrep i l ws a b).mono m2.up) (rv.mono m2.up) hr)) i hi) c2 (k.mv m) (z.mv m)
end VL
set_option Elab.async false
set_option linter.all false
set_option maxRecDepth 100000
set_option maxHeartbeats 4000000
/-! VLR3: rows are frozen, the list of them may still be changed; a variable that holds one of them knows it frozen. -/
namespace VL
open PySem PySem.Spec PyProof.Rows L2
theorem upd_self {H : Hp} {l : Addr} {o : HO} (h : H l = some o) : upd H l o = H := by
  funext b
  by_cases e : b = l
  · subst e; rw [upd_same, h]
  · rw [upd_ne e]
theorem vss_frzIn {X : Cx} {Z : Wish} {δ : Env} {μ : Store} {st : List Stmt} {P : Fl → Store → Prop} (iL k : Nat) {ls : List Addr} {rows : List (List Str)} {lo la : Addr} {ws : List Str} {acc acc' : List D} (hi : δ[iL]? = some (some (.ref la))) (hk : ls[k]? = some la) (hw : rows[k]? = some ws) (hl : ls.length = rows.length) (hr : RowsR ls rows acc acc')
    (h : VSs X Z st (δ.set iL (some (.lst (ws.map D.str)))) (μ ++ [(lo, .lst acc')]) P) : VSs X Z st δ (μ ++ rowsM ls rows ++ [(lo, .lst acc)]) P := fun σ F H Dn s c kk z => by
  obtain ⟨F1, m1, c1, hrep⟩ := frz_rows hl c
  have hj : (μ ++ [(lo, MO.lst acc)])[μ.length]? = some (lo, .lst acc) := by rw [List.getElem?_append_right (Nat.le_refl _), Nat.sub_self]; rfl
  obtain ⟨_, vs, hv, rv⟩ := c1.mu _ (mem_at hj)
  have e : (μ ++ [(lo, MO.lst acc)]).set μ.length (lo, MO.lst acc') = μ ++ [(lo, MO.lst acc')] := by rw [List.set_append_right _ _ (Nat.le_refl _), Nat.sub_self]; rfl
  have m2 := mv_set (m' := MO.lst acc') (o := .lst vs) hj c1
  have c2 := cm_set (m' := MO.lst acc') (o := .lst vs) hj c1 ⟨vs, upd_same, reps_rowsR hrep rv hr⟩
  rw [e, upd_self hv] at m2 c2
  have m := m1.trans m2
  exact h σ _ H Dn (s.frz m1.up (hrep k la ws hk hw) iL hi) c2 (kk.mv m) (z.mv m)
end VL
set_option Elab.async false
set_option linter.all false
set_option maxRecDepth 100000
set_option maxHeartbeats 4000000
/-! VDT: dicts with tuple keys. -/
namespace VL
open PySem PySem.Spec PyProof.Rows L2
def dK : Key → D
  | .inl i => .int i
  | .inr s => .str s
def putTD (kvs : List (List Key × D)) (k : List Key) (v : D) : List (List Key × D) :=
  if (kvs.any fun kv => decide (kv.1 = k)) = true then kvs.map (fun kv => if kv.1 = k then (kv.1, v) else kv) else kvs ++ [(k, v)]
theorem lookT_nil {k : List Key} : lookT ([] : List (List Key × D)) k = none := rfl
theorem lookT_cons {p : List Key × D} {r : List (List Key × D)} {k : List Key} : lookT (p :: r) k = if p.1 = k then some p.2 else lookT r k := by
  unfold lookT
  rw [List.find?_cons]
  by_cases e : p.1 = k
  · rw [decide_eq_true e, if_pos e]; rfl
  · rw [decide_eq_false e, if_neg e]
theorem lookT_put {kvs : List (List Key × D)} {k j : List Key} {v : D} : lookT (putTD kvs k v) j = if j = k then some v else lookT kvs j := by
  unfold putTD
  have h1 : ∀ l : List (List Key × D), lookT (l ++ [(k, v)]) j = match lookT l j with | some d => some d | none => if k = j then some v else none := by
    intro l
    induction l with
    | nil => rw [List.nil_append, lookT_cons, lookT_nil]
    | cons p r ih =>
      rw [List.cons_append, lookT_cons, lookT_cons, ih]
      by_cases e : p.1 = j
      · rw [if_pos e, if_pos e]
      · rw [if_neg e, if_neg e]
  have h2 : ∀ l : List (List Key × D), (l.any fun kv => decide (kv.1 = k)) = false → lookT l k = none := by
    intro l
    induction l with
    | nil => intro _; rfl
    | cons p r ih =>
      intro h
      rw [List.any_cons, Bool.or_eq_false_iff] at h
      rw [lookT_cons, if_neg (of_decide_eq_false h.1), ih h.2]
  have h3 : ∀ l : List (List Key × D), lookT (l.map fun kv => if kv.1 = k then (kv.1, v) else kv) j = if j = k then (if (l.any fun kv => decide (kv.1 = k)) = true then some v else none) else lookT l j := by
    intro l
    induction l with
    | nil => by_cases e : j = k <;> simp [e, lookT_nil]
    | cons p r ih =>
      rw [List.map_cons, lookT_cons, ih, lookT_cons, List.any_cons]
      by_cases e1 : p.1 = k
      · rw [if_pos e1, decide_eq_true e1]
        by_cases e : j = k
        · rw [if_pos e, if_pos e, if_pos (e1.trans e.symm)]; rfl
        · rw [if_neg e, if_neg e]
          have ne : ¬ p.1 = j := fun z => e (z.symm.trans e1)
          rw [if_neg ne, if_neg ne]
      · rw [if_neg e1, decide_eq_false e1, Bool.false_or]
        by_cases e : j = k
        · subst e; rw [if_neg e1, if_pos rfl, if_pos rfl]
        · rw [if_neg e, if_neg e]
  split
  · rename_i hh
    rw [h3, hh, if_pos rfl]
  · rename_i hh
    have hh : (kvs.any fun kv => decide (kv.1 = k)) = false := eq_false_of_ne_true hh
    rw [h1]
    by_cases e : j = k
    · subst e; rw [h2 _ hh, if_pos rfl]
    · rw [if_neg e, if_neg fun z => e z.symm]
      cases lookT kvs j <;> rfl
theorem putTD_len {kvs : List (List Key × D)} {k : List Key} {v : D} : (putTD kvs k v).length ≤ kvs.length + 1 := by
  unfold putTD
  split
  · rw [List.length_map]; omega
  · rw [List.length_append]; simp
theorem putTD_new {kvs : List (List Key × D)} {k : List Key} {v : D} (h : lookT kvs k = none) : putTD kvs k v = kvs ++ [(k, v)] := by
  unfold putTD
  have : (kvs.any fun kv => decide (kv.1 = k)) = false := by
    induction kvs with
    | nil => rfl
    | cons p r ih =>
      rw [lookT_cons] at h
      split at h
      · cases h
      · rename_i e
        rw [List.any_cons, decide_eq_false e, ih h]; rfl
  rw [this]; rfl
section
variable {K : PySem.W.Frag} {Z : Wish} {δ : Env} {μ : Store} {ta : TE}
theorem repsT_any {F : Hp} {k : List Key} : ∀ {kvs : List (List Key × V)} {ds : List (List Key × D)}, RepsT K F kvs ds → (kvs.any fun kv => decide (kv.1 = k)) = ds.any fun kv => decide (kv.1 = k)
  | _, _, .nil => rfl
  | _, _, .cons _ r => by rw [List.any_cons, List.any_cons, repsT_any r]
theorem repsT_app {F : Hp} {k : List Key} {v : V} {d : D} (h : Rep K F v d) : ∀ {kvs : List (List Key × V)} {ds : List (List Key × D)}, RepsT K F kvs ds → RepsT K F (kvs ++ [(k, v)]) (ds ++ [(k, d)])
  | _, _, .nil => .cons h .nil
  | _, _, .cons g r => .cons g (repsT_app h r)
theorem repsT_map {F : Hp} {k : List Key} {v : V} {d : D} (h : Rep K F v d) : ∀ {kvs : List (List Key × V)} {ds : List (List Key × D)}, RepsT K F kvs ds → RepsT K F (kvs.map fun kv => if kv.1 = k then (kv.1, v) else kv) (ds.map fun kv => if kv.1 = k then (kv.1, d) else kv)
  | _, _, .nil => .nil
  | _, _, .cons (k := k') g r => by
    rw [List.map_cons, List.map_cons]
    by_cases e : k' = k
    · rw [if_pos e, if_pos e]; exact .cons h (repsT_map h r)
    · rw [if_neg e, if_neg e]; exact .cons g (repsT_map h r)
theorem repsT_put {F : Hp} {k : List Key} {v : V} {d : D} (h : Rep K F v d) {kvs : List (List Key × V)} {ds : List (List Key × D)} (r : RepsT K F kvs ds) : RepsT K F (putK kvs k v) (putTD ds k d) := by
  unfold putK putTD
  rw [repsT_any r]
  split
  · exact repsT_map h r
  · exact repsT_app h r
theorem rep_kt {F : Hp} {v : V} {k : List Key} (r : Rep K F v (.kt k)) : ∃ a, v = .ref a ∧ F a = some (.tup (k.map kV)) := by
  cases r with
  | kt e => exact ⟨_, rfl, e⟩
theorem reps_dK {F : Hp} : ∀ k : List Key, Reps K F (k.map kV) (k.map dK)
  | [] => .nil
  | .inl i :: k => .cons (.int i) (reps_dK k)
  | .inr s :: k => .cons (.str s) (reps_dK k)
theorem reps_keys {F : Hp} : ∀ {vs : List V} {ds : List D} {k : List Key}, Reps K F vs ds → ds.map keyD = k.map some → vs = k.map kV
  | _, _, [], .nil, _ => rfl
  | _, _, _ :: _, .nil, h => by simp at h
  | _, _, [], .cons _ _, h => by simp at h
  | _, _, k :: ks, .cons r rr, h => by
    rw [List.map_cons, List.map_cons] at h
    obtain ⟨h1, h2⟩ := List.cons.inj h
    rw [List.map_cons, key_rep r h1, reps_keys rr h2]
/-- a tuple display as a key -/
theorem we_kt {t : TA} {P : D → Store → Prop} (h : WA K Z t δ μ fun xs μ1 => ∃ k : List Key, xs.map keyD = k.map some ∧ xs.length ≤ 100000 ∧ P (.kt k) μ1) : WE K Z (tTup t) δ μ P := fun σ F H Q s c k z =>
  h σ F H _ s c (fun vs xs μ1 F1 H1 ⟨ks, hk, hl, p⟩ m1 c1 r1 => ⟨by rw [r1.length]; exact Nat.le_trans hl (by decide), fun q n => k _ _ μ1 _ _ p (m1.trans (mv_new c1 n)) (cm_new c1 n) (.kt (by rw [reps_keys r1 hk]; exact upd_same))⟩) z
/-- a key as a tuple -/
theorem we_unkt {t : TE} {P : D → Store → Prop} (h : WE K Z t δ μ fun d μ1 => ∃ k, d = .kt k ∧ P (.tup (k.map dK)) μ1) : WE K Z t δ μ P := fun σ F H Q s c k z =>
  h σ F H Q s c (fun v d μ1 F1 H1 ⟨ks, e, p⟩ m1 c1 r1 => by
    subst e
    obtain ⟨a, rfl, e⟩ := rep_kt r1
    exact k _ _ μ1 F1 H1 p m1 c1 (.tup (SqT.of e) (reps_dK ks))) z
theorem wop_ix_dT {kvs : List (List Key × D)} {d : D} {k : List Key} {P : D → Store → Prop} (h : lookT kvs k = some d) (p : P d μ) : WOp K Z (rIxA K) (.dT kvs) (.kt k) μ P :=
  fun v u F H Q c r1 r2 kk z => by
    obtain ⟨b, rfl, eb⟩ := rep_kt r2
    cases r1 with
    | @dT a _ kv _ e r =>
      obtain ⟨w, hw, rw'⟩ := r.find h
      refine .inr ⟨a, w, rfl, .inr ⟨kv, k, b, .inr ⟨_, c.ex _ _ e⟩, rfl, c.ex _ _ eb, ?_⟩, kk _ _ _ _ _ p (Mv.refl ..) c rw'⟩
      exact hw.symm
theorem wop_ix_dTM {j : Nat} {l : Addr} {kvs : List (List Key × D)} {d : D} {k : List Key} {P : D → Store → Prop} (hj : μ[j]? = some (l, .dT kvs)) (h : lookT kvs k = some d) (p : P d μ) : WOp K Z (rIxA K) (.ref l) (.kt k) μ P :=
  fun v u F H Q c r1 r2 kk z => by
    obtain ⟨b, rfl, eb⟩ := rep_kt r2
    cases r1
    obtain ⟨_, kv, e, r⟩ := c.mu _ (mem_at hj)
    obtain ⟨w, hw, rw'⟩ := r.find h
    exact .inr ⟨l, w, rfl, .inr ⟨kv, k, b, .inl e, rfl, c.ex _ _ eb, hw.symm⟩, kk _ _ _ _ _ p (Mv.refl ..) c rw'⟩
theorem wop_notin_dTM {j : Nat} {l : Addr} {kvs : List (List Key × D)} {k : List Key} {P : D → Store → Prop} (hj : μ[j]? = some (l, .dT kvs)) (p : P (.bl (!(lookT kvs k).isSome)) μ) : WOp K Z (rNotInA K) (.kt k) (.ref l) μ P :=
  wop_sc (w := .bl (!(lookT kvs k).isSome)) (fun F => .bl _) (fun v u F H Q c r1 r2 q => by
    obtain ⟨b, rfl, eb⟩ := rep_kt r1
    cases r2
    obtain ⟨_, kv, e, r⟩ := c.mu _ (mem_at hj)
    refine .inr ⟨l, lookT kv k, rfl, .inr ⟨kv, k, b, .inl e, rfl, c.ex _ _ eb, rfl⟩, ?_⟩
    rw [r.isSome]; exact q) p
theorem wg_setT {ti : TE} {d : D} {P : Env → Store → Prop} (h : WE K Z ta δ μ fun o μ1 => WE K Z ti δ μ1 fun x μ2 => ∃ (j : Nat) (l : Addr) (kvs : List (List Key × D)) (kk : List Key), o = .ref l ∧ x = .kt kk ∧ μ2[j]? = some (l, .dT kvs) ∧ kvs.length ≤ 1000000 ∧ P δ (μ2.set j (l, .dT (putTD kvs kk d)))) :
    WG K Z (gSub ta ti rSetD) [] d δ μ P := fun v σ F H Q s c r k z =>
  h σ F H _ s c (fun ov o μ1 F1 H1 p m1 c1 r1 => by
    refine p σ F1 H1 _ (s.mono m1.up) c1 (fun iv x μ2 F2 H2 ⟨j, l, kvs, kk, e1, hk, hj, hl, q⟩ m2 c2 r2 => ?_) (z.mv m1)
    subst e1; subst hk; cases r1
    obtain ⟨_, ys, e, ry⟩ := c2.mu _ (mem_at hj)
    obtain ⟨b, rfl, eb⟩ := rep_kt r2
    refine ⟨l, _, rfl, DPut.t e (c2.ex _ _ eb) (by rw [ry.length]; exact Nat.lt_of_le_of_lt hl (by decide)), ?_⟩
    exact k σ δ _ _ _ q ⟨fun _ _ => rfl, rfl⟩ ((m1.trans m2).trans (mv_set hj c2)) (cm_set hj c2 ⟨_, upd_same, repsT_put ((r.mono m1.up).mono m2.up) ry⟩) ((s.mono m1.up).mono m2.up)) z
end
/-! ### a mutable object is frozen and locked for good -/
def tLk (t : TE) : TE := fun σ H Q => t σ H fun v H1 => ∃ d u, H1 d = some u ∧ Mut (some u) ∧ ∀ od, Q v (upd H1 d (.frz od u))
def tLkS (t : TS) : TS := fun Dn σ H => ∃ d u, H d = some u ∧ Mut (some u) ∧ ∀ od, t Dn σ (upd H d (.frz od u))
theorem pe_lk {X : Cx} {e : Expr} {t : TE} (h : PE X e t) : PE X e (tLk t) := by
  refine ⟨fun pins s σ H Q I hw => ?_⟩
  refine thn (h.run pins s σ H _ I hw) fun v s1 ⟨x, H1, I1, r, d, u, hd, mu, q⟩ => ?_
  obtain ⟨od, I2⟩ := I1.lock hd mu
  exact ⟨x, _, I2, r, q od⟩
theorem pss_lk {X : Cx} {st : List Stmt} {t : TS} (h : PSs X st t) : PSs X st (tLkS t) := by
  refine ⟨fun pins s σ H D I hw => ?_⟩
  obtain ⟨d, u, hd, mu, hw⟩ := hw
  obtain ⟨od, I1⟩ := I.lock hd mu
  exact h.run pins s σ _ _ I1 (hw od)
section
variable {K : PySem.W.Frag} {F H : Hp} {μ : Store}
theorem mv_lk {j : Nat} {l : Addr} {m : MO} {o u : HO} (h : μ[j]? = some (l, m)) (hu : H l = some u) (c : Cm K F H μ) : Mv μ F H (μ.eraseIdx j) (upd F l o) (upd H l o) where
  kp := fun a v e n => by
    rw [upd_ne (fun z => n (by rw [z]; exact List.mem_map.mpr ⟨_, mem_at h, rfl⟩))]; exact e
  up := fun a v e => by rw [upd_ne (fun z => by rw [z, (c.mu _ (mem_at h)).1] at e; cases e)]; exact e
  nw := fun a e => by
    by_cases z : a = l
    · subst z; exact .inr (.inr (List.mem_map.mpr ⟨_, mem_at h, rfl⟩))
    · rw [upd_ne z] at e; exact .inl e
  nm := (mv_frz (o := u) h hu c).nm
  gr := fun a e => by
    by_cases z : a = l
    · subst z; rw [upd_same] at e; cases e
    · rw [upd_ne z] at e; exact e
theorem cm_lk {j : Nat} {l : Addr} {m : MO} {o : HO} (h : μ[j]? = some (l, m)) (c : Cm K F H μ) : Cm K (upd F l o) (upd H l o) (μ.eraseIdx j) := by
  obtain ⟨u, hu⟩ := (c.mu _ (mem_at h)).2.some
  have c2 := cm_frz h hu c
  refine ⟨fun a v e => ?_, fun q hq => ?_, c2.nd⟩
  · by_cases z : a = l
    · subst z; rw [upd_same] at e ⊢; exact e
    · rw [upd_ne z] at e ⊢; exact c.ex a v e
  · obtain ⟨h1, h2⟩ := c2.mu q hq
    have ne : q.1 ≠ l := fun z => by rw [z, upd_same] at h1; cases h1
    have h3 : F q.1 = none := by rw [upd_ne ne] at h1; exact h1
    have up : Same F (upd F l o) := fun a v e => by rw [upd_ne (fun z => by rw [z, (c.mu _ (mem_at h)).1] at e; cases e)]; exact e
    refine ⟨by rw [upd_ne ne]; exact h3, ?_⟩
    exact ((c.mu q (List.mem_of_mem_eraseIdx hq)).2.mono up).heap (upd_ne ne)
end
section
variable {X : Cx} {Z : Wish} {δ : Env} {μ : Store} {P : D → Store → Prop} {e : Expr} {es : List Expr} {pos : Pos} {k1 : ExprCtx}
/-- {} for a dict with tuple keys -/
theorem ve_dTE (p : ∀ l, P (.ref l) (μ ++ [(l, .dT [])])) : VE X Z (.Dict [] [] pos) δ μ P := ve_of pe_dnewT fun σ F H Q s c k z a n => k _ _ _ _ _ (p a) (mv_newM c n) (cm_newM c n ⟨[], upd_same, .nil⟩) (.ref a)
/-- {} for a dict with keys that are ints or texts -/
theorem ve_dKE (p : ∀ l, P (.ref l) (μ ++ [(l, .dct [])])) : VE X Z (.Dict [] [] pos) δ μ P := ve_of pe_dnewK fun σ F H Q s c k z a n => k _ _ _ _ _ (p a) (mv_newM c n) (cm_newM c n ⟨[], upd_same, .nil⟩) (.ref a)
theorem ve_frzT (h : VE X Z e δ μ fun d μ1 => ∃ (j : Nat) (l : Addr) (kvs : List (List Key × D)), d = .ref l ∧ μ1[j]? = some (l, .dT kvs) ∧ P (.dT kvs) (μ1.eraseIdx j)) : VE X Z e δ μ P := ve_of (pe_lk pe_r) fun σ F H Q s c k z =>
  h σ F H _ s c (fun v d μ1 F1 H1 ⟨j, l, kvs, e, hj, p⟩ m1 c1 r1 => by
    subst e
    obtain ⟨_, vs, hl, rv⟩ := c1.mu _ (mem_at hj)
    cases r1
    refine ⟨l, _, hl, trivial, fun od => ?_⟩
    have m2 := mv_lk (o := .frz od (.dT vs)) hj hl c1
    exact k _ _ _ _ _ p (m1.trans m2) (cm_lk hj c1) (.dT upd_same (rv.mono m2.up))) z
theorem ve_kt {k} (h : VA X Z es δ μ fun xs μ1 => ∃ ks : List Key, xs.map keyD = ks.map some ∧ xs.length ≤ 100000 ∧ P (.kt ks) μ1) : VE X Z (.Tuple es k pos) δ μ P := ve_of (pe_tup pa_r) (we_kt h)
theorem vg_setT {a b : Expr} {d : D} {Q : Env → Store → Prop} (k : Kx X) (h : VE X Z a δ μ fun o μ1 => VE X Z b δ μ1 fun y μ2 => ∃ (j : Nat) (l : Addr) (kvs : List (List Key × D)) (kk : List Key), o = .ref l ∧ y = .kt kk ∧ μ2[j]? = some (l, .dT kvs) ∧ kvs.length ≤ 1000000 ∧ Q δ (μ2.set j (l, .dT (putTD kvs kk d))))
    (ha : ∀ v, assign (.Subscript a b pos) X.env v = (do
      let ov ← holding [v] (eval a X.env)
      let iv ← holding [v, ov] (eval b X.env)
      standAt pos
      holding [v, ov, iv] (setItem ov iv v)
      release [v, ov, iv] []) := by intro _; rfl) : VG X Z (.Subscript a b pos) [] d δ μ Q := vg_of (pg_sub pe_r pe_r (set_dict k.u1) ha) (wg_setT h)
theorem ve_unkt (h : VE X Z e δ μ fun d μ1 => ∃ k, d = .kt k ∧ P (.tup (k.map dK)) μ1) : VE X Z e δ μ P := we_unkt h
theorem wop_in_dTM {K : PySem.W.Frag} {j : Nat} {l : Addr} {kvs : List (List Key × D)} {k : List Key} (hj : μ[j]? = some (l, .dT kvs)) (p : P (.bl (lookT kvs k).isSome) μ) : WOp K Z (rInA K) (.kt k) (.ref l) μ P :=
  wop_sc (w := .bl (lookT kvs k).isSome) (fun F => .bl _) (fun v u F H Q c r1 r2 q => by
    obtain ⟨b, rfl, eb⟩ := rep_kt r1
    cases r2
    obtain ⟨_, kv, e, r⟩ := c.mu _ (mem_at hj)
    refine .inr ⟨l, lookT kv k, rfl, .inr ⟨kv, k, b, .inl e, rfl, c.ex _ _ eb, rfl⟩, ?_⟩
    rw [r.isSome]; exact q) p
/-- a variable's dict is frozen -/
theorem vss_frzT {st : List Stmt} {P : Fl → Store → Prop} (i j : Nat) {l : Addr} {kvs : List (List Key × D)} (hi : δ[i]? = some (some (.ref l))) (hj : μ[j]? = some (l, .dT kvs)) (h : VSs X Z st (δ.set i (some (.dT kvs))) (μ.eraseIdx j) P) : VSs X Z st δ μ P := vss_of (pss_lk pss_r) fun σ F H Dn s c k z => by
  obtain ⟨_, vs, hl, rv⟩ := c.mu _ (mem_at hj)
  refine ⟨l, _, hl, trivial, fun od => ?_⟩
  have m2 := mv_lk (o := .frz od (.dT vs)) hj hl c
  exact h σ _ _ Dn (s.frz m2.up (.dT upd_same (rv.mono m2.up)) i hi) (cm_lk hj c) (k.mv m2) (z.mv m2)
/-! ### the values of a dict with tuple keys -/
theorem frzTV {X : Cx} {pins : List (Addr × Obj)} {σ : L2.St} {H : Hp} {s : Shared} {d : Addr} {o : Obj} {kvs : List (List Key × V)} (I : Inv X pins σ H s) (h : H d = some (.frz o (.dT kvs))) :
    (d == sysModules) = false ∧ s.heap.get? d = some o ∧ o.ExactDict ∧ ∃ (es : Array DictEntry) (ep : Nat), o.data = .dict es ep ∧ es.size = kvs.length ∧
      ∀ (i : Nat) (k : List Key) (v : V), kvs[i]? = some (k, v) → ∃ en : DictEntry, es[i]? = some en ∧ RelV v en.val := by
  obtain ⟨hd, z, hs, xs, pr, o', es, ep, ho, hx, hdt, he, _⟩ := I.hok d _ h
  rw [hd] at ho
  cases ho
  refine ⟨hs, hd, hx, es, ep, hdt, ?_, fun i k v e => ?_⟩
  · have l1 : es.size = xs.length := size_of_entries he
    have l2 : kvs.length = xs.length := Paired.length pr
    omega
  · obtain ⟨b, hb, e1, e2, e3⟩ := paired_get pr e
    have q := entry_at he i
    rw [hb] at q
    exact ⟨_, q, e3⟩
def Itvt (d : Addr) (o : Obj) (kvs : List (List Key × V)) : It :=
  ⟨fun i H => H d = some (.frz o (.dT kvs)) ∧ i < kvs.length, fun i H x H' => H' = H ∧ ∃ (k : List Key), kvs[i]? = some (k, x), fun i H => H d = some (.frz o (.dT kvs)) ∧ kvs.length ≤ i⟩
theorem turn_valsT {P : Program} {w : World} {K : PySem.W.Frag} {tg : Expr} {d : Addr} {o : Obj} {es : Array DictEntry} {ep : Nat} {kvs : List (List Key × V)} (it : Addr) (hod : o.data = .dict es ep) : Turn P w K tg (Itvt d o kvs) [it] it (fun i h => h.IsValIter it d i kvs.length ep) where
  mem := by simp
  obj := fun i h st b hb => by
    have e : b = it := by simpa using hb
    subst e
    obtain ⟨oi, e, c, dd⟩ := st
    exact ⟨oi, e, fun v z => by rw [dd] at z; cases z⟩
  keep := fun i h h' st k => st.at fun oi e => k it (by simp) oi e
  item := by
    intro X hP hw hK hc i pins s σ H E I hf st hg
    subst hP hw hK
    obtain ⟨hd, hi⟩ := hg
    obtain ⟨f0, f1, f2, f3, f4, f5⟩ := hf it (by simp)
    obtain ⟨hs, hgd, hx, es', ep', hdt, hsz, ent⟩ := frzTV I hd
    obtain ⟨rfl, rfl⟩ := dict_ep hod hdt
    obtain ⟨⟨k, v⟩, hkv⟩ : ∃ p, kvs[i]? = some p := ⟨kvs[i], List.getElem?_eq_getElem hi⟩
    obtain ⟨en, hen, rv⟩ := ent i k v hkv
    rw [← hsz] at st
    have hlt : i < es'.size := by omega
    refine PySem.wpAny_pyNext_values_item_raw st ⟨o, hgd, hx, hdt⟩ hlt fun h' st' sb => ?_
    have I1 : Inv X pins σ H { s with heap := h' } := I.turned (t' := s.toks) (fun b ob hb e => (sb.2 b hb).trans e) f0 f1 f3 f4 f5
    obtain ⟨oi, e, c, dd⟩ := id st'
    have ev : es'[i].val = en.val := by
      rw [Array.getElem?_eq_getElem hlt] at hen
      exact congrArg DictEntry.val (Option.some.inj hen)
    refine ⟨es'[i].val, rfl, go_of (s := { s with heap := h' }) e c dd (by decide) ⟨v, H, I1, by rw [ev]; exact rv, ⟨rfl, k, hkv⟩, ?_, fun b hb => (hf b hb).1⟩⟩
    show h'.IsValIter it d (i + 1) kvs.length _
    rw [← hsz]
    exact st'
  done := by
    intro X hP hw hK hc i pins s σ H E I hf st hg
    subst hP hw hK
    obtain ⟨hd, hi⟩ := hg
    obtain ⟨f0, f1, f2, f3, f4, f5⟩ := hf it (by simp)
    obtain ⟨hs, hgd, hx, es', ep', hdt, hsz, ent⟩ := frzTV I hd
    obtain ⟨rfl, rfl⟩ := dict_ep hod hdt
    rw [← hsz] at st
    exact PySem.wpAny_pyNext_values_end_raw (I.ok.hd hc) st ⟨o, hgd, hx, hdt⟩ (by omega) fun h' eb => ⟨rfl, I.turned (t' := s.toks) (fun b ob hb e => eb b ob hb e) f0 f1 f3 f4 f5⟩
  self := fun A i s Q E st h => wpAny_pyIter_valiter st h
def iValsT (td : TE) : TI := fun σ H R => td σ H fun x H1 => ∃ d o kvs, x = .ref d ∧ H1 d = some (.frz o (.dT kvs)) ∧ R (Itvt d o kvs) H1
theorem pi_valuesT {X : Cx} {tg e : Expr} {td : TE} {apos cpos : Pos} (he : PE X e td) (hbase : attributeBase e "values" X.env (eval e X.env) = eval e X.env := by rfl) (hline : (apos.endLine == cpos.line) = true := by rfl) : PI X tg (.Call (.Attribute e "values" apos) [] [] cpos) (iValsT td) := by
  refine ⟨fun pins s σ H R I h => ?_⟩
  refine wpAny_Call_method (T := "dict") (id := "dict.values") hbase rfl hline F.plainAttrs_dict F.slot_dict_values F.type_dict_values (thn (he.run pins s σ H _ I h) fun u s1 ⟨x, H1, I1, rx, d, o, kvs, ex, hd, q⟩ => ?_)
  subst ex
  obtain rfl : u = Value.ref d := rx
  obtain ⟨hs, hgd, hx, es, ep, hdt, hsz, ent⟩ := frzTV I1 hd
  have raw : s1.heap.DictRaw d es ep := ⟨o, hgd, hx, hdt⟩
  refine ⟨raw.typeIs, fun a ea => by cases ea; exact ⟨o, hgd, hx.2.1⟩, ?_⟩
  have I2 : Inv X pins σ H1 { s1 with heap := s1.heap.push { cls := .type "dict_values", data := .fields #[.ref d] } } := I1.kept (t' := s1.toks) fun b ob q => Heap.get?_push_of_some _ q
  have fin : wpAny (model X.prog X.w) X.A (pyIter (.ref s1.heap.objs.size)) (PIE X pins σ tg R) X.xe { s1 with heap := s1.heap.push { cls := .type "dict_values", data := .fields #[.ref d] } } := by
    refine PySem.wpAny_pyIter_values_raw (d := d) (es := es) (ep := ep) ⟨_, Heap.get?_push_size _ rfl, rfl, rfl⟩ (raw.at fun o e => Heap.get?_push_of_some _ e) (pi_one (tk := s1.toks) I2 _ (turn_valsT _ hdt) ⟨_, Heap.get?_push_size _ rfl, rfl, ?_⟩ q)
    rw [hsz] <;> rfl
  show wpAny _ _ (callWith cpos (.builtin "dict.values") [.ref d] [] []) _ X.xe s1
  exact method_meetsIn F.slot_dict_values F.entry_dict_values rfl (PySem.evalArgs_none ⟨rfl, raw.typeIs, F.args_dict_values_1 _, _, PySem.meets_dict_values_raw d hs, ⟨es, ep, raw⟩, fin⟩)
theorem repsT_get {K : PySem.W.Frag} {F : Hp} : ∀ {kv : List (List Key × V)} {kvs : List (List Key × D)} {i : Nat} {d : D}, RepsT K F kv kvs → (kvs.map (·.2))[i]? = some d → i < kv.length ∧ ∀ k u, kv[i]? = some (k, u) → Rep K F u d
  | _, _, i, d, .nil, h => by simp at h
  | _, _, 0, d, .cons r _, h => by
    simp at h
    subst h
    exact ⟨by simp, fun k u e => by simp at e; obtain ⟨_, rfl⟩ := e; exact r⟩
  | _, _, i + 1, d, .cons _ rr, h => by
    have h2 := repsT_get (i := i) rr (by simpa using h)
    exact ⟨by simp; exact h2.1, fun k u e => h2.2 k u (by simpa using e)⟩
theorem itd_valsT {K : PySem.W.Frag} {F : Hp} {a : Addr} {o : Obj} {kv : List (List Key × V)} {kvs : List (List Key × D)} (e : F a = some (.frz o (.dT kv))) (r : RepsT K F kv kvs) : ItD K F (Itvt a o kv) (kvs.map (·.2)) := fun μ F' H' i up c => by
  have q := c.ex _ _ (up _ _ e)
  refine ⟨fun d hd => ?_, fun hl => ⟨q, by rw [r.length]; simpa using hl⟩⟩
  obtain ⟨hi, hr⟩ := repsT_get r hd
  refine ⟨⟨q, hi⟩, fun x H2 ⟨e1, k, hk⟩ => ?_⟩
  subst e1
  exact ⟨F', Mv.refl .., c, (hr k x hk).mono up⟩
theorem wi_valsT {K : PySem.W.Frag} {te : TE} {P : List D → Store → Prop} (h : WE K Z te δ μ fun d μ1 => ∃ kvs, d = .dT kvs ∧ P (kvs.map (·.2)) μ1) : WI K Z (iValsT te) δ μ P := fun σ F H R s c k z =>
  h σ F H _ s c (fun v d μ1 F1 H1 ⟨kvs, e, p⟩ m1 c1 r1 => by
    subst e
    cases r1 with
    | @dT a o kv _ e r => exact ⟨a, o, kv, rfl, c1.ex _ _ e, k _ _ μ1 F1 H1 p m1 c1 (itd_valsT e r)⟩) z
theorem vi_valsT {tg : Expr} {apos cpos : Pos} {Q : List D → Store → Prop} (h : VE X Z e δ μ fun d μ1 => ∃ kvs, d = .dT kvs ∧ Q (kvs.map (·.2)) μ1) (hbase : attributeBase e "values" X.env (eval e X.env) = eval e X.env := by rfl) (hline : (apos.endLine == cpos.line) = true := by rfl) : VI X Z tg (.Call (.Attribute e "values" apos) [] [] cpos) δ μ Q := vi_of (pi_valuesT pe_r hbase hline) (wi_valsT h)
end
end VL
set_option Elab.async false
set_option linter.all false
set_option maxRecDepth 100000
set_option maxHeartbeats 4000000
/-! VDN: dict displays of several pure pairs. -/
namespace VL
open PySem PySem.Spec PyProof.Rows L2
theorem putK_new' {kvs : List (Key × V)} {k : Key} {v : V} (h : k ∉ kvs.map (·.1)) : putK kvs k v = kvs ++ [(k, v)] := by
  unfold putK
  have : (kvs.any fun kv => decide (kv.1 = k)) = false := by
    rw [List.any_eq_false]
    intro p hp e
    exact h (List.mem_map.mpr ⟨p, hp, of_decide_eq_true e⟩)
  rw [this]; rfl
theorem mergeK_nodup : ∀ {more acc : List (Key × V)}, ((acc ++ more).map (·.1)).Nodup → mergeK acc more = acc ++ more
  | [], acc, _ => by rw [List.append_nil]; rfl
  | p :: more, acc, h => by
    have hn : p.1 ∉ acc.map (·.1) := fun hm => by
      rw [List.map_append, List.map_cons] at h
      exact (List.nodup_append.mp h).2.2 _ hm p.1 (by simp) rfl
    show mergeK (putK acc p.1 p.2) more = _
    rw [putK_new' hn, mergeK_nodup (by rw [List.append_assoc]; exact h), List.append_assoc]; rfl
theorem repsK_keys {K : PySem.W.Frag} {F : Hp} : ∀ {us : List (Key × V)} {ds : List (Key × D)}, RepsK K F us ds → us.map (·.1) = ds.map (·.1)
  | _, _, .nil => rfl
  | _, _, .cons _ r => by rw [List.map_cons, List.map_cons, repsK_keys r]
section
variable (X : Cx) (Z : Wish) (δ : Env) (μ : Store)
def VPs : List (Option Expr) → List Expr → List (Key × D) → Prop
  | some k :: ks, v :: vs, p :: r => VE X Z k δ μ (fun x μ1 => keyD x = some p.1 ∧ μ1 = μ) ∧ VE X Z v δ μ (fun y μ1 => y = p.2 ∧ μ1 = μ) ∧ VPs ks vs r
  | [], [], [] => True
  | _, _, _ => False
end
section
variable {X : Cx} {Z : Wish} {δ : Env} {μ : Store} {pos : Pos}
theorem pairs_run : ∀ (keys : List (Option Expr)) (values : List Expr) (kvs : List (Key × D)), VPs X Z δ μ keys values kvs → ∃ trs, PPs X pos keys values trs ∧ keys.all (·.isSome) = true ∧ keys.length = values.length ∧ keys.length = kvs.length ∧
    ∀ (σ : L2.St) (F H : Hp) (Q : List (V × V) → Hp → Prop), Slots X.K F σ δ → Cm X.K F H μ → ZK X.K Z μ F H → (∀ us F' H', Mv μ F H μ F' H' → Cm X.K F' H' μ → RepsK X.K F' us kvs → Q (us.map fun kv => (kV kv.1, kv.2)) H') → tPairs trs σ H Q
  | [], [], [], _ => ⟨[], pps_nil, rfl, rfl, rfl, fun σ F H Q s c z k => k [] F H (Mv.refl ..) c .nil⟩
  | some k0 :: ks, v0 :: vs, p :: r, h => by
    obtain ⟨h1, h2, h3⟩ := h
    obtain ⟨trs, t1, t2, t3, t4, t5⟩ := pairs_run ks vs r h3
    refine ⟨(rE X k0, rE X v0) :: trs, pps_cons pe_r pe_r t1, by simpa using t2, by simp [t3], by simp [t4], fun σ F H Q s c z k => ?_⟩
    show rE X k0 σ H _
    refine h1 σ F H _ s c (fun v x μ1 F1 H1 ⟨hk, e⟩ m1 c1 r1 => ?_) z
    subst e
    refine h2 σ F1 H1 _ (s.mono m1.up) c1 (fun u y μ2 F2 H2 ⟨hy, e⟩ m2 c2 r2 => ?_) (z.mv m1)
    subst e; subst hy
    refine t5 σ F2 H2 _ ((s.mono m1.up).mono m2.up) c2 ((z.mv m1).mv m2) fun us F' H' m3 c3 r3 => ?_
    have ev := key_rep r1 hk
    subst ev
    exact k ((p.1, u) :: us) F' H' ((m1.trans m2).trans m3) c3 (.cons (r2.mono m3.up) r3)
  | [], [], _ :: _, h => h.elim
  | [], _ :: _, _, h => h.elim
  | none :: _, _, _, h => by simp [VPs] at h
  | some _ :: _, [], _, h => by simp [VPs] at h
  | some _ :: _, _ :: _, [], h => by simp [VPs] at h
/-- {k: v, ..}: a dict that may be changed -/
theorem ve_dispN {keys : List (Option Expr)} {values : List Expr} (kvs : List (Key × D)) {P : D → Store → Prop} (h : VPs X Z δ μ keys values kvs) (nd : (kvs.map (·.1)).Nodup) (p : ∀ l, P (.ref l) (μ ++ [(l, .dct kvs)])) (h0 : keys ≠ [] := by simp) (h15 : keys.length ≤ 15 := by simp) :
    VE X Z (.Dict keys values pos) δ μ P := by
  obtain ⟨trs, t1, t2, t3, t4, t5⟩ := pairs_run (pos := pos) keys values kvs h
  refine ve_of (pe_disp t1 t2 t3 h0 h15) ?_
  intro σ F H Q s c k z q hq
  have np := c.not_new hq
  have mq : Mv μ F H μ F (upd H q (.dK [])) := ⟨fun a o e _ => by rw [upd_ne (ne_of_none e hq)]; exact e, Same.refl F, fun a h => .inl h, fun a h => .inl h, fun a h => by
    by_cases z : a = q
    · subst z; exact hq
    · rw [upd_ne z] at h; exact h⟩
  have cq : Cm X.K F (upd H q (.dK [])) μ := ⟨fun a u e => by rw [upd_ne (ne_of_none (c.ex a u e) hq)]; exact c.ex a u e, fun w hw => by
    have nq : w.1 ≠ q := fun e => np (by rw [← e]; exact List.mem_map.mpr ⟨w, hw, rfl⟩)
    exact ⟨(c.mu w hw).1, (c.mu w hw).2.heap (by rw [upd_ne nq])⟩, c.nd⟩
  refine t5 σ F _ _ s cq (z.mv mq) fun us F2 H2 mm c2 r2 => ?_
  have e2 : H2 q = some (.dK []) := mm.kp q _ upd_same np
  have ek := repsK_keys r2
  have hlen : us.length ≤ 15 := by
    have := congrArg List.length ek
    rw [List.length_map, List.length_map] at this
    omega
  refine ⟨e2, us, rfl, hlen, ?_⟩
  rw [mergeK_nodup (by rw [List.nil_append, ek]; exact nd), List.nil_append]
  have fp : F2 q = none := by
    cases e : F2 q with
    | none => rfl
    | some o =>
      rcases mm.nw q (by rw [e]; exact fun z => by cases z) with w | w | w
      · exact absurd (c.f_none hq) w
      · rw [upd_same] at w; cases w
      · exact absurd w np
  have mall := mq.trans mm
  have cfin : Cm X.K F2 (upd H2 q (.dK us)) (μ ++ [(q, .dct kvs)]) := by
    refine ⟨fun a w e => ?_, fun w hw => ?_, ?_⟩
    · have ne : a ≠ q := fun z => by rw [z, fp] at e; cases e
      rw [upd_ne ne]; exact c2.ex a w e
    · rcases List.mem_append.mp hw with hw | hw
      · have ne : w.1 ≠ q := fun e => np (by rw [← e]; exact List.mem_map.mpr ⟨w, hw, rfl⟩)
        exact ⟨(c2.mu w hw).1, (c2.mu w hw).2.heap (by rw [upd_ne ne])⟩
      · simp at hw; subst hw
        exact ⟨fp, _, upd_same, r2⟩
    · unfold adrs
      rw [List.map_append]
      refine List.nodup_append.mpr ⟨c2.nd, by simp, ?_⟩
      intro a ha b hb e
      simp at hb
      subst hb; subst e
      exact np ha
  have mfin : Mv μ F H (μ ++ [(q, .dct kvs)]) F2 (upd H2 q (.dK us)) := by
    refine ⟨fun a o e n => ?_, mall.up, mall.nw, fun a ha => ?_, fun a e => ?_⟩
    · rw [upd_ne (ne_of_none e hq)]; exact mall.kp a o e n
    · rw [adrs, List.map_append] at ha
      rcases List.mem_append.mp ha with w | w
      · exact .inl w
      · simp at w; subst w; exact .inr hq
    · by_cases ne : a = q
      · subst ne; exact hq
      · rw [upd_ne ne] at e; exact mall.gr a e
  exact k _ _ _ _ _ (p q) mfin cfin (.ref q)
end
end VL
set_option Elab.async false
set_option linter.all false
set_option maxRecDepth 100000
set_option maxHeartbeats 4000000
/-! VDP: dict(list of pairs); x not in a mutable list. -/
namespace VL
open PySem PySem.Spec PyProof.Rows L2
def rDictP (K : PySem.W.Frag) : List V → Hp → VK → Prop := fun xs H Q => ∃ (a : Addr) (ps : List Addr) (kvs : List (Key × V)), xs = [.ref a] ∧ SqL K H a (ps.map V.ref) ∧ Paired (fun p kv => SqT K H p [kV kv.1, kv.2]) ps kvs ∧
    ∀ p, H p = none → Q (.ref p) (upd H p (.dK (mergeK [] kvs)))
theorem keyD_dK (k : Key) : keyD (dK k) = some k := by cases k <;> rfl
theorem reps_pairs {K : PySem.W.Frag} {F : Hp} : ∀ {kvs : List (Key × D)} {us : List V}, Reps K F us (kvs.map fun p => D.tup [dK p.1, p.2]) → ∃ (ps : List Addr) (kv : List (Key × V)), us = ps.map V.ref ∧ Paired (fun p kv => SqT K F p [kV kv.1, kv.2]) ps kv ∧ RepsK K F kv kvs
  | [], _, .nil => ⟨[], [], rfl, .nil, .nil⟩
  | p :: kvs, _, .cons r rr => by
    obtain ⟨ps, kv, rfl, h1, h2⟩ := reps_pairs rr
    obtain ⟨a, xs, rfl, e, r⟩ := rep_tt r
    obtain ⟨x, y, rfl, rx, ry⟩ := reps2 r
    have ex := key_rep rx (keyD_dK p.1)
    subst ex
    exact ⟨a :: ps, (p.1, y) :: kv, rfl, .cons e h1, .cons ry h2⟩
theorem paired_mono {α β : Type} {F G : α → β → Prop} (h : ∀ a b, F a b → G a b) : ∀ {xs : List α} {ys : List β}, Paired F xs ys → Paired G xs ys
  | _, _, .nil => .nil
  | _, _, .cons r t => .cons (h _ _ r) (paired_mono h t)
section
variable {K : PySem.W.Frag} {Z : Wish} {μ : Store} {P : D → Store → Prop}
theorem wc_dictP {kvs : List (Key × D)} (nd : (kvs.map (·.1)).Nodup) (p : P (.dct kvs) μ) : WC K Z (rDictP K) [.lst (kvs.map fun p => D.tup [dK p.1, p.2])] μ P := fun vs F H Q c r k z => by
  obtain ⟨v, rfl, r1⟩ := reps1 r
  obtain ⟨a, us, rfl, ea, qa⟩ := rep_ll r1
  obtain ⟨ps, kv, rfl, h1, h2⟩ := reps_pairs qa
  refine ⟨a, ps, kv, rfl, sq_list c.ex ea, paired_mono (fun _ _ e => same_t c.ex e) h1, fun q n => ?_⟩
  have m := mv_new (o := .dK (mergeK [] kv)) c n
  have e : mergeK [] kv = kv := mergeK_nodup (acc := []) (by rw [List.nil_append, repsK_keys h2]; exact nd)
  exact k _ _ _ _ _ p m (cm_new c n) (.dct upd_same (by rw [e] at m ⊢; exact h2.mono m.up))
theorem wop_notin_mut {j : Nat} {l : Addr} {x : D} {xs : List D} (hj : μ[j]? = some (l, .lst xs)) (hx : okD 64 x = true) (hy : okDs 63 xs = true) (p : P (.bl (!inD x xs)) μ) : WOp K Z (rNotInA K) x (.ref l) μ P := fun v u F H Q c r1 r2 k z => by
  cases r2
  obtain ⟨_, vs, hl, rv⟩ := c.mu _ (mem_at hj)
  have r0 : Rep K H (.ref l) (.lst xs) := .lst hl (rv.mono c.ex)
  exact .inl (.inr ⟨_, _, rep_dp c.ex r1 hx, .inl (by have := rep_dp (fun _ _ h => h) (n := 64) r0 (by rw [okD]; exact hy); rw [toPy] at this; exact this), (oks_lay hy).1, (ok_lay hx).1, (ok_lay hx).2, by rw [any_toPys]; exact k _ _ _ _ _ p (Mv.refl ..) c (.bl _)⟩)
end
end VL
set_option Elab.async false
set_option linter.all false
set_option maxRecDepth 100000
set_option maxHeartbeats 4000000
/-! VUP: s.upper(); a > b of data that are alike. -/
namespace VL
open PySem PySem.Spec PyProof.Rows L2
section
variable {X : Cx} {Z : Wish} {δ : Env} {μ : Store} {o : Expr} {apos pos : Pos}
theorem ve_upper {P : D → Store → Prop} (h : VE X Z o δ μ fun x μ1 => ∃ s : Str, x = .str s ∧ s.length ≤ 5592405 ∧ P (.str (Txt.upper s)) μ1)
    (hbase : attributeBase o "upper" X.env (eval o X.env) = eval o X.env := by rfl) (hline : (apos.endLine == pos.line) = true := by rfl) : VE X Z (.Call (.Attribute o "upper" apos) [] [] pos) δ μ P := by
  refine ve_of (pe_upper pe_r hbase hline) ?_
  intro σ F H Q s c k z
  show rE X o σ H _
  refine h σ F H _ s c (fun v d μ1 F1 H1 ⟨s0, e, hl, p⟩ m1 c1 r1 => ?_) z
  subst e
  cases r1
  exact ⟨⟨s0, rfl⟩, s0, rfl, rfl, hl, k _ _ _ _ _ p m1 c1 (.str _)⟩
def rGtD (K : PySem.W.Frag) : R2 := fun x y H Q => ∃ d e, Dp K H x d ∧ Dp K H y e ∧ PySem.W.alike d e = true ∧ d ≠ .none ∧ d.depth ≤ 64 ∧ Q (.bl (PySem.W.dataLt e d)) H
theorem op_gtD (hu : X.A.units + 64 < cLine) : OpR X (compareOp .Gt) (rGtD X.K) := by
  intro pins s σ H x y v u Q I rx ry h
  obtain ⟨d, e, hd, he, al, nn, dp, q⟩ := h
  obtain ⟨as, r1⟩ := Dp.reads I d x v hd rx
  obtain ⟨bs, r2⟩ := Dp.reads I e y u he ry
  exact PySem.W.rcGt_alike d e X.A s v u as bs r1 r2 al nn (by omega) X.prog X.w _ _ ⟨.bl _, H, I, rfl, q⟩
theorem wop_gt_mut {K : PySem.W.Frag} {j j' : Nat} {l l' : Addr} {xs ys : List D} {P : D → Store → Prop} (hj : μ[j]? = some (l, .lst xs)) (hj' : μ[j']? = some (l', .lst ys)) (hx : okDs 63 xs = true) (hy : okDs 63 ys = true) (al : alk (.lst xs) (.lst ys) = true)
    (p : P (.bl (ltv (.lst ys) (.lst xs))) μ) : WOp K Z (rGtD K) (.ref l) (.ref l') μ P := fun v u F H Q c r1 r2 k z => by
  cases r1
  cases r2
  obtain ⟨_, vs, hl, rv⟩ := c.mu _ (mem_at hj)
  obtain ⟨_, us, hl', ru⟩ := c.mu _ (mem_at hj')
  have d1 : Dp K H (.ref l) (toPy (.lst xs)) := rep_dp (fun _ _ h => h) (n := 64) (.lst hl (rv.mono c.ex)) (by rw [okD]; exact hx)
  have d2 : Dp K H (.ref l') (toPy (.lst ys)) := rep_dp (fun _ _ h => h) (n := 64) (.lst hl' (ru.mono c.ex)) (by rw [okD]; exact hy)
  exact ⟨_, _, d1, d2, al, by rw [toPy]; simp, (ok_lay (n := 64) (d := .lst xs) (by rw [okD]; exact hx)).2, k _ _ _ _ _ p (Mv.refl ..) c (.bl _)⟩
end
end VL
set_option Elab.async false
set_option linter.all false
set_option maxRecDepth 100000
set_option maxHeartbeats 4000000
/-! VMS: slices of lists that may be changed; in, ==, tuple of them; the store in another order. -/
namespace VL
open PySem PySem.Spec PyProof.Rows L2
section
variable {K : PySem.W.Frag} {Z : Wish} {μ : Store} {P : D → Store → Prop}
theorem wsl_mut {j : Nat} {l : Addr} {xs : List D} {lo hi : Option Int} (hj : μ[j]? = some (l, .lst xs)) (p : P (.lst (cutD xs lo hi)) μ) : WSl K Z (rSlA K) (.ref l) lo hi μ P := fun v F H Q c r k z => by
  cases r
  obtain ⟨_, ys, e, ry⟩ := c.mu _ (mem_at hj)
  refine .inl (.inl ⟨l, ys, rfl, SqL.of e, fun q n => ?_⟩)
  have m := mv_new (o := .lst (cutV ys lo hi)) c n
  exact k _ _ _ _ _ p m (cm_new c n) (.lst upd_same ((cut_rep ry).mono m.up))
theorem wop_in_mut {j : Nat} {l : Addr} {x : D} {xs : List D} (hj : μ[j]? = some (l, .lst xs)) (hx : okD 64 x = true) (hy : okDs 63 xs = true) (p : P (.bl (inD x xs)) μ) : WOp K Z (rInA K) x (.ref l) μ P := fun v u F H Q c r1 r2 k z => by
  cases r2
  obtain ⟨_, vs, hl, rv⟩ := c.mu _ (mem_at hj)
  have r0 : Rep K H (.ref l) (.lst xs) := .lst hl (rv.mono c.ex)
  exact .inl (.inr ⟨_, _, rep_dp c.ex r1 hx, .inl (by have := rep_dp (fun _ _ h => h) (n := 64) r0 (by rw [okD]; exact hy); rw [toPy] at this; exact this), (oks_lay hy).1, (ok_lay hx).1, (ok_lay hx).2, by rw [any_toPys]; exact k _ _ _ _ _ p (Mv.refl ..) c (.bl _)⟩)
theorem wop_eq_mut {j : Nat} {l : Addr} {xs : List D} {y : D} (hj : μ[j]? = some (l, .lst xs)) (hx : okDs 63 xs = true) (hy : okD 64 y = true) (p : P (.bl (eqv (.lst xs) y)) μ) : WOp K Z (rEqD K) (.ref l) y μ P := fun v u F H Q c r1 r2 k z => by
  cases r1
  obtain ⟨_, vs, hl, rv⟩ := c.mu _ (mem_at hj)
  have r0 : Rep K H (.ref l) (.lst xs) := .lst hl (rv.mono c.ex)
  have hx2 : okD 64 (.lst xs) = true := by rw [okD]; exact hx
  exact ⟨_, _, rep_dp (fun _ _ h => h) r0 hx2, rep_dp c.ex r2 hy, ok_shaped (Nat.le_refl _) hx2, ok_shaped (Nat.le_refl _) hy, k _ _ _ _ _ p (Mv.refl ..) c (.bl _)⟩
theorem wc_tup_mutS {j : Nat} {l : Addr} {xs : List D} (hj : μ[j]? = some (l, .lst xs)) (p : P (.tup xs) μ) : WC K Z (rTupA K) [.ref l] μ P := fun vs F H Q c r k z => by
  obtain ⟨v, rfl, r'⟩ := reps1 r
  cases r'
  obtain ⟨_, ys, e, r⟩ := c.mu _ (mem_at hj)
  exact ⟨l, ys, rfl, .inl ⟨.inl (.inl e), fun q n => k _ _ _ _ _ p (mv_new c n) (cm_new c n) (.tup (SqT.of upd_same) (r.mono (mv_new c n).up))⟩⟩
end
/-- the store in another order -/
theorem vss_perm {X : Cx} {Z : Wish} {δ : Env} {μ μ' : Store} {st : List Stmt} {P : Fl → Store → Prop} (hp : μ'.Perm μ) (h : VSs X Z st δ μ' P) : VSs X Z st δ μ P := fun σ F H Dn s c k z => by
  have m : Mv μ F H μ' F H := ⟨fun _ _ h _ => h, Same.refl F, fun _ h => .inl h, fun a h => .inl ((hp.map (·.1)).mem_iff.mp h), fun _ h => h⟩
  exact h σ F H Dn s ⟨c.ex, fun q hq => c.mu q (hp.mem_iff.mp hq), (show (μ'.map (·.1)).Nodup from (hp.map (·.1)).nodup_iff.mpr (show (μ.map (·.1)).Nodup from c.nd))⟩ (k.mv m) (z.mv m)
end VL
set_option Elab.async false
set_option linter.all false
set_option maxRecDepth 100000
set_option maxHeartbeats 4000000
/-! VQX: == and repr of data with small dicts ({} and {"a": 1}). -/
namespace VL
open PySem PySem.Spec PyProof.Rows L2 SeqAt
/-- nested data with small dicts, no lists -/
inductive VX : Nat → D → Prop
  | non {n : Nat} : VX n .non
  | bl {n : Nat} (b : Bool) : VX n (.bl b)
  | int {n : Nat} {i : Int} (h : (PyData.shown (.int i)).length ≤ 40 ∧ i.natAbs.log2 < 1920) : VX n (.int i)
  | str {n : Nat} {s : Str} (h : (PyData.shown (.str s)).length ≤ 40) : VX n (.str s)
  | d0 {n : Nat} : VX n (.dct [])
  | d1 {n : Nat} : VX n (.dct [(.inr "a", .int 1)])
  | tup {n : Nat} {xs : List D} (hl : xs.length ≤ 4) (h : ∀ x ∈ xs, VX n x) : VX (n + 1) (.tup xs)
mutual
/-- for ==: a dict is told as a list, which no value here is -/
def encX : D → PyData
  | .non => .none
  | .bl b => .bool b
  | .int i => .int i
  | .str s => .str s
  | .tup xs => .tuple (encXs xs)
  | .dct [] => .list []
  | .dct (_ :: _) => .list [.none]
  | _ => .none
def encXs : List D → List PyData
  | [] => []
  | x :: xs => encX x :: encXs xs
end
mutual
/-- for repr -/
def pyX : D → PyData
  | .non => .none
  | .bl b => .bool b
  | .int i => .int i
  | .str s => .str s
  | .tup xs => .tuple (pyXs xs)
  | .lst xs => .list (pyXs xs)
  | .dct [] => .dict []
  | .dct (_ :: _) => .dict [(.str "a", .int 1)]
  | _ => .none
def pyXs : List D → List PyData
  | [] => []
  | x :: xs => pyX x :: pyXs xs
end
theorem encXs_map : ∀ xs : List D, encXs xs = xs.map encX
  | [] => by rw [encXs]; rfl
  | x :: xs => by rw [encXs, encXs_map xs]; rfl
theorem pyXs_map : ∀ xs : List D, pyXs xs = xs.map pyX
  | [] => by rw [pyXs]; rfl
  | x :: xs => by rw [pyXs, pyXs_map xs]; rfl
def eqX (d e : D) : Bool := PyData.eqv (encX d) (encX e)
/-- a dict's object -/
def DcAt (h : Heap) (a : Addr) : Prop := ∃ dd es n sl, h.get? a = some { cls := .type "dict", dict := dd, data := .dict es n, slots := sl }
section
variable {prog : Program} {w : World} {A : Around} {E : Value → Shared → Prop} {s : Shared}
theorem DcAt.ty {h : Heap} {a : Addr} (x : DcAt s.heap a) : s.TypeIs (.ref a) "dict" := by
  obtain ⟨_, _, _, _, e⟩ := x
  exact ⟨_, e, rfl⟩
theorem dq_declines {a : Addr} {x : Value} {T : String} {Q : Value → Shared → Prop} {nm : Str} (sl : Slot "dict" nm "dict.__eq__") (ha : s.TypeIs (.ref a) "dict") (hx : s.TypeIs x T) (hs : isSubtype (.type T) (.type "dict") = pure false) (hq : Q .notImplemented s) :
    wpAny (model prog w) A (call (.builtin "dict.__eq__") [.ref a, x]) Q E s := by
  refine wpAny_call_entry sl ha PySem.F.entry_dict_eq ?_ (PySem.F.args_dict_eq_2 _ _)
  show wpAny _ _ (Builtin.Dict.dictSlotArgs "__eq__" ⟨[Value.ref a, x], []⟩ >>= _) _ _ s
  refine wpAny_bind ?_
  unfold Builtin.Dict.dictSlotArgs
  refine wpAny_bind (wpAny_notOrdered_dict ha ?_)
  show wpAny _ _ (pure (Value.ref a, x)) _ _ s
  refine wpAny_pure (wpAny_bind (wpAny_isInstance (T := T) hx hs ?_))
  simp only [Bool.not_false, if_true]
  refine wpAny_bind (wpAny_rule ?_)
  exact wpAny_bind (wpAny_pure (wpAny_pure ⟨_, rfl, hq⟩))
theorem dq_int {x : Value} (hx : (∃ b, x = .bool b) ∨ ∃ i t, x = .int i t) {l : Addr} (dd : Option Addr) (es : Array DictEntry) (n : Nat) (sl : Array (Option Value)) :
    Meets (Builtin.«int.__eq__» ⟨[x, .ref l], []⟩) (fun _ R s => s.heap.get? l = some { cls := .type "dict", dict := dd, data := .dict es n, slots := sl } ∧ R (.ok (.ret .notImplemented)) s) := by
  rcases hx with ⟨b, rfl⟩ | ⟨i, t, rfl⟩
  · exact .of_wp fun prog w A R s q => by
      obtain ⟨hp, g, d, tk, os⟩ := s
      obtain ⟨ho, q⟩ := q
      wp_walk using AutoSeq1.wpAny_loadPart' ho, wpAny_load ho
      exact ⟨_, rfl, q⟩
  · exact .of_wp fun prog w A R s q => by
      obtain ⟨hp, g, d, tk, os⟩ := s
      obtain ⟨ho, q⟩ := q
      wp_walk using AutoSeq1.wpAny_loadPart' ho, wpAny_load ho
      exact ⟨_, rfl, q⟩
theorem dq_str (y : Str) (t : Tok) {l : Addr} (dd : Option Addr) (es : Array DictEntry) (n : Nat) (sl : Array (Option Value)) :
    Meets (Builtin.«str.__eq__» ⟨[.str y t, .ref l], []⟩) (fun _ R s => s.heap.get? l = some { cls := .type "dict", dict := dd, data := .dict es n, slots := sl } ∧ R (.ok (.ret .notImplemented)) s) :=
  .of_wp fun prog w A R s q => by
    obtain ⟨hp, g, d, tk, os⟩ := s
    obtain ⟨ho, q⟩ := q
    wp_walk using AutoSeq1.wpAny_loadPart' ho, wpAny_load ho
    exact ⟨_, rfl, q⟩
theorem dq_tup {l b : Addr} (xs : Array Value) (m : Nat) (d2 : Option Addr) (s2 : Array (Option Value)) (dd : Option Addr) (es : Array DictEntry) (n : Nat) (sl : Array (Option Value)) :
    Meets (Builtin.«tuple.__eq__» ⟨[.ref b, .ref l], []⟩) (fun _ R s => s.heap.get? l = some { cls := .type "dict", dict := dd, data := .dict es n, slots := sl } ∧ s.heap.get? b = some { cls := .type "tuple", dict := d2, data := .seq xs m, slots := s2 } ∧ R (.ok (.ret .notImplemented)) s) :=
  .of_wp fun prog w A R s q => by
    obtain ⟨hp, g, d, tk, os⟩ := s
    obtain ⟨ho, ho2, q⟩ := q
    have f1 := PySem.F.sub_dict_tuple
    wp_walk using AutoSeq1.wpAny_loadPart' ho2, AutoSeq1.wpAny_loadPart' ho
    exact ⟨_, rfl, q⟩
theorem get_ne {h : Heap} {a b : Addr} {o u : Obj} (e1 : h.get? a = some o) (e2 : h.get? b = some u) (d : o.cls ≠ u.cls) : a ≠ b := fun z => by
  subst z
  rw [e1] at e2
  exact d (congrArg Obj.cls (Option.some.inj e2))
theorem dict_none {a : Addr}  (ha : DcAt s.heap a) (hu : A.units < cLine) : SeqAt.EqP prog w A s (.ref a) (.none) false := by
  have rc : ∀ E Q : Value → Shared → Prop, Q (.bool false) s → wpAny (model prog w) A (richCompare .Eq (.ref a) (.none)) Q E s := fun E Q h => by
    obtain ⟨dd, es, n, sl, ho⟩ := ha
    exact rc_eq_decline_or (k := false) ⟨_, ho, rfl⟩ rfl (by decide) PySem.F.sub_NoneType_dict PySem.F.slot_dict_eq PySem.F.slot_NoneType_eq_refl
      (fun _ hq => dq_declines PySem.F.slot_dict_eq ⟨_, ho, rfl⟩ (T := "NoneType") rfl PySem.F.sub_NoneType_dict hq) (fun _ hq => call_gives PySem.F.slot_NoneType_eq_refl rfl PySem.F.entry_NoneType_eq (PySem.F.args_NoneType_eq_2 _ _) (NoneType___eq___none_ref_0 a) hq)
      (fun _ hq => wpAny_of_eq (show isSame (.ref a) (.none) = pure false from rfl) hq) (.inr hu) h
  intro E Q hq
  unfold eqBool
  refine wpAny_holding (wpAny_ite_split (fun hab => absurd (eq_of_beq hab) nofun) fun _ => ?_)
  exact wpAny_bind (rc E _ (wpAny_truthy_bool hq))
theorem none_dict {a : Addr}  (ha : DcAt s.heap a) (hu : A.units < cLine) : SeqAt.EqP prog w A s (.none) (.ref a) false := by
  have rc : ∀ E Q : Value → Shared → Prop, Q (.bool false) s → wpAny (model prog w) A (richCompare .Eq (.none) (.ref a)) Q E s := fun E Q h => by
    obtain ⟨dd, es, n, sl, ho⟩ := ha
    exact rc_eq_decline_or (k := false) rfl ⟨_, ho, rfl⟩ (by decide) PySem.F.sub_dict_NoneType PySem.F.slot_NoneType_eq PySem.F.slot_dict_eq_refl (fun _ hq => call_gives PySem.F.slot_NoneType_eq rfl PySem.F.entry_NoneType_eq (PySem.F.args_NoneType_eq_2 _ _) (NoneType___eq___none_ref_0 a) hq)
      (fun _ hq => dq_declines PySem.F.slot_dict_eq_refl ⟨_, ho, rfl⟩ (T := "NoneType") rfl PySem.F.sub_NoneType_dict hq)
      (fun _ hq => wpAny_of_eq (show isSame (.none) (.ref a) = pure false from rfl) hq) (.inr hu) h
  intro E Q hq
  unfold eqBool
  refine wpAny_holding (wpAny_ite_split (fun hab => absurd (eq_of_beq hab) nofun) fun _ => ?_)
  exact wpAny_bind (rc E _ (wpAny_truthy_bool hq))
theorem dict_bool {a : Addr} (b : Bool) (ha : DcAt s.heap a) (hu : A.units < cLine) : SeqAt.EqP prog w A s (.ref a) (.bool b) false := by
  have rc : ∀ E Q : Value → Shared → Prop, Q (.bool false) s → wpAny (model prog w) A (richCompare .Eq (.ref a) (.bool b)) Q E s := fun E Q h => by
    obtain ⟨dd, es, n, sl, ho⟩ := ha
    exact rc_eq_decline_or (k := false) ⟨_, ho, rfl⟩ rfl (by decide) PySem.F.sub_bool_dict PySem.F.slot_dict_eq PySem.F.slot_bool_eq_refl
      (fun _ hq => dq_declines PySem.F.slot_dict_eq ⟨_, ho, rfl⟩ (T := "bool") rfl PySem.F.sub_bool_dict hq) (fun _ hq => call_meets PySem.F.slot_bool_eq_refl rfl PySem.F.entry_int_eq (PySem.F.args_int_eq_2 _ _) (dq_int (.inl ⟨_, rfl⟩) dd es n sl) ⟨ho, hq⟩)
      (fun _ hq => wpAny_of_eq (show isSame (.ref a) (.bool b) = pure false from rfl) hq) (.inr hu) h
  intro E Q hq
  unfold eqBool
  refine wpAny_holding (wpAny_ite_split (fun hab => absurd (eq_of_beq hab) nofun) fun _ => ?_)
  exact wpAny_bind (rc E _ (wpAny_truthy_bool hq))
theorem bool_dict {a : Addr} (b : Bool) (ha : DcAt s.heap a) (hu : A.units < cLine) : SeqAt.EqP prog w A s (.bool b) (.ref a) false := by
  have rc : ∀ E Q : Value → Shared → Prop, Q (.bool false) s → wpAny (model prog w) A (richCompare .Eq (.bool b) (.ref a)) Q E s := fun E Q h => by
    obtain ⟨dd, es, n, sl, ho⟩ := ha
    exact rc_eq_decline_or (k := false) rfl ⟨_, ho, rfl⟩ (by decide) PySem.F.sub_dict_bool PySem.F.slot_bool_eq PySem.F.slot_dict_eq_refl (fun _ hq => call_meets PySem.F.slot_bool_eq rfl PySem.F.entry_int_eq (PySem.F.args_int_eq_2 _ _) (dq_int (.inl ⟨_, rfl⟩) dd es n sl) ⟨ho, hq⟩)
      (fun _ hq => dq_declines PySem.F.slot_dict_eq_refl ⟨_, ho, rfl⟩ (T := "bool") rfl PySem.F.sub_bool_dict hq)
      (fun _ hq => wpAny_of_eq (show isSame (.bool b) (.ref a) = pure false from rfl) hq) (.inr hu) h
  intro E Q hq
  unfold eqBool
  refine wpAny_holding (wpAny_ite_split (fun hab => absurd (eq_of_beq hab) nofun) fun _ => ?_)
  exact wpAny_bind (rc E _ (wpAny_truthy_bool hq))
theorem dict_int {a : Addr} (i : Int) (t : Tok) (ha : DcAt s.heap a) (hu : A.units < cLine) : SeqAt.EqP prog w A s (.ref a) (.int i t) false := by
  have rc : ∀ E Q : Value → Shared → Prop, Q (.bool false) s → wpAny (model prog w) A (richCompare .Eq (.ref a) (.int i t)) Q E s := fun E Q h => by
    obtain ⟨dd, es, n, sl, ho⟩ := ha
    exact rc_eq_decline_or (k := false) ⟨_, ho, rfl⟩ rfl (by decide) PySem.F.sub_int_dict PySem.F.slot_dict_eq PySem.F.slot_int_eq_refl
      (fun _ hq => dq_declines PySem.F.slot_dict_eq ⟨_, ho, rfl⟩ (T := "int") rfl PySem.F.sub_int_dict hq) (fun _ hq => call_meets PySem.F.slot_int_eq_refl rfl PySem.F.entry_int_eq (PySem.F.args_int_eq_2 _ _) (dq_int (.inr ⟨_, _, rfl⟩) dd es n sl) ⟨ho, hq⟩)
      (fun _ hq => wpAny_of_eq (show isSame (.ref a) (.int i t) = pure false from rfl) hq) (.inr hu) h
  intro E Q hq
  unfold eqBool
  refine wpAny_holding (wpAny_ite_split (fun hab => absurd (eq_of_beq hab) nofun) fun _ => ?_)
  exact wpAny_bind (rc E _ (wpAny_truthy_bool hq))
theorem int_dict {a : Addr} (i : Int) (t : Tok) (ha : DcAt s.heap a) (hu : A.units < cLine) : SeqAt.EqP prog w A s (.int i t) (.ref a) false := by
  have rc : ∀ E Q : Value → Shared → Prop, Q (.bool false) s → wpAny (model prog w) A (richCompare .Eq (.int i t) (.ref a)) Q E s := fun E Q h => by
    obtain ⟨dd, es, n, sl, ho⟩ := ha
    exact rc_eq_decline_or (k := false) rfl ⟨_, ho, rfl⟩ (by decide) PySem.F.sub_dict_int PySem.F.slot_int_eq PySem.F.slot_dict_eq_refl (fun _ hq => call_meets PySem.F.slot_int_eq rfl PySem.F.entry_int_eq (PySem.F.args_int_eq_2 _ _) (dq_int (.inr ⟨_, _, rfl⟩) dd es n sl) ⟨ho, hq⟩)
      (fun _ hq => dq_declines PySem.F.slot_dict_eq_refl ⟨_, ho, rfl⟩ (T := "int") rfl PySem.F.sub_int_dict hq)
      (fun _ hq => wpAny_of_eq (show isSame (.int i t) (.ref a) = pure false from rfl) hq) (.inr hu) h
  intro E Q hq
  unfold eqBool
  refine wpAny_holding (wpAny_ite_split (fun hab => absurd (eq_of_beq hab) nofun) fun _ => ?_)
  exact wpAny_bind (rc E _ (wpAny_truthy_bool hq))
theorem dict_str {a : Addr} (y : Str) (t : Tok) (ha : DcAt s.heap a) (hu : A.units < cLine) : SeqAt.EqP prog w A s (.ref a) (.str y t) false := by
  have rc : ∀ E Q : Value → Shared → Prop, Q (.bool false) s → wpAny (model prog w) A (richCompare .Eq (.ref a) (.str y t)) Q E s := fun E Q h => by
    obtain ⟨dd, es, n, sl, ho⟩ := ha
    exact rc_eq_decline_or (k := false) ⟨_, ho, rfl⟩ rfl (by decide) PySem.F.sub_str_dict PySem.F.slot_dict_eq PySem.F.slot_str_eq_refl
      (fun _ hq => dq_declines PySem.F.slot_dict_eq ⟨_, ho, rfl⟩ (T := "str") rfl PySem.F.sub_str_dict hq) (fun _ hq => call_meets PySem.F.slot_str_eq_refl rfl PySem.F.entry_str_eq (PySem.F.args_str_eq_2 _ _) (dq_str y t dd es n sl) ⟨ho, hq⟩)
      (fun _ hq => wpAny_of_eq (show isSame (.ref a) (.str y t) = pure false from rfl) hq) (.inr hu) h
  intro E Q hq
  unfold eqBool
  refine wpAny_holding (wpAny_ite_split (fun hab => absurd (eq_of_beq hab) nofun) fun _ => ?_)
  exact wpAny_bind (rc E _ (wpAny_truthy_bool hq))
theorem str_dict {a : Addr} (y : Str) (t : Tok) (ha : DcAt s.heap a) (hu : A.units < cLine) : SeqAt.EqP prog w A s (.str y t) (.ref a) false := by
  have rc : ∀ E Q : Value → Shared → Prop, Q (.bool false) s → wpAny (model prog w) A (richCompare .Eq (.str y t) (.ref a)) Q E s := fun E Q h => by
    obtain ⟨dd, es, n, sl, ho⟩ := ha
    exact rc_eq_decline_or (k := false) rfl ⟨_, ho, rfl⟩ (by decide) PySem.F.sub_dict_str PySem.F.slot_str_eq PySem.F.slot_dict_eq_refl (fun _ hq => call_meets PySem.F.slot_str_eq rfl PySem.F.entry_str_eq (PySem.F.args_str_eq_2 _ _) (dq_str y t dd es n sl) ⟨ho, hq⟩)
      (fun _ hq => dq_declines PySem.F.slot_dict_eq_refl ⟨_, ho, rfl⟩ (T := "str") rfl PySem.F.sub_str_dict hq)
      (fun _ hq => wpAny_of_eq (show isSame (.str y t) (.ref a) = pure false from rfl) hq) (.inr hu) h
  intro E Q hq
  unfold eqBool
  refine wpAny_holding (wpAny_ite_split (fun hab => absurd (eq_of_beq hab) nofun) fun _ => ?_)
  exact wpAny_bind (rc E _ (wpAny_truthy_bool hq))
theorem dict_tuple {a b : Addr} {xs : Array Value} (ha : DcAt s.heap a) (hb : s.heap.IsTuple b xs) (hu : A.units < cLine) : SeqAt.EqP prog w A s (.ref a) (.ref b) false := by
  obtain ⟨dd, es, n, sl, ho⟩ := ha
  obtain ⟨⟨c2, d2, t2, s2⟩, ho2, hc2, n2, hd2⟩ := hb
  simp only at hc2 hd2
  subst hc2 hd2
  have ne : a ≠ b := get_ne ho ho2 (by simp)
  refine SeqAt.eqP_refs ne fun E Q h => ?_
  exact rc_eq_decline_or (k := false) ⟨_, ho, rfl⟩ ⟨_, ho2, rfl⟩ (by decide) PySem.F.sub_tuple_dict PySem.F.slot_dict_eq PySem.F.slot_tuple_eq_refl
    (fun _ hq => dq_declines PySem.F.slot_dict_eq ⟨_, ho, rfl⟩ (T := "tuple") ⟨_, ho2, rfl⟩ PySem.F.sub_tuple_dict hq)
    (fun _ hq => call_meets PySem.F.slot_tuple_eq_refl ⟨_, ho2, rfl⟩ PySem.F.entry_tuple_eq (PySem.F.args_tuple_eq_2 _ _) (dq_tup xs n2 d2 s2 dd es n sl) ⟨ho, ho2, hq⟩)
    (fun _ hq => wpAny_isSame_ref_other ne ho ho2 (by simp) hq) (.inr hu) h
theorem tuple_dict {a b : Addr} {xs : Array Value} (ha : DcAt s.heap a) (hb : s.heap.IsTuple b xs) (hu : A.units < cLine) : SeqAt.EqP prog w A s (.ref b) (.ref a) false := by
  obtain ⟨dd, es, n, sl, ho⟩ := ha
  obtain ⟨⟨c2, d2, t2, s2⟩, ho2, hc2, n2, hd2⟩ := hb
  simp only at hc2 hd2
  subst hc2 hd2
  have ne : b ≠ a := get_ne ho2 ho (by simp)
  refine SeqAt.eqP_refs ne fun E Q h => ?_
  exact rc_eq_decline_or (k := false) ⟨_, ho2, rfl⟩ ⟨_, ho, rfl⟩ (by decide) PySem.F.sub_dict_tuple PySem.F.slot_tuple_eq PySem.F.slot_dict_eq_refl
    (fun _ hq => call_meets PySem.F.slot_tuple_eq ⟨_, ho2, rfl⟩ PySem.F.entry_tuple_eq (PySem.F.args_tuple_eq_2 _ _) (dq_tup xs n2 d2 s2 dd es n sl) ⟨ho, ho2, hq⟩)
    (fun _ hq => dq_declines PySem.F.slot_dict_eq_refl ⟨_, ho, rfl⟩ (T := "tuple") ⟨_, ho2, rfl⟩ PySem.F.sub_tuple_dict hq)
    (fun _ hq => wpAny_isSame_ref_other' ne ho2 ho (by simp) hq) (.inr hu) h
theorem tuples_rcP {a b : Addr} {xs ys : Array Value} {e : Nat → Bool} (ha : s.heap.IsTuple a xs) (hb : s.heap.IsTuple b ys) (hu : A.units < cLine)
    (he : ∀ j (h1 : j < xs.size) (h2 : j < ys.size), SeqAt.EqP prog w A.in1 s xs[j] ys[j] (e j)) (E Q : Value → Shared → Prop) (h : Q (.bool ((List.range (min xs.size ys.size)).all e && xs.size == ys.size)) s) : wpAny (model prog w) A (richCompare .Eq (.ref a) (.ref b)) Q E s := by
  obtain ⟨⟨c1, d1, t1, s1⟩, ho, hc, n1, hd⟩ := ha
  obtain ⟨⟨c2, d2, t2, s2⟩, ho2, hc2, n2, hd2⟩ := hb
  simp only at hc hd hc2 hd2
  subst hc hd hc2 hd2
  refine wpAny_richCompare_same_room (op := .Eq) ⟨_, ho, rfl⟩ ⟨_, ho2, rfl⟩ PySem.F.slot_tuple_eq (wpAny_call_entry PySem.F.slot_tuple_eq ⟨_, ho, rfl⟩ PySem.F.entry_tuple_eq ?_ (PySem.F.args_tuple_eq_2 _ _)) hu
  obtain ⟨hp, g, d, tk, os⟩ := s
  have f2 := AutoSeq1.sub_tuple_tuple
  have hZ : (xs.toList.zip ys.toList).length = min xs.size ys.size := by simp
  wp_walk using AutoSeq1.wpAny_loadPart' ho, AutoSeq1.wpAny_loadPart' ho2, wpAny_forIn_list _ (fun rest b s' => b.1 = none ∧ s' = ⟨hp, g, d, tk, os⟩ ∧ ∃ i, rest = (xs.toList.zip ys.toList).drop i ∧
    Q (.bool (((List.range (min xs.size ys.size)).drop i).all e && xs.size == ys.size)) ⟨hp, g, d, tk, os⟩) _
  case turn =>
    rintro ⟨y, x⟩ rest b s' ⟨hb', rfl, i, hz, hR⟩
    have hlt : i < (xs.toList.zip ys.toList).length := by
      apply Nat.lt_of_not_le
      intro h'
      rw [List.drop_of_length_le h'] at hz
      cases hz
    have hm : i < min xs.size ys.size := by rw [← hZ]; exact hlt
    have h1 : i < xs.size := by omega
    have h2 : i < ys.size := by omega
    rw [List.drop_eq_getElem_cons hlt] at hz
    obtain ⟨hyx, hrest⟩ := List.cons.inj hz
    have hyx' : (y, x) = (xs[i], ys[i]) := by rw [hyx]; simp
    obtain ⟨hy, hx⟩ := Prod.mk.inj hyx'
    subst hy hx
    rw [show (List.range (min xs.size ys.size)).drop i = i :: (List.range (min xs.size ys.size)).drop (i + 1) by simp [List.drop_eq_getElem_cons, hm], List.all_cons] at hR
    refine wpAny_bind (he i h1 h2 _ _ ?_)
    cases hy : e i with
    | true =>
      rw [hy] at hR
      wp_walk
      exact ⟨rfl, rfl, i + 1, hrest, by simpa using hR⟩
    | false =>
      rw [hy] at hR
      wp_walk
      exact ⟨_, rfl, fun z => (nomatch z), by simpa using hR⟩
  case fin =>
    rintro ⟨b1, b2⟩ s' ⟨hb', rfl, i, hz, hR⟩
    simp only at hb'
    subst hb'
    have hge : min xs.size ys.size ≤ i := by
      apply Nat.le_of_not_lt
      intro h'
      rw [List.drop_eq_getElem_cons (by rw [hZ]; exact h')] at hz
      cases hz
    rw [List.drop_of_length_le (by simpa using hge)] at hR
    wp_walk
    exact ⟨_, rfl, fun z => (nomatch z), by simpa [Builtin.Tuple.tupleCompareSizes] using hR⟩
  case h =>
    exact ⟨rfl, rfl, 0, rfl, by simpa using h⟩
end
section
variable {X : Cx} {pins : List (Addr × Obj)} {σ : L2.St} {H F : Hp} {s : Shared}
theorem dc_at (I : Inv X pins σ H s) {a : Addr} {kvs : List (Key × V)} (e : H a = some (.dK kvs)) : DcAt s.heap a := by
  obtain ⟨_, _, _, _, o, es, ep, ho, ⟨h1, h2, h3⟩, hd, _⟩ := (show ObjOk X.prog X.w H s.heap a (.dK kvs) from I.hok a _ e)
  obtain ⟨c, d, dt, sl⟩ := o
  simp only at h1 hd
  subst h1 hd
  exact ⟨_, _, _, _, ho⟩
theorem istup {h : Heap} {a : Addr} {xs : Array Value} (p : IsTup h a xs) : h.IsTuple a xs := p
theorem dicts_eqP (I : Inv X pins σ H s) {A : Around} {a b : Addr} {ks ls : List (Key × V)} {k : Bool} (ha : H a = some (.dK ks)) (hb : H b = some (.dK ls)) (hu : A.units + 1 < cLine)
    (h : (ks = [] ∧ ls = [] ∧ k = true) ∨ (ks = [] ∧ (∃ p, ls = [p]) ∧ k = false) ∨ ((∃ p, ks = [p]) ∧ ls = [] ∧ k = false) ∨ (ks = [(.inr "a", .int 1)] ∧ ls = [(.inr "a", .int 1)] ∧ k = true)) : SeqAt.EqP X.prog X.w A s (.ref a) (.ref b) k := by
  by_cases e : a = b
  · subst e
    rw [ha] at hb
    cases hb
    have ek : k = true := by
      rcases h with ⟨_, _, z⟩ | ⟨e1, ⟨_, e2⟩, _⟩ | ⟨⟨_, e1⟩, e2, _⟩ | ⟨_, _, z⟩
      · exact z
      · rw [e1] at e2; cases e2
      · rw [e1] at e2; cases e2
      · exact z
    rw [ek]
    exact (SeqAt.EqAt.same _).eqP
  obtain ⟨_, ya, va, ra, da⟩ := (show ObjOk X.prog X.w H s.heap a (.dK ks) from I.hok a _ ha)
  obtain ⟨_, yb, vb, rb, db⟩ := (show ObjOk X.prog X.w H s.heap b (.dK ls) from I.hok b _ hb)
  have la : va.length = ks.length := ra.length.symm
  have lb : vb.length = ls.length := rb.length.symm
  refine SeqAt.eqP_refs e fun E Q q => ?_
  rcases h with ⟨e1, e2, rfl⟩ | ⟨e1, ⟨_, e2⟩, rfl⟩ | ⟨⟨_, e1⟩, e2, rfl⟩ | ⟨e1, e2, rfl⟩
  · subst e1 e2
    obtain rfl : va = [] := List.eq_nil_of_length_eq_zero la
    obtain rfl : vb = [] := List.eq_nil_of_length_eq_zero lb
    exact PySem.W.rcP_dicts (knd := mixKind X.prog X.w) (r := true) ya yb da db (by omega) (fun _ => .nil) E Q q
  · subst e1 e2
    refine PySem.W.rcP_dicts (knd := mixKind X.prog X.w) (r := true) ya yb da db (by omega) (fun z => ?_) E Q ?_
    · rw [la, lb] at z; cases z
    · rw [la, lb]; exact q
  · subst e1 e2
    refine PySem.W.rcP_dicts (knd := mixKind X.prog X.w) (r := true) ya yb da db (by omega) (fun z => ?_) E Q ?_
    · rw [la, lb] at z; cases z
    · rw [la, lb]; exact q
  · subst e1 e2
    refine PySem.W.rcP_dicts (knd := mixKind X.prog X.w) (r := true) ya yb da db (by omega) (fun z => ?_) E Q ?_
    · refine hits_run (F := fun x y => x = .int 1 ∧ y = .int 1) (fun x y v u hf r1 r2 => ?_) rb ra fun p hp => ?_
      · obtain ⟨rfl, rfl⟩ := hf
        obtain ⟨t, rfl⟩ := r1
        obtain ⟨t', rfl⟩ := r2
        exact (SeqAt.EqAt.int_int 1 t 1 t').eqP
      · rw [List.mem_singleton] at hp
        subst hp
        exact ⟨.int 1, rfl, rfl, rfl⟩
    · rw [la, lb]; exact q
theorem itemsX {A : Around} {us ws : List Value} {xs ys : List D} (hl : us.length = xs.length) (hl2 : ws.length = ys.length) (h : ∀ (j : Nat) (d e : D) (v u : Value), xs[j]? = some d → ys[j]? = some e → us[j]? = some v → ws[j]? = some u → SeqAt.EqP X.prog X.w A s v u (eqX d e)) :
    ∀ j (h1 : j < us.toArray.size) (h2 : j < ws.toArray.size), SeqAt.EqP X.prog X.w A s us.toArray[j] ws.toArray[j] (match xs[j]?, ys[j]? with | some d, some e => eqX d e | _, _ => false) := by
  intro j h1 h2
  have h1 : j < us.length := by simpa using h1
  have h2 : j < ws.length := by simpa using h2
  have e1 : xs[j]? = some (xs[j]'(by omega)) := List.getElem?_eq_getElem _
  have e2 : ys[j]? = some (ys[j]'(by omega)) := List.getElem?_eq_getElem _
  have := h j _ _ us[j] ws[j] e1 e2 (List.getElem?_eq_getElem h1) (List.getElem?_eq_getElem h2)
  rw [e1, e2]
  simpa using this
theorem allX : ∀ xs ys : List D, ((List.range (min xs.length ys.length)).all (fun j => match xs[j]?, ys[j]? with | some d, some e => eqX d e | _, _ => false) && xs.length == ys.length) = PyData.eqvAll (encXs xs) (encXs ys)
  | [], [] => rfl
  | [], _ :: _ => rfl
  | _ :: _, [] => rfl
  | x :: xs, y :: ys => by
    rw [encXs, encXs, PyData.eqvAll, ← allX xs ys]
    rw [List.length_cons, List.length_cons, Nat.add_min_add_right, List.range_succ_eq_map, List.all_cons, List.all_map]
    show ((eqX x y && _) && _) = (eqX x y && _)
    rw [Bool.and_assoc]
    congr 2
    · rw [show (xs.length + 1 == ys.length + 1) = (xs.length == ys.length) from by simp]
theorem dc_tup {h : Heap} {a : Addr} {xs : Array Value} (d : DcAt h a) (p : IsTup h a xs) : False := by
  obtain ⟨_, _, _, _, e⟩ := d
  obtain ⟨o, e2, c, _⟩ := p
  exact get_ne e e2 (by rw [c]; simp) rfl
theorem rep_uniq (I : Inv X pins σ H s) (ex : Same F H) {n : Nat} {d : D} (h : VX n d) : ∀ {m : Nat} {e : D} {v : V}, VX m e → Rep X.K F v d → Rep X.K F v e → d = e := by
  induction h with
  | non => intro m e v h2 r1 r2; cases r1; cases r2; rfl
  | bl b => intro m e v h2 r1 r2; cases r1; cases r2; rfl
  | int h => intro m e v h2 r1 r2; cases r1; cases r2; rfl
  | str h => intro m e v h2 r1 r2; cases r1; cases r2; rfl
  | d0 =>
    intro m e v h2 r1 r2
    cases r1 with
    | dct e1 k1 =>
      cases k1
      cases h2 with
      | non => cases r2
      | bl b => cases r2
      | int h => cases r2
      | str h => cases r2
      | d0 => rfl
      | d1 =>
        cases r2 with
        | dct e2 k2 =>
          cases k2
          rw [e1] at e2
          cases e2
      | tup hl h =>
        cases r2 with
        | tup e2 k2 =>
          obtain ⟨_, _, p, _⟩ := I.tuple (same_t ex e2)
          exact (dc_tup (dc_at I (ex _ _ e1)) p).elim
  | d1 =>
    intro m e v h2 r1 r2
    cases r1 with
    | dct e1 k1 =>
      cases h2 with
      | non => cases r2
      | bl b => cases r2
      | int h => cases r2
      | str h => cases r2
      | d0 =>
        cases r2 with
        | dct e2 k2 =>
          cases k2
          cases k1
          rw [e1] at e2
          cases e2
      | d1 => rfl
      | tup hl h =>
        cases r2 with
        | tup e2 k2 =>
          obtain ⟨_, _, p, _⟩ := I.tuple (same_t ex e2)
          exact (dc_tup (dc_at I (ex _ _ e1)) p).elim
  | @tup n xs hl h ih =>
    intro m e v h2 r1 r2
    cases r1 with
    | tup e1 k1 =>
      cases h2 with
      | non => cases r2
      | bl b => cases r2
      | int h => cases r2
      | str h => cases r2
      | d0 =>
        cases r2 with
        | dct e2 k2 =>
          obtain ⟨_, _, p, _⟩ := I.tuple (same_t ex e1)
          exact (dc_tup (dc_at I (ex _ _ e2)) p).elim
      | d1 =>
        cases r2 with
        | dct e2 k2 =>
          obtain ⟨_, _, p, _⟩ := I.tuple (same_t ex e1)
          exact (dc_tup (dc_at I (ex _ _ e2)) p).elim
      | @tup m ys hl' h' =>
        cases r2 with
        | tup e2 k2 =>
          have ee := I.tuple_inj (same_t ex e1) (same_t ex e2)
          subst ee
          have hxy : xs = ys := by
            refine List.ext_getElem? fun i => ?_
            cases g : xs[i]? with
            | none =>
              have hlen : ys.length = xs.length := by rw [← k2.length, ← k1.length]
              have := List.getElem?_eq_none_iff.mp g
              exact (List.getElem?_eq_none_iff.mpr (by omega)).symm
            | some x =>
              obtain ⟨u, gu, ru⟩ := k1.get g
              obtain ⟨y, gy, ry⟩ := k2.get' gu
              rw [gy, ih x (List.mem_of_getElem? g) (h' y (List.mem_of_getElem? gy)) ru ry]
          rw [hxy]
theorem eqX_refl {n : Nat} {d : D} (h : VX n d) : eqX d d = true := by
  induction h with
  | non => rfl
  | bl b => show (b == b) = true; exact beq_self_eq_true b
  | @int _ i _ => show (i == i) = true; exact beq_self_eq_true i
  | @str _ y _ => show (y == y) = true; exact beq_self_eq_true y
  | d0 => rfl
  | d1 => rfl
  | @tup n xs hl h ih =>
    show PyData.eqvAll (encXs xs) (encXs xs) = true
    clear hl
    induction xs with
    | nil => rfl
    | cons x xs k =>
      rw [encXs, PyData.eqvAll, show PyData.eqv (encX x) (encX x) = true from ih x List.mem_cons_self, k (fun y hy => h y (List.mem_cons_of_mem _ hy)) fun y hy => ih y (List.mem_cons_of_mem _ hy)]
      rfl
theorem vals_at : ∀ {vs : List V} {us : List Value} {j : Nat} {v : V} {u : Value}, Vals vs us → vs[j]? = some v → us[j]? = some u → RelV v u
  | _, _, _, _, _, .nil, h, _ => by simp at h
  | _, _, 0, _, _, .cons r _, h, h2 => by simp at h h2; subst h; subst h2; exact r
  | _, _, j + 1, _, _, .cons _ rr, h, h2 => vals_at rr (by simpa using h) (by simpa using h2)
theorem eqX_run (I : Inv X pins σ H s) (ex : Same F H) : ∀ (n : Nat) (A : Around), A.units + n + 1 < cLine → ∀ (d e : D) (x y : V) (v u : Value), VX n d → VX n e → Rep X.K F x d → Rep X.K F y e → RelV x v → RelV y u → SeqAt.EqP X.prog X.w A s v u (eqX d e)
  | n, A, hu, d, e, x, y, v, u, hd, he, rd, re, rx, ry => by
    have hu0 : A.units < cLine := by omega
    have hu1 : A.units + 1 < cLine := by omega
    cases hd with
    | non =>
      cases rd
      cases rx
      cases he with
      | non =>
        cases re
        cases ry
        exact (SeqAt.EqAt.same _).eqP
      | bl b =>
        cases re
        cases ry
        exact (SeqAt.EqAt.none_bool _ ).eqP
      | int h =>
        cases re
        obtain ⟨t2, rfl⟩ := ry
        exact (SeqAt.EqAt.none_int _ t2 ).eqP
      | str h =>
        cases re
        obtain ⟨t2, rfl⟩ := ry
        exact (SeqAt.EqAt.none_str _ t2 ).eqP
      | d0 =>
        cases re with
        | @dct a2 kv2 _ e2 rk2 =>
          cases rk2
          cases (show u = Value.ref a2 from ry)
          exact none_dict (dc_at I (ex _ _ e2)) hu0
      | d1 =>
        cases re with
        | @dct a2 kv2 _ e2 rk2 =>
          cases rk2 with
          | cons rr2 rn2 =>
            cases rr2
            cases rn2
            cases (show u = Value.ref a2 from ry)
            exact none_dict (dc_at I (ex _ _ e2)) hu0
      | tup hl2 h2 =>
        cases re with
        | @tup a2 xs2 _ e2 rs2 =>
          cases (show u = Value.ref a2 from ry)
          obtain ⟨its2, rv2, p2, _⟩ := I.tuple (same_t ex e2)
          exact (SeqAt.EqAt.none_tuple (istup p2) hu0).eqP
    | bl b =>
      cases rd
      cases rx
      cases he with
      | non =>
        cases re
        cases ry
        exact (SeqAt.EqAt.bool_none _ ).eqP
      | bl b =>
        cases re
        cases ry
        exact (SeqAt.EqAt.bool_bool _ _ ).eqP
      | int h =>
        cases re
        obtain ⟨t2, rfl⟩ := ry
        exact (SeqAt.EqAt.bool_int _ _ t2 ).eqP
      | str h =>
        cases re
        obtain ⟨t2, rfl⟩ := ry
        exact (SeqAt.EqAt.bool_str _ _ t2 ).eqP
      | d0 =>
        cases re with
        | @dct a2 kv2 _ e2 rk2 =>
          cases rk2
          cases (show u = Value.ref a2 from ry)
          exact bool_dict _ (dc_at I (ex _ _ e2)) hu0
      | d1 =>
        cases re with
        | @dct a2 kv2 _ e2 rk2 =>
          cases rk2 with
          | cons rr2 rn2 =>
            cases rr2
            cases rn2
            cases (show u = Value.ref a2 from ry)
            exact bool_dict _ (dc_at I (ex _ _ e2)) hu0
      | tup hl2 h2 =>
        cases re with
        | @tup a2 xs2 _ e2 rs2 =>
          cases (show u = Value.ref a2 from ry)
          obtain ⟨its2, rv2, p2, _⟩ := I.tuple (same_t ex e2)
          exact (SeqAt.EqAt.bool_tuple _ (istup p2) hu0).eqP
    | int h =>
      cases rd
      obtain ⟨t1, rfl⟩ := rx
      cases he with
      | non =>
        cases re
        cases ry
        exact (SeqAt.EqAt.int_none _ t1 ).eqP
      | bl b =>
        cases re
        cases ry
        exact (SeqAt.EqAt.int_bool _ t1 _ ).eqP
      | int h =>
        cases re
        obtain ⟨t2, rfl⟩ := ry
        exact (SeqAt.EqAt.int_int _ t1 _ t2 ).eqP
      | str h =>
        cases re
        obtain ⟨t2, rfl⟩ := ry
        exact (SeqAt.EqAt.int_str _ t1 _ t2 ).eqP
      | d0 =>
        cases re with
        | @dct a2 kv2 _ e2 rk2 =>
          cases rk2
          cases (show u = Value.ref a2 from ry)
          exact int_dict _ t1 (dc_at I (ex _ _ e2)) hu0
      | d1 =>
        cases re with
        | @dct a2 kv2 _ e2 rk2 =>
          cases rk2 with
          | cons rr2 rn2 =>
            cases rr2
            cases rn2
            cases (show u = Value.ref a2 from ry)
            exact int_dict _ t1 (dc_at I (ex _ _ e2)) hu0
      | tup hl2 h2 =>
        cases re with
        | @tup a2 xs2 _ e2 rs2 =>
          cases (show u = Value.ref a2 from ry)
          obtain ⟨its2, rv2, p2, _⟩ := I.tuple (same_t ex e2)
          exact (SeqAt.EqAt.int_tuple _ t1 (istup p2) hu0).eqP
    | str h =>
      cases rd
      obtain ⟨t1, rfl⟩ := rx
      cases he with
      | non =>
        cases re
        cases ry
        exact (SeqAt.EqAt.str_none _ t1 ).eqP
      | bl b =>
        cases re
        cases ry
        exact (SeqAt.EqAt.str_bool _ t1 _ ).eqP
      | int h =>
        cases re
        obtain ⟨t2, rfl⟩ := ry
        exact (SeqAt.EqAt.str_int _ t1 _ t2 ).eqP
      | str h =>
        cases re
        obtain ⟨t2, rfl⟩ := ry
        exact (SeqAt.EqAt.str_str _ t1 _ t2 ).eqP
      | d0 =>
        cases re with
        | @dct a2 kv2 _ e2 rk2 =>
          cases rk2
          cases (show u = Value.ref a2 from ry)
          exact str_dict _ t1 (dc_at I (ex _ _ e2)) hu0
      | d1 =>
        cases re with
        | @dct a2 kv2 _ e2 rk2 =>
          cases rk2 with
          | cons rr2 rn2 =>
            cases rr2
            cases rn2
            cases (show u = Value.ref a2 from ry)
            exact str_dict _ t1 (dc_at I (ex _ _ e2)) hu0
      | tup hl2 h2 =>
        cases re with
        | @tup a2 xs2 _ e2 rs2 =>
          cases (show u = Value.ref a2 from ry)
          obtain ⟨its2, rv2, p2, _⟩ := I.tuple (same_t ex e2)
          exact (SeqAt.EqAt.str_tuple _ t1 (istup p2) hu0).eqP
    | d0 =>
      cases rd with
      | @dct a1 kv1 _ e1 rk1 =>
        cases rk1
        cases (show v = Value.ref a1 from rx)
        cases he with
        | non =>
          cases re
          cases ry
          exact dict_none (dc_at I (ex _ _ e1)) hu0
        | bl b =>
          cases re
          cases ry
          exact dict_bool _ (dc_at I (ex _ _ e1)) hu0
        | int h =>
          cases re
          obtain ⟨t2, rfl⟩ := ry
          exact dict_int _ t2 (dc_at I (ex _ _ e1)) hu0
        | str h =>
          cases re
          obtain ⟨t2, rfl⟩ := ry
          exact dict_str _ t2 (dc_at I (ex _ _ e1)) hu0
        | d0 =>
          cases re with
          | @dct a2 kv2 _ e2 rk2 =>
            cases rk2
            cases (show u = Value.ref a2 from ry)
            exact dicts_eqP I (ex _ _ e1) (ex _ _ e2) hu1 (.inl ⟨rfl, rfl, rfl⟩)
        | d1 =>
          cases re with
          | @dct a2 kv2 _ e2 rk2 =>
            cases rk2 with
            | cons rr2 rn2 =>
              cases rr2
              cases rn2
              cases (show u = Value.ref a2 from ry)
              exact dicts_eqP I (ex _ _ e1) (ex _ _ e2) hu1 (.inr (.inl ⟨rfl, ⟨_, rfl⟩, rfl⟩))
        | tup hl2 h2 =>
          cases re with
          | @tup a2 xs2 _ e2 rs2 =>
            cases (show u = Value.ref a2 from ry)
            obtain ⟨its2, rv2, p2, _⟩ := I.tuple (same_t ex e2)
            exact dict_tuple (dc_at I (ex _ _ e1)) (istup p2) hu0
    | d1 =>
      cases rd with
      | @dct a1 kv1 _ e1 rk1 =>
        cases rk1 with
        | cons rr1 rn1 =>
          cases rr1
          cases rn1
          cases (show v = Value.ref a1 from rx)
          cases he with
          | non =>
            cases re
            cases ry
            exact dict_none (dc_at I (ex _ _ e1)) hu0
          | bl b =>
            cases re
            cases ry
            exact dict_bool _ (dc_at I (ex _ _ e1)) hu0
          | int h =>
            cases re
            obtain ⟨t2, rfl⟩ := ry
            exact dict_int _ t2 (dc_at I (ex _ _ e1)) hu0
          | str h =>
            cases re
            obtain ⟨t2, rfl⟩ := ry
            exact dict_str _ t2 (dc_at I (ex _ _ e1)) hu0
          | d0 =>
            cases re with
            | @dct a2 kv2 _ e2 rk2 =>
              cases rk2
              cases (show u = Value.ref a2 from ry)
              exact dicts_eqP I (ex _ _ e1) (ex _ _ e2) hu1 (.inr (.inr (.inl ⟨⟨_, rfl⟩, rfl, rfl⟩)))
          | d1 =>
            cases re with
            | @dct a2 kv2 _ e2 rk2 =>
              cases rk2 with
              | cons rr2 rn2 =>
                cases rr2
                cases rn2
                cases (show u = Value.ref a2 from ry)
                exact dicts_eqP I (ex _ _ e1) (ex _ _ e2) hu1 (.inr (.inr (.inr ⟨rfl, rfl, rfl⟩)))
          | tup hl2 h2 =>
            cases re with
            | @tup a2 xs2 _ e2 rs2 =>
              cases (show u = Value.ref a2 from ry)
              obtain ⟨its2, rv2, p2, _⟩ := I.tuple (same_t ex e2)
              exact dict_tuple (dc_at I (ex _ _ e1)) (istup p2) hu0
    | tup hl1 h1 =>
      cases rd with
      | @tup a1 xs1 _ e1 rs1 =>
        cases (show v = Value.ref a1 from rx)
        obtain ⟨its1, rv1, p1, _⟩ := I.tuple (same_t ex e1)
        cases he with
        | non =>
          cases re
          cases ry
          exact (SeqAt.EqAt.tuple_none (istup p1) hu0).eqP
        | bl b =>
          cases re
          cases ry
          exact (SeqAt.EqAt.tuple_bool _ (istup p1) hu0).eqP
        | int h =>
          cases re
          obtain ⟨t2, rfl⟩ := ry
          exact (SeqAt.EqAt.tuple_int _ t2 (istup p1) hu0).eqP
        | str h =>
          cases re
          obtain ⟨t2, rfl⟩ := ry
          exact (SeqAt.EqAt.tuple_str _ t2 (istup p1) hu0).eqP
        | d0 =>
          cases re with
          | @dct a2 kv2 _ e2 rk2 =>
            cases rk2
            cases (show u = Value.ref a2 from ry)
            exact tuple_dict (dc_at I (ex _ _ e2)) (istup p1) hu0
        | d1 =>
          cases re with
          | @dct a2 kv2 _ e2 rk2 =>
            cases rk2 with
            | cons rr2 rn2 =>
              cases rr2
              cases rn2
              cases (show u = Value.ref a2 from ry)
              exact tuple_dict (dc_at I (ex _ _ e2)) (istup p1) hu0
        | tup hl2 h2 =>
          cases re with
          | @tup a2 xs2 _ e2 rs2 =>
            cases (show u = Value.ref a2 from ry)
            obtain ⟨its2, rv2, p2, _⟩ := I.tuple (same_t ex e2)
            by_cases e : a1 = a2
            · subst e
              have eqd := rep_uniq I ex (.tup hl1 h1) (.tup hl2 h2) (.tup e1 rs1) (.tup e2 rs2)
              cases eqd
              rw [eqX_refl (.tup hl1 h1)]
              exact (SeqAt.EqAt.same _).eqP
            · refine SeqAt.eqP_refs e fun E Q q => ?_
              have l1 : its1.length = _ := (Paired.length rv1).symm.trans rs1.length
              have l2 : its2.length = _ := (Paired.length rv2).symm.trans rs2.length
              refine tuples_rcP (istup p1) (istup p2) hu0 (itemsX l1 l2 fun j d e v u g1 g2 g3 g4 => ?_) E Q ?_
              · obtain ⟨v1, gv1, rr1⟩ := rs1.get g1
                obtain ⟨v2, gv2, rr2⟩ := rs2.get g2
                exact eqX_run I ex _ A.in1 (by show A.units + 1 + _ + 1 < cLine; omega) d e v1 v2 v u (h1 d (List.mem_of_getElem? g1)) (h2 e (List.mem_of_getElem? g2)) rr1 rr2 (vals_at rv1 gv1 g3) (vals_at rv2 gv2 g4)
              · rw [List.size_toArray, List.size_toArray, l1, l2, allX]
                exact q
end
end VL
set_option Elab.async false
set_option linter.all false
set_option maxRecDepth 100000
set_option maxHeartbeats 4000000
/-! VQX2: repr and == of data with small dicts, by values. -/
namespace VL
open PySem PySem.Spec PyProof.Rows L2
def LX : Nat → Nat
  | 0 => 40
  | n + 1 => 4 * LX n + 11
theorem LX_ge : ∀ n, 40 ≤ LX n
  | 0 => Nat.le_refl _
  | n + 1 => by have := LX_ge n; show 40 ≤ 4 * LX n + 11; omega
theorem shownX_all {B : Nat} : ∀ {xs : List D}, (∀ x ∈ xs, (pyX x).shown.length ≤ B) → ((PyData.shownAll (pyXs xs)).map (·.length)).sum ≤ xs.length * B ∧ (PyData.shownAll (pyXs xs)).length = xs.length
  | [], _ => ⟨Nat.zero_le _, rfl⟩
  | x :: xs, h => by
    obtain ⟨a, b⟩ := shownX_all fun y hy => h y (List.mem_cons_of_mem _ hy)
    have := h x List.mem_cons_self
    rw [pyXs, PyData.shownAll, List.map_cons, List.sum_cons, List.length_cons, List.length_cons, Nat.add_mul, Nat.one_mul]
    exact ⟨by omega, by omega⟩
theorem showableX_all : ∀ {xs : List D}, (∀ x ∈ xs, (pyX x).showable = true) → PyData.showableAll (pyXs xs) = true
  | [], _ => rfl
  | x :: xs, h => by
    rw [pyXs, PyData.showableAll, h x List.mem_cons_self, showableX_all fun y hy => h y (List.mem_cons_of_mem _ hy)]
    rfl
theorem depthX_all {n : Nat} : ∀ {xs : List D}, (∀ x ∈ xs, (pyX x).depth ≤ n) → PyData.depthAll (pyXs xs) ≤ n
  | [], _ => Nat.zero_le _
  | x :: xs, h => by
    rw [pyXs, PyData.depthAll]
    exact Nat.max_le.mpr ⟨h x List.mem_cons_self, depthX_all fun y hy => h y (List.mem_cons_of_mem _ hy)⟩
theorem factsX {n : Nat} {d : D} (h : VX n d) : (pyX d).shown.length ≤ LX n ∧ (pyX d).showable = true ∧ (pyX d).depth ≤ n + 1 := by
  have g := LX_ge
  induction h with
  | @non n => exact ⟨Nat.le_trans (by decide +kernel) (g n), rfl, Nat.zero_le _⟩
  | @bl n b => exact ⟨Nat.le_trans (by cases b <;> decide +kernel) (g n), rfl, Nat.zero_le _⟩
  | @int n i h => exact ⟨Nat.le_trans h.1 (g n), decide_eq_true h.2, Nat.zero_le _⟩
  | @str n s h => exact ⟨Nat.le_trans h (g n), rfl, Nat.zero_le _⟩
  | @d0 n => exact ⟨Nat.le_trans (by decide +kernel) (g n), rfl, by show 0 + 1 ≤ n + 1; omega⟩
  | @d1 n => exact ⟨Nat.le_trans (by decide +kernel) (g n), by decide +kernel, by show 0 + 1 ≤ n + 1; omega⟩
  | @tup n xs hl h ih =>
    obtain ⟨a, b⟩ := shownX_all fun x hx => (ih x hx).1
    have c := tupleText_len_le (PyData.shownAll (pyXs xs))
    refine ⟨?_, showableX_all fun x hx => (ih x hx).2.1, ?_⟩
    · show (tupleText (PyData.shownAll (pyXs xs))).length ≤ 4 * LX n + 11
      have : xs.length * LX n ≤ 4 * LX n := Nat.mul_le_mul_right _ hl
      omega
    · show PyData.depthAll (pyXs xs) + 1 ≤ n + 1 + 1
      have := depthX_all fun x hx => (ih x hx).2.2
      omega
/-- what a shown list holds -/
def RXs (xs : List D) : Prop := ∃ n, n ≤ 6 ∧ xs.length ≤ 4 ∧ ∀ x ∈ xs, VX n x
theorem LX_mono : ∀ {n m : Nat}, n ≤ m → LX n ≤ LX m := fun {n m} h => by
  induction h with
  | refl => exact Nat.le_refl _
  | @step m _ ih => exact Nat.le_trans ih (by show LX m ≤ 4 * LX m + 11; omega)
theorem RXs.facts {xs : List D} (h : RXs xs) : (pyX (.lst xs)).shown.length ≤ sizeLine ∧ (pyX (.lst xs)).showable = true ∧ (pyX (.lst xs)).depth ≤ 8 := by
  have big : LX 7 ≤ sizeLine := by decide
  obtain ⟨n, hn, hl, h⟩ := h
  obtain ⟨a, b⟩ := shownX_all fun x hx => (factsX (h x hx)).1
  have c := listText_len_le (PyData.shownAll (pyXs xs))
  refine ⟨?_, showableX_all fun x hx => (factsX (h x hx)).2.1, ?_⟩
  · show (listText (PyData.shownAll (pyXs xs))).length ≤ sizeLine
    have h1 : xs.length * LX n ≤ 4 * LX n := Nat.mul_le_mul_right _ hl
    have h2 : LX (n + 1) ≤ LX 7 := LX_mono (by omega)
    have h3 : LX (n + 1) = 4 * LX n + 11 := rfl
    omega
  · show PyData.depthAll (pyXs xs) + 1 ≤ 8
    have := depthX_all fun x hx => (factsX (h x hx)).2.2
    omega
section
variable {X : Cx} {pins : List (Addr × Obj)} {σ : L2.St} {H F : Hp} {s : Shared}
theorem readsX_all {xs : List D} : ∀ {vs : List V} {us : List Value}, (∀ x ∈ xs, ∀ {v : V} {u : Value}, Rep X.K F v x → RelV v u → ∃ as, Reads s.heap u (pyX x) as ∧ sysModules ∉ as) → Reps X.K F vs xs → Vals vs us → ∃ as, ReadsAll s.heap us (pyXs xs) as ∧ sysModules ∉ as := by
  induction xs with
  | nil =>
    intro vs us _ r q
    cases r
    cases q
    exact ⟨_, .nil, fun z => nomatch z⟩
  | cons x xs ih =>
    intro vs us h r q
    cases r with
    | cons r1 r2 =>
      cases q with
      | cons q1 q2 =>
        obtain ⟨as, e1, n1⟩ := h x List.mem_cons_self r1 q1
        obtain ⟨bs, e2, n2⟩ := ih (fun y hy => h y (List.mem_cons_of_mem _ hy)) r2 q2
        exact ⟨_, .cons e1 e2, fun z => (List.mem_append.mp z).elim n1 n2⟩
theorem readsX (I : Inv X pins σ H s) (ex : Same F H) {n : Nat} {d : D} (h : VX n d) : ∀ {v : V} {u : Value}, Rep X.K F v d → RelV v u → ∃ as, Reads s.heap u (pyX d) as ∧ sysModules ∉ as := by
  induction h with
  | non => intro v u r q; cases r; cases q; exact ⟨_, .none, fun z => nomatch z⟩
  | bl b => intro v u r q; cases r; cases q; exact ⟨_, .bool b, fun z => nomatch z⟩
  | int h => intro v u r q; cases r; obtain ⟨t, rfl⟩ := q; exact ⟨_, .int _ t, fun z => nomatch z⟩
  | str h => intro v u r q; cases r; obtain ⟨t, rfl⟩ := q; exact ⟨_, .str _ t, fun z => nomatch z⟩
  | d0 =>
    intro v u r q
    cases r with
    | @dct a kv _ e k =>
      cases k
      cases (show u = Value.ref a from q)
      obtain ⟨_, ya, vs, rv, o, es, ep, ho, ⟨hc, _, _⟩, hd, _, hp, _⟩ := (show ObjOk X.prog X.w H s.heap a (.dK []) from I.hok a _ (ex _ _ e))
      cases rv
      have he : es.toList = [] := by cases hq : es.toList with
        | nil => rfl
        | cons x y => rw [hq] at hp; cases hp
      refine ⟨a :: [] ++ [], .dict (kvs := []) ho hc hd (by rw [he]; exact .nil) (by rw [he]; exact .nil), fun z => ?_⟩
      have : sysModules = a := by simpa using z
      rw [← this] at ya
      simp at ya
  | d1 =>
    intro v u r q
    cases r with
    | @dct a kv _ e k =>
      cases k with
      | cons k1 k2 =>
        cases k1
        cases k2
        cases (show u = Value.ref a from q)
        obtain ⟨_, ya, vs, rv, o, es, ep, ho, ⟨hc, _, _⟩, hd, _, hp, _⟩ := (show ObjOk X.prog X.w H s.heap a (.dK [(.inr "a", .int 1)]) from I.hok a _ (ex _ _ e))
        cases rv with
        | @cons _ p2 _ _ rp rn =>
          cases rn
          obtain ⟨k2, v2⟩ := p2
          obtain ⟨g1, g2⟩ := rp
          have g1 : (Sum.inr "a" : Key) = k2 := g1
          subst g1
          obtain ⟨t2, g2⟩ := g2
          have g2 : v2 = Value.int 1 t2 := g2
          subst g2
          obtain ⟨x, hx, hk, hv⟩ : ∃ x : DictEntry, es.toList = [x] ∧ keyIs (.inr "a") x.key = true ∧ x.val = Value.int 1 t2 := by
            cases hq : es.toList with
            | nil => rw [hq] at hp; cases hp
            | cons x y =>
              rw [hq] at hp
              cases hp with
              | cons z1 z2 z3 =>
                cases z3
                exact ⟨x, rfl, z1, z2⟩
          obtain ⟨tk, hkey⟩ : ∃ tk, x.key = Value.str "a" tk := by
            rcases keyIs_shape hk with ⟨i, t, e1, _⟩ | ⟨y, t, e1, e2⟩
            · cases e1
            · cases e1
              exact ⟨t, e2⟩
          refine ⟨a :: ([] ++ []) ++ ([] ++ []), .dict (kvs := [(.str "a", .int 1)]) ho hc hd (by rw [hx, List.map_cons, hkey]; exact .cons (.str _ tk) .nil) (by rw [hx, List.map_cons, hv]; exact .cons (.int _ t2) .nil), fun z => ?_⟩
          have : sysModules = a := by simpa using z
          rw [← this] at ya
          simp at ya
  | @tup n xs hl h ih =>
    intro v u r q
    cases r with
    | @tup a vs _ e k =>
      cases (show u = Value.ref a from q)
      obtain ⟨its, rv, ⟨o, ho, hc, n, hd⟩, _⟩ := I.tuple (same_t ex e)
      obtain ⟨as, hr, hn⟩ := readsX_all (fun x hx => ih x hx) k rv
      exact ⟨_, .tuple ho hc hd hr, hn⟩
end
def tReprL (K : PySem.W.Frag) (t : TA) : TE := fun σ H Q => t σ H fun vs H1 => ∃ (F : Hp) (xs : List D), Same F H1 ∧ Reps K F vs xs ∧ RXs xs ∧ Q (.str (pyX (.lst xs)).shown) H1
section
variable {X : Cx} {x : Str} {p q pos : Pos} {es : List Expr} {t : TA}
/-- repr([e, ..]) -/
theorem pe_reprL (hu : X.A.units + 70 < cLine) (gd : X.A.guards = some []) (hg : Gl X x) (hm : X.mg x = none) (hv : bootBuiltins x = some (.builtin "repr")) (ha : PA X es t) (hn : x ≠ "__name__" := by decide) (hdb : (x == ("__debug__" : Str)) = false := by decide)
    (hs : starEach [.List es q] X.env = (false, eval (.List es q) X.env) :: starEach [] X.env := by rfl) (hpl : (backTo pos (starEach [] X.env)).any (·.1) = false := by rfl) : PE X (.Call (.Name x p) [.List es q] [] pos) (tReprL X.K t) := by
  refine ⟨fun pins s σ H Q I h => ?_⟩
  refine wpAny_Call_Name_kw (ld_blt I hg hm hv (PyProof.Rows.callWith_builtin1 ?_ hs hpl) hn hdb)
  rw [hs]
  show wpAny _ _ (spliced ((false, eval (.List es q) X.env) :: [])) _ _ _
  refine Calls.spliced_cons ?_
  refine wpAny_List_spliced (thn (ha.run q pins s σ H _ I h) fun us s1 ⟨vs, H1, I1, r1, F, xs, ex, rr, rx, qq⟩ => ?_)
  have hl : us.length ≤ sizeLine := by
    obtain ⟨n, _, hl, _⟩ := rx
    rw [← Paired.length r1, rr.length, sizeLine_eq]
    omega
  refine ⟨hl, ?_⟩
  refine Calls.spliced_nil ?_
  have kp0 : ∀ b o, s1.heap.get? b = some o → (s1.heap.push { cls := .type "list", data := .seq us.toArray }).get? b = some o := fun b o e => Heap.get?_push_of_some _ e
  have I2 : Inv X pins σ H1 { s1 with heap := s1.heap.push { cls := .type "list", data := .seq us.toArray }, toks := s1.toks } := I1.kept kp0
  obtain ⟨n, hn6, hlen, hx⟩ := id rx
  obtain ⟨as, ra, na⟩ := readsX_all (fun x hx' => readsX I2 ex (hx x hx')) rr r1
  obtain ⟨f1, f2, f3⟩ := rx.facts
  refine repr_of_reads' (h₀ := s1.heap.push { cls := .type "list", data := .seq us.toArray }) (d := pyX (.lst xs)) (as := s1.heap.objs.size :: as) (.list (Heap.get?_push_size _ rfl) rfl rfl (by simpa using ra)) f2 (fun _ z => ?_) gd (by omega) (fun _ _ e => e) (fun h' u tk kp => ⟨.str _, H1, I2.kept kp, ⟨_, rfl⟩, qq⟩) f1
  rcases List.mem_cons.mp z with z | z
  · exact absurd z (Nat.ne_of_lt I1.big)
  · exact na z
end
section
variable {X : Cx} {Z : Wish} {δ : Env} {μ : Store} {P : D → Store → Prop} {x : Str} {p q pos : Pos} {es : List Expr}
theorem ve_reprL (gd : X.A.guards = some []) (hu : X.A.units + 70 < cLine) (hm : X.mg x = none) (hv : bootBuiltins x = some (.builtin "repr")) (h : VA X Z es δ μ fun xs μ1 => RXs xs ∧ P (.str (pyX (.lst xs)).shown) μ1) (hg : Gl X x := by rfl) (hn : x ≠ "__name__" := by decide) (hdb : (x == ("__debug__" : Str)) = false := by decide)
    (hs : starEach [.List es q] X.env = (false, eval (.List es q) X.env) :: starEach [] X.env := by rfl) (hpl : (backTo pos (starEach [] X.env)).any (·.1) = false := by rfl) : VE X Z (.Call (.Name x p) [.List es q] [] pos) δ μ P :=
  ve_of (pe_reprL hu gd hg hm hv pa_r hn hdb hs hpl) fun σ F H Q s c k z => h σ F H _ s c (fun vs xs μ1 F1 H1 ⟨rx, pp⟩ m1 c1 r1 => ⟨F1, xs, c1.ex, r1, rx, k _ _ μ1 F1 H1 pp m1 c1 (.str _)⟩) z
end
end VL
set_option Elab.async false
set_option linter.all false
set_option maxRecDepth 100000
set_option maxHeartbeats 4000000
/-! VQX3: == of data with small dicts, asked by an operator. -/
namespace VL
open PySem PySem.Spec PyProof.Rows L2 SeqAt
section
variable {prog : Program} {w : World} {A : Around} {E : Value → Shared → Prop} {s : Shared}
abbrev RcP (prog : Program) (w : World) (A : Around) (s : Shared) (x y : Value) (k : Bool) : Prop := ∀ E Q : Value → Shared → Prop, Q (.bool k) s → wpAny (model prog w) A (richCompare .Eq x y) Q E s
theorem dict_none_rc {a : Addr}  (ha : DcAt s.heap a) (hu : A.units < cLine) : RcP prog w A s (.ref a) (.none) false := fun E Q h => by
  obtain ⟨dd, es, n, sl, ho⟩ := ha
  exact rc_eq_decline_or (k := false) ⟨_, ho, rfl⟩ rfl (by decide) PySem.F.sub_NoneType_dict PySem.F.slot_dict_eq PySem.F.slot_NoneType_eq_refl
    (fun _ hq => dq_declines PySem.F.slot_dict_eq ⟨_, ho, rfl⟩ (T := "NoneType") rfl PySem.F.sub_NoneType_dict hq) (fun _ hq => call_gives PySem.F.slot_NoneType_eq_refl rfl PySem.F.entry_NoneType_eq (PySem.F.args_NoneType_eq_2 _ _) (NoneType___eq___none_ref_0 a) hq)
    (fun _ hq => wpAny_of_eq (show isSame (.ref a) (.none) = pure false from rfl) hq) (.inr hu) h
theorem none_dict_rc {a : Addr}  (ha : DcAt s.heap a) (hu : A.units < cLine) : RcP prog w A s (.none) (.ref a) false := fun E Q h => by
  obtain ⟨dd, es, n, sl, ho⟩ := ha
  exact rc_eq_decline_or (k := false) rfl ⟨_, ho, rfl⟩ (by decide) PySem.F.sub_dict_NoneType PySem.F.slot_NoneType_eq PySem.F.slot_dict_eq_refl (fun _ hq => call_gives PySem.F.slot_NoneType_eq rfl PySem.F.entry_NoneType_eq (PySem.F.args_NoneType_eq_2 _ _) (NoneType___eq___none_ref_0 a) hq)
    (fun _ hq => dq_declines PySem.F.slot_dict_eq_refl ⟨_, ho, rfl⟩ (T := "NoneType") rfl PySem.F.sub_NoneType_dict hq)
    (fun _ hq => wpAny_of_eq (show isSame (.none) (.ref a) = pure false from rfl) hq) (.inr hu) h
theorem dict_bool_rc {a : Addr} (b : Bool) (ha : DcAt s.heap a) (hu : A.units < cLine) : RcP prog w A s (.ref a) (.bool b) false := fun E Q h => by
  obtain ⟨dd, es, n, sl, ho⟩ := ha
  exact rc_eq_decline_or (k := false) ⟨_, ho, rfl⟩ rfl (by decide) PySem.F.sub_bool_dict PySem.F.slot_dict_eq PySem.F.slot_bool_eq_refl
    (fun _ hq => dq_declines PySem.F.slot_dict_eq ⟨_, ho, rfl⟩ (T := "bool") rfl PySem.F.sub_bool_dict hq) (fun _ hq => call_meets PySem.F.slot_bool_eq_refl rfl PySem.F.entry_int_eq (PySem.F.args_int_eq_2 _ _) (dq_int (.inl ⟨_, rfl⟩) dd es n sl) ⟨ho, hq⟩)
    (fun _ hq => wpAny_of_eq (show isSame (.ref a) (.bool b) = pure false from rfl) hq) (.inr hu) h
theorem bool_dict_rc {a : Addr} (b : Bool) (ha : DcAt s.heap a) (hu : A.units < cLine) : RcP prog w A s (.bool b) (.ref a) false := fun E Q h => by
  obtain ⟨dd, es, n, sl, ho⟩ := ha
  exact rc_eq_decline_or (k := false) rfl ⟨_, ho, rfl⟩ (by decide) PySem.F.sub_dict_bool PySem.F.slot_bool_eq PySem.F.slot_dict_eq_refl (fun _ hq => call_meets PySem.F.slot_bool_eq rfl PySem.F.entry_int_eq (PySem.F.args_int_eq_2 _ _) (dq_int (.inl ⟨_, rfl⟩) dd es n sl) ⟨ho, hq⟩)
    (fun _ hq => dq_declines PySem.F.slot_dict_eq_refl ⟨_, ho, rfl⟩ (T := "bool") rfl PySem.F.sub_bool_dict hq)
    (fun _ hq => wpAny_of_eq (show isSame (.bool b) (.ref a) = pure false from rfl) hq) (.inr hu) h
theorem dict_int_rc {a : Addr} (i : Int) (t : Tok) (ha : DcAt s.heap a) (hu : A.units < cLine) : RcP prog w A s (.ref a) (.int i t) false := fun E Q h => by
  obtain ⟨dd, es, n, sl, ho⟩ := ha
  exact rc_eq_decline_or (k := false) ⟨_, ho, rfl⟩ rfl (by decide) PySem.F.sub_int_dict PySem.F.slot_dict_eq PySem.F.slot_int_eq_refl
    (fun _ hq => dq_declines PySem.F.slot_dict_eq ⟨_, ho, rfl⟩ (T := "int") rfl PySem.F.sub_int_dict hq) (fun _ hq => call_meets PySem.F.slot_int_eq_refl rfl PySem.F.entry_int_eq (PySem.F.args_int_eq_2 _ _) (dq_int (.inr ⟨_, _, rfl⟩) dd es n sl) ⟨ho, hq⟩)
    (fun _ hq => wpAny_of_eq (show isSame (.ref a) (.int i t) = pure false from rfl) hq) (.inr hu) h
theorem int_dict_rc {a : Addr} (i : Int) (t : Tok) (ha : DcAt s.heap a) (hu : A.units < cLine) : RcP prog w A s (.int i t) (.ref a) false := fun E Q h => by
  obtain ⟨dd, es, n, sl, ho⟩ := ha
  exact rc_eq_decline_or (k := false) rfl ⟨_, ho, rfl⟩ (by decide) PySem.F.sub_dict_int PySem.F.slot_int_eq PySem.F.slot_dict_eq_refl (fun _ hq => call_meets PySem.F.slot_int_eq rfl PySem.F.entry_int_eq (PySem.F.args_int_eq_2 _ _) (dq_int (.inr ⟨_, _, rfl⟩) dd es n sl) ⟨ho, hq⟩)
    (fun _ hq => dq_declines PySem.F.slot_dict_eq_refl ⟨_, ho, rfl⟩ (T := "int") rfl PySem.F.sub_int_dict hq)
    (fun _ hq => wpAny_of_eq (show isSame (.int i t) (.ref a) = pure false from rfl) hq) (.inr hu) h
theorem dict_str_rc {a : Addr} (y : Str) (t : Tok) (ha : DcAt s.heap a) (hu : A.units < cLine) : RcP prog w A s (.ref a) (.str y t) false := fun E Q h => by
  obtain ⟨dd, es, n, sl, ho⟩ := ha
  exact rc_eq_decline_or (k := false) ⟨_, ho, rfl⟩ rfl (by decide) PySem.F.sub_str_dict PySem.F.slot_dict_eq PySem.F.slot_str_eq_refl
    (fun _ hq => dq_declines PySem.F.slot_dict_eq ⟨_, ho, rfl⟩ (T := "str") rfl PySem.F.sub_str_dict hq) (fun _ hq => call_meets PySem.F.slot_str_eq_refl rfl PySem.F.entry_str_eq (PySem.F.args_str_eq_2 _ _) (dq_str y t dd es n sl) ⟨ho, hq⟩)
    (fun _ hq => wpAny_of_eq (show isSame (.ref a) (.str y t) = pure false from rfl) hq) (.inr hu) h
theorem str_dict_rc {a : Addr} (y : Str) (t : Tok) (ha : DcAt s.heap a) (hu : A.units < cLine) : RcP prog w A s (.str y t) (.ref a) false := fun E Q h => by
  obtain ⟨dd, es, n, sl, ho⟩ := ha
  exact rc_eq_decline_or (k := false) rfl ⟨_, ho, rfl⟩ (by decide) PySem.F.sub_dict_str PySem.F.slot_str_eq PySem.F.slot_dict_eq_refl (fun _ hq => call_meets PySem.F.slot_str_eq rfl PySem.F.entry_str_eq (PySem.F.args_str_eq_2 _ _) (dq_str y t dd es n sl) ⟨ho, hq⟩)
    (fun _ hq => dq_declines PySem.F.slot_dict_eq_refl ⟨_, ho, rfl⟩ (T := "str") rfl PySem.F.sub_str_dict hq)
    (fun _ hq => wpAny_of_eq (show isSame (.str y t) (.ref a) = pure false from rfl) hq) (.inr hu) h
theorem dict_tuple_rc {a b : Addr} {xs : Array Value} (ha : DcAt s.heap a) (hb : s.heap.IsTuple b xs) (hu : A.units < cLine) : RcP prog w A s (.ref a) (.ref b) false := by
  obtain ⟨dd, es, n, sl, ho⟩ := ha
  obtain ⟨⟨c2, d2, t2, s2⟩, ho2, hc2, n2, hd2⟩ := hb
  simp only at hc2 hd2
  subst hc2 hd2
  have ne : a ≠ b := get_ne ho ho2 (by simp)
  intro E Q h
  exact rc_eq_decline_or (k := false) ⟨_, ho, rfl⟩ ⟨_, ho2, rfl⟩ (by decide) PySem.F.sub_tuple_dict PySem.F.slot_dict_eq PySem.F.slot_tuple_eq_refl
    (fun _ hq => dq_declines PySem.F.slot_dict_eq ⟨_, ho, rfl⟩ (T := "tuple") ⟨_, ho2, rfl⟩ PySem.F.sub_tuple_dict hq)
    (fun _ hq => call_meets PySem.F.slot_tuple_eq_refl ⟨_, ho2, rfl⟩ PySem.F.entry_tuple_eq (PySem.F.args_tuple_eq_2 _ _) (dq_tup xs n2 d2 s2 dd es n sl) ⟨ho, ho2, hq⟩)
    (fun _ hq => wpAny_isSame_ref_other ne ho ho2 (by simp) hq) (.inr hu) h
theorem tuple_dict_rc {a b : Addr} {xs : Array Value} (ha : DcAt s.heap a) (hb : s.heap.IsTuple b xs) (hu : A.units < cLine) : RcP prog w A s (.ref b) (.ref a) false := by
  obtain ⟨dd, es, n, sl, ho⟩ := ha
  obtain ⟨⟨c2, d2, t2, s2⟩, ho2, hc2, n2, hd2⟩ := hb
  simp only at hc2 hd2
  subst hc2 hd2
  have ne : b ≠ a := get_ne ho2 ho (by simp)
  intro E Q h
  exact rc_eq_decline_or (k := false) ⟨_, ho2, rfl⟩ ⟨_, ho, rfl⟩ (by decide) PySem.F.sub_dict_tuple PySem.F.slot_tuple_eq PySem.F.slot_dict_eq_refl
    (fun _ hq => call_meets PySem.F.slot_tuple_eq ⟨_, ho2, rfl⟩ PySem.F.entry_tuple_eq (PySem.F.args_tuple_eq_2 _ _) (dq_tup xs n2 d2 s2 dd es n sl) ⟨ho, ho2, hq⟩)
    (fun _ hq => dq_declines PySem.F.slot_dict_eq_refl ⟨_, ho, rfl⟩ (T := "tuple") ⟨_, ho2, rfl⟩ PySem.F.sub_tuple_dict hq)
    (fun _ hq => wpAny_isSame_ref_other' ne ho2 ho (by simp) hq) (.inr hu) h
end
section
variable {X : Cx} {pins : List (Addr × Obj)} {σ : L2.St} {H F : Hp} {s : Shared}
theorem dicts_rc (I : Inv X pins σ H s) {A : Around} {a b : Addr} {ks ls : List (Key × V)} {k : Bool} (ha : H a = some (.dK ks)) (hb : H b = some (.dK ls)) (hu : A.units + 1 < cLine)
    (h : (ks = [] ∧ ls = [] ∧ k = true) ∨ (ks = [] ∧ (∃ p, ls = [p]) ∧ k = false) ∨ ((∃ p, ks = [p]) ∧ ls = [] ∧ k = false) ∨ (ks = [(.inr "a", .int 1)] ∧ ls = [(.inr "a", .int 1)] ∧ k = true)) : RcP X.prog X.w A s (.ref a) (.ref b) k := by
  obtain ⟨_, ya, va, ra, da⟩ := (show ObjOk X.prog X.w H s.heap a (.dK ks) from I.hok a _ ha)
  obtain ⟨_, yb, vb, rb, db⟩ := (show ObjOk X.prog X.w H s.heap b (.dK ls) from I.hok b _ hb)
  have la : va.length = ks.length := ra.length.symm
  have lb : vb.length = ls.length := rb.length.symm
  intro E Q q
  rcases h with ⟨e1, e2, rfl⟩ | ⟨e1, ⟨_, e2⟩, rfl⟩ | ⟨⟨_, e1⟩, e2, rfl⟩ | ⟨e1, e2, rfl⟩
  · subst e1 e2
    obtain rfl : va = [] := List.eq_nil_of_length_eq_zero la
    obtain rfl : vb = [] := List.eq_nil_of_length_eq_zero lb
    exact PySem.W.rcP_dicts (knd := mixKind X.prog X.w) (r := true) ya yb da db (by omega) (fun _ => .nil) E Q q
  · subst e1 e2
    refine PySem.W.rcP_dicts (knd := mixKind X.prog X.w) (r := true) ya yb da db (by omega) (fun z => ?_) E Q ?_
    · rw [la, lb] at z; cases z
    · rw [la, lb]; exact q
  · subst e1 e2
    refine PySem.W.rcP_dicts (knd := mixKind X.prog X.w) (r := true) ya yb da db (by omega) (fun z => ?_) E Q ?_
    · rw [la, lb] at z; cases z
    · rw [la, lb]; exact q
  · subst e1 e2
    refine PySem.W.rcP_dicts (knd := mixKind X.prog X.w) (r := true) ya yb da db (by omega) (fun z => ?_) E Q ?_
    · refine hits_run (F := fun x y => x = .int 1 ∧ y = .int 1) (fun x y v u hf r1 r2 => ?_) rb ra fun p hp => ?_
      · obtain ⟨rfl, rfl⟩ := hf
        obtain ⟨t, rfl⟩ := r1
        obtain ⟨t', rfl⟩ := r2
        exact (SeqAt.EqAt.int_int 1 t 1 t').eqP
      · rw [List.mem_singleton] at hp
        subst hp
        exact ⟨.int 1, rfl, rfl, rfl⟩
    · rw [la, lb]; exact q
theorem rcX_run (I : Inv X pins σ H s) (ex : Same F H) : ∀ (n : Nat) (A : Around), A.units + n + 1 < cLine → ∀ (d e : D) (x y : V) (v u : Value), VX n d → VX n e → Rep X.K F x d → Rep X.K F y e → RelV x v → RelV y u → RcP X.prog X.w A s v u (eqX d e)
  | n, A, hu, d, e, x, y, v, u, hd, he, rd, re, rx, ry => by
    have hu0 : A.units < cLine := by omega
    have hu1 : A.units + 1 < cLine := by omega
    cases hd with
    | non =>
      cases rd
      cases rx
      cases he with
      | non =>
        cases re
        cases ry
        exact RcAt.none_none _ _
      | bl b =>
        cases re
        cases ry
        exact (RcAt.none_bool _ ) _ _
      | int h =>
        cases re
        obtain ⟨t2, rfl⟩ := ry
        exact (RcAt.none_int _ t2 ) _ _
      | str h =>
        cases re
        obtain ⟨t2, rfl⟩ := ry
        exact (RcAt.none_str _ t2 ) _ _
      | d0 =>
        cases re with
        | @dct a2 kv2 _ e2 rk2 =>
          cases rk2
          cases (show u = Value.ref a2 from ry)
          exact none_dict_rc (dc_at I (ex _ _ e2)) hu0
      | d1 =>
        cases re with
        | @dct a2 kv2 _ e2 rk2 =>
          cases rk2 with
          | cons rr2 rn2 =>
            cases rr2
            cases rn2
            cases (show u = Value.ref a2 from ry)
            exact none_dict_rc (dc_at I (ex _ _ e2)) hu0
      | tup hl2 h2 =>
        cases re with
        | @tup a2 xs2 _ e2 rs2 =>
          cases (show u = Value.ref a2 from ry)
          obtain ⟨its2, rv2, p2, _⟩ := I.tuple (same_t ex e2)
          exact (RcAt.none_tuple (istup p2) hu0) _ _
    | bl b =>
      cases rd
      cases rx
      cases he with
      | non =>
        cases re
        cases ry
        exact (RcAt.bool_none _ ) _ _
      | bl b =>
        cases re
        cases ry
        exact (RcAt.bool_bool _ _ ) _ _
      | int h =>
        cases re
        obtain ⟨t2, rfl⟩ := ry
        exact (RcAt.bool_int _ _ t2 ) _ _
      | str h =>
        cases re
        obtain ⟨t2, rfl⟩ := ry
        exact (RcAt.bool_str _ _ t2 ) _ _
      | d0 =>
        cases re with
        | @dct a2 kv2 _ e2 rk2 =>
          cases rk2
          cases (show u = Value.ref a2 from ry)
          exact bool_dict_rc _ (dc_at I (ex _ _ e2)) hu0
      | d1 =>
        cases re with
        | @dct a2 kv2 _ e2 rk2 =>
          cases rk2 with
          | cons rr2 rn2 =>
            cases rr2
            cases rn2
            cases (show u = Value.ref a2 from ry)
            exact bool_dict_rc _ (dc_at I (ex _ _ e2)) hu0
      | tup hl2 h2 =>
        cases re with
        | @tup a2 xs2 _ e2 rs2 =>
          cases (show u = Value.ref a2 from ry)
          obtain ⟨its2, rv2, p2, _⟩ := I.tuple (same_t ex e2)
          exact (RcAt.bool_tuple _ (istup p2) hu0) _ _
    | int h =>
      cases rd
      obtain ⟨t1, rfl⟩ := rx
      cases he with
      | non =>
        cases re
        cases ry
        exact (RcAt.int_none _ t1 ) _ _
      | bl b =>
        cases re
        cases ry
        exact (RcAt.int_bool _ t1 _ ) _ _
      | int h =>
        cases re
        obtain ⟨t2, rfl⟩ := ry
        exact (RcAt.int_int _ t1 _ t2 ) _ _
      | str h =>
        cases re
        obtain ⟨t2, rfl⟩ := ry
        exact (RcAt.int_str _ t1 _ t2 ) _ _
      | d0 =>
        cases re with
        | @dct a2 kv2 _ e2 rk2 =>
          cases rk2
          cases (show u = Value.ref a2 from ry)
          exact int_dict_rc _ t1 (dc_at I (ex _ _ e2)) hu0
      | d1 =>
        cases re with
        | @dct a2 kv2 _ e2 rk2 =>
          cases rk2 with
          | cons rr2 rn2 =>
            cases rr2
            cases rn2
            cases (show u = Value.ref a2 from ry)
            exact int_dict_rc _ t1 (dc_at I (ex _ _ e2)) hu0
      | tup hl2 h2 =>
        cases re with
        | @tup a2 xs2 _ e2 rs2 =>
          cases (show u = Value.ref a2 from ry)
          obtain ⟨its2, rv2, p2, _⟩ := I.tuple (same_t ex e2)
          exact (RcAt.int_tuple _ t1 (istup p2) hu0) _ _
    | str h =>
      cases rd
      obtain ⟨t1, rfl⟩ := rx
      cases he with
      | non =>
        cases re
        cases ry
        exact (RcAt.str_none _ t1 ) _ _
      | bl b =>
        cases re
        cases ry
        exact (RcAt.str_bool _ t1 _ ) _ _
      | int h =>
        cases re
        obtain ⟨t2, rfl⟩ := ry
        exact (RcAt.str_int _ t1 _ t2 ) _ _
      | str h =>
        cases re
        obtain ⟨t2, rfl⟩ := ry
        exact (RcAt.str_str _ t1 _ t2 ) _ _
      | d0 =>
        cases re with
        | @dct a2 kv2 _ e2 rk2 =>
          cases rk2
          cases (show u = Value.ref a2 from ry)
          exact str_dict_rc _ t1 (dc_at I (ex _ _ e2)) hu0
      | d1 =>
        cases re with
        | @dct a2 kv2 _ e2 rk2 =>
          cases rk2 with
          | cons rr2 rn2 =>
            cases rr2
            cases rn2
            cases (show u = Value.ref a2 from ry)
            exact str_dict_rc _ t1 (dc_at I (ex _ _ e2)) hu0
      | tup hl2 h2 =>
        cases re with
        | @tup a2 xs2 _ e2 rs2 =>
          cases (show u = Value.ref a2 from ry)
          obtain ⟨its2, rv2, p2, _⟩ := I.tuple (same_t ex e2)
          exact (RcAt.str_tuple _ t1 (istup p2) hu0) _ _
    | d0 =>
      cases rd with
      | @dct a1 kv1 _ e1 rk1 =>
        cases rk1
        cases (show v = Value.ref a1 from rx)
        cases he with
        | non =>
          cases re
          cases ry
          exact dict_none_rc (dc_at I (ex _ _ e1)) hu0
        | bl b =>
          cases re
          cases ry
          exact dict_bool_rc _ (dc_at I (ex _ _ e1)) hu0
        | int h =>
          cases re
          obtain ⟨t2, rfl⟩ := ry
          exact dict_int_rc _ t2 (dc_at I (ex _ _ e1)) hu0
        | str h =>
          cases re
          obtain ⟨t2, rfl⟩ := ry
          exact dict_str_rc _ t2 (dc_at I (ex _ _ e1)) hu0
        | d0 =>
          cases re with
          | @dct a2 kv2 _ e2 rk2 =>
            cases rk2
            cases (show u = Value.ref a2 from ry)
            exact dicts_rc I (ex _ _ e1) (ex _ _ e2) hu1 (.inl ⟨rfl, rfl, rfl⟩)
        | d1 =>
          cases re with
          | @dct a2 kv2 _ e2 rk2 =>
            cases rk2 with
            | cons rr2 rn2 =>
              cases rr2
              cases rn2
              cases (show u = Value.ref a2 from ry)
              exact dicts_rc I (ex _ _ e1) (ex _ _ e2) hu1 (.inr (.inl ⟨rfl, ⟨_, rfl⟩, rfl⟩))
        | tup hl2 h2 =>
          cases re with
          | @tup a2 xs2 _ e2 rs2 =>
            cases (show u = Value.ref a2 from ry)
            obtain ⟨its2, rv2, p2, _⟩ := I.tuple (same_t ex e2)
            exact dict_tuple_rc (dc_at I (ex _ _ e1)) (istup p2) hu0
    | d1 =>
      cases rd with
      | @dct a1 kv1 _ e1 rk1 =>
        cases rk1 with
        | cons rr1 rn1 =>
          cases rr1
          cases rn1
          cases (show v = Value.ref a1 from rx)
          cases he with
          | non =>
            cases re
            cases ry
            exact dict_none_rc (dc_at I (ex _ _ e1)) hu0
          | bl b =>
            cases re
            cases ry
            exact dict_bool_rc _ (dc_at I (ex _ _ e1)) hu0
          | int h =>
            cases re
            obtain ⟨t2, rfl⟩ := ry
            exact dict_int_rc _ t2 (dc_at I (ex _ _ e1)) hu0
          | str h =>
            cases re
            obtain ⟨t2, rfl⟩ := ry
            exact dict_str_rc _ t2 (dc_at I (ex _ _ e1)) hu0
          | d0 =>
            cases re with
            | @dct a2 kv2 _ e2 rk2 =>
              cases rk2
              cases (show u = Value.ref a2 from ry)
              exact dicts_rc I (ex _ _ e1) (ex _ _ e2) hu1 (.inr (.inr (.inl ⟨⟨_, rfl⟩, rfl, rfl⟩)))
          | d1 =>
            cases re with
            | @dct a2 kv2 _ e2 rk2 =>
              cases rk2 with
              | cons rr2 rn2 =>
                cases rr2
                cases rn2
                cases (show u = Value.ref a2 from ry)
                exact dicts_rc I (ex _ _ e1) (ex _ _ e2) hu1 (.inr (.inr (.inr ⟨rfl, rfl, rfl⟩)))
          | tup hl2 h2 =>
            cases re with
            | @tup a2 xs2 _ e2 rs2 =>
              cases (show u = Value.ref a2 from ry)
              obtain ⟨its2, rv2, p2, _⟩ := I.tuple (same_t ex e2)
              exact dict_tuple_rc (dc_at I (ex _ _ e1)) (istup p2) hu0
    | tup hl1 h1 =>
      cases rd with
      | @tup a1 xs1 _ e1 rs1 =>
        cases (show v = Value.ref a1 from rx)
        obtain ⟨its1, rv1, p1, _⟩ := I.tuple (same_t ex e1)
        cases he with
        | non =>
          cases re
          cases ry
          exact (RcAt.tuple_none (istup p1) hu0) _ _
        | bl b =>
          cases re
          cases ry
          exact (RcAt.tuple_bool _ (istup p1) hu0) _ _
        | int h =>
          cases re
          obtain ⟨t2, rfl⟩ := ry
          exact (RcAt.tuple_int _ t2 (istup p1) hu0) _ _
        | str h =>
          cases re
          obtain ⟨t2, rfl⟩ := ry
          exact (RcAt.tuple_str _ t2 (istup p1) hu0) _ _
        | d0 =>
          cases re with
          | @dct a2 kv2 _ e2 rk2 =>
            cases rk2
            cases (show u = Value.ref a2 from ry)
            exact tuple_dict_rc (dc_at I (ex _ _ e2)) (istup p1) hu0
        | d1 =>
          cases re with
          | @dct a2 kv2 _ e2 rk2 =>
            cases rk2 with
            | cons rr2 rn2 =>
              cases rr2
              cases rn2
              cases (show u = Value.ref a2 from ry)
              exact tuple_dict_rc (dc_at I (ex _ _ e2)) (istup p1) hu0
        | tup hl2 h2 =>
          cases re with
          | @tup a2 xs2 _ e2 rs2 =>
            cases (show u = Value.ref a2 from ry)
            obtain ⟨its2, rv2, p2, _⟩ := I.tuple (same_t ex e2)
            intro E Q q
            have l1 : its1.length = _ := (Paired.length rv1).symm.trans rs1.length
            have l2 : its2.length = _ := (Paired.length rv2).symm.trans rs2.length
            refine tuples_rcP (istup p1) (istup p2) hu0 (itemsX l1 l2 fun j d e v u g1 g2 g3 g4 => ?_) E Q ?_
            · obtain ⟨v1, gv1, rr1⟩ := rs1.get g1
              obtain ⟨v2, gv2, rr2⟩ := rs2.get g2
              exact eqX_run I ex _ A.in1 (by show A.units + 1 + _ + 1 < cLine; omega) d e v1 v2 v u (h1 d (List.mem_of_getElem? g1)) (h2 e (List.mem_of_getElem? g2)) rr1 rr2 (vals_at rv1 gv1 g3) (vals_at rv2 gv2 g4)
            · rw [List.size_toArray, List.size_toArray, l1, l2, allX]
              exact q
end
section
variable {X : Cx} {Z : Wish} {μ : Store} {P : D → Store → Prop}
def rEqX (K : PySem.W.Frag) : R2 := fun x y H Q => ∃ (F : Hp) (n : Nat) (d e : D), n ≤ 50 ∧ Same F H ∧ Rep K F x d ∧ Rep K F y e ∧ VX n d ∧ VX n e ∧ Q (.bl (eqX d e)) H
theorem op_eqX (hu : X.A.units + 64 < cLine) : OpR X (compareOp .Eq) (rEqX X.K) := by
  intro pins s σ H x y v u Q I rx ry h
  obtain ⟨F, n, d, e, hn, ex, r1, r2, h1, h2, q⟩ := h
  exact rcX_run I ex n X.A (by omega) d e x y v u h1 h2 r1 r2 rx ry _ _ ⟨.bl _, H, I, rfl, q⟩
theorem wop_eqX {K : PySem.W.Frag} {n : Nat} {d e : D} (h1 : VX n d) (h2 : VX n e) (hn : n ≤ 50) (p : P (.bl (eqX d e)) μ) : WOp K Z (rEqX K) d e μ P :=
  wop_sc (w := .bl (eqX d e)) (fun F => .bl _) (fun v u F H Q c r1 r2 q => ⟨F, n, d, e, hn, c.ex, r1, r2, h1, h2, q⟩) p
end
end VL
set_option Elab.async false
set_option linter.all false
set_option maxRecDepth 100000
set_option maxHeartbeats 4000000
/-! VXM: isinstance of a list that may still be changed; a list that is perhaps frozen at once. -/
namespace VL
open PySem PySem.Spec PyProof.Rows L2
section
variable {K : PySem.W.Frag} {Z : Wish} {μ : Store}
theorem tyx_mut {F H : Hp} {j : Nat} {l : Addr} {xs : List D} (hj : μ[j]? = some (l, .lst xs)) (c : Cm K F H μ) : TyX K H (.ref l) (.type "list") := by
  obtain ⟨_, ys, e, r⟩ := c.mu _ (mem_at hj)
  exact .base (.lst e)
theorem wc_isiM {j : Nat} {l : Addr} {xs : List D} {T : String} {b : Bool} {P : D → Store → Prop} (hj : μ[j]? = some (l, .lst xs)) (hk : PySem.W.kitOne K (.type "list") (.type T) = some b) (p : P (.bl b) μ) : WC K Z (rIsiA K) [.ref l, .ty T] μ P :=
  wc_sc (w := .bl b) (fun F => .bl _) (fun vs F H Q c r q => by
    obtain ⟨v, u, rfl, r1, r2⟩ := reps2 r
    cases r1
    cases r2
    exact .inl ⟨_, .ty T, _, .type T, b, rfl, .ty T, tyx_mut hj c, hk, q⟩) p
theorem wc_isi2M {j : Nat} {l : Addr} {xs : List D} {T U : String} {b : Bool} {P : D → Store → Prop} (hj : μ[j]? = some (l, .lst xs)) (hk : PySem.W.kitAny K (.type "list") [.type T, .type U] = some b) (p : P (.bl b) μ) : WC K Z (rIsiA K) [.ref l, .tup [.ty T, .ty U]] μ P :=
  wc_sc (w := .bl b) (fun F => .bl _) (fun vs F H Q c r q => by
    obtain ⟨v, u, rfl, r1, r2⟩ := reps2 r
    cases r1
    obtain ⟨a, zs, rfl, e, r'⟩ := rep_tt r2
    obtain ⟨v1, v2, rfl, q1, q2⟩ := reps2 r'
    cases q1; cases q2
    exact .inr ⟨_, a, [.ty T, .ty U], _, [.type T, .type U], b, rfl, same_t c.ex e, .cons (.ty T) (.cons (.ty U) .nil), tyx_mut hj c, hk, q⟩) p
end
section
variable {X : Cx} {Z : Wish} {δ : Env} {μ : Store} {e : Expr} {P : D → Store → Prop}
/-- a value as it is, or a list at the store's end, frozen at once -/
theorem ve_frzE (h : VE X Z e δ μ fun d μ1 => P d μ1 ∨ ∃ (j : Nat) (l : Addr) (xs : List D), d = .ref l ∧ μ1[j]? = some (l, .lst xs) ∧ P (.lst xs) (μ1.eraseIdx j)) : VE X Z e δ μ P := fun σ F H Q s c k z =>
  h σ F H Q s c (fun v d μ1 F1 H1 p m1 c1 r1 => by
    rcases p with p | ⟨j, l, xs, e, hj, p⟩
    · exact k _ _ _ _ _ p m1 c1 r1
    · subst e
      obtain ⟨_, vs, hl, rv⟩ := c1.mu _ (mem_at hj)
      cases r1
      have m2 := mv_frz hj hl c1
      exact k _ _ _ _ _ p (m1.trans m2) (cm_frz hj hl c1) (.lst upd_same (rv.mono m2.up))) z
end
end VL
set_option Elab.async false
set_option linter.all false
set_option maxRecDepth 100000
set_option maxHeartbeats 4000000
/-! VMK: own classes whose __init__ says super().__init__, made with keywords. -/
namespace L2
open PySem PySem.Spec PyProof.Rows NdefX
/-- a def's promise, the values in the parameters' order, mk: how the call hands them over -/
def FnRM (P : Program) (w : World) (K : PySem.W.Frag) (mg : Str → Option Value) (base : Heap) (CX : CXT) (k : Nat) (f : Addr) (mk : List Value → Args) (sp : Sp) : Prop :=
  ∀ (A : Around) (outer : List PySem.Env) (s : Shared) (H : Hp) (us : List Value) (vs : List V) (Q : VK) (E : XK), Room k A → Env0 P w K mg base A outer s H → Vals vs us → sp vs H Q E →
    codeAny (model P w) A (.call (.ref f) (mk us)) (CR CX outer P w H s Q E) s
section
theorem vl_superM {P : Program} {w : World} {K : PySem.W.Frag} {mg : Str → Option Value} {base : Heap} {k : Nat} {F : NF} {f f2 D cc : Addr} {N ps : List Str} {sp sp2 : Sp} {e : Expr} {es : List Expr} {rest : List Stmt} {p0 p1 ap pos spos : Pos} {self : Str} (U : SupF P K mg f F D f2 cc)
    (hbd : F.body = .Expr (.Call (.Attribute (.Call (.Name "super" p0) [] [] p1) "__init__" ap) (e :: es) [] pos) spos :: rest)
    (S : NScope N (self :: ps) ["__class__"] F.scope) (hks : F.scope.names.lookup ("super" : Str) = some .globalImplicit) (hps : (F.params.posonlyargs ++ F.params.args).head?.map (·.arg) = some self)
    {mk : List Value → Args} (hb : ∀ (doc pm ctv : Value) (us : List Value), us.length = (self :: ps).length → bindArgs (F.fd doc pm ctv) (mk us) = pure ((self :: ps).zip us)) (F2 : FnR P w K mg base (L2.CX P w) k f2 sp2)
    (hbody : ∀ (A : Around) (outer : List Env) (s : Shared) (H : Hp) (vs : List V) (Q : VK) (E : XK), Room k (A.deeper (envF F f s.heap.objs.size)) → sp vs H Q E →
      ∃ (t : TA) (tr : TS) (x dx : Addr) (fs : List (Str × V)) (ws : List V), vs = .ref x :: ws ∧ ws.length = ps.length ∧ H x = some (.ins D dx fs) ∧ PA (ncx (L2.CX P w) P w K mg base N F f A outer s H E) (e :: es) t ∧ PSs (ncx (L2.CX P w) P w K mg base N F f A outer s H E) rest tr ∧
        starEach (e :: es) (envF F f s.heap.objs.size) = (false, eval e (envF F f s.heap.objs.size)) :: starEach es (envF F f s.heap.objs.size) ∧ (backTo pos (starEach es (envF F f s.heap.objs.size))).any (·.1) = false ∧
        swapsWith (.Call (.Attribute (.Call (.Name "super" p0) [] [] p1) "__init__" ap) (e :: es) [] pos) none spos.line (envF F f s.heap.objs.size) = pure false ∧
        (∃ pl : Sem Bool, eval (.Call (.Attribute (.Call (.Name "super" p0) [] [] p1) "__init__" ap) (e :: es) [] pos) (envF F f s.heap.objs.size) = (do
          let ov ← attributeBase (.Call (.Name "super" p0) [] [] p1) "__init__" (envF F f s.heap.objs.size) (eval (.Call (.Name "super" p0) [] [] p1) (envF F f s.heap.objs.size))
          standAt ap.atName
          let (fn, first) ← holding [ov] (getMethod ov "__init__" pl)
          callWith pos fn first (backTo pos (starEach (e :: es) (envF F f s.heap.objs.size))) [])) ∧
        ∀ q, H q = none → t (startF N vs [none]) (upd H q (.met f2 x)) fun us H1 => H1 q = some (.met f2 x) ∧ sp2 (.ref x :: us) H1 (fun v H2 => tr { nx := fun _ H' => Q .non H', rt := Q } (startF N vs [none]) H2) E)
    (hx : ∀ (A : Around) (outer : List Env) (s : Shared) (H : Hp) (E : XK), Passes (L2.CX P w) (ncx (L2.CX P w) P w K mg base N F f A outer s H E) E) :
    FnRM P w K mg base (L2.CX P w) (k + 1) f mk sp := by
  intro A outer s H us vs Q E hr e0 r hsp
  have KX : K.In s.heap := e0.mod.kin.keeps fun b o e => (e0.bs b o e).1
  have lim : s.heap.NoLimit := e0.mod.nolimit.keeps fun b o e => (e0.bs b o e).1
  obtain ⟨t, tr, x, dx, fs, ws, ev, hl, hx0, pa, pss, hst, hpl, hsw, ⟨pl, hev⟩, hq⟩ := hbody A outer s H vs Q E (hr.deeper _) hsp
  subst ev
  obtain ⟨oc, od, osl, doc, pm, ctv, hf⟩ := U.fn
  obtain ⟨cl', cld, csl, hcell⟩ := U.cell
  have ul : us.length = (self :: ps).length := by rw [← r.length]; simp [hl]
  refine codeAny_call_function hr.depth (KX _ _ hf) rfl S.co S.gen rfl (PySem.W.codeRec_of KX U.code) ?_
  rw [hb doc pm ctv us ul]
  refine wpAny_pure (wpAny_newFunctionEnv S.nocell (fun ⟨n, _⟩ hy => S.par n (List.of_mem_zip hy).1) (fun h₁ hns hsb => ⟨lim.fresh _ hsb, ?_⟩) S.kind)
  show codeAny _ _ (.func F.body (envF F f s.heap.objs.size)) _ _
  have kp : ∀ b o, s.heap.get? b = some o → h₁.get? b = some o := fun b o e => hsb.extBut b o (Nat.ne_of_lt (Heap.lt_size e)) (Heap.get?_push_of_some _ e)
  have CA : CellsAt F.cl ["__class__"] [none] s.heap H := by
    rw [U.cl]
    have hb0 := e0.mod.kin cc _ hcell
    refine ⟨rfl, fun y c hy => ?_, fun x y c h1 h2 => (look1 h1).1.trans (look1 h2).1.symm, fun i y hy => ?_⟩
    · obtain ⟨_, rfl⟩ := look1 hy
      exact ⟨(e0.bs _ _ hb0).2, _, _, (e0.bs _ _ hb0).1, rfl⟩
    · match i, hy with
      | 0, hy =>
        have hy : ("__class__" : Str) = y := Option.some.inj hy
        subst hy
        exact ⟨cc, by simp, fun v hv => by simp at hv⟩
  have I : Inv (ncx (L2.CX P w) P w K mg base N F f A outer s H E) [] (startF N (.ref x :: ws) [none]) H { s with heap := h₁, toks := s.toks + ((self :: ps).zip us).length } := inv_startN S hr.hd e0 (by simp [hl]) r CA hns kp
  have hxx := hx A outer s H E
  rw [hbd]
  refine ks_codeAny_funcAt ?_
  refine ks_wpAt_execs_cons ?_
  refine ks_wpAt_mono (ks_wpAt_Expr_any (Q := fun fl s' => fl = .next ∧ ∃ H2, Inv (ncx (L2.CX P w) P w K mg base N F f A outer s H E) [] (startF N (.ref x :: ws) [none]) H2 s' ∧ tr { nx := fun _ H' => Q .non H', rt := Q } (startF N (.ref x :: ws) [none]) H2) (E := (ncx (L2.CX P w) P w K mg base N F f A outer s H E).xe) ?_ I.quiet hsw) (fun fl s' hfl => ?_) fun e' s' he' => he'
  rotate_left
  · obtain ⟨rfl, H2, I2, hq2⟩ := hfl
    refine wpAt_of_wpAny ?_
    refine wpAny_mono (pss.run [] s' _ H2 _ I2 hq2) (fun fl s' hs => ?_) fun e s' hs => hs
    have fin : ∀ {σ' : L2.St} {H' : Hp} {v : V} {u : Value}, Inv (ncx (L2.CX P w) P w K mg base N F f A outer s H E) [] σ' H' s' → L2.RelV v u → Q v H' → CE outer P w H s Q u s' :=
      fun {σ' H' v u} J rv q => ⟨v, H', J.os, J.bare, J.base, J.hok, rv, q⟩
    cases fl with
    | ret u =>
      obtain ⟨v, σ', H', J, rv, q⟩ := hs
      exact fin J rv q
    | next =>
      obtain ⟨σ', H', J, q⟩ := hs
      exact fin (v := V.non) (u := Value.none) J rfl q
    | brk =>
      obtain ⟨_, _, _, q⟩ := hs
      exact False.elim q
    | cont =>
      obtain ⟨_, _, _, q⟩ := hs
      exact False.elim q
  · refine ks_wpAt_MethodCall (pl := pl) ?_ hev
    obtain ⟨ccl, cdd, ccs, vs0, file, tf, hcode, hvs, hfile⟩ := U.crec
    obtain ⟨ar, har, harn⟩ : ∃ ar : Arg, (F.params.posonlyargs ++ F.params.args).head? = some ar ∧ ar.arg = self := by
      cases z : (F.params.posonlyargs ++ F.params.args).head? with
      | none => rw [z] at hps; cases hps
      | some ar => rw [z] at hps; exact ⟨ar, rfl, Option.some.inj hps⟩
    have X1 : K.In h₁ := KX.keeps kp
    have hkc : F.scope.names.lookup ("__class__" : Str) = some .free := S.frk _ (by simp)
    have hsl : F.scope.names.lookup self = some .local := S.par _ (by simp)
    refine ks_wpAt_super_base (env := envF F f s.heap.objs.size) hks hkc (by decide) rfl (X1 _ _ hf) rfl har rfl (X1 _ _ hcode) rfl hvs hfile U.top ?_
    obtain ⟨mb, hmb1, hmb2⟩ := e0.mod.blt
    refine PySem.W.ks_loadName_global S.kind hks (Calls.loadGlobal_builtin (env := envF F f s.heap.objs.size) (I.mod.glob.keeps I.bk) U.sup (hmb1.keeps I.bk) ((hmb2 "super" (by decide)).trans (by kernel_rfl)) ⟨rfl, ?_⟩)
    refine wpAny_loadName_free S.kind hkc (by show F.cl.lookup _ = _; rw [U.cl]; rfl) ⟨_, X1 _ _ hcell, rfl⟩ ?_
    obtain ⟨m, hn, hlk⟩ := I.loc
    have N0 : N[0]? = some self := by
      have h3 : (N.take ((self :: ps).length + [("__class__" : Str)].length))[0]? = (self :: ps ++ [("__class__" : Str)])[0]? := by rw [S.pre]
      rw [List.getElem?_take_of_lt (by simp)] at h3
      exact h3
    obtain ⟨u0, ru0, lk0⟩ := hlk 0 self (.ref x) N0 (by simp [startF]) (.inl hsl)
    have hu0 : u0 = .ref x := ru0
    subst hu0
    have hv0 : m self = some (.ref x) := by
      rcases lk0 with ⟨_, h4⟩ | ⟨h4, _⟩
      · exact h4
      · have h4 : F.scope.names.lookup self = some .cell ∨ F.scope.names.lookup self = some .free := h4
        rw [hsl] at h4
        rcases h4 with h4 | h4 <;> cases h4
    rw [harn]
    refine wpAny_loadName_local S.kind hsl hn hv0 ?_
    obtain ⟨cdD, hcd⟩ := U.cls
    obtain ⟨oD, hD1, hD2⟩ : ∃ oD, h₁.get? D = some oD ∧ oD.data = .cls cdD := by
      have hcd' := hcd
      unfold PySem.W.clsIn at hcd'
      split at hcd'
      · rename_i c d cd' sl ho
        cases hcd'
        exact ⟨_, X1 _ _ ho, rfl⟩
      · cases hcd'
    have hx1 : (ncx (L2.CX P w) P w K mg base N F f A outer s H E).prog = P := rfl
    obtain ⟨mA, O, _⟩ := ins_get I.hok hx0
    obtain ⟨odx, J, _⟩ := O.look
    refine ks_wpAny_isType_cls hD1 hD2 ⟨rfl, ?_⟩
    refine ks_wpAny_call_super hD1 hD2 J.at_ J.cls (fun c e => ?_) (PySem.W.looks_mroIn X1 U.sub) (fun h' hso k1 => ?_)
    · have := J.no
      unfold PySem.W.notCls at this
      rw [e] at this
      exact Bool.noConfusion this
    have I1 : Inv (ncx (L2.CX P w) P w K mg base N F f A outer s H E) [] (startF N (.ref x :: ws) [none]) H { s with heap := h', toks := s.toks + ((self :: ps).zip us).length } := I.kept (t' := s.toks + ((self :: ps).zip us).length) k1
    have X2 : K.In h' := X1.keeps k1
    obtain ⟨mA1, O1, _⟩ := ins_get I1.hok hx0
    obtain ⟨odx1, J1, _⟩ := O1.look
    have hup := U.up
    unfold PySem.W.ks_superIn at hup
    rw [hcd] at hup
    obtain ⟨of, hof, hofc⟩ : ∃ of, h'.get? f2 = some of ∧ of.cls = .type "function" := by
      have ht' : (K.lookup f2).map (·.cls) = some (.type "function") := U.ty
      cases z : K.lookup f2 with
      | none => rw [z] at ht'; cases ht'
      | some of => rw [z] at ht'; exact ⟨of, X2 _ _ z, Option.some.inj ht'⟩
    refine ks_wpAny_getMethod_super hso (PySem.W.looks_opaque X2 U.opq) (l₀ := cdD.mro) (fun A Q E s k q => wpAny_bind ((PySem.W.looks_clsIn X2 hcd) A _ E s k (wpAny_pure q))) rfl X2 hup hof hofc (PySem.W.ks_ne X2 J1 hcd) (by decide) ?_
    have hqn : H h'.objs.size = none := I1.hok.fresh (Nat.le_refl _)
    have I2 : Inv (ncx (L2.CX P w) P w K mg base N F f A outer s H E) [] (startF N (.ref x :: ws) [none]) (upd H h'.objs.size (.met f2 x)) { s with heap := h'.push { cls := .type "method", data := .fields #[.ref f2, .ref x] }, toks := s.toks + ((self :: ps).zip us).length + 1 } :=
      I1.laid (t' := s.toks + ((self :: ps).zip us).length + 1) (a := h'.objs.size) (o := .met f2 x) (fun b u z => Heap.get?_push_of_some _ z) (Nat.le_refl _)
        (show (h'.push (PySem.W.methodObj (.ref f2) (.ref x))).get? h'.objs.size = some (PySem.W.methodObj (.ref f2) (.ref x)) from Heap.get?_push_size h' rfl)
    have hA := pa.run pos [] _ _ _ _ I2 (hq h'.objs.size hqn)
    show wpAny _ _ (callWith pos (.ref h'.objs.size) [] (backTo pos (starEach (e :: es) (envF F f s.heap.objs.size))) []) _ _ _
    change wpAny _ _ (spliced (backTo pos (starEach (e :: es) (envF F f s.heap.objs.size)))) _ _ _ at hA
    rw [hst] at hA ⊢
    refine callwith_met (X := ncx (L2.CX P w) P w K mg base N F f A outer s H E) (g := f2) (a := x) (by show ((false || (backTo pos (starEach es (envF F f s.heap.objs.size))).any (·.1)) || _) = false; rw [hpl]; rfl) U.fi (Calls.evalArgs_plain ?_)
    refine wpAny_mono hA (fun us2 s2 hA2 => ?_) fun _ _ z => z
    obtain ⟨xs, H2, I3, rxs, hm2, hsp2⟩ := hA2
    refine ⟨met_P I3 hm2, ?_⟩
    refine wpAny_call (call_met I3 hm2 (codeAny_mono (run_fnR (us := .ref x :: us2) (vs := .ref x :: xs) F2 (hr.deeper _) hxx I3 (.cons rfl rxs) hsp2) fun r s' hr' => ?_))
    cases r with
    | error e => exact hr'
    | ok fl =>
      cases fl with
      | ret u =>
        obtain ⟨v, H', I4, _, q4⟩ := hr'
        exact ⟨rfl, H', I4, q4⟩
      | next => exact False.elim hr'
      | brk => exact False.elim hr'
      | cont => exact False.elim hr'
end
end L2
namespace VL
open PySem PySem.Spec PyProof.Rows L2 NdefX StX
section
variable {P : Program} {w : World} {K : PySem.W.Frag} {mg : Str → Option Value} {base : Heap} {x qual : Str} {params : Arguments} {body : List Stmt} {scope : Scope} {f : Addr} {fd : FuncData}
theorem fn_superDM {k : Nat} {F : NF} {f2 D0 cc : Addr} {N ps : List Str} {S S2 : FSpec} {e : Expr} {es : List Expr} {rest : List Stmt} {p0 p1 ap pos spos : Pos} {self : Str} (U : SupF P K mg f F D0 f2 cc)
    (hbd : F.body = .Expr (.Call (.Attribute (.Call (.Name "super" p0) [] [] p1) "__init__" ap) (e :: es) [] pos) spos :: rest)
    (S0 : NScope N (self :: ps) ["__class__"] F.scope) (hks : F.scope.names.lookup ("super" : Str) = some .globalImplicit) (hps : (F.params.posonlyargs ++ F.params.args).head?.map (·.arg) = some self)
    {mk : List Value → Args} (hbi : ∀ (doc pm ctv : Value) (us : List Value), us.length = (self :: ps).length → bindArgs (F.fd doc pm ctv) (mk us) = pure ((self :: ps).zip us)) (F2 : FnR P w K mg base (L2.CX P w) k f2 (spOf K S2))
    (hst : ∀ L, starEach (e :: es) (envF F f L) = (false, eval e (envF F f L)) :: starEach es (envF F f L)) (hpl : ∀ L, (backTo pos (starEach es (envF F f L))).any (·.1) = false)
    (hsw : ∀ L, swapsWith (.Call (.Attribute (.Call (.Name "super" p0) [] [] p1) "__init__" ap) (e :: es) [] pos) none spos.line (envF F f L) = pure false)
    (hev : ∀ L, ∃ pl : Sem Bool, eval (.Call (.Attribute (.Call (.Name "super" p0) [] [] p1) "__init__" ap) (e :: es) [] pos) (envF F f L) = (do
          let ov ← attributeBase (.Call (.Name "super" p0) [] [] p1) "__init__" (envF F f L) (eval (.Call (.Name "super" p0) [] [] p1) (envF F f L))
          standAt ap.atName
          let (fn, first) ← holding [ov] (getMethod ov "__init__" pl)
          callWith pos fn first (backTo pos (starEach (e :: es) (envF F f L))) []))
    (hb : ∀ (A : Around) (outer : List PySem.Env) (s : Shared) (H : Hp) (E : XK) (ds : List D) (μ : Store) (Q : D → Store → Prop) (R : Addr → List (Str × D) → Store → Prop),
      let X : Cx := ncx (L2.CX P w) P w K mg base N F f A outer s H E
      Fx X ⟨E, R⟩ k → PassesOwn (model X.prog X.w) X.A X.env X.xe → S ds μ Q R → ∃ (l : Addr) (ws : List D) (fs : List (Str × D)) (j : Nat), ds = .ref l :: ws ∧ ws.length = ps.length ∧ μ[j]? = some (l, .ins D0 fs) ∧
        VA X ⟨E, R⟩ (e :: es) (startD N ds) μ fun xs μ1 => S2 (.ref l :: xs) μ1 (fun _ μ2 => VSs X ⟨E, R⟩ rest (startD N ds) μ2 (retP Q)) R) :
    FnRM P w K mg base (L2.CX P w) (k + 1) f mk (spOf K S) := by
  have hlN : (self :: ps).length + 1 ≤ N.length := by
    have q := congrArg List.length S0.pre
    rw [List.length_take, List.length_append] at q
    simp at q ⊢
    omega
  have tks : ∀ (A : Around) (outer : List PySem.Env) (s : Shared) (H : Hp) (E : XK), Takes (ncx (L2.CX P w) P w K mg base N F f A outer s H E) (fun cls d _ H => E cls d H) := fun A outer s H E =>
    takes_of (E₁ := fun e' s'' => L2.CX P w outer H s E e' s'') rfl rfl rfl rfl
  refine vl_superM U hbd S0 hks hps hbi F2 (fun A outer s H vs Q E hr h => ?_) (fun A outer s H E => passes_call (tks A outer s H E) fun _ _ _ _ h => h)
  obtain ⟨F0, ds, μ, P0, R, r, c, hS, hk, hz⟩ := h
  have ow := passes_of (X := ncx (L2.CX P w) P w K mg base N F f A outer s H E) (K := fun e s'' => L2.CX P w outer H s E e s'') (E₁ := fun e' s'' => L2.CX P w outer H s E e' s'') rfl
  have un := hr.units
  have fx : Fx (ncx (L2.CX P w) P w K mg base N F f A outer s H E) ⟨E, R⟩ k := ⟨⟨S0.nd, rfl, by have := hr.un; show (A.deeper _).units + 70 < _; omega⟩, hr, passes_call (tks A outer s H E) fun _ _ _ _ h => h⟩
  obtain ⟨l, ws, fs, j, rfl, hwl, hj, hva⟩ := hb A outer s H E ds μ P0 R fx ow hS
  obtain ⟨_, dx, fv, hl0, rf⟩ := c.mu _ (mem_at hj)
  cases r with
  | @cons v _ vs _ r1 rr =>
    cases r1
    have hvl : vs.length = ps.length := by rw [rr.length]; exact hwl
    refine ⟨rA (ncx (L2.CX P w) P w K mg base N F f A outer s H E) (e :: es), rSs (ncx (L2.CX P w) P w K mg base N F f A outer s H E) rest, l, dx, fv, vs, rfl, hvl, hl0, pa_r, pss_r, hst _, hpl _, hsw _, hev _, fun q hq => ?_⟩
    have sl : Slots K F0 (startF N (.ref l :: vs) [none]) (startD N (.ref l :: ws)) := by
      have e1 : startF N (V.ref l :: vs) [none] = L2.start N (V.ref l :: vs) := by
        unfold startF L2.start
        have : N.length - (V.ref l :: vs).length = (N.length - (V.ref l :: vs).length - 1) + 1 := by simp at hlN ⊢; omega
        rw [this, List.replicate_succ]
        simp
      rw [e1]
      have := slots_start (N.length - (D.ref l :: ws).length) (Reps.cons (.ref l) rr)
      unfold L2.start startD
      rw [(Reps.cons (.ref l) rr : Reps K F0 (V.ref l :: vs) (D.ref l :: ws)).length]; exact this
    have mq : Mv μ F0 H μ F0 (upd H q (.met f2 l)) := ⟨fun a o e _ => by rw [upd_ne (ne_of_none e hq)]; exact e, Same.refl F0, fun a h => .inl h, fun a h => .inl h, fun a h => by
      by_cases z : a = q
      · subst z; exact hq
      · rw [upd_ne z] at h; exact h⟩
    have cq : Cm K F0 (upd H q (.met f2 l)) μ := ⟨fun a u e => by rw [upd_ne (ne_of_none (c.ex a u e) hq)]; exact c.ex a u e, fun p hp => by
      have np : p.1 ≠ q := fun e => c.not_new hq (by rw [← e]; exact List.mem_map.mpr ⟨p, hp, rfl⟩)
      exact ⟨(c.mu p hp).1, (c.mu p hp).2.heap (by rw [upd_ne np])⟩, c.nd⟩
    refine hva (startF N (.ref l :: vs) [none]) F0 (upd H q (.met f2 l)) _ sl cq (fun us xs μ1 F1 H1 p1 m1 c1 r1 => ?_) (hz.mv mq)
    refine ⟨m1.kp q _ upd_same fun z => c.not_new hq z, F1, .ref l :: xs, μ1, _, R, .cons (.ref l) r1, c1, p1, fun v d μ' F' H' w2 m2 c2 r2 => ?_, (hz.mv mq).mv m1⟩
    have mm := (mq.trans m1).trans m2
    refine w2 (startF N (.ref l :: vs) [none]) F' H' _ (sl.mono mm.up) c2 ⟨fun σ' δ' μ' F' H' ⟨μ2, l, p⟩ m c' s' => ?_, fun σ' δ' μ' F' H' p m c' s' => ?_, fun σ' δ' μ' F' H' p m c' s' => ?_, fun v d μ' F' H' ⟨μ2, l, p⟩ m c' r' => ?_⟩ (hz.mv mm)
    · exact hk _ _ _ _ _ p ((mm.trans m).less l) (c'.less l) .non
    · exact False.elim p
    · exact False.elim p
    · exact hk _ _ _ _ _ p ((mm.trans m).less l) (c'.less l) r'
end
structure MakRK (P : Program) (w : World) (K : PySem.W.Frag) (mg : Str → Option Value) (base : Heap) (k : Nat) (x : Str) (C : Addr) (S : FSpec) (ks : List Str) (ix : List Nat) : Prop where
  ex : ∃ (f : Addr) (mk : List Value → Args), Mk K C f ∧ FnRM P w K mg base (L2.CX P w) k f mk (spOf K S) ∧ mg x = some (.ref C) ∧ ∀ (x : Value) (ws : List Value), ws.length = ks.length → mk (x :: pickL ix ws) = ⟨[x], ks.zip ws⟩
def tMakeRK (C : Addr) (n : Nat) (ix : List Nat) (sp : Sp) (E : XK) (tk : TA) : TE := fun σ H Q => tk σ H fun zs H1 => zs.length = n ∧ ∀ x dx, H1 x = none → H1 dx = none → dx ≠ x → sp (V.ref x :: pickL ix zs) (upd (upd H1 dx (.own x)) x (.ins C dx [])) (fun v H2 => v = .non ∧ Q (.ref x) H2) E
section
variable {X : Cx} {f C : Addr} {k : Nat} {mk : List Value → Args} {sp : Sp} {E : XK} {x : Str} {p pos : Pos} {kws : List Keyword} {ks : List Str} {ix : List Nat} {tk : TA}
theorem pe_makeRK (M : Mk X.K C f) (F : FnRM X.prog X.w X.K X.mg X.base (L2.CX X.prog X.w) k f mk sp) (hmk : ∀ (x : Value) (ws : List Value), ws.length = ks.length → mk (x :: pickL ix ws) = ⟨[x], ks.zip ws⟩) (hr : Room (k + 1) X.A) (hg : Gl X x) (hm : X.mg x = some (.ref C)) (hx : Passes (L2.CX X.prog X.w) X E) (hkw : PK X kws tk)
    (hall : (backToKw pos (keywordEach kws X.env)).all (·.1.isSome) = true := by rfl) (hks : (backToKw pos (keywordEach kws X.env)).filterMap (·.1) = ks := by rfl) (hdb : (x == ("__debug__" : Str)) = false := by decide)
    (hpl : ((backTo pos (starEach [] X.env)).any (·.1) || (backToKw pos (keywordEach kws X.env)).any (·.1.isNone)) = false := by rfl) :
    PE X (.Call (.Name x p) [] kws pos) (tMakeRK C ks.length ix sp E tk) := by
  refine ⟨fun pins s σ H Q I h => ?_⟩
  refine wpAny_Call_Name_kw (ld_glob I hg hm (PySem.W.callWith_KW0 (h₀ := X.base) I.ok.mod.kin M.kp hall ?_ hpl) hdb)
  refine thn (hkw.run pos pins s σ H _ I h) fun ws s2 ⟨zs, H2, I2, rz, l3, hq0⟩ => ⟨I2.kIn, ?_⟩
  rw [hks]
  have l4 : ws.length = ks.length := by rw [← rz.length]; exact l3
  have hq := hq0 (s2.heap.objs.size + 1) s2.heap.objs.size (I2.hok.fresh (Nat.le_succ _)) (I2.hok.fresh (Nat.le_refl _)) (Nat.ne_of_lt (Nat.lt_succ_self _))
  have I3 := Inv.made (C := C) I2
  have r2 : Vals (V.ref (s2.heap.objs.size + 1) :: pickL ix zs) (Value.ref (s2.heap.objs.size + 1) :: pickL ix ws) := .cons rfl (pick_vals rz ix)
  have ru := F _ X.stack _ _ (Value.ref (s2.heap.objs.size + 1) :: pickL ix ws) _ _ E (hr.make C [] (ks.zip ws)) (I3.env0.make C [] (ks.zip ws)) r2 hq
  rw [hmk _ _ l4] at ru
  refine wpAny_call (make_map (f := f) I2.kIn M.makes M.init (beq_iff_eq.mp M.fn) (codeAny_mono ru fun r s' hq' => ?_))
  cases r with
  | error e => exact hx pins σ _ _ e s' I3 hq'
  | ok fl =>
    cases fl with
    | ret u =>
      obtain ⟨v, H', I4, rv, ev, q3⟩ := I3.after hq'
      subst ev
      exact ⟨rv, ⟨V.ref (s2.heap.objs.size + 1), H', I4, rfl, q3⟩⟩
    | next => exact False.elim hq'
    | brk => exact False.elim hq'
    | cont => exact False.elim hq'
end
theorem we_makeRK {K : PySem.W.Frag} {Z : Wish} {δ : Env} {μ : Store} {P : D → Store → Prop} {S : FSpec} {C : Addr} {n : Nat} {ix : List Nat} {tk : TA} (h : WA K Z tk δ μ fun xs μ1 => xs.length = n ∧ ∀ l, S (.ref l :: pickL ix xs) (μ1 ++ [(l, .ins C [])]) (fun d μ2 => d = .non ∧ P (.ref l) μ2) Z.R) : WE K Z (tMakeRK C n ix (spOf K S) Z.E tk) δ μ P := fun σ F H Q s c k z =>
  h σ F H _ s c (fun vs xs μ1 F1 H1 ⟨hl, p⟩ m1 c1 r1 => ⟨by rw [r1.length]; exact hl, fun x dx hx hdx ne => by
    obtain ⟨m2, c2⟩ := mv_made (C := C) c1 hx hdx ne
    refine ⟨F1, .ref x :: pickL ix xs, _, _, Z.R, .cons (.ref x) (pick_reps r1 ix), c2, p x, fun v d μ' F' H' ⟨e, q⟩ m3 c3 r3 => ?_, (z.mv m1).mv m2⟩
    subst e; cases r3
    exact ⟨rfl, k _ _ _ _ _ q ((m1.trans m2).trans m3) c3 (.ref x)⟩⟩) z
theorem ve_makeRK {X : Cx} {Z : Wish} {δ : Env} {μ : Store} {P : D → Store → Prop} {S : FSpec} {k j : Nat} {x : Str} {C : Addr} {ks : List Str} {ix : List Nat} {kws : List Keyword} {p pos : Pos} (c : MakRK X.prog X.w X.K X.mg X.base k x C S ks ix) (fx : Fx X Z j)
    (h : VKw X Z kws δ μ fun xs μ1 => xs.length = ks.length ∧ ∀ l, S (.ref l :: pickL ix xs) (μ1 ++ [(l, .ins C [])]) (fun d μ2 => d = .non ∧ P (.ref l) μ2) Z.R) (hk : k + 1 ≤ j := by first | assumption | decide | omega) (hg : Gl X x := by rfl)
    (hall : (backToKw pos (keywordEach kws X.env)).all (·.1.isSome) = true := by rfl) (hks : (backToKw pos (keywordEach kws X.env)).filterMap (·.1) = ks := by rfl) (hdb : (x == ("__debug__" : Str)) = false := by decide)
    (hpl : ((backTo pos (starEach [] X.env)).any (·.1) || (backToKw pos (keywordEach kws X.env)).any (·.1.isNone)) = false := by rfl) : VE X Z (.Call (.Name x p) [] kws pos) δ μ P := by
  obtain ⟨f, mk, M, F, hm, hmk⟩ := c.ex
  exact ve_of (pe_makeRK M F hmk (fx.rm.mono hk) hg hm fx.ps (pk_rs kws) hall hks hdb hpl) (we_makeRK h)
end VL
set_option Elab.async false
set_option linter.all false
set_option maxRecDepth 100000
set_option maxHeartbeats 4000000
/-! P33A: papers made of lists that may still be changed. -/
namespace VK
open PySem PySem.Spec PyProof.Rows L2 VL NdefX
/-- d told with tuples for lists is d': frozen, or a list of the store -/
inductive FxM (μ : Store) : Nat → D → D → Prop
  | fx {n : Nat} {d : D} (h : fxOk n d = true) : FxM μ n d (fixD d)
  | ref {n : Nat} {l : Addr} {j : Nat} {xs : List D} (hj : μ[j]? = some (l, .lst xs)) (hl : xs.length ≤ 1000) (h : ∀ x ∈ xs, fxOk n x = true) : FxM μ (n + 1) (.ref l) (.tup (xs.map fixD))
theorem FxM.set {μ : Store} {n j : Nat} {l C : Addr} {fs : List (Str × D)} {x : Addr × MO} {d e : D} (hj : μ[j]? = some (l, .ins C fs)) (h : FxM μ n d e) : FxM (μ.set j x) n d e := by
  cases h with
  | fx h => exact .fx h
  | @ref n l' j' xs hj' hl h =>
    have ne : j ≠ j' := fun z => by subst z; rw [hj] at hj'; cases hj'
    exact .ref (j := j') (by rw [List.getElem?_set_ne ne]; exact hj') hl h
theorem FxM.app {μ ν : Store} {n : Nat} {d e : D} (h : FxM μ n d e) : FxM (μ ++ ν) n d e := by
  cases h with
  | fx h => exact .fx h
  | @ref n l' j' xs hj' hl h => exact .ref (j := j') (at_left hj') hl h
section
variable {P : Program} {w : World} {K : PySem.W.Frag} {mg : Str → Option Value} {base : Heap} {f : Addr} {fd : FuncData} {C : Addr}
def S_fixedR (n : Nat) : FSpec := fun ds μ P _ => ∃ (l : Addr) (j : Nat) (xs : List D), ds = [.ref l] ∧ μ[j]? = some (l, .lst xs) ∧ xs.length ≤ 1000 ∧ (∀ x ∈ xs, fxOk n x = true) ∧ P (.tup (xs.map fixD)) μ
theorem ok_fixedR (F : FnP K "fixed" s_fixed f fd) (b : Bi mg) {n : Nat} (c_fixed : Cal P w K mg base (n + 1) "fixed" (S_fixed n) []) : FnOk P w K mg base (L2.CX P w) (n + 2) f fd ["value"] (spOf K (S_fixedR n)) := by
  refine fn_ok F sc_fixed (fun ds μ P R ⟨_, _, _, e, _⟩ => by subst e; rfl) fun cdv A outer s H E ds μ Q R => ?_
  intro X fx ow h
  obtain ⟨l, j, xs, rfl, hj, hl, hx, q⟩ := h
  refine vss_one ?_
  refine vs_ret ?_
  refine ve_ifS ?_
  refine vt_val ?_
  refine ve_cb call_isiA b.isinstance boot_isinstance ?_
  refine va_cons ?_
  refine ve_name 0 ?_
  refine va_cons ?_
  refine ve_tup ?_
  refine va_cons ?_
  refine ve_bty (n := "list") b.list ?_
  refine va_cons ?_
  refine ve_bty (n := "tuple") b.tuple ?_
  refine va_nil ?_
  refine ⟨by decide, ?_⟩
  refine va_nil ?_
  refine wc_isi2M hj (b := true) (by kernel_rfl) ?_
  refine ⟨_, rfl, ?_⟩
  refine ⟨fun hk => ?_, fun hk => (by cases hk)⟩
  refine ve_cty call_tuple_of b.tuple boot_tuple ?_
  refine va_cons ?_
  refine ve_lcI [("each", 1)] fx.kx ?_ (js := [1])
  refine vi_mut ?_
  refine ve_name 0 ?_
  refine ⟨l, xs, rfl, mem_at hj, ?_⟩
  refine ⟨by omega, fun μ ν h => List.mem_append_left _ h, fun n acc μ' => μ' = μ ∧ acc = (xs.take n).map fixD, ⟨rfl, by simp⟩, fun n acc μ' hI => by rw [hI.1]; exact mem_at hj, fun n d acc μ' hd hI q1 => ?_, fun acc μ' hI => ?_⟩
  · obtain ⟨rfl, rfl⟩ := hI
    refine vg_name 1 (fx.bk _ q1).kx ?_
    intro q1
    refine vif_nil ?_
    simp only [if_true]
    intro q1
    refine ve_call c_fixed (fx.bk _ q1) ?_
    refine va_cons ?_
    refine ve_name 1 ?_
    refine va_nil ?_
    refine ⟨d, rfl, hx d (List.mem_of_getElem? hd), ?_⟩
    refine ⟨rfl, ?_⟩
    rw [take_snoc hd, List.map_append]
    rfl
  · obtain ⟨rfl, rfl⟩ := hI
    rw [List.take_length]
    refine va_nil ?_
    refine wc_tup_l ?_
    exact ⟨_, List.Sublist.refl _, q⟩
def S_fixedT (n : Nat) : FSpec := fun ds μ P _ => ∃ (ps : List (D × D)), ds = [.tup (ps.map (·.1))] ∧ ps.length ≤ 1000 ∧ (∀ p ∈ ps, FxM μ (n + 1) p.1 p.2) ∧ P (.tup (ps.map (·.2))) μ
theorem ok_fixedT (F : FnP K "fixed" s_fixed f fd) (b : Bi mg) {n : Nat} (c_fixed : Cal P w K mg base (n + 2) "fixed" (S_fixed (n + 1)) []) (c_fixedR : Cal P w K mg base (n + 2) "fixed" (S_fixedR n) []) : FnOk P w K mg base (L2.CX P w) (n + 3) f fd ["value"] (spOf K (S_fixedT n)) := by
  refine fn_ok F sc_fixed (fun ds μ P R ⟨_, e, _⟩ => by subst e; rfl) fun cdv A outer s H E ds μ Q R => ?_
  intro X fx ow h
  obtain ⟨ps, rfl, hl, hx, q⟩ := h
  refine vss_one ?_
  refine vs_ret ?_
  refine ve_ifS ?_
  refine vt_val ?_
  refine ve_cb call_isiA b.isinstance boot_isinstance ?_
  refine va_cons ?_
  refine ve_name 0 ?_
  refine va_cons ?_
  refine ve_tup ?_
  refine va_cons ?_
  refine ve_bty (n := "list") b.list ?_
  refine va_cons ?_
  refine ve_bty (n := "tuple") b.tuple ?_
  refine va_nil ?_
  refine ⟨by decide, ?_⟩
  refine va_nil ?_
  refine wc_isi2 (b := true) (.inl ⟨_, rfl, rfl⟩) (by kernel_rfl) ?_
  refine ⟨_, rfl, ?_⟩
  refine ⟨fun hk => ?_, fun hk => (by cases hk)⟩
  refine ve_cty call_tuple_of b.tuple boot_tuple ?_
  refine va_cons ?_
  refine ve_lcF (α := D × D) (js := [1]) [("each", 1)] fx.kx ?_
  refine vi_var 0 (xs := ps.map (·.1)) rfl ?_
  refine ⟨ps, (·.1), fun p => some p.2, rfl, by omega, fun a ha q1 => ?_, ?_⟩
  · refine vg_name 1 (fx.bk _ q1).kx ?_
    intro q1
    refine vif_nil ?_
    simp only [if_true]
    intro q1
    obtain ⟨a1, a2⟩ := a
    have hm := hx _ ha
    simp only at hm ⊢
    cases hm with
    | fx h =>
      refine ve_call c_fixed (fx.bk _ q1) ?_
      refine va_cons ?_
      refine ve_name 1 ?_
      refine va_nil ?_
      refine ⟨a1, rfl, h, ?_⟩
      exact ⟨rfl, rfl⟩
    | @ref n l j xs hj hl' h =>
      refine ve_call c_fixedR (fx.bk _ q1) ?_
      refine va_cons ?_
      refine ve_name 1 ?_
      refine va_nil ?_
      refine ⟨l, j, xs, rfl, hj, hl', h, ?_⟩
      exact ⟨rfl, rfl⟩
  refine va_nil ?_
  rw [fm_map]
  refine wc_tup_l ?_
  exact ⟨μ, List.Sublist.refl _, q⟩
def S_PaperM (C : Addr) (n : Nat) : FSpec := fun ds μ P _ => ∃ (l : Addr) (j : Nat) (x : Str) (ps : List (D × D)), ds = [.ref l, .str x, .tup (ps.map (·.1))] ∧ μ[j]? = some (l, .ins C []) ∧ ps.length ≤ 1000 ∧ (∀ p ∈ ps, FxM μ (n + 1) p.1 p.2) ∧
  P .non (μ.set j (l, .ins C [("word", .str x), ("parts", .tup (ps.map (·.2)))]))
theorem ok_Paper_initM (F : FnQ K "__init__" "Paper.__init__" s_Paper_init [] f fd) (p : PapF K C) {n : Nat} (c_fixedT : Cal P w K mg base (n + 3) "fixed" (S_fixedT n) []) : FnR P w K mg base (L2.CX P w) (n + 4) f (spOf K (starS 2 (S_PaperM C n))) := by
  refine fn_starD (N := ["self", "word", "parts"]) (ps := ["self", "word"]) (pv := "parts") F sc_Paper_init (fun kV doc pm an cdv ct => StX.bind_star2 (B := fun us => bindArgs (PySem.W.fnOf "__init__" "Paper.__init__" (defArgs s_Paper_init) (defBody s_Paper_init) (defScope s_Paper_init) .none kV doc pm an cdv ct) ⟨us, []⟩) (fun _ _ => rfl) (fun _ _ _ _ => rfl)) fun cdv A outer s H E ds μ Q R => ?_
  intro X fx ow h
  obtain ⟨l, j, x, ps, rfl, hj, hl, hx, q⟩ := h
  refine vss_cons ?_
  refine vs_fld ?_
  refine ve_name 1 ?_ -- word
  refine ve_name 0 ?_ -- self
  refine ⟨_, _, _, _, rfl, hj, p.c, p.word, by decide, ?_⟩
  refine vss_one ?_
  refine vs_fld ?_
  refine ve_call c_fixedT fx ?_
  refine va_cons ?_
  refine ve_name 2 ?_ -- parts
  refine va_nil ?_
  refine ⟨ps, rfl, hl, fun q hq => (hx q hq).set hj, ?_⟩
  refine ve_name 0 ?_ -- self
  refine ⟨_, _, _, _, rfl, at_set hj, p.c, p.parts, (by (repeat refine putD_lt ?_); decide), ?_⟩
  rw [set_set']
  exact ⟨_, List.Sublist.refl _, q⟩
/-! ### the class Short of papers -/
abbrev s_Short33_init : Stmt := mth 5 0
def f_Short33 (e1 : D) : List (Str × D) := [("word", .str "short"), ("parts", .tup [e1]), ("grouping", e1)]
def d_Short33 (C : Addr) (e1 : D) : D := .ins C (f_Short33 e1)
def S_Short33 (C : Addr) (n : Nat) : FSpec := fun ds μ P _ => ∃ (l : Addr) (j : Nat) (d1 e1 : D), ds = [.ref l, d1] ∧ μ[j]? = some (l, .ins C []) ∧ FxM μ (n + 1) d1 e1 ∧ P .non (μ.set j (l, .ins C (f_Short33 e1)))
structure Short33F (K : PySem.W.Frag) (mg : Str → Option Value) (C : Addr) : Prop where
  cls : ClsF K mg "Short" C
  pap : PapF K C
  grouping_ : NoAttr K C "grouping"
theorem sc_Short33_init : NScope ["self", "grouping", "__class__"] ["self", "grouping"] ["__class__"] (defScope s_Short33_init) := nscope_by (by decide +kernel)
theorem ks_Short33_init : (defScope s_Short33_init).names.lookup ("super" : Str) = some .globalImplicit := by decide +kernel
theorem ok_Short33_init {P : Program} {w : World} {K : PySem.W.Frag} {mg : Str → Option Value} {base : Heap} {f C : Addr} {f2 cc cd : Addr} {n : Nat} (U : L2.SupF P K mg f (nfOf "Short.__init__" s_Short33_init cc cd) C f2 cc) (wf : Short33F K mg C) (F2 : FnR P w K mg base (L2.CX P w) (n + 4) f2 (spOf K (starS 2 (S_PaperM C n)))) : FnR P w K mg base (L2.CX P w) (n + 5) f (spOf K (S_Short33 C n)) := by
  refine fn_superD (N := ["self", "grouping", "__class__"]) (ps := ["grouping"]) (self := "self") U rfl sc_Short33_init ks_Short33_init rfl (fun doc pm ctv us hl => match us, hl with | [_, _], _ => rfl) F2 (fun L => rfl) (fun L => rfl) (fun L => rfl) (fun L => ⟨_, rfl⟩) fun A outer s H E ds μ Q R => ?_
  intro X fx ow h
  obtain ⟨l, j, d1, e1, rfl, hj, hd1, q⟩ := h
  refine ⟨l, [d1], [], j, rfl, rfl, hj, ?_⟩
  refine va_cons ?_
  refine ve_str ?_
  refine va_cons ?_
  refine ve_name 1 ?_
  refine va_nil ?_
  refine ⟨[.ref l, .str "short"], [d1], rfl, rfl, by simp, l, j, _, [(d1, e1)], rfl, hj, by simp, fun d hd => ?_, ?_⟩
  · simp at hd
    rw [hd]; exact hd1
  refine vss_one ?_
  refine vs_fld ?_
  refine ve_ix fx.kx.u1 ?_
  refine ve_fld ?_
  refine ve_name 0 ?_
  refine ⟨_, fld_mu (at_set hj) wf.cls.c wf.pap.parts rfl, ?_⟩
  refine ve_int ?_
  refine wop_ix_tup (d := e1) (atI_at 0 rfl rfl) ?_
  refine ve_name 0 ?_
  refine ⟨_, _, _, _, rfl, at_set hj, wf.cls.c, wf.grouping_, by simp, ?_⟩
  rw [set_set']
  exact ⟨_, List.Sublist.refl _, q⟩
theorem ve_Short33 {X : Cx} {Z : Wish} {δ : VL.Env} {μ : Store} {k j n : Nat} {C : Addr} {e : Expr} {es : List Expr} {p pos : Pos} {P : D → Store → Prop} (c : MakR X.prog X.w X.K X.mg X.base k "Short" C (S_Short33 C n)) (fx : Fx X Z j)
    (h : VA X Z (e :: es) δ μ fun xs μ1 => ∃ d1 e1 : D, xs = [d1] ∧ FxM μ1 (n + 1) d1 e1 ∧ P (d_Short33 C e1) μ1)
    (hk : k + 1 ≤ j := by first | assumption | decide | omega) (hg : Gl X "Short" := by rfl)
    (he : starEach (e :: es) X.env = (false, eval e X.env) :: starEach es X.env := by rfl) (hpl : (backTo pos (starEach es X.env)).any (·.1) = false := by rfl) :
    VE X Z (.Call (.Name "Short" p) (e :: es) [] pos) δ μ P := by
  refine ve_frzI (ve_makeR c fx (WA.imp h fun xs μ1 ⟨d1, e1, ex, hd1, q⟩ l => ?_) hk hg (by decide) he hpl)
  subst ex
  refine ⟨l, μ1.length, d1, e1, rfl, at_end, hd1.app, rfl, μ1.length, l, C, _, rfl, at_set at_end, ?_⟩
  rw [set_end, del_end]
  exact q
/-! ### the class Directions of papers -/
abbrev s_Directions_init : Stmt := mth 7 0
def f_Directions (e1 e2 : D) : List (Str × D) := [("word", .str "directions"), ("parts", .tup [e1, e2]), ("root", e1), ("heads", e2)]
def d_Directions (C : Addr) (e1 e2 : D) : D := .ins C (f_Directions e1 e2)
def S_Directions (C : Addr) (n : Nat) : FSpec := fun ds μ P _ => ∃ (l : Addr) (j : Nat) (d1 d2 e1 e2 : D), ds = [.ref l, d1, d2] ∧ μ[j]? = some (l, .ins C []) ∧ FxM μ (n + 1) d1 e1 ∧ FxM μ (n + 1) d2 e2 ∧ P .non (μ.set j (l, .ins C (f_Directions e1 e2)))
structure DirectionsF (K : PySem.W.Frag) (mg : Str → Option Value) (C : Addr) : Prop where
  cls : ClsF K mg "Directions" C
  pap : PapF K C
  root_ : NoAttr K C "root"
  heads_ : NoAttr K C "heads"
theorem sc_Directions_init : NScope ["self", "root", "heads", "__class__"] ["self", "root", "heads"] ["__class__"] (defScope s_Directions_init) := nscope_by (by decide +kernel)
theorem ks_Directions_init : (defScope s_Directions_init).names.lookup ("super" : Str) = some .globalImplicit := by decide +kernel
theorem ok_Directions_init {P : Program} {w : World} {K : PySem.W.Frag} {mg : Str → Option Value} {base : Heap} {f C : Addr} {f2 cc cd : Addr} {n : Nat} (U : L2.SupF P K mg f (nfOf "Directions.__init__" s_Directions_init cc cd) C f2 cc) (wf : DirectionsF K mg C) (F2 : FnR P w K mg base (L2.CX P w) (n + 4) f2 (spOf K (starS 2 (S_PaperM C n)))) : FnR P w K mg base (L2.CX P w) (n + 5) f (spOf K (S_Directions C n)) := by
  refine fn_superD (N := ["self", "root", "heads", "__class__"]) (ps := ["root", "heads"]) (self := "self") U rfl sc_Directions_init ks_Directions_init rfl (fun doc pm ctv us hl => match us, hl with | [_, _, _], _ => rfl) F2 (fun L => rfl) (fun L => rfl) (fun L => rfl) (fun L => ⟨_, rfl⟩) fun A outer s H E ds μ Q R => ?_
  intro X fx ow h
  obtain ⟨l, j, d1, d2, e1, e2, rfl, hj, hd1, hd2, q⟩ := h
  refine ⟨l, [d1, d2], [], j, rfl, rfl, hj, ?_⟩
  refine va_cons ?_
  refine ve_str ?_
  refine va_cons ?_
  refine ve_name 1 ?_
  refine va_cons ?_
  refine ve_name 2 ?_
  refine va_nil ?_
  refine ⟨[.ref l, .str "directions"], [d1, d2], rfl, rfl, by simp, l, j, _, [(d1, e1), (d2, e2)], rfl, hj, by simp, fun d hd => ?_, ?_⟩
  · simp at hd
    rcases hd with rfl | rfl
    · exact hd1
    · exact hd2
  refine vss_one ?_
  refine vs_asg (js := []) ?_
  refine ve_fld ?_
  refine ve_name 0 ?_
  refine ⟨_, fld_mu (at_set hj) wf.cls.c wf.pap.parts rfl, ?_⟩
  refine vg_tup (ds := [e1, e2]) fx.kx ?_
  refine vgs_cons (js := []) (ks := []) ?_
  refine vg_fld ?_
  refine ve_name 0 ?_
  refine ⟨_, _, _, _, rfl, at_set hj, wf.cls.c, wf.root_, by simp, ?_⟩
  rw [set_set']
  refine vgs_cons (js := []) (ks := []) ?_
  refine vg_fld ?_
  refine ve_name 0 ?_
  refine ⟨_, _, _, _, rfl, at_set hj, wf.cls.c, wf.heads_, (by (repeat refine putD_lt ?_); simp), ?_⟩
  rw [set_set']
  refine vgs_nil ?_
  exact ⟨_, List.Sublist.refl _, q⟩
theorem ve_Directions {X : Cx} {Z : Wish} {δ : VL.Env} {μ : Store} {k j n : Nat} {C : Addr} {e : Expr} {es : List Expr} {p pos : Pos} {P : D → Store → Prop} (c : MakR X.prog X.w X.K X.mg X.base k "Directions" C (S_Directions C n)) (fx : Fx X Z j)
    (h : VA X Z (e :: es) δ μ fun xs μ1 => ∃ d1 d2 e1 e2 : D, xs = [d1, d2] ∧ FxM μ1 (n + 1) d1 e1 ∧ FxM μ1 (n + 1) d2 e2 ∧ P (d_Directions C e1 e2) μ1)
    (hk : k + 1 ≤ j := by first | assumption | decide | omega) (hg : Gl X "Directions" := by rfl)
    (he : starEach (e :: es) X.env = (false, eval e X.env) :: starEach es X.env := by rfl) (hpl : (backTo pos (starEach es X.env)).any (·.1) = false := by rfl) :
    VE X Z (.Call (.Name "Directions" p) (e :: es) [] pos) δ μ P := by
  refine ve_frzI (ve_makeR c fx (WA.imp h fun xs μ1 ⟨d1, d2, e1, e2, ex, hd1, hd2, q⟩ l => ?_) hk hg (by decide) he hpl)
  subst ex
  refine ⟨l, μ1.length, d1, d2, e1, e2, rfl, at_end, hd1.app, hd2.app, rfl, μ1.length, l, C, _, rfl, at_set at_end, ?_⟩
  rw [set_end, del_end]
  exact q
def mk_Directions (us : List Value) : Args := ⟨us.take 1, [("heads" : Str), "root"].zip (pickL [2, 1] us)⟩
theorem ok_Directions_initK {P : Program} {w : World} {K : PySem.W.Frag} {mg : Str → Option Value} {base : Heap} {f C : Addr} {f2 cc cd : Addr} {n : Nat} (U : L2.SupF P K mg f (nfOf "Directions.__init__" s_Directions_init cc cd) C f2 cc) (wf : DirectionsF K mg C) (F2 : FnR P w K mg base (L2.CX P w) (n + 4) f2 (spOf K (starS 2 (S_PaperM C n)))) : FnRM P w K mg base (L2.CX P w) (n + 5) f mk_Directions (spOf K (S_Directions C n)) := by
  refine fn_superDM (mk := mk_Directions) (N := ["self", "root", "heads", "__class__"]) (ps := ["root", "heads"]) (self := "self") U rfl sc_Directions_init ks_Directions_init rfl (fun doc pm ctv us hl => match us, hl with | [_, _, _], _ => rfl) F2 (fun L => rfl) (fun L => rfl) (fun L => rfl) (fun L => ⟨_, rfl⟩) fun A outer s H E ds μ Q R => ?_
  intro X fx ow h
  obtain ⟨l, j, d1, d2, e1, e2, rfl, hj, hd1, hd2, q⟩ := h
  refine ⟨l, [d1, d2], [], j, rfl, rfl, hj, ?_⟩
  refine va_cons ?_
  refine ve_str ?_
  refine va_cons ?_
  refine ve_name 1 ?_
  refine va_cons ?_
  refine ve_name 2 ?_
  refine va_nil ?_
  refine ⟨[.ref l, .str "directions"], [d1, d2], rfl, rfl, by simp, l, j, _, [(d1, e1), (d2, e2)], rfl, hj, by simp, fun d hd => ?_, ?_⟩
  · simp at hd
    rcases hd with rfl | rfl
    · exact hd1
    · exact hd2
  refine vss_one ?_
  refine vs_asg (js := []) ?_
  refine ve_fld ?_
  refine ve_name 0 ?_
  refine ⟨_, fld_mu (at_set hj) wf.cls.c wf.pap.parts rfl, ?_⟩
  refine vg_tup (ds := [e1, e2]) fx.kx ?_
  refine vgs_cons (js := []) (ks := []) ?_
  refine vg_fld ?_
  refine ve_name 0 ?_
  refine ⟨_, _, _, _, rfl, at_set hj, wf.cls.c, wf.root_, by simp, ?_⟩
  rw [set_set']
  refine vgs_cons (js := []) (ks := []) ?_
  refine vg_fld ?_
  refine ve_name 0 ?_
  refine ⟨_, _, _, _, rfl, at_set hj, wf.cls.c, wf.heads_, (by (repeat refine putD_lt ?_); simp), ?_⟩
  rw [set_set']
  refine vgs_nil ?_
  exact ⟨_, List.Sublist.refl _, q⟩
theorem ve_DirectionsK {X : Cx} {Z : Wish} {δ : VL.Env} {μ : Store} {k j n : Nat} {C : Addr} {kws : List Keyword} {p pos : Pos} {P : D → Store → Prop} (c : MakRK X.prog X.w X.K X.mg X.base k "Directions" C (S_Directions C n) ["heads", "root"] [1, 0]) (fx : Fx X Z j)
    (h : VKw X Z kws δ μ fun xs μ1 => ∃ d1 d2 e1 e2 : D, xs = [d2, d1] ∧ FxM μ1 (n + 1) d1 e1 ∧ FxM μ1 (n + 1) d2 e2 ∧ P (d_Directions C e1 e2) μ1)
    (hk : k + 1 ≤ j := by first | assumption | decide | omega) (hg : Gl X "Directions" := by rfl)
    (hall : (backToKw pos (keywordEach kws X.env)).all (·.1.isSome) = true := by rfl) (hks : (backToKw pos (keywordEach kws X.env)).filterMap (·.1) = [("heads" : Str), "root"] := by rfl)
    (hpl : ((backTo pos (starEach [] X.env)).any (·.1) || (backToKw pos (keywordEach kws X.env)).any (·.1.isNone)) = false := by rfl) :
    VE X Z (.Call (.Name "Directions" p) [] kws pos) δ μ P := by
  refine ve_frzI (ve_makeRK c fx (WA.imp h fun xs μ1 ⟨d1, d2, e1, e2, ex, h1, h2, q⟩ => ⟨by rw [ex]; rfl, fun l => ?_⟩) hk hg hall hks (by decide) hpl)
  subst ex
  refine ⟨l, μ1.length, d1, d2, e1, e2, rfl, at_end, h1.app, h2.app, rfl, μ1.length, l, C, _, rfl, at_set at_end, ?_⟩
  rw [set_end, del_end]
  exact q
/-! ### the class Hoist of papers -/
abbrev s_Hoist_init : Stmt := mth 9 0
def f_Hoist (e1 e2 : D) : List (Str × D) := [("word", .str "hoist"), ("parts", .tup [e1, e2]), ("first", e1), ("steps", e2)]
def d_Hoist (C : Addr) (e1 e2 : D) : D := .ins C (f_Hoist e1 e2)
def S_Hoist (C : Addr) (n : Nat) : FSpec := fun ds μ P _ => ∃ (l : Addr) (j : Nat) (d1 d2 e1 e2 : D), ds = [.ref l, d1, d2] ∧ μ[j]? = some (l, .ins C []) ∧ FxM μ (n + 1) d1 e1 ∧ FxM μ (n + 1) d2 e2 ∧ P .non (μ.set j (l, .ins C (f_Hoist e1 e2)))
structure HoistF (K : PySem.W.Frag) (mg : Str → Option Value) (C : Addr) : Prop where
  cls : ClsF K mg "Hoist" C
  pap : PapF K C
  first_ : NoAttr K C "first"
  steps_ : NoAttr K C "steps"
theorem sc_Hoist_init : NScope ["self", "first", "steps", "__class__"] ["self", "first", "steps"] ["__class__"] (defScope s_Hoist_init) := nscope_by (by decide +kernel)
theorem ks_Hoist_init : (defScope s_Hoist_init).names.lookup ("super" : Str) = some .globalImplicit := by decide +kernel
theorem ok_Hoist_init {P : Program} {w : World} {K : PySem.W.Frag} {mg : Str → Option Value} {base : Heap} {f C : Addr} {f2 cc cd : Addr} {n : Nat} (U : L2.SupF P K mg f (nfOf "Hoist.__init__" s_Hoist_init cc cd) C f2 cc) (wf : HoistF K mg C) (F2 : FnR P w K mg base (L2.CX P w) (n + 4) f2 (spOf K (starS 2 (S_PaperM C n)))) : FnR P w K mg base (L2.CX P w) (n + 5) f (spOf K (S_Hoist C n)) := by
  refine fn_superD (N := ["self", "first", "steps", "__class__"]) (ps := ["first", "steps"]) (self := "self") U rfl sc_Hoist_init ks_Hoist_init rfl (fun doc pm ctv us hl => match us, hl with | [_, _, _], _ => rfl) F2 (fun L => rfl) (fun L => rfl) (fun L => rfl) (fun L => ⟨_, rfl⟩) fun A outer s H E ds μ Q R => ?_
  intro X fx ow h
  obtain ⟨l, j, d1, d2, e1, e2, rfl, hj, hd1, hd2, q⟩ := h
  refine ⟨l, [d1, d2], [], j, rfl, rfl, hj, ?_⟩
  refine va_cons ?_
  refine ve_str ?_
  refine va_cons ?_
  refine ve_name 1 ?_
  refine va_cons ?_
  refine ve_name 2 ?_
  refine va_nil ?_
  refine ⟨[.ref l, .str "hoist"], [d1, d2], rfl, rfl, by simp, l, j, _, [(d1, e1), (d2, e2)], rfl, hj, by simp, fun d hd => ?_, ?_⟩
  · simp at hd
    rcases hd with rfl | rfl
    · exact hd1
    · exact hd2
  refine vss_one ?_
  refine vs_asg (js := []) ?_
  refine ve_fld ?_
  refine ve_name 0 ?_
  refine ⟨_, fld_mu (at_set hj) wf.cls.c wf.pap.parts rfl, ?_⟩
  refine vg_tup (ds := [e1, e2]) fx.kx ?_
  refine vgs_cons (js := []) (ks := []) ?_
  refine vg_fld ?_
  refine ve_name 0 ?_
  refine ⟨_, _, _, _, rfl, at_set hj, wf.cls.c, wf.first_, by simp, ?_⟩
  rw [set_set']
  refine vgs_cons (js := []) (ks := []) ?_
  refine vg_fld ?_
  refine ve_name 0 ?_
  refine ⟨_, _, _, _, rfl, at_set hj, wf.cls.c, wf.steps_, (by (repeat refine putD_lt ?_); simp), ?_⟩
  rw [set_set']
  refine vgs_nil ?_
  exact ⟨_, List.Sublist.refl _, q⟩
theorem ve_Hoist {X : Cx} {Z : Wish} {δ : VL.Env} {μ : Store} {k j n : Nat} {C : Addr} {e : Expr} {es : List Expr} {p pos : Pos} {P : D → Store → Prop} (c : MakR X.prog X.w X.K X.mg X.base k "Hoist" C (S_Hoist C n)) (fx : Fx X Z j)
    (h : VA X Z (e :: es) δ μ fun xs μ1 => ∃ d1 d2 e1 e2 : D, xs = [d1, d2] ∧ FxM μ1 (n + 1) d1 e1 ∧ FxM μ1 (n + 1) d2 e2 ∧ P (d_Hoist C e1 e2) μ1)
    (hk : k + 1 ≤ j := by first | assumption | decide | omega) (hg : Gl X "Hoist" := by rfl)
    (he : starEach (e :: es) X.env = (false, eval e X.env) :: starEach es X.env := by rfl) (hpl : (backTo pos (starEach es X.env)).any (·.1) = false := by rfl) :
    VE X Z (.Call (.Name "Hoist" p) (e :: es) [] pos) δ μ P := by
  refine ve_frzI (ve_makeR c fx (WA.imp h fun xs μ1 ⟨d1, d2, e1, e2, ex, hd1, hd2, q⟩ l => ?_) hk hg (by decide) he hpl)
  subst ex
  refine ⟨l, μ1.length, d1, d2, e1, e2, rfl, at_end, hd1.app, hd2.app, rfl, μ1.length, l, C, _, rfl, at_set at_end, ?_⟩
  rw [set_end, del_end]
  exact q
def mk_Hoist (us : List Value) : Args := ⟨us.take 1, [("steps" : Str), "first"].zip (pickL [2, 1] us)⟩
theorem ok_Hoist_initK {P : Program} {w : World} {K : PySem.W.Frag} {mg : Str → Option Value} {base : Heap} {f C : Addr} {f2 cc cd : Addr} {n : Nat} (U : L2.SupF P K mg f (nfOf "Hoist.__init__" s_Hoist_init cc cd) C f2 cc) (wf : HoistF K mg C) (F2 : FnR P w K mg base (L2.CX P w) (n + 4) f2 (spOf K (starS 2 (S_PaperM C n)))) : FnRM P w K mg base (L2.CX P w) (n + 5) f mk_Hoist (spOf K (S_Hoist C n)) := by
  refine fn_superDM (mk := mk_Hoist) (N := ["self", "first", "steps", "__class__"]) (ps := ["first", "steps"]) (self := "self") U rfl sc_Hoist_init ks_Hoist_init rfl (fun doc pm ctv us hl => match us, hl with | [_, _, _], _ => rfl) F2 (fun L => rfl) (fun L => rfl) (fun L => rfl) (fun L => ⟨_, rfl⟩) fun A outer s H E ds μ Q R => ?_
  intro X fx ow h
  obtain ⟨l, j, d1, d2, e1, e2, rfl, hj, hd1, hd2, q⟩ := h
  refine ⟨l, [d1, d2], [], j, rfl, rfl, hj, ?_⟩
  refine va_cons ?_
  refine ve_str ?_
  refine va_cons ?_
  refine ve_name 1 ?_
  refine va_cons ?_
  refine ve_name 2 ?_
  refine va_nil ?_
  refine ⟨[.ref l, .str "hoist"], [d1, d2], rfl, rfl, by simp, l, j, _, [(d1, e1), (d2, e2)], rfl, hj, by simp, fun d hd => ?_, ?_⟩
  · simp at hd
    rcases hd with rfl | rfl
    · exact hd1
    · exact hd2
  refine vss_one ?_
  refine vs_asg (js := []) ?_
  refine ve_fld ?_
  refine ve_name 0 ?_
  refine ⟨_, fld_mu (at_set hj) wf.cls.c wf.pap.parts rfl, ?_⟩
  refine vg_tup (ds := [e1, e2]) fx.kx ?_
  refine vgs_cons (js := []) (ks := []) ?_
  refine vg_fld ?_
  refine ve_name 0 ?_
  refine ⟨_, _, _, _, rfl, at_set hj, wf.cls.c, wf.first_, by simp, ?_⟩
  rw [set_set']
  refine vgs_cons (js := []) (ks := []) ?_
  refine vg_fld ?_
  refine ve_name 0 ?_
  refine ⟨_, _, _, _, rfl, at_set hj, wf.cls.c, wf.steps_, (by (repeat refine putD_lt ?_); simp), ?_⟩
  rw [set_set']
  refine vgs_nil ?_
  exact ⟨_, List.Sublist.refl _, q⟩
theorem ve_HoistK {X : Cx} {Z : Wish} {δ : VL.Env} {μ : Store} {k j n : Nat} {C : Addr} {kws : List Keyword} {p pos : Pos} {P : D → Store → Prop} (c : MakRK X.prog X.w X.K X.mg X.base k "Hoist" C (S_Hoist C n) ["steps", "first"] [1, 0]) (fx : Fx X Z j)
    (h : VKw X Z kws δ μ fun xs μ1 => ∃ d1 d2 e1 e2 : D, xs = [d2, d1] ∧ FxM μ1 (n + 1) d1 e1 ∧ FxM μ1 (n + 1) d2 e2 ∧ P (d_Hoist C e1 e2) μ1)
    (hk : k + 1 ≤ j := by first | assumption | decide | omega) (hg : Gl X "Hoist" := by rfl)
    (hall : (backToKw pos (keywordEach kws X.env)).all (·.1.isSome) = true := by rfl) (hks : (backToKw pos (keywordEach kws X.env)).filterMap (·.1) = [("steps" : Str), "first"] := by rfl)
    (hpl : ((backTo pos (starEach [] X.env)).any (·.1) || (backToKw pos (keywordEach kws X.env)).any (·.1.isNone)) = false := by rfl) :
    VE X Z (.Call (.Name "Hoist" p) [] kws pos) δ μ P := by
  refine ve_frzI (ve_makeRK c fx (WA.imp h fun xs μ1 ⟨d1, d2, e1, e2, ex, h1, h2, q⟩ => ⟨by rw [ex]; rfl, fun l => ?_⟩) hk hg hall hks (by decide) hpl)
  subst ex
  refine ⟨l, μ1.length, d1, d2, e1, e2, rfl, at_end, h1.app, h2.app, rfl, μ1.length, l, C, _, rfl, at_set at_end, ?_⟩
  rw [set_end, del_end]
  exact q
end
end VK
set_option Elab.async false
set_option linter.all false
set_option maxRecDepth 100000
set_option maxHeartbeats 4000000
/-! KX: what draws. -/
namespace VK
open PySem PySem.Spec PyProof.Rows L2 VL
def penO (cs : List Int) (a : Nat) (big : Int) : MO := .lst [.lst (cs.map D.int), .int (a : Nat), .int big]
theorem mod_k (x : Int) {many : Nat} (h : 1 ≤ many) : ∃ k : Nat, k < many ∧ x % (many : Int) = (k : Int) := by
  have h1 := Int.emod_nonneg x (b := (many : Int)) (by omega)
  have h2 := Int.emod_lt_of_pos x (b := (many : Int)) (by omega)
  exact ⟨(x % (many : Int)).toNat, by omega, by omega⟩
theorem pow_ok {b : Int} {a : Nat} (h0 : 0 ≤ b) (h1 : b < 2147483629) (h2 : a ≤ 90000) : (b * (2 * (a : Int) + 295) + 30727 * (a : Int) * (a : Int) + 29).natAbs < 2 ^ 64 := by
  have e1 : b * (2 * (a : Int) + 295) ≤ 2147483629 * 180295 := Int.mul_le_mul (by omega) (by omega) (by omega) (by omega)
  have e2 : 0 ≤ b * (2 * (a : Int) + 295) := Int.mul_nonneg h0 (by omega)
  have e3 : 30727 * (a : Int) * (a : Int) ≤ 2765430000 * 90000 := Int.mul_le_mul (by omega) (by omega) (by omega) (by omega)
  have e4 : 0 ≤ 30727 * (a : Int) * (a : Int) := Int.mul_nonneg (by omega) (by omega)
  omega
theorem cut63 {xs : List D} : VL.cutD xs none (some 63) = xs.take 63 := by
  by_cases h : 63 ≤ xs.length
  · exact cutD_to (i := 63) h
  · rw [List.take_of_length_le (by omega)]
    unfold VL.cutD
    have e0 : HT.sIx xs.length 0 none = 0 := rfl
    have e1 : xs.length ≤ HT.sIx xs.length xs.length (some 63) := by
      simp only [HT.sIx]
      split <;> omega
    rw [e0, List.drop_zero, List.take_of_length_le (by omega)]
theorem eqv_nil {cs : List Int} : eqv (.lst (cs.map D.int)) (.lst []) = decide (cs = []) := by
  unfold eqv
  rw [toPy, toPy, PyData.eqv]
  cases cs <;> simp [toPys, PyData.eqvAll]
section
variable {P : Program} {w : World} {K : PySem.W.Frag} {mg : Str → Option Value} {base : Heap} {f : Addr} {fd : FuncData}
abbrev s_law_pen : Stmt := top 11
def S_law_pen : FSpec := fun ds μ P _ => ∃ ns : List Int, ds = [.scr (ns.map D.int)] ∧ ∀ l cs, cs.length ≤ 63 → P (.ref l) (μ ++ [(l, penO cs 0 0)])
theorem sc_law_pen : FnScope ["script", "cell"] ["script"] (defScope s_law_pen) := ⟨rfl, rfl, rfl, by decide +kernel, rfl, by decide +kernel, by decide +kernel⟩
theorem ok_law_pen (F : FnP K "_law_pen" s_law_pen f fd) (b : Bi mg) : FnOk P w K mg base (L2.CX P w) 1 f fd ["script"] (spOf K S_law_pen) := by
  refine fn_ok F sc_law_pen (fun ds μ P R ⟨_, e, _⟩ => by subst e; rfl) fun cdv A outer s H E ds μ Q R => ?_
  intro X fx ow h
  obtain ⟨ns, rfl, q⟩ := h
  refine vss_one ?_
  refine vs_ret ?_
  refine ve_lstM ?_
  refine va_cons ?_
  refine ve_lcF (α := Int) (js := [1]) [("cell", 1)] fx.kx ?_
  refine vi_lst ?_
  refine ve_slice ?_
  refine ve_name 0 ?_ -- script
  refine vo_none ?_
  refine vo_some ?_
  refine ve_int ?_
  refine ⟨_, rfl, ?_⟩
  refine wsl_scr ?_
  refine ⟨_, rfl, ?_⟩
  refine ⟨ns.take 63, D.int, fun n => some (.int n), ?_, ?_, fun a ha q1 => ?_, ?_⟩
  · rw [List.map_take, cut63]
  · rw [List.length_take]; omega
  · refine vg_name 1 (fx.bk _ q1).kx ?_ -- cell
    intro q1
    refine vif_nil ?_
    simp only [if_true]
    intro q1
    refine ve_cty call_int1 b.int boot_int ?_
    refine va_cons ?_
    refine ve_name 1 ?_ -- cell
    refine va_nil ?_
    refine wc_int ?_
    exact ⟨rfl, rfl⟩
  rw [fm_map]
  refine va_cons ?_
  refine ve_int ?_
  refine va_cons ?_
  refine ve_int ?_
  refine va_nil ?_
  refine ⟨by simp, fun l => ?_⟩
  exact ⟨_, List.Sublist.refl _, q l (ns.take 63) (by rw [List.length_take]; omega)⟩
abbrev s_law_draw : Stmt := top 12
def S_law_draw : FSpec := fun ds μ P _ => ∃ (l : Addr) (j : Nat) (cs : List Int) (a : Nat) (big : Int) (many : Nat), ds = [.ref l, .int (many : Nat)] ∧ μ[j]? = some (l, penO cs a big) ∧ cs.length ≤ 63 ∧ a ≤ 90000 ∧ 1 ≤ many ∧ many ≤ 1000000 ∧
  ∀ (k a' : Nat) (big' : Int), k < many → a' ≤ a + 1 → P (.int (k : Nat)) (μ.set j (l, penO cs a' big'))
theorem sc_law_draw : FnScope ["pen", "many", "at", "cell", "mixed", "digit", "great"] ["pen", "many"] (defScope s_law_draw) := ⟨rfl, rfl, rfl, by decide +kernel, rfl, by decide +kernel, by decide +kernel⟩
theorem ok_law_draw (F : FnP K "_law_draw" s_law_draw f fd) (b : Bi mg) : FnOk P w K mg base (L2.CX P w) 1 f fd ["pen", "many"] (spOf K S_law_draw) := by
  refine fn_ok F sc_law_draw (fun ds μ P R ⟨_, _, _, _, _, _, e, _⟩ => by subst e; rfl) fun cdv A outer s H E ds μ Q R => ?_
  intro X fx ow h
  obtain ⟨l, j, cs, a, big, many, rfl, hj, hc, ha, hm1, hm2, q⟩ := h
  refine vss_cons ?_
  refine vs_if ?_
  refine vt_cmp .gt ?_
  refine ve_ix fx.kx.u1 ?_
  refine ve_name 0 ?_ -- pen
  refine ve_int ?_
  refine wop_ix_mut hj (d := .int big) (atI_at 2 rfl rfl) ?_
  refine ve_int ?_
  refine wop_gtI ?_
  refine ⟨_, rfl, ?_⟩
  refine ⟨fun hk => ?_, fun hk => ?_⟩
  · refine vss_cons ?_
    refine vs_set 5 fx.kx ?_ -- digit
    refine ve_mod ?_
    refine ve_cty call_int1 b.int boot_int ?_
    refine va_cons ?_
    refine ve_ix fx.kx.u1 ?_
    refine ve_name 0 ?_ -- pen
    refine ve_int ?_
    refine wop_ix_mut hj (d := .int big) (atI_at 2 rfl rfl) ?_
    refine va_nil ?_
    refine wc_int ?_
    refine ve_name 1 ?_ -- many
    refine wop_modI (by omega) ?_
    obtain ⟨k, hk1, hk2⟩ := mod_k big hm1
    rw [hk2]
    refine vss_cons ?_
    refine vs_asg (js := []) ?_
    refine ve_fdiv ?_
    refine ve_cty call_int1 b.int boot_int ?_
    refine va_cons ?_
    refine ve_ix fx.kx.u1 ?_
    refine ve_name 0 ?_ -- pen
    refine ve_int ?_
    refine wop_ix_mut hj (d := .int big) (atI_at 2 rfl rfl) ?_
    refine va_nil ?_
    refine wc_int ?_
    refine ve_name 1 ?_ -- many
    refine wop_fdivI ⟨by omega, by omega⟩ ?_
    refine vg_setL ?_
    refine ve_name 0 ?_ -- pen
    refine ve_int ?_
    refine ⟨_, _, _, _, _, rfl, rfl, hj, ixN_at 2 rfl (by simp), ?_⟩
    refine vss_one ?_
    refine vs_ret ?_
    refine ve_name 5 ?_ -- digit
    exact ⟨_, List.Sublist.refl _, q k a (big / (many : Int)) hk1 (by omega)⟩
  · refine vss_nil ?_
    refine vss_cons ?_
    refine vs_set 2 fx.kx ?_ -- at
    refine ve_ix fx.kx.u1 ?_
    refine ve_name 0 ?_ -- pen
    refine ve_int ?_
    refine wop_ix_mut hj (d := .int (a : Nat)) (atI_at 1 rfl rfl) ?_
    refine vss_cons ?_
    refine vs_asg (js := []) ?_
    refine ve_add ?_
    refine ve_name 2 ?_ -- at
    refine ve_int ?_
    refine wop_add_int ?_
    rw [show ((a : Nat) : Int) + 1 = ((a + 1 : Nat) : Int) by omega]
    refine vg_setL ?_
    refine ve_name 0 ?_ -- pen
    refine ve_int ?_
    refine ⟨_, _, _, _, _, rfl, rfl, hj, ixN_at 1 rfl (by simp), ?_⟩
    have hj1 : (μ.set j (l, penO cs (a + 1) big))[j]? = some (l, penO cs (a + 1) big) := at_set hj
    show VSs X _ _ _ (μ.set j (l, penO cs (a + 1) big)) _
    refine vss_cons ?_
    refine vs_set 3 fx.kx ?_ -- cell
    refine ve_add ?_
    refine ve_mul ?_
    refine ve_int ?_
    refine ve_name 2 ?_ -- at
    refine wop_mul_int (by unfold CMul; omega) ?_
    refine ve_int ?_
    refine wop_add_int ?_
    refine vss_cons ?_
    refine WS.imp (P := fun f μ2 => ∃ c : Int, f = .nx [some (.ref l), some (.int (many : Nat)), some (.int (a : Nat)), some (.int c), none, none, none] ∧ μ2 = μ.set j (l, penO cs (a + 1) big)) ?_ ?_
    · refine vs_if ?_
      refine vt_cmp (.ne fx.kx.u64) ?_
      refine ve_ix fx.kx.u1 ?_
      refine ve_name 0 ?_ -- pen
      refine ve_int ?_
      refine wop_ix_mut hj1 (d := .lst (cs.map D.int)) (atI_at 0 rfl rfl) ?_
      refine ve_lst ?_
      refine va_nil ?_
      refine ⟨by simp, ?_⟩
      refine wop_ne ?_ rfl ?_
      · rw [okD, okDs_iff]
        intro x hx
        obtain ⟨n, _, rfl⟩ := List.mem_map.mp hx
        rfl
      refine ⟨_, rfl, ?_⟩
      refine ⟨fun hk => ?_, fun hk => ?_⟩
      · have hne : cs ≠ [] := by
          intro e
          rw [eqv_nil, e] at hk
          simp at hk
        have hlen : 1 ≤ cs.length := List.length_pos_iff.mpr hne
        refine vss_one ?_
        refine vs_set 3 fx.kx ?_ -- cell
        refine ve_ix fx.kx.u1 ?_
        refine ve_ix fx.kx.u1 ?_
        refine ve_name 0 ?_ -- pen
        refine ve_int ?_
        refine wop_ix_mut hj1 (d := .lst (cs.map D.int)) (atI_at 0 rfl rfl) ?_
        refine ve_mod ?_
        refine ve_cty call_int1 b.int boot_int ?_
        refine va_cons ?_
        refine ve_name 2 ?_ -- at
        refine va_nil ?_
        refine wc_int ?_
        refine ve_cb call_lenA b.len boot_len ?_
        refine va_cons ?_
        refine ve_ix fx.kx.u1 ?_
        refine ve_name 0 ?_ -- pen
        refine ve_int ?_
        refine wop_ix_mut hj1 (d := .lst (cs.map D.int)) (atI_at 0 rfl rfl) ?_
        refine va_nil ?_
        refine wc_len rfl ?_
        rw [List.length_map]
        refine wop_modI (by omega) ?_
        obtain ⟨i, hi1, hi2⟩ := mod_k (a : Int) hlen
        rw [hi2]
        refine wop_ix_lst (d := .int cs[i]) (atI_at i rfl (by rw [List.getElem?_map, List.getElem?_eq_getElem hi1]; rfl)) ?_
        exact ⟨_, rfl, rfl⟩
      · refine vss_nil ?_
        exact ⟨_, rfl, rfl⟩
    · rintro f μ2 ⟨c, rfl, rfl⟩
      refine vss_cons ?_
      refine vs_if ?_
      apply vt_and2
      · refine vt_cmp .lt ?_
        refine ve_name 2 ?_ -- at
        refine ve_cb call_lenA b.len boot_len ?_
        refine va_cons ?_
        refine ve_ix fx.kx.u1 ?_
        refine ve_name 0 ?_ -- pen
        refine ve_int ?_
        refine wop_ix_mut hj1 (d := .lst (cs.map D.int)) (atI_at 0 rfl rfl) ?_
        refine va_nil ?_
        refine wc_len rfl ?_
        refine wop_ltI ?_
        refine ⟨_, rfl, ?_⟩
        exact ⟨rfl, rfl⟩
      · intro hk
        refine vw_and1 ?_
        refine vt_cmp .ge ?_
        refine ve_cb call_abs b.abs boot_abs ?_
        refine va_cons ?_
        refine ve_name 3 ?_ -- cell
        refine va_nil ?_
        refine wc_abs ?_
        refine ve_pow ?_
        refine ve_int ?_
        refine ve_int ?_
        refine wop_powI ⟨by decide, by decide, by decide⟩ ?_
        refine wop_geI ?_
        refine ⟨_, rfl, ?_⟩
        exact ⟨rfl, rfl⟩
      refine ⟨fun hk => ?_, fun hk => ?_⟩
      · refine vss_cons ?_
        refine vs_set 6 fx.kx ?_ -- great
        refine ve_add ?_
        refine ve_mul ?_
        refine ve_int ?_
        refine ve_sub ?_
        refine ve_cb call_abs b.abs boot_abs ?_
        refine va_cons ?_
        refine ve_name 3 ?_ -- cell
        refine va_nil ?_
        refine wc_abs ?_
        refine ve_pow ?_
        refine ve_int ?_
        refine ve_int ?_
        refine wop_powI ⟨by decide, by decide, by decide⟩ ?_
        refine wop_subI ?_
        refine wop_mul_int (.inl (by decide)) ?_
        refine ve_cty call_int1 b.int boot_int ?_
        refine va_cons ?_
        refine ve_cmp .lt ?_
        refine ve_name 3 ?_ -- cell
        refine ve_int ?_
        refine wop_ltI ?_
        refine va_nil ?_
        refine wc_int_bl ?_
        refine wop_add_int ?_
        generalize (2 * ((if c < 0 then -c else c) - 10 ^ (18 : Int).toNat) + if decide (c < 0) = true then 1 else 0 : Int) = great
        refine vss_cons ?_
        refine vs_asg (js := []) ?_
        refine ve_fdiv ?_
        refine ve_cty call_int1 b.int boot_int ?_
        refine va_cons ?_
        refine ve_name 6 ?_ -- great
        refine va_nil ?_
        refine wc_int ?_
        refine ve_name 1 ?_ -- many
        refine wop_fdivI ⟨by omega, by omega⟩ ?_
        refine vg_setL ?_
        refine ve_name 0 ?_ -- pen
        refine ve_int ?_
        refine ⟨_, _, _, _, _, rfl, rfl, hj1, ixN_at 2 rfl (by simp), ?_⟩
        rw [set_set']
        refine vss_one ?_
        refine vs_ret ?_
        refine ve_mod ?_
        refine ve_cty call_int1 b.int boot_int ?_
        refine va_cons ?_
        refine ve_name 6 ?_ -- great
        refine va_nil ?_
        refine wc_int ?_
        refine ve_name 1 ?_ -- many
        refine wop_modI (by omega) ?_
        obtain ⟨k, hk1, hk2⟩ := mod_k great hm1
        rw [hk2]
        exact ⟨_, List.Sublist.refl _, q k (a + 1) (great / (many : Int)) hk1 (by omega)⟩
      · refine vss_nil ?_
        refine vss_cons ?_
        refine vs_set 4 fx.kx ?_ -- blend
        refine ve_mod ?_
        refine ve_cty call_int1 b.int boot_int ?_
        refine va_cons ?_
        refine ve_pow ?_
        refine ve_add ?_
        refine ve_add ?_
        refine ve_mod ?_
        refine ve_cty call_int1 b.int boot_int ?_
        refine va_cons ?_
        refine ve_name 3 ?_ -- cell
        refine va_nil ?_
        refine wc_int ?_
        refine ve_int ?_
        refine wop_modI (by omega) ?_
        refine ve_mul ?_
        refine ve_int ?_
        refine ve_name 2 ?_ -- at
        refine wop_mul_int (by unfold CMul; omega) ?_
        refine wop_add_int ?_
        refine ve_int ?_
        refine wop_add_int ?_
        refine ve_int ?_
        refine wop_powI ⟨by decide, by decide, by omega⟩ ?_
        refine va_nil ?_
        refine wc_int ?_
        refine ve_int ?_
        refine wop_modI (by omega) ?_
        obtain ⟨bl, hb1, hb2⟩ := mod_k ((c % 2147483563 + 51467 * (a : Int) + 697) ^ (3 : Int).toNat) (many := 2147483629) (by decide)
        rw [show ((2147483629 : Nat) : Int) = 2147483629 from rfl] at hb2
        rw [hb2]
        refine vss_cons ?_
        refine vs_set 4 fx.kx ?_ -- blend
        refine ve_mod ?_
        refine ve_cty call_int1 b.int boot_int ?_
        refine va_cons ?_
        refine ve_pow ?_
        refine ve_add ?_
        refine ve_add ?_
        refine ve_mul ?_
        refine ve_name 4 ?_ -- blend
        refine ve_add ?_
        refine ve_mul ?_
        refine ve_int ?_
        refine ve_name 2 ?_ -- at
        refine wop_mul_int (by unfold CMul; omega) ?_
        refine ve_int ?_
        refine wop_add_int ?_
        refine wop_mul_int (by unfold CMul; omega) ?_
        refine ve_mul ?_
        refine ve_mul ?_
        refine ve_int ?_
        refine ve_name 2 ?_ -- at
        refine wop_mul_int (by unfold CMul; omega) ?_
        refine ve_name 2 ?_ -- at
        refine wop_mul_int (by unfold CMul; omega) ?_
        refine wop_add_int ?_
        refine ve_int ?_
        refine wop_add_int ?_
        refine ve_int ?_
        refine wop_powI ⟨by decide, by decide, pow_ok (by omega) (by omega) ha⟩ ?_
        refine va_nil ?_
        refine wc_int ?_
        refine ve_int ?_
        refine wop_modI (by omega) ?_
        generalize (((bl : Int) * (2 * (a : Int) + 295) + 30727 * (a : Int) * (a : Int) + 29) ^ (5 : Int).toNat) % 2147483587 = blend
        refine vss_one ?_
        refine vs_ret ?_
        refine ve_mod ?_
        refine ve_cty call_int1 b.int boot_int ?_
        refine va_cons ?_
        refine ve_fdiv ?_
        refine ve_name 4 ?_ -- blend
        refine ve_int ?_
        refine wop_fdivI ⟨by omega, by omega⟩ ?_
        refine va_nil ?_
        refine wc_int ?_
        refine ve_name 1 ?_ -- many
        refine wop_modI (by omega) ?_
        obtain ⟨k, hk1, hk2⟩ := mod_k (blend / 16) hm1
        rw [hk2]
        exact ⟨_, List.Sublist.refl _, q k (a + 1) big hk1 (by omega)⟩
/-- a pick: any of some things -/
abbrev s_law_pick : Stmt := top 13
def S_law_pick : FSpec := fun ds μ P _ => ∃ (l : Addr) (j : Nat) (cs : List Int) (a : Nat) (big : Int) (some_ : D) (xs : List D), ds = [.ref l, some_] ∧ μ[j]? = some (l, penO cs a big) ∧ cs.length ≤ 63 ∧ a ≤ 90000 ∧ 1 ≤ xs.length ∧ xs.length ≤ 1000000 ∧
  (some_ = .lst xs ∨ ∃ l2 j2, some_ = .ref l2 ∧ j2 ≠ j ∧ μ[j2]? = some (l2, .lst xs)) ∧ ∀ (d : D) (a' : Nat) (big' : Int), d ∈ xs → a' ≤ a + 1 → P d (μ.set j (l, penO cs a' big'))
theorem sc_law_pick : FnScope ["pen", "some"] ["pen", "some"] (defScope s_law_pick) := ⟨rfl, rfl, rfl, by decide +kernel, rfl, by decide +kernel, by decide +kernel⟩
theorem ok_law_pick (F : FnP K "_law_pick" s_law_pick f fd) (b : Bi mg) (c_law_draw : Cal P w K mg base 1 "_law_draw" S_law_draw []) : FnOk P w K mg base (L2.CX P w) 2 f fd ["pen", "some"] (spOf K S_law_pick) := by
  refine fn_ok F sc_law_pick (fun ds μ P R ⟨_, _, _, _, _, _, _, e, _⟩ => by subst e; rfl) fun cdv A outer s H E ds μ Q R => ?_
  intro X fx ow h
  obtain ⟨l, j, cs, a, big, some_, xs, rfl, hj, hc, ha, h1, h2, hx, q⟩ := h
  refine vss_one ?_
  refine vs_ret ?_
  refine ve_ix fx.kx.u1 ?_
  refine ve_name 1 ?_ -- some
  refine ve_call c_law_draw fx ?_
  refine va_cons ?_
  refine ve_name 0 ?_ -- pen
  refine va_cons ?_
  refine ve_cb call_lenA b.len boot_len ?_
  refine va_cons ?_
  refine ve_name 1 ?_ -- some
  refine va_nil ?_
  rcases hx with rfl | ⟨l2, j2, rfl, hne, hj2⟩
  · refine wc_len rfl ?_
    refine va_nil ?_
    refine ⟨l, j, cs, a, big, xs.length, rfl, hj, hc, ha, h1, h2, fun k a' big' hk ha' => ?_⟩
    refine wop_ix_lst (d := xs[k]) (atI_at k rfl (List.getElem?_eq_getElem hk)) ?_
    exact ⟨_, List.Sublist.refl _, q _ a' big' (List.getElem_mem hk) ha'⟩
  · refine wc_len_mut hj2 ?_
    refine va_nil ?_
    refine ⟨l, j, cs, a, big, xs.length, rfl, hj, hc, ha, h1, h2, fun k a' big' hk ha' => ?_⟩
    refine wop_ix_mut (at_set_ne hj2 hne) (d := xs[k]) (atI_at k rfl (List.getElem?_eq_getElem hk)) ?_
    exact ⟨_, List.Sublist.refl _, q _ a' big' (List.getElem_mem hk) ha'⟩
end
end VK
set_option Elab.async false
set_option linter.all false
set_option maxRecDepth 100000
set_option maxHeartbeats 4000000
/-! VDC2: an empty dict display, frozen at once. -/
namespace VL
open PySem PySem.Spec PyProof.Rows L2
section
variable {X : Cx} {Z : Wish} {δ : Env} {μ : Store} {pos : Pos} {P : D → Store → Prop}
theorem ve_dctE (p : P (.dct []) μ) : VE X Z (.Dict [] [] pos) δ μ P := ve_of pe_dnewK fun σ F H Q s c k z a n => k _ _ μ _ _ p (mv_new c n) (cm_new c n) (.dct upd_same .nil)
end
end VL
set_option Elab.async false
set_option linter.all false
set_option maxRecDepth 100000
set_option maxHeartbeats 4000000
/-! VSO: str(x) by an own __str__; a class's static method. -/
namespace VL
open PySem PySem.Spec PyProof.Rows L2
def rStrO (K : PySem.W.Frag) (C : Addr) (sp : Sp) (E : XK) : List V → Hp → VK → Prop := fun xs H Q => ∃ (a dx : Addr) (fs : List (Str × V)), xs = [.ref a] ∧ H a = some (.ins C dx fs) ∧ sp xs H (fun v H' => ∃ t, v = .str t ∧ Q v H') E
section
variable {X : Cx} {C f : Addr} {fd : FuncData} {ps : List Str} {k : Nat} {sp : Sp} {E : XK}
theorem call_strO (F : FnOk X.prog X.w X.K X.mg X.base (L2.CX X.prog X.w) k f fd ps sp) (hs : PySem.W.findIn X.K (.ref C) "__str__" = some (some (.ref f))) (hf : PySem.W.isFn X.K (.ref f) = true) (hb : Binds X.K fd ps []) (hx : Passes (L2.CX X.prog X.w) X E) (hr : Room (k + 2) X.A) : CallR X (.type "str") (rStrO X.K C sp E) := fun pins s σ H xs us Q I r h => by
  obtain ⟨a, dx, fs, rfl, ha, hsp⟩ := h
  obtain ⟨u, rfl, ra⟩ := vals1 r
  obtain rfl : u = Value.ref a := ra
  obtain ⟨mA, J, _⟩ := ins_get I.hok ha
  obtain ⟨od, J, _⟩ := J.look
  refine PySem.W.kso_call (by have := hr.in1.in1.un; omega) I.kIn J hs hf ?_
  have e0 : Env0 X.prog X.w X.K X.mg X.base X.A.in1.in1 X.stack s H := by
    have e := I.env0
    exact ⟨e.frames, e.mod, e.bs, e.bsz, e.funs, e.frf, e.hok, e.bare⟩
  have hl : ([Value.ref a] ++ ([] : List Value)).length = ps.length := by rw [← F.len _ _ _ _ hsp]; rfl
  have r1 : Vals [V.ref a] ([Value.ref a] ++ []) := .cons rfl .nil
  refine wpAny_call (codeAny_mono (F.run X.A.in1.in1 X.stack s H ⟨[.ref a], []⟩ ([.ref a] ++ []) [.ref a] _ E hr.in1.in1 e0 (hb s [.ref a] I.kIn hl) r1 hsp) fun r' s' hq => ?_)
  match r', hq with
  | .error e, hq => exact hx pins σ H s e s' I hq
  | .ok (.ret u), hq =>
    obtain ⟨z, H', I', rz, b, ez, q⟩ := I.after hq
    subst ez
    obtain ⟨t, rfl⟩ := rz
    exact ⟨.str b, H', I', ⟨t, rfl⟩, q⟩
  | .ok .next, hq => exact hq.elim
  | .ok .brk, hq => exact hq.elim
  | .ok .cont, hq => exact hq.elim
end
/-- a class's own str by values -/
structure MetS (P : Program) (w : World) (K : PySem.W.Frag) (mg : Str → Option Value) (base : Heap) (k : Nat) (C : Addr) (S : FSpec) : Prop where
  ex : ∃ (f : Addr) (fd : FuncData) (ps : List Str), PySem.W.findIn K (.ref C) "__str__" = some (some (.ref f)) ∧ PySem.W.isFn K (.ref f) = true ∧ FnOk P w K mg base (L2.CX P w) k f fd ps (spOf K S) ∧ Binds K fd ps []
/-- a class's static method -/
structure SMet (P : Program) (w : World) (K : PySem.W.Frag) (mg : Str → Option Value) (base : Heap) (k : Nat) (C : Addr) (m : Str) (S : FSpec) : Prop where
  ex : ∃ (f p : Addr) (fd : FuncData) (ps : List Str) (rest : List Value), ClX.CRead K C (.type "type") ∧ PySem.W.findCls K (.ref C) (.type "type") m = some (.get (.builtin "staticmethod.__get__") (.ref p) .none (.ref C)) ∧ PySem.W.recIn K p "staticmethod" = some (.ref f :: rest) ∧
    PySem.W.keepIn K (.ref f) = true ∧ FnOk P w K mg base (L2.CX P w) k f fd ps (spOf K S) ∧ Binds K fd ps []
section
variable {X : Cx} {Z : Wish} {δ : VL.Env} {μ : Store} {S : FSpec} {k j : Nat} {C : Addr} {e o : Expr} {es : List Expr} {p pos apos : Pos} {P : D → Store → Prop} {m : Str}
theorem wc_strO {K : PySem.W.Frag} {x : D} {fs : List (Str × D)} (hx : x = .ins C fs) (h : S [x] μ (fun d μ' => ∃ t, d = .str t ∧ P d μ') Z.R) : WC K Z (rStrO K C (spOf K S) Z.E) [x] μ P := fun vs F H Q c r k z => by
  subst hx
  obtain ⟨v, rfl, r1⟩ := reps1 r
  cases r1 with
  | @ins a _ dx fv _ e r =>
    refine ⟨a, dx, fv, rfl, c.ex _ _ e, F, _, μ, _, Z.R, .cons (.ins e r) .nil, c, h, fun w d μ' F' H' ⟨t, e2, p⟩ m c' r' => ?_, z⟩
    subst e2
    cases r'
    exact ⟨t, rfl, k _ _ _ _ _ p m c' (.str t)⟩
theorem call_strS (c : MetS X.prog X.w X.K X.mg X.base k C S) (fx : Fx X Z j) (hk : k + 2 ≤ j := by first | assumption | decide | omega) : CallR X (.type "str") (rStrO X.K C (spOf X.K S) Z.E) := by
  obtain ⟨f, fd, ps, hs, hf, F, b⟩ := c.ex
  exact call_strO F hs hf b fx.ps (fx.rm.mono hk)
def tSMeth (C : Addr) (sp : Sp) (E : XK) (ta : TE) (t : TA) : TE := fun σ H Q => ta σ H fun x H1 => x = .ref C ∧ t σ H1 fun vs H2 => sp vs H2 Q E
theorem pe_smeth {f p0 : Addr} {fd : FuncData} {ps : List Str} {rest : List Value} {sp : Sp} {E : XK} {ta : TE} {t : TA} {pl : Sem Bool} (he : PE X o ta) (r : ClX.CRead X.K C (.type "type")) (hat : PySem.W.findCls X.K (.ref C) (.type "type") m = some (.get (.builtin "staticmethod.__get__") (.ref p0) .none (.ref C)))
    (hrec : PySem.W.recIn X.K p0 "staticmethod" = some (.ref f :: rest)) (hkp : PySem.W.keepIn X.K (.ref f) = true) (F : FnOk X.prog X.w X.K X.mg X.base (L2.CX X.prog X.w) k f fd ps sp) (hb : Binds X.K fd ps []) (hr : Room k X.A) (hx : Passes (L2.CX X.prog X.w) X E) (ha : PA X (e :: es) t)
    (hst : starEach (e :: es) X.env = (false, eval e X.env) :: starEach es X.env) (hpl : (backTo pos (starEach es X.env)).any (·.1) = false)
    (ht : eval (.Call (.Attribute o m apos) (e :: es) [] pos) X.env = (do
      let ov ← eval o X.env
      standAt apos.atName
      let (f, first) ← holding [ov] (getMethod ov m pl)
      callWith pos f first (backTo pos (starEach (e :: es) X.env)) (backToKw pos (keywordEach [] X.env)))) :
    PE X (.Call (.Attribute o m apos) (e :: es) [] pos) (tSMeth C sp E ta t) := by
  refine ⟨fun pins s σ H Q I h => ?_⟩
  refine PySem.W.methodCall_KW (pl := pl) (thn (he.run pins s σ H _ I h) fun u s1 ⟨x, H1, I1, rx, ex, q⟩ => ?_) ht
  subst ex
  obtain rfl : u = Value.ref C := rx
  refine PySem.W.method_cls I1.kIn r.ga ?_
  refine PySem.W.cls_bind I1.kIn r.rd hat ?_
  refine wpAny_call (PySem.W.sm_get (s := { s1 with toks := s1.toks + 1 }) I1.kIn hrec (PySem.W.handed_on rfl ?_))
  have I2 : Inv X pins σ H1 { s1 with toks := s1.toks + 1 } := I1.tok _
  exact PySem.W.callWith_K (h₀ := X.base) I2.ok.mod.kin hkp (thn (ha.run pos pins _ σ H1 _ I2 q) fun us s2 ⟨vs, H2, I3, rv, q2⟩ => ⟨I3.kIn, run_fn (dvs := []) F hr hb .nil hx I3 rv (by rw [List.append_nil]; exact q2)⟩) hst hpl
theorem we_smeth {ta : TE} {t : TA} (h : WE X.K Z ta δ μ fun d μ1 => d = .ref C ∧ WA X.K Z t δ μ1 fun xs μ2 => S xs μ2 P Z.R) : WE X.K Z (tSMeth C (spOf X.K S) Z.E ta t) δ μ P := fun σ F H Q s c k z => by
  refine h σ F H _ s c (fun v d μ1 F1 H1 ⟨e, p⟩ m1 c1 r1 => ?_) z
  subst e
  cases r1
  refine ⟨rfl, p σ F1 H1 _ (s.mono m1.up) c1 (fun vs xs μ2 F2 H2 p2 m2 c2 r2 => ?_) (z.mv m1)⟩
  exact ⟨F2, xs, μ2, P, Z.R, r2, c2, p2, fun v d μ' F' H' q m3 c3 r3 => k v d μ' F' H' q ((m1.trans m2).trans m3) c3 r3, (z.mv m1).mv m2⟩
theorem ve_smeth (pl : Sem Bool) (c : SMet X.prog X.w X.K X.mg X.base k C m S) (fx : Fx X Z j) (h : VE X Z o δ μ fun d μ1 => d = .ref C ∧ VA X Z (e :: es) δ μ1 fun xs μ2 => S xs μ2 P Z.R) (hk : k ≤ j := by first | assumption | decide | omega)
    (hst : starEach (e :: es) X.env = (false, eval e X.env) :: starEach es X.env := by rfl) (hpl : (backTo pos (starEach es X.env)).any (·.1) = false := by rfl)
    (ht : eval (.Call (.Attribute o m apos) (e :: es) [] pos) X.env = (do
      let ov ← eval o X.env
      standAt apos.atName
      let (f, first) ← holding [ov] (getMethod ov m pl)
      callWith pos f first (backTo pos (starEach (e :: es) X.env)) (backToKw pos (keywordEach [] X.env))) := by rfl) :
    VE X Z (.Call (.Attribute o m apos) (e :: es) [] pos) δ μ P := by
  obtain ⟨f, p0, fd, ps, rest, r, hat, hrec, hkp, F, b⟩ := c.ex
  exact ve_of (pe_smeth pe_r r hat hrec hkp F b (fx.rm.mono hk) fx.ps pa_r hst hpl ht) (we_smeth h)
end
end VL
set_option Elab.async false
set_option linter.all false
set_option maxRecDepth 100000
set_option maxHeartbeats 4000000
/-! VBO: bool(x) by an own __bool__. -/
namespace VL
open PySem PySem.Spec PyProof.Rows L2
section
variable {prog : Program} {w : World} {A : Around} {E : Value → Shared → Prop} {s : Shared}
theorem bool_obj {x : Addr} {Q : Bool → Shared → Prop} {R : Value → Shared → Prop} (h : wpAny (model prog w) A.in1.in1 (truthy (.ref x)) Q E s) (fin : ∀ b s', Q b s' → R (.bool b) s') : wpAny (model prog w) A (call (.type "bool") [.ref x]) R E s := by
  refine callType_codes (T := "bool") (Bi := Builtin.«object.__init__») (Q₁ := fun r s₁ => ∃ b, r = .bool b ∧ Q b s₁) PySem.F.called_bool (PySem.F.typeCall_bool_1 _) PySem.F.entry_object_init ?_ ?_
  · refine codeAny_of_tree ?_
    show wpAny _ A.in1.in1 (do checkBuiltinCall "bool.__new__" ⟨[Value.type "bool", Value.ref x], []⟩; again (.builtin "bool.__new__" ⟨[Value.type "bool", Value.ref x], []⟩)) _ _ s
    refine wpAny_bind (wpAny_of_eq (PySem.F.newCall_bool_1 _) (wpAny_pure ⟨plainId_quiet (by decide +kernel) _, codeAny_builtin PySem.F.entry_bool_new ?_⟩))
    rw [Around.under_plainId (by decide +kernel) _]
    unfold Builtin.«bool.__new__»
    have f1 := PySem.F.conv_sub_bool
    simp only []
    refine wpAny_bind (m := isType (.type "bool")) ?_
    refine wpAny_of_eq (show isType (.type "bool") = pure true from by first | rfl | kernel_rfl | (unfold isType; rw [isSubtype_type]; kernel_rfl)) ?_
    simp only [Bool.not_true, Bool.false_eq_true, if_false]
    refine wpAny_bind (wpAny_of_eq f1 ?_)
    simp only [Bool.not_true, Bool.false_eq_true, if_false]
    refine wpAny_bind (m := someArgs "bool" 0 1 ⟨[Value.ref x], []⟩) (wpAny_pure ?_)
    show wpAny _ _ (truthy (Value.ref x) >>= fun b => ret (Value.bool b)) _ _ s
    refine wpAny_bind (thn h fun b s' q => ?_)
    exact wpAny_pure ⟨b, rfl, q⟩
  · rintro obj s₁ ⟨b, rfl, hq⟩
    exact ⟨rfl, PySem.F.args_object_init_2 _ _, object_init_meets PySem.F.called_bool.init.lookup PySem.F.called_bool.made (by decide) prog w A.in1 _ s₁ ⟨rfl, rfl, fin _ _ hq⟩⟩
end
def rBoolO (K : PySem.W.Frag) (C : Addr) (sp : Sp) (E : XK) : List V → Hp → VK → Prop := fun xs H Q => ∃ (a dx : Addr) (fs : List (Str × V)), xs = [.ref a] ∧ H a = some (.ins C dx fs) ∧ sp xs H (fun v H' => ∃ b, v = .bl b ∧ Q (.bl b) H') E
section
variable {X : Cx} {C f : Addr} {fd : FuncData} {ps : List Str} {k : Nat} {sp : Sp} {E : XK}
theorem call_boolO (F : FnOk X.prog X.w X.K X.mg X.base (L2.CX X.prog X.w) k f fd ps sp) (hs : PySem.W.findIn X.K (.ref C) "__bool__" = some (some (.ref f))) (hf : PySem.W.isFn X.K (.ref f) = true) (hb : Binds X.K fd ps []) (hx : Passes (L2.CX X.prog X.w) X E) (hr : Room (k + 2) X.A) : CallR X (.type "bool") (rBoolO X.K C sp E) := fun pins s σ H xs us Q I r h => by
  obtain ⟨a, dx, fs, rfl, ha, hsp⟩ := h
  obtain ⟨u, rfl, ra⟩ := vals1 r
  obtain rfl : u = Value.ref a := ra
  obtain ⟨mA, J, _⟩ := ins_get I.hok ha
  obtain ⟨od, J, _⟩ := J.look
  obtain ⟨m, hF⟩ := I.fr
  refine bool_obj (Q := fun b s' => EP X pins σ Q (.bool b) s') (PySem.W.truthy_K hF I.ok.mod.kin J hs hf ?_) fun _ _ q => q
  have e0 : Env0 X.prog X.w X.K X.mg X.base X.A.in1.in1 X.stack s H := by
    have e := I.env0
    exact ⟨e.frames, e.mod, e.bs, e.bsz, e.funs, e.frf, e.hok, e.bare⟩
  have hl : ([Value.ref a] ++ ([] : List Value)).length = ps.length := by rw [← F.len _ _ _ _ hsp]; rfl
  have r1 : Vals [V.ref a] ([Value.ref a] ++ []) := .cons rfl .nil
  refine wpAny_call (codeAny_mono (F.run X.A.in1.in1 X.stack s H ⟨[.ref a], []⟩ ([.ref a] ++ []) [.ref a] _ E hr.in1.in1 e0 (hb s [.ref a] I.kIn hl) r1 hsp) fun r' s' hq => ?_)
  match r', hq with
  | .error e, hq => exact hx pins σ H s e s' I hq
  | .ok (.ret u), hq =>
    obtain ⟨z, H', I', rz, b, ez, q⟩ := I.after hq
    subst ez
    cases rz
    exact ⟨.bl b, H', I', rfl, q⟩
  | .ok .next, hq => exact hq.elim
  | .ok .brk, hq => exact hq.elim
  | .ok .cont, hq => exact hq.elim
end
section
variable {X : Cx} {Z : Wish} {δ : VL.Env} {μ : Store} {S : FSpec} {k j : Nat} {C : Addr} {P : D → Store → Prop}
theorem wc_boolO {K : PySem.W.Frag} {x : D} {fs : List (Str × D)} (hx : x = .ins C fs) (h : S [x] μ (fun d μ' => ∃ b, d = .bl b ∧ P d μ') Z.R) : WC K Z (rBoolO K C (spOf K S) Z.E) [x] μ P := fun vs F H Q c r k z => by
  subst hx
  obtain ⟨v, rfl, r1⟩ := reps1 r
  cases r1 with
  | @ins a _ dx fv _ e r =>
    refine ⟨a, dx, fv, rfl, c.ex _ _ e, F, _, μ, _, Z.R, .cons (.ins e r) .nil, c, h, fun w d μ' F' H' ⟨b, e2, p⟩ m c' r' => ?_, z⟩
    subst e2
    cases r'
    exact ⟨b, rfl, k _ _ _ _ _ p m c' (.bl b)⟩
theorem call_boolS (c : MetB X.prog X.w X.K X.mg X.base k C S) (fx : Fx X Z j) (hk : k + 2 ≤ j := by first | assumption | decide | omega) : CallR X (.type "bool") (rBoolO X.K C (spOf X.K S) Z.E) := by
  obtain ⟨f, fd, ps, hs, hf, F, b⟩ := c.ex
  exact call_boolO F hs hf b fx.ps (fx.rm.mono hk)
end
end VL
set_option Elab.async false
set_option linter.all false
set_option maxRecDepth 100000
set_option maxHeartbeats 4000000
/-! P33B: the law's values; lists as tuples; == of papers of such values. -/
namespace VK
open PySem PySem.Spec PyProof.Rows L2 VL NdefX
/-- a drawn value, at most n deep -/
inductive VY : Nat → D → Prop
  | non {n : Nat} : VY n .non
  | tru {n : Nat} : VY n (.bl true)
  | int {n : Nat} {i : Int} (h : i ∈ [(0 : Int), 1, -5, 10 ^ 20]) : VY n (.int i)
  | str {n : Nat} {s : Str} (h : s ∈ [("" : Str), "a", "rope", "piece"]) : VY n (.str s)
  | d0 {n : Nat} : VY n (.dct [])
  | d1 {n : Nat} : VY n (.dct [(.inr "a", .int 1)])
  | lst {n : Nat} {xs : List D} (hl : xs.length ≤ 3) (h : ∀ x ∈ xs, VY n x) : VY (n + 1) (.lst xs)
  | tup {n : Nat} {xs : List D} (hl : xs.length ≤ 3) (h : ∀ x ∈ xs, VY n x) : VY (n + 1) (.tup xs)
theorem int_fits : ∀ i ∈ [(0 : Int), 1, -5, 10 ^ 20], (PyData.shown (.int i)).length ≤ 40 ∧ i.natAbs.log2 < 1920 := by decide +kernel
theorem str_fits : ∀ s ∈ [("" : Str), "a", "rope", "piece"], (PyData.shown (.str s)).length ≤ 40 := by decide +kernel
theorem VY.fix {n : Nat} {d : D} (h : VY n d) : VX n (fixD d) := by
  induction h with
  | non => rw [fixD]; exact .non
  | tru => rw [fixD]; exact .bl true
  | int h => rw [fixD]; exact .int (int_fits _ h)
  | str h => rw [fixD]; exact .str (str_fits _ h)
  | d0 => rw [fixD]; exact .d0
  | d1 => rw [fixD]; exact .d1
  | @lst n xs hl h ih =>
    rw [fixD, fixDs_map]
    refine .tup (by rw [List.length_map]; omega) fun x hx => ?_
    obtain ⟨y, hy, rfl⟩ := List.mem_map.mp hx
    exact ih y hy
  | @tup n xs hl h ih =>
    rw [fixD, fixDs_map]
    refine .tup (by rw [List.length_map]; omega) fun x hx => ?_
    obtain ⟨y, hy, rfl⟩ := List.mem_map.mp hx
    exact ih y hy
theorem VY.fx {n : Nat} {d : D} (h : VY n d) : ∀ {m : Nat}, n ≤ m → fxOk m d = true := by
  induction h with
  | @lst n xs hl h ih =>
    intro m hm
    obtain ⟨k, rfl⟩ : ∃ k, m = k + 1 := ⟨m - 1, by omega⟩
    rw [fxOk, Bool.and_eq_true, fxOks_iff]
    exact ⟨decide_eq_true (by omega), fun x hx => ih x hx (by omega)⟩
  | @tup n xs hl h ih =>
    intro m hm
    obtain ⟨k, rfl⟩ : ∃ k, m = k + 1 := ⟨m - 1, by omega⟩
    rw [fxOk, Bool.and_eq_true, fxOks_iff]
    exact ⟨decide_eq_true (by omega), fun x hx => ih x hx (by omega)⟩
  | _ => intro m _; cases m <;> rfl
theorem vx_fixed {n : Nat} {d : D} (h : VX n d) : fixD d = d := by
  induction h with
  | @tup n xs hl h ih =>
    rw [fixD, fixDs_map]
    congr 1
    clear hl h
    induction xs with
    | nil => rfl
    | cons x xs k =>
      rw [List.map_cons, ih x List.mem_cons_self, k fun y hy => ih y (List.mem_cons_of_mem _ hy)]
  | _ => rw [fixD]
theorem vx_fx {n : Nat} {d : D} (h : VX n d) : ∀ {m : Nat}, n ≤ m → fxOk m d = true := by
  induction h with
  | @tup n xs hl h ih =>
    intro m hm
    obtain ⟨k, rfl⟩ : ∃ k, m = k + 1 := ⟨m - 1, by omega⟩
    rw [fxOk, Bool.and_eq_true, fxOks_iff]
    exact ⟨decide_eq_true (by omega), fun x hx => ih x hx (by omega)⟩
  | _ => intro m _; cases m <;> rfl
def leafsD : List D := [.non, .bl true, .int 0, .int 1, .int (-5), .int (10 ^ 20), .str "", .str "a", .str "rope", .str "piece", .dct [], .dct [(.inr "a", .int 1)]]
theorem leaf_VY {n : Nat} {d : D} (h : d ∈ leafsD) : VY n d := by
  unfold leafsD at h
  simp only [List.mem_cons, List.not_mem_nil, or_false] at h
  rcases h with rfl | rfl | rfl | rfl | rfl | rfl | rfl | rfl | rfl | rfl | rfl | rfl
  · exact .non
  · exact .tru
  · exact .int (by decide)
  · exact .int (by decide)
  · exact .int (by decide)
  · exact .int (by decide)
  · exact .str (by decide)
  · exact .str (by decide)
  · exact .str (by decide)
  · exact .str (by decide)
  · exact .d0
  · exact .d1
theorem leaf_ty {d : D} (h : d ∈ leafsD) : ∃ t, tyN d = some t ∧ t ≠ "list" := by
  unfold leafsD at h
  simp only [List.mem_cons, List.not_mem_nil, or_false] at h
  rcases h with rfl | rfl | rfl | rfl | rfl | rfl | rfl | rfl | rfl | rfl | rfl | rfl <;> exact ⟨_, rfl, by decide⟩
section
variable {P : Program} {w : World} {K : PySem.W.Frag} {mg : Str → Option Value} {base : Heap} {f : Addr} {fd : FuncData} {C CP : Addr}
/-! ### _law_fixed -/
abbrev s_law_fixed : Stmt := top 15
theorem sc_law_fixed : FnScope ["value", "each"] ["value"] (defScope s_law_fixed) := ⟨rfl, rfl, rfl, by decide +kernel, rfl, by decide +kernel, by decide +kernel⟩
theorem ok_law_fixed (F : FnP K "_law_fixed" s_law_fixed f fd) (b : Bi mg) (hm : mg "_law_fixed" = some (.ref f)) : ∀ n : Nat, FnOk P w K mg base (L2.CX P w) (n + 1) f fd ["value"] (spOf K (S_fixed n)) := by
  intro n
  induction n with
  | zero =>
    refine fn_ok F sc_law_fixed (fun ds μ P R ⟨_, e, _⟩ => by subst e; rfl) fun cdv A outer s H E ds μ Q R => ?_
    intro X fx ow h
    obtain ⟨d, rfl, hd, q⟩ := h
    have ty : ∃ n, tyN d = some n ∧ PySem.W.kitAny X.K (.type n) [.type "list", .type "tuple"] = some false ∧ fixD d = d := by
      cases d <;> first | (simp [fxOk] at hd; done) | exact ⟨_, rfl, by kernel_rfl, by simp [fixD]⟩
    obtain ⟨n, h1, h2, h3⟩ := ty
    refine vss_one ?_
    refine vs_ret ?_
    refine ve_ifS ?_
    refine vt_val ?_
    refine ve_cb call_isiA b.isinstance boot_isinstance ?_
    refine va_cons ?_
    refine ve_name 0 ?_ -- value
    refine va_cons ?_
    refine ve_tup ?_
    refine va_cons ?_
    refine ve_bty (n := "list") b.list ?_
    refine va_cons ?_
    refine ve_bty (n := "tuple") b.tuple ?_
    refine va_nil ?_
    refine ⟨by decide, ?_⟩
    refine va_nil ?_
    refine wc_isi2 (.inl ⟨_, h1, rfl⟩) h2 ?_
    refine ⟨_, rfl, ?_⟩
    refine ⟨fun hk => (by cases hk), fun hk => ?_⟩
    refine ve_name 0 ?_ -- value
    rw [h3] at q
    exact ⟨μ, List.Sublist.refl _, q⟩
  | succ n ih =>
    have c_law_fixed : Cal P w K mg base (n + 1) "_law_fixed" (S_fixed n) [] := cal_mk F ih hm fun kV doc pm an cdv ct us hl => match us, hl with | [_], _ => rfl
    refine fn_ok F sc_law_fixed (fun ds μ P R ⟨_, e, _⟩ => by subst e; rfl) fun cdv A outer s H E ds μ Q R => ?_
    intro X fx ow h
    obtain ⟨d, rfl, hd, q⟩ := h
    have ty : (∃ n, tyN d = some n ∧ PySem.W.kitAny X.K (.type n) [.type "list", .type "tuple"] = some false ∧ fixD d = d) ∨
        ∃ n' xs, tyN d = some n' ∧ itemsD d = some xs ∧ PySem.W.kitAny X.K (.type n') [.type "list", .type "tuple"] = some true ∧ fixD d = .tup (xs.map fixD) ∧ xs.length ≤ 1000 ∧ ∀ x ∈ xs, fxOk n x = true := by
      cases d with
      | lst xs =>
        rw [fxOk, Bool.and_eq_true, fxOks_iff] at hd
        exact .inr ⟨_, _, rfl, rfl, by kernel_rfl, by rw [fixD, fixDs_map], of_decide_eq_true hd.1, hd.2⟩
      | tup xs =>
        rw [fxOk, Bool.and_eq_true, fxOks_iff] at hd
        exact .inr ⟨_, _, rfl, rfl, by kernel_rfl, by rw [fixD, fixDs_map], of_decide_eq_true hd.1, hd.2⟩
      | ty _ => simp [fxOk] at hd
      | ref _ => simp [fxOk] at hd
      | ins _ _ => simp [fxOk] at hd
      | scr _ => simp [fxOk] at hd
      | exc _ _ => simp [fxOk] at hd
      | dT _ => simp [fxOk] at hd
      | kt _ => simp [fxOk] at hd
      | tupN _ => simp [fxOk] at hd
      | _ => exact .inl ⟨_, rfl, by kernel_rfl, by simp [fixD]⟩
    refine vss_one ?_
    refine vs_ret ?_
    refine ve_ifS ?_
    refine vt_val ?_
    refine ve_cb call_isiA b.isinstance boot_isinstance ?_
    refine va_cons ?_
    refine ve_name 0 ?_ -- value
    refine va_cons ?_
    refine ve_tup ?_
    refine va_cons ?_
    refine ve_bty (n := "list") b.list ?_
    refine va_cons ?_
    refine ve_bty (n := "tuple") b.tuple ?_
    refine va_nil ?_
    refine ⟨by decide, ?_⟩
    refine va_nil ?_
    rcases ty with ⟨n', h1, h2, h3⟩ | ⟨n', xs, h1, hi, h2, h3, hl, hx⟩
    · refine wc_isi2 (.inl ⟨_, h1, rfl⟩) h2 ?_
      refine ⟨_, rfl, ?_⟩
      refine ⟨fun hk => (by cases hk), fun hk => ?_⟩
      refine ve_name 0 ?_ -- value
      rw [h3] at q
      exact ⟨μ, List.Sublist.refl _, q⟩
    · refine wc_isi2 (.inl ⟨_, h1, rfl⟩) h2 ?_
      refine ⟨_, rfl, ?_⟩
      refine ⟨fun hk => ?_, fun hk => (by cases hk)⟩
      refine ve_cty call_tuple_of b.tuple boot_tuple ?_
      refine va_cons ?_
      refine ve_lcF (α := D) (js := [1]) [("each", 1)] fx.kx ?_
      refine vi_var 0 hi ?_
      refine ⟨xs, id, fun x => some (fixD x), by simp, by omega, fun a ha q1 => ?_, ?_⟩
      · refine vg_name 1 (fx.bk _ q1).kx ?_ -- each
        intro q1
        refine vif_nil ?_
        simp only [if_true]
        intro q1
        refine ve_call c_law_fixed (fx.bk _ q1) ?_
        refine va_cons ?_
        refine ve_name 1 ?_ -- each
        refine va_nil ?_
        refine ⟨a, rfl, hx a ha, ?_⟩
        exact ⟨rfl, rfl⟩
      refine va_nil ?_
      rw [fm_map]
      refine wc_tup_l ?_
      rw [h3] at q
      exact ⟨μ, List.Sublist.refl _, q⟩
theorem ok_law_fixedR (F : FnP K "_law_fixed" s_law_fixed f fd) (b : Bi mg) {n : Nat} (c_law_fixed : Cal P w K mg base (n + 1) "_law_fixed" (S_fixed n) []) : FnOk P w K mg base (L2.CX P w) (n + 2) f fd ["value"] (spOf K (S_fixedR n)) := by
  refine fn_ok F sc_law_fixed (fun ds μ P R ⟨_, _, _, e, _⟩ => by subst e; rfl) fun cdv A outer s H E ds μ Q R => ?_
  intro X fx ow h
  obtain ⟨l, j, xs, rfl, hj, hl, hx, q⟩ := h
  refine vss_one ?_
  refine vs_ret ?_
  refine ve_ifS ?_
  refine vt_val ?_
  refine ve_cb call_isiA b.isinstance boot_isinstance ?_
  refine va_cons ?_
  refine ve_name 0 ?_
  refine va_cons ?_
  refine ve_tup ?_
  refine va_cons ?_
  refine ve_bty (n := "list") b.list ?_
  refine va_cons ?_
  refine ve_bty (n := "tuple") b.tuple ?_
  refine va_nil ?_
  refine ⟨by decide, ?_⟩
  refine va_nil ?_
  refine wc_isi2M hj (b := true) (by kernel_rfl) ?_
  refine ⟨_, rfl, ?_⟩
  refine ⟨fun hk => ?_, fun hk => (by cases hk)⟩
  refine ve_cty call_tuple_of b.tuple boot_tuple ?_
  refine va_cons ?_
  refine ve_lcI [("each", 1)] fx.kx ?_ (js := [1])
  refine vi_mut ?_
  refine ve_name 0 ?_
  refine ⟨l, xs, rfl, mem_at hj, ?_⟩
  refine ⟨by omega, fun μ ν h => List.mem_append_left _ h, fun n acc μ' => μ' = μ ∧ acc = (xs.take n).map fixD, ⟨rfl, by simp⟩, fun n acc μ' hI => by rw [hI.1]; exact mem_at hj, fun n d acc μ' hd hI q1 => ?_, fun acc μ' hI => ?_⟩
  · obtain ⟨rfl, rfl⟩ := hI
    refine vg_name 1 (fx.bk _ q1).kx ?_
    intro q1
    refine vif_nil ?_
    simp only [if_true]
    intro q1
    refine ve_call c_law_fixed (fx.bk _ q1) ?_
    refine va_cons ?_
    refine ve_name 1 ?_
    refine va_nil ?_
    refine ⟨d, rfl, hx d (List.mem_of_getElem? hd), ?_⟩
    refine ⟨rfl, ?_⟩
    rw [take_snoc hd, List.map_append]
    rfl
  · obtain ⟨rfl, rfl⟩ := hI
    rw [List.take_length]
    refine va_nil ?_
    refine wc_tup_l ?_
    exact ⟨_, List.Sublist.refl _, q⟩
theorem fn_or33 {S1 S2 : FSpec} {k : Nat} {ps : List Str} (F1 : FnOk P w K mg base (L2.CX P w) k f fd ps (spOf K S1)) (F2 : FnOk P w K mg base (L2.CX P w) k f fd ps (spOf K S2)) : FnOk P w K mg base (L2.CX P w) k f fd ps (spOf K fun ds μ P R => S1 ds μ P R ∨ S2 ds μ P R) where
  len := fun vs H Q E ⟨F, ds, μ, P, R, r, c, h, kk, z⟩ => by
    rcases h with h | h
    · exact F1.len vs H Q E ⟨F, ds, μ, P, R, r, c, h, kk, z⟩
    · exact F2.len vs H Q E ⟨F, ds, μ, P, R, r, c, h, kk, z⟩
  run := fun A outer s H args us vs Q E hr e0 hb hv ⟨F, ds, μ, P, R, r, c, h, kk, z⟩ => by
    rcases h with h | h
    · exact F1.run A outer s H args us vs Q E hr e0 hb hv ⟨F, ds, μ, P, R, r, c, h, kk, z⟩
    · exact F2.run A outer s H args us vs Q E hr e0 hb hv ⟨F, ds, μ, P, R, r, c, h, kk, z⟩
def S_fixM (n : Nat) : FSpec := fun ds μ P _ => ∃ d e, ds = [d] ∧ FxM μ (n + 1) d e ∧ P e μ
theorem ok_law_fixM {n k : Nat} (F1 : FnOk P w K mg base (L2.CX P w) k f fd ["value"] (spOf K (S_fixed (n + 1)))) (F2 : FnOk P w K mg base (L2.CX P w) k f fd ["value"] (spOf K (S_fixedR n))) : FnOk P w K mg base (L2.CX P w) k f fd ["value"] (spOf K (S_fixM n)) := by
  refine (fn_or33 F1 F2).imp fun vs H Q E ⟨F, ds, μ, P, R, r, c, h, kk, z⟩ => ⟨F, ds, μ, P, R, r, c, ?_, kk, z⟩
  obtain ⟨d, e, rfl, hf, q⟩ := h
  cases hf with
  | fx h => exact .inl ⟨d, rfl, h, q⟩
  | @ref n l j xs hj hl h => exact .inr ⟨l, j, xs, rfl, hj, hl, h, q⟩
/-! ### _law_value -/
def BN : Nat → Nat
  | 0 => 2
  | n + 1 => 2 + 3 * BN n
abbrev s_law_value : Stmt := top 14
def S_law_value (n : Nat) : FSpec := fun ds μ P _ => ∃ (l : Addr) (j : Nat) (cs : List Int) (a : Nat) (big : Int), ds = [.ref l, .int (n : Nat)] ∧ μ[j]? = some (l, penO cs a big) ∧ cs.length ≤ 63 ∧ a + BN n ≤ 90000 ∧
  (∀ (d : D) (t : String) (a' : Nat) (big' : Int), VY n d → tyN d = some t → t ≠ "list" → a' ≤ a + BN n → P d (μ.set j (l, penO cs a' big'))) ∧
  (∀ (m : Nat) (l2 : Addr) (xs : List D) (a' : Nat) (big' : Int), n = m + 1 → xs.length ≤ 3 → (∀ x ∈ xs, VY m x) → a' ≤ a + BN n → P (.ref l2) (μ.set j (l, penO cs a' big') ++ [(l2, .lst xs)]))
theorem sc_law_value : FnScope ["pen", "deep", "way", "some", "at"] ["pen", "deep"] (defScope s_law_value) := ⟨rfl, rfl, rfl, by decide +kernel, rfl, by decide +kernel, by decide +kernel⟩
theorem ok_law_value (F : FnP K "_law_value" s_law_value f fd) (b : Bi mg) (hm : mg "_law_value" = some (.ref f)) (c_law_draw : Cal P w K mg base 1 "_law_draw" S_law_draw []) (c_law_pick : Cal P w K mg base 2 "_law_pick" S_law_pick []) : ∀ n : Nat, FnOk P w K mg base (L2.CX P w) (n + 3) f fd ["pen", "deep"] (spOf K (S_law_value n)) := by
  intro n
  induction n with
  | zero =>
    refine fn_ok F sc_law_value (fun ds μ P R ⟨_, _, _, _, _, e, _⟩ => by subst e; rfl) fun cdv A outer s H E ds μ Q R => ?_
    intro X fx ow h
    obtain ⟨l, j, cs, a, big, rfl, hj, hc, ha, q1, q2⟩ := h
    have hlt : j < μ.length := (List.getElem?_eq_some_iff.mp hj).1
    have hb2 : BN 0 = 2 := rfl
    rw [hb2] at ha
    refine vss_cons ?_
    refine vs_set 2 fx.kx ?_ -- way
    refine ve_call c_law_draw fx ?_
    refine va_cons ?_
    refine ve_name 0 ?_ -- pen
    refine va_cons ?_
    refine ve_int ?_
    refine va_nil ?_
    refine ⟨l, j, cs, a, big, 6, rfl, hj, hc, by omega, by omega, by omega, fun k a1 big1 hk ha1 => ?_⟩
    refine vss_cons ?_
    refine vs_if ?_
    apply vt_and2 (ka := false) (kb := decide (k < 4))
    · refine vt_cmp .gt ?_
      refine ve_name 1 ?_ -- deep
      refine ve_int ?_
      refine wop_gtI ?_
      refine ⟨_, rfl, ?_⟩
      exact ⟨rfl, rfl⟩
    · intro hk
      cases hk
    refine ⟨fun hk => (by cases hk), fun hk => ?_⟩
    refine vss_nil ?_
    refine vss_one ?_
    refine vs_ret ?_
    refine ve_call c_law_pick fx ?_
    refine va_cons ?_
    refine ve_name 0 ?_ -- pen
    refine va_cons ?_
    refine ve_lst ?_
    refine va_cons ?_
    refine ve_non ?_
    refine va_cons ?_
    refine ve_bl ?_
    refine va_cons ?_
    refine ve_int ?_
    refine va_cons ?_
    refine ve_int ?_
    refine va_cons ?_
    refine ve_neg ?_
    refine ve_int ?_
    refine wun_neg ?_
    refine va_cons ?_
    refine ve_pow ?_
    refine ve_int ?_
    refine ve_int ?_
    refine wop_powI ⟨by decide, by decide, by decide⟩ ?_
    refine va_cons ?_
    refine ve_str ?_
    refine va_cons ?_
    refine ve_str ?_
    refine va_cons ?_
    refine ve_str ?_
    refine va_cons ?_
    refine ve_str ?_
    refine va_cons ?_
    refine ve_dctE ?_
    refine va_cons ?_
    refine ve_frzD ?_
    refine ve_disp1 ?_
    refine ve_str ?_
    refine ve_int ?_
    refine ⟨.inr "a", rfl, fun ld => ?_⟩
    refine ⟨_, ld, _, rfl, at_end, ?_⟩
    rw [del_end]
    refine va_nil ?_
    refine ⟨by decide, ?_⟩
    refine va_nil ?_
    refine ⟨l, j, cs, a1, big1, _, leafsD, rfl, at_set hj, hc, by omega, by decide, by decide, .inl rfl, fun d a2 big2 hd ha2 => ?_⟩
    rw [set_set']
    obtain ⟨t, ht, hn⟩ := leaf_ty hd
    exact ⟨_, List.Sublist.refl _, q1 d t a2 big2 (leaf_VY hd) ht hn (by rw [hb2]; omega)⟩
  | succ n ih =>
    have c_law_value : Cal P w K mg base (n + 3) "_law_value" (S_law_value n) [] := cal_mk F ih hm fun kV doc pm an cdv ct us hl => match us, hl with | [_, _], _ => rfl
    refine fn_ok F sc_law_value (fun ds μ P R ⟨_, _, _, _, _, e, _⟩ => by subst e; rfl) fun cdv A outer s H E ds μ Q R => ?_
    intro X fx ow h
    obtain ⟨l, j, cs, a, big, rfl, hj, hc, ha, q1, q2⟩ := h
    have hlt : j < μ.length := (List.getElem?_eq_some_iff.mp hj).1
    have hb2 : BN (n + 1) = 2 + 3 * BN n := rfl
    rw [hb2] at ha
    refine vss_cons ?_
    refine vs_set 2 fx.kx ?_ -- way
    refine ve_call c_law_draw fx ?_
    refine va_cons ?_
    refine ve_name 0 ?_ -- pen
    refine va_cons ?_
    refine ve_int ?_
    refine va_nil ?_
    refine ⟨l, j, cs, a, big, 6, rfl, hj, hc, by omega, by omega, by omega, fun k a1 big1 hk ha1 => ?_⟩
    refine vss_cons ?_
    refine vs_if ?_
    apply vt_and2 (ka := true) (kb := decide (k < 4))
    · refine vt_cmp .gt ?_
      refine ve_name 1 ?_ -- deep
      refine ve_int ?_
      refine wop_gtI ?_
      refine ⟨_, rfl, ?_⟩
      exact ⟨by simp, rfl⟩
    · intro hk
      refine vw_and1 ?_
      refine vt_cmp .lt ?_
      refine ve_name 2 ?_ -- way
      refine ve_int ?_
      refine wop_ltI ?_
      refine ⟨_, rfl, ?_⟩
      exact ⟨by simp; omega, rfl⟩
    refine ⟨fun hk4 => ?_, fun hk4 => ?_⟩
    · refine vss_cons ?_
      refine vs_setLcM 3 (js := [4]) [("at", 4)] fx.kx ?_
      refine vi_range1 b.range ?_
      refine va_cons ?_
      refine ve_call c_law_draw fx ?_
      refine va_cons ?_
      refine ve_name 0 ?_ -- pen
      refine va_cons ?_
      refine ve_int ?_
      refine va_nil ?_
      refine ⟨l, j, cs, a1, big1, 4, rfl, at_set hj, hc, by omega, by omega, by omega, fun m a2 big2 hm4 ha2 => ?_⟩
      rw [set_set']
      refine va_nil ?_
      refine ⟨_, rfl, by omega, by omega, ?_⟩
      have hup : (upto 0 ((m : Nat) : Int).toNat).length = m := by simp [upto]
      refine ⟨by rw [hup]; omega, fun i acc μ' => ∃ (a3 : Nat) (big3 : Int), μ' = μ.set j (l, penO cs a3 big3) ∧ a3 ≤ a + 2 + i * BN n ∧ acc.length = i ∧ ∀ x ∈ acc, VY n x, ⟨a2, big2, rfl, by omega, rfl, by simp⟩, fun i d acc μ' hd hI q1' => ?_, fun acc μ' l2 hI => ?_⟩
      · obtain ⟨a3, big3, rfl, ha3, hal, hac⟩ := hI
        have hi : i < m := by
          have := (List.getElem?_eq_some_iff.mp hd).1
          rw [hup] at this
          exact this
        have him : i * BN n ≤ 2 * BN n := Nat.mul_le_mul_right _ (by omega)
        refine vg_name 4 (fx.bk _ q1').kx ?_ -- at
        intro q1'
        refine vif_nil ?_
        simp only [if_true]
        intro q1'
        refine ve_frzE ?_
        refine ve_call c_law_value (fx.bk _ q1') ?_
        refine va_cons ?_
        refine ve_name 0 ?_ -- pen
        refine va_cons ?_
        refine ve_sub ?_
        refine ve_name 1 ?_ -- deep
        refine ve_int ?_
        refine wop_subI ?_
        refine va_nil ?_
        have hs1 : (i + 1) * BN n = i * BN n + BN n := by rw [Nat.add_mul, Nat.one_mul]
        refine ⟨l, j, cs, a3, big3, by rw [show ((n + 1 : Nat) : Int) - 1 = (n : Nat) by omega]; rfl, at_set hj, hc, by omega, fun d t a4 big4 hd _ _ ha4 => ?_, fun m' l3 xs a4 big4 hm' hx3 hxs ha4 => ?_⟩
        · rw [set_set']
          refine .inl ⟨a4, big4, rfl, by omega, by rw [List.length_append, hal]; rfl, fun x hx => ?_⟩
          rcases List.mem_append.mp hx with hx | hx
          · exact hac x hx
          · rw [List.mem_singleton] at hx; subst hx; exact hd
        · rw [set_set']
          subst hm'
          refine .inr ⟨_, l3, xs, rfl, at_end, ?_⟩
          rw [del_end]
          refine ⟨a4, big4, rfl, by omega, by rw [List.length_append, hal]; rfl, fun x hx => ?_⟩
          rcases List.mem_append.mp hx with hx | hx
          · exact hac x hx
          · rw [List.mem_singleton] at hx; subst hx; exact .lst hx3 hxs
      · obtain ⟨a3, big3, rfl, ha3, hal, hac⟩ := hI
        rw [hup] at ha3 hal
        have him : m * BN n ≤ 3 * BN n := Nat.mul_le_mul_right _ (by omega)
        refine vss_one ?_
        refine vs_ret ?_
        refine ve_ifS ?_
        refine vt_cmp .lt ?_
        refine ve_name 2 ?_ -- way
        refine ve_int ?_
        refine wop_ltI ?_
        refine ⟨_, rfl, ?_⟩
        refine ⟨fun hk2 => ?_, fun hk2 => ?_⟩
        · refine ve_name 3 ?_ -- some
          exact ⟨_, List.Sublist.refl _, q2 n l2 acc a3 big3 rfl (by omega) hac (by rw [hb2]; omega)⟩
        · refine ve_cty call_tuple_of b.tuple boot_tuple ?_
          refine va_cons ?_
          refine ve_name 3 ?_ -- some
          refine va_nil ?_
          refine wc_tup_mutS at_end ?_
          exact ⟨_, List.sublist_append_left _ _, q1 (.tup acc) "tuple" a3 big3 (.tup (by omega) hac) rfl (by decide) (by rw [hb2]; omega)⟩
    · skip
      refine vss_nil ?_
      refine vss_one ?_
      refine vs_ret ?_
      refine ve_call c_law_pick fx ?_
      refine va_cons ?_
      refine ve_name 0 ?_ -- pen
      refine va_cons ?_
      refine ve_lst ?_
      refine va_cons ?_
      refine ve_non ?_
      refine va_cons ?_
      refine ve_bl ?_
      refine va_cons ?_
      refine ve_int ?_
      refine va_cons ?_
      refine ve_int ?_
      refine va_cons ?_
      refine ve_neg ?_
      refine ve_int ?_
      refine wun_neg ?_
      refine va_cons ?_
      refine ve_pow ?_
      refine ve_int ?_
      refine ve_int ?_
      refine wop_powI ⟨by decide, by decide, by decide⟩ ?_
      refine va_cons ?_
      refine ve_str ?_
      refine va_cons ?_
      refine ve_str ?_
      refine va_cons ?_
      refine ve_str ?_
      refine va_cons ?_
      refine ve_str ?_
      refine va_cons ?_
      refine ve_dctE ?_
      refine va_cons ?_
      refine ve_frzD ?_
      refine ve_disp1 ?_
      refine ve_str ?_
      refine ve_int ?_
      refine ⟨.inr "a", rfl, fun ld => ?_⟩
      refine ⟨_, ld, _, rfl, at_end, ?_⟩
      rw [del_end]
      refine va_nil ?_
      refine ⟨by decide, ?_⟩
      refine va_nil ?_
      refine ⟨l, j, cs, a1, big1, _, leafsD, rfl, at_set hj, hc, by omega, by decide, by decide, .inl rfl, fun d a2 big2 hd ha2 => ?_⟩
      rw [set_set']
      obtain ⟨t, ht, hn⟩ := leaf_ty hd
      exact ⟨_, List.Sublist.refl _, q1 d t a2 big2 (leaf_VY hd) ht hn (by rw [hb2]; omega)⟩
/-! ### == of papers of such values -/
def S_Paper_eqX (K : PySem.W.Frag) (CP : Addr) : FSpec := fun ds μ P _ => ∃ (C1 : Addr) (n1 w1 : Str) (f1 : List (Str × D)) (p1 y : D), ds = [.ins C1 f1, y] ∧ PcF K CP C1 n1 ∧ f1.lookup ("word" : Str) = some (.str w1) ∧ f1.lookup ("parts" : Str) = some p1 ∧
  ((∃ (C2 : Addr) (n2 w2 : Str) (f2 : List (Str × D)) (p2 : D) (n : Nat), y = .ins C2 f2 ∧ n ≤ 50 ∧ PcF K CP C2 n2 ∧ f2.lookup ("word" : Str) = some (.str w2) ∧ f2.lookup ("parts" : Str) = some p2 ∧ VX n p1 ∧ VX n p2 ∧ P (.bl (decide (n2 = n1) && (decide (w1 = w2) && eqX p1 p2))) μ) ∨
   (∃ xs, y = .tup xs ∧ PySem.W.kitOne K (.type "tuple") (.ref CP) = some false ∧ P (.bl false) μ))
theorem sc_Paper_eq33 : FnScope ["self", "other"] ["self", "other"] (defScope s_Paper_eq) := ⟨rfl, rfl, rfl, by decide +kernel, rfl, by decide +kernel, by decide +kernel⟩
theorem ok_Paper_eqX (F : FnQ K "__eq__" "Paper.__eq__" s_Paper_eq [] f fd) (b : Bi mg) (gP : mg "Paper" = some (.ref CP)) : FnOk P w K mg base (L2.CX P w) 1 f fd ["self", "other"] (spOf K (S_Paper_eqX K CP)) := by
  refine fn_ok F sc_Paper_eq33 (fun ds μ P R ⟨_, _, _, _, _, _, e, _⟩ => by subst e; rfl) fun cdv A outer s H E ds μ Q R => ?_
  intro X fx ow h
  obtain ⟨C1, n1, w1, f1, p1, y, rfl, k1, lw1, lp1, h⟩ := h
  refine vss_cons ?_
  refine vs_if ?_
  rcases h with ⟨C2, n2, w2, f2, p2, n, rfl, hn, k2, lw2, lp2, o1, o2, q⟩ | ⟨xs, rfl, hk, q⟩
  · apply vt_or2 (ka := false) (kb := !decide (n2 = n1))
    · refine vt_not ?_
      refine vt_val ?_
      refine ve_cb call_isiA b.isinstance boot_isinstance ?_
      refine va_cons ?_
      refine ve_name 1 ?_ -- other
      refine va_cons ?_
      refine ve_glob (v := .ref CP) (d := .ref CP) gP rfl (fun F => .ref CP) ?_
      refine va_nil ?_
      refine wc_isiC (.inr ⟨C2, f2, rfl, k2.nf.ins, rfl⟩) k2.isp ?_
      refine ⟨_, rfl, ?_⟩
      exact ⟨rfl, rfl⟩
    · intro hk
      refine vw_or1 ?_
      refine vt_cmp (.of op_ne) ?_
      refine ve_clsname ?_
      refine ve_name 1 ?_ -- other
      refine ⟨C2, f2, n2, rfl, k2.nf, ?_⟩
      refine ve_clsname ?_
      refine ve_name 0 ?_ -- self
      refine ⟨C1, f1, n1, rfl, k1.nf, ?_⟩
      refine wop_neS ?_
      refine ⟨_, rfl, ?_⟩
      exact ⟨rfl, rfl⟩
    refine ⟨fun hk => ?_, fun hk => ?_⟩
    · refine vss_one ?_
      refine vs_ret ?_
      refine ve_bl ?_
      rw [Bool.false_or, Bool.not_eq_true'] at hk
      rw [hk] at q
      exact ⟨μ, List.Sublist.refl _, q⟩
    · rw [Bool.false_or, Bool.not_eq_false'] at hk
      rw [hk, Bool.true_and] at q
      refine vss_nil ?_
      refine vss_one ?_
      refine vs_ret ?_
      refine ve_cty call_bool1 b.bool boot_bool ?_
      refine va_cons ?_
      apply ve_and2 (ka := decide (w1 = w2)) (kb := eqX p1 p2)
      · refine ve_cmp (.of op_eq) ?_
        refine ve_fld ?_
        refine ve_name 0 ?_ -- self
        refine ⟨_, fld_at k1.pap.c k1.pap.word lw1, ?_⟩
        refine ve_fld ?_
        refine ve_name 1 ?_ -- other
        refine ⟨_, fld_at k2.pap.c k2.pap.word lw2, ?_⟩
        refine wop_eqS ?_
        exact ⟨rfl, rfl⟩
      · intro hk
        refine ve_one ?_
        refine ve_cmp (.of (op_eqX fx.kx.u64)) ?_
        refine ve_fld ?_
        refine ve_name 0 ?_ -- self
        refine ⟨_, fld_at k1.pap.c k1.pap.parts lp1, ?_⟩
        refine ve_fld ?_
        refine ve_name 1 ?_ -- other
        refine ⟨_, fld_at k2.pap.c k2.pap.parts lp2, ?_⟩
        refine wop_eqX o1 o2 hn ?_
        exact ⟨rfl, rfl⟩
      refine va_nil ?_
      refine wc_bool ?_
      exact ⟨μ, List.Sublist.refl _, q⟩
  · apply vt_or2 (ka := true) (kb := true)
    · refine vt_not ?_
      refine vt_val ?_
      refine ve_cb call_isiA b.isinstance boot_isinstance ?_
      refine va_cons ?_
      refine ve_name 1 ?_ -- other
      refine va_cons ?_
      refine ve_glob (v := .ref CP) (d := .ref CP) gP rfl (fun F => .ref CP) ?_
      refine va_nil ?_
      refine wc_isiC (.inl ⟨_, rfl, rfl⟩) hk ?_
      refine ⟨_, rfl, ?_⟩
      exact ⟨rfl, rfl⟩
    · intro hk
      cases hk
    refine ⟨fun hk => ?_, fun hk => by cases hk⟩
    refine vss_one ?_
    refine vs_ret ?_
    refine ve_bl ?_
    exact ⟨μ, List.Sublist.refl _, q⟩
end
/-! ### == is the same either way about -/
mutual
theorem eqvC : ∀ d e : PyData, PyData.eqv d e = PyData.eqv e d
  | .none, e => by cases e <;> rfl
  | .bool a, e => by
    cases e with
    | bool b => cases a <;> cases b <;> rfl
    | int j => show ((if a then (1 : Int) else 0) == j) = (j == (if a then (1 : Int) else 0)); exact Bool.beq_comm
    | _ => rfl
  | .int i, e => by
    cases e with
    | bool b => show (i == (if b then (1 : Int) else 0)) = ((if b then (1 : Int) else 0) == i); exact Bool.beq_comm
    | int j => show (i == j) = (j == i); exact Bool.beq_comm
    | _ => rfl
  | .str x, e => by
    cases e with
    | str y => show (x == y) = (y == x); exact Bool.beq_comm
    | _ => rfl
  | .list xs, e => by
    cases e with
    | list ys => exact eqvsC xs ys
    | _ => rfl
  | .tuple xs, e => by
    cases e with
    | tuple ys => exact eqvsC xs ys
    | _ => rfl
  | .dict _, e => by cases e <;> rfl
theorem eqvsC : ∀ xs ys : List PyData, PyData.eqvAll xs ys = PyData.eqvAll ys xs
  | [], [] => rfl
  | [], _ :: _ => rfl
  | _ :: _, [] => rfl
  | x :: xs, y :: ys => by
    rw [PyData.eqvAll, PyData.eqvAll, eqvC x y, eqvsC xs ys]
end
theorem eqX_comm (d e : D) : eqX d e = eqX e d := eqvC _ _
theorem eqX_two {a b c : D} {n : Nat} (ha : VX n a) : eqX (.tup [a, b]) (.tup [a, c]) = eqX b c := by
  show (PyData.eqv (encX a) (encX a) && (PyData.eqv (encX b) (encX c) && true)) = _
  rw [show PyData.eqv (encX a) (encX a) = true from eqX_refl ha, Bool.and_true, Bool.true_and]
  rfl
theorem eqX_two' {a b c : D} {n : Nat} (ha : VX n a) : eqX (.tup [b, a]) (.tup [c, a]) = eqX b c := by
  show (PyData.eqv (encX b) (encX c) && (PyData.eqv (encX a) (encX a) && true)) = _
  rw [show PyData.eqv (encX a) (encX a) = true from eqX_refl ha, Bool.and_true, Bool.and_true]
  rfl
end VK
set_option Elab.async false
set_option linter.all false
set_option maxRecDepth 100000
set_option maxHeartbeats 4000000
/-! KY: drawn ropes. -/
namespace VK
open PySem PySem.Spec PyProof.Rows L2 VL
section
variable {P : Program} {w : World} {K : PySem.W.Frag} {mg : Str → Option Value} {base : Heap} {f : Addr} {fd : FuncData} {CS CW : Addr}
theorem pop_mem {ps : List Str} (nd : ps.Nodup) {i : Nat} (hi : i < ps.length) {d : D} (h : d ∈ (ps.map D.str).eraseIdx i) : ∃ s, d = .str s ∧ s ∈ ps ∧ ps[i] ≠ s := by
  rw [List.mem_eraseIdx_iff_getElem] at h
  obtain ⟨k, hk, ne, e⟩ := h
  rw [List.length_map] at hk
  rw [List.getElem_map] at e
  exact ⟨ps[k], e.symm, List.getElem_mem hk, fun e2 => ne ((List.getElem_inj nd).mp e2).symm⟩
def S_law_rope : FSpec := fun ds μ P _ => ∃ (l : Addr) (j : Nat) (cs : List Int) (a : Nat) (big : Int) (nm : D) (ps : List Str), ds = [.ref l, nm, .lst (ps.map D.str)] ∧ μ[j]? = some (l, penO cs a big) ∧ cs.length ≤ 63 ∧ a ≤ 80000 ∧ ps.Nodup ∧ 2 ≤ ps.length ∧ ps.length ≤ 1000 ∧
  ∀ (one other : Str) (a' : Nat) (big' : Int), one ∈ ps → other ∈ ps → one ≠ other → a' ≤ a + 2 → P (.tup [nm, .str one, .str other]) (μ.set j (l, penO cs a' big'))
def S_law_least (CS : Addr) : FSpec := fun ds μ P _ => ∃ (n : Nat) (ps : List Str) (rs : List Rope), ds = [strucD CS n ps rs] ∧ StOk n ps rs ∧ sortS ps = ps ∧ 2 ≤ ps.length ∧ ∀ v, LeastC n ps rs v → P (.int v) μ
end
end VK
set_option Elab.async false
set_option linter.all false
set_option maxRecDepth 100000
set_option maxHeartbeats 4000000
/-! KZ1: drawn structures. -/
namespace VK
open PySem PySem.Spec PyProof.Rows L2 VL
def numS (p : Str) (i : Nat) : Str := p ++ (toString ((i : Nat) : Int))
theorem num_len : ∀ i < 40, ((toString ((i : Nat) : Int)) : Str).length ≤ 10 := by decide +kernel
theorem num_nm : ∀ i < 40, nameB (numS "r" i) = true ∧ nameB (numS "n" i) = true ∧ nameB (numS "m" i) = true ∧ nameB (numS "far" i) = true := by decide +kernel
theorem num_nd : ((List.range 40).map (numS "r") ++ (List.range 5).map (numS "n") ++ (List.range 40).map (numS "m")).Nodup := by decide +kernel
theorem far_nd : ((List.range 6).map (numS "far")).Nodup := by decide +kernel
def MENUS : List (List Str) := [["a", "b", "c", "d", "e", "f", "g"], ["z9", "mast", "a", "b1", "tent", "q", "r"], ["p", "pp", "p0", "ppp", "x", "y", "zzzzzzzzzzz9"]]
theorem menus_ok : ∀ m ∈ MENUS, m.length = 7 ∧ m.Nodup ∧ (∀ s ∈ m, nameB s = true) ∧ ∀ i < 6, numS "far" i ∉ m := by decide +kernel
/-- what is drawn -/
structure ShapeOk (most ropes : Nat) (ps : List Str) (rs : List Rope) : Prop where
  menu : ∃ m ∈ MENUS, ∃ k, 1 ≤ k ∧ k ≤ most ∧ ps = m.take k
  names : rs.map (·.1) = (List.range rs.length).map (numS "r")
  few : rs.length ≤ ropes
  e1 : ∀ r ∈ rs, r.2.1 ∈ ps
  e2 : ∀ r ∈ rs, r.2.2 ∈ ps
  ne : ∀ r ∈ rs, r.2.1 ≠ r.2.2
section
variable {P : Program} {w : World} {K : PySem.W.Frag} {mg : Str → Option Value} {base : Heap} {f : Addr} {fd : FuncData}
def S_law_shape : FSpec := fun ds μ P _ => ∃ (l : Addr) (j : Nat) (cs : List Int) (a : Nat) (big : Int) (most ropes : Nat), ds = [.ref l, .int (most : Nat), .int (ropes : Nat)] ∧ μ[j]? = some (l, penO cs a big) ∧ cs.length ≤ 63 ∧ a ≤ 70000 ∧ 1 ≤ most ∧ most ≤ 7 ∧ ropes ≤ 30 ∧
  ∀ (dim : Nat) (ps : List Str) (rs : List Rope) (a' : Nat) (big' : Int), 1 ≤ dim → dim ≤ 3 → ShapeOk most ropes ps rs → a' ≤ a + 100 → P (.tup [.int (dim : Nat), .lst (ps.map D.str), .lst (rs.map ropeD)]) (μ.set j (l, penO cs a' big'))
end
end VK
set_option Elab.async false
set_option linter.all false
set_option maxRecDepth 100000
set_option maxHeartbeats 4000000
/-! KN: plain law: a rope more, two structures glued at a piece. -/
namespace VK
open PySem VL
theorem crossC_perm {c : Str → Int} {rs ts : List Rope} (h : rs.Perm ts) : crossC c rs = crossC c ts := h.countP_eq _
theorem crossC_cons {c : Str → Int} {r : Rope} {rs : List Rope} : crossC c (r :: rs) = crossC c rs + if c r.2.1 = c r.2.2 then 0 else 1 := by
  unfold crossC
  rw [List.countP_cons]
  by_cases h : c r.2.1 = c r.2.2 <;> simp [h]
theorem crossC_app {c : Str → Int} {rs ts : List Rope} : crossC c (rs ++ ts) = crossC c rs + crossC c ts := List.countP_append
theorem crossC_congr {c d : Str → Int} {rs : List Rope} (h : ∀ r ∈ rs, (c r.2.1 = c r.2.2 ↔ d r.2.1 = d r.2.2)) : crossC c rs = crossC d rs := by
  unfold crossC
  refine List.countP_congr fun r hr => ?_
  have := h r hr
  simp only [Bool.not_eq_true', decide_eq_false_iff_not, this]
theorem Cols.mem {c : Str → Int} {ps qs : List Str} {k : Nat} (h : Cols c ps k) (e : ∀ s, s ∈ ps ↔ s ∈ qs) : Cols c qs k := by
  obtain ⟨L, nd, len, m⟩ := h
  exact ⟨L, nd, len, fun x => (m x).trans ⟨fun ⟨s, a, b⟩ => ⟨s, (e s).mp a, b⟩, fun ⟨s, a, b⟩ => ⟨s, (e s).mpr a, b⟩⟩⟩
theorem LeastC.same {n : Nat} {ps qs : List Str} {rs ts : List Rope} {v : Int} (h : LeastC n ps rs v) (e : ∀ s, s ∈ ps ↔ s ∈ qs) (p : rs.Perm ts) : LeastC n qs ts v := by
  have ec : ∀ c k, costC n rs c k = costC n ts c k := fun c k => by unfold costC; rw [crossC_perm p]
  obtain ⟨c, k, h1, h2, h3⟩ := h.ex
  exact ⟨⟨c, k, h1.mem e, h2, by rw [← ec]; exact h3⟩, fun c k h1 h2 => by rw [← ec]; exact h.le c k (h1.mem fun s => (e s).symm) h2⟩
/-- a rope more -/
theorem least_more {n : Nat} {ps : List Str} {rs : List Rope} {r : Rope} {v u : Int} (h : LeastC n ps rs v) (h' : LeastC n ps (r :: rs) u) : v ≤ u ∧ u ≤ v + 1 := by
  have ec : ∀ c k, costC n rs c k ≤ costC n (r :: rs) c k ∧ costC n (r :: rs) c k ≤ costC n rs c k + 1 := fun c k => by
    unfold costC
    rw [crossC_cons]
    split <;> omega
  obtain ⟨c, k, h1, h2, h3⟩ := h.ex
  obtain ⟨c', k', h1', h2', h3'⟩ := h'.ex
  have a1 := h.le c' k' h1' h2'
  have a2 := h'.le c k h1 h2
  have b1 := ec c k
  have b2 := ec c' k'
  omega
theorem nodup_sub : ∀ {L M : List Int}, L.Nodup → (∀ x ∈ L, x ∈ M) → L.length ≤ M.length
  | [], _, _, _ => Nat.zero_le _
  | x :: L, M, nd, h => by
    obtain ⟨n1, n2⟩ := List.nodup_cons.mp nd
    have hx := h x (List.mem_cons_self)
    have ih := nodup_sub (M := M.erase x) n2 fun y hy => (List.mem_erase_of_ne (fun e : y = x => n1 (by rw [← e]; exact hy))).mpr (h y (List.mem_cons_of_mem _ hy))
    rw [List.length_erase_of_mem hx] at ih
    have := List.length_pos_of_mem hx
    rw [List.length_cons]
    omega
theorem Cols.ex (c : Str → Int) : ∀ ps : List Str, ∃ k, Cols c ps k
  | [] => ⟨0, [], List.nodup_nil, rfl, fun x => by simp⟩
  | s :: ps => by
    obtain ⟨k, L, nd, len, m⟩ := Cols.ex c ps
    by_cases h : c s ∈ L
    · refine ⟨k, L, nd, len, fun x => (m x).trans ⟨fun ⟨t, a, b⟩ => ⟨t, List.mem_cons_of_mem _ a, b⟩, fun ⟨t, a, b⟩ => ?_⟩⟩
      rcases List.mem_cons.mp a with rfl | a
      · rw [b] at h; exact (m x).mp h
      · exact ⟨t, a, b⟩
    · refine ⟨k + 1, c s :: L, List.nodup_cons.mpr ⟨h, nd⟩, by rw [List.length_cons, len], fun x => ?_⟩
      rw [List.mem_cons, m]
      constructor
      · rintro (rfl | ⟨t, a, b⟩)
        · exact ⟨s, List.mem_cons_self, rfl⟩
        · exact ⟨t, List.mem_cons_of_mem _ a, b⟩
      · rintro ⟨t, a, b⟩
        rcases List.mem_cons.mp a with rfl | a
        · exact .inl b.symm
        · exact .inr ⟨t, a, b⟩
theorem Cols.pos {c : Str → Int} {ps : List Str} {k : Nat} {x : Str} (h : Cols c ps k) (hx : x ∈ ps) : 1 ≤ k := by
  obtain ⟨L, nd, len, m⟩ := h
  rw [← len]
  exact List.length_pos_of_mem ((m (c x)).mpr ⟨x, hx, rfl⟩)
section
variable {n : Nat} {P1 P2 PB : List Str} {R1 R2 RB : List Rope} {x : Str} {v1 v2 v : Int}
/-- two structures that share one piece -/
structure Glue (P1 P2 PB : List Str) (R1 R2 RB : List Rope) (x : Str) : Prop where
  x1 : x ∈ P1
  x2 : x ∈ P2
  one : ∀ s, s ∈ P1 → s ∈ P2 → s = x
  mem : ∀ s, s ∈ PB ↔ s ∈ P1 ∨ s ∈ P2
  perm : RB.Perm (R1 ++ R2)
  a1 : ∀ r ∈ R1, r.2.1 ∈ P1 ∧ r.2.2 ∈ P1
  a2 : ∀ r ∈ R2, r.2.1 ∈ P2 ∧ r.2.2 ∈ P2
theorem Glue.swap (g : Glue P1 P2 PB R1 R2 RB x) : Glue P2 P1 PB R2 R1 RB x := ⟨g.x2, g.x1, fun s a b => g.one s b a, fun s => (g.mem s).trans Or.comm, g.perm.trans List.perm_append_comm, g.a2, g.a1⟩
theorem Glue.cost (g : Glue P1 P2 PB R1 R2 RB x) (c : Str → Int) (k : Nat) : costC n RB c k = ((crossC c R1 : Nat) : Int) + ((crossC c R2 : Nat) : Int) - gradeOf n * ((k : Nat) - 1) := by
  unfold costC
  rw [crossC_perm g.perm, crossC_app]
  push_cast
  rfl
theorem glue_le1 (g : Glue P1 P2 PB R1 R2 RB x) (h1 : LeastC n P1 R1 v1) (h : LeastC n PB RB v) : v ≤ v1 := by
  obtain ⟨c, k, ⟨L, nd, len, m⟩, hk, e⟩ := h1.ex
  have hd : ∀ s ∈ P2, (if s ∈ P1 then c s else c x) = c x := fun s hs => by
    by_cases a : s ∈ P1
    · rw [if_pos a, g.one s a hs]
    · rw [if_neg a]
  have := h.le (fun s => if s ∈ P1 then c s else c x) k ⟨L, nd, len, fun y => (m y).trans ⟨fun ⟨s, a, b⟩ => ⟨s, (g.mem s).mpr (.inl a), (if_pos a).trans b⟩, fun ⟨s, a, b⟩ => ?_⟩⟩ hk
  · rw [g.cost] at this
    have e1 : crossC (fun s => if s ∈ P1 then c s else c x) R1 = crossC c R1 := crossC_congr fun r hr => by
      obtain ⟨p, q⟩ := g.a1 r hr
      simp only [if_pos p, if_pos q]
    have e2 : crossC (fun s => if s ∈ P1 then c s else c x) R2 = 0 := by
      unfold crossC
      rw [List.countP_eq_zero]
      intro r hr
      obtain ⟨p, q⟩ := g.a2 r hr
      simp only [hd _ p, hd _ q]
      simp
    rw [e1, e2] at this
    unfold costC at e
    omega
  · by_cases p : s ∈ P1
    · exact ⟨s, p, (if_pos p).symm.trans b⟩
    · exact ⟨x, g.x1, (if_neg p).symm.trans b⟩
theorem glue_le2 (g : Glue P1 P2 PB R1 R2 RB x) (h1 : LeastC n P1 R1 v1) (h2 : LeastC n P2 R2 v2) (h : LeastC n PB RB v) : v ≤ v1 + v2 := by
  obtain ⟨c, k, ⟨L, nd, len, m⟩, hk, e⟩ := h1.ex
  obtain ⟨d, k2, ⟨L2, nd2, len2, m2⟩, hk2, e2⟩ := h2.ex
  have hx2 : d x ∈ L2 := (m2 _).mpr ⟨x, g.x2, rfl⟩
  let f : Str → Int := fun s => if s ∈ P1 then 2 * c s else if d s = d x then 2 * c x else 2 * d s + 1
  have f1 : ∀ s ∈ P1, f s = 2 * c s := fun s hs => if_pos hs
  have f2 : ∀ s ∈ P2, f s = if d s = d x then 2 * c x else 2 * d s + 1 := fun s hs => by
    by_cases p : s ∈ P1
    · have := g.one s p hs
      subst this
      rw [f1 _ p, if_pos rfl]
    · exact if_neg p
  have hlen : ((L.map fun y => 2 * y) ++ ((L2.erase (d x)).map fun y => 2 * y + 1)).length = k + k2 - 1 := by
    rw [List.length_append, List.length_map, List.length_map, List.length_erase_of_mem hx2, len, len2]
    omega
  have hc : Cols f PB (k + k2 - 1) := by
    refine ⟨(L.map fun y => 2 * y) ++ ((L2.erase (d x)).map fun y => 2 * y + 1), ?_, hlen, fun y => ?_⟩
    · refine List.nodup_append.mpr ⟨nd.map _ (fun a b h e => h (by omega)), (nd2.erase _).map _ (fun a b h e => h (by omega)), fun a ha b hb e => ?_⟩
      obtain ⟨p, _, rfl⟩ := List.mem_map.mp ha
      obtain ⟨q, _, rfl⟩ := List.mem_map.mp hb
      omega
    · rw [List.mem_append, List.mem_map, List.mem_map]
      constructor
      · rintro (⟨z, hz, rfl⟩ | ⟨z, hz, rfl⟩)
        · obtain ⟨s, a, b⟩ := (m z).mp hz
          exact ⟨s, (g.mem s).mpr (.inl a), by rw [f1 s a, b]⟩
        · obtain ⟨hz1, hz2⟩ := (List.Nodup.mem_erase_iff nd2).mp hz
          obtain ⟨s, a, b⟩ := (m2 z).mp hz2
          exact ⟨s, (g.mem s).mpr (.inr a), by rw [f2 s a, b, if_neg hz1]⟩
      · rintro ⟨s, a, b⟩
        by_cases p : s ∈ P1
        · exact .inl ⟨c s, (m _).mpr ⟨s, p, rfl⟩, by rw [← b, f1 s p]⟩
        · have a2 : s ∈ P2 := ((g.mem s).mp a).resolve_left p
          rw [f2 s a2] at b
          by_cases q : d s = d x
          · rw [if_pos q] at b
            exact .inl ⟨c x, (m _).mpr ⟨x, g.x1, rfl⟩, b⟩
          · rw [if_neg q] at b
            exact .inr ⟨d s, (List.Nodup.mem_erase_iff nd2).mpr ⟨q, (m2 _).mpr ⟨s, a2, rfl⟩⟩, b⟩
  have := h.le f _ hc (by omega)
  rw [g.cost] at this
  have e1 : crossC f R1 = crossC c R1 := crossC_congr fun r hr => by
    obtain ⟨p, q⟩ := g.a1 r hr
    rw [f1 _ p, f1 _ q]
    omega
  have e3 : crossC f R2 = crossC d R2 := crossC_congr fun r hr => by
    obtain ⟨p, q⟩ := g.a2 r hr
    rw [f2 _ p, f2 _ q]
    by_cases y : d r.2.1 = d x <;> by_cases z : d r.2.2 = d x
    · rw [if_pos y, if_pos z, y, z]; simp
    · rw [if_pos y, if_neg z]; omega
    · rw [if_neg y, if_pos z]; omega
    · rw [if_neg y, if_neg z]; omega
  rw [e1, e3, show (((k + k2 - 1 : Nat) : Int) - 1) = ((k : Int) - 1) + ((k2 : Int) - 1) by omega, Int.mul_add] at this
  unfold costC at e e2
  omega
theorem glue_ge (g : Glue P1 P2 PB R1 R2 RB x) (h1 : LeastC n P1 R1 v1) (h2 : LeastC n P2 R2 v2) (h : LeastC n PB RB v) (hg : 0 ≤ gradeOf n) : v1 ≤ v ∨ v2 ≤ v ∨ v1 + v2 ≤ v := by
  obtain ⟨c, k, hc, hk, e⟩ := h.ex
  obtain ⟨k1, c1⟩ := Cols.ex c P1
  obtain ⟨k2, c2⟩ := Cols.ex c P2
  have p1 := c1.pos g.x1
  have p2 := c2.pos g.x2
  have hle : k ≤ k1 + k2 - 1 := by
    obtain ⟨L, nd, len, m⟩ := hc
    obtain ⟨L1, nd1, len1, m1⟩ := c1
    obtain ⟨L2, nd2, len2, m2⟩ := c2
    have hx2 : c x ∈ L2 := (m2 _).mpr ⟨x, g.x2, rfl⟩
    have := nodup_sub (M := L1 ++ L2.erase (c x)) nd fun y hy => by
      obtain ⟨s, a, b⟩ := (m y).mp hy
      rw [List.mem_append]
      by_cases q : y = c x
      · exact .inl ((m1 _).mpr ⟨x, g.x1, q.symm⟩)
      · rcases (g.mem s).mp a with a | a
        · exact .inl ((m1 _).mpr ⟨s, a, b⟩)
        · exact .inr ((List.Nodup.mem_erase_iff nd2).mpr ⟨q, (m2 _).mpr ⟨s, a, b⟩⟩)
    rw [List.length_append, List.length_erase_of_mem hx2, len, len1, len2] at this
    omega
  rw [g.cost] at e
  have hm : gradeOf n * ((k : Int) - 1) ≤ gradeOf n * (((k1 : Int) - 1) + ((k2 : Int) - 1)) := Int.mul_le_mul_of_nonneg_left (by omega) hg
  rw [Int.mul_add] at hm
  by_cases q1 : 2 ≤ k1 <;> by_cases q2 : 2 ≤ k2
  · have := h1.le c k1 c1 q1
    have := h2.le c k2 c2 q2
    unfold costC at *
    omega
  · have := h1.le c k1 c1 q1
    have e2 : k2 = 1 := by omega
    subst e2
    unfold costC at *
    simp at *
    omega
  · have := h2.le c k2 c2 q2
    have e2 : k1 = 1 := by omega
    subst e2
    unfold costC at *
    simp at *
    omega
  · omega
/-- the least surplus of two structures glued at a piece -/
theorem glue_min (g : Glue P1 P2 PB R1 R2 RB x) (h1 : LeastC n P1 R1 v1) (h2 : LeastC n P2 R2 v2) (h : LeastC n PB RB v) (hg : 0 ≤ gradeOf n) : v ≤ v1 ∧ v ≤ v2 ∧ v ≤ v1 + v2 ∧ (v1 ≤ v ∨ v2 ≤ v ∨ v1 + v2 ≤ v) :=
  ⟨glue_le1 g h1 h, glue_le1 g.swap h2 h, glue_le2 g h1 h2 h, glue_ge g h1 h2 h hg⟩
end
end VK
set_option Elab.async false
set_option linter.all false
set_option maxRecDepth 100000
set_option maxHeartbeats 4000000
/-! KZ2: plain: what the law draws is in form. -/
namespace VK
open PySem VL
structure PcsOk (pcs : List Str) : Prop where
  nd : pcs.Nodup
  nm : ∀ s ∈ pcs, nameB s = true
  lo : 2 ≤ pcs.length
  hi : pcs.length ≤ 6
  far : ∀ i < 6, numS "far" i ∉ pcs
theorem shape_pcs {ps : List Str} {rs : List Rope} (h : ShapeOk 6 14 ps rs) (h2 : 2 ≤ ps.length) : PcsOk ps := by
  obtain ⟨m, hm, k, k1, k2, rfl⟩ := h.menu
  obtain ⟨m1, m2, m3, m4⟩ := menus_ok m hm
  exact ⟨m2.sublist (List.take_sublist _ _), fun s hs => m3 s (List.mem_of_mem_take hs), h2, by rw [List.length_take]; omega, fun i hi hm => m4 i hi (List.mem_of_mem_take hm)⟩
theorem ab_ok : PcsOk ["a", "b"] := ⟨by decide +kernel, by decide +kernel, by decide, by decide, by decide +kernel⟩
def inPcs (pcs : List Str) (r : Rope) : Bool := decide (r.2.1 ∈ pcs) && decide (r.2.2 ∈ pcs)
/-- the names that may stand, of k laps -/
def Known (k : Nat) : List Str := (List.range 40).map (numS "r") ++ (List.range k).map (numS "n")
theorem known_n : ∀ i < 5, numS "n" i ∉ Known i := by decide +kernel
theorem known_m : ∀ i < 40, numS "m" i ∉ Known 5 := by decide +kernel
theorem known_up {k : Nat} {s : Str} (h : s ∈ Known k) : s ∈ Known (k + 1) := by
  unfold Known at *
  rcases List.mem_append.mp h with h | h
  · exact List.mem_append_left _ h
  · obtain ⟨i, hi, e⟩ := List.mem_map.mp h
    have := List.mem_range.mp hi
    exact List.mem_append_right _ (List.mem_map.mpr ⟨i, List.mem_range.mpr (by omega), e⟩)
theorem known_new (k : Nat) : numS "n" k ∈ Known (k + 1) := by
  unfold Known
  exact List.mem_append_right _ (List.mem_map.mpr ⟨k, List.mem_range.mpr (by omega), rfl⟩)
theorem rows_known {ps : List Str} {rs : List Rope} (h : ShapeOk 6 14 ps rs) : ∀ r ∈ rs, r.1 ∈ Known 0 := fun r hr => by
  have h1 : r.1 ∈ rs.map (·.1) := List.mem_map.mpr ⟨r, hr, rfl⟩
  rw [h.names] at h1
  obtain ⟨i, hi, e⟩ := List.mem_map.mp h1
  have := h.few
  have := List.mem_range.mp hi
  exact List.mem_append_left _ (List.mem_map.mpr ⟨i, List.mem_range.mpr (by omega), e⟩)
theorem rows_nd {ps : List Str} {rs : List Rope} (h : ShapeOk 6 14 ps rs) : (rs.map (·.1)).Nodup := by
  rw [h.names]
  have h1 : ((List.range 40).map (numS "r")).Nodup := (List.nodup_append.mp (List.nodup_append.mp num_nd).1).1
  refine h1.sublist ((?_ : (List.range rs.length).Sublist (List.range 40)).map _)
  have := h.few
  exact List.range_sublist.mpr (by omega)
theorem known_nm {k : Nat} (hk : k ≤ 5) {s : Str} (h : s ∈ Known k) : nameB s = true := by
  rcases List.mem_append.mp h with h | h
  · obtain ⟨i, hi, rfl⟩ := List.mem_map.mp h
    exact (num_nm i (List.mem_range.mp hi)).1
  · obtain ⟨i, hi, rfl⟩ := List.mem_map.mp h
    have := List.mem_range.mp hi
    exact (num_nm i (by omega)).2.1
theorem rows_ok {ps pcs : List Str} {rs : List Rope} (h : ShapeOk 6 14 ps rs) : RsOk pcs (rs.filter (inPcs pcs)) where
  nm := fun r hr => known_nm (k := 0) (by decide) (rows_known h r (List.mem_filter.mp hr).1)
  nd := (rows_nd h).sublist (List.filter_sublist.map _)
  hi := by have := h.few; have := List.length_filter_le (inPcs pcs) rs; omega
  e1 := fun r hr => by
    have := (List.mem_filter.mp hr).2
    unfold inPcs at this
    rw [Bool.and_eq_true] at this
    exact of_decide_eq_true this.1
  e2 := fun r hr => by
    have := (List.mem_filter.mp hr).2
    unfold inPcs at this
    rw [Bool.and_eq_true] at this
    exact of_decide_eq_true this.2
  ne := fun r hr => h.ne r (List.mem_filter.mp hr).1
theorem PcsOk.ps {pcs : List Str} (o : PcsOk pcs) : PsOk pcs := ⟨o.nm, o.nd, by have := o.lo; omega, by have := o.hi; omega⟩
theorem stOk_sorted {n : Nat} {ps : List Str} {rs : List Rope} (so : StOk n ps rs) : StOk n (sortS ps) (sortR rs) := ⟨so.n1, so.n3, psOk_perm (sortS_perm ps).symm so.p, rsOk_perm (sortS_perm ps).symm (sortR_perm rs).symm so.r⟩
/-- a rope more is in form -/
theorem add_ok {n : Nat} {ps : List Str} {rs : List Rope} {i : Nat} {one other : Str} (so : StOk n ps rs) (kn : ∀ r ∈ rs, r.1 ∈ Known i) (hl : rs.length ≤ 14 + i) (hi : i < 5) (h1 : one ∈ ps) (h2 : other ∈ ps) (ne : one ≠ other) : StOk n ps (rs ++ [(numS "n" i, one, other)]) :=
  ⟨so.n1, so.n3, so.p, {
    nm := fun r hr => by
      rcases List.mem_append.mp hr with hr | hr
      · exact so.r.nm r hr
      · simp only [List.mem_singleton] at hr; subst hr; exact (num_nm i (by omega)).2.1
    nd := by
      rw [List.map_append]
      refine List.nodup_append.mpr ⟨so.r.nd, by simp, fun a ha b hb e => ?_⟩
      simp only [List.map_cons, List.map_nil, List.mem_singleton] at hb
      obtain ⟨r, hr, e2⟩ := List.mem_map.mp ha
      have := kn r hr
      rw [e2, e, hb] at this
      exact known_n i hi this
    hi := by rw [List.length_append]; simp; omega
    e1 := fun r hr => by
      rcases List.mem_append.mp hr with hr | hr
      · exact so.r.e1 r hr
      · simp only [List.mem_singleton] at hr; subst hr; exact h1
    e2 := fun r hr => by
      rcases List.mem_append.mp hr with hr | hr
      · exact so.r.e2 r hr
      · simp only [List.mem_singleton] at hr; subst hr; exact h2
    ne := fun r hr => by
      rcases List.mem_append.mp hr with hr | hr
      · exact so.r.ne r hr
      · simp only [List.mem_singleton] at hr; subst hr; exact ne }⟩
/-- a rope less -/
theorem less_perm {rs : List Rope} {name : Str} (nd : (rs.map (·.1)).Nodup) (h : name ∈ rs.map (·.1)) : ∃ r, rs.Perm (r :: rs.filter fun r => !decide (r.1 ∈ [name])) := by
  induction rs with
  | nil => cases h
  | cons r rs ih =>
    rw [List.map_cons] at nd h
    obtain ⟨n1, n2⟩ := List.nodup_cons.mp nd
    by_cases e : r.1 = name
    · refine ⟨r, ?_⟩
      have h1 : (rs.filter fun r => !decide (r.1 ∈ [name])) = rs := List.filter_eq_self.mpr fun t ht => by
        have : t.1 ≠ name := fun e2 => n1 (by rw [e, ← e2]; exact List.mem_map.mpr ⟨t, ht, rfl⟩)
        simp [this]
      rw [List.filter_cons_of_neg (by simp [e]), h1]
    · obtain ⟨t, p⟩ := ih n2 ((List.mem_cons.mp h).resolve_left fun e2 => e e2.symm)
      refine ⟨t, ?_⟩
      rw [List.filter_cons_of_pos (by simp [e])]
      exact (p.cons r).trans (List.Perm.swap ..)
theorem surp_less {n : Nat} {rs ts : List Rope} {r : Rope} {G : Gr} (p : rs.Perm (r :: ts)) : surpG n ts G = surpG n rs G ∨ surpG n ts G = surpG n rs G - 1 := by
  rw [surpG_cost, surpG_cost]
  unfold costC
  rw [crossC_perm p, crossC_cons]
  split
  · exact .inl (by omega)
  · exact .inr (by omega)
end VK
set_option Elab.async false
set_option linter.all false
set_option maxRecDepth 100000
set_option maxHeartbeats 4000000
/-! KFull: plain: what holds by itself counts as one piece. -/
namespace VK
open PySem VL
/-- each colouring of two colours or more is crossed enough -/
def Full (n : Nat) (ps : List Str) (rs : List Rope) : Prop := ∀ c k, Cols c ps k → 2 ≤ k → 0 < costC n rs c k
theorem full_least {n : Nat} {ps : List Str} {rs : List Rope} {v : Int} (h : LeastC n ps rs v) : 0 < v ↔ Full n ps rs := by
  constructor
  · intro hv c k h1 h2
    have := h.le c k h1 h2
    omega
  · intro f
    obtain ⟨c, k, h1, h2, e⟩ := h.ex
    rw [e]
    exact f c k h1 h2
theorem full_one {n : Nat} {ps : List Str} {rs : List Rope} (h : ps.length = 1) : Full n ps rs := fun c k ⟨L, nd, len, m⟩ h2 => by
  match ps, h with
  | [p], _ =>
    have := nodup_sub (M := [c p]) nd fun x hx => by
      obtain ⟨s, a, b⟩ := (m x).mp hx
      simp at a
      subst a
      simp [b]
    simp [len] at this
    omega
open Classical in
noncomputable def holdB (n : Nat) (ps : List Str) (rs : List Rope) : Bool := decide (Full n ps rs)
theorem holdB_iff {n : Nat} {ps : List Str} {rs : List Rope} : holdB n ps rs = true ↔ Full n ps rs := by
  unfold holdB
  exact @decide_eq_true_iff _ (Classical.propDecidable _)
theorem holdB_least {n : Nat} {ps : List Str} {rs : List Rope} {v : Int} (h : LeastC n ps rs v) : decide (0 < v) = holdB n ps rs := by
  rw [Bool.eq_iff_iff, decide_eq_true_iff, holdB_iff]
  exact full_least h
theorem Full.same {n : Nat} {ps qs : List Str} {rs ts : List Rope} (h : Full n ps rs) (e : ∀ s, s ∈ ps ↔ s ∈ qs) (p : rs.Perm ts) : Full n qs ts := fun c k h1 h2 => by
  have := h c k (h1.mem fun s => (e s).symm) h2
  unfold costC at this ⊢
  rw [← crossC_perm p]; exact this
theorem holdB_same {n : Nat} {ps qs : List Str} {rs ts : List Rope} (e : ∀ s, s ∈ ps ↔ s ∈ qs) (p : rs.Perm ts) : holdB n ps rs = holdB n qs ts := by
  rw [Bool.eq_iff_iff, holdB_iff, holdB_iff]
  exact ⟨fun h => h.same e p, fun h => h.same (fun s => (e s).symm) p.symm⟩
/-- the ropes within a lot -/
def inLot (A : List Str) (r : Rope) : Bool := decide (r.2.1 ∈ A) && decide (r.2.2 ∈ A)
theorem inLot_iff {A : List Str} {r : Rope} : inLot A r = true ↔ r.2.1 ∈ A ∧ r.2.2 ∈ A := by
  unfold inLot; rw [Bool.and_eq_true, decide_eq_true_iff, decide_eq_true_iff]
/-- the colours of a lot made one -/
def oneC (c : Str → Int) (LA : List Int) (y : Int) (s : Str) : Int := if c s ∈ LA then y else c s
section
variable {n : Nat} {c : Str → Int} {A V : List Str} {rs : List Rope} {x : Str} {LA : List Int}
theorem one_cross (hA : ∀ y, y ∈ LA ↔ ∃ s ∈ A, c s = y) (y : Int) (f : Rope → Bool) :
    crossC c (rs.filter (inLot A)) + crossC (oneC c LA y) (rs.filter f) ≤ crossC c rs := by
  induction rs with
  | nil => simp [crossC]
  | cons r rs ih =>
    rw [crossC_cons]
    have key : (if inLot A r = true then (if c r.2.1 = c r.2.2 then 0 else 1) else 0) + (if f r = true then (if oneC c LA y r.2.1 = oneC c LA y r.2.2 then 0 else 1) else 0) ≤ (if c r.2.1 = c r.2.2 then 0 else 1 : Nat) := by
      by_cases e : c r.2.1 = c r.2.2
      · have e2 : oneC c LA y r.2.1 = oneC c LA y r.2.2 := by unfold oneC; rw [e]
        simp [e, e2]
      · simp only [if_neg e]
        by_cases a : inLot A r = true
        · obtain ⟨a1, a2⟩ := inLot_iff.mp a
          have e2 : oneC c LA y r.2.1 = oneC c LA y r.2.2 := by
            unfold oneC
            rw [if_pos ((hA _).mpr ⟨_, a1, rfl⟩), if_pos ((hA _).mpr ⟨_, a2, rfl⟩)]
          simp [a, e2]
        · simp only [if_neg a]
          split
          · split <;> omega
          · omega
    have e1 : crossC c ((r :: rs).filter (inLot A)) = crossC c (rs.filter (inLot A)) + if inLot A r = true then (if c r.2.1 = c r.2.2 then 0 else 1) else 0 := by
      rw [List.filter_cons]
      split
      · rw [crossC_cons]
      · rfl
    have e3 : crossC (oneC c LA y) ((r :: rs).filter f) = crossC (oneC c LA y) (rs.filter f) + if f r = true then (if oneC c LA y r.2.1 = oneC c LA y r.2.2 then 0 else 1) else 0 := by
      rw [List.filter_cons]
      split
      · rw [crossC_cons]
      · rfl
    rw [e1, e3]
    omega
/-- how many colours: of a lot, and of the others with the lot as one -/
theorem one_cols {U : List Str} {k kA kV : Nat} (h : Cols c U k) (hA : LA.Nodup ∧ LA.length = kA ∧ ∀ y, y ∈ LA ↔ ∃ s ∈ A, c s = y) (xA : x ∈ A) (xV : x ∈ V) (cov : ∀ s ∈ U, s ∈ A ∨ s ∈ V) (hV : Cols (oneC c LA (c x)) V kV) : k ≤ kA + kV - 1 := by
  obtain ⟨L, nd, len, m⟩ := h
  obtain ⟨ndA, lenA, mA⟩ := hA
  obtain ⟨LV, ndV, lenV, mV⟩ := hV
  have hx : c x ∈ LA := (mA _).mpr ⟨x, xA, rfl⟩
  have hxV : c x ∈ LV := (mV _).mpr ⟨x, xV, if_pos hx⟩
  have := nodup_sub (M := LA ++ LV.erase (c x)) nd fun y hy => by
    obtain ⟨s, a, b⟩ := (m y).mp hy
    rw [List.mem_append]
    by_cases q : y ∈ LA
    · exact .inl q
    · right
      rcases cov s a with a | a
      · exact absurd ((mA y).mpr ⟨s, a, b⟩) q
      · refine (List.Nodup.mem_erase_iff ndV).mpr ⟨fun e => q (by rw [e]; exact hx), (mV y).mpr ⟨s, a, ?_⟩⟩
        unfold oneC
        rw [b, if_neg q]
  rw [List.length_append, List.length_erase_of_mem hxV, len, lenA, lenV] at this
  have := List.length_pos_of_mem hx
  have := List.length_pos_of_mem hxV
  omega
theorem one_cost {k kA kV : Nat} {C A' B' g : Int} (hk : 2 ≤ k) (hA : 1 ≤ kA) (hV : 1 ≤ kV) (hle : k ≤ kA + kV - 1) (hg : 0 ≤ g) (h1 : 2 ≤ kA → 0 < A' - g * ((kA : Nat) - 1)) (h2 : 2 ≤ kV → 0 < B' - g * ((kV : Nat) - 1)) (a0 : 0 ≤ A') (b0 : 0 ≤ B') (h : A' + B' ≤ C) : 0 < C - g * ((k : Nat) - 1) := by
  have hm : g * ((k : Int) - 1) ≤ g * (((kA : Int) - 1) + ((kV : Int) - 1)) := Int.mul_le_mul_of_nonneg_left (by omega) hg
  rw [Int.mul_add] at hm
  by_cases q1 : 2 ≤ kA
  · have := h1 q1
    by_cases q2 : 2 ≤ kV
    · have := h2 q2
      omega
    · have e : kV = 1 := by omega
      subst e
      simp at *
      omega
  · have e : kA = 1 := by omega
    subst e
    have := h2 (by omega)
    simp at *
    omega
/-- two lots that share a piece -/
theorem full_union {B U : List Str} (hA : Full n A (rs.filter (inLot A))) (hB : Full n B (rs.filter (inLot B))) (xA : x ∈ A) (xB : x ∈ B) (hU : ∀ s, s ∈ U ↔ s ∈ A ∨ s ∈ B) (hg : 0 ≤ gradeOf n) : Full n U (rs.filter (inLot U)) := fun c k hc hk => by
  obtain ⟨kA, LA, ndA, lenA, mA⟩ := Cols.ex c A
  obtain ⟨kB, hkB⟩ := Cols.ex (oneC c LA (c x)) B
  have le := one_cols hc ⟨ndA, lenA, mA⟩ xA xB (fun s hs => (hU s).mp hs) hkB
  have pA := Cols.pos ⟨LA, ndA, lenA, mA⟩ xA
  have pB := hkB.pos xB
  have cr := one_cross (rs := rs.filter (inLot U)) mA (c x) (inLot B)
  have eA : (rs.filter (inLot U)).filter (inLot A) = rs.filter (inLot A) := by
    rw [List.filter_filter]
    refine List.filter_congr fun r _ => ?_
    rw [Bool.eq_iff_iff, Bool.and_eq_true, inLot_iff, inLot_iff]
    exact ⟨fun h => h.1, fun h => ⟨h, (hU _).mpr (.inl h.1), (hU _).mpr (.inl h.2)⟩⟩
  have eB : (rs.filter (inLot U)).filter (inLot B) = rs.filter (inLot B) := by
    rw [List.filter_filter]
    refine List.filter_congr fun r _ => ?_
    rw [Bool.eq_iff_iff, Bool.and_eq_true, inLot_iff, inLot_iff]
    exact ⟨fun h => h.1, fun h => ⟨h, (hU _).mpr (.inr h.1), (hU _).mpr (.inr h.2)⟩⟩
  rw [eA, eB] at cr
  unfold costC
  exact one_cost hk pA pB le hg (fun q => hA c kA ⟨LA, ndA, lenA, mA⟩ q) (fun q => hB _ kB hkB q) (by omega) (by omega) (by omega)
/-! ### a lot as one piece -/
def mrg (A : List Str) (z : Str) (s : Str) : Str := if s ∈ A then z else s
def mrgR (A : List Str) (z : Str) (r : Rope) : Rope := (r.1, mrg A z r.2.1, mrg A z r.2.2)
def mrgRs (A : List Str) (z : Str) (rs : List Rope) : List Rope := (rs.map (mrgR A z)).filter fun r => !decide (r.2.1 = r.2.2)
def mrgP (A : List Str) (z : Str) (ps : List Str) : List Str := z :: ps.filter fun s => !decide (s ∈ A)
theorem mrg_cross {d : Str → Int} {A : List Str} {z : Str} : ∀ {rs : List Rope}, crossC d (mrgRs A z rs) = crossC (fun s => d (mrg A z s)) rs
  | [] => rfl
  | r :: rs => by
    unfold mrgRs
    rw [List.map_cons, List.filter_cons, crossC_cons, ← mrg_cross (rs := rs)]
    by_cases e : mrg A z r.2.1 = mrg A z r.2.2
    · rw [if_neg (by simp [mrgR, e]), e]; simp [mrgRs]
    · rw [if_pos (by simp [mrgR, e]), crossC_cons]; rfl
theorem mrg_cols {d : Str → Int} {z : Str} {ps : List Str} {k : Nat} (xA : x ∈ A) (xp : x ∈ ps) (zp : z ∉ ps) : Cols d (mrgP A z ps) k ↔ Cols (fun s => d (mrg A z s)) ps k := by
  have e : ∀ y, (∃ s ∈ mrgP A z ps, d s = y) ↔ ∃ s ∈ ps, d (mrg A z s) = y := fun y => by
    constructor
    · rintro ⟨s, hs, e⟩
      rcases List.mem_cons.mp hs with rfl | hs
      · exact ⟨x, xp, by rw [mrg, if_pos xA]; exact e⟩
      · obtain ⟨h1, h2⟩ := List.mem_filter.mp hs
        have h2 : s ∉ A := by simpa using h2
        exact ⟨s, h1, by rw [mrg, if_neg h2]; exact e⟩
    · rintro ⟨s, hs, e⟩
      by_cases a : s ∈ A
      · rw [mrg, if_pos a] at e
        exact ⟨z, List.mem_cons_self, e⟩
      · rw [mrg, if_neg a] at e
        exact ⟨s, List.mem_cons_of_mem _ (List.mem_filter.mpr ⟨hs, by simpa using a⟩), e⟩
  unfold Cols
  constructor
  · rintro ⟨L, nd, len, m⟩; exact ⟨L, nd, len, fun y => (m y).trans (e y)⟩
  · rintro ⟨L, nd, len, m⟩; exact ⟨L, nd, len, fun y => (m y).trans (e y).symm⟩
/-- the least surplus of the merged is no lesser -/
theorem mrg_least {z : Str} {ps : List Str} {v u : Int} (xA : x ∈ A) (xp : x ∈ ps) (zp : z ∉ ps) (h : LeastC n ps rs v) (h' : LeastC n (mrgP A z ps) (mrgRs A z rs) u) : v ≤ u := by
  obtain ⟨d, k, h1, h2, e⟩ := h'.ex
  have := h.le _ k ((mrg_cols xA xp zp).mp h1) h2
  unfold costC at this e
  rw [mrg_cross] at e
  omega
theorem mrg_full {z : Str} {ps : List Str} (xA : x ∈ A) (sub : ∀ s ∈ A, s ∈ ps) (zp : z ∉ ps) (hr : ∀ r ∈ rs, r.2.1 ∈ ps ∧ r.2.2 ∈ ps) (hA : Full n A (rs.filter (inLot A))) (hg : 0 ≤ gradeOf n) : Full n (mrgP A z ps) (mrgRs A z rs) ↔ Full n ps rs := by
  have xp := sub x xA
  constructor
  · intro f c k hc hk
    obtain ⟨kA, LA, ndA, lenA, mA⟩ := Cols.ex c A
    obtain ⟨kV, hkV⟩ := Cols.ex (oneC c LA (c x)) ps
    have le := one_cols hc ⟨ndA, lenA, mA⟩ xA xp (fun s hs => .inr hs) hkV
    have pA := Cols.pos ⟨LA, ndA, lenA, mA⟩ xA
    have pV := hkV.pos xp
    have cr := one_cross (rs := rs) mA (c x) (fun _ => true)
    rw [List.filter_eq_self.mpr (fun _ _ => rfl)] at cr
    let d : Str → Int := fun s => if s = z then c x else oneC c LA (c x) s
    have ed : ∀ s ∈ ps, d (mrg A z s) = oneC c LA (c x) s := fun s hs => by
      by_cases a : s ∈ A
      · show (if mrg A z s = z then c x else _) = _
        rw [mrg, if_pos a, if_pos rfl, oneC, if_pos ((mA _).mpr ⟨s, a, rfl⟩)]
      · show (if mrg A z s = z then c x else oneC c LA (c x) (mrg A z s)) = _
        rw [mrg, if_neg a, if_neg fun e : s = z => zp (by rw [← e]; exact hs)]
    have hd : Cols d (mrgP A z ps) kV := (mrg_cols xA xp zp).mpr (by
      obtain ⟨L, nd, len, m⟩ := hkV
      exact ⟨L, nd, len, fun y => (m y).trans ⟨fun ⟨s, a, b⟩ => ⟨s, a, (ed s a).trans b⟩, fun ⟨s, a, b⟩ => ⟨s, a, (ed s a).symm.trans b⟩⟩⟩)
    have hf := f d kV hd
    unfold costC at hf ⊢
    rw [mrg_cross, crossC_congr (d := oneC c LA (c x)) fun r hm => by rw [ed _ (hr r hm).1, ed _ (hr r hm).2]] at hf
    exact one_cost hk pA pV le hg (fun q => hA c kA ⟨LA, ndA, lenA, mA⟩ q) hf (by omega) (by omega) (by omega)
  · intro f d k hd hk
    have := f _ k ((mrg_cols xA xp zp).mp hd) hk
    unfold costC at this ⊢
    rw [mrg_cross]
    exact this
end
end VK
set_option Elab.async false
set_option linter.all false
set_option maxRecDepth 100000
set_option maxHeartbeats 4000000
/-! KSet: sorted(set(..)) in the order of texts. -/
namespace VK
open PySem PySem.Spec PyProof.Rows L2 VL
theorem lt_cps : ∀ (l m : List Nat), decide (l < m) = ltCps l m
  | [], [] => by simp [ltCps]
  | [], _ :: _ => by simp [ltCps]
  | _ :: _, [] => by simp [ltCps]
  | a :: l, b :: m => by
    rw [ltCps, ← lt_cps l m, Bool.eq_iff_iff]
    simp [List.cons_lt_cons_iff]
theorem ltv_cps (s t : Str) : ltv (.str s) (.str t) = ltCps s.cps.toList t.cps.toList := by
  unfold ltv
  rw [toPy, toPy, PySem.W.dataLt_str, lt_cps]
theorem rising_pw : ∀ (p : Str) (ys : List Str), risingS p ys = true → (p :: ys).Pairwise fun a b => ltv (.str b) (.str a) = false
  | p, [], _ => List.pairwise_singleton _ _
  | p, y :: ys, h => by
    rw [risingS, Bool.and_eq_true, Bool.not_eq_true', ← ltv_cps] at h
    have ih := rising_pw y ys h.2
    refine List.pairwise_cons.mpr ⟨fun b hb => ?_, ih⟩
    rcases List.mem_cons.mp hb with rfl | hb
    · exact h.1
    · have h2 := (List.pairwise_cons.mp ih).1 b hb
      cases e : ltv (.str b) (.str p) with
      | false => rfl
      | true =>
        -- b < p, not b < y, not y < p
        cases e2 : ltv (.str p) (.str y) with
        | true => rw [ltv_trans e e2] at h2; cases h2
        | false =>
          have e3 := inj_str _ _ (ltv_total e2 h.1)
          rw [e3, h2] at e
          cases e
theorem sorted_eq {ys ks : List Str} (hp : ys.Perm ks) (hs : sortedS ys = true) : ys = sortS ks := by
  have pw : ys.Pairwise fun a b => ltv (D.str b) (D.str a) = false := by
    cases ys with
    | nil => exact List.Pairwise.nil
    | cons y ys => exact rising_pw y ys hs
  exact List.Perm.eq_of_pairwise (le := fun a b => ltv (D.str b) (D.str a) = false) (fun a b _ _ h1 h2 => inj_str a b (ltv_total h2 h1)) pw (sort_pw ks) (hp.trans sortBy_perm.symm)
end VK
set_option Elab.async false
set_option linter.all false
set_option maxRecDepth 100000
set_option maxHeartbeats 4000000
/-! KHelp: what many laws share: names of ropes, sizes of what is told. -/
namespace VK
open PySem PySem.Spec PyProof.Rows L2 VL
theorem num60_nm : ∀ i < 90, nameB (numS "r" i) = true := by decide +kernel
theorem num60_len : ∀ i < 90, ((toString ((i : Nat) : Int)) : Str).length ≤ 10 := by decide +kernel
theorem num60_nd : ((List.range 90).map (numS "r")).Nodup := by decide +kernel
theorem rs_names {ps : List Str} {rs : List Rope} (hn : rs.map (·.1) = (List.range rs.length).map (numS "r")) (hl : rs.length ≤ 80) (he : ∀ r ∈ rs, r.2.1 ∈ ps ∧ r.2.2 ∈ ps ∧ r.2.1 ≠ r.2.2) : RsOk ps rs where
  nm := fun r hr => by
    have h1 : r.1 ∈ rs.map (·.1) := List.mem_map.mpr ⟨r, hr, rfl⟩
    rw [hn] at h1
    obtain ⟨i, hi, e⟩ := List.mem_map.mp h1
    have := List.mem_range.mp hi
    rw [← e]
    exact num60_nm i (by omega)
  nd := by
    rw [hn]
    exact num60_nd.sublist ((List.range_sublist.mpr (by omega)).map _)
  hi := by omega
  e1 := fun r hr => (he r hr).1
  e2 := fun r hr => (he r hr).2.1
  ne := fun r hr => (he r hr).2.2
theorem eqv_self {n : Nat} {d : D} (h : okD n d = true) : eqv d d = true := SeqAt.eqv_refl _ (ok_lay h).1
theorem least_small {n : Nat} {ps : List Str} {rs : List Rope} {v : Int} (h : LeastC n ps rs v) (hp : ps.length ≤ 12) (hr : rs.length ≤ 80) : v.natAbs < 1000 := by
  obtain ⟨c, k, ⟨L, nd, len, m⟩, h2, e⟩ := h.ex
  have hg := grade_small n
  have hk : k ≤ 12 := by
    have := nodup_sub (M := ps.map c) nd fun y hy => by
      obtain ⟨s, a, b⟩ := (m y).mp hy
      exact List.mem_map.mpr ⟨s, a, b⟩
    rw [List.length_map] at this
    omega
  have hx : crossC c rs ≤ rs.length := List.countP_le_length
  have hm : gradeOf n * ((k : Int) - 1) ≤ 6 * 11 := Int.mul_le_mul hg.2 (by omega) (by omega) (by omega)
  have hm0 : 0 ≤ gradeOf n * ((k : Int) - 1) := Int.mul_nonneg (by omega) (by omega)
  unfold costC at e
  omega
theorem re_int {v : Int} {n : Nat} (h : v.natAbs < 1000) : ReOk n 50 (.int v) := .int (by omega) (by omega)
theorem nm_len {s : Str} (h : nameB s = true) : s.length ≤ 12 := (nm_parts h).2.1
theorem re_gr {ps : List Str} {G : Gr} (o : GrOk ps G) (n : Nat) : ReOk (n + 2) 3000 (grD G) := by
  have hG : G.length ≤ 12 := by
    have h1 : G.length ≤ G.flatten.length := by
      rw [List.length_flatten]
      have : ∀ H : Gr, (∀ g ∈ H, g ≠ []) → H.length ≤ (H.map List.length).sum := by
        intro H
        induction H with
        | nil => intro _; simp
        | cons g H ih =>
          intro h
          have h1 := ih fun x hx => h x (List.mem_cons_of_mem _ hx)
          have h2 := List.length_pos_iff.mpr (h g List.mem_cons_self)
          rw [List.map_cons, List.sum_cons, List.length_cons]
          omega
      exact this G o.ne
    have := o.hi
    omega
  refine .tup (B := 200) (fun x hx => ?_) (by rw [List.length_map]; omega)
  obtain ⟨g, hg, rfl⟩ := List.mem_map.mp hx
  have hgl : g.length ≤ 12 := Nat.le_trans (List.sublist_flatten_of_mem hg).length_le o.hi
  refine .tup (B := 12) (fun y hy => ?_) (by rw [List.length_map]; omega)
  obtain ⟨s, hs, rfl⟩ := List.mem_map.mp hy
  exact .str (nm_ok (o.nm g hg s hs)) (nm_len (o.nm g hg s hs))
theorem re_mono {n W W' : Nat} {d : D} (h : ReOk n W d) (hw : W ≤ W') : ReOk n W' d := by
  cases h with
  | non => exact .non
  | bl b => exact .bl b
  | int h1 h2 => exact .int h1 (by omega)
  | str h1 h2 => exact .str h1 (by omega)
  | lst h1 h2 => exact .lst h1 (by omega)
  | tup h1 h2 => exact .tup h1 (by omega)
theorem re_parts {ps : List Str} {G : Gr} {v : Int} (o : GrOk ps G) (h : v.natAbs < 1000) : ReOk 60 1000000 (.tup [.int v, grD G]) := .tup (B := 3000) (fun x hx => by
  simp at hx
  rcases hx with rfl | rfl
  · exact re_mono (re_int h) (by omega)
  · exact re_gr o 57) (by simp)
theorem re_one {ps : List Str} {G : Gr} (o : GrOk ps G) : ReOk 60 1000000 (.tup [grD G]) := .tup (B := 3000) (fun x hx => by
  simp at hx
  rw [hx]
  exact re_gr o 57) (by simp)
theorem nf_self {K : PySem.W.Frag} {C : Addr} : PySem.W.notFirst K C (.ref C) = true := by simp [PySem.W.notFirst]
theorem eqv_bl {a b : Bool} : eqv (.bl a) (.bl b) = decide (a = b) := by cases a <;> cases b <;> rfl
theorem nodup_len {α : Type} [BEq α] [LawfulBEq α] : ∀ {L M : List α}, L.Nodup → (∀ x ∈ L, x ∈ M) → L.length ≤ M.length
  | [], _, _, _ => Nat.zero_le _
  | x :: L, M, nd, h => by
    obtain ⟨n1, n2⟩ := List.nodup_cons.mp nd
    have hx := h x (List.mem_cons_self)
    have ih := nodup_len (M := M.erase x) n2 fun y hy => (List.mem_erase_of_ne (fun e : y = x => n1 (by rw [← e]; exact hy))).mpr (h y (List.mem_cons_of_mem _ hy))
    rw [List.length_erase_of_mem hx] at ih
    have := List.length_pos_of_mem hx
    rw [List.length_cons]
    omega
theorem okDs_strs {n : Nat} {ss : List Str} (h : ∀ s ∈ ss, nameB s = true) : okDs n (ss.map D.str) = true := okDs_iff.mpr fun x hx => by
  obtain ⟨s, hs, rfl⟩ := List.mem_map.mp hx
  exact nm_okD (h s hs)
theorem grade_at {k : Nat} (h : k < 3) : [D.int 1, D.int 3, D.int 6][k]? = some (.int (gradeOf (1 + k))) := by
  have : k = 0 ∨ k = 1 ∨ k = 2 := by omega
  rcases this with rfl | rfl | rfl <;> rfl
end VK
set_option Elab.async false
set_option linter.all false
set_option maxRecDepth 100000
set_option maxHeartbeats 8000000
/-! P33L: the law k33. -/
namespace VK
open PySem PySem.Spec PyProof.Rows L2 VL NdefX
theorem boot_repr33 : bootBuiltins "repr" = some (.builtin "repr") := by decide +kernel
/-- the second value: as it is, or a list that may still be changed -/
inductive TwoOk : Store → D → D → Prop
  | fz {d : D} {t : String} (h : fxOk 4 d = true) (hx : VX 3 (fixD d)) (ht : tyN d = some t) (hn : t ≠ "list") : TwoOk [] d (fixD d)
  | ref {l : Addr} {xs : List D} (hl : xs.length ≤ 3) (h : ∀ x ∈ xs, VY 2 x) : TwoOk [(l, .lst xs)] (.ref l) (.tup (xs.map fixD))
theorem TwoOk.vx {ν : Store} {d e : D} (h : TwoOk ν d e) : VX 3 e := by
  cases h with
  | fz h hx ht hn => exact hx
  | ref hl h =>
    refine .tup (by rw [List.length_map]; omega) fun x hx => ?_
    obtain ⟨y, hy, rfl⟩ := List.mem_map.mp hx
    exact (h y hy).fix
theorem TwoOk.fxm {μ ν : Store} {d e : D} (h : TwoOk ν d e) : FxM (μ ++ ν) 4 d e := by
  cases h with
  | fz h hx ht hn => exact .fx h
  | ref hl h => exact .ref (j := μ.length) at_end (by omega) fun x hx => (h x hx).fx (by omega)
structure L33F (K : PySem.W.Frag) (mg : Str → Option Value) (CD CO CH CP : Addr) : Prop where
  dF : DirectionsF K mg CD
  oF : HoistF K mg CO
  hF : Short33F K mg CH
  pD : PcF K CP CD "Directions"
  pO : PcF K CP CO "Hoist"
  pH : PcF K CP CH "Short"
  nDO : PySem.W.notFirst K CD (.ref CO) = true
  nOD : PySem.W.notFirst K CO (.ref CD) = true
  nDH : PySem.W.notFirst K CD (.ref CH) = true
  nDT : PySem.W.notFirst K CD (.type "tuple") = true
  kT : PySem.W.kitOne K (.type "tuple") (.ref CP) = some false
theorem vx_mono {n : Nat} {d : D} (h : VX n d) : ∀ {m : Nat}, n ≤ m → VX m d := by
  induction h with
  | non => exact fun _ => .non
  | bl b => exact fun _ => .bl b
  | int h => exact fun _ => .int h
  | str h => exact fun _ => .str h
  | d0 => exact fun _ => .d0
  | d1 => exact fun _ => .d1
  | @tup n xs hl h ih =>
    intro m hm
    obtain ⟨k, rfl⟩ : ∃ k, m = k + 1 := ⟨m - 1, by omega⟩
    exact .tup hl fun x hx => ih x hx (by omega)
theorem vx_one {e : D} (h : VX 3 e) : VX 4 (.tup [e]) := .tup (by simp) fun x hx => by
  rw [List.mem_singleton] at hx
  rw [hx]
  exact h
theorem vx_tup {e : D} (h : VX 3 e) : (∃ xs, e = .tup xs ∧ ∀ x ∈ xs, VX 2 x) ∨ ∃ t, tyN e = some t ∧ t ≠ "tuple" := by
  cases h with
  | tup hl h => exact .inl ⟨_, rfl, h⟩
  | _ => exact .inr ⟨_, rfl, by decide⟩
theorem kit_not {K : PySem.W.Frag} {d : D} {t : String} (ht : tyN d = some t) (hn : t ≠ "list") : PySem.W.kitOne K (.type t) (.type "list") = some false := by
  cases d <;> simp only [tyN, Option.some.injEq, reduceCtorEq] at ht <;> subst ht <;> first | exact absurd rfl hn | exact kit_of_B rfl
theorem kit_notT {K : PySem.W.Frag} {d : D} {t : String} (ht : tyN d = some t) (hn : t ≠ "tuple") : PySem.W.kitOne K (.type t) (.type "tuple") = some false := by
  cases d <;> simp only [tyN, Option.some.injEq, reduceCtorEq] at ht <;> subst ht <;> first | exact absurd rfl hn | exact kit_of_B rfl
theorem fx_lst {xs : List D} (h : fxOk 4 (.tup xs) = true) : fxOk 4 (.lst xs) = true := by simpa [fxOk] using h
theorem fix_lst {xs : List D} (h : fixD (.tup xs) = .tup xs) : fixD (.lst xs) = .tup xs := by simpa [fixD] using h
theorem ne_bl {a b : Bool} (h : a = b) : (!eqv (.bl a) (.bl b)) = false := by
  subst h
  cases a <;> rfl
section
variable {P : Program} {w : World} {K : PySem.W.Frag} {mg : Str → Option Value} {base : Heap} {f : Addr} {fd : FuncData} {CD CO CH CP : Addr}
abbrev s_law_right33 : Stmt := top 16
def S_law_right33 : FSpec := fun ds μ P _ => ∃ (l : Addr) (j : Nat) (cs : List Int) (a : Nat) (big : Int), ds = [.ref l] ∧ μ[j]? = some (l, penO cs a big) ∧ cs.length ≤ 63 ∧ a + 200 ≤ 90000 ∧
  ∀ (a' : Nat) (big' : Int), a' ≤ a + 200 → P (.bl true) (μ.set j (l, penO cs a' big'))
theorem sc_law_right33 : FnScope ["pen", "due", "other", "one", "two", "led", "up"] ["pen"] (defScope s_law_right33) := ⟨rfl, rfl, rfl, by decide +kernel, rfl, by decide +kernel, by decide +kernel⟩
theorem ok_law_right33 (F : FnP K "_law_right" s_law_right33 f fd) (b : Bi mg) (hrepr : mg "repr" = none) (gP : mg "Paper" = some (.ref CP)) (lf : L33F K mg CD CO CH CP) (c_value3 : Cal P w K mg base 6 "_law_value" (S_law_value 3) []) (c_value2 : Cal P w K mg base 5 "_law_value" (S_law_value 2) []) (c_fix : Cal P w K mg base 5 "_law_fixed" (S_fixM 3) [])
    (k_D : MakR P w K mg base 8 "Directions" CD (S_Directions CD 3)) (k_O : MakR P w K mg base 8 "Hoist" CO (S_Hoist CO 3)) (kk_D : MakRK P w K mg base 8 "Directions" CD (S_Directions CD 3) ["heads", "root"] [1, 0]) (kk_O : MakRK P w K mg base 8 "Hoist" CO (S_Hoist CO 3) ["steps", "first"] [1, 0]) (k_H : MakR P w K mg base 8 "Short" CH (S_Short33 CH 3))
    (m_eqD : MetE P w K mg base 1 CD (S_Paper_eqX K CP)) (m_eqO : MetE P w K mg base 1 CO (S_Paper_eqX K CP)) (m_bD : MetB P w K mg base 1 CD (S_bool true)) (m_bO : MetB P w K mg base 1 CO (S_bool true)) : FnG P w K mg base 10 f fd ["pen"] (spOf K S_law_right33) := by
  refine fn_okG F sc_law_right33 (fun ds μ P R ⟨_, _, _, _, _, e, _⟩ => by subst e; rfl) fun cdv A outer s H E ds μ Q R => ?_
  intro X fx ow gd h
  obtain ⟨l, j, cs, a, big, rfl, hj, hc, ha, q⟩ := h
  have hlt : j < μ.length := (List.getElem?_eq_some_iff.mp hj).1
  have sj : ∀ {a1 : Nat} {big1 : Int} {ν : Store}, (μ.set j (l, penO cs a1 big1) ++ ν)[j]? = some (l, penO cs a1 big1) := fun {a1 big1 ν} => by rw [List.getElem?_append_left (by rw [List.length_set]; exact hlt)]; exact List.getElem?_set_self hlt
  have ss : ∀ {a1 a2 : Nat} {big1 big2 : Int} {ν : Store}, (μ.set j (l, penO cs a1 big1) ++ ν).set j (l, penO cs a2 big2) = μ.set j (l, penO cs a2 big2) ++ ν := fun {a1 a2 big1 big2 ν} => by rw [List.set_append_left _ _ (by rw [List.length_set]; exact hlt), List.set_set]
  have hb3 : BN 3 = 80 := rfl
  have hb2 : BN 2 = 26 := rfl
  have un : X.A.units + 70 < cLine := by have := fx.kx.un; omega
  refine vss_cons ?_
  refine vs_par 3 4 fx.kx ?_
  refine va_cons ?_
  refine WE.imp (P := fun d μ4 => ∃ (a1 : Nat) (big1 : Int), VY 3 d ∧ μ4 = μ.set j (l, penO cs a1 big1) ∧ a1 ≤ a + 80) ?_ ?_
  · refine ve_frzE ?_
    refine ve_call c_value3 fx ?_
    refine va_cons ?_
    refine ve_name 0 ?_ -- pen
    refine va_cons ?_
    refine ve_int ?_
    refine va_nil ?_
    refine ⟨l, j, cs, a, big, rfl, hj, hc, by omega, fun d t a1 big1 hd _ _ ha1 => .inl ⟨a1, big1, hd, rfl, by omega⟩, fun m l2 xs a1 big1 hm hx hxs ha1 => ?_⟩
    refine .inr ⟨_, l2, xs, rfl, at_end, ?_⟩
    rw [del_end]
    obtain rfl : m = 2 := by omega
    exact ⟨a1, big1, .lst hx hxs, rfl, by omega⟩
  rintro d1 μ4 ⟨a1, big1, hy1, rfl, ha1⟩
  refine va_cons ?_
  refine WE.imp (P := fun d μ4 => ∃ (a2 : Nat) (big2 : Int) (ν : Store) (e : D), TwoOk ν d e ∧ μ4 = μ.set j (l, penO cs a2 big2) ++ ν ∧ a2 ≤ a + 160) ?_ ?_
  · refine ve_call c_value3 fx ?_
    refine va_cons ?_
    refine ve_name 0 ?_ -- pen
    refine va_cons ?_
    refine ve_int ?_
    refine va_nil ?_
    refine ⟨l, j, cs, a1, big1, rfl, at_set hj, hc, by omega, fun d t a2 big2 hd ht hn ha2 => ?_, fun m l2 xs a2 big2 hm hx hxs ha2 => ?_⟩
    · rw [set_set']
      exact ⟨a2, big2, [], _, .fz (hd.fx (by omega)) hd.fix ht hn, by rw [List.append_nil], by omega⟩
    · rw [set_set']
      obtain rfl : m = 2 := by omega
      exact ⟨a2, big2, _, _, .ref hx hxs, rfl, by omega⟩
  rintro d2 μ5 ⟨a2, big2, ν, e2, two, rfl, ha2⟩
  have hx1 : VX 3 (fixD d1) := hy1.fix
  have f1 : ∀ {μ' : Store}, FxM μ' 4 d1 (fixD d1) := fun {μ'} => .fx (hy1.fx (by omega))
  generalize hg1 : fixD d1 = e1 at hx1 f1
  have hx2 : VX 3 e2 := two.vx
  have f2 : ∀ {a3 : Nat} {big3 : Int}, FxM (μ.set j (l, penO cs a3 big3) ++ ν) 4 d2 e2 := fun {a3 big3} => two.fxm
  have hdue : VX 4 (.tup [e1, e2]) := .tup (by simp) fun x hx => by
    simp only [List.mem_cons, List.not_mem_nil, or_false] at hx
    rcases hx with rfl | rfl
    · exact hx1
    · exact hx2
  have up4 : ∀ {d : D}, VX 3 d → VX 4 d := fun {d} h => vx_mono h (by omega)
  have rxA : ∀ w : Str, w ∈ [("directions" : Str), "hoist"] → RXs [.str w, .tup [e1, e2], e1, e2] := fun w hw => ⟨4, by omega, by simp, fun x hx => by
    simp only [List.mem_cons, List.not_mem_nil, or_false] at hx hw
    rcases hx with rfl | rfl | rfl | rfl
    · rcases hw with rfl | rfl
      · exact .str (by decide +kernel)
      · exact .str (by decide +kernel)
    · exact hdue
    · exact up4 hx1
    · exact up4 hx2⟩
  have rxB : RXs [.tup [e1, e2], e2] := ⟨4, by omega, by simp, fun x hx => by
    simp only [List.mem_cons, List.not_mem_nil, or_false] at hx
    rcases hx with rfl | rfl
    · exact hdue
    · exact up4 hx2⟩
  refine va_nil ?_
  refine ⟨_, _, rfl, ?_⟩
  refine vss_cons ?_
  refine vs_par 5 6 fx.kx ?_
  refine va_cons ?_
  refine ve_Directions k_D fx ?_
  refine va_cons ?_
  refine ve_name 3 ?_ -- one
  refine va_cons ?_
  refine ve_name 4 ?_ -- two
  refine va_nil ?_
  refine ⟨d1, d2, e1, e2, rfl, f1, f2, ?_⟩
  refine va_cons ?_
  refine ve_Hoist k_O fx ?_
  refine va_cons ?_
  refine ve_name 3 ?_ -- one
  refine va_cons ?_
  refine ve_name 4 ?_ -- two
  refine va_nil ?_
  refine ⟨d1, d2, e1, e2, rfl, f1, f2, ?_⟩
  refine va_nil ?_
  refine ⟨_, _, rfl, ?_⟩
  refine vss_cons ?_
  refine vs_set 1 fx.kx ?_ -- due
  refine ve_tup ?_
  refine va_cons ?_
  refine ve_call c_fix fx ?_
  refine va_cons ?_
  refine ve_name 3 ?_ -- one
  refine va_nil ?_
  refine ⟨d1, e1, rfl, f1, ?_⟩
  refine va_cons ?_
  refine ve_call c_fix fx ?_
  refine va_cons ?_
  refine ve_name 4 ?_ -- two
  refine va_nil ?_
  refine ⟨d2, e2, rfl, f2, ?_⟩
  refine va_nil ?_
  refine ⟨by simp, ?_⟩
  refine vss_cons ?_
  refine vs_if ?_
  apply vt_or2 (ka := false) (kb := false)
  · refine vt_cmp (.of op_ne) ?_
    refine ve_reprL gd un hrepr boot_repr33 ?_
    refine va_cons ?_
    refine ve_fld ?_
    refine ve_name 5 ?_
    refine ⟨_, fld_at lf.dF.cls.c lf.dF.pap.word rfl, ?_⟩
    refine va_cons ?_
    refine ve_fld ?_
    refine ve_name 5 ?_
    refine ⟨_, fld_at lf.dF.cls.c lf.dF.pap.parts rfl, ?_⟩
    refine va_cons ?_
    refine ve_fld ?_
    refine ve_name 5 ?_
    refine ⟨_, fld_at lf.dF.cls.c lf.dF.root_ rfl, ?_⟩
    refine va_cons ?_
    refine ve_fld ?_
    refine ve_name 5 ?_
    refine ⟨_, fld_at lf.dF.cls.c lf.dF.heads_ rfl, ?_⟩
    refine va_nil ?_
    refine ⟨rxA "directions" (by decide), ?_⟩
    refine ve_reprL gd un hrepr boot_repr33 ?_
    refine va_cons ?_
    refine ve_str ?_
    refine va_cons ?_
    refine ve_name 1 ?_
    refine va_cons ?_
    refine ve_ix fx.kx.u1 ?_
    refine ve_name 1 ?_
    refine ve_int ?_
    refine wop_ix_tup (atI_at 0 rfl rfl) ?_
    refine va_cons ?_
    refine ve_ix fx.kx.u1 ?_
    refine ve_name 1 ?_
    refine ve_int ?_
    refine wop_ix_tup (atI_at 1 rfl rfl) ?_
    refine va_nil ?_
    refine ⟨rxA "directions" (by decide), ?_⟩
    refine wop_neS ?_
    refine ⟨_, rfl, ?_⟩
    exact ⟨by simp, rfl⟩
  · intro hk
    refine vw_or1 ?_
    refine vt_cmp (.of op_ne) ?_
    refine ve_reprL gd un hrepr boot_repr33 ?_
    refine va_cons ?_
    refine ve_fld ?_
    refine ve_name 6 ?_
    refine ⟨_, fld_at lf.oF.cls.c lf.oF.pap.word rfl, ?_⟩
    refine va_cons ?_
    refine ve_fld ?_
    refine ve_name 6 ?_
    refine ⟨_, fld_at lf.oF.cls.c lf.oF.pap.parts rfl, ?_⟩
    refine va_cons ?_
    refine ve_fld ?_
    refine ve_name 6 ?_
    refine ⟨_, fld_at lf.oF.cls.c lf.oF.first_ rfl, ?_⟩
    refine va_cons ?_
    refine ve_fld ?_
    refine ve_name 6 ?_
    refine ⟨_, fld_at lf.oF.cls.c lf.oF.steps_ rfl, ?_⟩
    refine va_nil ?_
    refine ⟨rxA "hoist" (by decide), ?_⟩
    refine ve_reprL gd un hrepr boot_repr33 ?_
    refine va_cons ?_
    refine ve_str ?_
    refine va_cons ?_
    refine ve_name 1 ?_
    refine va_cons ?_
    refine ve_ix fx.kx.u1 ?_
    refine ve_name 1 ?_
    refine ve_int ?_
    refine wop_ix_tup (atI_at 0 rfl rfl) ?_
    refine va_cons ?_
    refine ve_ix fx.kx.u1 ?_
    refine ve_name 1 ?_
    refine ve_int ?_
    refine wop_ix_tup (atI_at 1 rfl rfl) ?_
    refine va_nil ?_
    refine ⟨rxA "hoist" (by decide), ?_⟩
    refine wop_neS ?_
    refine ⟨_, rfl, ?_⟩
    exact ⟨by simp, rfl⟩
  refine ⟨fun hk => (by cases hk), fun hk => ?_⟩
  refine vss_nil ?_
  refine vss_cons ?_
  refine vs_if ?_
  have eqD : ∀ {C2 : Addr} {n2 w2 : Str} {f2 : List (Str × D)} {p2 : D} {μ' : Store} {b : Bool} {Pp : D → Store → Prop}, PcF K CP C2 n2 → f2.lookup ("word" : Str) = some (.str w2) → f2.lookup ("parts" : Str) = some p2 → VX 4 p2 → (decide (n2 = ("Directions" : Str)) && (decide (("directions" : Str) = w2) && eqX (.tup [e1, e2]) p2)) = b → Pp (.bl b) μ' → S_Paper_eqX K CP [d_Directions CD e1 e2, .ins C2 f2] μ' Pp R := fun pc hw hp hv hb hP =>
    ⟨CD, "Directions", "directions", _, _, _, rfl, lf.pD, rfl, rfl, .inl ⟨_, _, _, _, _, 4, rfl, by omega, pc, hw, hp, hdue, hv, by rw [hb]; exact hP⟩⟩
  have eqO : ∀ {C2 : Addr} {n2 w2 : Str} {f2 : List (Str × D)} {p2 : D} {μ' : Store} {b : Bool} {Pp : D → Store → Prop}, PcF K CP C2 n2 → f2.lookup ("word" : Str) = some (.str w2) → f2.lookup ("parts" : Str) = some p2 → VX 4 p2 → (decide (n2 = ("Hoist" : Str)) && (decide (("hoist" : Str) = w2) && eqX (.tup [e1, e2]) p2)) = b → Pp (.bl b) μ' → S_Paper_eqX K CP [d_Hoist CO e1 e2, .ins C2 f2] μ' Pp R := fun pc hw hp hv hb hP =>
    ⟨CO, "Hoist", "hoist", _, _, _, rfl, lf.pO, rfl, rfl, .inl ⟨_, _, _, _, _, 4, rfl, by omega, pc, hw, hp, hdue, hv, by rw [hb]; exact hP⟩⟩
  have self2 : eqX (.tup [e1, e2]) (.tup [e1, e2]) = true := eqX_refl hdue
  apply vt_or2 (ka := false) (kb := false)
  · refine vt_cmp (cmp_neO m_eqD fx) ?_
    refine ve_DirectionsK kk_D fx ?_
    refine vk_cons ?_
    refine ve_name 4 ?_ -- two
    refine vk_cons ?_
    refine ve_name 3 ?_ -- one
    refine vk_nil ?_
    refine ⟨d1, d2, e1, e2, rfl, f1, f2, ?_⟩
    refine ve_name 5 ?_ -- led
    refine wop_eqO (fs := f_Directions e1 e2) rfl (.inr ⟨CD, _, rfl, lf.dF.cls.i, rfl⟩) nf_self ?_
    refine eqD lf.pD rfl rfl hdue (b := true) (by rw [self2]; rfl) ⟨_, rfl, ?_⟩
    refine ⟨_, rfl, ?_⟩
    exact ⟨rfl, rfl⟩
  · intro hk
    apply vw_or2 (ka := false) (kb := false)
    · refine vt_cmp (cmp_neO m_eqO fx) ?_
      refine ve_HoistK kk_O fx ?_
      refine vk_cons ?_
      refine ve_name 4 ?_ -- two
      refine vk_cons ?_
      refine ve_name 3 ?_ -- one
      refine vk_nil ?_
      refine ⟨d1, d2, e1, e2, rfl, f1, f2, ?_⟩
      refine ve_name 6 ?_ -- up
      refine wop_eqO (fs := f_Hoist e1 e2) rfl (.inr ⟨CO, _, rfl, lf.oF.cls.i, rfl⟩) nf_self ?_
      refine eqO lf.pO rfl rfl hdue (b := true) (by rw [self2]; rfl) ⟨_, rfl, ?_⟩
      refine ⟨_, rfl, ?_⟩
      exact ⟨rfl, rfl⟩
    · intro hk
      apply vw_or2 (ka := false) (kb := false)
      · refine vt_not ?_
        refine vt_val ?_
        refine ve_cty (call_boolS m_bD fx) b.bool boot_bool ?_
        refine va_cons ?_
        refine ve_name 5 ?_ -- led
        refine va_nil ?_
        refine wc_boolO (fs := f_Directions e1 e2) rfl ?_
        refine ⟨_, rfl, true, rfl, ?_⟩
        refine ⟨_, rfl, ?_⟩
        exact ⟨rfl, rfl⟩
      · intro hk
        apply vw_or2 (ka := false) (kb := false)
        · refine vt_not ?_
          refine vt_val ?_
          refine ve_cty (call_boolS m_bO fx) b.bool boot_bool ?_
          refine va_cons ?_
          refine ve_name 6 ?_ -- up
          refine va_nil ?_
          refine wc_boolO (fs := f_Hoist e1 e2) rfl ?_
          refine ⟨_, rfl, true, rfl, ?_⟩
          refine ⟨_, rfl, ?_⟩
          exact ⟨rfl, rfl⟩
        · intro hk
          apply vw_or2 (ka := false) (kb := false)
          · refine vt_not ?_
            refine vt_val ?_
            refine ve_cb call_isiA b.isinstance boot_isinstance ?_
            refine va_cons ?_
            refine ve_name 5 ?_ -- led
            refine va_cons ?_
            refine ve_glob (v := .ref CP) (d := .ref CP) gP rfl (fun F => .ref CP) ?_
            refine va_nil ?_
            refine wc_isiC (.inr ⟨CD, f_Directions e1 e2, rfl, lf.dF.cls.i, rfl⟩) lf.pD.isp ?_
            refine ⟨_, rfl, ?_⟩
            exact ⟨rfl, rfl⟩
          · intro hk
            refine vw_or1 ?_
            refine vt_not ?_
            refine vt_val ?_
            refine ve_cb call_isiA b.isinstance boot_isinstance ?_
            refine va_cons ?_
            refine ve_name 6 ?_ -- up
            refine va_cons ?_
            refine ve_glob (v := .ref CP) (d := .ref CP) gP rfl (fun F => .ref CP) ?_
            refine va_nil ?_
            refine wc_isiC (.inr ⟨CO, f_Hoist e1 e2, rfl, lf.oF.cls.i, rfl⟩) lf.pO.isp ?_
            refine ⟨_, rfl, ?_⟩
            exact ⟨rfl, rfl⟩
          · exact ⟨rfl, rfl⟩
        · exact ⟨rfl, rfl⟩
      · exact ⟨rfl, rfl⟩
    · exact ⟨rfl, rfl⟩
  refine ⟨fun hk => (by cases hk), fun hk => ?_⟩
  refine vss_nil ?_
  refine vss_cons ?_
  refine vs_if ?_
  apply vt_or2 (ka := false) (kb := false)
  · refine vt_cmp (cmp_eqO m_eqD fx) ?_
    refine ve_name 5 ?_ -- led
    refine ve_name 6 ?_ -- up
    refine wop_eqO (fs := f_Directions e1 e2) rfl (.inr ⟨CO, f_Hoist e1 e2, rfl, lf.oF.cls.i, rfl⟩) lf.nDO ?_
    refine eqD (f2 := f_Hoist e1 e2) lf.pO rfl rfl hdue (b := false) (by rw [show decide (("Hoist" : Str) = "Directions") = false by decide]; rfl) ⟨_, rfl, ?_⟩
    refine ⟨_, rfl, ?_⟩
    exact ⟨rfl, rfl⟩
  · intro hk
    apply vw_or2 (ka := false) (kb := false)
    · refine vt_cmp (cmp_eqO m_eqO fx) ?_
      refine ve_name 6 ?_ -- up
      refine ve_name 5 ?_ -- led
      refine wop_eqO (fs := f_Hoist e1 e2) rfl (.inr ⟨CD, f_Directions e1 e2, rfl, lf.dF.cls.i, rfl⟩) lf.nOD ?_
      refine eqO (f2 := f_Directions e1 e2) lf.pD rfl rfl hdue (b := false) (by rw [show decide (("Directions" : Str) = "Hoist") = false by decide]; rfl) ⟨_, rfl, ?_⟩
      refine ⟨_, rfl, ?_⟩
      exact ⟨rfl, rfl⟩
    · intro hk
      apply vw_or2 (ka := false) (kb := false)
      · refine vt_cmp (cmp_eqO m_eqD fx) ?_
        refine ve_name 5 ?_ -- led
        refine ve_name 1 ?_ -- due
        refine wop_eqO (fs := f_Directions e1 e2) rfl (.inl ⟨_, rfl, rfl⟩) lf.nDT ?_
        refine ⟨CD, "Directions", "directions", _, _, _, rfl, lf.pD, rfl, rfl, .inr ⟨_, rfl, lf.kT, _, rfl, ?_⟩⟩
        refine ⟨_, rfl, ?_⟩
        exact ⟨rfl, rfl⟩
      · intro hk
        refine vw_or1 ?_
        refine vt_cmp (cmp_eqO m_eqD fx) ?_
        refine ve_name 5 ?_ -- led
        refine ve_Short33 k_H fx ?_
        refine va_cons ?_
        refine ve_name 3 ?_ -- one
        refine va_nil ?_
        refine ⟨d1, e1, rfl, f1, ?_⟩
        refine wop_eqO (fs := f_Directions e1 e2) rfl (.inr ⟨CH, f_Short33 e1, rfl, lf.hF.cls.i, rfl⟩) lf.nDH ?_
        refine eqD (f2 := f_Short33 e1) lf.pH rfl rfl (vx_one hx1) (b := false) (by rw [show decide (("Short" : Str) = "Directions") = false by decide]; rfl) ⟨_, rfl, ?_⟩
        refine ⟨_, rfl, ?_⟩
        exact ⟨rfl, rfl⟩
      · exact ⟨rfl, rfl⟩
    · exact ⟨rfl, rfl⟩
  refine ⟨fun hk => (by cases hk), fun hk => ?_⟩
  refine vss_nil ?_
  refine vss_cons ?_
  refine vs_set 2 fx.kx ?_ -- other
  refine WE.imp (P := fun d μ4 => ∃ (a3 : Nat) (big3 : Int), VY 2 d ∧ μ4 = μ.set j (l, penO cs a3 big3) ++ ν ∧ a3 ≤ a + 200) ?_ ?_
  · refine ve_frzE ?_
    refine ve_call c_value2 fx ?_
    refine va_cons ?_
    refine ve_name 0 ?_ -- pen
    refine va_cons ?_
    refine ve_int ?_
    refine va_nil ?_
    refine ⟨l, j, cs, a2, big2, rfl, sj, hc, by omega, fun d t a3 big3 hd _ _ ha3 => ?_, fun m l2 xs a3 big3 hm hx hxs ha3 => ?_⟩
    · rw [ss]
      exact .inl ⟨a3, big3, hd, rfl, by omega⟩
    · rw [ss]
      refine .inr ⟨_, l2, xs, rfl, at_end, ?_⟩
      rw [del_end]
      obtain rfl : m = 1 := by omega
      exact ⟨a3, big3, .lst hx hxs, rfl, by omega⟩
  rintro d3 μ6 ⟨a3, big3, hy3, rfl, ha3⟩
  have hx3 : VX 3 (fixD d3) := vx_mono hy3.fix (by omega)
  have f3 : ∀ {μ' : Store}, FxM μ' 4 d3 (fixD d3) := fun {μ'} => .fx (hy3.fx (by omega))
  generalize hg3 : fixD d3 = e3 at hx3 f3
  have pair4 : ∀ {x y : D}, VX 3 x → VX 3 y → VX 4 (.tup [x, y]) := fun hx hy => .tup (by simp) fun z hz => by
    simp only [List.mem_cons, List.not_mem_nil, or_false] at hz
    rcases hz with rfl | rfl
    · exact hx
    · exact hy
  refine vss_cons ?_
  refine vs_if ?_
  apply vt_or2 (ka := false) (kb := false)
  · refine vt_cmp (.ne fx.kx.u64) ?_
    refine ve_cmp (cmp_eqO m_eqD fx) ?_
    refine ve_name 5 ?_ -- led
    refine ve_Directions k_D fx ?_
    refine va_cons ?_
    refine ve_name 3 ?_ -- one
    refine va_cons ?_
    refine ve_name 2 ?_ -- other
    refine va_nil ?_
    refine ⟨d1, d3, e1, e3, rfl, f1, f3, ?_⟩
    refine wop_eqO (fs := f_Directions e1 e2) rfl (.inr ⟨CD, f_Directions e1 e3, rfl, lf.dF.cls.i, rfl⟩) nf_self ?_
    refine eqD (f2 := f_Directions e1 e3) lf.pD rfl rfl (pair4 hx1 hx3) (b := eqX e2 e3) (by rw [eqX_two hx1]; rfl) ⟨_, rfl, ?_⟩
    refine ve_cmp (.of (op_eqX fx.kx.u64)) ?_
    refine ve_call c_fix fx ?_
    refine va_cons ?_
    refine ve_name 2 ?_ -- other
    refine va_nil ?_
    refine ⟨d3, e3, rfl, f3, ?_⟩
    refine ve_ix fx.kx.u1 ?_
    refine ve_name 1 ?_ -- due
    refine ve_int ?_
    refine wop_ix_tup (atI_at 1 rfl rfl) ?_
    refine wop_eqX hx3 hx2 (by omega) ?_
    refine wop_ne rfl rfl ?_
    refine ⟨_, rfl, ?_⟩
    exact ⟨ne_bl (by rw [eqX_comm e3 e2]; cases eqX e2 e3 <;> rfl), rfl⟩
  · intro hk
    refine vw_or1 ?_
    refine vt_cmp (.ne fx.kx.u64) ?_
    refine ve_cmp (cmp_eqO m_eqO fx) ?_
    refine ve_name 6 ?_ -- up
    refine ve_Hoist k_O fx ?_
    refine va_cons ?_
    refine ve_name 2 ?_ -- other
    refine va_cons ?_
    refine ve_name 4 ?_ -- two
    refine va_nil ?_
    refine ⟨d3, d2, e3, e2, rfl, f3, f2, ?_⟩
    refine wop_eqO (fs := f_Hoist e1 e2) rfl (.inr ⟨CO, f_Hoist e3 e2, rfl, lf.oF.cls.i, rfl⟩) nf_self ?_
    refine eqO (f2 := f_Hoist e3 e2) lf.pO rfl rfl (pair4 hx3 hx2) (b := eqX e1 e3) (by rw [eqX_two' hx2]; rfl) ⟨_, rfl, ?_⟩
    refine ve_cmp (.of (op_eqX fx.kx.u64)) ?_
    refine ve_call c_fix fx ?_
    refine va_cons ?_
    refine ve_name 2 ?_ -- other
    refine va_nil ?_
    refine ⟨d3, e3, rfl, f3, ?_⟩
    refine ve_ix fx.kx.u1 ?_
    refine ve_name 1 ?_ -- due
    refine ve_int ?_
    refine wop_ix_tup (atI_at 0 rfl rfl) ?_
    refine wop_eqX hx3 hx1 (by omega) ?_
    refine wop_ne rfl rfl ?_
    refine ⟨_, rfl, ?_⟩
    exact ⟨ne_bl (by rw [eqX_comm e3 e1]; cases eqX e1 e3 <;> rfl), rfl⟩
  refine ⟨fun hk => (by cases hk), fun hk => ?_⟩
  refine vss_nil ?_
  refine vss_cons ?_
  refine WS.imp (P := fun fl μ2 => ∃ ν', fl = .nx [some (.ref l), some (.tup [e1, e2]), some d3, some d1, some d2, some (d_Directions CD e1 e2), some (d_Hoist CO e1 e2)] ∧ μ2 = μ.set j (l, penO cs a3 big3) ++ ν') ?_ ?_
  · refine vs_if ?_
    refine vt_val ?_
    refine ve_cb call_isiA b.isinstance boot_isinstance ?_
    refine va_cons ?_
    refine ve_name 4 ?_ -- two
    refine va_cons ?_
    refine ve_bty (n := "list") b.list ?_
    refine va_nil ?_
    cases two with
    | @fz _ t h hx ht hn =>
      refine wc_isi (b := false) (.inl ⟨_, ht, rfl⟩) (kit_not ht hn) ?_
      refine ⟨_, rfl, ?_⟩
      refine ⟨fun hk => (by cases hk), fun hk => ?_⟩
      refine vss_nil ?_
      exact ⟨_, rfl, rfl⟩
    | @ref l2 xs hl h =>
      refine wc_isiM (b := true) at_end (by kernel_rfl) ?_
      refine ⟨_, rfl, ?_⟩
      refine ⟨fun hk => ?_, fun hk => (by cases hk)⟩
      refine vss_one ?_
      refine vs_expr ?_
      refine ve_append ?_
      refine ve_name 4 ?_ -- two
      refine ⟨ty_mut at_end, ?_⟩
      refine va_cons ?_
      refine ve_str ?_
      refine va_nil ?_
      refine wm_append at_end (by omega) ?_
      rw [set_end]
      exact ⟨_, rfl, rfl⟩
  rintro fl μ7 ⟨ν', rfl, rfl⟩
  refine vss_one ?_
  refine vs_ret ?_
  apply ve_and2 (ka := true) (kb := true)
  · refine ve_cmp (.of op_eq) ?_
    refine ve_reprL gd un hrepr boot_repr33 ?_
    refine va_cons ?_
    refine ve_fld ?_
    refine ve_name 5 ?_
    refine ⟨_, fld_at lf.dF.cls.c lf.dF.pap.parts rfl, ?_⟩
    refine va_cons ?_
    refine ve_fld ?_
    refine ve_name 6 ?_
    refine ⟨_, fld_at lf.oF.cls.c lf.oF.steps_ rfl, ?_⟩
    refine va_nil ?_
    refine ⟨rxB, ?_⟩
    refine ve_reprL gd un hrepr boot_repr33 ?_
    refine va_cons ?_
    refine ve_name 1 ?_
    refine va_cons ?_
    refine ve_ix fx.kx.u1 ?_
    refine ve_name 1 ?_
    refine ve_int ?_
    refine wop_ix_tup (atI_at 1 rfl rfl) ?_
    refine va_nil ?_
    refine ⟨rxB, ?_⟩
    refine wop_eqS ?_
    exact ⟨by simp, rfl⟩
  · intro hk
    refine ve_one ?_
    refine ve_cmp (cmp_eqO m_eqD fx) ?_
    refine ve_name 5 ?_ -- led
    refine ve_Directions k_D fx ?_
    refine va_cons ?_
    refine ve_ix fx.kx.u1 ?_
    refine ve_name 1 ?_ -- due
    refine ve_int ?_
    refine wop_ix_tup (atI_at 0 rfl rfl) ?_
    refine va_cons ?_
    refine WE.imp (P := fun d μ4 => fxOk 4 d = true ∧ fixD d = e2 ∧ μ4 = μ.set j (l, penO cs a3 big3) ++ ν') ?_ ?_
    · refine ve_ifS ?_
      refine vt_val ?_
      refine ve_cb call_isiA b.isinstance boot_isinstance ?_
      refine va_cons ?_
      refine ve_ix fx.kx.u1 ?_
      refine ve_name 1 ?_ -- due
      refine ve_int ?_
      refine wop_ix_tup (atI_at 1 rfl rfl) ?_
      refine va_cons ?_
      refine ve_bty (n := "tuple") b.tuple ?_
      refine va_nil ?_
      rcases vx_tup hx2 with ⟨xs, rfl, hxs⟩ | ⟨t, ht, hn⟩
      · refine wc_isi (b := true) (.inl ⟨_, rfl, rfl⟩) (kit_of_B rfl) ?_
        refine ⟨_, rfl, ?_⟩
        refine ⟨fun hk => ?_, fun hk => (by cases hk)⟩
        refine ve_cty call_list_of b.list boot_list ?_
        refine va_cons ?_
        refine ve_ix fx.kx.u1 ?_
        refine ve_name 1 ?_ -- due
        refine ve_int ?_
        refine wop_ix_tup (atI_at 1 rfl rfl) ?_
        refine va_nil ?_
        refine wc_list rfl ?_
        refine ⟨?_, ?_, rfl⟩
        · exact fx_lst (vx_fx hx2 (by omega))
        · exact fix_lst (vx_fixed hx2)
      · refine wc_isi (b := false) (.inl ⟨_, ht, rfl⟩) (kit_notT ht hn) ?_
        refine ⟨_, rfl, ?_⟩
        refine ⟨fun hk => (by cases hk), fun hk => ?_⟩
        refine ve_ix fx.kx.u1 ?_
        refine ve_name 1 ?_ -- due
        refine ve_int ?_
        refine wop_ix_tup (atI_at 1 rfl rfl) ?_
        exact ⟨vx_fx hx2 (by omega), vx_fixed hx2, rfl⟩
    rintro d4 μ7 ⟨hd4, he4, rfl⟩
    refine va_nil ?_
    refine ⟨e1, d4, e1, e2, rfl, by have := FxM.fx (μ := μ.set j (l, penO cs a3 big3) ++ ν') (vx_fx hx1 (m := 4) (by omega)); rw [vx_fixed hx1] at this; exact this, by rw [← he4]; exact .fx hd4, ?_⟩
    refine wop_eqO (fs := f_Directions e1 e2) rfl (.inr ⟨CD, f_Directions e1 e2, rfl, lf.dF.cls.i, rfl⟩) nf_self ?_
    refine eqD (f2 := f_Directions e1 e2) lf.pD rfl rfl hdue (b := true) (by rw [self2]; rfl) ⟨_, rfl, ?_⟩
    exact ⟨rfl, rfl⟩
  exact ⟨_, List.sublist_append_left _ _, q a3 big3 (by omega)⟩
abbrev s_law : Stmt := top 17
def S_law : FSpec := fun ds μ P _ => ∃ ns : List Int, ds = [.scr (ns.map D.int)] ∧ P (.bl true) μ
theorem sc_law : FnScope ["script", "pen", "turn"] ["script"] (defScope s_law) := ⟨rfl, rfl, rfl, by decide +kernel, rfl, by decide +kernel, by decide +kernel⟩
theorem ok_law (F : FnP K "law" s_law f fd) (b : Bi mg) (c_law_pen : Cal P w K mg base 1 "_law_pen" S_law_pen []) (c_law_right : CalG P w K mg base 10 "_law_right" S_law_right33) : FnG P w K mg base 11 f fd ["script"] (spOf K S_law) := by
  refine fn_okG F sc_law (fun ds μ P R ⟨_, e, _⟩ => by subst e; rfl) fun cdv A outer s H E ds μ Q R => ?_
  intro X fx ow gd h
  obtain ⟨ns, rfl, q⟩ := h
  refine vss_cons ?_
  refine vs_set 1 fx.kx ?_ -- pen
  refine ve_call c_law_pen fx ?_
  refine va_cons ?_
  refine ve_name 0 ?_ -- script
  refine va_nil ?_
  refine ⟨ns, rfl, fun l cs hc => ?_⟩
  refine vss_cons ?_
  refine vs_for (js := [2]) fx.kx ow ?_
  refine vi_range1 b.range ?_
  refine va_cons ?_
  refine ve_int ?_
  refine va_nil ?_
  refine ⟨_, rfl, by omega, by omega, ?_⟩
  refine ⟨fun i δ' μ' => ∃ (a : Nat) (big : Int) (c2 : Option D), μ' = μ ++ [(l, penO cs a big)] ∧ a ≤ 200 * i ∧ δ' = [some (.scr (ns.map D.int)), some (.ref l), c2], ⟨0, 0, _, rfl, by omega, rfl⟩, fun i d δ' μ' hd hI => ?_, fun δ' μ' hI => ?_⟩
  · obtain ⟨a, big, c2, rfl, ha, rfl⟩ := hI
    have hi : i < 12 := by simpa [upto] using (List.getElem?_eq_some_iff.mp hd).1
    refine vg_name 2 fx.kx ?_ -- turn
    refine vss_one ?_
    refine vs_if ?_
    refine vt_not ?_
    refine vt_val ?_
    refine ve_callG c_law_right fx gd ?_
    refine va_cons ?_
    refine ve_name 1 ?_ -- pen
    refine va_nil ?_
    refine ⟨l, μ.length, cs, a, big, rfl, at_end, hc, by omega, fun a' big' ha' => ?_⟩
    rw [set_end]
    refine ⟨_, rfl, ?_⟩
    refine ⟨fun hk => (by cases hk), fun hk => ?_⟩
    refine vss_nil ?_
    exact ⟨a', big', _, rfl, by omega, rfl⟩
  · obtain ⟨a, big, c2, rfl, ha, rfl⟩ := hI
    refine vss_one ?_
    refine vs_ret ?_
    refine ve_bl ?_
    exact ⟨μ, List.sublist_append_left _ _, q⟩
end
end VK
set_option Elab.async false
set_option linter.all false
set_option maxRecDepth 100000
set_option maxHeartbeats 0
/-! HL: the head's facts give every promise; the law holds. -/
namespace VK
open PySem PySem.Spec PyProof.Rows L2 VL
theorem facts {w : World} {K : PySem.W.Frag} {h : Heap} {mg : Str → Option Value} {f : Addr} (X : K.In h) (G : h.Ns mainGlobals mg) (hfa : mg ("law" : Str) = some (.ref f)) (c : He.SaysX fa fn exB supP supVs K) :
    ∃ fd : FuncData, (∀ (s : Shared) (v : Value), BindsTo s fd ⟨[v], []⟩ [("script", v)]) ∧ ∀ base : Heap, K.In base → base.Ns mainGlobals mg → FnG (PySem.Challenge.rw_hangsfast_k33_papers_of_directions_and_h).prog w K mg base 11 f fd ["script"] (spOf K S_law) := by
  obtain ⟨cd, cx, cw⟩ := c
  have htop : ((PySem.Challenge.rw_hangsfast_k33_papers_of_directions_and_h).prog.main.scope.names.lookup ("super" : Str)).isSome = false := by kernel_rfl
  obtain ⟨x1, cx⟩ := He.ba cx
  obtain ⟨x2, cx⟩ := He.ba cx
  obtain ⟨x3, cx⟩ := He.ba cx
  obtain ⟨x4, cx⟩ := He.ba cx
  obtain ⟨x5, cx⟩ := He.ba cx
  obtain ⟨x6, cx⟩ := He.ba cx
  obtain ⟨x7, cx⟩ := He.ba cx
  obtain ⟨x8, cx⟩ := He.ba cx
  obtain ⟨x9, cx⟩ := He.ba cx
  obtain ⟨x10, cx⟩ := He.ba cx
  obtain ⟨x11, cx⟩ := He.ba cx
  obtain ⟨x12, cx⟩ := He.ba cx
  obtain ⟨x13, cx⟩ := He.ba cx
  obtain ⟨x14, cx⟩ := He.ba cx
  obtain ⟨x15, cx⟩ := He.ba cx
  obtain ⟨x16, cx⟩ := He.ba cx
  obtain ⟨x17, cx⟩ := He.ba cx
  obtain ⟨x18, cx⟩ := He.ba cx
  obtain ⟨x19, cx⟩ := He.ba cx
  obtain ⟨x20, x21⟩ := He.ba cx
  have b : Bi mg := ⟨He.free_ok X G (cd.fact 0 (f := .free "isinstance") rfl), He.free_ok X G (cd.fact 1 (f := .free "int") rfl), He.free_ok X G (cd.fact 2 (f := .free "bool") rfl), He.free_ok X G (cd.fact 3 (f := .free "str") rfl), He.free_ok X G (cd.fact 4 (f := .free "list") rfl), He.free_ok X G (cd.fact 5 (f := .free "tuple") rfl), He.free_ok X G (cd.fact 6 (f := .free "len") rfl), He.free_ok X G (cd.fact 7 (f := .free "all") rfl), He.free_ok X G (cd.fact 8 (f := .free "sum") rfl), He.free_ok X G (cd.fact 9 (f := .free "sorted") rfl), He.free_ok X G (cd.fact 10 (f := .free "min") rfl), He.free_ok X G (cd.fact 11 (f := .free "abs") rfl), He.free_ok X G (cd.fact 12 (f := .free "range") rfl), He.free_ok X G (cd.fact 13 (f := .free "enumerate") rfl), He.free_ok X G (cd.fact 14 (f := .free "zip") rfl)⟩
  obtain ⟨d_fixed, F_fixed⟩ := cd.def_ 0 (d := ⟨("fixed", none), "fixed", "fixed", defArgs (top 1), defBody (top 1), defScope (top 1), [], []⟩) rfl
  have g_fixed := He.glo_ok X G (cd.fact 15 (f := .glo "fixed") rfl)
  have g_Paper := He.glo_ok X G (cd.fact 16 (f := .glo "Paper") rfl)
  have y_Directions := He.cls_ok (cd.fact 17 (f := .cls "Directions") rfl)
  have g_Directions := He.glo_ok X G (cd.fact 18 (f := .glo "Directions") rfl)
  have r_Directions := He.mkr_ok (cd.fact 19 (f := .mkr "Directions") rfl)
  have f_Directions : ClsF K mg "Directions" (He.ga K "Directions") := ⟨g_Directions, y_Directions, (He.insB_ok x1 y_Directions).1, (He.insB_ok x1 y_Directions).2⟩
  have y_Hoist := He.cls_ok (cd.fact 20 (f := .cls "Hoist") rfl)
  have g_Hoist := He.glo_ok X G (cd.fact 21 (f := .glo "Hoist") rfl)
  have r_Hoist := He.mkr_ok (cd.fact 22 (f := .mkr "Hoist") rfl)
  have f_Hoist : ClsF K mg "Hoist" (He.ga K "Hoist") := ⟨g_Hoist, y_Hoist, (He.insB_ok x2 y_Hoist).1, (He.insB_ok x2 y_Hoist).2⟩
  have y_Short := He.cls_ok (cd.fact 23 (f := .cls "Short") rfl)
  have g_Short := He.glo_ok X G (cd.fact 24 (f := .glo "Short") rfl)
  have r_Short := He.mkr_ok (cd.fact 25 (f := .mkr "Short") rfl)
  have f_Short : ClsF K mg "Short" (He.ga K "Short") := ⟨g_Short, y_Short, (He.insB_ok x3 y_Short).1, (He.insB_ok x3 y_Short).2⟩
  have paD : PapF K (He.ga K "Directions") := ⟨y_Directions, He.noat_ok (cd.fact 26 (f := .noat "Directions" "word") rfl), He.noat_ok (cd.fact 27 (f := .noat "Directions" "parts") rfl)⟩
  have paO : PapF K (He.ga K "Hoist") := ⟨y_Hoist, He.noat_ok (cd.fact 28 (f := .noat "Hoist" "word") rfl), He.noat_ok (cd.fact 29 (f := .noat "Hoist" "parts") rfl)⟩
  have paH : PapF K (He.ga K "Short") := ⟨y_Short, He.noat_ok (cd.fact 30 (f := .noat "Short" "word") rfl), He.noat_ok (cd.fact 31 (f := .noat "Short" "parts") rfl)⟩
  have dF : DirectionsF K mg (He.ga K "Directions") := ⟨f_Directions, paD, He.noat_ok (cd.fact 32 (f := .noat "Directions" "root") rfl), He.noat_ok (cd.fact 33 (f := .noat "Directions" "heads") rfl)⟩
  have oF : HoistF K mg (He.ga K "Hoist") := ⟨f_Hoist, paO, He.noat_ok (cd.fact 34 (f := .noat "Hoist" "first") rfl), He.noat_ok (cd.fact 35 (f := .noat "Hoist" "steps") rfl)⟩
  have hF : Short33F K mg (He.ga K "Short") := ⟨f_Short, paH, He.noat_ok (cd.fact 36 (f := .noat "Short" "grouping") rfl)⟩
  have pcD : PcF K (He.ga K "Paper") (He.ga K "Directions") "Directions" := ⟨He.nmB_ok x4 f_Directions.i, paD, of_decide_eq_true x5⟩
  have pcO : PcF K (He.ga K "Paper") (He.ga K "Hoist") "Hoist" := ⟨He.nmB_ok x6 f_Hoist.i, paO, of_decide_eq_true x7⟩
  have pcH : PcF K (He.ga K "Paper") (He.ga K "Short") "Short" := ⟨He.nmB_ok x8 f_Short.i, paH, of_decide_eq_true x9⟩
  have lf : L33F K mg (He.ga K "Directions") (He.ga K "Hoist") (He.ga K "Short") (He.ga K "Paper") := ⟨dF, oF, hF, pcD, pcO, pcH, x10, x11, x12, x13, of_decide_eq_true x14⟩
  obtain ⟨d_Paper_init, F_Paper_init⟩ := cd.def_ 1 (d := ⟨("Paper", some "__init__"), "__init__", "Paper.__init__", defArgs (mth 2 0), defBody (mth 2 0), defScope (mth 2 0), [], []⟩) rfl
  obtain ⟨d_Paper_eq, F_Paper_eq⟩ := cd.def_ 2 (d := ⟨("Paper", some "__eq__"), "__eq__", "Paper.__eq__", defArgs (mth 2 2), defBody (mth 2 2), defScope (mth 2 2), [], []⟩) rfl
  obtain ⟨d_Paper_bool, F_Paper_bool⟩ := cd.def_ 3 (d := ⟨("Paper", some "__bool__"), "__bool__", "Paper.__bool__", defArgs (mth 2 1), defBody (mth 2 1), defScope (mth 2 1), [], []⟩) rfl
  obtain ⟨d__law_pen, F__law_pen⟩ := cd.def_ 4 (d := ⟨("_law_pen", none), "_law_pen", "_law_pen", defArgs (top 11), defBody (top 11), defScope (top 11), [], []⟩) rfl
  have g__law_pen := He.glo_ok X G (cd.fact 38 (f := .glo "_law_pen") rfl)
  obtain ⟨d__law_draw, F__law_draw⟩ := cd.def_ 5 (d := ⟨("_law_draw", none), "_law_draw", "_law_draw", defArgs (top 12), defBody (top 12), defScope (top 12), [], []⟩) rfl
  have g__law_draw := He.glo_ok X G (cd.fact 39 (f := .glo "_law_draw") rfl)
  obtain ⟨d__law_pick, F__law_pick⟩ := cd.def_ 6 (d := ⟨("_law_pick", none), "_law_pick", "_law_pick", defArgs (top 13), defBody (top 13), defScope (top 13), [], []⟩) rfl
  have g__law_pick := He.glo_ok X G (cd.fact 40 (f := .glo "_law_pick") rfl)
  obtain ⟨d__law_fixed, F__law_fixed⟩ := cd.def_ 7 (d := ⟨("_law_fixed", none), "_law_fixed", "_law_fixed", defArgs (top 15), defBody (top 15), defScope (top 15), [], []⟩) rfl
  have g__law_fixed := He.glo_ok X G (cd.fact 41 (f := .glo "_law_fixed") rfl)
  obtain ⟨d__law_value, F__law_value⟩ := cd.def_ 8 (d := ⟨("_law_value", none), "_law_value", "_law_value", defArgs (top 14), defBody (top 14), defScope (top 14), [], []⟩) rfl
  have g__law_value := He.glo_ok X G (cd.fact 42 (f := .glo "_law_value") rfl)
  obtain ⟨d__law_right, F__law_right⟩ := cd.def_ 9 (d := ⟨("_law_right", none), "_law_right", "_law_right", defArgs (top 16), defBody (top 16), defScope (top 16), [], []⟩) rfl
  have g__law_right := He.glo_ok X G (cd.fact 44 (f := .glo "_law_right") rfl)
  obtain ⟨d_law, F_law⟩ := cd.def_ 10 (d := ⟨("law", none), "law", "law", defArgs (top 17), defBody (top 17), defScope (top 17), [], []⟩) rfl
  have g_law := He.glo_ok X G (cd.fact 45 (f := .glo "law") rfl)
  have e0 := hfa.symm.trans g_law
  cases e0
  have bl := FunD.bindsA (ps := ["script"]) F_law fun _ _ _ _ _ _ us hl => match us, hl with | [_], _ => rfl
  refine ⟨d_law, fun s v => bl s [v] rfl, fun base _ _ => ?_⟩
  have c_fixed3 : Cal (PySem.Challenge.rw_hangsfast_k33_papers_of_directions_and_h).prog w K mg base 3 "fixed" (S_fixed 2) [] := cal_mk (st := top 1) F_fixed (ok_fixed F_fixed b g_fixed 2) g_fixed (fun kV doc pm an cdv ct us hl => match us, hl with | [_], _ => rfl)
  have c_fixed4 : Cal (PySem.Challenge.rw_hangsfast_k33_papers_of_directions_and_h).prog w K mg base 4 "fixed" (S_fixed 3) [] := cal_mk (st := top 1) F_fixed (ok_fixed F_fixed b g_fixed 3) g_fixed (fun kV doc pm an cdv ct us hl => match us, hl with | [_], _ => rfl)
  have c_fixed5 : Cal (PySem.Challenge.rw_hangsfast_k33_papers_of_directions_and_h).prog w K mg base 5 "fixed" (S_fixed 4) [] := cal_mk (st := top 1) F_fixed (ok_fixed F_fixed b g_fixed 4) g_fixed (fun kV doc pm an cdv ct us hl => match us, hl with | [_], _ => rfl)
  have c_fixedR : Cal (PySem.Challenge.rw_hangsfast_k33_papers_of_directions_and_h).prog w K mg base 5 "fixed" (S_fixedR 3) [] := cal_mk (st := top 1) F_fixed (ok_fixedR F_fixed b c_fixed4) g_fixed (fun kV doc pm an cdv ct us hl => match us, hl with | [_], _ => rfl)
  have c_fixedT : Cal (PySem.Challenge.rw_hangsfast_k33_papers_of_directions_and_h).prog w K mg base 6 "fixed" (S_fixedT 3) [] := cal_mk (st := top 1) F_fixed (ok_fixedT F_fixed b c_fixed5 c_fixedR) g_fixed (fun kV doc pm an cdv ct us hl => match us, hl with | [_], _ => rfl)
  have k_D : MakR (PySem.Challenge.rw_hangsfast_k33_papers_of_directions_and_h).prog w K mg base 8 "Directions" (He.ga K "Directions") (S_Directions (He.ga K "Directions") 3) := ⟨_, r_Directions, ok_Directions_init (He.supB_ok x15 (List.cons.inj cw).1 (He.free_ok X G (cd.fact 37 (f := .free "super") rfl)) htop y_Directions) dF (ok_Paper_initM F_Paper_init paD c_fixedT), g_Directions⟩
  have kk_D : MakRK (PySem.Challenge.rw_hangsfast_k33_papers_of_directions_and_h).prog w K mg base 8 "Directions" (He.ga K "Directions") (S_Directions (He.ga K "Directions") 3) ["heads", "root"] [1, 0] := ⟨_, mk_Directions, r_Directions, ok_Directions_initK (He.supB_ok x15 (List.cons.inj cw).1 (He.free_ok X G (cd.fact 37 (f := .free "super") rfl)) htop y_Directions) dF (ok_Paper_initM F_Paper_init paD c_fixedT), g_Directions, fun x ws h => match ws, h with | [_, _], _ => rfl⟩
  have m_eqD : MetE (PySem.Challenge.rw_hangsfast_k33_papers_of_directions_and_h).prog w K mg base 1 (He.ga K "Directions") (S_Paper_eqX K (He.ga K "Paper")) := ⟨_, d_Paper_eq, _, He.eqB_ok x16, ok_Paper_eqX F_Paper_eq b g_Paper, F_Paper_eq.bindsN (fun kV doc pm an cdv ct us hl => match us, hl with | [_, _], _ => rfl)⟩
  have m_bD : MetB (PySem.Challenge.rw_hangsfast_k33_papers_of_directions_and_h).prog w K mg base 1 (He.ga K "Directions") (S_bool true) := ⟨_, d_Paper_bool, _, (He.fnB_ok x17).1, (He.fnB_ok x17).2, ok_Paper_bool F_Paper_bool, F_Paper_bool.bindsN (fun kV doc pm an cdv ct us hl => match us, hl with | [_], _ => rfl)⟩
  have k_O : MakR (PySem.Challenge.rw_hangsfast_k33_papers_of_directions_and_h).prog w K mg base 8 "Hoist" (He.ga K "Hoist") (S_Hoist (He.ga K "Hoist") 3) := ⟨_, r_Hoist, ok_Hoist_init (He.supB_ok x18 (List.cons.inj (List.cons.inj cw).2).1 (He.free_ok X G (cd.fact 37 (f := .free "super") rfl)) htop y_Hoist) oF (ok_Paper_initM F_Paper_init paO c_fixedT), g_Hoist⟩
  have kk_O : MakRK (PySem.Challenge.rw_hangsfast_k33_papers_of_directions_and_h).prog w K mg base 8 "Hoist" (He.ga K "Hoist") (S_Hoist (He.ga K "Hoist") 3) ["steps", "first"] [1, 0] := ⟨_, mk_Hoist, r_Hoist, ok_Hoist_initK (He.supB_ok x18 (List.cons.inj (List.cons.inj cw).2).1 (He.free_ok X G (cd.fact 37 (f := .free "super") rfl)) htop y_Hoist) oF (ok_Paper_initM F_Paper_init paO c_fixedT), g_Hoist, fun x ws h => match ws, h with | [_, _], _ => rfl⟩
  have m_eqO : MetE (PySem.Challenge.rw_hangsfast_k33_papers_of_directions_and_h).prog w K mg base 1 (He.ga K "Hoist") (S_Paper_eqX K (He.ga K "Paper")) := ⟨_, d_Paper_eq, _, He.eqB_ok x19, ok_Paper_eqX F_Paper_eq b g_Paper, F_Paper_eq.bindsN (fun kV doc pm an cdv ct us hl => match us, hl with | [_, _], _ => rfl)⟩
  have m_bO : MetB (PySem.Challenge.rw_hangsfast_k33_papers_of_directions_and_h).prog w K mg base 1 (He.ga K "Hoist") (S_bool true) := ⟨_, d_Paper_bool, _, (He.fnB_ok x20).1, (He.fnB_ok x20).2, ok_Paper_bool F_Paper_bool, F_Paper_bool.bindsN (fun kV doc pm an cdv ct us hl => match us, hl with | [_], _ => rfl)⟩
  have k_H : MakR (PySem.Challenge.rw_hangsfast_k33_papers_of_directions_and_h).prog w K mg base 8 "Short" (He.ga K "Short") (S_Short33 (He.ga K "Short") 3) := ⟨_, r_Short, ok_Short33_init (He.supB_ok x21 (List.cons.inj (List.cons.inj (List.cons.inj cw).2).2).1 (He.free_ok X G (cd.fact 37 (f := .free "super") rfl)) htop y_Short) hF (ok_Paper_initM F_Paper_init paH c_fixedT), g_Short⟩
  have c__law_pen : Cal (PySem.Challenge.rw_hangsfast_k33_papers_of_directions_and_h).prog w K mg base 1 "_law_pen" S_law_pen [] := cal_mk (st := top 11) F__law_pen (ok_law_pen F__law_pen b) g__law_pen (fun kV doc pm an cdv ct us hl => match us, hl with | [_], _ => rfl)
  have c__law_draw : Cal (PySem.Challenge.rw_hangsfast_k33_papers_of_directions_and_h).prog w K mg base 1 "_law_draw" S_law_draw [] := cal_mk (st := top 12) F__law_draw (ok_law_draw F__law_draw b) g__law_draw (fun kV doc pm an cdv ct us hl => match us, hl with | [_, _], _ => rfl)
  have c__law_pick : Cal (PySem.Challenge.rw_hangsfast_k33_papers_of_directions_and_h).prog w K mg base 2 "_law_pick" S_law_pick [] := cal_mk (st := top 13) F__law_pick (ok_law_pick F__law_pick b c__law_draw) g__law_pick (fun kV doc pm an cdv ct us hl => match us, hl with | [_, _], _ => rfl)
  have c_lf4 : Cal (PySem.Challenge.rw_hangsfast_k33_papers_of_directions_and_h).prog w K mg base 4 "_law_fixed" (S_fixed 3) [] := cal_mk (st := top 15) F__law_fixed (ok_law_fixed F__law_fixed b g__law_fixed 3) g__law_fixed (fun kV doc pm an cdv ct us hl => match us, hl with | [_], _ => rfl)
  have c_fix : Cal (PySem.Challenge.rw_hangsfast_k33_papers_of_directions_and_h).prog w K mg base 5 "_law_fixed" (S_fixM 3) [] := cal_mk (st := top 15) F__law_fixed (ok_law_fixM (ok_law_fixed F__law_fixed b g__law_fixed 4) (ok_law_fixedR F__law_fixed b c_lf4)) g__law_fixed (fun kV doc pm an cdv ct us hl => match us, hl with | [_], _ => rfl)
  have c_value2 : Cal (PySem.Challenge.rw_hangsfast_k33_papers_of_directions_and_h).prog w K mg base 5 "_law_value" (S_law_value 2) [] := cal_mk (st := top 14) F__law_value (ok_law_value F__law_value b g__law_value c__law_draw c__law_pick 2) g__law_value (fun kV doc pm an cdv ct us hl => match us, hl with | [_, _], _ => rfl)
  have c_value3 : Cal (PySem.Challenge.rw_hangsfast_k33_papers_of_directions_and_h).prog w K mg base 6 "_law_value" (S_law_value 3) [] := cal_mk (st := top 14) F__law_value (ok_law_value F__law_value b g__law_value c__law_draw c__law_pick 3) g__law_value (fun kV doc pm an cdv ct us hl => match us, hl with | [_, _], _ => rfl)
  have c__law_right : CalG (PySem.Challenge.rw_hangsfast_k33_papers_of_directions_and_h).prog w K mg base 10 "_law_right" S_law_right33 := calg_mk (st := top 16) F__law_right (ok_law_right33 F__law_right b (He.free_ok X G (cd.fact 43 (f := .free "repr") rfl)) g_Paper lf c_value3 c_value2 c_fix k_D k_O kk_D kk_O k_H m_eqD m_eqO m_bD m_bO) g__law_right (fun kV doc pm an cdv ct us hl => match us, hl with | [_], _ => rfl)
  exact ok_law F_law b c__law_pen c__law_right
end VK
set_option Elab.async false
set_option linter.all false
set_option maxRecDepth 100000
set_option maxHeartbeats 0
open PySem PySem.W PySem.Calls PyProof.Rows
theorem PySem.Challenge.cw_hangsfast_k33_papers_of_directions_and_h_holds : PySem.Challenge.rw_hangsfast_k33_papers_of_directions_and_h.Holds := by
  w_on; o_law
  refine HandSHeadRun.head_any (r := OpenLaw.row PySem.Challenge.rw_hangsfast_k33_papers_of_directions_and_h) (q := view (OpenLaw.row PySem.Challenge.rw_hangsfast_k33_papers_of_directions_and_h).prog [17]) (H := VK.hk) (ob := VK.ob) (M := 20000) (loose := VK.lo) (d := HandSHeadRun.topDef (OpenLaw.row PySem.Challenge.rw_hangsfast_k33_papers_of_directions_and_h).prog 17) (kwd := []) VK.ob_eq
    (by kernel_rfl) (fun s => by kernel_rfl) VK.run (by kernel_rfl) (by kernel_rfl) (by kernel_rfl) (by rfl) (by first | assumption | decide +kernel) (by decide +kernel) ⟨rfl, rfl, rfl, rfl, rfl, by decide +kernel⟩ ?hw ?hc
  case hw => w_witness2
  case hc =>
    refine VL.walk_ofG (l := PySem.Challenge.rw_hangsfast_k33_papers_of_directions_and_h) (n := 63) (k := 11) (x := "script") rfl (by decide) (by kernel_rfl) ⟨rfl, by decide, by decide⟩ fun w mg fa h ⟨K, KX, c⟩ G hmg0 => ?_
    have hmg : mg ("law" : PySem.Str) = some (.ref fa) := by
      have e : (HandSHeadRun.topDef (OpenLaw.row PySem.Challenge.rw_hangsfast_k33_papers_of_directions_and_h).prog 17).name = ("law" : PySem.Str) := by kernel_rfl
      rw [← e]
      exact hmg0
    obtain ⟨fd, hb, hF⟩ := VK.facts (w := w) KX G hmg c
    exact ⟨K, fd, VL.spOf K VK.S_law, KX, hb, VL.lawSp_of fun ns P R q => ⟨ns, rfl, q⟩, fun base kb nb => hF base kb nb⟩
