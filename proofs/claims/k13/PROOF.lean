import PyProof.Rows.All
import HandS.HeadHook2
import HandS.Head0
import HandS.Head1
import HandS.Head2
import HandS.HeadEnd
import HandS.HeadHook1
import HandS.HeadNt
import Wide.All
import OpenK.AllK
import Wide.FinOn
import KE.KFromBytes
import KE.KSuper
import KE.KExcSuper
import KE.KExcIs
import HandS.ForMost
import HandS.Exc
import HandS.ExcOwn
import HandS.ExcSuper
import HandS.TryOnly
import HandS.TryMany
import HandS.CallSlots
import KE.KDictCopyH
import PyProof.DictIter
import HandS.ExcIs
import KE.KDictKeyed
import HandS.IsInst
import HandS.Wide
import HandS.Defaults
import HandS.Zip
import HandS.More
import KE.SortData
import HandS.Property
import HandS.MakeKwOnly
import HandS.SortKw
import HandS.IterVal
import HandS.OwnIter
import HandS.OwnEq
import KE.DataMinMax
import KE.KTupSum
import HandS.Deep
import HandS.Dict
import HandS.DictComp
import HandS.NoneIn
import HandS.SetKeys
import HandS.Iter
import HandS.SetFor
import HandS.Strs
import PyProof.Rows.SetFrom
import HandS.ExcField
import KE.GoesMore
import PyProof.Draws
import HandS.Conv
import HandS.TupLen
import KE.KWithOwn
import HandS.GenList
import HandS.GenYield
import HandS.TupAny
import HandS.Style
import HandS.ClsMeth
import HandS.Nested
import HandS.New0
import KE.GoesComp
import KE.GoesRaise
import HandS.GenOver
import PyProof.GenRules
import PyProof.Rows.Range3
import KE.KxField
import HandS.FStr
import HandS.Text
import PyProof.StrOps2
import PyProof.Rows.TupTab
import KE.KDictDisplayH
import KE.GoesSet
import HandS.TupSets
import PySem.Challenge.RW_anyhashes_k13_wrong_hash_functions
set_option Elab.async false
set_option linter.all false
set_option maxRecDepth 100000
set_option maxHeartbeats 8000000
namespace Py
open PySem L2
inductive LK where
  | non | bl (b : Bool) | num (i : Int) | txt (x : String)
  deriving DecidableEq
abbrev XPred := Program -> World -> Nat -> Addr -> List V -> List V -> Heap -> Prop
inductive D where
  | non | bl (b : Bool) | int (i : Int) | str (x : String) | cls (c : String) | sei (xs : List Int)
  | scr (ns : List Int) | tup (xs : List D) | lst (xs : List D) | dic (ks : List Key) (xs : List D) | dit (ks : List (List Key)) (xs : List D) | dig (ks : List NestedKey) (xs : List D) | dlf (m : Bool) (ks : List LK) (xs : List D) | xt (t : String) (φ : XPred) (ks xs : List D) | len (xs : List D) | ins (c : String) (ns : List String) (xs : List D)
  | olst (xs : List D) | odic (ks : List Key) (xs : List D) | odit (ks : List (List Key)) (xs : List D) | odig (ks : List NestedKey) (xs : List D) | olf (m : Bool) (ks : List LK) (xs : List D) | oxt (t : String) (φ : XPred) (ks xs : List D) | otup (xs : List D) | oins (c : String) (ns : List String) (xs : List D)
abbrev so : String -> Str := Str.ofString
abbrev FB := PySem.W.Frag -> Bool
abbrev ga (K : PySem.W.Frag) (c : String) : Addr := He.ga K (so c)
abbrev ma (K : PySem.W.Frag) (c m : String) : Addr := He.ma K (ga K c) (so m)
structure DefX where
  ad : PySem.W.Frag -> Addr
  name : Str
  qual : Str
  st : Stmt
  dfl : List He.Dv := []
  kwd : List (Str × He.Dv) := []
  /-- an __init__ that says super() -/
  cl : Bool := false
def fnX (K : PySem.W.Frag) (a : Addr) : He.FnW := match K.lookup a with
  | some ⟨_, _, .func fd, _⟩ => some (fd.name, fd.qualname, fd.params, fd.body, fd.scope, fd.globals, fd.closure, fd.builtins)
  | _ => none
def fnXc (K : PySem.W.Frag) (a : Addr) : He.FnW := match K.lookup a with
  | some ⟨_, _, .func fd, _⟩ => some (fd.name, fd.qualname, fd.params, fd.body, fd.scope, fd.globals, fd.closure.map fun p => (p.1, 0), fd.builtins)
  | _ => none
def fnXd (K : PySem.W.Frag) (d : DefX) : He.FnW := match d.cl with
  | true => fnXc K (d.ad K)
  | false => fnX K (d.ad K)
def DefX.val (d : DefX) : He.FnW := some (d.name, d.qual, defArgs d.st, .stmts (defBody d.st), defScope d.st, mainGlobals, (match d.cl with | true => [(("__class__" : Str), 0)] | false => []), builtinsNs)
def DefX.dvs (K : PySem.W.Frag) (d : DefX) : List V := d.dfl.map (He.Dv.v K)
def DefX.kws (K : PySem.W.Frag) (d : DefX) : List (Str × V) := d.kwd.map fun q => (q.1, q.2.v K)
def DefX.ok (K : PySem.W.Frag) (d : DefX) : Bool := PySem.W.keepIn K (.ref (d.ad K)) && (match K.lookup (d.ad K) with
  | some ⟨_, _, .func fd, _⟩ => PySem.W.codeIn K fd.code d.qual && (He.dflB K fd.defaults (d.dvs K) && He.kwdB K fd.kwdefaults (d.kws K))
  | _ => false)
def obsX (fa : List FB) (fn : List DefX) (K : PySem.W.Frag) : He.AlD := ((fa.all fun f => f K) && fn.all fun d => d.ok K, fn.map fun d => fnXd K d)
def valX (fn : List DefX) : He.AlD := (true, fn.map DefX.val)
def SaysX (fa : List FB) (fn : List DefX) (K : PySem.W.Frag) : Prop := obsX fa fn K = valX fn
def refsN (o : Obj) : List Addr := match o.data with
  | .cls cd => [cd.ns]
  | .func fd => He.refV fd.code ++ (He.refV fd.kwdefaults ++ fd.closure.map (·.2))
  | .dict es _ => es.toList.flatMap fun e => He.refV e.val
  | _ => []
def refsP (o : Obj) : List Addr := match o.data with
  | .fields vs => vs.toList.flatMap He.refV
  | _ => []
def isFnO (o : Obj) : Bool := match o.data with
  | .func _ => true
  | _ => false
def isClsO (o : Obj) : Bool := match o.data with
  | .cls _ => true
  | _ => false
def isFldO (o : Obj) : Bool := match o.data with
  | .fields _ => true
  | _ => false
def outG (g : Addr -> Option Obj) (p : Obj -> Bool) (f : Obj -> List Addr) (as : List Addr) : List Addr := as.flatMap fun a => match g a with
  | some o => (match p o with
    | true => f o
    | false => [])
  | none => []
def asN (g : Addr -> Option Obj) : List Addr :=
  let l1 := outG g (fun _ => true) refsN [mainGlobals]
  let c := outG g isClsO refsN l1
  let m := outG g (fun _ => true) refsN c
  let p := outG g isFldO refsP m
  mainGlobals :: (c ++ (l1 ++ (m ++ (outG g isFnO refsN m ++ (outG g isFnO refsN l1 ++ (p ++ outG g isFnO refsN p))))))
def obsXG (n : Nat) (fa : List FB) (fn : List DefX) (g : Addr -> Option Obj) : He.AlD := obsX fa fn (He.frG g (match n with
  | 0 => PySem.cStatics :: asN g
  | n => PySem.cStatics :: He.asD g n))
def hookX (n : Nat) (fa : List FB) (fn : List DefX) : PySem.W.Hook where
  α := He.AlD
  obs := fun s => obsXG n fa fn s.heap.get?
  val := fun _ => valX fn
  says := fun _ h => ∃ K : PySem.W.Frag, K.In h /\ SaysX fa fn K
  of := fun _ _ e => ⟨_, He.frG_in, e⟩
  keeps := fun _ _ _ ⟨K, hK, c⟩ k => ⟨K, PySem.W.Frag.In.keeps hK k, c⟩
def fnExB (K : PySem.W.Frag) (C : Addr) (qual file : Str) (fI : Addr) : Bool := match K.lookup fI with
  | some ⟨_, _, .func fd, _⟩ => (match fd.closure with
    | [(_, cc)] => (match K.lookup cc with
      | some ⟨_, _, .cell (some (.ref D)), _⟩ => decide (D = C)
      | _ => false)
    | _ => false) && ((match fd.code with
    | .ref cda => PySem.W.codeIn K (.ref cda) qual && (match K.lookup cda with
      | some ⟨_, _, .fields vs, _⟩ => (match (vs[2]? : Option Value) with
        | some (.str f _) => decide (f = file)
        | _ => false)
      | _ => false)
    | _ => false) && ((match fd.defaults with
    | .none => true
    | _ => false) && (match fd.kwdefaults with
    | .none => true
    | _ => false)))
  | _ => false
def fExc (c qual : String) (fs : List String) (file : Str) : FB := fun K => PySem.W.excInitIn K (ga K c) PySem.HandSPX.veTail "ValueError.__new__" && ((match PySem.W.clsIn K (ga K c) with
    | some cd => PySem.HandSPX.refsVE cd.mro && cd.hasDict
    | none => false) && (decide (PySem.W.findIn K (.ref (ga K c)) "__setattr__" = some (some (.builtin "object.__setattr__"))) && ((fs.all fun f => decide (PySem.W.findIn K (.ref (ga K c)) (so f) = some none)) &&
  (decide (PySem.W.findIn K (.ref (ga K c)) "__init__" = some (some (.ref (ma K c "__init__")))) && (decide (PySem.W.typeIn K (.ref (ma K c "__init__")) = some (.type "function")) && (decide (PySem.W.subIn K (.ref (ga K c)) (.type "BaseException") = some true) &&
  (decide (PySem.W.subIn K (.ref (ga K c)) (.type "ValueError") = some true) && (decide (PySem.W.typeIn K (.ref (ga K c)) = some (.type "type")) && (decide (PySem.W.nsIn K PySem.cStatics "thirdparty.any" = some none) &&
  (decide (PySem.W.ks_superIn K (ga K c) (ga K c) "__init__" = some (some (.builtin "ValueError.__init__"))) && (decide (PySem.W.mroIn K (ga K c) (.ref (ga K c)) = some true) && (fnExB K (ga K c) (so qual) file (ma K c "__init__") && PySem.W.keepIn K (.ref (ga K c))))))))))))))
def fXm (cs : List String) (sub : String -> String -> Bool) : FB := fun K => cs.all fun c => cs.all fun d => decide (PySem.W.exmOne K (.ref (ga K c)) (.ref (ga K d)) = some (sub c d)) && decide (PySem.W.kitOne K (.ref (ga K c)) (.ref (ga K d)) = some (sub c d))
def fXc (cs : List String) : FB := fun K => cs.all fun c => decide (PySem.W.findIn K (.ref (ga K c)) "__getattribute__" = some (some (.builtin "BaseException.__getattribute__"))) && (decide (PySem.W.findIn K (.ref (ga K c)) "__getattr__" = some none) && (decide (PySem.W.subIn K (.ref (ga K c)) (.type "BaseException") = some true) &&
  (PySem.W.hasDictIn K (ga K c) && (decide (PySem.W.findIn K (.ref (ga K c)) "__class__" = some (some (.builtin "object.__class__"))) && (decide (PySem.W.specialIn K (.builtin "object.__class__") "__get__" = some (some (.builtin "getset_descriptor.__get__"))) &&
  (decide (PySem.W.takesIn K (.builtin "object.__class__") = some true) && decide (PySem.W.mroIn K (ga K c) (.type "object") = some true)))))))
def fXv (cs : List String) : FB := fun K => cs.all fun c => decide (PySem.W.kitOne K (.ref (ga K c)) (.type "ValueError") = some true)
def fGlo (x : String) : FB := fun K => (He.Fa.glo (so x)).ok K
def fInt (x : String) (i : Int) : FB := fun K => (He.Fa.int (so x) i).ok K
def fFree (x : String) : FB := fun K => (He.Fa.free (so x)).ok K
def fCls (cs : List String) : FB := fun K => cs.all fun c => (He.Fa.cls (so c)).ok K
def fNoat (cs : List String) (fl : String -> List String) : FB := fun K => cs.all fun c => (fl c).all fun f => (He.Fa.noat (so c) (so f)).ok K
def fIsT (cs : List String) : FB := fun K => cs.all fun c => decide (PySem.W.findIn K (.ref (ga K c)) "__class__" = some (some (.builtin "object.__class__"))) && (decide (PySem.W.specialIn K (.builtin "object.__class__") "__get__" = some (some (.builtin "getset_descriptor.__get__"))) &&
  (decide (PySem.W.takesIn K (.builtin "object.__class__") = some true) && decide (PySem.W.mroIn K (ga K c) (.type "object") = some true)))
def tyTO : List String := ["NoneType", "bool", "int", "str", "list", "tuple", "dict"]
def tyOT : List String := ["int", "bool", "str", "list", "tuple", "dict"]
def fTO (cs : List String) : FB := fun K => tyTO.all fun t => cs.all fun c => decide (PySem.W.kitOne K (.type t) (.ref (ga K c)) = some false)
def fOT (cs : List String) : FB := fun K => cs.all fun c => tyOT.all fun t => decide (PySem.W.kitOne K (.ref (ga K c)) (.type t) = some false)
def fOO (cs : List String) (sub : String -> String -> Bool) : FB := fun K => cs.all fun c => cs.all fun d => decide (PySem.W.kitOne K (.ref (ga K c)) (.ref (ga K d)) = some (sub c d))
def fMeth (c m : String) : FB := fun K => (He.Fa.meth (so c) (so m)).ok K
def fMkr (c : String) : FB := fun K => (He.Fa.mkr (so c)).ok K
def fDun (cs : List String) : FB := fun K => cs.all fun c => PySem.W.selfFirst K (ga K c) && ((["NoneType", "bool", "int", "str", "list", "tuple", "dict"].all fun t => PySem.W.notFirst K (ga K c) (.type t)) && (match PySem.W.findIn K (.ref (ga K c)) (so "__getitem__") with
  | some (some (.ref f)) => PySem.W.fnIn K f
  | _ => true))
def clsL : List String := ["HashFunction"]
def fldL (c : String) : List String := if c = "HashFunction" then ["fan_out", "other", "_parts"] else []
def resT (c m : String) : Option String := if c = "HashFunction" then (if m = "__call__" then some "HashFunction.__call__" else if m = "part_of" then some "HashFunction.part_of" else none) else none
def subT (c d : String) : Bool := if c = "HashFunction" then (["HashFunction"]).contains d else false
def xL : List String := ["JoinError", "BadRow", "BadPlan", "BadFunction", "BadPart"]
def xsubT (c d : String) : Bool := if c = "JoinError" then (["JoinError"]).contains d else if c = "BadRow" then (["BadRow", "JoinError"]).contains d else if c = "BadPlan" then (["BadPlan", "JoinError"]).contains d else if c = "BadFunction" then (["BadFunction", "JoinError"]).contains d else if c = "BadPart" then (["BadPart", "JoinError"]).contains d else false
def top (i : Nat) : Stmt := PySem.Challenge.pw_anyhashes_k13_wrong_hash_functions.main.body.getD i (.Pass ⟨0, 0, 0, 0⟩)
def inClass (s : Stmt) (j : Nat) : Stmt := match s with
  | .ClassDef _ _ _ body _ _ _ _ _ _ _ => body.getD j (.Pass ⟨0, 0, 0, 0⟩)
  | s => s
abbrev s_is_integer : Stmt := top 7
abbrev s_law_draws : Stmt := top 12
abbrev s_law_refused : Stmt := top 13
abbrev s_law_refused_base : Stmt := top 14
abbrev s_law_asked : Stmt := top 15
abbrev s_law_asked_base : Stmt := top 16
abbrev s_law_same : Stmt := top 17
abbrev s_HashFunction___init__ : Stmt := inClass (top 10) 0
abbrev s_HashFunction___call__ : Stmt := inClass (top 10) 1
abbrev s_HashFunction_part_of : Stmt := inClass (top 10) 2
abbrev s_law : Stmt := top 18
def dd_is_integer : DefX := ⟨fun K => ga K "is_integer", "is_integer", "is_integer", s_is_integer, [], [], false⟩
def dd_law_draws : DefX := ⟨fun K => ga K "_law_draws", "_law_draws", "_law_draws", s_law_draws, [], [], false⟩
def dd_law_refused : DefX := ⟨fun K => ga K "_law_refused", "_law_refused", "_law_refused", s_law_refused, [], [], false⟩
def dd_law_refused_base : DefX := ⟨fun K => ga K "_law_refused_base", "_law_refused_base", "_law_refused_base", s_law_refused_base, [], [], false⟩
def dd_law_asked : DefX := ⟨fun K => ga K "_law_asked", "_law_asked", "_law_asked", s_law_asked, [], [], false⟩
def dd_law_asked_base : DefX := ⟨fun K => ga K "_law_asked_base", "_law_asked_base", "_law_asked_base", s_law_asked_base, [], [], false⟩
def dd_law_same : DefX := ⟨fun K => ga K "_law_same", "_law_same", "_law_same", s_law_same, [], [], false⟩
def dd_law : DefX := ⟨fun K => ga K "law", "law", "law", s_law, [], [], false⟩
def de_HashFunction___init__ : DefX := ⟨fun K => ma K "HashFunction" "__init__", "__init__", "HashFunction.__init__", s_HashFunction___init__, [], [("other", .int 0)], false⟩
def de_HashFunction___call__ : DefX := ⟨fun K => ma K "HashFunction" "__call__", "__call__", "HashFunction.__call__", s_HashFunction___call__, [], [], false⟩
def de_HashFunction_part_of : DefX := ⟨fun K => ma K "HashFunction" "part_of", "part_of", "HashFunction.part_of", s_HashFunction_part_of, [], [], false⟩
abbrev s_BadRow___init__ : Stmt := inClass (top 2) 0
def dx_BadRow : DefX := ⟨fun K => ma K "BadRow" "__init__", "__init__", "BadRow.__init__", s_BadRow___init__, [], [], true⟩
abbrev s_BadPlan___init__ : Stmt := inClass (top 3) 0
def dx_BadPlan : DefX := ⟨fun K => ma K "BadPlan" "__init__", "__init__", "BadPlan.__init__", s_BadPlan___init__, [], [], true⟩
abbrev s_BadFunction___init__ : Stmt := inClass (top 4) 0
def dx_BadFunction : DefX := ⟨fun K => ma K "BadFunction" "__init__", "__init__", "BadFunction.__init__", s_BadFunction___init__, [], [], true⟩
abbrev s_BadPart___init__ : Stmt := inClass (top 5) 0
def dx_BadPart : DefX := ⟨fun K => ma K "BadPart" "__init__", "__init__", "BadPart.__init__", s_BadPart___init__, [], [], true⟩
def fnL : List DefX := [dd_is_integer, dd_law_draws, dd_law_refused, dd_law_refused_base, dd_law_asked, dd_law_asked_base, dd_law_same, dd_law, de_HashFunction___init__, de_HashFunction___call__, de_HashFunction_part_of, dx_BadRow, dx_BadPlan, dx_BadFunction, dx_BadPart]
def fileL : Str := PySem.Challenge.pw_anyhashes_k13_wrong_hash_functions.main.file
def faL : List FB := [fGlo "is_integer", fGlo "_law_draws", fGlo "_law_refused", fGlo "_law_refused_base", fGlo "_law_asked", fGlo "_law_asked_base", fGlo "_law_same", fGlo "law", fFree "len", fFree "range", fFree "abs", fFree "int", fFree "bool", fFree "str", fFree "list", fFree "tuple", fFree "isinstance", fFree "sorted", fFree "enumerate", fFree "zip", fFree "sum", fFree "any", fFree "all", fFree "max", fFree "min", fFree "dict", fFree "set", fFree "type", fFree "iter", fFree "super", fCls clsL, fNoat clsL fldL, fIsT clsL, fTO clsL, fOT clsL, fOO clsL subT, fDun clsL, fXm xL xsubT, fXv xL, fXc xL, fFree "ValueError", fGlo "JoinError", fGlo "BadRow", fExc "BadRow" "BadRow.__init__" ["number"] fileL, fGlo "BadPlan", fExc "BadPlan" "BadPlan.__init__" ["field"] fileL, fGlo "BadFunction", fExc "BadFunction" "BadFunction.__init__" ["field"] fileL, fGlo "BadPart", fExc "BadPart" "BadPart.__init__" ["key", "part"] fileL, fGlo "HashFunction", fMeth "HashFunction" "__init__", fMeth "HashFunction" "__call__", fMeth "HashFunction" "part_of", fMkr "HashFunction", fInt "WIDEST" 64]
def nmL : List Str := (["JoinError", "BadRow", "BadPlan", "BadFunction", "BadPart", "is_integer", "WIDEST", "HashFunction", "_law_draws", "_law_refused", "_law_refused_base", "_law_asked", "_law_asked_base", "_law_same"] : List Str)
abbrev lawAt : Nat := 18
theorem obsXG_eq {n : Nat} {fa : List FB} {fn : List DefX} {g : Addr -> Option Obj} {s : Shared} (h : ∀ a, g a = s.heap.get? a) : obsXG n fa fn g = (hookX n fa fn).obs s := by
  have e : g = s.heap.get? := funext h
  rw [e] <;> rfl
abbrev RowL : PySem.W.OpenRow := PySem.W.OpenLaw.row PySem.Challenge.rw_anyhashes_k13_wrong_hash_functions
abbrev hkL : PySem.W.Hook := hookX 0 faL fnL
def obL (s : PySem.W.SharedT) : He.AlD := obsXG 0 faL fnL (HandSHeadRun.getT s)
theorem obL_eq (s : PySem.W.SharedT) : obL s = hkL.obs s.abs := obsXG_eq (HandSHeadRun.getT_eq s)
theorem runL (w : World) : HandSHeadRun.RunEq RowL (PySem.W.view RowL.prog [lawAt]) hkL obL 12000 nmL w := by
  intro os
  kernel_rfl
end Py
namespace PySem
namespace PxE
open PySem.W PySem.Calls PyProof.Rows PySem.HandSPX
abbrev selfN : Str := "self"
inductive IsAsgs : List Stmt -> List Str -> Prop
  | nil : IsAsgs [] []
  | cons {f : Str} {p1 p2 p3 p4 : Pos} {r : List Stmt} {fs : List Str} : IsAsgs r fs -> IsAsgs (.Assign [.Attribute (.Name "self" p1) f p2] (.Name f p3) p4 :: r) (f :: fs)
def IsSup (qual : Str) (scope : Scope) (msg : Str) (s : Stmt) : Prop := ∃ (p0 p1 p2 p3 p4 p5 : Pos) (k : Nat), s = .Expr (.Call (.Attribute (.Call (.Name "super" p0) [] [] p1) "__init__" p2) [.Constant (.str msg) k p3] [] p4) p5 /\
  ∀ (L a : Addr) (cd : Value) (cc : Addr), ∃ pl : PySem.Sem Bool, eval (.Call (.Attribute (.Call (.Name "super" p0) [] [] p1) "__init__" p2) [.Constant (.str msg) k p3] [] p4) (ksEnv qual scope L a cd cc) = (do
      let ov <- attributeBase (.Call (.Name "super" p0) [] [] p1) "__init__" (ksEnv qual scope L a cd cc) (eval (.Call (.Name "super" p0) [] [] p1) (ksEnv qual scope L a cd cc))
      standAt p2.atName
      let (f, first) <- holding [ov] (getMethod ov "__init__" pl)
      callWith p4 f first (backTo p4 (starEach [.Constant (.str msg) k p3] (ksEnv qual scope L a cd cc))) [])
structure ExTxt (P : Program) (K : Frag) (C fI : Addr) (qual : Str) (params : Arguments) (body : List Stmt) (scope : Scope) (fs : List Str) : Prop where
  cls : excInitIn K C veTail "ValueError.__new__" = true
  cdt : ∃ cd, clsIn K C = some cd /\ refsVE cd.mro = true /\ cd.hasDict = true
  sa : findIn K (.ref C) "__setattr__" = some (some (.builtin "object.__setattr__"))
  noN : ∀ f ∈ fs, findIn K (.ref C) f = some none
  iC : findIn K (.ref C) "__init__" = some (some (.ref fI))
  tC : typeIn K (.ref fI) = some (.type "function")
  exC : subIn K (.ref C) (.type "BaseException") = some true
  veC : subIn K (.ref C) (.type "ValueError") = some true
  tyC : typeIn K (.ref C) = some (.type "type")
  opq : nsIn K cStatics "thirdparty.any" = some none
  sup : ks_superIn K C C "__init__" = some (some (.builtin "ValueError.__init__"))
  slf : mroIn K C (.ref C) = some true
  fn : ∃ (oc : Value) (od : Option Addr) (doc pm : Value) (an : Option Addr) (ct : Value) (osl : Array (Option Value)) (cda cc : Addr) (ccl : Value) (cdd : Option Addr) (vs : Array Value) (ccs : Array (Option Value)) (file : Str) (tf : Tok) (cl : Value) (cld : Option Addr) (csl : Array (Option Value)),
    K.lookup fI = some ⟨oc, od, .func (ksFn "__init__" qual params body scope .none .none doc pm an (.ref cda) ct cc), osl⟩ /\ codeIn K (.ref cda) qual = true /\ K.lookup cda = some ⟨ccl, cdd, .fields vs, ccs⟩ /\ vs[2]? = some (.str file tf) /\ ((P.main.file : Str) == file) = true /\
      K.lookup cc = some ⟨cl, cld, .cell (some (.ref C)), csl⟩
section
open Builtin Builtin.ObjectAttr
variable {prog : Program} {w : World} {A : Around} {E : Value -> Shared -> Prop} {R : Result -> Shared -> Prop} {hp : Heap} {g : Array GenState} {d : Drawn} {t : Nat} {os : OsState}
theorem osa_old {K : W.Frag} {name : Str} {tk : Tok} {v : Value} {x C dx : Addr} {fv : Array Value} {cd : ClassData} {m0 : Str -> Option Value} {nl : List Str}
    (X : K.In hp) (hx : hp.get? x = some { cls := .ref C, dict := some dx, data := .fields fv }) (hns : hp.Ns1 dx m0) (hw : Within m0 nl) (hz : nl.length <= 1000) (hcd : W.clsIn K C = some cd) (hm : refsVE cd.mro = true) (hh : cd.hasDict = true)
    (ha : W.findIn K (.ref C) name = some none)
    (hq : ∀ h' tk', (∀ b o, b ≠ dx -> hp.get? b = some o -> h'.get? b = some o) -> h'.Ns1 dx (fun y => if y = name then some v else m0 y) -> R (.ok (.ret .none)) ⟨h', g, d, tk', os⟩) :
    codeAny (model prog w) A (.call (.builtin "object.__setattr__") ⟨[.ref x, .str name tk, v], []⟩) R ⟨hp, g, d, t, os⟩ := by
  obtain ⟨oD, esD, epD, hoD, hdD, _⟩ := hns.count hw
  have I : W.InstAt hp x { cls := .ref C, dict := some dx, data := .fields fv } C (some oD) := ⟨hx, rfl, rfl, hoD⟩
  have SF := F.store_object
  have ne := refsVE_ne hm
  have hob : cd.mro.contains (.type "object") = true := (refsVE_contains "object" _ hm).trans (by decide +kernel)
  have sub : W.Looks (model prog w) hp (isInstance (.ref x) (.type "object")) true := I.type.andThen (W.looks_mroIn X (by unfold W.mroIn; rw [hcd, Option.bind_some, if_neg (by rw [ne]; decide), hob]))
  refine codeAny_call_builtin SF.slot.plain SF.entry (@W.check_slot (model prog w) _ _ ⟨hp, g, d, t, os⟩ "object.__setattr__" "object" "__setattr__" (.ref x) [.str name tk, v] [] _ SF.kind SF.split sub (SF.args (.ref x) (.str name tk) v) ?_)
  have hmr : W.Looks (model prog w) hp (mroOf (.ref C)) cd.mro := (W.looks_clsIn X hcd).andThen .now
  have L3 : W.Looks (model prog w) hp (storeTaker? none) none := .now
  have hcls : W.Looks (model prog w) hp (classData C) cd := W.looks_clsIn X hcd
  rw [W.osa_eq, refuse_eq]
  refine wpAny_bind (wpAny_bind (I.type.at (wpAny_bind (hmr.at ?_))))
  rw [refsVE_pass _ _ hm]
  refine wpAny_pure (wpAny_bind (I.type.at (wpAny_bind ((W.looks_findIn X ha).at (wpAny_bind (L3.at ?_))))))
  show wpAny _ _ (storeInOwnDict (.ref x) (.ref C) (.str name tk) name v false) _ _ _
  obtain ⟨nm, bs, mro, ns, qn, hd, sn, sb, ab, col, del⟩ := cd
  dsimp only at hh
  subst hh
  unfold storeInOwnDict ownDictForStores
  repeat (first | with_reducible refine ESX.store_in_old hns hw hz ?_ | with_reducible refine wpAny_loadPart_at hx ?_ | with_reducible refine hcls.at ?_ | wp_step)
  intro h' tk' hn' hs
  exact hq h' tk' (fun b o hb ho => (hs.2 b hb).trans ho) hn'
theorem call_mw {u e C t0 : Addr} {rest : List Value} {Q : Value -> Shared -> Prop} {nm q : Str} {N : Addr} {bs bm : List Value} {hdct : Bool} {sn : List Str} {sub : List Value} {ab : Bool} {col : Option Bool} {dd : Option Addr} {k0 k1 k2 k3 k5 : Option Value}
    (hC : hp.get? C = some (excClassObj nm q C N bs bm hdct sn sub ab col dd k0 k1 k2 k3 k5 "ValueError.__new__")) (he : hp.get? e = some (excO C t0)) (hu : hp.get? u = some (kxs_mw "ValueError.__init__" e)) (hrest : rest.length <= sizeLine)
    (hq : ∀ h' t1, (∀ b o, b ≠ e -> hp.get? b = some o -> h'.get? b = some o) -> h'.get? e = some (excO C t1) -> Q .none ⟨h', g, d, t, os⟩) :
    wpAny (model prog w) A (call (.ref u) rest) Q E ⟨hp, g, d, t, os⟩ := by
  refine wpAny_call (codeAny_of_tree ?_)
  show wpAny _ A.in1 (callAny (.ref u) ⟨rest, []⟩) _ _ _
  simp only [callAny]
  refine wpAny_bind (wpAny_load hu ?_)
  simp only [kxs_mw, show (Value.type "method-wrapper" == Value.type "method" || Value.type "method-wrapper" == Value.type "builtin_function_or_method" || Value.type "method-wrapper" == Value.type "method-wrapper") = true by decide, if_true]
  refine W.KFB.if_so (by decide) ?_
  refine wpAny_bind (check_bound_init PySem.F.excBase_ValueError.toExcCallFacts hC he rfl ?_)
  refine wpAny_bind (wpAny_pure (wpAny_pure ?_))
  refine ⟨plainId_quiet PySem.F.excBase_ValueError.init.plain _, codeAny_builtin PySem.F.excBase_ValueError.initEntry ?_⟩
  refine exc_init_tree (cls := .ref C) (t0 := t0) (dv := none) (c2 := .none) (c3 := .none) (b4 := .bool false) he hrest fun h' k e' _ => ?_
  exact hq h' _ k e'
theorem callWith_mw {M : Model} {s : Shared} {pos : Pos} {u x : Addr} {first : List Value} {env : Env} {e : Expr} {rest : List Expr} {Q : Value -> Shared -> Prop} {i : String}
    (h : wpAny M A (spliced (backTo pos (starEach (e :: rest) env))) (fun vs s₁ => KxsAt i u x s₁.heap /\ wpAny M A (call (.ref u) (first ++ vs)) Q E s₁) E s)
    (he : starEach (e :: rest) env = (false, eval e env) :: starEach rest env := by rfl) (hplain : (backTo pos (starEach rest env)).any (·.1) = false := by rfl) :
    wpAny M A (callWith pos (.ref u) first (backTo pos (starEach (e :: rest) env)) []) Q E s := by
  rw [he] at h ⊢
  refine kxs_callWith (i := i) (x := x) (by show (false || (backTo pos (starEach rest env)).any (·.1)) = false; rw [hplain]; rfl) ?_
  exact evalArgs_plain h
end
structure Stored (h h' : Heap) (x C dx : Addr) (t1 : Addr) (m : Str -> Option Value) : Prop where
  keep : ∀ b o, b ≠ x -> b ≠ dx -> h.get? b = some o -> h'.get? b = some o
  obj : h'.get? x = some { cls := .ref C, dict := some dx, data := .fields #[.ref t1, .none, .none, .none, .bool false, .none] }
  ns : h'.Ns1 dx m
theorem lookup_snoc {f : Str} {v : Value} : ∀ {l : List (Str × Value)} (y : Str), f ∉ l.map (·.1) -> (if y = f then some v else l.lookup y) = (l ++ [(f, v)]).lookup y
  | [], y, _ => by
    by_cases e : y = f
    · subst e; simp [List.lookup]
    · simp [List.lookup, e, beq_eq_false_iff_ne.mpr e]
  | (k, u) :: l, y, hn => by
    have h1 : f ≠ k := fun z => hn (by rw [z]; simp)
    have h2 : f ∉ l.map (·.1) := fun z => hn (by simp at z ⊢; exact .inr z)
    have ih := lookup_snoc (v := v) y h2
    by_cases e : y = k
    · subst e
      rw [if_neg (Ne.symm h1)]
      simp [List.lookup]
    · have e' : (y == k) = false := beq_eq_false_iff_ne.mpr e
      simp only [List.cons_append, List.lookup_cons, e']
      exact ih
theorem within_lookup : ∀ (l : List (Str × Value)), Within (fun y => l.lookup y) (l.map (·.1)) := fun l y v => by
  cases e : List.lookup y l with
  | none => exact absurd e v
  | some u =>
    obtain ⟨l1, l2, rfl, _⟩ := List.lookup_eq_some_iff.mp e
    simp
section
variable {prog : Program} {w : World} {A : Around} {E : Value -> Shared -> Prop} {K : Frag} {C : Addr}
theorem ldX {M : Model} {s : Shared} {env : Env} {m : Str -> Option Value} {x : Str} {pos : Pos} {v : Value} {Q : Value -> Shared -> Prop} (hn : s.heap.Ns env.locals m) (hv : m x = some v) (h : Q v s)
    (hk : env.scope.kind = .function) (hl : env.kindOf x = some .local) (hd : (x == ("__debug__" : Str)) = false) : wpAny M A (eval (.Name x pos) env) Q E s := wpAny_Name (wpAny_loadName_local hk hl hn hv h) hd
theorem stores {cd : ClassData} {env : Env} {m : Str -> Option Value} {x dx t1 : Addr} (hcd : clsIn K C = some cd) (hve : refsVE cd.mro = true) (hdi : cd.hasDict = true) (sa : findIn K (.ref C) "__setattr__" = some (some (.builtin "object.__setattr__")))
    (hk : env.scope.kind = .function) (hs : env.kindOf selfN = some .local) (hms : m selfN = some (.ref x)) (hKx : K.lookup x = none) (hxL : x ≠ env.locals) (hdL : dx ≠ env.locals) (hdx : dx ≠ x) (hKd : K.lookup dx = none) :
    ∀ {ss : List Stmt} {fs : List Str} {us : List Value} {done : List (Str × Value)} {s : Shared} {Q : Flow -> Shared -> Prop}, IsAsgs ss fs -> fs.length = us.length -> (∀ f ∈ fs, findIn K (.ref C) f = some none /\ env.kindOf f = some .local /\ (f == ("__debug__" : Str)) = false) -> (∀ p ∈ fs.zip us, m p.1 = some p.2) ->
      (done.map (·.1) ++ fs).Nodup -> (done.map (·.1) ++ fs).length <= 1000 -> K.In s.heap -> s.heap.Ns env.locals m -> s.heap.get? x = some { cls := .ref C, dict := some dx, data := .fields #[.ref t1, .none, .none, .none, .bool false, .none] } -> s.heap.Ns1 dx (fun y => done.lookup y) ->
      (∀ h' tk, Stored s.heap h' x C dx t1 (fun y => (done ++ fs.zip us).lookup y) -> Q .next { s with heap := h', toks := tk }) -> wpAny (model prog w) A (execs ss env) Q E s
  | _, _, [], done, s, Q, .nil, _, _, _, _, _, X, hn, hx, hd, q => wpAny_execs_nil (q s.heap s.toks ⟨fun b o _ _ e => e, hx, by simpa using hd⟩)
  | _, _, u :: us, done, s, Q, .cons (f := f) (fs := fs) (r := r) hr, hl, hf, hm, nd, hz, X, hn, hx, hd, q => by
    obtain ⟨hno, hkf, hdb⟩ := hf f (List.mem_cons_self ..)
    refine wpAny_execs_cons (plainObj_wpAny_Assign_Attribute ?_)
    refine ldX (v := u) hn (hm (f, u) (by simp)) (ldX (v := .ref x) hn hms ?_ hk hs (by decide)) hk hkf hdb
    obtain ⟨oD, esD, epD, hoD, hdD, _⟩ := hd.count (within_lookup done)
    refine set_plain X (ox := { cls := .ref C, dict := some dx, data := .fields #[.ref t1, .none, .none, .none, .bool false, .none] }) (od := some oD) ⟨hx, rfl, rfl, hoD⟩ sa ?_
    have hnd : f ∉ done.map (·.1) := fun z => (List.nodup_append.mp nd).2.2 f z f (List.mem_cons_self ..) rfl
    obtain ⟨hp, g, dr, tk, os⟩ := s
    refine osa_old X hx hd (within_lookup done) (by rw [List.length_append] at hz; omega) hcd hve hdi hno (fun h3 tk3 k3 hn3 => ?_)
    have hn3' : h3.Ns1 dx (fun y => (done ++ [(f, u)]).lookup y) := by
      have e : (fun y => if y = f then some u else done.lookup y) = fun y => (done ++ [(f, u)]).lookup y := funext fun y => lookup_snoc y hnd
      rw [<- e]; exact hn3
    show wpAny _ _ (execs _ _) _ _ _
    have kx : h3.get? x = some { cls := .ref C, dict := some dx, data := .fields #[.ref t1, .none, .none, .none, .bool false, .none] } := k3 _ _ (Ne.symm hdx) hx
    have X3 : K.In h3 := fun a o e => k3 a o (fun z => by rw [z, hKd] at e; cases e) (X a o e)
    have hnL : h3.Ns env.locals m := by
      obtain ⟨oL, es, ep, hL, r⟩ := hn
      exact ⟨oL, es, ep, k3 _ _ (Ne.symm hdL) hL, r⟩
    refine stores hcd hve hdi sa hk hs hms hKx hxL hdL hdx hKd (s := ⟨h3, g, dr, tk3, os⟩) (us := us) (done := done ++ [(f, u)]) hr (by simpa using hl) (fun f' m' => hf f' (List.mem_cons_of_mem _ m')) (fun p hp => hm p (by simp; exact .inr hp)) ?_ ?_ X3 hnL kx hn3' fun h' tk' S => ?_
    · simpa [List.append_assoc] using nd
    · simpa [List.append_assoc] using hz
    · refine q h' tk' ⟨fun b o h1 h2 e => S.keep b o h1 h2 (k3 b o h2 e), S.obj, ?_⟩
      have := S.ns
      rwa [List.append_assoc] at this
structure OwnMade (h h' : Heap) (e C d : Addr) (m : Str -> Option Value) : Prop where
  keep : ∀ b o, h.get? b = some o -> h'.get? b = some o
  new : h.objs.size <= e
  obj : ∃ oe vs, h'.get? e = some oe /\ oe.cls = .ref C /\ oe.dict = some d /\ oe.data = .fields vs /\ vs[1]? = some .none
  dbig : h.objs.size <= d
  dne : d ≠ e
  ns : h'.Ns1 d m
theorem none_big {h : Heap} (X : K.In h) {a : Addr} (ha : h.objs.size <= a) : K.lookup a = none := by
  cases e : K.lookup a with
  | none => rfl
  | some o => exact absurd (Heap.lt_size (X _ _ e)) (Nat.not_lt.mpr ha)
theorem ns_keep {h h' : Heap} {L x : Addr} {m : Str -> Option Value} (hn : h.Ns L m) (k : ∀ b o, b ≠ x -> h.get? b = some o -> h'.get? b = some o) (ne : L ≠ x) : h'.Ns L m := by
  obtain ⟨oL, es, ep, hL, r⟩ := hn
  exact ⟨oL, es, ep, k _ _ ne hL, r⟩
structure InitEnd (h h' : Heap) (x C dx t1 : Addr) (m : Str -> Option Value) : Prop where
  keep : ∀ b o, b ≠ x -> h.get? b = some o -> h'.get? b = some o
  obj : h'.get? x = some { cls := .ref C, dict := some dx, data := .fields #[.ref t1, .none, .none, .none, .bool false, .none] }
  dbig : h.objs.size <= dx
  dne : dx ≠ x
  ns : h'.Ns1 dx m
theorem ex_init {R : Result -> Shared -> Prop} {s : Shared} {fI : Addr} {qual : Str} {params : Arguments} {body : List Stmt} {scope : Scope} {fs : List Str} {mg mb : Str -> Option Value} {us : List Value} {x t0 : Addr}
    (T : ExTxt prog K C fI qual params body scope fs) (hb : ∃ b0 ss msg, body = b0 :: ss /\ IsSup qual scope msg b0 /\ IsAsgs ss fs) (hfs : fs ≠ []) (hl : fs.length = us.length)
    (nd : fs.Nodup) (hz : fs.length <= 1000) (hself : selfN ∉ fs)
    (hhead : ∃ ar : Arg, (params.posonlyargs ++ params.args).head? = some ar /\ ar.arg = selfN)
    (hloc : ∀ f ∈ selfN :: fs, scope.names.lookup f = some .local /\ (f == ("__debug__" : Str)) = false) (hsup : scope.names.lookup ("super" : Str) = some .globalImplicit) (hcl : scope.names.lookup ("__class__" : Str) = some .free)
    (hcell : ∀ x ∈ scope.names, x.2 ≠ .cell) (hco : scope.isCoroutine = false) (hgen : scope.isGenerator = false) (hk : scope.kind = .function)
    (htop : (prog.main.scope.names.lookup ("super" : Str)).isSome = false)
    (hbind : ∀ (doc pm : Value) (an : Option Addr) (cdv ct : Value) (cc : Addr), bindArgs (ksFn "__init__" qual params body scope .none .none doc pm an cdv ct cc) ⟨.ref x :: us, []⟩ = pure ((selfN, Value.ref x) :: fs.zip us))
    (X : K.In s.heap) (hlim : s.heap.NoLimit) (hG : s.heap.Ns mainGlobals mg) (hms : mg "super" = none) (hB : s.heap.Ns builtinsNs mb) (hmb : mb "super" = some (.type "super"))
    (hx : s.heap.get? x = some (excO C t0)) (hnx : K.lookup x = none) (hroom : A.depth < recursionLimit)
    (hq : ∀ h' tk dx t1, InitEnd s.heap h' x C dx t1 (fun y => (fs.zip us).lookup y) -> R (.ok (.ret .none)) { s with heap := h', toks := tk }) :
    codeAny (model prog w) A (.call (.ref fI) ⟨.ref x :: us, []⟩) R s := by
  obtain ⟨sc1, sc2, sc3, sc4, sc5⟩ := scope
  dsimp only at hco hgen hk
  subst hco hgen hk
  obtain ⟨oc, od, doc, pm, an, ct, osl, cda, cc, ccl, cdd, vs, ccs, file, tf, cl, cld, csl, ho, hcd, hcode, hvs, hfile, hcc⟩ := T.fn
  obtain ⟨b0, ss, msg, rfl, ⟨p0, p1, p2, p3, p4, p5, k, rfl, hev⟩, hss⟩ := hb
  obtain ⟨cd, hcdt, hve, hdi⟩ := T.cdt
  obtain ⟨ar, har, hars⟩ := hhead
  have hmap : (fs.zip us).map (·.1) = fs := by rw [List.map_fst_zip (by omega)]
  have hnodup : ((selfN, Value.ref x) :: fs.zip us).map (·.1) |>.Nodup := by
    rw [List.map_cons, hmap]; exact List.nodup_cons.mpr ⟨hself, nd⟩
  have hmem : ∀ p ∈ (selfN, Value.ref x) :: fs.zip us, ((selfN, Value.ref x) :: fs.zip us).reverse.lookup p.1 = some p.2 := by
    intro p hp
    obtain ⟨l1, l2, e⟩ := List.append_of_mem (List.mem_reverse.mpr hp)
    refine List.lookup_eq_some_iff.mpr ⟨l1, l2, e, fun q hq => ?_⟩
    have h2 : ((((selfN, Value.ref x) :: fs.zip us).map (·.1)).reverse).Nodup := List.pairwise_reverse.mpr (hnodup.imp fun h => Ne.symm h)
    rw [<- List.map_reverse, e, List.map_append, List.map_cons] at h2
    have h3 := (List.nodup_append.mp h2).2.2 q.1 (List.mem_map_of_mem hq) p.1 (List.mem_cons_self ..)
    exact bne_iff_ne.mpr fun z => h3 z.symm
  refine ks_codeAny_call_defAt (fd := ksFn "__init__" qual params (_ :: ss) _ .none .none doc pm an (.ref cda) ct cc) (binds := (selfN, Value.ref x) :: fs.zip us) hroom (X _ _ ho) rfl hlim (codeRec_of X hcd) rfl (BindsTo.of_eq (hbind ..)) hcell
    (fun y hy => ?_) (fun h₁ hn k1 => ?_) rfl rfl rfl
  · refine (hloc y.1 ?_).1
    rcases List.mem_cons.mp hy with rfl | hy
    · exact List.mem_cons_self ..
    · exact List.mem_cons_of_mem _ (List.of_mem_zip (show (y.1, y.2) ∈ fs.zip us from hy)).1
  have hxs : x < s.heap.objs.size := Heap.lt_size hx
  have hxL : x ≠ s.heap.objs.size := Nat.ne_of_lt hxs
  have X1 : K.In h₁ := X.keeps k1
  have hx1 := k1 _ _ hx
  obtain ⟨oD, hD1, hD2⟩ : ∃ oD, h₁.get? C = some oD /\ oD.data = .cls cd := by
    have hcdt' := hcdt
    unfold clsIn at hcdt'
    split at hcdt'
    · rename_i c d cd' sl ho
      cases hcdt'
      exact ⟨_, X1 _ _ ho, rfl⟩
    · cases hcdt'
  have hxC : x ≠ C := fun z => by
    have hcdt' := hcdt
    unfold clsIn at hcdt'
    rw [<- z, hnx] at hcdt'
    cases hcdt'
  obtain ⟨pl, hev⟩ := hev s.heap.objs.size fI (.ref cda) cc
  refine ks_wpAt_execs_cons (ks_wpAt_Expr_any (ks_wpAt_MethodCall (pl := pl) ?_ hev))
  refine ks_wpAt_super_base (ar := ar) hsup hcl (by decide) rfl (X1 _ _ ho) rfl har rfl (X1 _ _ hcode) rfl hvs hfile htop ?_
  refine ks_loadName_global rfl hsup (loadGlobal_builtin (hG.keeps k1) hms (hB.keeps k1) hmb ⟨rfl, ?_⟩)
  refine wpAny_loadName_free rfl hcl rfl ⟨_, X1 _ _ hcc, rfl⟩ ?_
  rw [hars]
  refine wpAny_loadName_local rfl (hloc _ (List.mem_cons_self ..)).1 hn (hmem _ (List.mem_cons_self ..)) ?_
  refine ks_wpAny_isType_cls hD1 hD2 ⟨rfl, ?_⟩
  refine ks_wpAny_call_super hD1 hD2 hx1 rfl (fun c e => by cases e) (looks_mroIn X1 T.slf) (fun h2 e2 k2 => ?_)
  have X2 : K.In h2 := X1.keeps k2
  have hx2 := k2 _ _ hx1
  have I2 : InstAt h2 x (excO C t0) C none := ⟨hx2, rfl, rfl, trivial⟩
  have hsup2 : alongIn K "__init__" ((cd.mro.dropWhile (· != .ref C)).drop 1) = some (some (.builtin "ValueError.__init__")) := by
    have := T.sup
    unfold ks_superIn at this
    rwa [hcdt] at this
  refine kxs_getMethod kxs_ValueError e2 (looks_opaque X2 T.opq) (l₀ := cd.mro) (fun A Q E s k q => wpAny_bind ((looks_clsIn X2 hcdt) A _ E s k (wpAny_pure q))) rfl X2 hsup2 (I2.type.andThen (looks_subIn X2 T.veC)) hxC (by decide) ?_
  refine callWith_mw (i := "ValueError.__init__") (x := x) (first := []) (spliced_more (Calls.Constant_str (spliced_none ⟨Heap.get?_push_at rfl rfl, ?_⟩)))
  have k3 : ∀ b o, h2.get? b = some o -> (h2.push (kxs_mw "ValueError.__init__" x)).get? b = some o := fun b o e => Heap.get?_push_of_some _ e
  obtain ⟨nm, N', qn, bs, bm, hdct, sn, sub, ab, col, dd, k0, k1', k2', k3', k5, hC, hT⟩ := excInit_of (X2.keeps k3) T.cls
  refine call_mw hC (k3 _ _ hx2) (Heap.get?_push_at rfl rfl) (by rw [sizeLine_eq]; exact (by decide : 1 <= 16777216)) fun h4 t1 k4 hx4 => ?_
  have kk : ∀ b o, b ≠ x -> h₁.get? b = some o -> h4.get? b = some o := fun b o ne e => k4 b o ne (k3 b o (k2 b o e))
  have X4 : K.In h4 := fun a o e => kk a o (fun z => by rw [z, hnx] at e; cases e) (X1 a o e)
  have hn4 := ns_keep hn kk (Ne.symm hxL)
  show wpAt _ _ _ (execs ss _) _ _ _
  refine wpAt_of_wpAny ?_
  cases hss with
  | nil => exact absurd rfl hfs
  | @cons f q1 q2 q3 q4 r fs hr =>
    cases us with
    | nil => simp at hl
    | cons u us =>
      refine wpAny_execs_cons (plainObj_wpAny_Assign_Attribute ?_)
      have hf := hloc f (List.mem_cons_of_mem _ (List.mem_cons_self ..))
      refine ldX (v := u) hn4 (hmem (f, u) (by simp)) (ldX (v := .ref x) hn4 (hmem _ (List.mem_cons_self ..)) ?_ rfl (hloc _ (List.mem_cons_self ..)).1 (by decide)) rfl hf.1 hf.2
      refine set_plain X4 (ox := excO C t1) (od := none) ⟨hx4, rfl, rfl, trivial⟩ T.sa ?_
      refine exc_osa X4 hx4 hcdt hve hdi (T.noN f (List.mem_cons_self ..)) (fun h5 tk5 dx k5 dn dne hx5 hn5 => ?_)
      show wpAny _ _ (execs _ _) _ _ _
      have hLlt : s.heap.objs.size < h4.objs.size := hn4.lt
      have X5 : K.In h5 := fun a o e => k5 a o (fun z => by rw [z, hnx] at e; cases e) (X4 a o e)
      have e5 : (fun y => if y = f then some u else none) = fun y => List.lookup y [(f, u)] := funext fun y => by
        have := lookup_snoc (l := []) (v := u) (f := f) y (by simp)
        simpa using this
      rw [e5] at hn5
      refine stores (w := w) (env := ksEnv qual _ s.heap.objs.size fI (.ref cda) cc) hcdt hve hdi T.sa (x := x) (dx := dx) (t1 := t1) (m := _) rfl (hloc _ (List.mem_cons_self ..)).1 (hmem _ (List.mem_cons_self ..)) hnx hxL (Nat.ne_of_gt (Nat.lt_of_lt_of_le hLlt dn)) dne (none_big X4 dn)
        (done := [(f, u)]) (us := us) hr (by simpa using hl) (fun f' m' => ?_) (fun p hp => hmem p (by simp; exact .inr (.inr hp))) (by simpa using nd) (by simpa using hz) X5 (ns_keep hn4 k5 (Ne.symm hxL)) hx5 hn5 fun h' tk' S => ?_
      · have := hloc f' (List.mem_cons_of_mem _ (List.mem_cons_of_mem _ m'))
        exact ⟨T.noN f' (List.mem_cons_of_mem _ m'), this.1, this.2⟩
      · refine hq h' tk' dx t1 ⟨fun b o ne e => ?_, S.obj, Nat.le_of_lt (Nat.lt_of_lt_of_le hLlt dn), dne, S.ns⟩
        refine S.keep b o ne (fun z => ?_) (k5 b o ne (kk b o ne (k1 b o e)))
        subst z
        exact absurd (Heap.lt_size e) (Nat.not_lt.mpr (Nat.le_of_lt (Nat.lt_of_lt_of_le hLlt dn)))
theorem ex_made {R : Result -> Shared -> Prop} {s : Shared} {fI : Addr} {qual : Str} {params : Arguments} {body : List Stmt} {scope : Scope} {fs : List Str} {mg mb : Str -> Option Value} {us : List Value}
    (T : ExTxt prog K C fI qual params body scope fs) (hb : ∃ b0 ss msg, body = b0 :: ss /\ IsSup qual scope msg b0 /\ IsAsgs ss fs) (hfs : fs ≠ []) (hl : fs.length = us.length)
    (nd : fs.Nodup) (hz : fs.length <= 1000) (hself : selfN ∉ fs)
    (hhead : ∃ ar : Arg, (params.posonlyargs ++ params.args).head? = some ar /\ ar.arg = selfN)
    (hloc : ∀ f ∈ selfN :: fs, scope.names.lookup f = some .local /\ (f == ("__debug__" : Str)) = false) (hsup : scope.names.lookup ("super" : Str) = some .globalImplicit) (hcl : scope.names.lookup ("__class__" : Str) = some .free)
    (hcell : ∀ x ∈ scope.names, x.2 ≠ .cell) (hco : scope.isCoroutine = false) (hgen : scope.isGenerator = false) (hk : scope.kind = .function)
    (htop : (prog.main.scope.names.lookup ("super" : Str)).isSome = false)
    (hbind : ∀ (x : Addr) (doc pm : Value) (an : Option Addr) (cdv ct : Value) (cc : Addr), bindArgs (ksFn "__init__" qual params body scope .none .none doc pm an cdv ct cc) ⟨.ref x :: us, []⟩ = pure ((selfN, .ref x) :: fs.zip us))
    (X : K.In s.heap) (hlim : s.heap.NoLimit) (hG : s.heap.Ns mainGlobals mg) (hms : mg "super" = none) (hB : s.heap.Ns builtinsNs mb) (hmb : mb "super" = some (.type "super"))
    (hroom : A.depth + 1 < recursionLimit)
    (hq : ∀ h' tk e d, OwnMade s.heap h' e C d (fun y => (fs.zip us).lookup y) -> R (.ok (.ret (.ref e))) { s with heap := h', toks := tk }) :
    codeAny (model prog w) A (.call (.ref C) ⟨us, []⟩) R s := by
  obtain ⟨nm, N', qn, bs, bm, hdct, sn, sub, ab, col, dd, k0, k1', k2', k3', k5, hC, hT⟩ := excInit_of X T.cls
  obtain ⟨hp, g, dr, tk, os⟩ := s
  have k : ∀ b o, hp.get? b = some o -> ((hp.push (kdv_tup us)).push (excO C hp.objs.size)).get? b = some o := fun b o e => Heap.get?_push_of_some _ (Heap.get?_push_of_some _ e)
  have hget : ((hp.push (kdv_tup us)).push (excO C hp.objs.size)).get? (hp.objs.size + 1) = some (excO C hp.objs.size) := by heap_get
  have hnx : K.lookup (hp.objs.size + 1) = none := none_big X (Nat.le_succ _)
  refine call_own PySem.F.excBase_ValueError hT hC (looks_findIn X T.iC) (fun self => bind_fn X self T.tC) (by rw [<- hl, sizeLine_eq]; omega) ?_
  refine ex_init (s := ⟨(hp.push (kdv_tup us)).push (excO C hp.objs.size), g, dr, tk, os⟩) T hb hfs hl nd hz hself hhead hloc hsup hcl hcell hco hgen hk htop (hbind _) (X.keeps k) (hlim.keeps k) (hG.keeps k) hms (hB.keeps k) hmb hget hnx ?_ fun h' tk' dx t1 S => ?_
  · show A.depth + 1 < recursionLimit
    exact hroom
  · have old : ∀ b o, hp.get? b = some o -> h'.get? b = some o := fun b o e => S.keep b o (Nat.ne_of_lt (Nat.lt_succ_of_lt (Heap.lt_size e))) (k b o e)
    have z : hp.objs.size + 1 + 1 <= dx := by
      have q := S.dbig
      first
        | exact q
        | (rw [Heap.size_push, Heap.size_push] at q; exact q)
    exact ⟨rfl, hq h' tk' (hp.objs.size + 1) dx ⟨old, Nat.le_succ _, ⟨_, _, S.obj, rfl, rfl, rfl, rfl⟩, Nat.le_trans (Nat.le_trans (Nat.le_succ _) (Nat.le_succ _)) z, S.dne, S.ns⟩⟩
end
end PxE
end PySem
namespace L2
open PySem PySem.Spec PyProof.Rows PySem.PxE
theorem relO_zip {f : Str} : ∀ {fs : List Str} {vs : List V} {us : List Value}, Vals vs us -> RelO ((fs.zip vs).lookup f) ((fs.zip us).lookup f)
  | [], _, _, _ => by simp [List.lookup]; trivial
  | _ :: _, [], [], .nil => by simp [List.lookup]; trivial
  | k :: fs, v :: vs, u :: us, .cons r t => by
    rw [List.zip_cons_cons, List.zip_cons_cons]
    by_cases e : f = k
    · subst e
      simp only [List.lookup_cons_self]
      exact r
    · simp only [List.lookup_cons, beq_eq_false_iff_ne.mpr e]
      exact relO_zip t
structure ExcD (P : Program) (K : PySem.W.Frag) (mg : Str -> Option Value) (x : Str) (C : Addr) (fs : List Str) : Prop where
  ex : ∃ (fI : Addr) (qual : Str) (params : Arguments) (body : List Stmt) (scope : Scope), ExTxt P K C fI qual params body scope fs /\ (∃ b0 ss msg, body = b0 :: ss /\ IsSup qual scope msg b0 /\ IsAsgs ss fs) /\
    (∃ ar : Arg, (params.posonlyargs ++ params.args).head? = some ar /\ ar.arg = selfN) /\
    (∀ f ∈ selfN :: fs, scope.names.lookup f = some .local /\ (f == ("__debug__" : Str)) = false) /\ scope.names.lookup ("super" : Str) = some .globalImplicit /\ scope.names.lookup ("__class__" : Str) = some .free /\
    (∀ x ∈ scope.names, x.2 ≠ .cell) /\ scope.isCoroutine = false /\ scope.isGenerator = false /\ scope.kind = .function /\
    (∀ (us : List Value), us.length = fs.length -> ∀ (x : Addr) (doc pm : Value) (an : Option Addr) (cdv ct : Value) (cc : Addr), bindArgs (PySem.W.ksFn "__init__" qual params body scope .none .none doc pm an cdv ct cc) ⟨.ref x :: us, []⟩ = pure ((selfN, .ref x) :: fs.zip us))
  nf : fs ≠ [] /\ fs.Nodup /\ fs.length <= 1000 /\ selfN ∉ fs
  top : (P.main.scope.names.lookup ("super" : Str)).isSome = false
  gC : mg x = some (.ref C)
  gs : mg "super" = none
  kC : PySem.W.keepIn K (.ref C) = true
section
variable {X : Cx} {C : Addr} {fs : List Str} {x : Str}
def tMkX (C : Addr) (fs : List Str) (ta : TA) : St -> Hp -> XK -> Prop := fun σ H Q => ta σ H fun vs H1 => vs.length = fs.length /\ ∀ d, H1 d = none -> Q (.ref C) (some d) (upd H1 d (.xd (fs.zip vs)))
theorem pmk_x {a : Expr} {es : List Expr} {ta : TA} {p pos : Pos} {k : Nat} (D : ExcD X.prog X.K X.mg x C fs) (hr : Room k X.A) (ha : PA X (a :: es) ta) (hg : Gl X x)
    (hd : (x == ("__debug__" : Str)) = false := by decide) (he : starEach (a :: es) X.env = (false, eval a X.env) :: starEach es X.env := by rfl) (hpl : (backTo pos (starEach es X.env)).any (·.1) = false := by rfl) :
    PMk X (.Call (.Name x p) (a :: es) [] pos) (tMkX C fs ta) := by
  intro pins s σ H Q I h
  obtain ⟨fI, qual, params, body, scope, T, hb, hhead, hloc, hsup, hcl, hcell, hco, hgen, hk, hbind⟩ := D.ex
  refine wpAny_Call_Name_kw (ld_glob I hg D.gC ?_ hd)
  refine PySem.W.callWith_K (h₀ := X.base) I.ok.mod.kin D.kC (thn (ha.run pos pins s σ H _ I h) fun us s1 hh => ?_) he hpl
  obtain ⟨vs, H1, I1, r1, hl, q1⟩ := hh
  refine ⟨I1.kIn, ?_⟩
  show wpAny _ _ (call (.ref C) us) _ _ _
  obtain ⟨mb, hB, hmb⟩ := I1.ok.mod.blt
  have hlim := I1.nolimit
  have hG := I1.ok.mod.glob.keeps I1.bk
  have hB2 := hB.keeps I1.bk
  have hX := I1.kIn
  obtain ⟨hp, g, dr, tk, os⟩ := s1
  refine wpAny_call (ex_made T hb D.nf.1 (by rw [<- r1.length, hl]) D.nf.2.1 D.nf.2.2.1 D.nf.2.2.2 hhead hloc hsup hcl hcell hco hgen hk D.top (hbind us (by rw [<- r1.length, hl])) hX hlim hG D.gs hB2 ((hmb _ (by decide)).trans (by decide +kernel)) (by have := hr.dp; omega) fun h' tk' e d M => ?_)
  show MkP X pins σ Q (.ref e) ⟨h', g, dr, tk', os⟩
  obtain ⟨oe, fv, hoe, hc, hd, hdat, h1⟩ := M.obj
  have hns := M.ns
  obtain ⟨G', g1, g2⟩ := restrict h' fun b => decide (b ≠ e)
  have gk : ∀ b, b ≠ e -> G'.get? b = h'.get? b := fun b hb => g1 b (decide_eq_true hb)
  have ge : G'.get? e = none := g2 e (by simp)
  have old : ∀ b o, hp.get? b = some o -> G'.get? b = some o := fun b o q => (gk b (Nat.ne_of_lt (Nat.lt_of_lt_of_le (Heap.lt_size q) M.new))).trans (M.keep b o q)
  have ob : ObjOk X.prog X.w (upd H1 d (.xd (fs.zip vs))) G' d (.xd (fs.zip vs)) :=
    ⟨_, hns.at (fun o q => (gk d M.dne).trans q), fun f => relO_zip r1⟩
  have J : Inv X pins σ (upd H1 d (.xd (fs.zip vs))) ⟨G', g, dr, tk', os⟩ := I1.laid (t' := tk') old M.dbig ob
  refine ⟨e, oe, fv, ⟨G', g, dr, tk', os⟩, _, .ref C, some d, rfl, J, fun b o q => ?_, ge, hoe, ⟨hc, hd⟩, hdat, h1, ?_, rfl, I1.bare, raises_own T.exC T.tyC, q1 d (I1.hok.fresh M.dbig)⟩
  · by_cases hb : b = e
    · have q' : G'.get? b = some o := q
      rw [hb, ge] at q'; cases q'
    · exact (gk b hb).symm.trans q
  · rw [upd_ne (Ne.symm M.dne)]
    exact I1.hok.fresh M.new
end
end L2
namespace Py
open PySem L2
theorem so_inj {x y : String} (h : so x = so y) : x = y := by
  unfold so at h
  rw [Str.ofString_eq_toList, Str.ofString_eq_toList] at h
  injection h with h
  have h2 : x.toList.map Char.toNat = y.toList.map Char.toNat := by
    have := congrArg Array.toList h
    simpa using this
  have h3 : x.toList = y.toList := by
    have inj : ∀ a b : Char, a.toNat = b.toNat -> a = b := fun a b e => Char.ext (UInt32.toNat_inj.mp e)
    revert h2
    generalize x.toList = l
    generalize y.toList = r
    intro h2
    induction l generalizing r with
    | nil => cases r with
      | nil => rfl
      | cons b r => cases h2
    | cons a l ih => cases r with
      | nil => cases h2
      | cons b r =>
        rw [List.map_cons, List.map_cons] at h2
        injection h2 with e1 e2
        rw [inj _ _ e1, ih r e2]
  exact String.toList_inj.mp h3
structure Tbl where
  fOk : String -> String -> Bool
  con : String -> String -> Option D
  sub : String -> String -> Bool
  /-- the def that a class's name (a method, a getter) stands for -/
  res : String -> String -> Option String := fun _ _ => none
  /-- the field whose list a class's __iter__ walks -/
  it : String -> Option String := fun _ => none
  /-- of exception classes: who derives from whom -/
  xsub : String -> String -> Bool := fun _ _ => false
structure Wd (T : Tbl) where
  K : PySem.W.Frag
  P : Program
  w : World
  cA : String -> Addr
  has : String -> Prop
  cl : ∀ c, has c -> Cls K (cA c)
  na : ∀ c f, has c -> T.fOk c f = true -> NoAttr K (cA c) (so f)
  isT : ∀ c, has c -> PySem.W.findIn K (.ref (cA c)) "__class__" = some (some (.builtin "object.__class__")) /\
    PySem.W.specialIn K (.builtin "object.__class__") "__get__" = some (some (.builtin "getset_descriptor.__get__")) /\ PySem.W.takesIn K (.builtin "object.__class__") = some true /\ PySem.W.mroIn K (cA c) (.type "object") = some true
  isTO : ∀ t c, t ∈ ["NoneType", "bool", "int", "str", "list", "tuple", "dict"] -> has c -> PySem.W.kitOne K (.type t) (.ref (cA c)) = some false
  isOT : ∀ c t, has c -> t ∈ ["int", "bool", "str", "list", "tuple", "dict"] -> PySem.W.kitOne K (.ref (cA c)) (.type t) = some false
  isOO : ∀ c d, has c -> has d -> PySem.W.kitOne K (.ref (cA c)) (.ref (cA d)) = some (T.sub c d)
  /-- the exception classes -/
  hasX : String -> Prop
  xm : ∀ c d, hasX c -> hasX d -> PySem.W.exmOne K (.ref (cA c)) (.ref (cA d)) = some (T.xsub c d)
  xk : ∀ c d, hasX c -> hasX d -> PySem.W.kitOne K (.ref (cA c)) (.ref (cA d)) = some (T.xsub c d)
  xv : ∀ c, hasX c -> PySem.W.kitOne K (.ref (cA c)) (.type "ValueError") = some true
  xc : ∀ c, hasX c -> ExcC K (cA c)
def nkD : NestedKey -> D
  | .none => .non
  | .num i => .int i
  | .text x => .str (String.ofList (x.cps.toList.map Char.ofNat))
  | .tup ks => .tup (nkDs ks)
where nkDs : List NestedKey -> List D
  | [] => []
  | k :: ks => nkD k :: nkDs ks
def digP (P : Program) (w : World) (a : Addr) (ks : List NestedKey) (kas : List Addr) (vs : List V) : Heap -> Prop := fun h =>
  (a == sysModules) = false /\ ∃ us : List Value, Vals vs us /\ ks.length = kas.length /\ ks.length = us.length /\ us.length <= sizeLine /\
    ∃ o es ep, h.get? a = some o /\ o.ExactDict /\ o.data = .dict es ep /\ es.toList = (ks.zip (kas.zip us)).map (entryOfKey (nestedKind P w)) /\ ks.Nodup
namespace LK
def leaf : LK -> Leaf
  | .non => .none
  | .bl b => .num (if b = true then 1 else 0)
  | .num i => .num i
  | .txt x => .text (so x)
def is (m : Bool) : LK -> Value -> Bool
  | .non, .none => true
  | .bl b, .bool c => m && decide (c = b)
  | .num i, .int j _ => decide (j = i) && (!m || (decide (i ≠ 0) && decide (i ≠ 1)))
  | .txt x, v => Value.isStrOf (so x) v
  | _, _ => false
theorem isLeaf {m : Bool} : ∀ {k : LK} {v : Value}, LK.is m k v = true -> Leaf.isOf k.leaf v = true
  | .non, v, e => by cases v <;> first | rfl | exact absurd e Bool.false_ne_true
  | .bl b, v, e => by
    cases v with
    | bool c =>
      have e' : (m && decide (c = b)) = true := e
      rw [Bool.and_eq_true, decide_eq_true_eq] at e'
      rw [e'.2]
      show decide ((if b = true then 1 else 0) = (if b = true then (1 : Int) else 0)) = true
      simp
    | _ => exact absurd e Bool.false_ne_true
  | .num i, v, e => by
    cases v with
    | int j t =>
      have e' : (decide (j = i) && (!m || (decide (i ≠ 0) && decide (i ≠ 1)))) = true := e
      rw [Bool.and_eq_true] at e'
      exact e'.1
    | _ => exact absurd e Bool.false_ne_true
  | .txt x, v, e => e
theorem no_bn {m : Bool} {c : Bool} {i : Int} {u v : Value} (h1 : LK.is m (.bl c) u = true) (h2 : LK.is m (.num i) v = true) : ¬ (if c = true then (1 : Int) else 0) = i := by
  intro h3
  cases u with
  | bool d =>
    cases v with
    | int j t =>
      have h1' : (m && decide (d = c)) = true := h1
      have h2' : (decide (j = i) && (!m || (decide (i ≠ 0) && decide (i ≠ 1)))) = true := h2
      subst h3
      cases m <;> cases c <;> simp at h1' h2'
    | _ => exact absurd h2 Bool.false_ne_true
  | _ => exact absurd h1 Bool.false_ne_true
theorem leaf_eq {m : Bool} {a b : LK} {u v : Value} (ha : LK.is m a u = true) (hb : LK.is m b v = true) (h : a.leaf = b.leaf) : a = b := by
  cases a with
  | non => cases b with
    | non => rfl
    | bl _ => exact nomatch (show Leaf.none = Leaf.num _ from h)
    | num _ => exact nomatch (show Leaf.none = Leaf.num _ from h)
    | txt _ => exact nomatch (show Leaf.none = Leaf.text _ from h)
  | bl c => cases b with
    | non => exact nomatch (show Leaf.num _ = Leaf.none from h)
    | bl d =>
      have h' : Leaf.num (if c = true then 1 else 0) = Leaf.num (if d = true then 1 else 0) := h
      injection h' with h'
      cases c <;> cases d <;> first | rfl | exact absurd h' (by decide)
    | num i =>
      have h' : Leaf.num (if c = true then 1 else 0) = Leaf.num i := h
      injection h' with h'
      exact absurd h' (no_bn ha hb)
    | txt _ => exact nomatch (show Leaf.num _ = Leaf.text _ from h)
  | num i => cases b with
    | non => exact nomatch (show Leaf.num _ = Leaf.none from h)
    | bl d =>
      have h' : Leaf.num i = Leaf.num (if d = true then 1 else 0) := h
      injection h' with h'
      exact absurd h'.symm (no_bn hb ha)
    | num j =>
      have h' : Leaf.num i = Leaf.num j := h
      injection h' with h'
      rw [h']
    | txt _ => exact nomatch (show Leaf.num _ = Leaf.text _ from h)
  | txt x => cases b with
    | non => exact nomatch (show Leaf.text _ = Leaf.none from h)
    | bl _ => exact nomatch (show Leaf.text _ = Leaf.num _ from h)
    | num _ => exact nomatch (show Leaf.text _ = Leaf.num _ from h)
    | txt y =>
      have h' : Leaf.text (so x) = Leaf.text (so y) := h
      injection h' with h'
      rw [so_inj h']
end LK
def lfK (P : Program) (w : World) (m : Bool) : KeyKind P w LK where
  is := LK.is m
  hash := fun k => (leafKind P w).hash k.leaf
  inj := fun v a b ha hb => LK.leaf_eq ha hb ((leafKind P w).inj v _ _ (LK.isLeaf ha) (LK.isLeaf hb))
  byValue := fun k v h => (leafKind P w).byValue _ _ (LK.isLeaf h)
  pyHash := fun hv h => (leafKind P w).pyHash (LK.isLeaf hv) h
  eqBool := fun {A E s a b u v Q} hu hv h => (leafKind P w).eqBool (LK.isLeaf hu) (LK.isLeaf hv) (by
    have e : decide (a.leaf = b.leaf) = decide (a = b) := by
      by_cases z : a = b
      · rw [z]; simp
      · rw [decide_eq_false z, decide_eq_false fun y => z (LK.leaf_eq hu hv y)]
    rw [e]; exact h)
  «strs» := fun k x t v h => by
    cases k with
    | txt y =>
      obtain ⟨u, hu⟩ := Value.isStrOf_shape (show Value.isStrOf (so y) (.str x t) = true from h)
      injection hu with hx
      subst hx
      cases v <;> rfl
    | _ => exact absurd h Bool.false_ne_true
def lfP (P : Program) (w : World) (m : Bool) (a : Addr) (ep : Nat) (ks : List LK) (vs : List V) : Heap -> Prop := fun h =>
  (a == sysModules) = false /\ vs.length <= sizeLine /\ ∃ us : List Value, Vals vs us /\ ks.length = us.length /\ h.DictAt (lfK P w m) a (ks.zip us) ep
section
variable {T : Tbl} (W : Wd T)
mutual
inductive Shr : Hp -> D -> V -> Prop
  | non {F} : Shr F .non .non
  | bl {F b} : Shr F (.bl b) (.bl b)
  | int {F i} : Shr F (.int i) (.int i)
  | str {F x} : Shr F (.str x) (.str (so x))
  | cls {F c} : W.has c -> Shr F (.cls c) (.ref (W.cA c))
  | sei {F a xs} : F a = some (.set (fun i => decide (i ∈ xs)) xs.length) -> xs.Pairwise (· < ·) -> Shr F (.sei xs) (.ref a)
  | scr {F a ns} : SqL W.K F a (ns.map V.int) -> Shr F (.scr ns) (.ref a)
  | tup {F a xs vs} : F a = some (.tup vs) -> Shrs F xs vs -> Shr F (.tup xs) (.ref a)
  | lst {F a xs vs} : F a = some (.lst vs) -> Shrs F xs vs -> Shr F (.lst xs) (.ref a)
  | dic {F a ks xs vs} : Rd F a (.dK (ks.zip vs)) -> ks.length = vs.length -> ks.Nodup -> Shrs F xs vs -> Shr F (.dic ks xs) (.ref a)
  | dit {F a ks xs vs} : Rd F a (.dT (ks.zip vs)) -> ks.length = vs.length -> ks.Nodup -> Shrs F xs vs -> Shr F (.dit ks xs) (.ref a)
  | dig {F a ks kas xs vs} : F a = some (.ext (digP W.P W.w a ks kas vs)) -> Shrs F (ks.map nkD) (kas.map V.ref) -> ks.length = vs.length -> Shrs F xs vs -> Shr F (.dig ks xs) (.ref a)
  | dlf {F a m ep ks xs vs} : F a = some (.ext (lfP W.P W.w m a ep ks vs)) -> ks.length = vs.length -> ks.Nodup -> Shrs F xs vs -> Shr F (.dlf m ks xs) (.ref a)
  | xt {F a t φ ep ks xs kvs vs} : F a = some (.ext (φ W.P W.w ep a kvs vs)) -> Shrs F ks kvs -> Shrs F xs vs -> Shr F (.xt t φ ks xs) (.ref a)
  | len {F a od xs vs} : F a = some (.frz od (.lst vs)) -> Shrs F xs vs -> Shr F (.len xs) (.ref a)
  | ins {F a c dx ns xs vs} : F a = some (.ins (W.cA c) dx ((ns.map so).zip vs)) -> W.has c -> ns.length = vs.length -> Shrs F xs vs -> Shr F (.ins c ns xs) (.ref a)
inductive Shrs : Hp -> List D -> List V -> Prop
  | nil {F} : Shrs F [] []
  | cons {F d v ds vs} : Shr F d v -> Shrs F ds vs -> Shrs F (d :: ds) (v :: vs)
end
mutual
inductive Own : Hp -> Hp -> D -> V -> List Addr -> Prop
  | sh {F H d v} : Shr W F d v -> Own F H d v []
  | olst {F H a xs vs L} : H a = some (.lst vs) -> Owns F H xs vs L -> Own F H (.olst xs) (.ref a) (a :: L)
  | odic {F H a ks xs vs L} : H a = some (.dK (ks.zip vs)) -> ks.length = vs.length -> ks.Nodup -> Owns F H xs vs L -> Own F H (.odic ks xs) (.ref a) (a :: L)
  | odit {F H a ks xs vs L} : H a = some (.dT (ks.zip vs)) -> ks.length = vs.length -> ks.Nodup -> Owns F H xs vs L -> Own F H (.odit ks xs) (.ref a) (a :: L)
  | odig {F H a ks kas xs vs L} : H a = some (.ext (digP W.P W.w a ks kas vs)) -> Shrs W F (ks.map nkD) (kas.map V.ref) -> ks.length = vs.length -> Owns F H xs vs L -> Own F H (.odig ks xs) (.ref a) (a :: L)
  | olf {F H a m ep ks xs vs L} : H a = some (.ext (lfP W.P W.w m a ep ks vs)) -> ks.length = vs.length -> ks.Nodup -> Owns F H xs vs L -> Own F H (.olf m ks xs) (.ref a) (a :: L)
  | oxt {F H a t φ ep ks xs kvs vs L} : H a = some (.ext (φ W.P W.w ep a kvs vs)) -> Shrs W F ks kvs -> Owns F H xs vs L -> Own F H (.oxt t φ ks xs) (.ref a) (a :: L)
  | otup {F H a xs vs L} : H a = some (.tup vs) -> Owns F H xs vs L -> Own F H (.otup xs) (.ref a) (a :: L)
  | oins {F H a c dx ns xs vs L} : H a = some (.ins (W.cA c) dx ((ns.map so).zip vs)) -> W.has c -> ns.length = vs.length -> Owns F H xs vs L -> Own F H (.oins c ns xs) (.ref a) (a :: L)
inductive Owns : Hp -> Hp -> List D -> List V -> List Addr -> Prop
  | nil {F H} : Owns F H [] [] []
  | cons {F H d v ds vs L M} : Own F H d v L -> Owns F H ds vs M -> Owns F H (d :: ds) (v :: vs) (L ++ M)
end
end
section
variable {T : Tbl} {W : Wd T} {F F' H H' : Hp}
theorem rd_same {F F' : Hp} (e : Same F F') {a : Addr} {u : HO} (h : Rd F a u) : Rd F' a u := h.elim (fun h => .inl (e _ _ h)) fun ⟨o, h⟩ => .inr ⟨o, e _ _ h⟩
mutual
theorem Shr.mono {F F' : Hp} (e : Same F F') : ∀ {d : D} {v : V}, Shr W F d v -> Shr W F' d v
  | _, _, .non => .non
  | _, _, .bl => .bl
  | _, _, .int => .int
  | _, _, .str => .str
  | _, _, .cls h => .cls h
  | _, _, .sei h n => .sei (e _ _ h) n
  | _, _, .scr h => .scr (e.seq h)
  | _, _, .tup h hs => .tup (e _ _ h) (Shrs.mono e hs)
  | _, _, .lst h hs => .lst (e _ _ h) (Shrs.mono e hs)
  | _, _, .dic h l n hs => .dic (rd_same e h) l n (Shrs.mono e hs)
  | _, _, .dit h l n hs => .dit (rd_same e h) l n (Shrs.mono e hs)
  | _, _, .dig h k l hs => .dig (e _ _ h) (Shrs.mono e k) l (Shrs.mono e hs)
  | _, _, .dlf h l n hs => .dlf (e _ _ h) l n (Shrs.mono e hs)
  | _, _, .xt h k hs => .xt (e _ _ h) (Shrs.mono e k) (Shrs.mono e hs)
  | _, _, .len h hs => .len (e _ _ h) (Shrs.mono e hs)
  | _, _, .ins h c l hs => .ins (e _ _ h) c l (Shrs.mono e hs)
theorem Shrs.mono {F F' : Hp} (e : Same F F') : ∀ {d : List D} {v : List V}, Shrs W F d v -> Shrs W F' d v
  | _, _, .nil => .nil
  | _, _, .cons h t => .cons (Shr.mono e h) (Shrs.mono e t)
end
theorem Shrs.length {F : Hp} : ∀ {ds : List D} {vs : List V}, Shrs W F ds vs -> ds.length = vs.length
  | _, _, .nil => rfl
  | _, _, .cons _ t => congrArg (· + 1) (Shrs.length t)
theorem Shrs.get {F : Hp} : ∀ {ds : List D} {vs : List V} {i : Nat} {d : D}, Shrs W F ds vs -> ds[i]? = some d -> ∃ v, vs[i]? = some v /\ Shr W F d v
  | _, _, _, _, .nil, e => by simp at e
  | _, _, 0, _, .cons h _, e => by simp at e; subst e; exact ⟨_, rfl, h⟩
  | _, _, i + 1, _, .cons _ t, e => Shrs.get (i := i) t (by simpa using e)
theorem Shrs.append {F : Hp} : ∀ {ds es : List D} {vs ws : List V}, Shrs W F ds vs -> Shrs W F es ws -> Shrs W F (ds ++ es) (vs ++ ws)
  | _, _, _, _, .nil, h => h
  | _, _, _, _, .cons h t, q => .cons h (Shrs.append t q)
mutual
theorem Own.frame {F F' H H' : Hp} (e : Same F F') : ∀ {d : D} {v : V} {L : List Addr}, (∀ a ∈ L, ∀ o, H a = some o -> H' a = some o) -> Own W F H d v L -> Own W F' H' d v L
  | _, _, _, _, .sh h => .sh (h.mono e)
  | _, _, _, k, .olst h t => .olst (k _ (List.mem_cons_self ..) _ h) (Owns.frame e (fun a m => k a (List.mem_cons_of_mem _ m)) t)
  | _, _, _, k, .odic h l n t => .odic (k _ (List.mem_cons_self ..) _ h) l n (Owns.frame e (fun a m => k a (List.mem_cons_of_mem _ m)) t)
  | _, _, _, k, .odit h l n t => .odit (k _ (List.mem_cons_self ..) _ h) l n (Owns.frame e (fun a m => k a (List.mem_cons_of_mem _ m)) t)
  | _, _, _, k, .odig h s l t => .odig (k _ (List.mem_cons_self ..) _ h) (s.mono e) l (Owns.frame e (fun a m => k a (List.mem_cons_of_mem _ m)) t)
  | _, _, _, k, .olf h l n t => .olf (k _ (List.mem_cons_self ..) _ h) l n (Owns.frame e (fun a m => k a (List.mem_cons_of_mem _ m)) t)
  | _, _, _, k, .oxt h s t => .oxt (k _ (List.mem_cons_self ..) _ h) (s.mono e) (Owns.frame e (fun a m => k a (List.mem_cons_of_mem _ m)) t)
  | _, _, _, k, .otup h t => .otup (k _ (List.mem_cons_self ..) _ h) (Owns.frame e (fun a m => k a (List.mem_cons_of_mem _ m)) t)
  | _, _, _, k, .oins h c l t => .oins (k _ (List.mem_cons_self ..) _ h) c l (Owns.frame e (fun a m => k a (List.mem_cons_of_mem _ m)) t)
theorem Owns.frame {F F' H H' : Hp} (e : Same F F') : ∀ {d : List D} {v : List V} {L : List Addr}, (∀ a ∈ L, ∀ o, H a = some o -> H' a = some o) -> Owns W F H d v L -> Owns W F' H' d v L
  | _, _, _, _, .nil => .nil
  | _, _, _, k, .cons h t => .cons (Own.frame e (fun a m => k a (List.mem_append_left _ m)) h) (Owns.frame e (fun a m => k a (List.mem_append_right _ m)) t)
end
mutual
theorem Own.lives {F H : Hp} : ∀ {d : D} {v : V} {L : List Addr}, Own W F H d v L -> ∀ a ∈ L, ∃ o, H a = some o
  | _, _, _, .sh _, a, m => nomatch m
  | _, _, _, .olst h t, a, m => by
    rcases List.mem_cons.mp m with rfl | m
    · exact ⟨_, h⟩
    · exact Owns.lives t a m
  | _, _, _, .odic h _ _ t, a, m => by
    rcases List.mem_cons.mp m with rfl | m
    · exact ⟨_, h⟩
    · exact Owns.lives t a m
  | _, _, _, .odit h _ _ t, a, m => by
    rcases List.mem_cons.mp m with rfl | m
    · exact ⟨_, h⟩
    · exact Owns.lives t a m
  | _, _, _, .odig h _ _ t, a, m => by
    rcases List.mem_cons.mp m with rfl | m
    · exact ⟨_, h⟩
    · exact Owns.lives t a m
  | _, _, _, .olf h _ _ t, a, m => by
    rcases List.mem_cons.mp m with rfl | m
    · exact ⟨_, h⟩
    · exact Owns.lives t a m
  | _, _, _, .oxt h _ t, a, m => by
    rcases List.mem_cons.mp m with rfl | m
    · exact ⟨_, h⟩
    · exact Owns.lives t a m
  | _, _, _, .otup h t, a, m => by
    rcases List.mem_cons.mp m with rfl | m
    · exact ⟨_, h⟩
    · exact Owns.lives t a m
  | _, _, _, .oins h _ _ t, a, m => by
    rcases List.mem_cons.mp m with rfl | m
    · exact ⟨_, h⟩
    · exact Owns.lives t a m
theorem Owns.lives {F H : Hp} : ∀ {d : List D} {v : List V} {L : List Addr}, Owns W F H d v L -> ∀ a ∈ L, ∃ o, H a = some o
  | _, _, _, .nil, a, m => nomatch m
  | _, _, _, .cons h t, a, m => (List.mem_append.mp m).elim (fun m => Own.lives h a m) fun m => Owns.lives t a m
end
theorem Owns.length {F H : Hp} : ∀ {ds : List D} {vs : List V} {L : List Addr}, Owns W F H ds vs L -> ds.length = vs.length
  | _, _, _, .nil => rfl
  | _, _, _, .cons _ t => congrArg (· + 1) (Owns.length t)
mutual
def fz : D -> D
  | .olst xs => .lst (fzs xs)
  | .odic ks xs => .dic ks (fzs xs)
  | .odit ks xs => .dit ks (fzs xs)
  | .odig ks xs => .dig ks (fzs xs)
  | .olf m ks xs => .dlf m ks (fzs xs)
  | .oxt t φ ks xs => .xt t φ ks (fzs xs)
  | .otup xs => .tup (fzs xs)
  | .oins C ns xs => .ins C ns (fzs xs)
  | d => d
def fzs : List D -> List D
  | [] => []
  | d :: ds => fz d :: fzs ds
end
theorem fzs_eq : ∀ ds : List D, fzs ds = ds.map fz
  | [] => by rw [fzs]; rfl
  | d :: ds => by rw [fzs, fzs_eq ds]; rfl
def isSh : D -> Bool
  | .olst _ => false
  | .odic _ _ => false
  | .odit _ _ => false
  | .odig _ _ => false
  | .olf _ _ _ => false
  | .oxt _ _ _ _ => false
  | .otup _ => false
  | .oins _ _ _ => false
  | _ => true
theorem fz_isSh {d : D} (h : isSh d = true) : fz d = d := by
  cases d <;> first | (cases h; done) | simp [fz]
theorem fz_shr {F : Hp} {d : D} {v : V} (h : Shr W F d v) : fz d = d := by
  refine fz_isSh ?_
  cases h <;> rfl
theorem Shr.isSh {F : Hp} {d : D} {v : V} (h : Shr W F d v) : isSh d = true := by cases h <;> rfl
theorem Shrs.isSh {F : Hp} : ∀ {d : List D} {v : List V}, Shrs W F d v -> d.all Py.isSh = true
  | _, _, .nil => rfl
  | _, _, .cons h t => by rw [List.all_cons, h.isSh, t.isSh]; rfl
mutual
theorem Own.view {F H G : Hp} (e : Same F G) : ∀ {d : D} {v : V} {L : List Addr}, (∀ a ∈ L, ∀ o, H a = some o -> G a = some o) -> Own W F H d v L -> Shr W G (fz d) v
  | _, _, _, _, .sh h => by rw [fz_shr h]; exact h.mono e
  | _, _, _, k, .olst h t => by rw [fz]; exact .lst (k _ (List.mem_cons_self ..) _ h) (Owns.view e (fun a m => k a (List.mem_cons_of_mem _ m)) t)
  | _, _, _, k, .odic h l n t => by rw [fz]; exact .dic (.inl (k _ (List.mem_cons_self ..) _ h)) l n (Owns.view e (fun a m => k a (List.mem_cons_of_mem _ m)) t)
  | _, _, _, k, .odit h l n t => by rw [fz]; exact .dit (.inl (k _ (List.mem_cons_self ..) _ h)) l n (Owns.view e (fun a m => k a (List.mem_cons_of_mem _ m)) t)
  | _, _, _, k, .odig h s l t => by rw [fz]; exact .dig (k _ (List.mem_cons_self ..) _ h) (s.mono e) l (Owns.view e (fun a m => k a (List.mem_cons_of_mem _ m)) t)
  | _, _, _, k, .olf h l n t => by rw [fz]; exact .dlf (k _ (List.mem_cons_self ..) _ h) l n (Owns.view e (fun a m => k a (List.mem_cons_of_mem _ m)) t)
  | _, _, _, k, .oxt h s t => by rw [fz]; exact .xt (k _ (List.mem_cons_self ..) _ h) (s.mono e) (Owns.view e (fun a m => k a (List.mem_cons_of_mem _ m)) t)
  | _, _, _, k, .otup h t => by rw [fz]; exact .tup (k _ (List.mem_cons_self ..) _ h) (Owns.view e (fun a m => k a (List.mem_cons_of_mem _ m)) t)
  | _, _, _, k, .oins h c l t => by rw [fz]; exact .ins (k _ (List.mem_cons_self ..) _ h) c l (Owns.view e (fun a m => k a (List.mem_cons_of_mem _ m)) t)
theorem Owns.view {F H G : Hp} (e : Same F G) : ∀ {d : List D} {v : List V} {L : List Addr}, (∀ a ∈ L, ∀ o, H a = some o -> G a = some o) -> Owns W F H d v L -> Shrs W G (fzs d) v
  | _, _, _, _, .nil => by rw [fzs]; exact .nil
  | _, _, _, k, .cons h t => by rw [fzs]; exact .cons (Own.view e (fun a m => k a (List.mem_append_left _ m)) h) (Owns.view e (fun a m => k a (List.mem_append_right _ m)) t)
end
theorem Shrs.owns {F H : Hp} : ∀ {ds : List D} {vs : List V}, Shrs W F ds vs -> Owns W F H ds vs []
  | _, _, .nil => .nil
  | _, _, .cons h t => Owns.cons (L := []) (M := []) (.sh h) (Shrs.owns t)
theorem Own.shr {F H : Hp} {d : D} {v : V} {L : List Addr} (o : Own W F H d v L) (h : Py.isSh d = true) : Shr W F d v := by
  cases o with
  | sh y => exact y
  | olst => cases h
  | odic => cases h
  | odit => cases h
  | odig => cases h
  | olf => cases h
  | oxt => cases h
  | otup => cases h
  | oins => cases h
theorem Own.shNil {F H : Hp} {d : D} {v : V} {L : List Addr} (o : Own W F H d v L) (h : Py.isSh d = true) : L = [] := by
  cases o with
  | sh y => rfl
  | olst => cases h
  | odic => cases h
  | odit => cases h
  | odig => cases h
  | olf => cases h
  | oxt => cases h
  | otup => cases h
  | oins => cases h
theorem Owns.shrs {F H : Hp} : ∀ {ds : List D} {vs : List V} {L : List Addr}, Owns W F H ds vs L -> ds.all Py.isSh = true -> Shrs W F ds vs
  | _, _, _, .nil, _ => .nil
  | _, _, _, .cons o t, h => by
    rw [List.all_cons, Bool.and_eq_true] at h
    exact .cons (o.shr h.1) (t.shrs h.2)
end
end Py
namespace Py
open PySem L2
abbrev Env := List (Option D)
inductive Slots {T : Tbl} (W : Wd T) : Hp -> Hp -> Py.Env -> St -> List Addr -> Prop
  | nil {F H} : Slots W F H [] [] []
  | so {F H d v env σ L M} : Own W F H d v L -> Slots W F H env σ M -> Slots W F H (some d :: env) (some v :: σ) (L ++ M)
  | no {F H o env σ M} : Slots W F H env σ M -> Slots W F H (none :: env) (o :: σ) M
section
variable {T : Tbl} {W : Wd T} {F F' H H' : Hp}
theorem Slots.frame (e : Same F F') : ∀ {env : Py.Env} {σ : St} {L : List Addr}, (∀ a ∈ L, ∀ o, H a = some o -> H' a = some o) -> Slots W F H env σ L -> Slots W F' H' env σ L
  | _, _, _, _, .nil => .nil
  | _, _, _, k, .so h t => .so (h.frame e fun a m => k a (List.mem_append_left _ m)) (t.frame e fun a m => k a (List.mem_append_right _ m))
  | _, _, _, k, .no t => .no (t.frame e k)
theorem Slots.lives : ∀ {env : Py.Env} {σ : St} {L : List Addr}, Slots W F H env σ L -> ∀ a ∈ L, ∃ o, H a = some o
  | _, _, _, .nil, _, m => nomatch m
  | _, _, _, .so h t, a, m => (List.mem_append.mp m).elim (fun m => h.lives a m) fun m => t.lives a m
  | _, _, _, .no t, a, m => t.lives a m
theorem Slots.length : ∀ {env : Py.Env} {σ : St} {L : List Addr}, Slots W F H env σ L -> env.length = σ.length
  | _, _, _, .nil => rfl
  | _, _, _, .so _ t => congrArg (· + 1) t.length
  | _, _, _, .no t => congrArg (· + 1) t.length
theorem Slots.take : ∀ {env : Py.Env} {σ : St} {L : List Addr} {i : Nat} {d : D}, Slots W F H env σ L -> L.Nodup -> env[i]? = some (some d) ->
    ∃ v Li Lr, σ[i]? = some (some v) /\ Own W F H d v Li /\ Slots W F H (env.set i none) σ Lr /\ (Li ++ Lr).Nodup /\ (∀ a, a ∈ Li \/ a ∈ Lr ↔ a ∈ L)
  | _, _, _, _, _, .nil, _, e => by simp at e
  | _, _, _, 0, _, .so (L := L1) (M := M1) h t, nd, e => by
    simp at e; subst e
    exact ⟨_, L1, M1, rfl, h, .no t, nd, fun a => List.mem_append.symm⟩
  | _, _, _, i + 1, _, .so (L := L1) (M := M1) h t, nd, e => by
    rw [List.nodup_append] at nd
    obtain ⟨n1, n2, n3⟩ := nd
    obtain ⟨v, Li, Lr, e1, o, s, nd', m⟩ := t.take (i := i) n2 (by simpa using e)
    refine ⟨v, Li, L1 ++ Lr, by simpa using e1, o, .so h s, ?_, fun a => ?_⟩
    · rw [List.nodup_append] at nd' ⊢
      obtain ⟨p1, p2, p3⟩ := nd'
      refine ⟨p1, ?_, ?_⟩
      · rw [List.nodup_append]
        exact ⟨n1, p2, fun a ha b hb => n3 a ha b ((m b).mp (.inr hb))⟩
      · intro a ha b hb
        rcases List.mem_append.mp hb with hb | hb
        · exact fun q => n3 b hb a ((m a).mp (.inl ha)) q.symm
        · exact p3 a ha b hb
    · simp only [List.mem_append, <- m a]
      constructor
      · rintro (h | h | h)
        · exact .inr (.inl h)
        · exact .inl h
        · exact .inr (.inr h)
      · rintro (h | h | h)
        · exact .inr (.inl h)
        · exact .inl h
        · exact .inr (.inr h)
  | _, _, _, 0, _, .no t, nd, e => by simp at e
  | _, _, _, i + 1, _, .no (o := o1) (M := M1) t, nd, e => by
    obtain ⟨v, Li, Lr, e1, o, s, nd', m⟩ := t.take (i := i) nd (by simpa using e)
    exact ⟨v, Li, Lr, by simpa using e1, o, .no s, nd', m⟩
theorem Slots.put : ∀ {env : Py.Env} {σ : St} {L : List Addr} {i : Nat} {d : D} {v : V} {Ld : List Addr}, Slots W F H env σ L -> Own W F H d v Ld -> (Ld ++ L).Nodup -> i < env.length ->
    ∃ L', Slots W F H (env.set i (some d)) (σ.set i (some v)) L' /\ L'.Nodup /\ (∀ a ∈ L', a ∈ Ld \/ a ∈ L)
  | _, _, _, _, _, _, _, .nil, _, _, hi => by simp at hi
  | _, _, _, 0, d, v, Ld, .so (L := L1) (M := M1) h t, o, nd, _ => by
    refine ⟨Ld ++ M1, .so o t, ?_, fun a m => ?_⟩
    · rw [List.nodup_append] at nd ⊢
      obtain ⟨n1, n2, n3⟩ := nd
      rw [List.nodup_append] at n2
      exact ⟨n1, n2.2.1, fun a ha b hb => n3 a ha b (List.mem_append_right _ hb)⟩
    · rcases List.mem_append.mp m with m | m
      · exact .inl m
      · exact .inr (List.mem_append_right _ m)
  | _, _, _, 0, d, v, Ld, .no (M := M1) t, o, nd, _ => by
    exact ⟨Ld ++ M1, .so o t, nd, fun a m => List.mem_append.mp m⟩
  | _, _, _, i + 1, d, v, Ld, .so (L := L1) (M := M1) h t, o, nd, hi => by
    rw [List.nodup_append] at nd
    obtain ⟨n1, n2, n3⟩ := nd
    rw [List.nodup_append] at n2
    obtain ⟨p1, p2, p3⟩ := n2
    obtain ⟨L', s, nd', m⟩ := t.put (i := i) o (by
      rw [List.nodup_append]
      exact ⟨n1, p2, fun a ha b hb => n3 a ha b (List.mem_append_right _ hb)⟩) (by simpa using hi)
    refine ⟨L1 ++ L', .so h s, ?_, fun a ha => ?_⟩
    · rw [List.nodup_append]
      refine ⟨p1, nd', fun a ha b hb => ?_⟩
      rcases m b hb with q | q
      · exact fun z => n3 b q a (List.mem_append_left _ ha) z.symm
      · exact p3 a ha b q
    · rcases List.mem_append.mp ha with q | q
      · exact .inr (List.mem_append_left _ q)
      · rcases m a q with q | q
        · exact .inl q
        · exact .inr (List.mem_append_right _ q)
  | _, _, _, i + 1, d, v, Ld, .no (M := M1) t, o, nd, hi => by
    obtain ⟨L', s, nd', m⟩ := t.put (i := i) o nd (by simpa using hi)
    exact ⟨L', .no s, nd', m⟩
structure Ent where
  F0 : Hp
  H0 : Hp
  L0 : List Addr
  pins : List (Nat × V)
structure Rel {T : Tbl} (W : Wd T) (e : Ent) (env : Py.Env) (F : Hp) (σ : St) (H : Hp) (L : List Addr) : Prop where
  sF : Same F H
  slots : Slots W F H env σ L
  nd : L.Nodup
  dj : ∀ a ∈ L, F a = none
  s0 : Same e.F0 F
  nw : ∀ a o, F a = some o -> e.F0 a = some o \/ e.H0 a = none \/ a ∈ e.L0
  fr : ∀ a o, a ∉ e.L0 -> e.H0 a = some o -> H a = some o
  ln : ∀ a ∈ L, a ∈ e.L0 \/ e.H0 a = none
  pin : ∀ p ∈ e.pins, σ[p.1]? = some (some p.2)
structure Ext (F H F' H' : Hp) : Prop where
  f : Same F F'
  s : Same F' H'
  h : Same H H'
  n : ∀ a o, F' a = some o -> F a = some o \/ H a = none
theorem Ext.refl (s : Same F H) : Ext F H F H := ⟨Same.refl _, s, Same.refl _, fun _ _ h => .inl h⟩
theorem Ext.trans {F1 H1 F2 H2 : Hp} (a : Ext F H F1 H1) (b : Ext F1 H1 F2 H2) : Ext F H F2 H2 :=
  ⟨a.f.trans b.f, b.s, a.h.trans b.h, fun x o h => by
    rcases b.n x o h with q | q
    · exact a.n x o q
    · exact .inr (a.h.free q)⟩
theorem same_new {H : Hp} {p : Addr} {o : HO} (h : H p = none) : Same H (upd H p o) := fun b u e => by
  rw [upd_ne (ne_of_none e h)]; exact e
theorem Ext.new (s : Same F H) {p : Addr} {o : HO} (h : H p = none) : Ext F H (upd F p o) (upd H p o) where
  f := same_new (s.free h)
  s := fun b u e => by
    by_cases q : b = p
    · subst q; rw [upd_same] at e ⊢; exact e
    · rw [upd_ne q] at e ⊢; exact s _ _ e
  h := same_new h
  n := fun b u e => by
    by_cases q : b = p
    · subst q; exact .inr h
    · rw [upd_ne q] at e; exact .inl e
theorem Ext.newH (s : Same F H) {p : Addr} {o : HO} (h : H p = none) : Ext F H F (upd H p o) where
  f := Same.refl _
  s := s.trans (same_new h)
  h := same_new h
  n := fun _ _ e => .inl e
theorem Rel.ext {e : Ent} {env : Py.Env} {σ : St} {L : List Addr} (R : Rel W e env F σ H L) (x : Ext F H F' H') : Rel W e env F' σ H' L where
  sF := x.s
  slots := R.slots.frame x.f fun a _ o q => x.h _ _ q
  nd := R.nd
  dj := fun a m => by
    obtain ⟨o, ho⟩ := R.slots.lives a m
    cases q : F' a with
    | none => rfl
    | some u =>
      rcases x.n a u q with z | z
      · rw [R.dj a m] at z; cases z
      · rw [ho] at z; cases z
  s0 := R.s0.trans x.f
  nw := fun a o q => by
    rcases x.n a o q with z | z
    · exact R.nw a o z
    · by_cases m : a ∈ e.L0
      · exact .inr (.inr m)
      · refine .inr (.inl ?_)
        cases y : e.H0 a with
        | none => rfl
        | some u => rw [R.fr a u m y] at z; cases z
  fr := fun a o m q => x.h _ _ (R.fr a o m q)
  ln := R.ln
  pin := R.pin
abbrev Res := Hp -> Hp -> Hp -> V -> Prop
def rF {T : Tbl} (W : Wd T) (d : D) : Res := fun F _ _ v => Shr W F d v
def rV {T : Tbl} (W : Wd T) (d : D) : Res := fun _ H _ v => Shr W H d v
def rO {T : Tbl} (W : Wd T) (d : D) : Res := fun F H H0 v => ∃ L, Own W F H d v L /\ L.Nodup /\ ∀ a ∈ L, H0 a = none /\ F a = none
def rL {T : Tbl} (W : Wd T) (ds : List D) : Res := fun F H _ v => ∃ a vs, v = .ref a /\ SqL W.K H a vs /\ Shrs W F ds vs
def AE {T : Tbl} (W : Wd T) (t : TE) (env : Py.Env) (R : Res) : Prop :=
  ∀ (e : Ent) (F : Hp) (σ : St) (H : Hp) (L : List Addr) (Q : VK), Rel W e env F σ H L -> (∀ v F' H', Ext F H F' H' -> R F' H' H v -> Q v H') -> t σ H Q
def AT {T : Tbl} (W : Wd T) (t : TT) (env : Py.Env) (b : Bool) : Prop :=
  ∀ (e : Ent) (F : Hp) (σ : St) (H : Hp) (L : List Addr) (Q : Bool -> Hp -> Prop), Rel W e env F σ H L -> (∀ F' H', Ext F H F' H' -> Q b H') -> t σ H Q
abbrev ResL := Hp -> Hp -> Hp -> List V -> Prop
def rFs {T : Tbl} (W : Wd T) (ds : List D) : ResL := fun F _ _ vs => Shrs W F ds vs
def rVs {T : Tbl} (W : Wd T) (ds : List D) : ResL := fun _ H _ vs => Shrs W H ds vs
def AA {T : Tbl} (W : Wd T) (t : TA) (env : Py.Env) (R : ResL) : Prop :=
  ∀ (e : Ent) (F : Hp) (σ : St) (H : Hp) (L : List Addr) (Q : List V -> Hp -> Prop), Rel W e env F σ H L -> (∀ v F' H', Ext F H F' H' -> R F' H' H v -> Q v H') -> t σ H Q
variable {env : Py.Env} {t ta tb : TE}
theorem AE.imp {R R' : Res} (h : AE W t env R) (k : ∀ F H H0 v, Same F H -> R F H H0 v -> R' F H H0 v) : AE W t env R' := fun e F σ H L Q r q =>
  h e F σ H L Q r fun v F' H' x y => q v F' H' x (k _ _ _ _ x.s y)
theorem AE.view {d : D} (h : AE W t env (rF W d)) : AE W t env (rV W d) := h.imp fun _ _ _ _ s y => Shr.mono s y
theorem AE.own {d : D} (h : AE W t env (rF W d)) : AE W t env (rO W d) := h.imp fun _ _ _ _ s y => ⟨[], .sh y, .nil, fun _ m => nomatch m⟩
theorem AE.list {ds : List D} (h : AE W t env (rF W (.lst ds))) : AE W t env (rL W ds) := h.imp fun _ _ _ _ s y => by
  cases y with
  | lst a b => exact ⟨_, _, rfl, .of (s _ _ a), b⟩
theorem freeze {F H : Hp} {d : D} {v : V} {L : List Addr} (s : Same F H) (o : Own W F H d v L) (k : ∀ a ∈ L, F a = none) :
    ∃ F', Same F F' /\ Same F' H /\ (∀ a o, F' a = some o -> F a = some o \/ a ∈ L) /\ Shr W F' (fz d) v := by
  refine ⟨fun a => if a ∈ L then H a else F a, fun a u q => ?_, fun a u q => ?_, fun a u q => ?_, o.view (fun a u q => ?_) fun a m u q => ?_⟩
  · show (if a ∈ L then H a else F a) = some u
    split
    · rename_i m; rw [k a m] at q; cases q
    · exact q
  · have q : (if a ∈ L then H a else F a) = some u := q
    split at q
    · exact q
    · exact s _ _ q
  · have q : (if a ∈ L then H a else F a) = some u := q
    split at q
    · exact .inr (by assumption)
    · exact .inl q
  · show (if a ∈ L then H a else F a) = some u
    split
    · rename_i m; rw [k a m] at q; cases q
    · exact q
  · show (if a ∈ L then H a else F a) = some u
    rw [if_pos m]; exact q
theorem AE.frz {d : D} (h : AE W t env (rO W d)) : AE W t env (rF W (fz d)) := fun e F σ H L Q r q =>
  h e F σ H L Q r fun v F' H' x ⟨M, o, nd, k⟩ => by
    obtain ⟨G, s1, s2, nw, y⟩ := freeze x.s o fun a m => (k a m).2
    refine q v G H' ⟨x.f.trans s1, s2, x.h, fun a o z => ?_⟩ y
    rcases nw a o z with z | z
    · exact x.n a o z
    · exact .inr (k a z).1
structure Exn where
  c : String
  fs : List (String × D)
structure AEnds where
  nx : Py.Env -> Prop
  rt : D -> Py.Env -> Prop
  bk : Py.Env -> Prop := fun _ => False
  ct : Py.Env -> Prop := fun _ => False
  ex : Exn -> Py.Env -> Prop := fun _ _ => False
def IsExn {T : Tbl} (W : Wd T) (F : Hp) (ex : Exn) (C : Value) (d : Option Addr) : Prop :=
  C = .ref (W.cA ex.c) /\ W.hasX ex.c /\ (ex.fs = [] \/ ∃ a vs, d = some a /\ F a = some (.xd (((ex.fs.map (·.1)).map so).zip vs)) /\ Shrs W F (ex.fs.map (·.2)) vs)
structure Sat {T : Tbl} (W : Wd T) (e : Ent) (E : WX) (A : AEnds) (Dn : Ends) : Prop where
  nx : ∀ env F σ H L, A.nx env -> Rel W e env F σ H L -> Dn.nx σ H
  rt : ∀ d env F σ H L v M, A.rt d env -> Rel W e env F σ H L -> Own W F H d v M -> (M ++ L).Nodup -> (∀ a ∈ M, F a = none /\ (a ∈ e.L0 \/ e.H0 a = none)) -> Dn.rt v H
  bk : ∀ env F σ H L, A.bk env -> Rel W e env F σ H L -> Dn.bk σ H
  ct : ∀ env F σ H L, A.ct env -> Rel W e env F σ H L -> Dn.ct σ H
  ex : ∀ x env F σ H L C d, A.ex x env -> Rel W e env F σ H L -> IsExn W F x C d -> E C d σ H
def AS {T : Tbl} (W : Wd T) (P : List Nat) (E : WX) (t : TS) (env : Py.Env) (A : AEnds) : Prop :=
  ∀ (e : Ent) (F : Hp) (σ : St) (H : Hp) (L : List Addr) (Dn : Ends), P = e.pins.map (·.1) -> Rel W e env F σ H L -> Sat W e E A Dn -> t Dn σ H
variable {P : List Nat} {E : WX} {A : AEnds}
theorem as_seq {t u : TS} (h : AS W P E t env { A with nx := fun env' => AS W P E u env' A }) : AS W P E (tSeq t u) env A := fun e F σ H L Dn hp r s =>
  h e F σ H L _ hp r ⟨fun env' F' σ' H' L' a r' => a e F' σ' H' L' Dn hp r' s, s.rt, s.bk, s.ct, s.ex⟩
theorem as_next (h : A.nx env) : AS W P E tNext env A := fun e F σ H L Dn hp r s => s.nx _ _ _ _ _ h r
theorem Rel.set {e : Ent} {σ : St} {L M : List Addr} {d : D} {v : V} {i : Nat} (r : Rel W e env F σ H L) (o : Own W F H d v M) (nd : (M ++ L).Nodup) (k : ∀ a ∈ M, F a = none /\ (a ∈ e.L0 \/ e.H0 a = none)) (hi : i < env.length)
    (hp : ∀ p ∈ e.pins, p.1 ≠ i) : ∃ L', Rel W e (env.set i (some d)) F (σ.set i (some v)) H L' := by
  obtain ⟨L', s, nd', m⟩ := r.slots.put o nd hi
  refine ⟨L', r.sF, s, nd', fun a ha => ?_, r.s0, r.nw, r.fr, fun a ha => ?_, fun p hm => ?_⟩
  · rcases m a ha with q | q
    · exact (k a q).1
    · exact r.dj a q
  · rcases m a ha with q | q
    · exact (k a q).2
    · exact r.ln a q
  · rw [List.getElem?_set_ne (fun z => hp p hm z.symm)]
    exact r.pin p hm
theorem Rel.h0 {e : Ent} {σ : St} {L : List Addr} (r : Rel W e env F σ H L) {a : Addr} (h : H a = none) : a ∈ e.L0 \/ e.H0 a = none := by
  by_cases m : a ∈ e.L0
  · exact .inl m
  · refine .inr ?_
    cases y : e.H0 a with
    | none => rfl
    | some u => rw [r.fr a u m y] at h; cases h
theorem nodup_new {L M : List Addr} {H : Hp} (h1 : L.Nodup) (h2 : M.Nodup) (hl : ∀ a ∈ L, ∃ o, H a = some o) (hm : ∀ a ∈ M, H a = none) : (M ++ L).Nodup := by
  rw [List.nodup_append]
  refine ⟨h2, h1, fun a ha b hb q => ?_⟩
  subst q
  obtain ⟨o, z⟩ := hl a hb
  rw [hm a ha] at z
  cases z
theorem as_if {tc : TT} {t u : TS} {b : Bool} (h : AT W tc env b) (h1 : b = true -> AS W P E t env A) (h2 : b = false -> AS W P E u env A) : AS W P E (tIfS tc t u) env A := fun e F σ H L Dn hP r s =>
  h e F σ H L _ r fun F' H' x => by
    have r' := r.ext x
    cases b with
    | true => exact h1 rfl e F' σ H' L Dn hP r' s
    | false => exact h2 rfl e F' σ H' L Dn hP r' s
end
end Py
namespace Py
open PySem L2
section
variable {T : Tbl} {W : Wd T} {env : Py.Env} {t ta tb tc : TE} {d d1 d2 d3 : D} {i j : Int} {n m : Nat}
theorem slot_get {e : Ent} {F H : Hp} {σ : St} {L : List Addr} (r : Rel W e env F σ H L) (h : env[n]? = some (some d)) : ∃ v M, σ[n]? = some (some v) /\ Own W F H d v M /\ ∀ a ∈ M, a ∈ L := by
  obtain ⟨v, Li, Lr, e1, o, _, _, m⟩ := r.slots.take r.nd h
  exact ⟨v, Li, e1, o, fun a ha => (m a).mp (.inl ha)⟩
theorem ae_c {v : V} (h : ∀ F, Shr W F d v) : AE W (tC v) env (rF W d) := fun e F σ H L Q r q => q v F H (.refl r.sF) (h F)
theorem AE.shr (h : AE W t env (rO W d)) (s : isSh d = true) : AE W t env (rF W d) := h.imp fun _ _ _ _ _ ⟨_, o, _⟩ => o.shr s
theorem rO_sh {F H H0 : Hp} {v : V} (h : Shr W F d v) : rO W d F H H0 v := ⟨[], .sh h, .nil, fun _ m => nomatch m⟩
theorem rO_back {F H H0 H1 : Hp} {v : V} (e : Same H0 H1) (h : rO W d F H H1 v) : rO W d F H H0 v := by
  obtain ⟨L, o, nd, k⟩ := h
  exact ⟨L, o, nd, fun a m => ⟨e.free (k a m).1, (k a m).2⟩⟩
def Op2 {T : Tbl} (W : Wd T) (r : R2) (d1 d2 d : D) : Prop := ∀ (F H : Hp) (v1 v2 : V) (Q : VK), Same F H -> Shr W H d1 v1 -> Shr W H d2 v2 -> (∀ v F' H', Ext F H F' H' -> rO W d F' H' H v -> Q v H') -> r v1 v2 H Q
def Op2L {T : Tbl} (W : Wd T) (r : R2) (ds es : List D) (d : D) : Prop := ∀ (F H : Hp) (a b : Addr) (vs ws : List V) (Q : VK), Same F H -> H a = some (.lst vs) -> Shrs W F ds vs -> H b = some (.lst ws) -> Shrs W F es ws -> (∀ v F' H', Ext F H F' H' -> rO W d F' H' H v -> Q v H') -> r (.ref a) (.ref b) H Q
theorem ae_op2 {r : R2} (ha : AE W ta env (rV W d1)) (hb : AE W tb env (rV W d2)) (h : Op2 W r d1 d2 d) : AE W (tOp r ta tb) env (rO W d) := fun e F σ H L Q rl q =>
  ha e F σ H L _ rl fun v F1 H1 x1 y1 => hb e F1 σ H1 L _ (rl.ext x1) fun u F2 H2 x2 y2 => h F2 H2 v u Q x2.s (y1.mono x2.h) y2 fun w F3 H3 x3 y3 => q w F3 H3 ((x1.trans x2).trans x3) (rO_back (x1.h.trans x2.h) y3)
theorem o2_l {r r' : R2} (h : Op2 W r d1 d2 d) : Op2 W (fun x y H Q => r x y H Q \/ r' x y H Q) d1 d2 d := fun F H v1 v2 Q s a b q => .inl (h F H v1 v2 Q s a b q)
theorem o2_r {r r' : R2} (h : Op2 W r' d1 d2 d) : Op2 W (fun x y H Q => r x y H Q \/ r' x y H Q) d1 d2 d := fun F H v1 v2 Q s a b q => .inr (h F H v1 v2 Q s a b q)
theorem o2_i {g : Int -> Int -> V} (hg : ∀ F, Shr W F d (g i j)) : Op2 W (rI0 g) (.int i) (.int j) d := fun F H v1 v2 Q s a b q => by
  cases a; cases b
  exact ⟨i, j, rfl, rfl, q _ F H (.refl s) (rO_sh (hg _))⟩
theorem o2_ic {C : Int -> Int -> Prop} {g : Int -> Int -> V} (hc : C i j) (hg : ∀ F, Shr W F d (g i j)) : Op2 W (rI C g) (.int i) (.int j) d := fun F H v1 v2 Q s a b q => by
  cases a; cases b
  exact ⟨i, j, rfl, rfl, hc, q _ F H (.refl s) (rO_sh (hg _))⟩
theorem ae_u {g : Int -> V} (ha : AE W ta env (rV W (.int i))) (hg : ∀ F, Shr W F d (g i)) : AE W (tUn (rU g) ta) env (rF W d) := fun e F σ H L Q r q =>
  ha e F σ H L _ r fun v F1 H1 x1 y1 => by
    cases y1
    exact ⟨i, rfl, q _ F1 H1 x1 (hg _)⟩
def fl : D -> Option V
  | .non => some .non
  | .bl b => some (.bl b)
  | .int i => some (.int i)
  | .str x => some (.str (so x))
  | _ => none
theorem Shr.fl {F : Hp} {v u : V} (h : Shr W F d v) (e : Py.fl d = some u) : v = u := by
  cases h <;> (first | (cases e; rfl) | cases e)
mutual
def pd : D -> Option PyData
  | .non => some .none
  | .bl b => some (.bool b)
  | .int i => some (.int i)
  | .str x => some (.str (so x))
  | .tup xs => (pds xs).map PyData.tuple
  | .lst xs => (pds xs).map PyData.list
  | _ => none
def pds : List D -> Option (List PyData)
  | [] => some []
  | d :: ds => match pd d, pds ds with
    | some x, some xs => some (x :: xs)
    | _, _ => none
end
mutual
theorem Shr.dp {H : Hp} : ∀ {d : D} {v : V} {x : PyData}, Shr W H d v -> pd d = some x -> Dp W.K H v x
  | _, _, _, .non, e => by rw [pd] at e; cases e; exact .non
  | _, _, _, .bl, e => by rw [pd] at e; cases e; exact .bl _
  | _, _, _, .int, e => by rw [pd] at e; cases e; exact .int _
  | _, _, _, .str, e => by rw [pd] at e; cases e; exact .str _
  | _, _, _, .scr _, e => by rw [pd] at e <;> cases e
  | .tup xs, _, _, .tup h hs, e => by
    rw [pd] at e
    cases q : pds xs with
    | none => rw [q] at e; cases e
    | some ys => rw [q] at e; cases e; exact .tup (.of h) (Shrs.dp hs q)
  | .lst xs, _, _, .lst h hs, e => by
    rw [pd] at e
    cases q : pds xs with
    | none => rw [q] at e; cases e
    | some ys => rw [q] at e; cases e; exact .lst (.of h) (Shrs.dp hs q)
  | _, _, _, .cls _, e => by rw [pd] at e <;> cases e
  | _, _, _, .sei _ _, e => by rw [pd] at e <;> cases e
  | _, _, _, .dic _ _ _ _, e => by rw [pd] at e <;> cases e
  | _, _, _, .dit _ _ _ _, e => by rw [pd] at e <;> cases e
  | _, _, _, .dig _ _ _ _, e => by rw [pd] at e <;> cases e
  | _, _, _, .dlf _ _ _ _, e => by rw [pd] at e <;> cases e
  | _, _, _, .xt _ _ _, e => by rw [pd] at e <;> cases e
  | _, _, _, .len _ _, e => by rw [pd] at e <;> cases e
  | _, _, _, .ins _ _ _ _, e => by rw [pd] at e <;> cases e
theorem Shrs.dp {H : Hp} : ∀ {ds : List D} {vs : List V} {xs : List PyData}, Shrs W H ds vs -> pds ds = some xs -> DpAll W.K H vs xs
  | _, _, _, .nil, e => by rw [pds] at e; cases e; exact .nil
  | d :: ds, _, _, .cons h t, e => by
    rw [pds] at e
    cases q1 : pd d with
    | none => rw [q1] at e; cases e
    | some x =>
      cases q2 : pds ds with
      | none => rw [q1, q2] at e; cases e
      | some xs => rw [q1, q2] at e; cases e; exact .cons (Shr.dp h q1) (Shrs.dp t q2)
end
theorem o2_eqD {x y : PyData} (h1 : pd d1 = some x) (h2 : pd d2 = some y) (s1 : SeqAt.shaped x = true) (s2 : SeqAt.shaped y = true) : Op2 W (rEqD W.K) d1 d2 (.bl (PyData.eqv x y)) := fun F H v1 v2 Q s a b q =>
  ⟨x, y, a.dp h1, b.dp h2, s1, s2, q _ F H (.refl s) (rO_sh .bl)⟩
theorem o2_neD {x y : PyData} (h1 : pd d1 = some x) (h2 : pd d2 = some y) (s1 : SeqAt.shaped x = true) (s2 : SeqAt.shaped y = true) : Op2 W (rNeD W.K) d1 d2 (.bl (!PyData.eqv x y)) := fun F H v1 v2 Q s a b q =>
  ⟨x, y, a.dp h1, b.dp h2, s1, s2, q _ F H (.refl s) (rO_sh .bl)⟩
theorem o2L_cat {ds es : List D} (hl : ds.length + es.length <= 1000000) : Op2L W rCat ds es (.olst (ds ++ es)) := fun F H a b vs ws Q s ha sa hb sb q =>
  ⟨a, b, vs, ws, rfl, rfl, ha, hb, by rw [<- sa.length, <- sb.length]; exact Nat.le_trans hl (by decide), fun p hp => q _ F _ (.newH s hp) ⟨[p], .olst upd_same (sa.append sb).owns, by simp, fun x m => by
    rw [List.mem_singleton.mp m]; exact ⟨hp, s.free hp⟩⟩⟩
def Cb {T : Tbl} (W : Wd T) (r : List V -> Hp -> VK -> Prop) (ds : List D) (d : D) : Prop := ∀ (F H : Hp) (vs : List V) (Q : VK), Same F H -> Shrs W H ds vs -> (∀ v F' H', Ext F H F' H' -> rO W d F' H' H v -> Q v H') -> r vs H Q
theorem ae_cb {r : List V -> Hp -> VK -> Prop} {tr : TA} {ds : List D} (h : AA W tr env (rVs W ds)) (hc : Cb W r ds d) : AE W (tCB r tr) env (rO W d) := fun e F σ H L Q rl q =>
  h e F σ H L _ rl fun vs F1 H1 x1 y1 => hc F1 H1 vs Q x1.s y1 fun w F3 H3 x3 y3 => q w F3 H3 (x1.trans x3) (rO_back x1.h y3)
theorem cb_l {r r' : List V -> Hp -> VK -> Prop} {ds : List D} (h : Cb W r ds d) : Cb W (fun xs H Q => r xs H Q \/ r' xs H Q) ds d := fun F H vs Q s a q => .inl (h F H vs Q s a q)
def isNon : D -> Bool
  | .non => true
  | _ => false
theorem ae_andV {a b : Bool} (ha : AE W ta env (rV W (.bl a))) (hb : a = true -> AE W tb env (rV W (.bl b))) : AE W (tAndV ta tb) env (rF W (.bl (a && b))) := fun e F σ H L Q r q =>
  ha e F σ H L _ r fun v F1 H1 x1 y1 => by
    cases y1
    refine ⟨a, rfl, ?_⟩
    cases a with
    | true => exact hb rfl e F1 σ H1 L _ (r.ext x1) fun u F2 H2 x2 y2 => by cases y2; exact q _ F2 H2 (x1.trans x2) .bl
    | false => exact q _ F1 H1 x1 .bl
theorem ae_notV {a : Bool} (ha : AE W ta env (rV W (.bl a))) : AE W (tNotV ta) env (rF W (.bl (!a))) := fun e F σ H L Q r q =>
  ha e F σ H L _ r fun v F1 H1 x1 y1 => by
    cases y1
    exact ⟨a, rfl, q _ F1 H1 x1 .bl⟩
variable {tt tu : TT} {a b : Bool}
theorem at_test (h : AE W t env (rV W (.bl b))) : AT W (tTest t) env b := fun e F σ H L Q r q => h e F σ H L _ r fun v F1 H1 x1 y1 => by
  cases y1
  exact ⟨b, rfl, q F1 H1 x1⟩
theorem at_or (h1 : AT W tt env a) (h2 : a = false -> AT W tu env b) : AT W (tOr tt tu) env (a || b) := fun e F σ H L Q r q => h1 e F σ H L _ r fun F1 H1 x1 => by
  cases a with
  | false => exact h2 rfl e F1 σ H1 L _ (r.ext x1) fun F2 H2 x2 => q F2 H2 (x1.trans x2)
  | true => exact q F1 H1 x1
theorem at_not (h1 : AT W tt env a) : AT W (tNot tt) env (!a) := fun e F σ H L Q r q => h1 e F σ H L _ r fun F1 H1 x1 => q F1 H1 x1
variable {tr : TA} {ds : List D}
theorem aa_nil : AA W tNil env (rFs W []) := fun e F σ H L Q r q => q [] F H (.refl r.sF) .nil
theorem aa_nilV : AA W tNil env (rVs W []) := fun e F σ H L Q r q => q [] F H (.refl r.sF) .nil
theorem aa_cons (ha : AE W t env (rF W d)) (hr : AA W tr env (rFs W ds)) : AA W (tCons t tr) env (rFs W (d :: ds)) := fun e F σ H L Q r q =>
  ha e F σ H L _ r fun v F1 H1 x1 y1 => hr e F1 σ H1 L _ (r.ext x1) fun vs F2 H2 x2 y2 => q _ F2 H2 (x1.trans x2) (.cons (y1.mono x2.f) y2)
theorem aa_consV (ha : AE W t env (rV W d)) (hr : AA W tr env (rVs W ds)) : AA W (tCons t tr) env (rVs W (d :: ds)) := fun e F σ H L Q r q =>
  ha e F σ H L _ r fun v F1 H1 x1 y1 => hr e F1 σ H1 L _ (r.ext x1) fun vs F2 H2 x2 y2 => q _ F2 H2 (x1.trans x2) (.cons (y1.mono x2.h) y2)
theorem AA.view (h : AA W tr env (rFs W ds)) : AA W tr env (rVs W ds) := fun e F σ H L Q r q => h e F σ H L _ r fun v F1 H1 x1 y1 => q v F1 H1 x1 (Shrs.mono x1.s y1)
theorem sz_le {n : Nat} (h : n <= 1000000) : n <= sizeLine := Nat.le_trans h (by decide)
theorem ae_tup (h : AA W tr env (rFs W ds)) (hl : ds.length <= 1000000) : AE W (tTup tr) env (rF W (.tup ds)) := fun e F σ H L Q r q =>
  h e F σ H L _ r fun vs F1 H1 x1 y1 => ⟨by rw [<- y1.length]; exact sz_le hl, fun p hp =>
    q _ (upd F1 p (.tup vs)) _ (x1.trans (.new x1.s hp)) (.tup upd_same (y1.mono (same_new (x1.s.free hp))))⟩
theorem ae_lst (h : AA W tr env (rFs W ds)) (hl : ds.length <= 1000000) : AE W (tLst tr) env (rO W (.olst ds)) := fun e F σ H L Q r q =>
  h e F σ H L _ r fun vs F1 H1 x1 y1 => ⟨by rw [<- y1.length]; exact sz_le hl, fun p hp =>
    q _ F1 _ (x1.trans (.newH x1.s hp)) ⟨[p], .olst upd_same y1.owns, by simp, fun a m => by
      rw [List.mem_singleton.mp m]; exact ⟨x1.h.free hp, x1.s.free hp⟩⟩⟩
abbrev rLenU (K : PySem.W.Frag) : List V -> Hp -> VK -> Prop := fun xs H Q => ∃ p ys, xs = [.ref p] /\ (SqL K H p ys \/ SqT K H p ys) /\ Q (.int ys.length) H
theorem cb_lenL {ds : List D} : Cb W (rLenU W.K) [.lst ds] (.int ds.length) := fun F H vs Q s a q => by
  cases a with
  | cons a b =>
    cases b
    cases a with
    | lst a b => exact ⟨_, _, rfl, .inl (.of a), q _ F H (.refl s) (rO_sh (by rw [b.length]; exact .int))⟩
theorem cb_lenT {ds : List D} : Cb W (rLenU W.K) [.tup ds] (.int ds.length) := fun F H vs Q s a q => by
  cases a with
  | cons a b =>
    cases b
    cases a with
    | tup a b => exact ⟨_, _, rfl, .inr (.of a), q _ F H (.refl s) (rO_sh (by rw [b.length]; exact .int))⟩
theorem cb_lenS {ns : List Int} : Cb W (rLenU W.K) [.scr ns] (.int ns.length) := fun F H vs Q s a q => by
  cases a with
  | cons a b =>
    cases b
    cases a with
    | scr a => exact ⟨_, _, rfl, .inl a, q _ F H (.refl s) (rO_sh (by rw [List.length_map]; exact .int))⟩
def rIxU (K : PySem.W.Frag) : R2 := fun x y H Q => rIxL K x y H Q \/ rIxT K x y H Q
theorem AT.is {tt : TT} {b c : Bool} (h : AT W tt env b) (e : b = c) : AT W tt env c := e ▸ h
theorem cb_int : Cb W (fun xs H Q => (∃ i, xs = [.int i] /\ Q (.int i) H) \/ ∃ k, xs = [.bl k] /\ Q (.int (if k then 1 else 0)) H) [.int i] (.int i) := fun F H vs Q s a q => by
  cases a with
  | cons a b =>
    cases b; cases a
    exact .inl ⟨i, rfl, q _ F H (.refl s) (rO_sh .int)⟩
theorem cb_abs : Cb W (fun xs H Q => ∃ i, xs = [.int i] /\ Q (.int (if i < 0 then -i else i)) H) [.int i] (.int (if i < 0 then -i else i)) := fun F H vs Q s a q => by
  cases a with
  | cons a b =>
    cases b; cases a
    exact ⟨i, rfl, q _ F H (.refl s) (rO_sh .int)⟩
variable {P : List Nat} {E : WX} {A : AEnds}
def AG {T : Tbl} (W : Wd T) (P : List Nat) (g : TG) (d : D) (env : Py.Env) (k : Py.Env -> Prop) : Prop :=
  ∀ (e : Ent) (F : Hp) (σ : St) (H : Hp) (L : List Addr) (v : V) (Q : St -> Hp -> Prop), P = e.pins.map (·.1) -> Rel W e env F σ H L -> Shr W F d v -> (∀ env' σ' L', k env' -> Rel W e env' F σ' H L' -> Q σ' H) -> g v σ H Q
def AGs {T : Tbl} (W : Wd T) (P : List Nat) (g : TGs) (ds : List D) (env : Py.Env) (k : Py.Env -> Prop) : Prop :=
  ∀ (e : Ent) (F : Hp) (σ : St) (H : Hp) (L : List Addr) (vs : List V) (Q : St -> Hp -> Prop), P = e.pins.map (·.1) -> Rel W e env F σ H L -> Shrs W F ds vs -> (∀ env' σ' L', k env' -> Rel W e env' F σ' H L' -> Q σ' H) -> g vs σ H Q
theorem ag_name {k : Nat} {o' : Option D} {q : Py.Env -> Prop} (hi' : env[k]? = some o') (hp : k ∉ P) (h : q (env.set k (some d))) : AG W P (gName k) d env q := fun e F σ H L v Q hP r s c => by
  have hi := (List.getElem?_eq_some_iff.mp hi').1
  obtain ⟨L', r2⟩ := r.set (i := k) (M := []) (.sh s) (by simpa using r.nd) (fun a m => nomatch m) hi fun p hm z => hp (by rw [hP]; exact List.mem_map.mpr ⟨p, hm, z⟩)
  exact c _ _ _ h r2
theorem Rel.enter {e : Ent} {F H : Hp} {σ : St} {L : List Addr} (r : Rel W e env F σ H L) : Rel W { e with F0 := F } env F σ H L :=
  ⟨r.sF, r.slots, r.nd, r.dj, Same.refl _, fun _ _ h => .inl h, r.fr, r.ln, r.pin⟩
theorem Rel.leave {e : Ent} {F1 F H H1 : Hp} {σ σ1 : St} {L L1 : List Addr} {env1 : Py.Env} (r1 : Rel W e env1 F1 σ1 H1 L1) (r : Rel W { e with F0 := F1 } env F σ H L) : Rel W e env F σ H L :=
  ⟨r.sF, r.slots, r.nd, r.dj, r1.s0.trans r.s0, fun a o h => (r.nw a o h).elim (fun q => r1.nw a o q) .inr, r.fr, r.ln, r.pin⟩
end
end Py
namespace Py
open PySem L2
inductive Pst where
  | fld (f : String) | idx (k : Nat) | key (k : Key) | keyT (k : List Key)
def pos {α : Type} [DecidableEq α] (f : α) : List α -> Option Nat
  | [] => none
  | x :: xs => if x = f then some 0 else (pos f xs).map (· + 1)
theorem pos_get {α : Type} [DecidableEq α] {f : α} : ∀ {ns : List α} {j : Nat}, pos f ns = some j -> ns[j]? = some f
  | [], _, h => by cases h
  | x :: xs, j, h => by
    unfold pos at h
    split at h
    · rename_i e; cases h; rw [e]; rfl
    · cases q : pos f xs with
      | none => rw [q] at h; cases h
      | some k => rw [q] at h; cases h; exact pos_get (ns := xs) q
theorem zip_lookup {f : String} : ∀ {ns : List String} {vs : List V} {j : Nat}, pos f ns = some j -> ((ns.map so).zip vs).lookup (so f) = vs[j]?
  | [], _, _, h => by cases h
  | x :: xs, [], j, h => by simp
  | x :: xs, v :: vs, j, h => by
    unfold pos at h
    rw [List.map_cons, List.zip_cons_cons, List.lookup_cons]
    split at h
    · rename_i e; cases h; subst e; simp
    · rename_i e
      cases q : pos f xs with
      | none => rw [q] at h; cases h
      | some k =>
        rw [q] at h; cases h
        rw [beq_eq_false_iff_ne.mpr (fun z => e (so_inj z.symm))]
        exact zip_lookup (ns := xs) q
def D.place : D -> Pst -> Option Nat
  | .oins _ ns _, .fld f => pos f ns
  | .olst _, .idx k => some k
  | .odic ks _, .key k => pos k ks
  | .odit ks _, .keyT k => pos k ks
  | _, _ => none
def D.parts : D -> List D
  | .oins _ _ xs => xs
  | .olst xs => xs
  | .odic _ xs => xs
  | .odit _ xs => xs
  | _ => []
def D.withParts : D -> List D -> D
  | .oins C ns _, xs => .oins C ns xs
  | .olst _, xs => .olst xs
  | .odic ks _, xs => .odic ks xs
  | .odit ks _, xs => .odit ks xs
  | d, _ => d
def D.sub (d : D) (s : Pst) : Option D := (d.place s).bind fun j => d.parts[j]?
def D.put (d : D) (s : Pst) (n : D) : D := match d.place s with
  | some j => d.withParts (d.parts.set j n)
  | none => d
def D.at (d : D) : List Pst -> Option D
  | [] => some d
  | s :: st => (d.sub s).bind fun x => x.at st
def D.putAt (d : D) : List Pst -> D -> D
  | [], n => n
  | s :: st, n => match d.sub s with
    | some x => d.put s (x.putAt st n)
    | none => d
def VStep (H : Hp) (v : V) (s : Pst) (w : V) : Prop := match s with
  | .fld f => ∃ a C dx fs, v = .ref a /\ H a = some (.ins C dx fs) /\ fs.lookup (so f) = some w
  | .idx k => ∃ a vs, v = .ref a /\ H a = some (.lst vs) /\ vs[k]? = some w
  | .key k => ∃ a kvs, v = .ref a /\ H a = some (.dK kvs) /\ ∃ j : Nat, pos k (kvs.map (·.1)) = some j /\ (kvs.map (·.2))[j]? = some w
  | .keyT k => ∃ a kvs, v = .ref a /\ H a = some (.dT kvs) /\ ∃ j : Nat, pos k (kvs.map (·.1)) = some j /\ (kvs.map (·.2))[j]? = some w
def VPath (H : Hp) (v : V) : List Pst -> V -> Prop
  | [], w => v = w
  | s :: st, w => ∃ u, VStep H v s u /\ VPath H u st w
theorem VStep.mono {H H' : Hp} {v w : V} {s : Pst} (e : Same H H') (h : VStep H v s w) : VStep H' v s w := by
  cases s with
  | fld f => obtain ⟨a, C, dx, fs, h1, h2, h3⟩ := h; exact ⟨a, C, dx, fs, h1, e _ _ h2, h3⟩
  | idx k => obtain ⟨a, vs, h1, h2, h3⟩ := h; exact ⟨a, vs, h1, e _ _ h2, h3⟩
  | key k => obtain ⟨a, vs, h1, h2, h3⟩ := h; exact ⟨a, vs, h1, e _ _ h2, h3⟩
  | keyT k => obtain ⟨a, vs, h1, h2, h3⟩ := h; exact ⟨a, vs, h1, e _ _ h2, h3⟩
theorem VPath.mono {H H' : Hp} (e : Same H H') : ∀ {st : List Pst} {v w : V}, VPath H v st w -> VPath H' v st w
  | [], _, _, h => h
  | _ :: _, _, _, ⟨u, h1, h2⟩ => ⟨u, h1.mono e, VPath.mono e h2⟩
theorem VStep.det {H : Hp} {v w u : V} {s : Pst} (h : VStep H v s w) (q : VStep H v s u) : w = u := by
  cases s with
  | fld f =>
    obtain ⟨a, C, dx, fs, h1, h2, h3⟩ := h
    obtain ⟨b, C', dx', fs', q1, q2, q3⟩ := q
    rw [h1] at q1; cases q1
    rw [h2] at q2; cases q2
    rw [h3] at q3; exact Option.some.inj q3
  | idx k =>
    obtain ⟨a, vs, h1, h2, h3⟩ := h
    obtain ⟨b, ws, q1, q2, q3⟩ := q
    rw [h1] at q1; cases q1
    rw [h2] at q2; cases q2
    rw [h3] at q3; exact Option.some.inj q3
  | key k =>
    obtain ⟨a, vs, h1, h2, j, h3, h4⟩ := h
    obtain ⟨b, ws, q1, q2, j', q3, q4⟩ := q
    rw [h1] at q1; cases q1
    rw [h2] at q2; cases q2
    rw [h3] at q3; cases q3
    rw [h4] at q4; exact Option.some.inj q4
  | keyT k =>
    obtain ⟨a, vs, h1, h2, j, h3, h4⟩ := h
    obtain ⟨b, ws, q1, q2, j', q3, q4⟩ := q
    rw [h1] at q1; cases q1
    rw [h2] at q2; cases q2
    rw [h3] at q3; cases q3
    rw [h4] at q4; exact Option.some.inj q4
theorem VPath.det {H : Hp} : ∀ {st : List Pst} {v w u : V}, VPath H v st w -> VPath H v st u -> w = u
  | [], _, _, _, h, q => by cases h; cases q; rfl
  | _ :: _, _, _, _, ⟨x, h1, h2⟩, ⟨y, q1, q2⟩ => by
    cases h1.det q1
    exact VPath.det h2 q2
theorem VPath.snoc {H : Hp} : ∀ {st : List Pst} {v w u : V} {s : Pst}, VPath H v st w -> VStep H w s u -> VPath H v (st ++ [s]) u
  | [], _, _, _, _, h, q => by cases h; exact ⟨_, q, rfl⟩
  | _ :: _, _, _, _, _, ⟨x, h1, h2⟩, q => ⟨x, h1, VPath.snoc h2 q⟩
section
variable {T : Tbl} {W : Wd T} {F H : Hp}
theorem Owns.focus : ∀ {xs : List D} {vs : List V} {L : List Addr} {j : Nat} {n : D}, Owns W F H xs vs L -> L.Nodup -> xs[j]? = some n ->
    ∃ vn Ln Lr, vs[j]? = some vn /\ Own W F H n vn Ln /\ (Ln ++ Lr).Nodup /\ (∀ a, a ∈ Ln \/ a ∈ Lr ↔ a ∈ L) /\
      ∀ F' H' n' Ln', Same F F' -> (∀ a ∈ Lr, ∀ o, H a = some o -> H' a = some o) -> Own W F' H' n' vn Ln' -> (Ln' ++ Lr).Nodup -> ∃ L', Owns W F' H' (xs.set j n') vs L' /\ L'.Nodup /\ ∀ a, a ∈ L' ↔ a ∈ Ln' \/ a ∈ Lr
  | _, _, _, _, _, .nil, _, e => by simp at e
  | _, _, _, 0, n, .cons (L := L1) (M := M1) (v := v1) o t, nd, e => by
    simp at e; subst e
    refine ⟨v1, L1, M1, rfl, o, nd, fun a => List.mem_append.symm, fun F' H' n' Ln' s k o' nd' => ⟨Ln' ++ M1, ?_, nd', fun a => List.mem_append⟩⟩
    exact .cons o' (t.frame s k)
  | _, _, _, j + 1, n, .cons (L := L1) (M := M1) (v := v1) (d := d1) (ds := ds1) o t, nd, e => by
    rw [List.nodup_append] at nd
    obtain ⟨n1, n2, n3⟩ := nd
    obtain ⟨vn, Ln, Lr, h1, h2, h3, h4, h5⟩ := t.focus (j := j) n2 (by simpa using e)
    have hd : ∀ a ∈ L1, a ∉ Ln /\ a ∉ Lr := fun a ha => ⟨fun z => n3 a ha a ((h4 a).mp (.inl z)) rfl, fun z => n3 a ha a ((h4 a).mp (.inr z)) rfl⟩
    refine ⟨vn, Ln, L1 ++ Lr, by simpa using h1, h2, ?_, fun a => ?_, fun F' H' n' Ln' s k o' nd' => ?_⟩
    · rw [List.nodup_append] at h3 ⊢
      refine ⟨h3.1, ?_, fun a ha b hb q => ?_⟩
      · rw [List.nodup_append]
        exact ⟨n1, h3.2.1, fun a ha b hb q => (hd a ha).2 (q ▸ hb)⟩
      · subst q
        rcases List.mem_append.mp hb with z | z
        · exact (hd a z).1 ha
        · exact h3.2.2 a ha a z rfl
    · rw [List.mem_append, List.mem_append, <- h4 a]
      constructor
      · rintro (z | z | z)
        · exact .inr (.inl z)
        · exact .inl z
        · exact .inr (.inr z)
      · rintro (z | z | z)
        · exact .inr (.inl z)
        · exact .inl z
        · exact .inr (.inr z)
    · rw [List.nodup_append] at nd'
      obtain ⟨p1, p2, p3⟩ := nd'
      rw [List.nodup_append] at p2
      obtain ⟨L', q1, q2, q3⟩ := h5 F' H' n' Ln' s (fun a m => k a (List.mem_append_right _ m)) o' (by
        rw [List.nodup_append]
        exact ⟨p1, p2.2.1, fun a ha b hb => p3 a ha b (List.mem_append_right _ hb)⟩)
      refine ⟨L1 ++ L', .cons (o.frame s fun a m => k a (List.mem_append_left _ m)) q1, ?_, fun a => ?_⟩
      · rw [List.nodup_append]
        refine ⟨n1, q2, fun a ha b hb q => ?_⟩
        subst q
        rcases (q3 a).mp hb with z | z
        · exact p3 a z a (List.mem_append_left _ ha) rfl
        · exact p2.2.2 a ha a z rfl
      · rw [List.mem_append, List.mem_append, q3 a]
        constructor
        · rintro (z | z | z)
          · exact .inr (.inl z)
          · exact .inl z
          · exact .inr (.inr z)
        · rintro (z | z | z)
          · exact .inr (.inl z)
          · exact .inl z
          · exact .inr (.inr z)
theorem zipK_get {κ : Type} {ks : List κ} {vs : List V} (h : ks.length = vs.length) : ((ks.zip vs).map (·.1)) = ks /\ ((ks.zip vs).map (·.2)) = vs := ⟨by rw [List.map_fst_zip (by omega)], by rw [List.map_snd_zip (by omega)]⟩
theorem Own.focus1 {d n : D} {v : V} {L : List Addr} {s : Pst} (o : Own W F H d v L) (nd : L.Nodup) (h : d.sub s = some n) :
    ∃ vn Ln Lr, VStep H v s vn /\ Own W F H n vn Ln /\ (Ln ++ Lr).Nodup /\ (∀ a, a ∈ Ln \/ a ∈ Lr ↔ a ∈ L) /\
      ∀ F' H' n' Ln', Same F F' -> (∀ a ∈ Lr, ∀ o, H a = some o -> H' a = some o) -> Own W F' H' n' vn Ln' -> (Ln' ++ Lr).Nodup -> ∃ L', Own W F' H' (d.put s n') v L' /\ L'.Nodup /\ ∀ a, a ∈ L' ↔ a ∈ Ln' \/ a ∈ Lr := by
  have gen : ∀ {a : Addr} {xs : List D} {vs : List V} {M : List Addr} {j : Nat} {ho : HO} {G : List D -> D}, H a = some ho -> Owns W F H xs vs M -> (a :: M).Nodup -> xs[j]? = some n ->
      (∀ F' H' ys M', H' a = some ho -> Owns W F' H' ys vs M' -> Own W F' H' (G ys) (.ref a) (a :: M')) -> ∃ vn, vs[j]? = some vn /\ ∃ Ln Lr, Own W F H n vn Ln /\ (Ln ++ Lr).Nodup /\ (∀ b, b ∈ Ln \/ b ∈ Lr ↔ b ∈ a :: M) /\
      ∀ F' H' n' Ln', Same F F' -> (∀ a ∈ Lr, ∀ o, H a = some o -> H' a = some o) -> Own W F' H' n' vn Ln' -> (Ln' ++ Lr).Nodup -> ∃ L', Own W F' H' (G (xs.set j n')) (.ref a) L' /\ L'.Nodup /\ ∀ b, b ∈ L' ↔ b ∈ Ln' \/ b ∈ Lr := by
    intro a xs vs M j ho G ha os nd hj mk
    rw [List.nodup_cons] at nd
    obtain ⟨vn, Ln, Lr, h1, h2, h3, h4, h5⟩ := os.focus nd.2 hj
    have na : a ∉ Ln /\ a ∉ Lr := ⟨fun z => nd.1 ((h4 a).mp (.inl z)), fun z => nd.1 ((h4 a).mp (.inr z))⟩
    refine ⟨vn, h1, Ln, a :: Lr, h2, ?_, fun b => ?_, fun F' H' n' Ln' s k o' nd' => ?_⟩
    · rw [List.nodup_append] at h3 ⊢
      refine ⟨h3.1, List.nodup_cons.mpr ⟨na.2, h3.2.1⟩, fun x hx y hy q => ?_⟩
      subst q
      rcases List.mem_cons.mp hy with z | z
      · subst z; exact na.1 hx
      · exact h3.2.2 x hx x z rfl
    · rw [List.mem_cons, List.mem_cons, <- h4 b]
      constructor
      · rintro (z | z | z)
        · exact .inr (.inl z)
        · exact .inl z
        · exact .inr (.inr z)
      · rintro (z | z | z)
        · exact .inr (.inl z)
        · exact .inl z
        · exact .inr (.inr z)
    · rw [List.nodup_append] at nd'
      obtain ⟨p1, p2, p3⟩ := nd'
      rw [List.nodup_cons] at p2
      obtain ⟨L', q1, q2, q3⟩ := h5 F' H' n' Ln' s (fun b m => k b (List.mem_cons_of_mem _ m)) o' (by
        rw [List.nodup_append]
        exact ⟨p1, p2.2, fun x hx y hy => p3 x hx y (List.mem_cons_of_mem _ hy)⟩)
      refine ⟨a :: L', mk F' H' _ L' (k a (List.mem_cons_self ..) _ ha) q1, List.nodup_cons.mpr ⟨fun z => ?_, q2⟩, fun b => ?_⟩
      · rcases (q3 a).mp z with z | z
        · exact p3 a z a (List.mem_cons_self ..) rfl
        · exact p2.1 z
      · rw [List.mem_cons, List.mem_cons, q3 b]
        constructor
        · rintro (z | z | z)
          · exact .inr (.inl z)
          · exact .inl z
          · exact .inr (.inr z)
        · rintro (z | z | z)
          · exact .inr (.inl z)
          · exact .inl z
          · exact .inr (.inr z)
  unfold D.sub at h
  cases hp : d.place s with
  | none => rw [hp] at h; cases h
  | some j =>
    rw [hp] at h
    have h : d.parts[j]? = some n := h
    have hput : ∀ n', d.put s n' = d.withParts (d.parts.set j n') := fun n' => by unfold D.put; rw [hp]
    simp only [hput]
    cases o with
    | sh y =>
      cases y <;> (unfold D.place at hp; cases hp)
    | @olst a xs vs M ha os =>
      cases s with
      | idx k =>
        cases hp
        obtain ⟨vn, h1, Ln, Lr, h2⟩ := gen (G := .olst) ha os nd h fun F' H' ys M' q r => .olst q r
        exact ⟨vn, Ln, Lr, ⟨a, vs, rfl, ha, h1⟩, h2⟩
      | fld f => cases hp
      | key k => cases hp
      | keyT k => cases hp
    | @odic a ks xs vs M ha hl hn os =>
      cases s with
      | key k =>
        obtain ⟨vn, h1, Ln, Lr, h2⟩ := gen (G := .odic ks) ha os nd h fun F' H' ys M' q r => .odic q hl hn r
        obtain ⟨z1, z2⟩ := zipK_get hl
        exact ⟨vn, Ln, Lr, ⟨a, _, rfl, ha, j, by rw [z1]; exact hp, by rw [z2]; exact h1⟩, h2⟩
      | fld f => cases hp
      | idx k => cases hp
      | keyT k => cases hp
    | @odit a ks xs vs M ha hl hn os =>
      cases s with
      | keyT k =>
        obtain ⟨vn, h1, Ln, Lr, h2⟩ := gen (G := .odit ks) ha os nd h fun F' H' ys M' q r => .odit q hl hn r
        obtain ⟨z1, z2⟩ := zipK_get hl
        exact ⟨vn, Ln, Lr, ⟨a, _, rfl, ha, j, by rw [z1]; exact hp, by rw [z2]; exact h1⟩, h2⟩
      | fld f => cases hp
      | idx k => cases hp
      | key k => cases hp
    | odig => cases s <;> cases hp
    | olf => cases s <;> cases hp
    | oxt => cases s <;> cases hp
    | otup => cases s <;> cases hp
    | @oins a C dx ns xs vs M ha hc hl os =>
      cases s with
      | fld f =>
        obtain ⟨vn, h1, Ln, Lr, h2⟩ := gen (G := .oins C ns) ha os nd h fun F' H' ys M' q r => .oins q hc hl r
        exact ⟨vn, Ln, Lr, ⟨a, _, dx, _, rfl, ha, by rw [zip_lookup hp]; exact h1⟩, h2⟩
      | idx k => cases hp
      | key k => cases hp
      | keyT k => cases hp
theorem Own.focus : ∀ {st : List Pst} {d n : D} {v : V} {L : List Addr}, Own W F H d v L -> L.Nodup -> d.at st = some n ->
    ∃ vn Ln Lr, VPath H v st vn /\ Own W F H n vn Ln /\ (Ln ++ Lr).Nodup /\ (∀ a, a ∈ Ln \/ a ∈ Lr ↔ a ∈ L) /\
      ∀ F' H' n' Ln', Same F F' -> (∀ a ∈ Lr, ∀ o, H a = some o -> H' a = some o) -> Own W F' H' n' vn Ln' -> (Ln' ++ Lr).Nodup -> ∃ L', Own W F' H' (d.putAt st n') v L' /\ L'.Nodup /\ ∀ a, a ∈ L' ↔ a ∈ Ln' \/ a ∈ Lr
  | [], d, n, v, L, o, nd, h => by
    cases h
    exact ⟨v, L, [], rfl, o, by simpa using nd, fun a => by simp, fun F' H' n' Ln' s k o' nd' => ⟨Ln', o', by simpa using nd', fun a => by simp⟩⟩
  | s :: st, d, n, v, L, o, nd, h => by
    unfold D.at at h
    cases hs : d.sub s with
    | none => rw [hs] at h; cases h
    | some x =>
      rw [hs] at h
      obtain ⟨vx, Lx, Ly, h1, h2, h3, h4, h5⟩ := o.focus1 nd hs
      obtain ⟨vn, Ln, Lr, k1, k2, k3, k4, k5⟩ := h2.focus (st := st) (List.nodup_append.mp h3).1 h
      have hput : ∀ n', d.putAt (s :: st) n' = d.put s (x.putAt st n') := fun n' => by
        show (match d.sub s with | some x => d.put s (x.putAt st n') | none => d) = _
        rw [hs]
      simp only [hput]
      rw [List.nodup_append] at h3
      obtain ⟨m1, m2, m3⟩ := h3
      refine ⟨vn, Ln, Lr ++ Ly, ⟨vx, h1, k1⟩, k2, ?_, fun a => ?_, fun F' H' n' Ln' sm k o' nd' => ?_⟩
      · rw [<- List.append_assoc, List.nodup_append]
        refine ⟨k3, m2, fun a ha b hb => m3 a ?_ b hb⟩
        exact (k4 a).mp (List.mem_append.mp ha)
      · rw [List.mem_append, <- h4 a, <- k4 a]
        constructor
        · rintro (z | z | z)
          · exact .inl (.inl z)
          · exact .inl (.inr z)
          · exact .inr z
        · rintro ((z | z) | z)
          · exact .inl z
          · exact .inr (.inl z)
          · exact .inr (.inr z)
      · rw [<- List.append_assoc, List.nodup_append] at nd'
        obtain ⟨p1, p2, p3⟩ := nd'
        obtain ⟨L', q1, q2, q3⟩ := k5 F' H' n' Ln' sm (fun a m => k a (List.mem_append_left _ m)) o' p1
        obtain ⟨L2, r1, r2, r3⟩ := h5 F' H' _ L' sm (fun a m => k a (List.mem_append_right _ m)) q1 (by
          rw [List.nodup_append]
          exact ⟨q2, p2, fun a ha b hb => p3 a (List.mem_append.mpr ((q3 a).mp ha)) b hb⟩)
        refine ⟨L2, r1, r2, fun a => ?_⟩
        rw [r3 a, q3 a, List.mem_append]
        constructor
        · rintro ((z | z) | z)
          · exact .inl z
          · exact .inr (.inl z)
          · exact .inr (.inr z)
        · rintro (z | z | z)
          · exact .inl (.inl z)
          · exact .inl (.inr z)
          · exact .inr z
theorem Owns.snoc : ∀ {xs : List D} {vs : List V} {M M2 : List Addr} {d : D} {v : V}, Owns W F H xs vs M -> Own W F H d v M2 -> Owns W F H (xs ++ [d]) (vs ++ [v]) (M ++ M2)
  | _, _, _, M2, _, _, .nil, o => by
    have h := Owns.cons o (Owns.nil (W := W) (F := F) (H := H))
    rw [List.append_nil] at h
    exact h
  | _, _, _, M2, _, _, .cons (L := L) (M := M) h t, o => by
    have q := Owns.cons h (t.snoc o)
    rw [<- List.append_assoc] at q
    exact q
theorem Rel.focus {e : Ent} {env : Py.Env} {σ : St} {L : List Addr} {i : Nat} {d0 n : D} {st : List Pst} (r : Rel W e env F σ H L) (h0 : env[i]? = some (some d0)) (h1 : d0.at st = some n) :
    ∃ v0 vn Ln Lr, σ[i]? = some (some v0) /\ VPath H v0 st vn /\ Own W F H n vn Ln /\ (Ln ++ Lr).Nodup /\ (∀ a, a ∈ Ln \/ a ∈ Lr ↔ a ∈ L) /\
      ∀ F' H' n' Ln', Same F F' -> Same F' H' -> (∀ a o, a ∉ Ln -> H a = some o -> H' a = some o) -> (∀ a o, F' a = some o -> F a = some o \/ (H a = none \/ a ∉ L /\ (a ∈ e.L0 \/ e.H0 a = none)) \/ a ∈ Ln) -> Own W F' H' n' vn Ln' -> (Ln' ++ Lr).Nodup -> (∀ a ∈ Ln', F' a = none /\ (a ∈ Ln \/ a ∈ e.L0 \/ e.H0 a = none)) ->
        ∃ L', Rel W e (env.set i (some (d0.putAt st n'))) F' σ H' L' /\ ∀ a ∈ L', a ∈ Ln' \/ a ∈ Lr := by
  obtain ⟨v0, Li, Lj, e1, o, sl, nd, mem⟩ := r.slots.take r.nd h0
  obtain ⟨vn, Ln, Lr, k1, k2, k3, k4, k5⟩ := o.focus (List.nodup_append.mp nd).1 h1
  rw [List.nodup_append] at nd
  obtain ⟨m1, m2, m3⟩ := nd
  have tot : ∀ a, a ∈ Ln \/ a ∈ Lr ++ Lj ↔ a ∈ L := fun a => by
    rw [List.mem_append, <- mem a, <- k4 a]
    constructor
    · rintro (z | z | z)
      · exact .inl (.inl z)
      · exact .inl (.inr z)
      · exact .inr z
    · rintro ((z | z) | z)
      · exact .inl z
      · exact .inr (.inl z)
      · exact .inr (.inr z)
  have ndT : (Ln ++ (Lr ++ Lj)).Nodup := by
    rw [<- List.append_assoc, List.nodup_append]
    exact ⟨k3, m2, fun a ha b hb => m3 a ((k4 a).mp (List.mem_append.mp ha)) b hb⟩
  refine ⟨v0, vn, Ln, Lr ++ Lj, e1, k1, k2, ndT, tot, fun F' H' n' Ln' sF sH fr nw o' nd' hn => ?_⟩
  have notn : ∀ a ∈ Lr ++ Lj, a ∉ Ln := fun a ha z => (List.nodup_append.mp ndT).2.2 a z a ha rfl
  have keep : ∀ a ∈ Lr ++ Lj, ∀ o, H a = some o -> H' a = some o := fun a ha o q => fr a o (notn a ha) q
  rw [<- List.append_assoc, List.nodup_append] at nd'
  obtain ⟨p1, p2, p3⟩ := nd'
  obtain ⟨L', q1, q2, q3⟩ := k5 F' H' n' Ln' sF (fun a m => keep a (List.mem_append_left _ m)) o' p1
  have sl' := sl.frame (F' := F') (H' := H') sF fun a m => keep a (List.mem_append_right _ m)
  have hi : i < env.length := (List.getElem?_eq_some_iff.mp h0).1
  obtain ⟨L2, s1, s2, s3⟩ := sl'.put (i := i) (v := v0) q1 (by
    rw [List.nodup_append]
    exact ⟨q2, p2, fun a ha b hb => p3 a (List.mem_append.mpr ((q3 a).mp ha)) b hb⟩) (by simpa using hi)
  have hset : (env.set i none).set i (some (d0.putAt st n')) = env.set i (some (d0.putAt st n')) := by rw [List.set_set]
  have hσ : σ.set i (some v0) = σ := by
    apply List.ext_getElem?
    intro k
    by_cases hk : i = k
    · subst hk
      obtain ⟨hlt, _⟩ := List.getElem?_eq_some_iff.mp e1
      rw [List.getElem?_set_self hlt, e1]
    · rw [List.getElem?_set_ne hk]
  rw [hset, hσ] at s1
  have inL : ∀ a ∈ L2, (a ∈ Ln' \/ a ∈ Lr ++ Lj) := fun a ha => by
    rcases s3 a ha with z | z
    · rcases (q3 a).mp z with z | z
      · exact .inl z
      · exact .inr (List.mem_append_left _ z)
    · exact .inr (List.mem_append_right _ z)
  have nr : ∀ a ∈ Lr ++ Lj, F' a = none := fun a ha => by
    obtain ⟨o, ho⟩ := r.slots.lives a ((tot a).mp (.inr ha))
    cases q : F' a with
    | none => rfl
    | some u =>
      rcases nw a u q with z | (z | z) | z
      · rw [r.dj a ((tot a).mp (.inr ha))] at z; cases z
      · rw [ho] at z; cases z
      · exact absurd ((tot a).mp (.inr ha)) z.1
      · exact absurd z (notn a ha)
  refine ⟨L2, ⟨sH, s1, s2, fun a ha => ?_, r.s0.trans sF, fun a o q => ?_, fun a o m q => ?_, fun a ha => ?_, r.pin⟩, inL⟩
  · rcases inL a ha with z | z
    · exact (hn a z).1
    · exact nr a z
  · rcases nw a o q with z | (z | z) | z
    · exact r.nw a o z
    · exact .inr ((r.h0 z).elim .inr .inl)
    · exact .inr (z.2.elim .inr .inl)
    · exact .inr ((r.ln a ((tot a).mp (.inl z))).elim .inr .inl)
  · have h := r.fr a o m q
    refine fr a o (fun z => ?_) h
    rcases r.ln a ((tot a).mp (.inl z)) with y | y
    · exact m y
    · rw [q] at y; cases y
  · rcases inL a ha with z | z
    · rcases (hn a z).2 with y | y
      · exact r.ln a ((tot a).mp (.inl y))
      · exact y
    · exact r.ln a ((tot a).mp (.inr z))
end
end Py
namespace Py
open PySem L2
section
variable {T : Tbl} {W : Wd T} {env : Py.Env} {t ta tb tk : TE} {tr : TA} {d d0 d1 d2 : D} {i : Nat} {st : List Pst} {P : List Nat} {E : WX} {A : AEnds}
def ALoc {T : Tbl} (W : Wd T) (t : TE) (env : Py.Env) (i : Nat) (st : List Pst) : Prop :=
  ∀ (e : Ent) (F : Hp) (σ : St) (H : Hp) (L : List Addr) (v0 : V) (Q : VK), Rel W e env F σ H L -> σ[i]? = some (some v0) -> (∀ v F' H', Ext F H F' H' -> VPath H' v0 st v -> Q v H') -> t σ H Q
theorem loc_var : ALoc W (tVar i) env i [] := fun e F σ H L v0 Q r h q => ⟨v0, h, q v0 F H (.refl r.sF) rfl⟩
end
end Py
namespace Py
open PySem L2
section
variable {X : Cx}
def CMulU (i j : Int) : Prop := CMul i j \/ CMulW i j
def CDivU (i j : Int) : Prop := CDiv i j \/ CDivW i j
theorem cmul_l {i j : Int} (h1 : -(2 ^ 64) < i) (h2 : i < 2 ^ 64) : CMulU i j := .inl (.inl ⟨h1, h2⟩)
theorem cmul_r {i j : Int} (h1 : -(2 ^ 64) < j) (h2 : j < 2 ^ 64) : CMulU i j := .inl (.inr ⟨h1, h2⟩)
theorem cmul_w {i j : Int} (h1 : i.natAbs < 2 ^ 4000) (h2 : j.natAbs < 2 ^ 4000) : CMulU i j := .inr (wide_mul h1 h2 (by decide) (by decide) (by decide))
theorem cdiv_s {i j : Int} (h1 : 0 < j) (h2 : j < 1073741824) : CDivU i j := .inl ⟨h1, h2⟩
theorem cdiv_w {i j : Int} (h1 : 0 < j) (h2 : j.natAbs < 2 ^ 4000) : CDivU i j := .inr (wide_div h1 h2 (by decide) (by decide))
theorem op_mulU : OpR X (binaryOp .Mult) (rI CMulU fun i j => .int (i * j)) := opI fun _ _ _ _ _ _ _ hc q => PyProof.Rows.mul_int q (hc.elim CMul.ok CMulW.ok)
theorem op_divU : OpR X (binaryOp .FloorDiv) (rI CDivU fun i j => .int (i / j)) := fun pins s σ H x y v u Q I rx ry h => by
  obtain ⟨i, j, e1, e2, hc, q⟩ := h
  rcases hc with hc | hc
  · exact op_fdiv pins s σ H x y v u Q I rx ry ⟨i, j, e1, e2, hc, q⟩
  · exact op_fdivW pins s σ H x y v u Q I rx ry ⟨i, j, e1, e2, hc, q⟩
theorem opAdd : OpR X (binaryOp .Add) (fun x y H Q => rI0 (fun i j => .int (i + j)) x y H Q \/ (fun x y H Q => rCat x y H Q \/ rCatT X.K x y H Q) x y H Q) := OpR.or op_add (OpR.or op_cat op_catT)
theorem opMul : OpR X (binaryOp .Mult) (rI CMulU fun i j => .int (i * j)) := op_mulU
theorem opDiv : OpR X (binaryOp .FloorDiv) (rI CDivU fun i j => .int (i / j)) := op_divU
theorem opEq (hu : X.A.units + 64 < cLine) : OpR X (compareOp .Eq) (fun x y H Q => rEq x y H Q \/ rEqD X.K x y H Q) := OpR.or op_eq (op_eqD hu)
theorem opNe (hu : X.A.units + 64 < cLine) : OpR X (compareOp .NotEq) (fun x y H Q => rNe x y H Q \/ rNeD X.K x y H Q) := OpR.or op_ne (op_neD hu)
theorem opLt (hu : X.A.units < cLine) : OpR X (compareOp .Lt) (fun x y H Q => rI0 (fun i j => .bl (decide (i < j))) x y H Q \/ rLtT X.K x y H Q) := OpR.or op_lt (op_ltT hu)
theorem ixU : IxR X (rIxU X.K) := ix_list.or ix_tup
theorem call_intU : CallR X (.type "int") (fun xs H Q => (∃ i, xs = [.int i] /\ Q (.int i) H) \/ ∃ k, xs = [.bl k] /\ Q (.int (if k then 1 else 0)) H) := call_int1
theorem call_absU : CallR X (.builtin "abs") (fun xs H Q => ∃ i, xs = [.int i] /\ Q (.int (if i < 0 then -i else i)) H) := call_abs
theorem call_lenU : CallR X (.builtin "len") (rLenU X.K) := call_len_seq
theorem pt_truU {a : Expr} {ta : TE} (ha : PE X a ta) (he : ∀ whole, isTrue a X.env whole = (do let v <- whole; standAt a.pos; holding [v] (truthy v)) := by intro _; rfl) :
    PT X a (fun σ H Q => ta σ H fun x H' => ∃ k, TruV X.K x H' k /\ Q k H') := pt_truth ha he
end
end Py
namespace Py
open PySem L2
section
variable {T : Tbl} {W : Wd T} {env : Py.Env} {t ta tb te : TE} {tr : TA} {d d0 d1 d2 : D} {ds es : List D} {i : Nat} {P : List Nat} {E : WX} {A : AEnds}
structure Seq {T : Tbl} (W : Wd T) (J : It) (ds : List D) (F0 : Hp) : Prop where
  go : ∀ (i : Nat) (d : D) (F H : Hp), Same F0 F -> Same F H -> ds[i]? = some d -> J.go i H /\ ∀ x H', J.yld i H x H' -> ∃ F', Ext F H F' H' /\ Shr W F' d x
  stop : ∀ (F H : Hp), Same F0 F -> Same F H -> J.stop ds.length H
def AIt {T : Tbl} (W : Wd T) (wi : TI) (env : Py.Env) (ds : List D) : Prop :=
  ∀ (e : Ent) (F : Hp) (σ : St) (H : Hp) (L : List Addr) (R : It -> Hp -> Prop), Rel W e env F σ H L -> (∀ J F' H', Ext F H F' H' -> Seq W J ds F' -> R J H') -> wi σ H R
def rangeD (lo : Int) (n : Nat) : List D := (List.range n).map fun k : Nat => D.int (lo + (k : Nat))
theorem rangeD_length (lo : Int) (n : Nat) : (rangeD lo n).length = n := by simp [rangeD]
theorem rangeD_get {lo : Int} {n i : Nat} {d : D} (h : (rangeD lo n)[i]? = some d) : i < n /\ d = .int (lo + (i : Nat)) := by
  unfold rangeD at h
  rw [List.getElem?_map] at h
  by_cases hi : i < n
  · rw [List.getElem?_range hi] at h
    exact ⟨hi, (Option.some.inj h).symm⟩
  · rw [List.getElem?_eq_none (by simpa using hi)] at h; cases h
theorem seq_range {F0 : Hp} {lo : Int} {n : Nat} : Seq W (Itr lo n) (rangeD lo n) F0 where
  go := fun i d F H s1 s2 hd => by
    obtain ⟨hi, rfl⟩ := rangeD_get hd
    refine ⟨hi, fun x H' y => ?_⟩
    obtain ⟨rfl, rfl⟩ := y
    exact ⟨F, .refl s2, .int⟩
  stop := fun F H s1 s2 => by rw [rangeD_length]; exact Nat.le_refl n
theorem ait_range {n : Int} (h : AA W tr env (rVs W [.int n])) (hb : -(2 ^ 62) <= n /\ n < 2 ^ 62) : AIt W (iRng1 tr) env (rangeD 0 n.toNat) := fun e F σ H L R r q =>
  h e F σ H L _ r fun vs F1 H1 x1 y1 => by
    cases y1 with
    | cons a b =>
      cases a; cases b
      exact ⟨n, rfl, hb.1, hb.2, q _ F1 H1 x1 seq_range⟩
theorem at_yes : AT W tYes env true := fun e F σ H L Q r q => q F H (.refl r.sF)
theorem as_for {wi : TI} {g : TG} {tb : TS} (h : AIt W wi env ds) (Iv : Nat -> Py.Env -> Prop) (h0 : Iv 0 env)
    (hs : ∀ i d env', ds[i]? = some d -> Iv i env' -> AG W P g d env' fun e2 => AS W P E tb e2 { A with nx := Iv (i + 1), ct := Iv (i + 1), bk := A.nx })
    (hd : ∀ env', Iv ds.length env' -> A.nx env') : AS W P E (tFor wi g tb) env A := fun e F σ H L Dn hP r s =>
  h e F σ H L _ r fun J F1 H1 x1 sq => by
    have r1 := r.ext x1
    refine ⟨fun i m σ H => m = ds.length - i /\ i <= ds.length /\ ∃ env' F L, Iv i env' /\ Rel W { e with F0 := F1 } env' F σ H L, ⟨ds.length, rfl, Nat.zero_le _, env, F1, L, h0, r1.enter⟩, ?_⟩
    rintro i m σ H ⟨rfl, hi, env', F, L, hI, q⟩
    by_cases hlt : i < ds.length
    · have hd' : ds[i]? = some ds[i] := List.getElem?_eq_getElem hlt
      obtain ⟨g1, g2⟩ := sq.go i _ F H q.s0 q.sF hd'
      refine .inr ⟨g1, fun σ H => ∃ env' F L, Iv (i + 1) env' /\ Rel W { e with F0 := F1 } env' F σ H L, fun σ' H' p' => ⟨ds.length - (i + 1), by omega, rfl, hlt, p'⟩, fun x H' y => ?_⟩
      obtain ⟨F2, x2, sx⟩ := g2 x H' y
      refine hs i _ env' hd' hI { e with F0 := F1 } F2 σ H' L x _ hP (q.ext x2) sx fun env2 σ2 L2 k2 q2 => k2 { e with F0 := F1 } F2 σ2 H' L2 _ hP q2 ?_
      exact ⟨fun e3 F3 σ3 H3 L3 w q3 => ⟨e3, F3, L3, w, q3⟩, fun d e3 F3 σ3 H3 L3 v M w q3 => s.rt d e3 F3 σ3 H3 L3 v M w (r1.leave q3), fun e3 F3 σ3 H3 L3 w q3 => s.nx e3 F3 σ3 H3 L3 w (r1.leave q3),
        fun e3 F3 σ3 H3 L3 w q3 => ⟨e3, F3, L3, w, q3⟩, fun x e3 F3 σ3 H3 L3 C dd w q3 => s.ex x e3 F3 σ3 H3 L3 C dd w (r1.leave q3)⟩
    · have e0 : i = ds.length := by omega
      subst e0
      exact .inl ⟨sq.stop F H q.s0 q.sF, s.nx _ _ _ _ _ (hd env' hI) (r1.leave q)⟩
def wipeE (env : Py.Env) : List Nat -> Py.Env
  | [] => env
  | v :: vs => (wipeE env vs).set v none
theorem Slots.kill {F H : Hp} {o : Option V} : ∀ {env : Py.Env} {σ : St} {L : List Addr} {i : Nat}, Slots W F H env σ L -> L.Nodup -> ∃ L', Slots W F H (env.set i none) (σ.set i o) L' /\ L'.Nodup /\ ∀ a ∈ L', a ∈ L
  | _, _, _, i, .nil, nd => ⟨[], by simpa using Slots.nil, nd, fun a h => h⟩
  | _, _, _, 0, .so (L := L1) (M := M1) h t, nd => ⟨M1, .no t, (List.nodup_append.mp nd).2.1, fun a h => List.mem_append_right _ h⟩
  | _, _, _, 0, .no (M := M1) t, nd => ⟨M1, .no t, nd, fun a h => h⟩
  | _, _, _, i + 1, .so (L := L1) (M := M1) h t, nd => by
    rw [List.nodup_append] at nd
    obtain ⟨n1, n2, n3⟩ := nd
    obtain ⟨L', s, nd', m⟩ := t.kill (i := i) (o := o) n2
    refine ⟨L1 ++ L', .so h s, ?_, fun a ha => ?_⟩
    · rw [List.nodup_append]
      exact ⟨n1, nd', fun a ha b hb => n3 a ha b (m b hb)⟩
    · rcases List.mem_append.mp ha with q | q
      · exact List.mem_append_left _ q
      · exact List.mem_append_right _ (m a q)
  | _, _, _, i + 1, .no (M := M1) t, nd => by
    obtain ⟨L', s, nd', m⟩ := t.kill (i := i) (o := o) nd
    exact ⟨L', .no s, nd', m⟩
theorem Rel.wipe {e : Ent} {F H : Hp} {σ : St} {L : List Addr} (r : Rel W e env F σ H L) (hp : e.pins = []) : ∀ vs : List Nat, ∃ L', Rel W e (wipeE env vs) F (L2.wipe σ vs) H L' /\ ∀ a ∈ L', a ∈ L
  | [] => ⟨L, r, fun _ h => h⟩
  | v :: vs => by
    obtain ⟨L1, r1, m1⟩ := r.wipe hp vs
    obtain ⟨L2, s, nd, m⟩ := r1.slots.kill (i := v) (o := none) r1.nd
    exact ⟨L2, ⟨r1.sF, s, nd, fun a h => r1.dj a (m a h), r1.s0, r1.nw, r1.fr, fun a h => r1.ln a (m a h), fun p hm => by rw [hp] at hm; cases hm⟩, fun a h => m1 a (m a h)⟩
theorem Rel.nopin {e : Ent} {F H : Hp} {σ : St} {L : List Addr} (r : Rel W e env F σ H L) : Rel W { e with pins := [] } env F σ H L := ⟨r.sF, r.slots, r.nd, r.dj, r.s0, r.nw, r.fr, r.ln, fun _ h => nomatch h⟩
theorem Rel.free {e : Ent} {F H : Hp} {σ : St} {L : List Addr} {p : Addr} {o : HO} (r : Rel W e env F σ H L) (h1 : p ∉ L) (h2 : F p = none) (h3 : p ∈ e.L0 \/ e.H0 p = none) : Rel W e env F σ (upd H p o) L where
  sF := fun b u hb => by rw [upd_ne (fun z => by rw [z, h2] at hb; cases hb)]; exact r.sF _ _ hb
  slots := r.slots.frame (Same.refl _) fun a m u hu => by rw [upd_ne (fun z => h1 (by rw [<- z]; exact m))]; exact hu
  nd := r.nd
  dj := r.dj
  s0 := r.s0
  nw := r.nw
  fr := fun a u m hu => by
    rw [upd_ne (fun z => ?_)]
    · exact r.fr a u m hu
    · subst z
      rcases h3 with q | q
      · exact m q
      · rw [q] at hu; cases hu
  ln := r.ln
  pin := r.pin
def GW (g : TG) (vs : List Nat) : Prop := ∀ (v : V) (σ : St) (H : Hp) (Q : St -> Hp -> Prop), g v σ H Q -> g v σ H fun σ2 H2 => wipe σ2 vs = wipe σ vs /\ Q σ2 H2
def GWs (g : TGs) (vs : List Nat) : Prop := ∀ (v : List V) (σ : St) (H : Hp) (Q : St -> Hp -> Prop), g v σ H Q -> g v σ H fun σ2 H2 => wipe σ2 vs = wipe σ vs /\ Q σ2 H2
theorem wipe_comm {n : Nat} {o : Option V} : ∀ (vs : List Nat) (σ : St), n ∉ vs -> wipe (σ.set n o) vs = (wipe σ vs).set n o
  | [], σ, _ => rfl
  | w :: ws, σ, hn => by
    unfold wipe
    rw [wipe_comm ws σ (fun z => hn (List.mem_cons_of_mem _ z)), List.set_comm _ _ (fun z => hn (by rw [z]; exact List.mem_cons_self ..))]
theorem wipe_set {σ : St} {n : Nat} {o : Option V} : ∀ {vs : List Nat}, n ∈ vs -> wipe (σ.set n o) vs = wipe σ vs
  | [], h => nomatch h
  | v :: vs, h => by
    unfold wipe
    by_cases hv : n ∈ vs
    · rw [wipe_set hv]
    · rcases List.mem_cons.mp h with z | z
      · subst z
        rw [wipe_comm vs σ hv, List.set_set]
      · exact absurd z hv
theorem wipe_wipe {σ : St} : ∀ {vs : List Nat}, wipe (wipe σ vs) vs = wipe σ vs
  | [] => rfl
  | v :: vs => by
    have e : wipe σ (v :: vs) = (wipe σ vs).set v none := rfl
    rw [e]
    show (wipe ((wipe σ vs).set v none) vs).set v none = _
    by_cases hv : v ∈ vs
    · rw [wipe_set hv, wipe_wipe]
    · rw [wipe_comm vs _ hv, wipe_wipe, List.set_set]
theorem gw_name {n : Nat} {vs : List Nat} (h : n ∈ vs) : GW (gName n) vs := fun v σ H Q q => ⟨wipe_set h, q⟩
structure SeqP {T : Tbl} (W : Wd T) (J : It) (ds : List D) (F0 H0 : Hp) : Prop where
  go : ∀ (i : Nat) (d : D) (F H : Hp), Same F0 F -> Same H0 H -> Same F H -> ds[i]? = some d -> J.go i H /\ ∀ x H', J.yld i H x H' -> ∃ F', Ext F H F' H' /\ Shr W F' d x
  stop : ∀ (F H : Hp), Same F0 F -> Same H0 H -> Same F H -> J.stop ds.length H
def AIp {T : Tbl} (W : Wd T) (wi : TI) (env : Py.Env) (ds : List D) : Prop :=
  ∀ (e : Ent) (F : Hp) (σ : St) (H : Hp) (L : List Addr) (R : It -> Hp -> Prop), Rel W e env F σ H L -> (∀ J F' H', Ext F H F' H' -> SeqP W J ds F' H' -> R J H') -> wi σ H R
theorem AIt.p {wi : TI} (h : AIt W wi env ds) : AIp W wi env ds := fun e F σ H L R r q => h e F σ H L R r fun J F' H' x s => q J F' H' x ⟨fun i d F1 H1 a _ c e => s.go i d F1 H1 a c e, fun F1 H1 a _ c => s.stop F1 H1 a c⟩
end
end Py
namespace Py
open PySem L2
inductive Kd where
  | fr | pl | vw
def isFlat : D -> Bool
  | .non | .bl _ | .int _ | .str _ | .cls _ => true
  | _ => false
section
variable {T : Tbl} {W : Wd T} {env : Py.Env} {t ta tb : TE} {d d1 d2 : D}
theorem Shr.flat {F F' : Hp} {d : D} {v : V} (h : Shr W F d v) (e : isFlat d = true) : Shr W F' d v := by
  cases h <;> first | (cases e; done) | exact .non | exact .bl | exact .int | exact .str | (apply Shr.cls; assumption)
theorem isSh_flat {d : D} (e : isFlat d = true) : isSh d = true := by cases d <;> first | rfl | cases e
def rP {T : Tbl} (W : Wd T) (d : D) : Res := fun F H _ v => ∃ L, Own W F H d v L
def rK {T : Tbl} (W : Wd T) : Kd -> D -> Res
  | .fr, d => rO W d
  | .pl, d => rP W d
  | .vw, d => rV W d
theorem ite_some {α : Type} {c : Prop} [Decidable c] {a b : α} (h : (if c then some a else none) = some b) : c /\ a = b := by
  split at h
  · exact ⟨by assumption, Option.some.inj h⟩
  · cases h
theorem rK_view {F H H0 : Hp} {k : Kd} {v : V} (s : Same F H) (h : rK W k d F H H0 v) : Shr W H (fz d) v := by
  cases k with
  | fr => obtain ⟨L, o, _⟩ := h; exact o.view s fun _ _ _ z => z
  | pl => obtain ⟨L, o⟩ := h; exact o.view s fun _ _ _ z => z
  | vw => have h : Shr W H d v := h; rw [fz_shr h]; exact h
def basis (k : Kd) (F H : Hp) : Hp := match k with | .vw => H | _ => F
theorem basis_same {k : Kd} {F H : Hp} (s : Same F H) : Same (basis k F H) H := by cases k <;> first | exact s | exact Same.refl _
theorem rK_own {F H H0 : Hp} {k : Kd} {v : V} (h : rK W k d F H H0 v) : ∃ L, Own W (basis k F H) H d v L := by
  cases k with
  | fr => obtain ⟨L, o, _⟩ := h; exact ⟨L, o⟩
  | pl => exact h
  | vw => exact ⟨[], .sh h⟩
def Kd.part : Kd -> Kd
  | .vw => .vw
  | _ => .pl
def Kd.of (k : Kd) (d : D) : Kd × D := match k with | .vw => (.vw, fz d) | _ => (.pl, d)
theorem rK_of {F H H0 : Hp} {k k' : Kd} {d' : D} {v : V} {L : List Addr} (s : Same F H) (h : Own W (basis k F H) H d v L) (e : k.of d = (k', d')) : rK W k' d' F H H0 v := by
  cases k with
  | fr => cases e; exact ⟨L, h⟩
  | pl => cases e; exact ⟨L, h⟩
  | vw => cases e; exact h.view (Same.refl _) fun _ _ _ z => z
theorem Ext.basis {k : Kd} {F H F' H' : Hp} (x : Ext F H F' H') : Same (basis k F H) (basis k F' H') := by
  cases k <;> first | exact x.f | exact x.h
theorem Own.ext {k : Kd} {F H F' H' : Hp} {v : V} {L : List Addr} (o : Own W (basis k F H) H d v L) (x : Ext F H F' H') : Own W (basis k F' H') H' d v L := o.frame x.basis fun a _ o q => x.h _ _ q
structure XP {T : Tbl} (W : Wd T) where
  t : TE
  ev : Py.Env -> Option (Kd × D)
  snd : ∀ {env k d}, ev env = some (k, d) -> AE W t env (rK W k d)
def toV : Option (Kd × D) -> Option D
  | some (_, d) => some (fz d)
  | none => none
def toK : Option (Kd × D) -> Option D
  | some (.vw, d) => if isFlat d then some d else none
  | some (_, d) => some d
  | none => none
def toF : Option (Kd × D) -> Option D
  | some (.fr, d) => some (fz d)
  | some (.pl, d) => if isSh d then some d else none
  | some (.vw, d) => if isFlat d then some d else none
  | none => none
def toO : Option (Kd × D) -> Option D
  | some (.fr, d) => some d
  | some (.pl, d) => if isSh d then some d else none
  | some (.vw, d) => if isFlat d then some d else none
  | none => none
def XP.evV (x : XP W) (env : Py.Env) : Option D := toV (x.ev env)
def XP.evK (x : XP W) (env : Py.Env) : Option D := toK (x.ev env)
def XP.evF (x : XP W) (env : Py.Env) : Option D := toF (x.ev env)
def XP.evO (x : XP W) (env : Py.Env) : Option D := toO (x.ev env)
theorem XP.sV (x : XP W) (h : x.evV env = some d) : AE W x.t env (rV W d) := by
  unfold XP.evV at h
  match e : x.ev env, h with
  | some (k, d0), h =>
    cases h
    exact (x.snd e).imp fun F H H0 v s q => rK_view s q
theorem XP.sK (x : XP W) (h : x.evK env = some d) : AE W x.t env (rP W d) := by
  unfold XP.evK at h
  match e : x.ev env, h with
  | some (.fr, d0), h => cases h; exact (x.snd e).imp fun F H H0 v s ⟨L, o, _⟩ => ⟨L, o⟩
  | some (.pl, d0), h => cases h; exact x.snd e
  | some (.vw, d0), h =>
    have h : (if isFlat d0 = true then some d0 else none) = some d := h
    split at h
    · cases h; exact (x.snd e).imp fun F H H0 v s q => ⟨[], .sh (Shr.flat q (by assumption))⟩
    · cases h
theorem XP.sF (x : XP W) (h : x.evF env = some d) : AE W x.t env (rF W d) := by
  unfold XP.evF at h
  match e : x.ev env, h with
  | some (.fr, d0), h => cases h; exact (AE.frz (d := d0) (x.snd e))
  | some (.pl, d0), h =>
    have h : (if isSh d0 = true then some d0 else none) = some d := h
    split at h
    · cases h; exact (x.snd e).imp fun F H H0 v s ⟨L, o⟩ => o.shr (by assumption)
    · cases h
  | some (.vw, d0), h =>
    have h : (if isFlat d0 = true then some d0 else none) = some d := h
    split at h
    · cases h; exact (x.snd e).imp fun F H H0 v s q => (Shr.flat q (by assumption))
    · cases h
theorem XP.sO (x : XP W) (h : x.evO env = some d) : AE W x.t env (rO W d) := by
  unfold XP.evO at h
  match e : x.ev env, h with
  | some (.fr, d0), h => cases h; exact x.snd e
  | some (.pl, d0), h =>
    have h : (if isSh d0 = true then some d0 else none) = some d := h
    split at h
    · cases h; exact (x.snd e).imp fun F H H0 v s ⟨L, o⟩ => rO_sh (o.shr (by assumption))
    · cases h
  | some (.vw, d0), h =>
    have h : (if isFlat d0 = true then some d0 else none) = some d := h
    split at h
    · cases h; exact (x.snd e).imp fun F H H0 v s q => rO_sh (Shr.flat q (by assumption))
    · cases h
def getS (env : Py.Env) (i : Nat) : Option D := (env[i]?).join
theorem getS_some (h : getS env i = some d) : env[i]? = some (some d) := by
  unfold getS at h
  match e : env[i]?, h with
  | some (some x), h => cases h; rfl
def xVar {T : Tbl} (W : Wd T) (i : Nat) : XP W where
  t := tVar i
  ev env := (getS env i).map (Prod.mk .pl)
  snd := fun {env k d} h => by
    match e : getS env i, h with
    | some x, h =>
      cases h
      exact fun e' F σ H L Q r q => by
        obtain ⟨v, M, e1, o, _⟩ := slot_get r (getS_some e)
        exact ⟨v, e1, q v F H (.refl r.sF) ⟨M, o⟩⟩
def xC {T : Tbl} (W : Wd T) (v : V) (d : D) (h : ∀ F, Shr W F d v) : XP W where
  t := tC v
  ev _ := some (.fr, d)
  snd := fun e => by cases e; exact (ae_c h).own
def xInt {T : Tbl} (W : Wd T) (i : Int) : XP W := xC W (.int i) (.int i) fun _ => .int
def xBl {T : Tbl} (W : Wd T) (b : Bool) : XP W := xC W (.bl b) (.bl b) fun _ => .bl
def xNon {T : Tbl} (W : Wd T) : XP W := xC W .non .non fun _ => .non
def xStr {T : Tbl} (W : Wd T) (x : String) : XP W := xC W (.str (so x)) (.str x) fun _ => .str
def xOp (r : R2) (f : D -> D -> Option D) (h : ∀ {x y d}, f x y = some d -> Op2 W r x y d) (a b : XP W) : XP W where
  t := tOp r a.t b.t
  ev env := (a.evV env).bind fun x => (b.evV env).bind fun y => (f x y).map (Prod.mk .fr)
  snd := fun {env k d} e => by
    obtain ⟨x, e1, e⟩ := Option.bind_eq_some_iff.mp e
    obtain ⟨y, e2, e⟩ := Option.bind_eq_some_iff.mp e
    obtain ⟨z, e3, e⟩ := Option.map_eq_some_iff.mp e
    cases e
    exact ae_op2 (a.sV e1) (b.sV e2) (h e3)
def b4000 : Nat := 2 ^ 4000
def mulOk (i j : Int) : Prop := (-18446744073709551616 < i /\ i < 18446744073709551616) \/ (-18446744073709551616 < j /\ j < 18446744073709551616) \/ (i.natAbs < b4000 /\ j.natAbs < b4000)
instance (i j : Int) : Decidable (mulOk i j) := by unfold mulOk; infer_instance
theorem mulOk_u {i j : Int} (h : mulOk i j) : CMulU i j := by
  rcases h with h | h | h
  · exact cmul_l h.1 h.2
  · exact cmul_r h.1 h.2
  · exact cmul_w h.1 h.2
def mulD : D -> D -> Option D
  | .int i, .int j => if mulOk i j then some (.int (i * j)) else none
  | _, _ => none
def xMul (a b : XP W) : XP W := xOp (rI CMulU fun i j => .int (i * j)) mulD (fun {x y d} e => by
  cases x <;> first | (cases e; done) | skip
  cases y <;> first | (cases e; done) | skip
  obtain ⟨hc, rfl⟩ := ite_some e
  exact o2_ic (mulOk_u hc) fun _ => .int) a b
def divOk (j : Int) : Prop := 0 < j /\ (j < 1073741824 \/ j.natAbs < b4000)
instance (j : Int) : Decidable (divOk j) := by unfold divOk; infer_instance
def divD : D -> D -> Option D
  | .int i, .int j => if divOk j then some (.int (i / j)) else none
  | _, _ => none
def xDiv (a b : XP W) : XP W := xOp (rI CDivU fun i j => .int (i / j)) divD (fun {x y d} e => by
  cases x <;> first | (cases e; done) | skip
  cases y <;> first | (cases e; done) | skip
  obtain ⟨⟨h0, h⟩, rfl⟩ := ite_some e
  refine o2_ic ?_ fun _ => .int
  rcases h with h | h
  · exact cdiv_s h0 h
  · exact cdiv_w h0 h) a b
def modD : D -> D -> Option D
  | .int i, .int j => if 0 < j then some (.int (i % j)) else none
  | _, _ => none
def xMod (a b : XP W) : XP W := xOp (rI (fun _ j => 0 < j) fun i j => .int (i % j)) modD (fun {x y d} e => by
  cases x <;> first | (cases e; done) | skip
  cases y <;> first | (cases e; done) | skip
  obtain ⟨hc, rfl⟩ := ite_some e
  exact o2_ic (hc) fun _ => .int) a b
def powOk (i j : Int) : Prop := 0 <= j /\ j <= 1000000 /\ i.natAbs < 18446744073709551616
instance (i j : Int) : Decidable (powOk i j) := by unfold powOk; infer_instance
def powD : D -> D -> Option D
  | .int i, .int j => if powOk i j then some (.int (i ^ j.toNat)) else none
  | _, _ => none
def xPow (a b : XP W) : XP W := xOp (rI CPow fun i j => .int (i ^ j.toNat)) powD (fun {x y d} e => by
  cases x <;> first | (cases e; done) | skip
  cases y <;> first | (cases e; done) | skip
  obtain ⟨hc, rfl⟩ := ite_some e
  exact o2_ic (⟨hc.1, hc.2.1, hc.2.2⟩) fun _ => .int) a b
def negD : D -> Option D
  | .int i => some (.int (-i))
  | _ => none
def xNeg (a : XP W) : XP W where
  t := tUn (rU fun i => .int (-i)) a.t
  ev env := match a.evV env with
    | some x => (negD x).map (Prod.mk .fr)
    | none => none
  snd := fun {env k d} e => by
    match e1 : a.evV env, e with
    | some x, e =>
      cases x <;> first | (cases e; done) | skip
      cases e
      exact (ae_u (g := fun i => .int (-i)) (a.sV e1) fun _ => .int).own
theorem shrs_ints {F : Hp} : ∀ ns : List Int, Shrs W F (ns.map D.int) (ns.map V.int)
  | [] => .nil
  | _ :: ns => .cons .int (shrs_ints ns)
def lstOf : D -> Option (List D)
  | .lst xs => some xs
  | .olst xs => if xs.all isSh then some xs else none
  | _ => none
theorem lstOf_ok {F H : Hp} {v : V} {L : List Addr} {xs : List D} (s : Same F H) (o : Own W F H d v L) (h : lstOf d = some xs) : ∃ a vs, v = .ref a /\ Shrs W F xs vs /\ H a = some (.lst vs) := by
  cases o with
  | sh y =>
    cases y <;> first | (cases h; done) | skip
    cases h; exact ⟨_, _, rfl, by assumption, s _ _ (by assumption)⟩
  | olst ha hs =>
    obtain ⟨hc, e⟩ := ite_some h
    cases e
    exact ⟨_, _, rfl, hs.shrs hc, ha⟩
  | odic => cases h
  | odit => cases h
  | odig => cases h
  | olf => cases h
  | oxt => cases h
  | otup => cases h
  | oins => cases h
def addD (x y : D) : Option D := match x, y with
  | .int i, .int j => some (.int (i + j))
  | .tup xs, .tup ys => if xs ≠ [] /\ xs.length + ys.length <= 1000000 then some (.tup (xs ++ ys)) else none
  | x, y => match lstOf x, lstOf y with
    | some xs, some ys => if xs.length + ys.length <= 1000000 then some (.olst (xs ++ ys)) else none
    | _, _ => none
def xAdd (a b : XP W) : XP W where
  t := tOp (fun x y H Q => rI0 (fun i j => .int (i + j)) x y H Q \/ (fun x y H Q => rCat x y H Q \/ rCatT W.K x y H Q) x y H Q) a.t b.t
  ev env := (a.evK env).bind fun x => (b.evK env).bind fun y => (addD x y).map (Prod.mk .fr)
  snd := fun {env k d} e => by
    obtain ⟨x, e1, e⟩ := Option.bind_eq_some_iff.mp e
    obtain ⟨y, e2, e⟩ := Option.bind_eq_some_iff.mp e
    obtain ⟨z, e3, e⟩ := Option.map_eq_some_iff.mp e
    cases e
    intro e' F σ H L Q r q
    refine a.sK e1 e' F σ H L _ r fun v F1 H1 x1 ⟨L1, y1⟩ => b.sK e2 e' F1 σ H1 L _ (r.ext x1) fun u F2 H2 x2 ⟨L2, y2⟩ => ?_
    have y1 : Own W F2 H2 x v L1 := y1.frame x2.f fun a _ o q => x2.h _ _ q
    have lists : ∀ {xs ys}, lstOf x = some xs -> lstOf y = some ys -> xs.length + ys.length <= 1000000 -> d = .olst (xs ++ ys) -> (fun x y H Q => rI0 (fun i j => V.int (i + j)) x y H Q \/ (fun x y H Q => rCat x y H Q \/ rCatT W.K x y H Q) x y H Q) v u H2 Q := by
      intro xs ys h1 h2 hl hz
      obtain ⟨a, vs, rfl, sa, ha⟩ := lstOf_ok x2.s y1 h1
      obtain ⟨b, ws, rfl, sb, hb⟩ := lstOf_ok x2.s y2 h2
      subst hz
      exact .inr (.inl (o2L_cat hl F2 H2 a b vs ws Q x2.s ha sa hb sb fun w F3 H3 x3 y3 => q w F3 H3 ((x1.trans x2).trans x3) (rO_back (x1.h.trans x2.h) y3)))
    unfold addD at e3
    split at e3
    · cases e3
      cases y1.shr rfl; cases y2.shr rfl
      exact .inl ⟨_, _, rfl, rfl, q _ F2 H2 (x1.trans x2) (rO_sh .int)⟩
    · obtain ⟨⟨hn, hl⟩, rfl⟩ := ite_some e3
      cases y1.shr rfl with
      | tup ha sa =>
        cases y2.shr rfl with
        | tup hb sb =>
          have z1 := sa.length
          have z2 := sb.length
          refine .inr (.inr ⟨_, _, _, _, rfl, rfl, .of (x2.s _ _ ha), .of (x2.s _ _ hb), fun z => ?_, by rw [<- z1, <- z2]; exact Nat.le_trans hl (by decide), fun z => ?_, fun z p hp => ?_⟩)
          · subst z; exact hn (List.eq_nil_of_length_eq_zero z1)
          · subst z
            have z2 := List.eq_nil_of_length_eq_zero z2
            subst z2
            refine q _ F2 H2 (x1.trans x2) ?_
            rw [List.append_nil]
            exact rO_sh (.tup ha sa)
          · exact q _ _ _ ((x1.trans x2).trans (.new x2.s hp)) (rO_sh (.tup upd_same ((sa.append sb).mono (same_new (x2.s.free hp)))))
    · rename_i hx hy
      cases h1 : lstOf x with
      | none => rw [h1] at e3; cases e3
      | some xs =>
        cases h2 : lstOf y with
        | none => rw [h1, h2] at e3; cases e3
        | some ys =>
          rw [h1, h2] at e3
          obtain ⟨hl, rfl⟩ := ite_some e3
          exact lists h1 h2 hl rfl
mutual
def okD : Nat -> D -> Bool
  | _, .non | _, .bl _ | _, .int _ | _, .str _ => true
  | n + 1, .tup xs => okDs n xs
  | n + 1, .lst xs => okDs n xs
  | _, _ => false
def okDs : Nat -> List D -> Bool
  | _, [] => true
  | n, x :: xs => okD n x && okDs n xs
end
mutual
def eqB : D -> D -> Bool
  | .non, .non => true
  | .bl a, .bl b => decide (a = b)
  | .bl a, .int j => decide ((if a then 1 else 0) = j)
  | .int i, .bl b => decide (i = if b then 1 else 0)
  | .int i, .int j => decide (i = j)
  | .str x, .str y => decide (x = y)
  | .tup xs, .tup ys => eqBs xs ys
  | .lst xs, .lst ys => eqBs xs ys
  | _, _ => false
def eqBs : List D -> List D -> Bool
  | [], [] => true
  | x :: xs, y :: ys => eqB x y && eqBs xs ys
  | _, _ => false
end
theorem okDs_all (n : Nat) : ∀ xs : List D, okDs n xs = xs.all (okD n)
  | [] => by rw [okDs]; rfl
  | x :: xs => by rw [okDs, okDs_all n xs]; rfl
theorem strOk_so (x : String) : PyData.strOk (so x) = true := by
  unfold PyData.strOk so
  rw [Str.ofString_eq_toList]
  simp only [List.all_toArray, List.all_map, List.all_eq_true, Function.comp_apply, decide_eq_true_eq]
  intro c _
  have := c.valid
  rcases this with h | h
  · have : c.toNat < 55296 := h
    omega
  · exact h.2
mutual
theorem okD_pd : ∀ {n : Nat} {d : D}, okD n d = true -> ∃ p, pd d = some p /\ p.canLay0 = true /\ p.depth <= n
  | n, .non, _ => ⟨_, by rw [pd], by rw [PyData.canLay0], by simp [PyData.depth]⟩
  | n, .bl _, _ => ⟨_, by rw [pd], by rw [PyData.canLay0], by simp [PyData.depth]⟩
  | n, .int _, _ => ⟨_, by rw [pd], by rw [PyData.canLay0], by simp [PyData.depth]⟩
  | n, .str _, h => ⟨_, by rw [pd], by rw [PyData.canLay0]; exact strOk_so _, by simp [PyData.depth]⟩
  | n + 1, .tup xs, h => by
    rw [okD] at h
    obtain ⟨ps, h1, h2, h3⟩ := okDs_pd h
    exact ⟨.tuple ps, by rw [pd, h1]; rfl, by rw [PyData.canLay0]; exact h2, by rw [PyData.depth]; omega⟩
  | n + 1, .lst xs, h => by
    rw [okD] at h
    obtain ⟨ps, h1, h2, h3⟩ := okDs_pd h
    exact ⟨.list ps, by rw [pd, h1]; rfl, by rw [PyData.canLay0]; exact h2, by rw [PyData.depth]; omega⟩
  | _, .scr _, h => by simp [okD] at h
  | 0, .tup _, h => by simp [okD] at h
  | 0, .lst _, h => by simp [okD] at h
  | _, .cls _, h => by simp [okD] at h
  | _, .sei _, h => by simp [okD] at h
  | _, .dic _ _, h => by simp [okD] at h
  | _, .dit _ _, h => by simp [okD] at h
  | _, .dig _ _, h => by simp [okD] at h
  | _, .dlf _ _ _, h => by simp [okD] at h
  | _, .xt _ _ _ _, h => by simp [okD] at h
  | _, .len _, h => by simp [okD] at h
  | _, .ins _ _ _, h => by simp [okD] at h
  | _, .olst _, h => by simp [okD] at h
  | _, .odic _ _, h => by simp [okD] at h
  | _, .odit _ _, h => by simp [okD] at h
  | _, .odig _ _, h => by simp [okD] at h
  | _, .olf _ _ _, h => by simp [okD] at h
  | _, .oxt _ _ _ _, h => by simp [okD] at h
  | _, .otup _, h => by simp [okD] at h
  | _, .oins _ _ _, h => by simp [okD] at h
theorem okDs_pd : ∀ {n : Nat} {ds : List D}, okDs n ds = true -> ∃ ps, pds ds = some ps /\ PyData.canLayAll0 ps = true /\ PyData.depthAll ps <= n
  | n, [], _ => ⟨[], by rw [pds], by rw [PyData.canLayAll0], by simp [PyData.depthAll]⟩
  | n, d :: ds, h => by
    rw [okDs, Bool.and_eq_true] at h
    obtain ⟨p, h1, h2, h3⟩ := okD_pd h.1
    obtain ⟨ps, k1, k2, k3⟩ := okDs_pd h.2
    exact ⟨p :: ps, by rw [pds, h1, k1], by rw [PyData.canLayAll0, h2, k2]; rfl, by rw [PyData.depthAll]; omega⟩
end
theorem so_eq {x y : String} : (so x == so y) = decide (x = y) := by
  by_cases h : x = y
  · subst h; simp
  · rw [beq_eq_false_iff_ne.mpr fun z => h (so_inj z), decide_eq_false h]
mutual
theorem eqB_pd : ∀ (x : D) {y : D} {p q : PyData}, pd x = some p -> pd y = some q -> eqB x y = PyData.eqv p q
  | .tup xs, y, p, q, hx, hy => by
    rw [pd] at hx
    obtain ⟨ps, h1, rfl⟩ := Option.map_eq_some_iff.mp hx
    cases y <;> (simp only [pd, reduceCtorEq, Option.some.injEq, Option.map_eq_some_iff] at hy) <;> first | (obtain ⟨qs, h2, rfl⟩ := hy) | subst hy
    all_goals first | (simp only [eqB, PyData.eqv]; done) | (simp only [eqB, PyData.eqv]; exact eqBs_pd xs h1 h2)
  | .lst xs, y, p, q, hx, hy => by
    rw [pd] at hx
    obtain ⟨ps, h1, rfl⟩ := Option.map_eq_some_iff.mp hx
    cases y <;> (simp only [pd, reduceCtorEq, Option.some.injEq, Option.map_eq_some_iff] at hy) <;> first | (obtain ⟨qs, h2, rfl⟩ := hy) | subst hy
    all_goals first | (simp only [eqB, PyData.eqv]; done) | (simp only [eqB, PyData.eqv]; exact eqBs_pd xs h1 h2)
  | .non, y, p, q, hx, hy => by
    rw [pd] at hx; cases hx
    cases y <;> (simp only [pd, reduceCtorEq, Option.some.injEq, Option.map_eq_some_iff] at hy) <;> first | (obtain ⟨qs, h2, rfl⟩ := hy) | subst hy
    all_goals first | (simp only [eqB, PyData.eqv, so_eq]; done) | (simp only [eqB, PyData.eqv]; rw [Bool.eq_iff_iff]; simp; done)
  | .bl _, y, p, q, hx, hy => by
    rw [pd] at hx; cases hx
    cases y <;> (simp only [pd, reduceCtorEq, Option.some.injEq, Option.map_eq_some_iff] at hy) <;> first | (obtain ⟨qs, h2, rfl⟩ := hy) | subst hy
    all_goals first | (simp only [eqB, PyData.eqv, so_eq]; done) | (simp only [eqB, PyData.eqv]; rw [Bool.eq_iff_iff]; simp; done)
  | .int _, y, p, q, hx, hy => by
    rw [pd] at hx; cases hx
    cases y <;> (simp only [pd, reduceCtorEq, Option.some.injEq, Option.map_eq_some_iff] at hy) <;> first | (obtain ⟨qs, h2, rfl⟩ := hy) | subst hy
    all_goals first | (simp only [eqB, PyData.eqv, so_eq]; done) | (simp only [eqB, PyData.eqv]; rw [Bool.eq_iff_iff]; simp; done)
  | .str _, y, p, q, hx, hy => by
    rw [pd] at hx; cases hx
    cases y <;> (simp only [pd, reduceCtorEq, Option.some.injEq, Option.map_eq_some_iff] at hy) <;> first | (obtain ⟨qs, h2, rfl⟩ := hy) | subst hy
    all_goals first | (simp only [eqB, PyData.eqv, so_eq]; done) | (simp only [eqB, PyData.eqv]; rw [Bool.eq_iff_iff]; simp; done)
  | .cls _, y, p, q, hx, hy => by simp [pd] at hx
  | .sei _, y, p, q, hx, hy => by simp [pd] at hx
  | .scr _, y, p, q, hx, hy => by simp [pd] at hx
  | .dic _ _, y, p, q, hx, hy => by simp [pd] at hx
  | .dit _ _, y, p, q, hx, hy => by simp [pd] at hx
  | .dig _ _, y, p, q, hx, hy => by simp [pd] at hx
  | .dlf _ _ _, y, p, q, hx, hy => by simp [pd] at hx
  | .xt _ _ _ _, y, p, q, hx, hy => by simp [pd] at hx
  | .len _, y, p, q, hx, hy => by simp [pd] at hx
  | .ins _ _ _, y, p, q, hx, hy => by simp [pd] at hx
  | .olst _, y, p, q, hx, hy => by simp [pd] at hx
  | .odic _ _, y, p, q, hx, hy => by simp [pd] at hx
  | .odit _ _, y, p, q, hx, hy => by simp [pd] at hx
  | .odig _ _, y, p, q, hx, hy => by simp [pd] at hx
  | .olf _ _ _, y, p, q, hx, hy => by simp [pd] at hx
  | .oxt _ _ _ _, y, p, q, hx, hy => by simp [pd] at hx
  | .otup _, y, p, q, hx, hy => by simp [pd] at hx
  | .oins _ _ _, y, p, q, hx, hy => by simp [pd] at hx
theorem eqBs_pd : ∀ (xs : List D) {ys : List D} {ps qs : List PyData}, pds xs = some ps -> pds ys = some qs -> eqBs xs ys = PyData.eqvAll ps qs
  | [], ys, ps, qs, hx, hy => by
    rw [pds] at hx; cases hx
    cases ys with
    | nil => rw [pds] at hy; cases hy; simp [eqBs, PyData.eqvAll]
    | cons y ys =>
      rw [pds] at hy
      split at hy
      · cases hy; simp [eqBs, PyData.eqvAll]
      · cases hy
  | x :: xs, ys, ps, qs, hx, hy => by
    rw [pds] at hx
    split at hx
    · rename_i p ps' h1 h2
      cases hx
      cases ys with
      | nil => rw [pds] at hy; cases hy; simp [eqBs, PyData.eqvAll]
      | cons y ys =>
        rw [pds] at hy
        split at hy
        · rename_i q qs' k1 k2
          cases hy
          rw [eqBs, PyData.eqvAll, eqB_pd x h1 k1, eqBs_pd xs h2 k2]
        · cases hy
    · cases hx
end
def eqD (x y : D) : Option D := if okD 60 x = true /\ okD 60 y = true then some (.bl (eqB x y)) else none
def neD (x y : D) : Option D := if okD 60 x = true /\ okD 60 y = true then some (.bl (!eqB x y)) else none
theorem okD_sh {x : D} {p : PyData} (h1 : p.canLay0 = true) (h2 : p.depth <= 60) : SeqAt.shaped p = true := by
  unfold SeqAt.shaped
  rw [h1, decide_eq_true (by omega)]; rfl
def xEq (a b : XP W) : XP W := xOp (fun x y H Q => rEq x y H Q \/ rEqD W.K x y H Q) eqD (fun {x y d} e => by
  obtain ⟨⟨h1, h2⟩, rfl⟩ := ite_some e
  obtain ⟨p, p1, p2, p3⟩ := okD_pd h1
  obtain ⟨q, q1, q2, q3⟩ := okD_pd h2
  rw [eqB_pd x p1 q1]
  exact o2_r (o2_eqD p1 q1 (okD_sh (x := x) p2 p3) (okD_sh (x := y) q2 q3))) a b
def xNe (a b : XP W) : XP W := xOp (fun x y H Q => rNe x y H Q \/ rNeD W.K x y H Q) neD (fun {x y d} e => by
  obtain ⟨⟨h1, h2⟩, rfl⟩ := ite_some e
  obtain ⟨p, p1, p2, p3⟩ := okD_pd h1
  obtain ⟨q, q1, q2, q3⟩ := okD_pd h2
  rw [eqB_pd x p1 q1]
  exact o2_r (o2_neD p1 q1 (okD_sh (x := x) p2 p3) (okD_sh (x := y) q2 q3))) a b
def intsOf : List D -> Option (List Int)
  | [] => some []
  | .int i :: ds => (intsOf ds).map (i :: ·)
  | _ => none
theorem intsOf_ok : ∀ {ds : List D} {ns : List Int}, intsOf ds = some ns -> ds = ns.map D.int
  | [], _, h => by cases h; rfl
  | .int i :: ds, ns, h => by
    obtain ⟨ms, h1, rfl⟩ := Option.map_eq_some_iff.mp h
    rw [intsOf_ok h1]; rfl
theorem shrs_int {F : Hp} : ∀ {ns : List Int} {vs : List V}, Shrs W F (ns.map D.int) vs -> vs = ns.map V.int
  | [], _, .nil => rfl
  | n :: ns, _, .cons h t => by cases h; rw [shrs_int t]; rfl
def cmpD (f : Int -> Int -> Bool) : D -> D -> Option D
  | .int i, .int j => some (.bl (f i j))
  | _, _ => none
def ltD : D -> D -> Option D
  | .int i, .int j => some (.bl (decide (i < j)))
  | .tup xs, .tup ys => (intsOf xs).bind fun ns => (intsOf ys).map fun ms => .bl (HT.lexLt ns ms)
  | _, _ => none
def xLt (a b : XP W) : XP W := xOp (fun x y H Q => rI0 (fun i j => .bl (decide (i < j))) x y H Q \/ rLtT W.K x y H Q) ltD (fun {x y d} e => by
  unfold ltD at e
  split at e
  · cases e; exact o2_l (o2_i fun _ => .bl)
  · obtain ⟨ns, h1, e⟩ := Option.bind_eq_some_iff.mp e
    obtain ⟨ms, h2, rfl⟩ := Option.map_eq_some_iff.mp e
    cases intsOf_ok h1
    cases intsOf_ok h2
    refine o2_r fun F H v1 v2 Q s a b q => ?_
    cases a with
    | tup ha sa =>
      cases b with
      | tup hb sb =>
        cases shrs_int sa
        cases shrs_int sb
        exact ⟨_, _, _, _, rfl, rfl, .of ha, .of hb, q _ F H (.refl s) (rO_sh .bl)⟩
  · cases e) a b
def xCmp (f : Int -> Int -> Bool) (a b : XP W) : XP W := xOp (rI0 fun i j => .bl (f i j)) (cmpD f) (fun {x y d} e => by
  unfold cmpD at e
  split at e
  · cases e; exact o2_i fun _ => .bl
  · cases e) a b
def xGt (a b : XP W) : XP W := xCmp (fun i j => decide (j < i)) a b
def xGe (a b : XP W) : XP W := xCmp (fun i j => decide (j <= i)) a b
def blD : D -> Option Bool
  | .bl b => some b
  | _ => none
theorem blD_ok {x : D} {b : Bool} (h : blD x = some b) : x = .bl b := by cases x <;> cases h; rfl
def XP.evB (a : XP W) (env : Py.Env) : Option Bool := (a.evV env).bind blD
theorem XP.sB (a : XP W) {b : Bool} (h : a.evB env = some b) : AE W a.t env (rV W (.bl b)) := by
  obtain ⟨x, e1, e⟩ := Option.bind_eq_some_iff.mp h
  cases blD_ok e
  exact a.sV e1
def andE (x : Option Bool) (y : Unit -> Option Bool) : Option Bool := match x with
  | some true => y ()
  | some false => some false
  | none => none
def orE (x : Option Bool) (y : Unit -> Option Bool) : Option Bool := match x with
  | some false => y ()
  | some true => some true
  | none => none
def xAnd (a b : XP W) : XP W where
  t := tAndV a.t b.t
  ev env := (andE (a.evB env) fun _ => b.evB env).map fun c => (.fr, .bl c)
  snd := fun {env k d} e => by
    obtain ⟨c, e1, e⟩ := Option.map_eq_some_iff.mp e
    cases e
    match ha : a.evB env, e1 with
    | some false, e1 => cases e1; exact (ae_andV (b := false) (a.sB ha) fun q => nomatch q).own
    | some true, e1 => exact (ae_andV (a.sB ha) fun q => b.sB e1).own
def xNot (a : XP W) : XP W where
  t := tNotV a.t
  ev env := (a.evB env).map fun c => (.fr, .bl (!c))
  snd := fun {env k d} e => by
    obtain ⟨c, e1, e⟩ := Option.map_eq_some_iff.mp e
    cases e
    exact (ae_notV (a.sB e1)).own
structure XT {T : Tbl} (W : Wd T) where
  t : TT
  ev : Py.Env -> Option Bool
  snd : ∀ {env b}, ev env = some b -> AT W t env b
def xtV (a : XP W) : XT W where
  t := tTest a.t
  ev env := a.evB env
  snd := fun e => at_test (a.sB e)
def truD : D -> Option Bool
  | .bl b => some b
  | .non => some false
  | .int i => some (decide (i ≠ 0))
  | .lst ds => some (!ds.isEmpty)
  | .tup ds => some (!ds.isEmpty)
  | _ => none
theorem isE {ds : List D} {vs : List V} {F : Hp} (b : Shrs W F ds vs) : (!ds.isEmpty) = !vs.isEmpty := by cases b <;> rfl
def xtTru (a : XP W) : XT W where
  t := fun σ H Q => a.t σ H fun x H' => ∃ k, TruV W.K x H' k /\ Q k H'
  ev env := (a.evV env).bind truD
  snd := fun {env b} e => by
    obtain ⟨x, e1, e⟩ := Option.bind_eq_some_iff.mp e
    intro e' F σ H L Q r q
    refine a.sV e1 e' F σ H L _ r fun v F1 H1 x1 y1 => ⟨b, ?_, q F1 H1 x1⟩
    cases y1 <;> first | (cases e; done) | (cases e; rfl) | skip
    · cases e
      show decide _ = (_ != 0)
      rw [Bool.eq_iff_iff]; simp
    · cases e; exact .inr (.inl ⟨_, .of (by assumption), isE (by assumption)⟩)
    · cases e; exact .inl ⟨_, .of (by assumption), isE (by assumption)⟩
def xtOr (a b : XT W) : XT W where
  t := tOr a.t b.t
  ev env := orE (a.ev env) fun _ => b.ev env
  snd := fun {env c} e => by
    match ha : a.ev env, e with
    | some true, e => cases e; exact at_or (b := false) (a.snd ha) fun q => nomatch q
    | some false, e => exact at_or (a.snd ha) fun q => b.snd e
def xtNot (a : XT W) : XT W where
  t := tNot a.t
  ev env := (a.ev env).map (!·)
  snd := fun {env c} e => by
    obtain ⟨b, e1, rfl⟩ := Option.map_eq_some_iff.mp e
    exact at_not (a.snd e1)
structure XA {T : Tbl} (W : Wd T) where
  t : TA
  evV : Py.Env -> Option (List D)
  evF : Py.Env -> Option (List D)
  sV : ∀ {env ds}, evV env = some ds -> AA W t env (rVs W ds)
  sF : ∀ {env ds}, evF env = some ds -> AA W t env (rFs W ds)
def xaNil {T : Tbl} (W : Wd T) : XA W where
  t := tNil
  evV _ := some []
  evF _ := some []
  sV := fun e => by cases e; exact aa_nilV
  sF := fun e => by cases e; exact aa_nil
def xaCons (a : XP W) (as : XA W) : XA W where
  t := tCons a.t as.t
  evV env := (a.evV env).bind fun x => (as.evV env).map (x :: ·)
  evF env := (a.evF env).bind fun x => (as.evF env).map (x :: ·)
  sV := fun {env ds} e => by
    obtain ⟨x, e1, e⟩ := Option.bind_eq_some_iff.mp e
    obtain ⟨xs, e2, rfl⟩ := Option.map_eq_some_iff.mp e
    exact aa_consV (a.sV e1) (as.sV e2)
  sF := fun {env ds} e => by
    obtain ⟨x, e1, e⟩ := Option.bind_eq_some_iff.mp e
    obtain ⟨xs, e2, rfl⟩ := Option.map_eq_some_iff.mp e
    exact aa_cons (a.sF e1) (as.sF e2)
def xTup (as : XA W) : XP W where
  t := tTup as.t
  ev env := (as.evF env).bind fun ds => if ds.length <= 1000000 then some (.fr, .tup ds) else none
  snd := fun {env k d} e => by
    obtain ⟨x, e1, e⟩ := Option.bind_eq_some_iff.mp e
    obtain ⟨h, e⟩ := ite_some e
    cases e
    exact (ae_tup (as.sF e1) h).own
def xLst (as : XA W) : XP W where
  t := tLst as.t
  ev env := (as.evF env).bind fun ds => if ds.length <= 1000000 then some (.fr, .olst ds) else none
  snd := fun {env k d} e => by
    obtain ⟨x, e1, e⟩ := Option.bind_eq_some_iff.mp e
    obtain ⟨h, e⟩ := ite_some e
    cases e
    exact ae_lst (as.sF e1) h
def xCb (r : List V -> Hp -> VK -> Prop) (f : List D -> Option D) (h : ∀ {ds d}, f ds = some d -> Cb W r ds d) (as : XA W) : XP W where
  t := tCB r as.t
  ev env := (as.evV env).bind fun ds => (f ds).map (Prod.mk .fr)
  snd := fun {env k d} e => by
    obtain ⟨x, e1, e⟩ := Option.bind_eq_some_iff.mp e
    obtain ⟨z, e2, e⟩ := Option.map_eq_some_iff.mp e
    cases e
    exact ae_cb (as.sV e1) (h e2)
def intD : List D -> Option D
  | [.int i] => some (.int i)
  | [.bl b] => some (.int (if b then 1 else 0))
  | _ => none
def xInt1 (as : XA W) : XP W := xCb (fun xs H Q => (∃ i, xs = [.int i] /\ Q (.int i) H) \/ ∃ k, xs = [.bl k] /\ Q (.int (if k then 1 else 0)) H) intD (fun {ds d} e => by
  unfold intD at e
  split at e
  · cases e; exact cb_int
  · cases e
    exact fun F H vs Q s a q => by
      cases a with
      | cons a b => cases b; cases a; exact .inr ⟨_, rfl, q _ F H (.refl s) (rO_sh .int)⟩
  · cases e) as
def absD : List D -> Option D
  | [.int i] => some (.int (if i < 0 then -i else i))
  | _ => none
def xAbs (as : XA W) : XP W := xCb (fun xs H Q => ∃ i, xs = [.int i] /\ Q (.int (if i < 0 then -i else i)) H) absD (fun {ds d} e => by
  unfold absD at e
  split at e
  · cases e; exact cb_abs
  · cases e) as
abbrev rLenA (K : PySem.W.Frag) : List V -> Hp -> VK -> Prop := fun xs H Q => (∃ p ys, xs = [.ref p] /\ (SqL K H p ys \/ SqT K H p ys) /\ Q (.int ys.length) H) \/ (∃ a kvs, xs = [V.ref a] /\ H a = some (.dK kvs) /\ Q (.int kvs.length) H)
def lenD : List D -> Option D
  | [.lst ds] => some (.int ds.length)
  | [.tup ds] => some (.int ds.length)
  | [.scr ns] => some (.int ns.length)
  | _ => none
theorem len_cb {ds : List D} {d : D} (e : lenD ds = some d) : Cb W (rLenA W.K) ds d := by
  unfold lenD at e
  split at e
  · cases e; exact cb_l cb_lenL
  · cases e; exact cb_l cb_lenT
  · cases e; exact cb_l cb_lenS
  · cases e
def xLen (as : XA W) : XP W := xCb (rLenA W.K) lenD len_cb as
def itemsD : D -> Option (List D)
  | .lst xs => some xs
  | .olst xs => some xs
  | .tup xs => some xs
  | .scr ns => some (ns.map .int)
  | _ => none
def ixD (d y : D) : Option D := match y with
  | .int i => (itemsD d).bind fun xs => atI xs i
  | _ => none
theorem Owns.get {G H : Hp} : ∀ {ds : List D} {vs : List V} {L : List Addr} {i : Nat} {d : D}, Owns W G H ds vs L -> ds[i]? = some d -> ∃ v M, vs[i]? = some v /\ Own W G H d v M
  | _, _, _, _, _, .nil, e => by simp at e
  | _, _, _, 0, _, .cons h _, e => by simp at e; subst e; exact ⟨_, _, rfl, h⟩
  | _, _, _, i + 1, _, .cons _ t, e => Owns.get (i := i) t (by simpa using e)
theorem atI_own {G H : Hp} {ds : List D} {vs : List V} {L : List Addr} {i : Int} (h : Owns W G H ds vs L) (ha : atI ds i = some d) : ∃ v M, atI vs i = some v /\ Own W G H d v M := by
  unfold atI at ha ⊢
  rw [<- h.length]
  cases e : ixN ds.length i with
  | none => rw [e] at ha; cases ha
  | some j =>
    rw [e] at ha
    exact h.get ha
theorem ixD_ok {G H : Hp} {v : V} {L : List Addr} {i : Int} {x : D} (s : Same G H) (o : Own W G H d v L) (h : ixD d (.int i) = some x) : ∃ w M, Own W G H x w M /\ ∀ Q : VK, Q w H -> rIxU W.K v (.int i) H Q := by
  obtain ⟨xs, h1, h2⟩ := Option.bind_eq_some_iff.mp h
  cases o with
  | sh y =>
    cases y <;> first | (cases h1; done) | skip
    · cases h1
      obtain ⟨w, M, e1, e2⟩ := atI_own (Shrs.owns (H := H) (shrs_ints (W := W) (F := G) _)) h2
      exact ⟨w, M, e2, fun Q q => .inl ⟨_, _, i, w, rfl, rfl, s.seq (by assumption), e1, q⟩⟩
    · cases h1
      obtain ⟨w, M, e1, e2⟩ := atI_own (Shrs.owns (H := H) (by assumption)) h2
      exact ⟨w, M, e2, fun Q q => .inr ⟨_, _, i, w, rfl, rfl, .of (s _ _ (by assumption)), e1, q⟩⟩
    · cases h1
      obtain ⟨w, M, e1, e2⟩ := atI_own (Shrs.owns (H := H) (by assumption)) h2
      exact ⟨w, M, e2, fun Q q => .inl ⟨_, _, i, w, rfl, rfl, .of (s _ _ (by assumption)), e1, q⟩⟩
  | olst ha hs =>
    cases h1
    obtain ⟨w, M, e1, e2⟩ := atI_own hs h2
    exact ⟨w, M, e2, fun Q q => .inl ⟨_, _, i, w, rfl, rfl, .of ha, e1, q⟩⟩
  | odic => cases h1
  | odit => cases h1
  | odig => cases h1
  | olf => cases h1
  | oxt => cases h1
  | otup => cases h1
  | oins => cases h1
def xIx (a b : XP W) : XP W where
  t := tOp (rIxU W.K) a.t b.t
  ev env := (a.ev env).bind fun p => (b.evV env).bind fun y => (ixD p.2 y).map p.1.of
  snd := fun {env k d} e => by
    obtain ⟨⟨k1, d1⟩, e1, e⟩ := Option.bind_eq_some_iff.mp e
    obtain ⟨y, e2, e⟩ := Option.bind_eq_some_iff.mp e
    obtain ⟨x, e3, e9⟩ := Option.map_eq_some_iff.mp e
    intro e' F σ H L Q r q
    refine a.snd e1 e' F σ H L _ r fun v F1 H1 x1 y1 => b.sV e2 e' F1 σ H1 L _ (r.ext x1) fun u F2 H2 x2 y2 => ?_
    obtain ⟨L1, o⟩ := rK_own y1
    have o2 := o.ext x2
    cases y <;> first | (cases e3; done) | skip
    cases y2
    obtain ⟨w, M, o3, c⟩ := ixD_ok (basis_same x2.s) o2 e3
    exact c _ (q w F2 H2 (x1.trans x2) (rK_of x2.s o3 e9))
def fldD (T : Tbl) (f : String) : D -> Option D
  | .ins c ns xs => if T.fOk c f = true then (pos f ns).bind fun j => xs[j]? else none
  | .oins c ns xs => if T.fOk c f = true then (pos f ns).bind fun j => xs[j]? else none
  | _ => none
theorem fldD_ok {G H : Hp} {v : V} {L : List Addr} {f : String} {x : D} (s : Same G H) (o : Own W G H d v L) (h : fldD T f d = some x) :
    ∃ a c dx fs w M, v = .ref a /\ H a = some (.ins (W.cA c) dx fs) /\ Cls W.K (W.cA c) /\ NoAttr W.K (W.cA c) (so f) /\ fs.lookup (so f) = some w /\ Own W G H x w M := by
  have gen : ∀ {c ns xs vs dx a M}, (if T.fOk c f = true then (pos f ns).bind fun j => xs[j]? else none) = some x -> H a = some (.ins (W.cA c) dx ((ns.map so).zip vs)) -> W.has c -> Owns W G H xs vs M ->
      ∃ a' c' dx fs w M, V.ref a = .ref a' /\ H a' = some (.ins (W.cA c') dx fs) /\ Cls W.K (W.cA c') /\ NoAttr W.K (W.cA c') (so f) /\ fs.lookup (so f) = some w /\ Own W G H x w M := by
    intro c ns xs vs dx a M e ha hc os
    split at e
    · rename_i hf
      obtain ⟨j, e1, e2⟩ := Option.bind_eq_some_iff.mp e
      obtain ⟨w, M', e3, o3⟩ := os.get e2
      exact ⟨a, c, dx, _, w, M', rfl, ha, W.cl c hc, W.na c f hc hf, (zip_lookup e1).trans e3, o3⟩
    · cases e
  cases o with
  | sh y =>
    cases y <;> first | (cases h; done) | skip
    exact gen h (s _ _ (by assumption)) (by assumption) (Shrs.owns (by assumption))
  | olst => cases h
  | odic => cases h
  | odit => cases h
  | odig => cases h
  | olf => cases h
  | oxt => cases h
  | otup => cases h
  | oins ha hc hl hs => exact gen h ha hc hs
def xFld (a : XP W) (f : String) : XP W where
  t := tFld W.K a.t (so f)
  ev env := (a.ev env).bind fun p => (fldD T f p.2).map p.1.of
  snd := fun {env k d} e => by
    obtain ⟨⟨k1, d1⟩, e1, e⟩ := Option.bind_eq_some_iff.mp e
    obtain ⟨x, e3, e⟩ := Option.map_eq_some_iff.mp e
    intro e' F σ H L Q r q
    refine a.snd e1 e' F σ H L _ r fun v F1 H1 x1 y1 => ?_
    obtain ⟨L1, o⟩ := rK_own y1
    obtain ⟨a, c, dx, fs, w, M, rfl, h1, h2, h3, h4, h5⟩ := fldD_ok (basis_same x1.s) o e3
    exact ⟨a, _, dx, fs, w, rfl, h1, h2, h3, h4, q w F1 H1 x1 (rK_of x1.s h5 e)⟩
def tyD : D -> Option (Bool × String)
  | .non => some (false, "NoneType")
  | .bl _ => some (false, "bool")
  | .int _ => some (false, "int")
  | .str _ => some (false, "str")
  | .lst _ => some (false, "list")
  | .tup _ => some (false, "tuple")
  | .ins c _ _ => some (true, c)
  | _ => none
def isiB (a b : String) : Bool := a == b || (a == "bool" && b == "int")
def isi1 (T : Tbl) (t c : Bool × String) : Bool := match t, c with
  | (false, a), (false, b) => isiB a b
  | (false, _), (true, _) => false
  | (true, _), (false, _) => false
  | (true, c), (true, d) => T.sub c d
def clsOk (W : Wd T) (c : Bool × String) : Prop := if c.1 = true then W.has c.2 else c.2 ∈ ["int", "bool", "str", "list", "tuple", "dict"]
def clsT (W : Wd T) (c : Bool × String) : Value := if c.1 = true then .ref (W.cA c.2) else .type c.2
def clsV (W : Wd T) (c : Bool × String) : V := if c.1 = true then .ref (W.cA c.2) else .ty c.2
theorem clsV_ok (c : Bool × String) : ClsV (clsV W c) (clsT W c) := by
  obtain ⟨b, n⟩ := c
  cases b with
  | true => exact .own _
  | false => exact .ty _
theorem kitB_ok : ∀ a ∈ ["NoneType", "bool", "int", "str", "list", "tuple", "dict"], ∀ b ∈ ["int", "bool", "str", "list", "tuple", "dict"], kitB a b = some (isiB a b) := by decide +kernel
theorem tyD_ok {F H : Hp} {v : V} {t : Bool × String} (s : Same F H) (h : Shr W F d v) (e : tyD d = some t) : TyX W.K H v (clsT W t) /\ if t.1 = true then W.has t.2 else t.2 ∈ ["NoneType", "bool", "int", "str", "list", "tuple", "dict"] := by
  cases h with
  | non => cases e; exact ⟨.base .non, by simp⟩
  | bl => cases e; exact ⟨.base (.bl _), by simp⟩
  | int => cases e; exact ⟨.base (.int _), by simp⟩
  | str => cases e; exact ⟨.base (.str _), by simp⟩
  | lst h => cases e; exact ⟨.base (.lst (s _ _ h)), by simp⟩
  | tup h => cases e; exact ⟨.base (.tup (s _ _ h)), by simp⟩
  | dic => cases e
  | dit => cases e
  | ins h hc => cases e; exact ⟨.base (.ins (s _ _ h) (W.cl _ hc) (W.isT _ hc).1 (W.isT _ hc).2.1 (W.isT _ hc).2.2.1 (W.isT _ hc).2.2.2), hc⟩
  | scr => cases e
  | cls => cases e
  | sei => cases e
  | dig => cases e
  | dlf => cases e
  | xt => cases e
  | len => cases e
theorem kit_isi {t c : Bool × String} (ht : if t.1 = true then W.has t.2 else t.2 ∈ ["NoneType", "bool", "int", "str", "list", "tuple", "dict"]) (hc : clsOk W c) : PySem.W.kitOne W.K (clsT W t) (clsT W c) = some (isi1 T t c) := by
  obtain ⟨b, n⟩ := t
  obtain ⟨b', n'⟩ := c
  cases b <;> cases b'
  · exact kit_ty (kitB_ok n ht n' hc)
  · exact W.isTO n n' ht hc
  · exact W.isOT n n' ht hc
  · exact W.isOO n n' ht hc
def xIsi (c : Bool × String) (a : XP W) : XP W where
  t := fun σ H Q => clsOk W c -> tCB (rIsi W.K) (tCons a.t (tCons (tC (clsV W c)) tNil)) σ H Q
  ev env := (a.evV env).bind fun x => (tyD x).map fun t => (.fr, .bl (isi1 T t c))
  snd := fun {env k d} e => by
    obtain ⟨x, e1, e⟩ := Option.bind_eq_some_iff.mp e
    obtain ⟨t, e2, e⟩ := Option.map_eq_some_iff.mp e
    cases e
    intro e' F σ H L Q r q hc
    refine a.sV e1 e' F σ H L _ r fun v F1 H1 x1 y1 => ?_
    obtain ⟨z1, z2⟩ := tyD_ok (Same.refl _) y1 e2
    exact ⟨_, _, _, _, _, rfl, clsV_ok c, z1, kit_isi z2 hc, q _ F1 H1 x1 (rO_sh .bl)⟩
theorem paired_cls : ∀ cs : List (Bool × String), Paired ClsV (cs.map (clsV W)) (cs.map (clsT W))
  | [] => .nil
  | c :: cs => .cons (clsV_ok c) (paired_cls cs)
def tCls {T : Tbl} (W : Wd T) : List (Bool × String) -> TA
  | [] => tNil
  | c :: cs => tCons (tC (clsV W c)) (tCls W cs)
theorem tCls_run : ∀ (cs : List (Bool × String)) (σ : St) (H : Hp) (Q : List V -> Hp -> Prop), Q (cs.map (clsV W)) H -> tCls W cs σ H Q
  | [], _, _, _, q => q
  | _ :: cs, σ, H, _, q => tCls_run cs σ H _ q
inductive Rz where
  | ok (d : D) (b : Option D) | exn (x : Exn) (b : Option D) | no
abbrev Sem := String -> List D -> Option Nat -> Rz
structure Post (F H : Hp) (L0 : List Addr) (F' H' : Hp) : Prop where
  f : Same F F'
  s : Same F' H'
  h : ∀ a o, a ∉ L0 -> H a = some o -> H' a = some o
  n : ∀ a o, F' a = some o -> F a = some o \/ H a = none \/ a ∈ L0
def bOwn {T : Tbl} (W : Wd T) (F H : Hp) (vs : List V) : Option Nat -> Option D -> List Addr -> Prop
  | some i, some d, M => ∃ v, vs[i]? = some v /\ Own W F H d v M
  | _, _, M => M = []
def spR {T : Tbl} (W : Wd T) (n : Nat) (φ : List D -> Option Nat -> Rz) (b : Option Nat) : Sp := fun vs H Q E => ∃ F args L0, Same F H /\ Owns W F H args vs L0 /\ L0.Nodup /\ (∀ a ∈ L0, F a = none) /\ args.length = n /\ φ args b ≠ .no /\
  (∀ d bd, φ args b = .ok d bd -> ∀ F' H' v M Mb, Post F H L0 F' H' -> Own W F' H' d v M -> bOwn W F' H' vs b bd Mb -> (M ++ Mb).Nodup -> (∀ a ∈ M ++ Mb, F' a = none /\ (a ∈ L0 \/ H a = none)) -> Q v H') /\
  (∀ x bd, φ args b = .exn x bd -> ∀ F' H' C dd Mb, Post F H L0 F' H' -> IsExn W F' x C dd -> bOwn W F' H' vs b bd Mb -> Mb.Nodup -> (∀ a ∈ Mb, F' a = none /\ (a ∈ L0 \/ H a = none)) -> E C dd H')
theorem spR_len {n : Nat} {φ : List D -> Option Nat -> Rz} {b : Option Nat} : ∀ vs H Q E, spR W n φ b vs H Q E -> vs.length = n := by
  rintro vs H Q E ⟨F, args, L0, _, hS, _, _, hl, _⟩
  rw [<- hS.length, hl]
theorem Post.ext {F H F' H' : Hp} (p : Post F H [] F' H') : Ext F H F' H' := ⟨p.f, p.s, fun a o h => p.h a o (by simp) h, fun a o h => (p.n a o h).elim .inl fun z => z.elim .inr fun q => nomatch q⟩
def Rz.toF : Rz -> Option (Kd × D)
  | .ok d _ => some (.fr, d)
  | _ => none
def Rz.toV : Rz -> Option (Kd × D)
  | .ok d _ => some (if isFlat d = true then (.fr, d) else (.vw, fz d))
  | _ => none
theorem Rz.toF_ok {r : Rz} {k : Kd} {d : D} (h : r.toF = some (k, d)) : k = .fr /\ ∃ b, r = .ok d b := by cases r <;> cases h; exact ⟨rfl, _, rfl⟩
theorem Rz.toV_ok {r : Rz} {k : Kd} {d : D} (h : r.toV = some (k, d)) : ∃ d0 b, r = .ok d0 b /\ ((isFlat d0 = true /\ k = .fr /\ d = d0) \/ (k = .vw /\ d = fz d0)) := by
  cases r with
  | exn => cases h
  | no => cases h
  | ok d0 b =>
    have e : some (if isFlat d0 = true then (Kd.fr, d0) else (.vw, fz d0)) = some (k, d) := h
    have e := Option.some.inj e
    split at e
    · cases e; exact ⟨_, _, rfl, .inl ⟨by assumption, rfl, rfl⟩⟩
    · cases e; exact ⟨_, _, rfl, .inr ⟨rfl, rfl⟩⟩
theorem callF {n : Nat} {φ : List D -> Option Nat -> Rz} {F H : Hp} {vs : List V} {args : List D} {Q : VK} {E : XK} {b : Option D} (s : Same F H) (h : Shrs W F args vs) (hl : args.length = n) (hφ : φ args none = .ok d b)
    (q : ∀ v F' H', Ext F H F' H' -> rO W d F' H' H v -> Q v H') : spR W n φ none vs H Q E := by
  refine ⟨F, args, [], s, h.owns, .nil, ?_, hl, ?_, fun d' bd e F' H' v M Mb p o ob nd k => ?_, fun x bd e => ?_⟩
  · exact fun a m => nomatch m
  · rw [hφ]; exact fun z => nomatch z
  rotate_left
  · rw [hφ] at e; cases e
  rw [hφ] at e; cases e
  have ob : Mb = [] := ob
  subst ob
  rw [List.append_nil] at nd k
  exact q v F' H' p.ext ⟨M, o, nd, fun a m => ⟨(k a m).2.elim (fun z => nomatch z) id, (k a m).1⟩⟩
theorem callV {n : Nat} {φ : List D -> Option Nat -> Rz} {F H : Hp} {vs : List V} {args : List D} {Q : VK} {E : XK} {b : Option D} (s : Same F H) (h : Shrs W H args vs) (hl : args.length = n) (hφ : φ args none = .ok d b)
    (q : ∀ v H', Ext F H F H' -> Shr W H' (fz d) v -> Q v H') : spR W n φ none vs H Q E :=
  callF (Same.refl H) h hl hφ fun v F' H' x ⟨L, o, _, _⟩ => q v H' ⟨Same.refl _, s.trans (x.f.trans x.s), x.h, fun _ _ z => .inl z⟩ (o.view x.s fun _ _ _ z => z)
def xCall (φ : List D -> Option Nat -> Rz) (n : Nat) (as : XA W) (dds : List D) (dvs : List V) (hd : ∀ F, Shrs W F dds dvs) : XP W where
  t := tCall (spR W n φ none) dvs E0 as.t
  ev env := match as.evF env with
    | some ds => if (ds ++ dds).length = n then (φ (ds ++ dds) none).toF else none
    | none => match as.evV env with
      | some ds => if (ds ++ dds).length = n then (φ (ds ++ dds) none).toV else none
      | none => none
  snd := fun {env k d} e => by
    match e1 : as.evF env, e with
    | some ds, e =>
      dsimp only at e
      split at e
      · rename_i hl
        obtain ⟨rfl, b, h⟩ := Rz.toF_ok e
        exact fun e' F σ H L Q r q => as.sF e1 e' F σ H L _ r fun vs F1 H1 x1 y1 => callF x1.s (y1.append (hd F1)) hl h fun v F2 H2 x2 y2 => q v F2 H2 (x1.trans x2) (rO_back x1.h y2)
      · cases e
    | none, e =>
      match e2 : as.evV env, e with
      | some ds, e =>
        dsimp only at e
        split at e
        · rename_i hl
          obtain ⟨d0, b, h, hk⟩ := Rz.toV_ok e
          refine fun e' F σ H L Q r q => as.sV e2 e' F σ H L _ r fun vs F1 H1 x1 y1 => callV x1.s (Shrs.append y1 (hd H1)) hl h fun v H2 x2 y2 => q v F1 H2 (x1.trans x2) ?_
          rcases hk with ⟨hf, rfl, rfl⟩ | ⟨rfl, rfl⟩
          · rw [fz_isSh (isSh_flat hf)] at y2
            exact rO_sh (y2.flat hf)
          · exact y2
        · cases e
structure XG {T : Tbl} (W : Wd T) where
  t : TG
  ev : List Nat -> D -> Py.Env -> Option Py.Env
  own : List Nat
  snd : ∀ {P d env env'}, ev P d env = some env' -> AG W P t d env (· = env')
  mono : ∀ {v : V} {σ : St} {H : Hp} {Q Q' : St -> Hp -> Prop}, (∀ σ H, Q σ H -> Q' σ H) -> t v σ H Q -> t v σ H Q'
  gw : ∀ {vs : List Nat}, (∀ i ∈ own, i ∈ vs) -> GW t vs
structure XGs {T : Tbl} (W : Wd T) where
  t : TGs
  ev : List Nat -> List D -> Py.Env -> Option Py.Env
  own : List Nat
  snd : ∀ {P d env env'}, ev P d env = some env' -> AGs W P t d env (· = env')
  mono : ∀ {v : List V} {σ : St} {H : Hp} {Q Q' : St -> Hp -> Prop}, (∀ σ H, Q σ H -> Q' σ H) -> t v σ H Q -> t v σ H Q'
  gw : ∀ {vs : List Nat}, (∀ i ∈ own, i ∈ vs) -> GWs t vs
def setS (P : List Nat) (i : Nat) (d : D) (env : Py.Env) : Option Py.Env := if i < env.length /\ i ∉ P then some (env.set i (some d)) else none
def xgN {T : Tbl} (W : Wd T) (i : Nat) : XG W where
  t := gName i
  ev P d env := setS P i d env
  own := [i]
  snd := fun {P d env env'} e => by
    obtain ⟨⟨h1, h2⟩, rfl⟩ := ite_some e
    exact ag_name (List.getElem?_eq_getElem h1) h2 rfl
  mono := fun h q => h _ _ q
  gw := fun h => gw_name (h i (List.mem_cons_self ..))
structure XI {T : Tbl} (W : Wd T) where
  t : TI
  evF : Py.Env -> Option (List D)
  evP : Py.Env -> Option (List D)
  sF : ∀ {env ds}, evF env = some ds -> AIt W t env ds
  sP : ∀ {env ds}, evP env = some ds -> AIp W t env ds
def guardB {α : Type} (b : Bool) (x : Option α) : Option α := match b with
  | true => x
  | false => none
theorem guardB_some {α : Type} {b : Bool} {x : Option α} {y : α} (h : guardB b x = some y) : b = true /\ x = some y := by
  cases b with
  | true => exact ⟨rfl, h⟩
  | false => cases h
def rngOk (i : Int) : Bool := Nat.ble i.natAbs 1000000000000000000
theorem rngOk_ok {i : Int} (h : rngOk i = true) : -4611686018427387904 <= i /\ i < 4611686018427387904 := by
  have h : i.natAbs <= 1000000000000000000 := Nat.le_of_ble_eq_true h
  omega
def rng1D : List D -> Option (List D)
  | [.int n] => guardB (rngOk n) (some (rangeD 0 n.toNat))
  | _ => none
theorem rng1_ok {as : XA W} {env : Py.Env} {ds : List D} (e : (as.evV env).bind rng1D = some ds) : AIt W (iRng1 as.t) env ds := by
  obtain ⟨xs, e1, e⟩ := Option.bind_eq_some_iff.mp e
  unfold rng1D at e
  split at e
  · obtain ⟨h, e⟩ := guardB_some e
    cases e
    exact ait_range (as.sV e1) (rngOk_ok h)
  · cases e
def xiR1 (as : XA W) : XI W := ⟨iRng1 as.t, fun env => (as.evV env).bind rng1D, fun env => (as.evV env).bind rng1D, rng1_ok, fun e => (rng1_ok e).p⟩
def xtYes {T : Tbl} (W : Wd T) : XT W := ⟨tYes, fun _ => some true, fun e => by cases e; exact at_yes⟩
end
end Py
namespace Py
open PySem L2
section
variable {T : Tbl} {W : Wd T} {env : Py.Env} {d d0 d1 d2 : D} {P : List Nat} {E : WX} {A : AEnds}
theorem AS.weaken {t : TS} {A' : AEnds} (h : AS W P E t env A') (nx : ∀ e, A'.nx e -> A.nx e) (rt : ∀ d e, A'.rt d e -> A.rt d e) (bk : ∀ e, A'.bk e -> A.bk e) (ct : ∀ e, A'.ct e -> A.ct e) (ex : ∀ x e, A'.ex x e -> A.ex x e) : AS W P E t env A :=
  fun e F σ H L Dn hP r s => h e F σ H L Dn hP r ⟨fun _ _ _ _ _ a => s.nx _ _ _ _ _ (nx _ a), fun _ _ _ _ _ _ _ _ a => s.rt _ _ _ _ _ _ _ _ (rt _ _ a), fun _ _ _ _ _ a => s.bk _ _ _ _ _ (bk _ a), fun _ _ _ _ _ a => s.ct _ _ _ _ _ (ct _ a), fun _ _ _ _ _ _ _ _ a => s.ex _ _ _ _ _ _ _ _ (ex _ _ a)⟩
inductive RM where
  | ok (d : D) (env : Py.Env) | exn (x : Exn) (env : Py.Env) | no
def AMr {T : Tbl} (W : Wd T) (P : List Nat) (E : WX) (t : TE) (env : Py.Env) (r : RM) : Prop := r ≠ .no ->
  ∀ (e : Ent) (F : Hp) (σ : St) (H : Hp) (L : List Addr) (Q : VK), P = e.pins.map (·.1) -> Rel W e env F σ H L ->
    (∀ d env' v F' H' L' M, r = .ok d env' -> Rel W e env' F' σ H' L' -> Own W F' H' d v M -> (M ++ L').Nodup -> (∀ a ∈ M, F' a = none /\ (a ∈ e.L0 \/ e.H0 a = none)) -> Q v H') ->
    (∀ x env' F' H' L' C dd, r = .exn x env' -> Rel W e env' F' σ H' L' -> IsExn W F' x C dd -> E C dd σ H') -> t σ H Q
structure XM {T : Tbl} (W : Wd T) where
  t : WX -> TE
  ev : List Nat -> Py.Env -> RM
  snd : ∀ P E env, AMr W P E (t E) env (ev P env)
def RM.of (o : Option D) (env : Py.Env) : RM := match o with
  | some d => .ok d env
  | none => .no
theorem RM.of_ok {o : Option D} {env : Py.Env} (h : RM.of o env ≠ .no) : ∃ d, o = some d /\ RM.of o env = .ok d env := by
  cases o with
  | none => exact absurd rfl h
  | some d => exact ⟨d, rfl, rfl⟩
def xmP (p : XP W) : XM W where
  t _ := p.t
  ev _ env := RM.of (p.evO env) env
  snd := fun P E env hn e F σ H L Q hP r c _ => by
    obtain ⟨d, e1, e2⟩ := RM.of_ok hn
    exact p.sO e1 e F σ H L Q r fun v F' H' x ⟨M, o, nd, kk⟩ => c d env v F' H' L M e2 (r.ext x) o (nodup_new (H := H) r.nd nd r.slots.lives fun a m => (kk a m).1) fun a m => ⟨(kk a m).2, r.h0 (kk a m).1⟩
theorem Rel.freeze {e : Ent} {F H : Hp} {σ : St} {L : List Addr} {i : Nat} (r : Rel W e env F σ H L) (h : getS env i = some d) :
    ∃ v F' L', σ[i]? = some (some v) /\ Rel W e (env.set i (some (fz d))) F' σ H L' /\ Shr W F' (fz d) v := by
  obtain ⟨v, Li, Lr, e1, o, sl, nd, mem⟩ := r.slots.take r.nd (getS_some h)
  obtain ⟨F', s1, s2, nw, sh⟩ := Py.freeze r.sF o fun a ha => r.dj a ((mem a).mp (.inl ha))
  rw [List.nodup_append] at nd
  have hi : i < env.length := (List.getElem?_eq_some_iff.mp (getS_some h)).1
  have sl' := sl.frame (F' := F') (H' := H) s1 fun a _ o q => q
  obtain ⟨L', t1, t2, t3⟩ := sl'.put (i := i) (v := v) (Ld := []) (.sh sh) (by simpa using nd.2.1) (by simpa using hi)
  rw [List.set_set] at t1
  have hσ : σ.set i (some v) = σ := by
    apply List.ext_getElem?
    intro k
    by_cases hk : i = k
    · subst hk
      obtain ⟨hlt, _⟩ := List.getElem?_eq_some_iff.mp e1
      rw [List.getElem?_set_self hlt, e1]
    · rw [List.getElem?_set_ne hk]
  rw [hσ] at t1
  have inr : ∀ a ∈ L', a ∈ Lr := fun a ha => (t3 a ha).elim (fun z => nomatch z) id
  refine ⟨v, F', L', e1, ⟨s2, t1, t2, fun a ha => ?_, r.s0.trans s1, fun a o q => ?_, r.fr, fun a ha => r.ln a ((mem a).mp (.inr (inr a ha))), r.pin⟩, sh⟩
  · cases q : F' a with
    | none => rfl
    | some u =>
      rcases nw a u q with z | z
      · rw [r.dj a ((mem a).mp (.inr (inr a ha)))] at z; cases z
      · exact absurd rfl (nd.2.2 a z a (inr a ha))
  · rcases nw a o q with z | z
    · exact r.nw a o z
    · exact .inr ((r.ln a ((mem a).mp (.inl z))).elim .inr .inl)
def frzS (env : Py.Env) (i : Nat) : Py.Env := match getS env i with
  | some d => env.set i (some (fz d))
  | none => env
theorem Rel.frz1 {e : Ent} {F H : Hp} {σ : St} {L : List Addr} (r : Rel W e env F σ H L) (i : Nat) : ∃ F' L', Rel W e (frzS env i) F' σ H L' := by
  unfold frzS
  cases h : getS env i with
  | none => exact ⟨F, L, r⟩
  | some d =>
    obtain ⟨_, F', L', _, r', _⟩ := r.freeze h
    exact ⟨F', L', r'⟩
theorem Rel.frzs {e : Ent} {H : Hp} {σ : St} : ∀ (is : List Nat) (env : Py.Env) (F : Hp) (L : List Addr), Rel W e env F σ H L -> ∃ F' L', Rel W e (is.foldl frzS env) F' σ H L'
  | [], _, _, _, r => ⟨_, _, r⟩
  | i :: is, env, F, L, r => by
    obtain ⟨F', L', r'⟩ := r.frz1 i
    exact Rel.frzs is _ F' L' r'
def xmVar {T : Tbl} (W : Wd T) (i : Nat) : XM W where
  t _ := tVar i
  ev _ env := match getS env i with
    | some d => .ok (fz d) (if isSh d = true then env else env.set i (some (fz d)))
    | none => .no
  snd := fun P E env hn e F σ H L Q hP r c _ => by
    match h : getS env i, hn, c with
    | some d, hn, c =>
      by_cases hs : isSh d = true
      · obtain ⟨v, M, e1, o, _⟩ := slot_get r (getS_some h)
        have sh := o.shr hs
        refine ⟨v, e1, c (fz d) env v F H L [] (by dsimp only; rw [if_pos hs]) r (by rw [fz_isSh hs]; exact .sh sh) (by simpa using r.nd) fun a m => nomatch m⟩
      · obtain ⟨v, F', L', e1, r', sh⟩ := r.freeze h
        exact ⟨v, e1, c (fz d) _ v F' H L' [] (by dsimp only; rw [if_neg hs]) r' (.sh sh) (by simpa using r'.nd) fun a m => nomatch m⟩
def xmMove {T : Tbl} (W : Wd T) (i : Nat) : XM W where
  t _ := tVar i
  ev _ env := match getS env i with
    | some d => .ok d (env.set i none)
    | none => .no
  snd := fun P E env hn e F σ H L Q hP r c _ => by
    match h : getS env i, hn, c with
    | some d, hn, c =>
      obtain ⟨v, Li, Lr, e1, o, sl, nd, mem⟩ := r.slots.take r.nd (getS_some h)
      exact ⟨v, e1, c d _ v F H Lr Li rfl ⟨r.sF, sl, (List.nodup_append.mp nd).2.1, fun a ha => r.dj a ((mem a).mp (.inr ha)), r.s0, r.nw, r.fr, fun a ha => r.ln a ((mem a).mp (.inr ha)), r.pin⟩ o nd fun a ha => ⟨r.dj a ((mem a).mp (.inl ha)), r.ln a ((mem a).mp (.inl ha))⟩⟩
structure XPl {T : Tbl} (W : Wd T) where
  t : TE
  root : Nat
  ev : Py.Env -> Option (List Pst × D)
  at_ : ∀ {env st n}, ev env = some (st, n) -> ∃ d0, env[root]? = some (some d0) /\ d0.at st = some n
  loc : ∀ {env st n}, ev env = some (st, n) -> ALoc W t env root st
def plVar {T : Tbl} (W : Wd T) (i : Nat) : XPl W where
  t := tVar i
  root := i
  ev env := (getS env i).map fun d => ([], d)
  at_ := fun {env st n} e => by
    obtain ⟨d, e1, e2⟩ := Option.map_eq_some_iff.mp e
    cases e2
    exact ⟨_, getS_some e1, rfl⟩
  loc := fun {env st n} e => by
    obtain ⟨d, e1, e2⟩ := Option.map_eq_some_iff.mp e
    cases e2
    exact loc_var
def rOs {T : Tbl} (W : Wd T) (ds : List D) : ResL := fun F H H0 vs => ∃ L, Owns W F H ds vs L /\ L.Nodup /\ ∀ a ∈ L, H0 a = none /\ F a = none
structure XO {T : Tbl} (W : Wd T) where
  t : TA
  ev : Py.Env -> Option (List D)
  snd : ∀ {env ds}, ev env = some ds -> AA W t env (rOs W ds)
def xoNil {T : Tbl} (W : Wd T) : XO W where
  t := tNil
  ev _ := some []
  snd := fun e => by cases e; exact fun e F σ H L Q r q => q [] F H (.refl r.sF) ⟨[], .nil, .nil, fun _ m => nomatch m⟩
def xoCons (a : XP W) (as : XO W) : XO W where
  t := tCons a.t as.t
  ev env := (a.evO env).bind fun x => (as.ev env).map (x :: ·)
  snd := fun {env ds} e => by
    obtain ⟨x, e1, e⟩ := Option.bind_eq_some_iff.mp e
    obtain ⟨xs, e2, rfl⟩ := Option.map_eq_some_iff.mp e
    intro e F σ H L Q r q
    refine a.sO e1 e F σ H L _ r fun v F1 H1 x1 ⟨M1, o1, n1, k1⟩ => as.snd e2 e F1 σ H1 L _ (r.ext x1) fun vs F2 H2 x2 ⟨M2, o2, n2, k2⟩ => ?_
    have nn : ∀ a ∈ M1, F2 a = none := fun a ha => by
      obtain ⟨u, hu⟩ := o1.lives a ha
      cases z : F2 a with
      | none => rfl
      | some w =>
        rcases x2.n a w z with y | y
        · rw [(k1 a ha).2] at y; cases y
        · rw [hu] at y; cases y
    refine q _ F2 H2 (x1.trans x2) ⟨M1 ++ M2, .cons (o1.frame x2.f fun a _ o q => x2.h _ _ q) o2, ?_, fun a ha => ?_⟩
    · rw [List.nodup_append]
      refine ⟨n1, n2, fun a ha b hb z => ?_⟩
      subst z
      obtain ⟨u, hu⟩ := o1.lives a ha
      rw [(k2 a hb).1] at hu; cases hu
    · rcases List.mem_append.mp ha with z | z
      · exact ⟨(k1 a z).1, nn a z⟩
      · exact ⟨x1.h.free (k2 a z).1, (k2 a z).2⟩
def Mop {T : Tbl} (W : Wd T) (r : V -> List V -> Hp -> VK -> Prop) (f : D -> List D -> Option (D × D)) : Prop :=
  ∀ {n : D} {ds : List D} {n' d : D}, f n ds = some (n', d) -> ∀ (F H : Hp) (vn : V) (Ln : List Addr) (vs : List V) (Ms : List Addr) (Q : VK), Same F H -> Own W F H n vn Ln -> Owns W F H ds vs Ms -> (Ms ++ Ln).Nodup -> (∀ a ∈ Ms ++ Ln, F a = none) ->
    (∀ F' H' v' Ln' M', Same F F' -> Same F' H' -> (∀ a o, a ∉ Ln -> H a = some o -> H' a = some o) -> (∀ a o, F' a = some o -> F a = some o \/ H a = none) -> Own W F' H' n' vn Ln' -> Own W F' H' d v' M' -> (M' ++ Ln').Nodup ->
      (∀ a ∈ M' ++ Ln', F' a = none /\ (a ∈ Ln \/ a ∈ Ms \/ H a = none)) -> Q v' H') -> r vn vs H Q
theorem am_mop {r : V -> List V -> Hp -> VK -> Prop} {f : D -> List D -> Option (D × D)} (hf : Mop W r f) {e : Ent} {F H : Hp} {σ : St} {L : List Addr} {i : Nat} {st : List Pst} {n n' d d0 : D} {v0 vn : V} {vs : List V} {ds : List D} {Ms : List Addr} {Q : VK}
    (rl : Rel W e env F σ H L) (h0 : env[i]? = some (some d0)) (h1 : d0.at st = some n) (hs : σ[i]? = some (some v0)) (hp : VPath H v0 st vn) (hz : f n ds = some (n', d)) (os : Owns W F H ds vs Ms) (nM : Ms.Nodup) (kM : ∀ a ∈ Ms, a ∉ L /\ F a = none /\ (a ∈ e.L0 \/ e.H0 a = none))
    (c : ∀ v F' H' L' M, Rel W e (env.set i (some (d0.putAt st n'))) F' σ H' L' -> Own W F' H' d v M -> (M ++ L').Nodup -> (∀ a ∈ M, F' a = none /\ (a ∈ e.L0 \/ e.H0 a = none)) -> Q v H') : r vn vs H Q := by
  obtain ⟨v0', vn', Ln, Lr, e1, p2, o, nd, mem, put⟩ := rl.focus h0 h1
  rw [hs] at e1; cases e1
  cases hp.det p2
  rw [List.nodup_append] at nd
  obtain ⟨n1, n2, n3⟩ := nd
  refine hf hz F H vn Ln vs Ms Q rl.sF o os ?_ (fun a ha => ?_) fun F' H' v' Ln' M' s1 s2 fr nw on od nd' k' => ?_
  · rw [List.nodup_append]
    exact ⟨nM, n1, fun a ha b hb z => (kM a ha).1 ((mem a).mp (.inl (z ▸ hb)))⟩
  · rcases List.mem_append.mp ha with z | z
    · exact (kM a z).2.1
    · exact rl.dj a ((mem a).mp (.inl z))
  have org : ∀ a, (a ∈ Ln \/ a ∈ Ms \/ H a = none) -> a ∉ Lr /\ (a ∈ e.L0 \/ e.H0 a = none) := fun a h => by
    rcases h with z | z | z
    · exact ⟨fun y => n3 a z a y rfl, rl.ln a ((mem a).mp (.inl z))⟩
    · exact ⟨fun y => (kM a z).1 ((mem a).mp (.inr y)), (kM a z).2.2⟩
    · refine ⟨fun y => ?_, rl.h0 z⟩
      obtain ⟨o, ho⟩ := rl.slots.lives a ((mem a).mp (.inr y))
      rw [z] at ho; cases ho
  rw [List.nodup_append] at nd'
  obtain ⟨m1, m2, m3⟩ := nd'
  obtain ⟨L', r', inL⟩ := put F' H' n' Ln' s1 s2 fr (fun a o q => (nw a o q).elim .inl fun z => .inr (.inl (.inl z))) on (by
    rw [List.nodup_append]
    exact ⟨m2, n2, fun a ha b hb z => (org a (k' a (List.mem_append_right _ ha)).2).1 (z ▸ hb)⟩) (fun a ha => ⟨(k' a (List.mem_append_right _ ha)).1, .inr (org a (k' a (List.mem_append_right _ ha)).2).2⟩)
  refine c v' F' H' L' M' r' od ?_ fun a ha => ⟨(k' a (List.mem_append_left _ ha)).1, (org a (k' a (List.mem_append_left _ ha)).2).2⟩
  rw [List.nodup_append]
  refine ⟨m1, r'.nd, fun a ha b hb z => ?_⟩
  subst z
  rcases inL a hb with y | y
  · exact m3 a ha a y rfl
  · exact (org a (k' a (List.mem_append_left _ ha)).2).1 y
end
end Py
namespace Py
open PySem L2
section
variable {T : Tbl} {W : Wd T} {env : Py.Env} {d d0 d1 d2 : D} {P : List Nat} {E : WX} {A : AEnds}
theorem Owns.append {F H : Hp} : ∀ {xs ys : List D} {vs ws : List V} {L M : List Addr}, Owns W F H xs vs L -> Owns W F H ys ws M -> Owns W F H (xs ++ ys) (vs ++ ws) (L ++ M)
  | _, _, _, _, _, _, .nil, o => o
  | _, _, _, _, _, M, .cons (L := L1) (M := M1) h t, o => by
    have q := Owns.cons h (t.append o)
    rw [<- List.append_assoc] at q
    exact q
theorem Owns.one {F H : Hp} {x : D} {vs : List V} {L : List Addr} (h : Owns W F H [x] vs L) : ∃ v, vs = [v] /\ Own W F H x v L := by
  cases h with
  | cons a b => cases b; rw [List.append_nil]; exact ⟨_, rfl, a⟩
theorem Owns.two {F H : Hp} {x y : D} {vs : List V} {L : List Addr} (h : Owns W F H [x, y] vs L) : ∃ v w L1 L2, vs = [v, w] /\ Own W F H x v L1 /\ Own W F H y w L2 /\ L = L1 ++ L2 := by
  cases h with
  | cons a b =>
    obtain ⟨w, rfl, c⟩ := b.one
    exact ⟨_, _, _, _, rfl, a, c, rfl⟩
theorem own_upd {F H : Hp} {a : Addr} {o : HO} {L : List Addr} {v : V} (h : Own W F H d v L) (n : a ∉ L) : Own W F (upd H a o) d v L := h.frame (Same.refl _) fun b hb u hu => by
  rw [upd_ne (fun z => n (by rw [<- z]; exact hb))]; exact hu
theorem owns_upd {F H : Hp} {a : Addr} {o : HO} {L : List Addr} {ds : List D} {vs : List V} (h : Owns W F H ds vs L) (n : a ∉ L) : Owns W F (upd H a o) ds vs L := h.frame (Same.refl _) fun b hb u hu => by
  rw [upd_ne (fun z => n (by rw [<- z]; exact hb))]; exact hu
theorem same_upd {F H : Hp} {a : Addr} {o : HO} (s : Same F H) (n : F a = none) : Same F (upd H a o) := fun b u hb => by
  rw [upd_ne (fun z => by rw [z, n] at hb; cases hb)]; exact s _ _ hb
theorem mop_list {F H : Hp} {a : Addr} {L : List Addr} {Ms : List Addr} {ys : List D} {ws : List V} {o : HO} {M' L2 : List Addr} {v' : V} {Q : VK} (s : Same F H) (nd : (Ms ++ (a :: L)).Nodup) (kF : ∀ b ∈ Ms ++ (a :: L), F b = none)
    (hl : o = .lst ws) (hs : Owns W F H ys ws L2) (od : Own W F H d v' M') (n2 : (M' ++ L2).Nodup) (sub : ∀ b ∈ M' ++ L2, b ∈ L \/ b ∈ Ms)
    (q : ∀ F' H' v' Ln' M', Same F F' -> Same F' H' -> (∀ b o, b ∉ a :: L -> H b = some o -> H' b = some o) -> (∀ b o, F' b = some o -> F b = some o \/ H b = none) -> Own W F' H' (.olst ys) (.ref a) Ln' -> Own W F' H' d v' M' -> (M' ++ Ln').Nodup ->
      (∀ b ∈ M' ++ Ln', F' b = none /\ (b ∈ a :: L \/ b ∈ Ms \/ H b = none)) -> Q v' H') : Q v' (upd H a o) := by
  subst hl
  rw [List.nodup_append] at nd
  obtain ⟨n3, n4, n5⟩ := nd
  rw [List.nodup_cons] at n4
  have na : ∀ b ∈ M' ++ L2, b ≠ a := fun b hb z => by
    subst z
    rcases sub _ hb with y | y
    · exact n4.1 y
    · exact n5 _ y _ (List.mem_cons_self ..) rfl
  have Fa : F a = none := kF a (List.mem_append_right _ (List.mem_cons_self ..))
  refine q F (upd H a (.lst ws)) v' (a :: L2) M' (Same.refl _) (same_upd s Fa) (fun b u hb hu => ?_) (fun b u hu => .inl hu) (.olst upd_same (owns_upd hs fun z => na a (List.mem_append_right _ z) rfl)) (own_upd od fun z => na a (List.mem_append_left _ z) rfl) ?_ (fun b hb => ?_)
  · rw [upd_ne (fun z => hb (by rw [z]; exact List.mem_cons_self ..))]; exact hu
  · rw [List.nodup_append] at n2 ⊢
    refine ⟨n2.1, List.nodup_cons.mpr ⟨fun z => na a (List.mem_append_right _ z) rfl, n2.2.1⟩, fun b hb c hc => ?_⟩
    rcases List.mem_cons.mp hc with z | z
    · rw [z]; exact na b (List.mem_append_left _ hb)
    · exact n2.2.2 b hb c z
  · rcases List.mem_append.mp hb with z | z
    · have := sub b (List.mem_append_left _ z)
      refine ⟨kF b ?_, ?_⟩
      · rcases this with y | y
        · exact List.mem_append_right _ (List.mem_cons_of_mem _ y)
        · exact List.mem_append_left _ y
      · rcases this with y | y
        · exact .inl (List.mem_cons_of_mem _ y)
        · exact .inr (.inl y)
    · rcases List.mem_cons.mp z with z | z
      · subst z; exact ⟨Fa, .inl (List.mem_cons_self ..)⟩
      · have := sub b (List.mem_append_right _ z)
        refine ⟨kF b ?_, ?_⟩
        · rcases this with y | y
          · exact List.mem_append_right _ (List.mem_cons_of_mem _ y)
          · exact List.mem_append_left _ y
        · rcases this with y | y
          · exact .inl (List.mem_cons_of_mem _ y)
          · exact .inr (.inl y)
theorem nd_swap {L M : List Addr} (h : (M ++ L).Nodup) : (L ++ M).Nodup := by
  rw [List.nodup_append] at h ⊢
  exact ⟨h.2.1, h.1, fun a ha b hb z => h.2.2 b hb a ha z.symm⟩
theorem nd_tail {a : Addr} {L M : List Addr} (h : (M ++ (a :: L)).Nodup) : (M ++ L).Nodup := by
  rw [List.nodup_append] at h ⊢
  exact ⟨h.1, (List.nodup_cons.mp h.2.1).2, fun b hb c hc => h.2.2 b hb c (List.mem_cons_of_mem _ hc)⟩
def appendD : D -> List D -> Option (D × D)
  | .olst xs, [d] => if xs.length < 1000000 then some (.olst (xs ++ [d]), .non) else none
  | _, _ => none
theorem mop_append : Mop W rAppend appendD := by
  intro n ds n' d hf F H vn Ln vs Ms Q s o os nd kF q
  unfold appendD at hf
  split at hf
  · obtain ⟨hz, e⟩ := ite_some hf
    cases e
    obtain ⟨u, rfl, o2⟩ := os.one
    cases o with
    | sh y => cases y
    | @olst a xs vs L ha hs =>
      refine ⟨a, vs, u, rfl, rfl, ha, by rw [<- hs.length]; exact Nat.lt_of_lt_of_le hz (by decide), ?_⟩
      exact mop_list s nd kF rfl (hs.append (.cons o2 .nil)) (.sh .non) (by simpa using nd_swap (nd_tail nd)) (fun b hb => by simpa using hb) q
  · cases hf
theorem Shrs.reverse {F : Hp} : ∀ {ds : List D} {vs : List V}, Shrs W F ds vs -> Shrs W F ds.reverse vs.reverse
  | _, _, .nil => .nil
  | _, _, .cons h t => by rw [List.reverse_cons, List.reverse_cons]; exact t.reverse.append (.cons h .nil)
theorem Shrs.take {F : Hp} : ∀ {ds : List D} {vs : List V} (k : Nat), Shrs W F ds vs -> Shrs W F (ds.take k) (vs.take k)
  | _, _, 0, _ => .nil
  | _, _, k + 1, .nil => .nil
  | _, _, k + 1, .cons h t => .cons h (t.take k)
theorem Shrs.drop {F : Hp} : ∀ {ds : List D} {vs : List V} (k : Nat), Shrs W F ds vs -> Shrs W F (ds.drop k) (vs.drop k)
  | _, _, 0, h => h
  | _, _, k + 1, .nil => .nil
  | _, _, k + 1, .cons h t => t.drop k
def RM.ofO : Option (D × Py.Env) -> RM
  | some (d, env) => .ok d env
  | none => .no
theorem RM.ofO_ok {o : Option (D × Py.Env)} (h : RM.ofO o ≠ .no) : ∃ d env, o = some (d, env) := by
  match o, h with
  | some (d, env), _ => exact ⟨d, env, rfl⟩
  | none, h => exact absurd rfl h
def xmBM (r : V -> List V -> Hp -> VK -> Prop) (f : D -> List D -> Option (D × D)) (hf : Mop W r f) (hl : ∀ {n ds z}, f n ds = some z -> ∃ xs, n = .olst xs) (p : XPl W) (as : XO W) : XM W where
  t _ := tBM W.K "list" r p.t as.t
  ev _ env := RM.ofO ((p.ev env).bind fun q => (as.ev env).bind fun ds => (f q.2 ds).bind fun z => (getS env p.root).map fun d0 => (z.2, env.set p.root (some (d0.putAt q.1 z.1))))
  snd := fun P E env hn e F σ H L Q hP r c _ => by
    obtain ⟨d, env', h⟩ := RM.ofO_ok hn
    rw [h] at c
    obtain ⟨⟨st, n⟩, e1, h⟩ := Option.bind_eq_some_iff.mp h
    obtain ⟨ds, e2, h⟩ := Option.bind_eq_some_iff.mp h
    obtain ⟨⟨n', d'⟩, e3, h⟩ := Option.bind_eq_some_iff.mp h
    obtain ⟨d0', e4, h⟩ := Option.map_eq_some_iff.mp h
    cases h
    obtain ⟨d0, h0, h1⟩ := p.at_ e1
    rw [getS_some e4] at h0
    cases h0
    obtain ⟨v0, _, _, _, hs, _⟩ := r.focus (getS_some e4) h1
    refine p.loc e1 e F σ H L v0 _ r hs fun v F1 H1 x1 p1 => ?_
    have r1 := r.ext x1
    refine ⟨?_, as.snd e2 e F1 σ H1 L _ r1 fun vs F2 H2 x2 ⟨M2, o2, nd2, k2⟩ => ?_⟩
    · obtain ⟨v0', vn, Ln, Lr, e5, p2, o, _⟩ := r1.focus (getS_some e4) h1
      rw [hs] at e5; cases e5
      cases p1.det p2
      obtain ⟨xs, rfl⟩ := hl e3
      cases o with
      | sh y => cases y
      | olst ha _ => exact .inl ⟨rfl, _, .of ha⟩
    · refine am_mop hf (r1.ext x2) (getS_some e4) h1 hs (p1.mono x2.h) e3 o2 nd2 (fun a ha => ⟨fun z => ?_, (k2 a ha).2, r1.h0 (k2 a ha).1⟩) fun v F' H' L' M r' o nd kk => c _ _ v F' H' L' M rfl r' o nd kk
      obtain ⟨w, hw⟩ := r1.slots.lives a z
      rw [(k2 a ha).1] at hw; cases hw
theorem lf_append {n : D} {ds : List D} {z : D × D} (h : appendD n ds = some z) : ∃ xs, n = .olst xs := by unfold appendD at h; split at h <;> first | exact ⟨_, rfl⟩ | cases h
def xmAppend (p : XPl W) (a : XP W) : XM W := xmBM rAppend appendD mop_append lf_append p (xoCons a (xoNil W))
end
end Py
namespace Py
open PySem L2
inductive RS where
  | nx (env : Py.Env) | rt (d : D) (env : Py.Env) | bk (env : Py.Env) | ct (env : Py.Env) | ex (x : Exn) (env : Py.Env) | no
def ends (r : RS) : AEnds where
  nx e := r = .nx e
  rt d e := r = .rt d e
  bk e := r = .bk e
  ct e := r = .ct e
  ex x e := r = .ex x e
section
variable {T : Tbl} {W : Wd T} {env : Py.Env} {d d0 d1 d2 : D} {P : List Nat} {E : WX} {A : AEnds}
structure XS {T : Tbl} (W : Wd T) where
  t : WX -> TS
  ev : List Nat -> Py.Env -> RS
  snd : ∀ P E env, ev P env ≠ .no -> AS W P E (t E) env (ends (ev P env))
def RS.then (r : RS) (f : Py.Env -> RS) : RS := match r with
  | .nx e => f e
  | r => r
def xsSeq (s u : XS W) : XS W where
  t E := tSeq (s.t E) (u.t E)
  ev P env := (s.ev P env).then fun e => u.ev P e
  snd := fun P E env hn => by
    have hs := s.snd P E env
    match h : s.ev P env, hn, hs with
    | .nx e1, hn, hs =>
      refine as_seq ((hs (by simp)).weaken (fun e h2 => ?_) (fun d e h2 => nomatch h2) (fun e h2 => nomatch h2) (fun e h2 => nomatch h2) fun x e h2 => nomatch h2)
      cases h2
      exact u.snd P E e1 hn
    | .rt d e1, hn, hs => exact as_seq ((hs (by simp)).weaken (fun e h2 => nomatch h2) (fun d e h2 => h2) (fun e h2 => nomatch h2) (fun e h2 => nomatch h2) fun x e h2 => nomatch h2)
    | .bk e1, hn, hs => exact as_seq ((hs (by simp)).weaken (fun e h2 => nomatch h2) (fun d e h2 => nomatch h2) (fun e h2 => h2) (fun e h2 => nomatch h2) fun x e h2 => nomatch h2)
    | .ct e1, hn, hs => exact as_seq ((hs (by simp)).weaken (fun e h2 => nomatch h2) (fun d e h2 => nomatch h2) (fun e h2 => nomatch h2) (fun e h2 => h2) fun x e h2 => nomatch h2)
    | .ex x e1, hn, hs => exact as_seq ((hs (by simp)).weaken (fun e h2 => nomatch h2) (fun d e h2 => nomatch h2) (fun e h2 => nomatch h2) (fun e h2 => nomatch h2) fun x e h2 => h2)
    | .no, hn, hs => exact absurd rfl hn
def xsNext {T : Tbl} (W : Wd T) : XS W := ⟨fun _ => tNext, fun _ env => .nx env, fun _ _ _ _ => as_next rfl⟩
def RM.thenS (r : RM) (f : D -> Py.Env -> RS) : RS := match r with
  | .ok d e => f d e
  | .exn x e => .ex x e
  | .no => .no
theorem AMr.run {t : TE} {r : RM} (h : AMr W P E t env r) (hn : r ≠ .no) {e : Ent} {F H : Hp} {σ : St} {L : List Addr} {Q : VK} {Dn : Ends} (hP : P = e.pins.map (·.1)) (rl : Rel W e env F σ H L) (s : Sat W e E A Dn) (hx : ∀ x e1, r = .exn x e1 -> A.ex x e1)
    (c : ∀ d env' v F' H' L' M, r = .ok d env' -> Rel W e env' F' σ H' L' -> Own W F' H' d v M -> (M ++ L').Nodup -> (∀ a ∈ M, F' a = none /\ (a ∈ e.L0 \/ e.H0 a = none)) -> Q v H') : t σ H Q :=
  h hn e F σ H L Q hP rl c fun x env' F' H' L' C dd hr r' ie => s.ex x env' F' σ H' L' C dd (hx _ _ hr) r' ie
def RS.ofO : Option Py.Env -> RS
  | some e => .nx e
  | none => .no
def xsAsg (i : Nat) (m : XM W) : XS W where
  t E := tAsg (m.t E) (gName i)
  ev P env := (m.ev P env).thenS fun d e => RS.ofO (setS P i d e)
  snd := fun P E env hn e F σ H L Dn hP r s => by
    have hm : m.ev P env ≠ .no := fun z => hn (by rw [z]; rfl)
    refine (m.snd P E env).run hm hP r s (fun x e1 h => by rw [h]; rfl) fun d env' v F' H' L' M h r' o nd kk => ?_
    rw [h] at hn s
    have hn : RS.ofO (setS P i d env') ≠ .no := hn
    cases h2 : setS P i d env' with
    | none => rw [h2] at hn; exact absurd rfl hn
    | some e2 =>
      obtain ⟨⟨h3, h4⟩, rfl⟩ := ite_some h2
      obtain ⟨L2, r2⟩ := r'.set (i := i) o nd kk h3 fun p hm z => h4 (by rw [hP]; exact List.mem_map.mpr ⟨p, hm, z⟩)
      exact s.nx _ _ _ _ _ (show RS.ofO (setS P i d env') = .nx _ by rw [h2]; rfl) r2
def xsExpr (m : XM W) : XS W where
  t E := tDrop (m.t E)
  ev P env := (m.ev P env).thenS fun _ e => .nx e
  snd := fun P E env hn e F σ H L Dn hP r s => by
    have hm : m.ev P env ≠ .no := fun z => hn (by rw [z]; rfl)
    refine (m.snd P E env).run hm hP r s (fun x e1 h => by rw [h]; rfl) fun d env' v F' H' L' M h r' o nd kk => ?_
    rw [h] at s
    exact s.nx _ _ _ _ _ rfl r'
def xsRet (m : XM W) : XS W where
  t E := tRet (m.t E)
  ev P env := (m.ev P env).thenS fun d e => .rt d e
  snd := fun P E env hn e F σ H L Dn hP r s => by
    have hm : m.ev P env ≠ .no := fun z => hn (by rw [z]; rfl)
    refine (m.snd P E env).run hm hP r s (fun x e1 h => by rw [h]; rfl) fun d env' v F' H' L' M h r' o nd kk => ?_
    rw [h] at s
    exact s.rt _ _ _ _ _ _ _ _ rfl r' o nd kk
def iteR (b : Option Bool) (s u : RS) : RS := match b with
  | some true => s
  | some false => u
  | none => .no
def xsIf (c : XT W) (s u : XS W) : XS W where
  t E := tIfS c.t (s.t E) (u.t E)
  ev P env := iteR (c.ev env) (s.ev P env) (u.ev P env)
  snd := fun P E env hn => by
    match h : c.ev env, hn with
    | some true, hn => exact as_if (c.snd h) (fun _ => s.snd P E env hn) fun z => nomatch z
    | some false, hn => exact as_if (c.snd h) (fun z => nomatch z) fun _ => u.snd P E env hn
    | none, hn => exact absurd rfl hn
def xsFrz (is : List Nat) (s : XS W) : XS W where
  t := s.t
  ev P env := s.ev P (is.foldl frzS env)
  snd := fun P E env hn e F σ H L Dn hP r h => by
    obtain ⟨F', L', r'⟩ := Rel.frzs is env F L r
    exact s.snd P E _ hn e F' σ H L' Dn hP r' h
def forL (f : D -> Py.Env -> RS) : List D -> Py.Env -> RS
  | [], env => .nx env
  | d :: ds, env => match f d env with
    | .nx e => forL f ds e
    | .ct e => forL f ds e
    | .bk e => .nx e
    | r => r
def xsFor (it : XI W) (g : XG W) (b : XS W) : XS W where
  t E := tFor it.t g.t (b.t E)
  ev P env := match it.evF env with
    | some ds => forL (fun d e => match g.ev P d e with | some e2 => b.ev P e2 | none => .no) ds env
    | none => .no
  snd := fun P E env hn => by
    match h : it.evF env, hn with
    | some ds, hn =>
      have hn : forL (fun d e => match g.ev P d e with | some e2 => b.ev P e2 | none => .no) ds env ≠ .no := hn
      show AS W P E _ env (ends (forL (fun d e => match g.ev P d e with | some e2 => b.ev P e2 | none => .no) ds env))
      generalize hr : forL (fun d e => match g.ev P d e with | some e2 => b.ev P e2 | none => .no) ds env = r at hn ⊢
      refine as_for (it.sF h) (fun i e => forL (fun d e => match g.ev P d e with | some e2 => b.ev P e2 | none => .no) (ds.drop i) e = r) (by rw [List.drop_zero]; exact hr) (fun i d e' hd hi => ?_) fun e' he => ?_
      · rw [List.drop_eq_getElem?_toList_append, hd] at hi
        have hi : forL (fun d e => match g.ev P d e with | some e2 => b.ev P e2 | none => .no) (d :: ds.drop (i + 1)) e' = r := hi
        unfold forL at hi
        cases h1 : g.ev P d e' with
        | none => rw [h1] at hi; exact absurd hi.symm hn
        | some e2 =>
          rw [h1] at hi
          intro e0 F σ H L v Q hP rl sh q
          refine g.snd h1 e0 F σ H L v Q hP rl sh fun env3 σ2 L2 z r3 => q env3 σ2 L2 ?_ r3
          subst z
          have hb := b.snd P E env3
          dsimp only at hi
          match h2 : b.ev P env3, hb, hi with
          | .nx e3, hb, hi => exact (hb (by simp)).weaken (fun e h => by cases h; exact hi) (fun d e h => nomatch h) (fun e h => nomatch h) (fun e h => nomatch h) fun x e h => nomatch h
          | .ct e3, hb, hi => exact (hb (by simp)).weaken (fun e h => nomatch h) (fun d e h => nomatch h) (fun e h => nomatch h) (fun e h => by cases h; exact hi) fun x e h => nomatch h
          | .bk e3, hb, hi => exact (hb (by simp)).weaken (fun e h => nomatch h) (fun d e h => nomatch h) (fun e h => by cases h; exact hi.symm) (fun e h => nomatch h) fun x e h => nomatch h
          | .rt d3 e3, hb, hi => exact (hb (by simp)).weaken (fun e h => nomatch h) (fun d e h => by cases h; exact hi.symm) (fun e h => nomatch h) (fun e h => nomatch h) fun x e h => nomatch h
          | .ex x3 e3, hb, hi => exact (hb (by simp)).weaken (fun e h => nomatch h) (fun d e h => nomatch h) (fun e h => nomatch h) (fun e h => nomatch h) fun x e h => by cases h; exact hi.symm
          | .no, hb, hi => exact absurd hi.symm hn
      · rw [List.drop_length] at he
        exact he.symm
    | none, hn => exact absurd rfl hn
def env0 (N : Nat) (args : List D) : Py.Env := args.map some ++ List.replicate (N - args.length) none
def bGet (b : Option Nat) (env : Py.Env) : Option (Option D) := match b with
  | none => some none
  | some i => (getS env i).map some
def runR (b : Option Nat) (r : RS) : Rz := match r with
  | .rt d env => match bGet b env with
    | some x => .ok d x
    | none => .no
  | .nx env => match bGet b env with
    | some x => .ok .non x
    | none => .no
  | .ex x env => match bGet b env with
    | some y => .exn x y
    | none => .no
  | _ => .no
def runFn (N : Nat) (s : XS W) (args : List D) (b : Option Nat) : Rz := runR b (s.ev b.toList (env0 N args))
theorem slots_startO {F H : Hp} : ∀ {ds : List D} {vs : List V} {L : List Addr} (k : Nat), Owns W F H ds vs L -> Slots W F H (ds.map some ++ List.replicate k none) (vs.map some ++ List.replicate k none) L
  | [], [], _, 0, .nil => .nil
  | [], [], _, k + 1, .nil => .no (slots_startO k .nil)
  | _ :: _, _ :: _, _, k, .cons h t => Slots.so h (slots_startO k t)
theorem fn_run {n : Nat} {N : List Str} {s : XS W} {b : Option Nat} (hb : ∀ i, b = some i -> i < n) {vs : List V} {H : Hp} {Q : VK} {E : XK} (hsp : spR W n (runFn N.length s) b vs H Q E) :
    s.t (fun c d _ H => E c d H) { nx := fun _ H' => Q .non H', rt := Q } (L2.start N vs) H := by
  obtain ⟨F, args, L0, sF, os, nd, kF, hl, hn, ok, exn⟩ := hsp
  have hlen : vs.length = args.length := os.length.symm
  obtain ⟨pins, hp1, hp2⟩ : ∃ pins : List (Nat × V), b.toList = pins.map (·.1) /\ ∀ p ∈ pins, vs[p.1]? = some p.2 := by
    cases b with
    | none => exact ⟨[], rfl, fun _ h => nomatch h⟩
    | some i =>
      have hi : i < vs.length := by have := hb i rfl; omega
      exact ⟨[(i, vs[i])], rfl, fun p h => by rw [List.mem_singleton.mp h]; exact List.getElem?_eq_getElem hi⟩
  have hr : Rel W ⟨F, H, L0, pins⟩ (env0 N.length args) F (L2.start N vs) H L0 := {
    sF := sF
    slots := by unfold L2.start env0; rw [hlen]; exact slots_startO _ os
    nd := nd
    dj := kF
    s0 := Same.refl _
    nw := fun _ _ h => .inl h
    fr := fun _ _ _ h => h
    ln := fun _ m => .inl m
    pin := fun p m => by
      have h := hp2 p m
      have hlt := (List.getElem?_eq_some_iff.mp h).1
      unfold L2.start
      rw [List.getElem?_append_left (by rw [List.length_map]; exact hlt), List.getElem?_map, h]; rfl }
  have hne : s.ev b.toList (env0 N.length args) ≠ .no := fun z => hn (by unfold runFn; rw [z]; rfl)
  have post : ∀ {env' : Py.Env} {F' : Hp} {σ' : St} {H' : Hp} {L' : List Addr}, Rel W ⟨F, H, L0, pins⟩ env' F' σ' H' L' -> Post F H L0 F' H' := fun r =>
    ⟨r.s0, r.sF, r.fr, r.nw⟩
  have bor : ∀ {env' : Py.Env} {F' : Hp} {σ' : St} {H' : Hp} {L' : List Addr} {x : Option D}, bGet b env' = some x -> Rel W ⟨F, H, L0, pins⟩ env' F' σ' H' L' -> ∃ Mb, bOwn W F' H' vs b x Mb /\ Mb.Nodup /\ ∀ a ∈ Mb, a ∈ L' := by
    intro env' F' σ' H' L' x hx r
    cases b with
    | none => exact ⟨[], by cases hx; rfl, .nil, fun _ h => nomatch h⟩
    | some i =>
      obtain ⟨d, e1, e2⟩ := Option.map_eq_some_iff.mp hx
      subst e2
      obtain ⟨v, Li, Lr, h1, o, _, nd', mem⟩ := r.slots.take r.nd (getS_some e1)
      obtain ⟨v', hm⟩ : ∃ v', (i, v') ∈ pins := by
        have : i ∈ pins.map (·.1) := by rw [<- hp1]; simp
        obtain ⟨⟨j, v'⟩, h2, h3⟩ := List.mem_map.mp this
        cases h3; exact ⟨v', h2⟩
      have h4 := r.pin _ hm
      rw [h1] at h4
      cases h4
      exact ⟨Li, ⟨_, hp2 _ hm, o⟩, (List.nodup_append.mp nd').1, fun a h => (mem a).mp (.inl h)⟩
  have run := s.snd b.toList (fun c d _ H => E c d H) (env0 N.length args) hne ⟨F, H, L0, pins⟩ F (L2.start N vs) H L0 { nx := fun _ H' => Q .non H', rt := Q } hp1 hr
  have hn' : runR b (s.ev b.toList (env0 N.length args)) ≠ .no := hn
  have ok' : ∀ d bd, runR b (s.ev b.toList (env0 N.length args)) = .ok d bd -> _ := ok
  have exn' : ∀ x bd, runR b (s.ev b.toList (env0 N.length args)) = .exn x bd -> _ := exn
  generalize s.ev b.toList (env0 N.length args) = res at run hn' ok' exn'
  refine run ⟨fun env' F' σ' H' L' a r => ?_, fun d env' F' σ' H' L' v M a r o nd2 kk => ?_, fun env' F' σ' H' L' a r => ?_, fun env' F' σ' H' L' a r => ?_, fun x env' F' σ' H' L' C dd a r ie => ?_⟩
  · cases a
    cases hbg : bGet b env' with
    | none => exact absurd (show runR b (.nx env') = .no by unfold runR; simp only [hbg]) hn'
    | some x =>
      obtain ⟨Mb, ob, nb, sb⟩ := bor hbg r
      exact ok' .non x (by unfold runR; simp only [hbg]) F' H' .non [] Mb (post r) (.sh .non) ob (by simpa using nb) fun a ha => ⟨r.dj a (sb a (by simpa using ha)), r.ln a (sb a (by simpa using ha))⟩
  · cases a
    cases hbg : bGet b env' with
    | none => exact absurd (show runR b (.rt d env') = .no by unfold runR; simp only [hbg]) hn'
    | some x =>
      obtain ⟨Mb, ob, nb, sb⟩ := bor hbg r
      rw [List.nodup_append] at nd2
      refine ok' d x (by unfold runR; simp only [hbg]) F' H' v M Mb (post r) o ob ?_ fun a ha => ?_
      · rw [List.nodup_append]
        exact ⟨nd2.1, nb, fun a ha c hc => nd2.2.2 a ha c (sb c hc)⟩
      · rcases List.mem_append.mp ha with z | z
        · exact kk a z
        · exact ⟨r.dj a (sb a z), r.ln a (sb a z)⟩
  · cases a; exact absurd rfl hn'
  · cases a; exact absurd rfl hn'
  · cases a
    cases hbg : bGet b env' with
    | none => exact absurd (show runR b (.ex x env') = .no by unfold runR; simp only [hbg]) hn'
    | some y =>
      obtain ⟨Mb, ob, nb, sb⟩ := bor hbg r
      exact exn' x y (by unfold runR; simp only [hbg]) F' H' C dd Mb (post r) ie ob nb fun a ha => ⟨r.dj a (sb a ha), r.ln a (sb a ha)⟩
end
end Py
namespace L2
open PySem PySem.SeqAt PySem.W PySem.Calls PyProof.Rows
section
variable {A : Around} {s : Shared}
end
section
variable {prog : Program} {w : World} {A : Around} {E : Value -> Shared -> Prop} {s : Shared}
end
section
variable {M : Model} {A : Around} {E : Value -> Shared -> Prop} {s : Shared}
end
section
variable {prog : Program} {w : World} {A : Around} {s : Shared}
end
section
variable {prog : Program} {w : World} {A : Around} {E : Value -> Shared -> Prop} {s : Shared} {β : Type} {vs : List Value} {bs : List β} {enc : β -> PyData} {R : Value -> β -> Prop}
end
end L2
namespace L2
open PySem PySem.Spec PyProof.Rows
theorem DpAll.len {K : PySem.W.Frag} {H : Hp} : ∀ {xs : List V} {ds : List PyData}, DpAll K H xs ds -> xs.length = ds.length
  | _, _, .nil => rfl
  | _, _, .cons _ t => by rw [List.length_cons, List.length_cons, DpAll.len t]
section
variable {X : Cx} {pins : List (Addr × Obj)} {σ : St} {H : Hp} {s : Shared}
theorem zip_snd {xs : List V} {ds : List PyData} (h : xs.length = ds.length) : (xs.zip ds).map Prod.snd = ds := List.map_snd_zip (by omega)
end
end L2
namespace Py
open PySem L2
section
variable {T : Tbl} {W : Wd T} {env : Py.Env} {β : Type} {enc : β -> D} {dat : β -> PyData}
end
end Py
namespace Py
open PySem L2
structure Blt (mg : Str -> Option Value) : Prop where
  len : mg "len" = none
  range : mg "range" = none
  abs : mg "abs" = none
  int : mg "int" = none
  bool : mg "bool" = none
  str : mg "str" = none
  list : mg "list" = none
  tuple : mg "tuple" = none
  isinstance : mg "isinstance" = none
  sorted : mg "sorted" = none
  enumerate : mg "enumerate" = none
  zip : mg "zip" = none
  sum : mg "sum" = none
  any : mg "any" = none
  all : mg "all" = none
  max : mg "max" = none
  min : mg "min" = none
  dict : mg "dict" = none
  set : mg "set" = none
  type : mg "type" = none
  iter : mg "iter" = none
  super : mg "super" = none
structure DefAt (K : PySem.W.Frag) (mg : Str -> Option Value) (x qual : Str) (st : Stmt) (dvs : List V) (kws : List (Str × V)) : Prop where
  ex : ∃ f fd, FunD K x qual (defArgs st) (defBody st) (defScope st) dvs kws f fd /\ mg x = some (.ref f)
def BindsP (x qual : Str) (st : Stmt) (ps : List Str) : Prop := ∀ (kV doc pm : Value) (an : Option Addr) (cdv ct : Value) (us : List Value), us.length = ps.length -> bindArgs (PySem.W.fnOf x qual (defArgs st) (defBody st) (defScope st) .none kV doc pm an cdv ct) ⟨us, []⟩ = pure (ps.zip us)
structure Df (P : Program) (w : World) (K : PySem.W.Frag) (mg : Str -> Option Value) (base : Heap) (CX : CXT) (k : Nat) (x : Str) (ps : List Str) (sp : Sp) : Prop where
  ex : ∃ f fd, FnOk P w K mg base CX k f fd ps sp /\ mg x = some (.ref f) /\ PySem.W.keepIn K (.ref f) = true /\ Binds K fd ps []
section
variable {P : Program} {w : World} {K : PySem.W.Frag} {mg : Str -> Option Value} {base : Heap}
theorem df_of {x qual : Str} {st : Stmt} {N ps : List Str} {k : Nat} {sp : Sp} (D : DefAt K mg x qual st [] []) (S : FnScope N ps (defScope st)) (bp : BindsP x qual st ps) (len : ∀ vs H Q E, sp vs H Q E -> vs.length = ps.length)
    (hbody : ∀ (f : Addr) (cdv : Value) (A : Around) (outer : List PySem.Env) (s : Shared) (H : Hp) (vs : List V) (Q : VK) (E : XK), Room k (A.deeper (PyProof.Rows.envOfC qual (defScope st) s.heap.objs.size f cdv)) -> sp vs H Q E ->
      ∃ t, PSs (cxOf (L2.CX P w) P w K mg base N qual (defScope st) f cdv A outer s H E) (defBody st) t /\ t { nx := fun _ H' => Q .non H', rt := Q } (L2.start N vs) H) : Df P w K mg base (L2.CX P w) (k + 1) x ps sp := by
  obtain ⟨f, fd, F, hm⟩ := D.ex
  refine ⟨f, fd, F.ok S len fun cdv A outer s H vs Q E hr h => ?_, hm, F.kp, F.bindsN bp⟩
  obtain ⟨t, q1, q2⟩ := hbody f cdv A outer s H vs Q E hr h
  exact ⟨t, q1, q2⟩
theorem lw_of {x qual : Str} {st : Stmt} {N ps : List Str} {k : Nat} {sp : Sp} {f : Addr} {fd : FuncData} (F : FunD K x qual (defArgs st) (defBody st) (defScope st) [] [] f fd) (S : FnScope N ps (defScope st)) (len : ∀ vs H Q E, sp vs H Q E -> vs.length = ps.length)
    (hbody : ∀ (f : Addr) (cdv : Value) (A : Around) (outer : List PySem.Env) (s : Shared) (H : Hp) (vs : List V) (Q : VK) (E : XK), Room k (A.deeper (PyProof.Rows.envOfC qual (defScope st) s.heap.objs.size f cdv)) -> sp vs H Q E ->
      ∃ t, PSs (cxOf CX0 P w K mg base N qual (defScope st) f cdv A outer s H E).nox (defBody st) t /\ t { nx := fun _ H' => Q .non H', rt := Q } (L2.start N vs) H) : FnOk P w K mg base CX0 (k + 1) f fd ps sp := by
  refine F.ok S len fun cdv A outer s H vs Q E hr h => ?_
  obtain ⟨t, q1, q2⟩ := hbody f cdv A outer s H vs Q E hr h
  exact ⟨t, q1.nox, q2⟩
theorem passE0 {X : Cx} : Passes (L2.CX X.prog X.w) X E0 := fun _ _ _ _ _ _ _ h => by
  obtain ⟨_, _, _, _, _, _, _, _, _, _, _, _, z⟩ := h
  exact z.elim
theorem px_call {X : Cx} {k : Nat} {x : Str} {ps : List Str} {sp : Sp} {p pos : Pos} {e : Expr} {es : List Expr} {t : TA} (D : Df X.prog X.w X.K X.mg X.base (L2.CX X.prog X.w) k x ps sp) (hr : Room k X.A) (hg : Gl X x)
    (ha : PA X (e :: es) t) (hdb : (x == ("__debug__" : Str)) = false := by decide) (he : starEach (e :: es) X.env = (false, eval e X.env) :: starEach es X.env := by rfl) (hpl : (backTo pos (starEach es X.env)).any (·.1) = false := by rfl) :
    PE X (.Call (.Name x p) (e :: es) [] pos) (tCall sp [] E0 t) := by
  obtain ⟨f, fd, F, hm, hk, hb⟩ := D.ex
  exact pe_call F hr hg hm hk hb .nil passE0 ha hdb he hpl
def gK {α : Type} (n m : Nat) (us ws : List α) : List α := if us.length = n /\ ws.length = m then us ++ ws else []
structure DfK (P : Program) (w : World) (K : PySem.W.Frag) (mg : Str -> Option Value) (base : Heap) (CX : CXT) (k : Nat) (x : Str) (ps ks : List Str) (n : Nat) (sp : Sp) : Prop where
  ex : ∃ f fd, FnOk P w K mg base CX k f fd ps sp /\ mg x = some (.ref f) /\ PySem.W.keepIn K (.ref f) = true /\ KBinds K fd ps ks (gK n ks.length) (gK n ks.length)
end
section
variable {X : Cx} {T : Tbl} {W : Wd T}
theorem call_lenA : CallR X (.builtin "len") (rLenA X.K) := CallR.or call_lenU call_lenD
theorem pe_imp {e : Expr} {t : TE} {c : Prop} (hc : c) (h : PE X e t) : PE X e (fun σ H Q => c -> t σ H Q) := ⟨fun pins s σ H Q I q => h.run pins s σ H Q I (q hc)⟩
theorem px_isi {a : Expr} {ta : TE} {c : Str} {n : String} {p1 p2 pos : Pos} (hm : X.mg "isinstance" = none) (hmc : X.mg c = none) (ha : PE X a ta) (hk : n ∈ ["int", "bool", "str", "list", "tuple", "dict"] := by decide) (hg : Gl X "isinstance" := by rfl) (hgc : Gl X c := by rfl)
    (hb : bootBuiltins c = some (.type n) := by decide +kernel) (hn : c ≠ "__name__" := by decide) (hd : (c == ("__debug__" : Str)) = false := by decide)
    (hs : starEach [a, .Name c p2] X.env = (false, eval a X.env) :: starEach [.Name c p2] X.env := by rfl) (hs2 : starEach [.Name c p2] X.env = (false, eval (.Name c p2) X.env) :: starEach [] X.env := by rfl)
    (hpl : (backTo pos (starEach [.Name c p2] X.env)).any (·.1) = false := by rfl) :
    PE X (.Call (.Name "isinstance" p1) [a, .Name c p2] [] pos) (fun σ H Q => clsOk W (false, n) -> tCB (rIsi X.K) (tCons ta (tCons (tC (clsV W (false, n))) tNil)) σ H Q) :=
  pe_imp hk (pe_callB call_isi hg hm (by decide +kernel) (pa_cons ha (pa_cons (pe_bltn hgc hc' hb rfl hn hd) pa_nil hs2) hs) (he := hs) (hpl := hpl))
where hc' := hmc
end
theorem df_no {P : Program} {w : World} {K : PySem.W.Frag} {mg : Str -> Option Value} {base : Heap} {x qual : Str} {st : Stmt} {ps : List Str} {k : Nat} (D : DefAt K mg x qual st [] []) (bp : BindsP x qual st ps) {sp : Sp} (h : ∀ vs H Q E, ¬ sp vs H Q E) : Df P w K mg base (L2.CX P w) k x ps sp := by
  obtain ⟨f, fd, F, hm⟩ := D.ex
  exact ⟨f, fd, ⟨fun vs H Q E z => absurd z (h vs H Q E), fun A outer s H args us vs Q E _ _ _ _ z => absurd z (h vs H Q E)⟩, hm, F.kp, F.bindsN bp⟩
theorem spR_no {T : Tbl} {W : Wd T} {n : Nat} {b : Option Nat} : ∀ vs H Q E, ¬ spR W n (fun _ _ => .no) b vs H Q E := fun vs H Q E ⟨_, _, _, _, _, _, _, _, h, _⟩ => h rfl
def semT (tbl : String -> Option (Sem -> List D -> Option Nat -> Rz)) : Nat -> Sem
  | 0 => fun _ _ _ => .no
  | k + 1 => fun f args b => match tbl f with
    | some g => g (semT tbl k) args b
    | none => .no
def spL (K : PySem.W.Frag) : Sp := fun vs H Q _ => ∃ (a : Addr) (ns : List Int), vs = [.ref a] /\ SqL K H a (ns.map V.int) /\ ns.length <= 63 /\ ∀ H', Q (.bl true) H'
theorem spL_in {K : PySem.W.Frag} {H : Hp} {a : Addr} {ns : List Int} (hl : ns.length <= 63) (hS : SqL K H a (ns.map V.int)) : spL K [.ref a] H (fun v _ => v = .bl true) fun _ _ _ => False := ⟨a, ns, rfl, hS, hl, fun _ => rfl⟩
theorem spL_spR {T : Tbl} {W : Wd T} {φ : List D -> Option Nat -> Rz} (h : ∀ ns : List Int, ns.length <= 63 -> φ [.scr ns] none = .ok (.bl true) none) : ∀ vs H Q E, spL W.K vs H Q E -> spR W 1 φ none vs H Q E := by
  rintro vs H Q E ⟨a, ns, rfl, hS, hl, q⟩
  refine callF (Same.refl H) (.cons (.scr hS) .nil) rfl (h ns hl) fun v F' H' x ⟨L, o, _, _⟩ => ?_
  cases o.shr rfl
  exact q H'
section
variable {T : Tbl} {W : Wd T}
end
end Py
namespace Py
open PySem L2
theorem pe_alt {X : Cx} {e : Expr} {t1 t2 : TE} (h1 : PE X e t1) (h2 : PE X e t2) : PE X e (fun σ H Q => t1 σ H Q \/ t2 σ H Q) :=
  ⟨fun pins s σ H Q I h => h.elim (h1.run pins s σ H Q I) (h2.run pins s σ H Q I)⟩
theorem lookup_zip_none {m : String} : ∀ {ns : List String} {vs : List V}, pos m ns = none -> ((ns.map so).zip vs).lookup (so m) = none
  | [], _, _ => by simp
  | n :: ns, [], _ => by simp
  | n :: ns, v :: vs, h => by
    have h : (if n = m then some 0 else (pos m ns).map (· + 1)) = none := h
    by_cases e : n = m
    · rw [if_pos e] at h; cases h
    · rw [if_neg e] at h
      have h : pos m ns = none := Option.map_eq_none_iff.mp h
      show (match so m == so n with | true => some v | false => _) = none
      have : (so m == so n) = false := by
        rw [Bool.eq_false_iff]
        intro z
        exact e (so_inj (eq_of_beq z)).symm
      rw [this]
      exact lookup_zip_none h
section
variable {T : Tbl} {W : Wd T}
structure Mt (P : Program) (w : World) (K : PySem.W.Frag) (mg : Str -> Option Value) (base : Heap) {T : Tbl} (W : Wd T) (k : Nat) (m : String) (n : Nat) (φ : Sem) (b : Option Nat) : Prop where
  ex : ∀ c nm, W.has c -> T.res c m = some nm -> ∃ g fd ps, Meth K (W.cA c) (so m) g /\ FnOk P w K mg base (L2.CX P w) k g fd ps (spR W n (φ nm) b) /\ Binds K fd ps []
def tMethD {T : Tbl} (W : Wd T) (φ : Sem) (m : String) (n : Nat) (b : Option Nat) (E : XK) (ta : TE) (t : TA) : TE := fun σ H Q => ta σ H fun x H1 => ∃ a c nm dx fs, x = .ref a /\ H1 a = some (.ins (W.cA c) dx fs) /\ W.has c /\ T.res c m = some nm /\ fs.lookup (so m) = none /\
  t σ H1 fun vs H2 => spR W n (φ nm) b (x :: vs) H2 Q E
theorem px_methS {X : Cx} {E : St -> XK} {k n : Nat} {m : String} {φ : Sem} {b : Option Nat} {o e : Expr} {es : List Expr} {ta : TE} {t : TA} {apos pos : Pos} {pl : PySem.Sem Bool} (M : Mt X.prog X.w X.K X.mg X.base W k m n φ b) (hx : ∀ σ, PassesAt (L2.CX X.prog X.w) X σ (E σ)) (hr : Room k X.A) (hK : W.K = X.K) (he : PE X o ta) (ha : PA X (e :: es) t)
    (hst : starEach (e :: es) X.env = (false, eval e X.env) :: starEach es X.env := by rfl) (hpl : (backTo pos (starEach es X.env)).any (·.1) = false := by rfl)
    (ht : eval (.Call (.Attribute o (so m) apos) (e :: es) [] pos) X.env = (do
      let ov <- eval o X.env
      standAt apos.atName
      let (f, first) <- holding [ov] (getMethod ov (so m) pl)
      callWith pos f first (backTo pos (starEach (e :: es) X.env)) (backToKw pos (keywordEach [] X.env))) := by rfl) :
    PE X (.Call (.Attribute o (so m) apos) (e :: es) [] pos) (fun σ H Q => tMethD W φ m n b (E σ) ta t σ H Q) := by
  refine ⟨fun pins s σ H Q I h => ?_⟩
  refine PySem.W.methodCall_KW (pl := pl) (thn (he.run pins s σ H _ I h) fun u s1 ⟨x, H1, I1, rx, a, c, nm, dx, fs, ex, ea, hc, hn, l, q⟩ => ?_) ht
  subst ex
  obtain rfl : u = Value.ref a := rx
  obtain ⟨g, fd, ps, hm, F, hb⟩ := M.ex c nm hc hn
  refine getmeth_ok I1 ea (hK ▸ W.cl c hc) hm l ?_
  refine PySem.W.callWith_K (first := [.ref a]) (h₀ := X.base) I.ok.mod.kin hm.kp (thn (ha.run pos pins s1 σ H1 _ I1 q) fun us s2 ⟨vs, H2, I2, r, q2⟩ => ⟨I2.kIn, ?_⟩) hst hpl
  exact run_fnS (E := E) (us := .ref a :: us) (vs := .ref a :: vs) F hr hb (hx σ) I2 (.cons rfl r) q2
theorem px_methX {X : Cx} {E : WX} {k n : Nat} {m : String} {φ : Sem} {b : Option Nat} {o e : Expr} {es : List Expr} {ta : TE} {t : TA} {apos pos : Pos} {pl : PySem.Sem Bool} (M : Mt X.prog X.w X.K X.mg X.base W k m n φ b) (tk : Takes X E) (hr : Room k X.A) (hK : W.K = X.K) (he : PE X o ta) (ha : PA X (e :: es) t)
    (hst : starEach (e :: es) X.env = (false, eval e X.env) :: starEach es X.env := by rfl) (hpl : (backTo pos (starEach es X.env)).any (·.1) = false := by rfl)
    (ht : eval (.Call (.Attribute o (so m) apos) (e :: es) [] pos) X.env = (do
      let ov <- eval o X.env
      standAt apos.atName
      let (f, first) <- holding [ov] (getMethod ov (so m) pl)
      callWith pos f first (backTo pos (starEach (e :: es) X.env)) (backToKw pos (keywordEach [] X.env))) := by rfl) :
    PE X (.Call (.Attribute o (so m) apos) (e :: es) [] pos) (fun σ H Q => tMethD W φ m n b (WE E σ) ta t σ H Q) := px_methS (E := fun σ => WE E σ) M (fun σ => L2.passAt tk σ) hr hK he ha hst hpl ht
def meth1 (T : Tbl) (φ : Sem) (m : String) (n : Nat) : List D -> Rz
  | .ins c ns xs :: ds => match T.res c m with
    | some nm => if pos m ns = none /\ ds.length + 1 = n then φ nm (.ins c ns xs :: ds) none else .no
    | none => .no
  | _ => .no
theorem meth1_ok {φ : Sem} {m : String} {n : Nat} {d : D} {ds : List D} (h : meth1 T φ m n (d :: ds) ≠ .no) : ∃ c ns xs nm, d = .ins c ns xs /\ T.res c m = some nm /\ pos m ns = none /\ (d :: ds).length = n /\ meth1 T φ m n (d :: ds) = φ nm (d :: ds) none := by
  cases d <;> first | (exact absurd rfl h) | skip
  rename_i c ns xs
  cases e : T.res c m with
  | none => exact absurd (by show (match T.res c m with | some nm => if pos m ns = none /\ ds.length + 1 = n then φ nm (.ins c ns xs :: ds) none else Rz.no | none => .no) = .no; rw [e]) h
  | some nm =>
    have e2 : meth1 T φ m n (.ins c ns xs :: ds) = if pos m ns = none /\ ds.length + 1 = n then φ nm (.ins c ns xs :: ds) none else Rz.no := by
      show (match T.res c m with | some nm => if pos m ns = none /\ ds.length + 1 = n then φ nm (.ins c ns xs :: ds) none else Rz.no | none => .no) = _
      rw [e]
    by_cases hh : pos m ns = none /\ ds.length + 1 = n
    · rw [if_pos hh] at e2
      exact ⟨c, ns, xs, nm, rfl, e, hh.1, hh.2, e2⟩
    · rw [if_neg hh] at e2
      exact absurd e2 h
theorem shr_ins {F : Hp} {c : String} {ns : List String} {xs : List D} {v : V} (h : Shr W F (.ins c ns xs) v) : ∃ a dx vs, v = .ref a /\ F a = some (.ins (W.cA c) dx ((ns.map so).zip vs)) /\ W.has c := by
  cases h with
  | ins ha hc _ _ => exact ⟨_, _, _, rfl, ha, hc⟩
def mkR (r : Rz) : Option D := match r with
  | .ok .non (some d) => some d
  | _ => none
def mk1 (φ : Sem) (c ini : String) (n : Nat) (ds : List D) : Option D := if ds.length + 1 = n then mkR (φ ini (.oins c [] [] :: ds) (some 0)) else none
theorem mk1_ok {φ : Sem} {c ini : String} {n : Nat} {ds : List D} {d : D} (h : mk1 φ c ini n ds = some d) : (D.oins c [] [] :: ds).length = n /\ φ ini (.oins c [] [] :: ds) (some 0) = .ok .non (some d) := by
  obtain ⟨h1, h2⟩ : ds.length + 1 = n /\ mkR (φ ini (.oins c [] [] :: ds) (some 0)) = some d := by
    unfold mk1 at h
    split at h
    · exact ⟨by assumption, h⟩
    · cases h
  refine ⟨h1, ?_⟩
  unfold mkR at h2
  split at h2
  · cases h2; assumption
  · cases h2
theorem makeF {n : Nat} {φ : Sem} {c ini : String} {F H : Hp} {vs : List V} {ds : List D} {d : D} {Q : VK} {E : XK} (s : Same F H) (h : Shrs W F ds vs) (hc : W.has c) (hφ : mk1 φ c ini n ds = some d)
    (q : ∀ v F' H', Ext F H F' H' -> rO W d F' H' H v -> Q v H') (x dx : Addr) (hx : H x = none) (hd : H dx = none) (ne : dx ≠ x) :
    spR W n (φ ini) (some 0) (.ref x :: vs) (upd (upd H dx (.own x)) x (.ins (W.cA c) dx [])) (fun v H2 => v = .non /\ Q (.ref x) H2) E := by
  obtain ⟨hl, hφ⟩ := mk1_ok hφ
  have hs : Same H (upd (upd H dx (.own x)) x (.ins (W.cA c) dx [])) := (same_new hd).trans (same_new (by rw [upd_ne ne.symm]; exact hx))
  refine ⟨F, .oins c [] [] :: ds, [x] ++ [], s.trans hs, .cons (.oins (vs := []) (by rw [upd_same]; rfl) hc rfl .nil) h.owns, by simp, fun a m => ?_, hl, ?_, fun d' bd e F' H' v M Mb p o ob nd k => ?_, fun x' bd e => ?_⟩
  · obtain rfl : a = x := by simpa using m
    exact s.free hx
  · rw [hφ]; exact fun z => nomatch z
  · rw [hφ] at e; cases e
    have hv : v = .non := by cases o with | sh y => cases y; rfl
    have hM : M = [] := o.shNil rfl
    subst hM
    obtain ⟨w, hw, ow⟩ := ob
    cases hw
    refine ⟨hv, q _ F' H' ⟨p.f, p.s, fun a o ha => ?_, fun a o ha => ?_⟩ ⟨Mb, ow, by simpa using nd, fun a m => ⟨?_, (k a (by simpa using m)).1⟩⟩⟩
    · refine p.h a o (fun z => ?_) (hs _ _ ha)
      obtain rfl : a = x := by simpa using z
      rw [hx] at ha; cases ha
    · rcases p.n a o ha with z | z | z
      · exact .inl z
      · exact .inr (hs.free z)
      · obtain rfl : a = x := by simpa using z
        exact .inr hx
    · rcases (k a (by simpa using m)).2 with z | z
      · obtain rfl : a = x := by simpa using z
        exact hx
      · exact hs.free z
  · rw [hφ] at e; cases e
theorem makeV {n : Nat} {φ : Sem} {c ini : String} {F H : Hp} {vs : List V} {ds : List D} {d : D} {Q : VK} {E : XK} (s : Same F H) (h : Shrs W H ds vs) (hc : W.has c) (hφ : mk1 φ c ini n ds = some d)
    (q : ∀ v H', Ext F H F H' -> Shr W H' (fz d) v -> Q v H') (x dx : Addr) (hx : H x = none) (hd : H dx = none) (ne : dx ≠ x) :
    spR W n (φ ini) (some 0) (.ref x :: vs) (upd (upd H dx (.own x)) x (.ins (W.cA c) dx [])) (fun v H2 => v = .non /\ Q (.ref x) H2) E :=
  makeF (Same.refl H) h hc hφ (fun v F' H' x ⟨L, o, _, _⟩ => q v H' ⟨Same.refl _, s.trans (x.f.trans x.s), x.h, fun _ _ z => .inl z⟩ (o.view x.s fun _ _ _ z => z)) x dx hx hd ne
structure MkAt (P : Program) (w : World) (K : PySem.W.Frag) (mg : Str -> Option Value) (base : Heap) (k : Nat) (x : Str) (C : Addr) (n : Nat) (sp : Sp) : Prop where
  ex : ∃ f fd ps, Mk K C f /\ FnOk P w K mg base (L2.CX P w) k f fd ps sp /\ mg x = some (.ref C) /\ Binds K fd ps [] /\ ps.length = n
def rm0 (r : Rz) (e : Py.Env) : RM := match r with
  | .ok d _ => .ok d e
  | .exn x _ => .exn x e
  | .no => .no
def rm1 (r : Rz) (o : Option D) (i : Nat) (st : List Pst) (e : Py.Env) : RM := match r, o with
  | .ok d (some n), some d0 => .ok d (e.set i (some (d0.putAt st n)))
  | .exn x (some n), some d0 => .exn x (e.set i (some (d0.putAt st n)))
  | _, _ => .no
def meth2 (T : Tbl) (φ : Sem) (m : String) (n : Nat) : List D -> Rz
  | .oins c ns xs :: ds => match T.res c m with
    | some nm => if pos m ns = none /\ ds.length + 1 = n then φ nm (.oins c ns xs :: ds) (some 0) else .no
    | none => .no
  | _ => .no
theorem meth2_ok {φ : Sem} {m : String} {n : Nat} {d : D} {ds : List D} (h : meth2 T φ m n (d :: ds) ≠ .no) : ∃ c ns xs nm, d = .oins c ns xs /\ T.res c m = some nm /\ pos m ns = none /\ (d :: ds).length = n /\ meth2 T φ m n (d :: ds) = φ nm (d :: ds) (some 0) := by
  cases d <;> first | (exact absurd rfl h) | skip
  rename_i c ns xs
  cases e : T.res c m with
  | none => exact absurd (by show (match T.res c m with | some nm => if pos m ns = none /\ ds.length + 1 = n then φ nm (.oins c ns xs :: ds) (some 0) else Rz.no | none => .no) = .no; rw [e]) h
  | some nm =>
    have e2 : meth2 T φ m n (.oins c ns xs :: ds) = if pos m ns = none /\ ds.length + 1 = n then φ nm (.oins c ns xs :: ds) (some 0) else Rz.no := by
      show (match T.res c m with | some nm => if pos m ns = none /\ ds.length + 1 = n then φ nm (.oins c ns xs :: ds) (some 0) else Rz.no | none => .no) = _
      rw [e]
    by_cases hh : pos m ns = none /\ ds.length + 1 = n
    · rw [if_pos hh] at e2
      exact ⟨c, ns, xs, nm, rfl, e, hh.1, hh.2, e2⟩
    · rw [if_neg hh] at e2
      exact absurd e2 h
theorem call_put {φ : List D -> Option Nat -> Rz} {n : Nat} {e : Ent} {env : Py.Env} {F H : Hp} {σ : St} {L : List Addr} {i j : Nat} {st : List Pst} {nd d0 : D} {v0 vn : V} {as bs : List D} {vs ws : List V} {Q : VK} {E : XK}
    (rl : Rel W e env F σ H L) (h0 : env[i]? = some (some d0)) (h1 : d0.at st = some nd) (hs : σ[i]? = some (some v0)) (hp : VPath H v0 st vn) (os : Shrs W F as vs) (ot : Shrs W F bs ws) (hj : as.length = j) (hl : (as ++ nd :: bs).length = n) (hn : φ (as ++ nd :: bs) (some j) ≠ .no)
    (c : ∀ d n' v F' H' L' M, φ (as ++ nd :: bs) (some j) = .ok d (some n') -> Rel W e (env.set i (some (d0.putAt st n'))) F' σ H' L' -> Own W F' H' d v M -> (M ++ L').Nodup -> (∀ a ∈ M, F' a = none /\ (a ∈ e.L0 \/ e.H0 a = none)) -> Q v H')
    (cx : ∀ x n' F' H' L' C dd, φ (as ++ nd :: bs) (some j) = .exn x (some n') -> Rel W e (env.set i (some (d0.putAt st n'))) F' σ H' L' -> IsExn W F' x C dd -> E C dd H')
    (hok : ∀ d, φ (as ++ nd :: bs) (some j) ≠ .ok d none) (hex : ∀ x, φ (as ++ nd :: bs) (some j) ≠ .exn x none) : spR W n φ (some j) (vs ++ vn :: ws) H Q E := by
  obtain ⟨v0', vn', Ln, Lr, e1, p2, o, ndL, mem, put⟩ := rl.focus h0 h1
  rw [hs] at e1; cases e1
  cases hp.det p2
  rw [List.nodup_append] at ndL
  obtain ⟨n1, n2, n3⟩ := ndL
  have hO : Owns W F H (as ++ nd :: bs) (vs ++ vn :: ws) ([] ++ (Ln ++ [])) := Owns.append os.owns (.cons o ot.owns)
  rw [List.nil_append, List.append_nil] at hO
  have hjv : (vs ++ vn :: ws)[j]? = some vn := by
    rw [<- hj, os.length, List.getElem?_append_right (Nat.le_refl _), Nat.sub_self]; rfl
  have org : ∀ a, (a ∈ Ln \/ H a = none) -> a ∉ Lr /\ (a ∈ e.L0 \/ e.H0 a = none) := fun a h => by
    rcases h with z | z
    · exact ⟨fun y => n3 a z a y rfl, rl.ln a ((mem a).mp (.inl z))⟩
    · refine ⟨fun y => ?_, rl.h0 z⟩
      obtain ⟨o, ho⟩ := rl.slots.lives a ((mem a).mp (.inr y))
      rw [z] at ho; cases ho
  have back : ∀ {F' H' n' Mb}, Post F H Ln F' H' -> Own W F' H' n' vn Mb -> Mb.Nodup -> (∀ a ∈ Mb, F' a = none /\ (a ∈ Ln \/ H a = none)) -> ∃ L', Rel W e (env.set i (some (d0.putAt st n'))) F' σ H' L' /\ ∀ a ∈ L', a ∈ Mb \/ a ∈ Lr := by
    intro F' H' n' Mb p ow nb k
    refine put F' H' n' Mb p.f p.s p.h (fun a o q => (p.n a o q).elim .inl fun z => z.elim (fun z => .inr (.inl (.inl z))) fun z => .inr (.inr z)) ow ?_ fun a ha => ⟨(k a ha).1, .inr (org a (k a ha).2).2⟩
    rw [List.nodup_append]
    exact ⟨nb, n2, fun a ha b hb z => (org a (k a ha).2).1 (z ▸ hb)⟩
  refine ⟨F, as ++ nd :: bs, Ln, rl.sF, hO, n1, fun a m => rl.dj a ((mem a).mp (.inl m)), hl, hn, fun d bd eq F' H' v M Mb p o' ob nd' k => ?_, fun x bd eq F' H' C dd Mb p ie ob nb k => ?_⟩
  · cases bd with
    | none => exact absurd eq (hok d)
    | some n' =>
      obtain ⟨w, hw, ow⟩ := ob
      rw [hjv] at hw; cases hw
      rw [List.nodup_append] at nd'
      obtain ⟨m1, m2, m3⟩ := nd'
      obtain ⟨L', r', inL⟩ := back p ow m2 fun a ha => k a (List.mem_append_right _ ha)
      refine c d n' v F' H' L' M eq r' o' ?_ fun a ha => ⟨(k a (List.mem_append_left _ ha)).1, (org a (k a (List.mem_append_left _ ha)).2).2⟩
      rw [List.nodup_append]
      refine ⟨m1, r'.nd, fun a ha b hb z => ?_⟩
      subst z
      rcases inL a hb with y | y
      · exact m3 a ha a y rfl
      · exact (org a (k a (List.mem_append_left _ ha)).2).1 y
  · cases bd with
    | none => exact absurd eq (hex x)
    | some n' =>
      obtain ⟨w, hw, ow⟩ := ob
      rw [hjv] at hw; cases hw
      obtain ⟨L', r', inL⟩ := back p ow nb k
      exact cx x n' F' H' L' C dd eq r' ie
theorem callX {n : Nat} {φ : List D -> Option Nat -> Rz} {F H : Hp} {vs : List V} {args : List D} {Q : VK} {E : XK} (s : Same F H) (h : Shrs W F args vs) (hl : args.length = n) (hn : φ args none ≠ .no)
    (q : ∀ d b v F' H', φ args none = .ok d b -> Ext F H F' H' -> rO W d F' H' H v -> Q v H') (qx : ∀ x b F' H' C dd, φ args none = .exn x b -> Ext F H F' H' -> IsExn W F' x C dd -> E C dd H') : spR W n φ none vs H Q E := by
  refine ⟨F, args, [], s, h.owns, .nil, (fun a m => nomatch m), hl, hn, fun d' bd e F' H' v M Mb p o ob nd k => ?_, fun x bd e F' H' C dd Mb p ie ob nb k => ?_⟩
  · have ob : Mb = [] := ob
    subst ob
    rw [List.append_nil] at nd k
    exact q d' bd v F' H' e p.ext ⟨M, o, nd, fun a m => ⟨(k a m).2.elim (fun z => nomatch z) id, (k a m).1⟩⟩
  · exact qx x bd F' H' C dd e p.ext ie
def methM (T : Tbl) (φ : Sem) (m : String) (n i : Nat) (q : Option (List Pst × D)) (fs : Option (List D)) (env : Py.Env) : RM := match q, fs with
  | some (st, nd), some ds => if isSh nd = true then rm0 (meth1 T φ m n (nd :: ds)) env else rm1 (meth2 T φ m n (nd :: ds)) (getS env i) i st env
  | _, _ => .no
def xmMeth (φ : Sem) (m : String) (n : Nat) (p : XPl W) (as : XA W) : XM W where
  t E := fun σ H Q => tMethD W φ m n none (WE E σ) p.t as.t σ H Q \/ tMethD W φ m n (some 0) (WE E σ) p.t as.t σ H Q
  ev _ env := methM T φ m n p.root (p.ev env) (as.evF env) env
  snd := fun P E env hn e F σ H L Q hP r c cx => by
    match e1 : p.ev env, e2 : as.evF env, hn, c, cx with
    | none, _, hn, _, _ => exact absurd rfl hn
    | some _, none, hn, _, _ => exact absurd rfl hn
    | some (st, nd), some ds, hn, c, cx =>
      obtain ⟨d0, h0, h1⟩ := p.at_ e1
      obtain ⟨v0, _, _, _, hs, _⟩ := r.focus h0 h1
      unfold methM at hn c cx
      dsimp only at hn c cx
      by_cases hsh : isSh nd = true
      · rw [if_pos hsh] at hn c cx
        have hm : meth1 T φ m n (nd :: ds) ≠ .no := fun z => hn (by rw [z]; rfl)
        obtain ⟨cn, ns, xs, nm, rfl, h2, h3, h4, h5⟩ := meth1_ok hm
        rw [h5] at hn c cx hm
        refine .inl (p.loc e1 e F σ H L v0 _ r hs fun v F1 H1 x1 p1 => ?_)
        have r1 := r.ext x1
        obtain ⟨v0', vn, Ln, Lr, e5, p2, o, _⟩ := r1.focus h0 h1
        rw [hs] at e5; cases e5
        cases p1.det p2
        have sh := o.shr hsh
        obtain ⟨a, dx, vs, rfl, ha, hc⟩ := shr_ins sh
        refine ⟨a, cn, nm, dx, _, rfl, r1.sF _ _ ha, hc, h2, lookup_zip_none h3, as.sF e2 e F1 σ H1 L _ r1 fun ws F2 H2 x2 y2 => ?_⟩
        refine callX x2.s (.cons (sh.mono x2.f) y2) h4 hm (fun d b v F3 H3 eq x3 ⟨M, o3, nd3, k3⟩ => ?_) fun x b F3 H3 C dd eq x3 ie => ?_
        · rw [eq] at c
          have r2 := r1.ext x2
          exact c d env v F3 H3 L M rfl (r2.ext x3) o3 (nodup_new (H := H2) r2.nd nd3 r2.slots.lives fun a m => (k3 a m).1) fun a m => ⟨(k3 a m).2, r2.h0 (k3 a m).1⟩
        · rw [eq] at cx
          exact cx x env F3 H3 L C dd rfl ((r1.ext x2).ext x3) ie
      · rw [if_neg hsh] at hn c cx
        have hm : meth2 T φ m n (nd :: ds) ≠ .no := fun z => hn (by rw [z]; rfl)
        obtain ⟨cn, ns, xs, nm, rfl, h2, h3, h4, h5⟩ := meth2_ok hm
        rw [h5] at hn c cx hm
        have hg : getS env p.root = some d0 := by unfold getS; rw [h0]; rfl
        rw [hg] at hn c cx
        refine .inr (p.loc e1 e F σ H L v0 _ r hs fun v F1 H1 x1 p1 => ?_)
        have r1 := r.ext x1
        obtain ⟨v0', vn, Ln, Lr, e5, p2, o, _⟩ := r1.focus h0 h1
        rw [hs] at e5; cases e5
        cases p1.det p2
        cases o with
        | sh y => cases y
        | oins ha hc hl os =>
          refine ⟨_, cn, nm, _, _, rfl, ha, hc, h2, lookup_zip_none h3, as.sF e2 e F1 σ H1 L _ r1 fun ws F2 H2 x2 y2 => ?_⟩
          refine call_put (as := []) (vs := []) (r1.ext x2) h0 h1 hs (p1.mono x2.h) .nil y2 rfl h4 hm (fun d n' v F3 H3 L3 M eq r3 o3 nd3 k3 => ?_) (fun x n' F3 H3 L3 C dd eq r3 ie => ?_) (fun d z => ?_) fun x z => ?_
          · have eq : φ nm (.oins cn ns xs :: ds) (some 0) = .ok d (some n') := eq
            rw [eq] at c
            exact c d _ v F3 H3 L3 M rfl r3 o3 nd3 k3
          · have eq : φ nm (.oins cn ns xs :: ds) (some 0) = .exn x (some n') := eq
            rw [eq] at cx
            exact cx x _ F3 H3 L3 C dd rfl r3 ie
          · have z : φ nm (.oins cn ns xs :: ds) (some 0) = .ok d none := z
            rw [z] at hn
            exact hn rfl
          · have z : φ nm (.oins cn ns xs :: ds) (some 0) = .exn x none := z
            rw [z] at hn
            exact hn rfl
def setF (f : String) (d : D) : List String -> List D -> List String × List D
  | n :: ns, x :: xs => if n = f then (n :: ns, d :: xs) else ((n :: (setF f d ns xs).1), x :: (setF f d ns xs).2)
  | _, _ => ([f], [d])
def setFD (T : Tbl) (f : String) (n : D) (ds : List D) : Option (D × D) := match n, ds with
  | .oins c ns xs, [d] => if T.fOk c f = true /\ ns.length < 1000 then some (.oins c (setF f d ns xs).1 (setF f d ns xs).2, .non) else none
  | _, _ => none
def rSetF {T : Tbl} (W : Wd T) (f : Str) : V -> List V -> Hp -> VK -> Prop := fun x ys H Q => ∃ a C dx fs y, x = .ref a /\ ys = [y] /\ H a = some (.ins C dx fs) /\ Cls W.K C /\ NoAttr W.K C f /\ fs.length < 1000 /\ Q .non (upd H a (.ins C dx (putF f y fs)))
theorem mop_at {F H : Hp} {a : Addr} {L : List Addr} {Ms : List Addr} {n' d : D} {o : HO} {M' L2 : List Addr} {v' : V} {Q : VK} (s : Same F H) (nd : (Ms ++ (a :: L)).Nodup) (kF : ∀ b ∈ Ms ++ (a :: L), F b = none)
    (hn : a ∉ L2 -> Own W F (upd H a o) n' (.ref a) (a :: L2)) (od : Own W F H d v' M') (n2 : (M' ++ L2).Nodup) (sub : ∀ b ∈ M' ++ L2, b ∈ L \/ b ∈ Ms)
    (q : ∀ F' H' v' Ln' M', Same F F' -> Same F' H' -> (∀ b o, b ∉ a :: L -> H b = some o -> H' b = some o) -> (∀ b o, F' b = some o -> F b = some o \/ H b = none) -> Own W F' H' n' (.ref a) Ln' -> Own W F' H' d v' M' -> (M' ++ Ln').Nodup ->
      (∀ b ∈ M' ++ Ln', F' b = none /\ (b ∈ a :: L \/ b ∈ Ms \/ H b = none)) -> Q v' H') : Q v' (upd H a o) := by
  rw [List.nodup_append] at nd
  obtain ⟨n3, n4, n5⟩ := nd
  rw [List.nodup_cons] at n4
  have na : ∀ b ∈ M' ++ L2, b ≠ a := fun b hb z => by
    subst z
    rcases sub _ hb with y | y
    · exact n4.1 y
    · exact n5 _ y _ (List.mem_cons_self ..) rfl
  have Fa : F a = none := kF a (List.mem_append_right _ (List.mem_cons_self ..))
  have nL : a ∉ L2 := fun z => na a (List.mem_append_right _ z) rfl
  refine q F (upd H a o) v' (a :: L2) M' (Same.refl _) (same_upd s Fa) (fun b u hb hu => ?_) (fun b u hu => .inl hu) (hn nL) (own_upd od fun z => na a (List.mem_append_left _ z) rfl) ?_ (fun b hb => ?_)
  · rw [upd_ne (fun z => hb (by rw [z]; exact List.mem_cons_self ..))]; exact hu
  · rw [List.nodup_append] at n2 ⊢
    refine ⟨n2.1, List.nodup_cons.mpr ⟨fun z => na a (List.mem_append_right _ z) rfl, n2.2.1⟩, fun b hb c hc => ?_⟩
    rcases List.mem_cons.mp hc with z | z
    · rw [z]; exact na b (List.mem_append_left _ hb)
    · exact n2.2.2 b hb c z
  · rcases List.mem_append.mp hb with z | z
    · have := sub b (List.mem_append_left _ z)
      refine ⟨kF b ?_, ?_⟩
      · rcases this with y | y
        · exact List.mem_append_right _ (List.mem_cons_of_mem _ y)
        · exact List.mem_append_left _ y
      · rcases this with y | y
        · exact .inl (List.mem_cons_of_mem _ y)
        · exact .inr (.inl y)
    · rcases List.mem_cons.mp z with z | z
      · subst z; exact ⟨Fa, .inl (List.mem_cons_self ..)⟩
      · have := sub b (List.mem_append_right _ z)
        refine ⟨kF b ?_, ?_⟩
        · rcases this with y | y
          · exact List.mem_append_right _ (List.mem_cons_of_mem _ y)
          · exact List.mem_append_left _ y
        · rcases this with y | y
          · exact .inl (List.mem_cons_of_mem _ y)
          · exact .inr (.inl y)
theorem setF_owns {F H : Hp} {f : String} {d : D} {y : V} {M : List Addr} (o : Own W F H d y M) : ∀ {ns : List String} {xs : List D} {vs : List V} {L : List Addr}, Owns W F H xs vs L -> ns.length = vs.length -> (M ++ L).Nodup ->
    ∃ vs' L', putF (so f) y ((ns.map so).zip vs) = (((setF f d ns xs).1).map so).zip vs' /\ (setF f d ns xs).1.length = vs'.length /\ Owns W F H (setF f d ns xs).2 vs' L' /\ (∀ a ∈ L', a ∈ L \/ a ∈ M) /\ L'.Nodup
  | [], [], [], _, .nil, _, nd => ⟨[y], M ++ [], rfl, rfl, .cons o .nil, fun a m => .inr (by simpa using m), by simpa using nd⟩
  | n :: ns, x :: xs, v :: vs, _, .cons (L := L1) (M := L2) h t, hl, nd => by
    rw [List.nodup_append] at nd
    obtain ⟨n1, n2, n3⟩ := nd
    rw [List.nodup_append] at n2
    obtain ⟨p1, p2, p3⟩ := n2
    by_cases e : n = f
    · refine ⟨y :: vs, M ++ L2, ?_, ?_, ?_, fun a m => ?_, ?_⟩
      · subst e
        show (if so n = so n then (so n, y) :: (ns.map so).zip vs else _) = ((if n = n then (n :: ns, d :: xs) else ((n :: (setF n d ns xs).1), x :: (setF n d ns xs).2)).1.map so).zip (y :: vs)
        rw [if_pos rfl, if_pos rfl]; rfl
      · show ((if n = f then (n :: ns, d :: xs) else ((n :: (setF f d ns xs).1), x :: (setF f d ns xs).2)).1).length = _
        rw [if_pos e]; simpa using hl
      · show Owns W F H ((if n = f then (n :: ns, d :: xs) else ((n :: (setF f d ns xs).1), x :: (setF f d ns xs).2)).2) _ _
        rw [if_pos e]; exact .cons o t
      · rcases List.mem_append.mp m with m | m
        · exact .inr m
        · exact .inl (List.mem_append_right _ m)
      · rw [List.nodup_append]
        exact ⟨n1, p2, fun a ha b hb => n3 a ha b (List.mem_append_right _ hb)⟩
    · obtain ⟨vs', L', e1, e2, e3, e4, e5⟩ := setF_owns (f := f) o t (ns := ns) (by simpa using hl) (by
        rw [List.nodup_append]
        exact ⟨n1, p2, fun a ha b hb => n3 a ha b (List.mem_append_right _ hb)⟩)
      refine ⟨v :: vs', L1 ++ L', ?_, ?_, ?_, fun a m => ?_, ?_⟩
      · show (if so n = so f then (so n, y) :: (ns.map so).zip vs else (so n, v) :: putF (so f) y ((ns.map so).zip vs)) = ((if n = f then (n :: ns, d :: xs) else ((n :: (setF f d ns xs).1), x :: (setF f d ns xs).2)).1.map so).zip (v :: vs')
        rw [if_neg (fun z => e (so_inj z)), if_neg e, e1]; rfl
      · show ((if n = f then (n :: ns, d :: xs) else ((n :: (setF f d ns xs).1), x :: (setF f d ns xs).2)).1).length = _
        rw [if_neg e]; simpa using e2
      · show Owns W F H ((if n = f then (n :: ns, d :: xs) else ((n :: (setF f d ns xs).1), x :: (setF f d ns xs).2)).2) _ _
        rw [if_neg e]; exact .cons h e3
      · rcases List.mem_append.mp m with m | m
        · exact .inl (List.mem_append_left _ m)
        · exact (e4 a m).imp (List.mem_append_right _) id
      · rw [List.nodup_append]
        refine ⟨p1, e5, fun a ha b hb z => ?_⟩
        subst z
        rcases e4 a hb with q | q
        · exact p3 a ha a q rfl
        · exact n3 a q a (List.mem_append_left _ ha) rfl
  | [], _ :: _, _, _, .cons _ _, hl, _ => by simp at hl
  | _ :: _, [], _, _, .nil, hl, _ => by simp at hl
theorem mop_setF {f : String} : Mop W (rSetF W (so f)) (setFD T f) := by
  intro n ds n' d hf F H vn Ln vs Ms Q s o os nd kF q
  unfold setFD at hf
  split at hf
  · rename_i c ns xs d0
    obtain ⟨⟨hf1, hf2⟩, e⟩ := ite_some hf
    cases e
    obtain ⟨u, rfl, o2⟩ := os.one
    cases o with
    | sh y => cases y
    | @oins a c dx ns xs vs L ha hc hl hs =>
      obtain ⟨vs', L', e1, e2, e3, e4, e5⟩ := setF_owns (f := f) o2 hs hl (nd_tail nd)
      refine ⟨a, _, dx, _, u, rfl, rfl, ha, W.cl c hc, W.na c f hc hf1, by simp; omega, ?_⟩
      refine mop_at (L2 := L') (M' := []) (d := .non) s nd kF (fun na => .oins (by rw [upd_same, e1]) hc e2 (owns_upd e3 na)) (.sh .non) (by simpa using e5) (fun b hb => e4 b (by simpa using hb)) q
  · cases hf
def fldK (T : Tbl) {W : Wd T} (p : XPl W) (f : String) (d : D) (e : Py.Env) : RS := RS.ofO ((p.ev e).bind fun q => (setFD T f q.2 [d]).bind fun z => (getS e p.root).map fun d0 => e.set p.root (some (d0.putAt q.1 z.1)))
def xsFld (p : XPl W) (f : String) (m : XM W) : XS W where
  t E := sFld W.K p.t (m.t E) (so f)
  ev P env := (m.ev P env).thenS (fldK T p f)
  snd := fun P E env hn e F σ H L Dn hP r s => by
    have hm : m.ev P env ≠ .no := fun z => hn (by rw [z]; rfl)
    refine (m.snd P E env).run hm hP r s (fun x e1 h => by rw [h]; rfl) fun d env' v F' H' L' M h r' o nd kk => ?_
    rw [h] at hn s
    have hn : fldK T p f d env' ≠ .no := hn
    have s : Sat W e E (ends (fldK T p f d env')) Dn := s
    unfold fldK at hn s
    cases h2 : ((p.ev env').bind fun q => (setFD T f q.2 [d]).bind fun z => (getS env' p.root).map fun d0 => env'.set p.root (some (d0.putAt q.1 z.1))) with
    | none => rw [h2] at hn; exact absurd rfl hn
    | some e2 =>
      rw [h2] at s
      obtain ⟨⟨st, n⟩, e1, h3⟩ := Option.bind_eq_some_iff.mp h2
      obtain ⟨⟨n', d'⟩, e3, h4⟩ := Option.bind_eq_some_iff.mp h3
      obtain ⟨d0', e4, h5⟩ := Option.map_eq_some_iff.mp h4
      subst h5
      obtain ⟨d0, h0, h1⟩ := p.at_ e1
      rw [getS_some e4] at h0
      cases h0
      obtain ⟨v0, _, _, _, hs, _⟩ := r'.focus (getS_some e4) h1
      refine p.loc e1 e F' σ H' L' v0 _ r' hs fun vn F1 H1 x1 p1 => ?_
      rw [List.nodup_append] at nd
      obtain ⟨nd1, nd2, nd3⟩ := nd
      have go : rSetF W (so f) vn [v] H1 (fun _ H => Dn.nx σ H) := by
        refine am_mop mop_setF (r'.ext x1) (getS_some e4) h1 hs p1 e3 (Ms := M ++ []) (.cons (o.frame x1.f fun a _ o q => x1.h _ _ q) .nil) (by simpa using nd1) (fun a ha => ?_) fun v2 F2 H2 L2 M2 r2 o2 n2 k2 => s.nx _ _ _ _ _ rfl r2
        have ha : a ∈ M := by simpa using ha
        refine ⟨fun z => nd3 a ha a z rfl, ?_, (kk a ha).2⟩
        obtain ⟨u, hu⟩ := o.lives a ha
        cases z : F1 a with
        | none => rfl
        | some w =>
          rcases x1.n a w z with y | y
          · rw [(kk a ha).1] at y; cases y
          · rw [hu] at y; cases y
      obtain ⟨a, C, dx, fs, y, ex, ey, ha, c1, c2, c3, q⟩ := go
      cases ey
      exact ⟨a, C, dx, fs, ex, ha, c1, c2, c3, q⟩
structure MethAt (K : PySem.W.Frag) (C : Addr) (m : String) (x qual : Str) (st : Stmt) (dvs : List V) (kws : List (Str × V)) : Prop where
  ex : ∃ g fd, FunD K x qual (defArgs st) (defBody st) (defScope st) dvs kws g fd /\ Meth K C (so m) g
structure MdOk (P : Program) (w : World) (K : PySem.W.Frag) (mg : Str -> Option Value) (base : Heap) (k : Nat) (C : Addr) (m : String) (n : Nat) (sp : Sp) : Prop where
  ex : ∃ g fd ps, Meth K C (so m) g /\ FnOk P w K mg base (L2.CX P w) k g fd ps sp /\ Binds K fd ps [] /\ ps.length = n
section
variable {P : Program} {w : World} {K : PySem.W.Frag} {mg : Str -> Option Value} {base : Heap}
theorem md_of {C : Addr} {m : String} {x qual : Str} {st : Stmt} {N ps : List Str} {n k : Nat} {sp : Sp} (D : MethAt K C m x qual st [] []) (S : FnScope N ps (defScope st)) (bp : BindsP x qual st ps) (hn : ps.length = n) (len : ∀ vs H Q E, sp vs H Q E -> vs.length = ps.length)
    (hbody : ∀ (f : Addr) (cdv : Value) (A : Around) (outer : List PySem.Env) (s : Shared) (H : Hp) (vs : List V) (Q : VK) (E : XK), Room k (A.deeper (PyProof.Rows.envOfC qual (defScope st) s.heap.objs.size f cdv)) -> sp vs H Q E ->
      ∃ t, PSs (cxOf (L2.CX P w) P w K mg base N qual (defScope st) f cdv A outer s H E) (defBody st) t /\ t { nx := fun _ H' => Q .non H', rt := Q } (L2.start N vs) H) : MdOk P w K mg base (k + 1) C m n sp := by
  obtain ⟨f, fd, F, hm⟩ := D.ex
  refine ⟨f, fd, ps, hm, F.ok S len fun cdv A outer s H vs Q E hr h => ?_, F.bindsN bp, hn⟩
  obtain ⟨t, q1, q2⟩ := hbody f cdv A outer s H vs Q E hr h
  exact ⟨t, q1, q2⟩
theorem md_no {C : Addr} {m : String} {x qual : Str} {st : Stmt} {ps : List Str} {n k : Nat} (D : MethAt K C m x qual st [] []) (bp : BindsP x qual st ps) (hn : ps.length = n) {sp : Sp} (h : ∀ vs H Q E, ¬ sp vs H Q E) : MdOk P w K mg base k C m n sp := by
  obtain ⟨f, fd, F, hm⟩ := D.ex
  exact ⟨f, fd, ps, hm, ⟨fun vs H Q E z => absurd z (h vs H Q E), fun A outer s H args us vs Q E _ _ _ _ z => absurd z (h vs H Q E)⟩, F.bindsN bp, hn⟩
end
structure Pp (P : Program) (w : World) (K : PySem.W.Frag) (mg : Str -> Option Value) (base : Heap) {T : Tbl} (W : Wd T) (k : Nat) (m : String) (φ : Sem) : Prop where
  ex : ∀ c nm, W.has c -> T.res c m = some nm -> ∃ p g fd ps, PropOf K (W.cA c) (so m) p g /\ FnOk P w K mg base (L2.CX P w) k g fd ps (spR W 1 (φ nm) none) /\ Binds K fd ps []
end
end Py
namespace Py
open PySem L2
section
variable {M : Model} {A : Around} {E : Value -> Shared -> Prop} {s : Shared} {pos : Pos} {f : Value} {first : List Value} {Q : Value -> Shared -> Prop}
theorem callWith_caller {P : Heap -> Prop} {args : List (Bool × PySem.Sem Value)} {keywords : List (Option Str × PySem.Sem Value)} (hplain : (args.any (·.1) || keywords.any (·.1.isNone)) = false)
    (hk : ∀ h, P h -> PySem.W.Looks M h (keeperOf f) Keeper.caller)
    (h : wpAny M A (evalArgs f true args keywords) (fun a s₁ => P s₁.heap /\ wpAny M A (call f (first ++ a.pos) a.kw) Q E s₁) E s) : wpAny M A (callWith pos f first args keywords) Q E s := by
  unfold callWith
  refine wpAny_bind (wpAny_holding (wpAny_mono h (fun a s₁ h₁ => wpAny_bind (wpAny_standAt ?_)) fun _ _ x => x))
  have L := hk _ h₁.1
  simp only [hplain]
  refine wpAny_bind (L.here ?_)
  dsimp only
  exact wpAny_bind (wpAny_mono (PyProof.Rows.wpAny_operate' h₁.2) (fun r s₂ hr => wpAny_bind (wpAny_holding (wpAny_point (wpAny_pure hr)))) fun _ _ x => x)
theorem keeper_inst {h : Heap} {a C dx : Addr} (e : h.get? a = some (PySem.W.instObj C dx)) : PySem.W.Looks M h (keeperOf (.ref a)) Keeper.caller := by
  unfold keeperOf
  exact (PySem.W.Looks.ld (part := none) e).andThen .now
theorem plain_fn {K : PySem.W.Frag} {h : Heap} {g : Addr} (X : K.In h) (e : PySem.W.fnIn K g = true) : PySem.W.Looks M h (callAny.plainCallee (.ref g)) true := by
  unfold PySem.W.fnIn at e
  split at e
  · rename_i hlk
    exact (PySem.W.Looks.ld (part := none) (X _ _ hlk)).andThen .now
  · cases e
theorem code_inst {prog : Program} {w : World} {K : PySem.W.Frag} {a C dx g : Addr} {us : List Value} {R : Result -> Shared -> Prop} (X : K.In s.heap) (e : s.heap.get? a = some (PySem.W.instObj C dx)) (k : Meth K C "__call__" g) (hf : PySem.W.fnIn K g = true)
    (h : codeAny (model prog w) A (.call (.ref g) ⟨.ref a :: us, []⟩) R s) : codeAny (model prog w) A (.call (.ref a) ⟨us, []⟩) R s := by
  refine codeAny_of_tree ?_
  show wpAny _ _ (callAny (.ref a) _) _ _ _
  refine PySem.W.nd_load e ?_
  show wpAny _ _ (callAny.viaDunder (.ref a) _) _ _ _
  unfold callAny.viaDunder
  have ty : PySem.W.Looks (model prog w) s.heap (typeOf (.ref a)) (.ref C) := (PySem.W.Looks.ld e).andThen .now
  have cl : PySem.W.Looks (model prog w) s.heap (specialOf (.ref a) "__call__") (some (.ref g)) := ty.andThen (PySem.W.looks_findIn X k.at_)
  refine wpAny_bind (cl.here ?_)
  dsimp only
  refine wpAny_bind ((PySem.W.bind_fn X (.ref a) (beq_iff_eq.mp k.fn)).here ?_)
  dsimp only
  refine wpAny_bind ((plain_fn X hf).here ?_)
  rw [if_pos rfl]
  exact wpAny_pure (a := Fin.again (.call (.ref g) ⟨.ref a :: us, []⟩)) (And.intro rfl h)
end
section
variable {T : Tbl} {W : Wd T}
def CallFn {T : Tbl} (W : Wd T) (K : PySem.W.Frag) : Prop := ∀ c nm g, W.has c -> T.res c "__call__" = some nm -> Meth K (W.cA c) (so "__call__") g -> PySem.W.fnIn K g = true
theorem callFn_of {T : Tbl} {W : Wd T} {K : PySem.W.Frag} (h : ∀ c nm, W.has c -> T.res c "__call__" = some nm -> ∃ x qual st dvs kws, MethAt K (W.cA c) "__call__" x qual st dvs kws) : CallFn W K := fun c nm g hc hn hm => by
  obtain ⟨x, qual, st, dvs, kws, D⟩ := h c nm hc hn
  obtain ⟨g2, fd, F, hm2⟩ := D.ex
  have e := hm2.at_
  rw [hm.at_] at e
  cases e
  obtain ⟨oc, od, dV, kV, doc, pm, an, cdv, ct, osl, rfl, lk, _⟩ := F.ex
  unfold PySem.W.fnIn
  rw [lk]
def tCallO {T : Tbl} (W : Wd T) (φ : Sem) (n : Nat) (b : Option Nat) (E : XK) (ta : TE) (t : TA) : TE := fun σ H Q => ta σ H fun x H1 => ∃ a, x = .ref a /\ t σ H1 fun vs H2 => ∃ c nm dx fs, H2 a = some (.ins (W.cA c) dx fs) /\ W.has c /\ T.res c "__call__" = some nm /\
  spR W n (φ nm) b (x :: vs) H2 Q E
theorem px_callOS {X : Cx} {E : St -> XK} {k n : Nat} {φ : Sem} {b : Option Nat} {x : Str} {p : Pos} {e : Expr} {es : List Expr} {ta : TE} {t : TA} {pos : Pos} (M : Mt X.prog X.w X.K X.mg X.base W k "__call__" n φ b) (hF : CallFn W X.K) (hx : ∀ σ, PassesAt (L2.CX X.prog X.w) X σ (E σ)) (hr : Room k X.A) (hK : W.K = X.K) (he : PE X (.Name x p) ta) (ha : PA X (e :: es) t)
    (hst : starEach (e :: es) X.env = (false, eval e X.env) :: starEach es X.env := by rfl) (hpl : (backTo pos (starEach es X.env)).any (·.1) = false := by rfl) :
    PE X (.Call (.Name x p) (e :: es) [] pos) (fun σ H Q => tCallO W φ n b (E σ) ta t σ H Q) := by
  refine ⟨fun pins s σ H Q I h => ?_⟩
  refine wpAny_Call_Name_kw (thn (he.run pins s σ H _ I h) fun u s1 ⟨x, H1, I1, rx, a, ex, q⟩ => ?_)
  subst ex
  obtain rfl : u = Value.ref a := rx
  refine callWith_caller (P := fun h => ∃ C dx, h.get? a = some (PySem.W.instObj C dx)) (by rw [hst]; show ((false || (backTo pos (starEach es X.env)).any (·.1)) || false) = false; rw [hpl]; rfl) (fun h ⟨C, dx, e⟩ => keeper_inst e) ?_
  rw [hst]
  refine Calls.evalArgs_plain ?_
  have z := ha.run pos pins s1 σ H1 _ I1 q
  rw [hst] at z
  refine thn z fun us s2 ⟨vs, H2, I2, r, c, nm, dx, fs, ea, hc, hn, q2⟩ => ?_
  obtain ⟨g, fd, ps, hm, F, hb⟩ := M.ex c nm hc hn
  obtain ⟨mA, O, _, _, _, _⟩ := ins_get I2.hok ea
  refine ⟨⟨_, _, O.obj⟩, ?_⟩
  refine wpAny_call (code_inst I2.kIn O.obj hm (hF c nm g hc hn hm) ?_)
  have hl : (Value.ref a :: us ++ []).length = ps.length := by
    rw [<- F.len _ _ _ _ q2, List.append_nil, List.length_cons, List.length_cons, r.length]
  refine codeAny_mono (F.run X.A X.stack s2 H2 ⟨.ref a :: us, []⟩ (.ref a :: us ++ []) (.ref a :: vs) Q (E σ) hr I2.env0 (hb s2 (.ref a :: us) I2.kIn hl) (by rw [List.append_nil]; exact .cons rfl r) q2) fun r s' hq => ?_
  cases r with
  | error er => exact hx σ pins H2 s2 er s' I2 hq
  | ok fl =>
    cases fl with
    | ret u => exact I2.after hq
    | next => exact False.elim hq
    | brk => exact False.elim hq
    | cont => exact False.elim hq
theorem px_callOX {X : Cx} {E : WX} {k n : Nat} {φ : Sem} {b : Option Nat} {x : Str} {p : Pos} {e : Expr} {es : List Expr} {ta : TE} {t : TA} {pos : Pos} (M : Mt X.prog X.w X.K X.mg X.base W k "__call__" n φ b) (hF : CallFn W X.K) (tk : Takes X E) (hr : Room k X.A) (hK : W.K = X.K) (he : PE X (.Name x p) ta) (ha : PA X (e :: es) t)
    (hst : starEach (e :: es) X.env = (false, eval e X.env) :: starEach es X.env := by rfl) (hpl : (backTo pos (starEach es X.env)).any (·.1) = false := by rfl) :
    PE X (.Call (.Name x p) (e :: es) [] pos) (fun σ H Q => tCallO W φ n b (WE E σ) ta t σ H Q) := px_callOS (E := fun σ => WE E σ) M hF (fun σ => L2.passAt tk σ) hr hK he ha hst hpl
def callO1 (T : Tbl) (φ : Sem) (n : Nat) : List D -> Rz
  | .ins c ns xs :: ds => match T.res c "__call__" with
    | some nm => if ds.length + 1 = n then φ nm (.ins c ns xs :: ds) none else .no
    | none => .no
  | _ => .no
theorem callO1_ok {φ : Sem} {n : Nat} {d : D} {ds : List D} (h : callO1 T φ n (d :: ds) ≠ .no) : ∃ c ns xs nm, d = .ins c ns xs /\ T.res c "__call__" = some nm /\ (d :: ds).length = n /\ callO1 T φ n (d :: ds) = φ nm (d :: ds) none := by
  cases d <;> first | (exact absurd rfl h) | skip
  rename_i c ns xs
  cases e : T.res c "__call__" with
  | none => exact absurd (by show (match T.res c "__call__" with | some nm => if ds.length + 1 = n then φ nm (.ins c ns xs :: ds) none else Rz.no | none => .no) = .no; rw [e]) h
  | some nm =>
    have e2 : callO1 T φ n (.ins c ns xs :: ds) = if ds.length + 1 = n then φ nm (.ins c ns xs :: ds) none else Rz.no := by
      show (match T.res c "__call__" with | some nm => if ds.length + 1 = n then φ nm (.ins c ns xs :: ds) none else Rz.no | none => .no) = _
      rw [e]
    by_cases hh : ds.length + 1 = n
    · rw [if_pos hh] at e2
      exact ⟨c, ns, xs, nm, rfl, e, hh, e2⟩
    · rw [if_neg hh] at e2
      exact absurd e2 h
end
end Py
namespace L2
open PySem PySem.Spec PyProof.Rows
end L2
namespace Py
open PySem L2
section
variable {T : Tbl} {W : Wd T}
end
section
variable {T : Tbl} {W : Wd T} {env : Py.Env} {β : Type} {enc : β -> D} {dat : β -> PyData}
end
end Py
namespace Py
open PySem L2
section
variable {T : Tbl} {W : Wd T} {env env' : Py.Env} {P : List Nat} {E : WX}
theorem Rel.comp {e : Ent} {F F' H H' : Hp} {σ σ' : St} {L L' : List Addr} (r1 : Rel W e env F σ H L) (r2 : Rel W ⟨F, H, L, e.pins⟩ env' F' σ' H' L') : Rel W e env' F' σ' H' L' := by
  have up : ∀ a, (a ∈ L \/ H a = none) -> a ∈ e.L0 \/ e.H0 a = none := fun a h => h.elim (r1.ln a) r1.h0
  refine ⟨r2.sF, r2.slots, r2.nd, r2.dj, r1.s0.trans r2.s0, fun a o h => ?_, fun a o h1 h2 => r2.fr a o (fun z => ?_) (r1.fr a o h1 h2), fun a h => up a (r2.ln a h), r2.pin⟩
  · rcases r2.nw a o h with z | z | z
    · exact r1.nw a o z
    · rcases up a (.inr z) with y | y
      · exact .inr (.inr y)
      · exact .inr (.inl y)
    · rcases up a (.inl z) with y | y
      · exact .inr (.inr y)
      · exact .inr (.inl y)
  · rcases r1.ln a z with y | y
    · exact h1 y
    · rw [h2] at y; cases y
theorem Rel.base {e : Ent} {F H : Hp} {σ : St} {L : List Addr} (r : Rel W e env F σ H L) : Rel W ⟨F, H, L, e.pins⟩ env F σ H L :=
  ⟨r.sF, r.slots, r.nd, r.dj, Same.refl _, fun a o h => .inl h, fun a o _ h => h, fun a h => .inl h, r.pin⟩
inductive RL where
  | ok (ds : List D) (env : Py.Env) | exn (x : Exn) (env : Py.Env) | no
def ALr {T : Tbl} (W : Wd T) (P : List Nat) (E : WX) (t : TA) (env : Py.Env) (r : RL) : Prop := r ≠ .no ->
  ∀ (e : Ent) (F : Hp) (σ : St) (H : Hp) (L : List Addr) (Q : List V -> Hp -> Prop), P = e.pins.map (·.1) -> Rel W e env F σ H L ->
    (∀ ds env' vs F' H' L', r = .ok ds env' -> Rel W e env' F' σ H' L' -> Shrs W F' ds vs -> Q vs H') ->
    (∀ x env' F' H' L' C dd, r = .exn x env' -> Rel W e env' F' σ H' L' -> IsExn W F' x C dd -> E C dd σ H') -> t σ H Q
structure XMs {T : Tbl} (W : Wd T) where
  t : WX -> TA
  ev : List Nat -> Py.Env -> RL
  snd : ∀ P E env, ALr W P E (t E) env (ev P env)
def RL.thenM (r : RL) (f : List D -> Py.Env -> RM) : RM := match r with
  | .ok d e => f d e
  | .exn x e => .exn x e
  | .no => .no
inductive RT where
  | ok (b : Bool) (env : Py.Env) | exn (x : Exn) (env : Py.Env) | no
def ATr {T : Tbl} (W : Wd T) (P : List Nat) (E : WX) (t : TT) (env : Py.Env) (r : RT) : Prop := r ≠ .no ->
  ∀ (e : Ent) (F : Hp) (σ : St) (H : Hp) (L : List Addr) (Q : Bool -> Hp -> Prop), P = e.pins.map (·.1) -> Rel W e env F σ H L ->
    (∀ b env' F' H' L', r = .ok b env' -> Rel W e env' F' σ H' L' -> Q b H') ->
    (∀ x env' F' H' L' C dd, r = .exn x env' -> Rel W e env' F' σ H' L' -> IsExn W F' x C dd -> E C dd σ H') -> t σ H Q
structure XTM {T : Tbl} (W : Wd T) where
  t : WX -> TT
  ev : List Nat -> Py.Env -> RT
  snd : ∀ P E env, ATr W P E (t E) env (ev P env)
def RT.of (o : Option Bool) (e : Py.Env) : RT := match o with
  | some b => .ok b e
  | none => .no
def RT.then (r : RT) (f : Bool -> Py.Env -> RT) : RT := match r with
  | .ok d e => f d e
  | .exn x e => .exn x e
  | .no => .no
def RT.thenS (r : RT) (f : Bool -> Py.Env -> RS) : RS := match r with
  | .ok d e => f d e
  | .exn x e => .ex x e
  | .no => .no
def RM.thenM (r : RM) (f : D -> Py.Env -> RM) : RM := match r with
  | .ok d e => f d e
  | .exn x e => .exn x e
  | .no => .no
theorem Sat.base {e : Ent} {F H : Hp} {σ : St} {L : List Addr} {A : AEnds} {Dn : Ends} (r : Rel W e env F σ H L) (s : Sat W e E A Dn) : Sat W ⟨F, H, L, e.pins⟩ E A Dn := by
  refine ⟨fun env' F' σ' H' L' a r' => s.nx _ _ _ _ _ a (r.comp r'), fun d env' F' σ' H' L' v M a r' o nd k => s.rt _ _ _ _ _ _ _ _ a (r.comp r') o nd fun b hb => ⟨(k b hb).1, ?_⟩, fun env' F' σ' H' L' a r' => s.bk _ _ _ _ _ a (r.comp r'), fun env' F' σ' H' L' a r' => s.ct _ _ _ _ _ a (r.comp r'), fun x env' F' σ' H' L' C dd a r' ie => s.ex _ _ _ _ _ _ _ _ a (r.comp r') ie⟩
  rcases (k b hb).2 with z | z
  · exact r.ln b z
  · exact r.h0 z
end
end Py
namespace Py
open PySem L2
section
variable {CX : CXT} {P : Program} {w : World} {K : PySem.W.Frag} {mg : Str -> Option Value} {base : Heap}
structure ItAt (P : Program) (w : World) (K : PySem.W.Frag) (mg : Str -> Option Value) (base : Heap) (C : Addr) (f : String) : Prop where
  ex : ∃ g, Meth K C "__iter__" g /\ ∀ (A : Around) (out : List PySem.Env) (s : Shared) (H : Hp) (a dx l : Addr) (fs : List (Str × V)) (zs : List V), Room 1 A -> Env0 P w K mg base A out s H -> H a = some (.ins C dx fs) -> fs.lookup (so f) = some (.ref l) -> SqL K H l zs ->
    codeAny (model P w) A (.call (.ref g) ⟨[.ref a], []⟩) (CR CX0 out P w H s (fun v H' => ∃ it, v = .ref it /\ H it = none /\ s.heap.objs.size <= it /\ H' = upd H it (ItO l it 0)) E0) s
end
section
variable {X : Cx} {pins : List (Addr × Obj)} {σ : St} {H : Hp} {s : Shared}
end
section
variable {prog : Program} {w : World}
end
section
variable {T : Tbl} {W : Wd T}
structure Its (P : Program) (w : World) (K : PySem.W.Frag) (mg : Str -> Option Value) (base : Heap) {T : Tbl} (W : Wd T) : Prop where
  at_ : ∀ c f, W.has c -> T.it c = some f -> ItAt P w K mg base (W.cA c) f
def InsL {T : Tbl} (W : Wd T) (H : Hp) (a l : Addr) (zs : List V) : Prop := ∃ c f dx fs, W.has c /\ T.it c = some f /\ H a = some (.ins (W.cA c) dx fs) /\ fs.lookup (so f) = some (.ref l) /\ SqL W.K H l zs
end
end Py
namespace Py
open PySem L2
section
variable {T : Tbl} {W : Wd T} {X : Cx} {pins : List (Addr × Obj)} {σ : St} {H : Hp} {s : Shared}
end
end Py
namespace Py
open PySem L2
section
variable {T : Tbl} {W : Wd T} {env : Py.Env} {d : D}
theorem InsL.mono {H H' : Hp} (e : Same H H') {a l : Addr} {zs : List V} (h : InsL W H a l zs) : InsL W H' a l zs := by
  obtain ⟨c, f, dx, fs, h1, h2, h3, h4, h5⟩ := h
  exact ⟨c, f, dx, fs, h1, h2, e _ _ h3, h4, e.seq h5⟩
end
theorem ro0 {k : Nat} {A : Around} (r : Room (k + 3) A) : Room k A := r.mono (by omega)
theorem ro1 {k : Nat} {A : Around} (r : Room (k + 3) A) : Room (k + 1) A := r.mono (by omega)
section
variable {T : Tbl} {W : Wd T} {X : Cx}
end
end Py
namespace Py
open PySem L2
structure Dun {T : Tbl} (W : Wd T) : Prop where
  sf : ∀ c, W.has c -> PySem.W.selfFirst W.K (W.cA c) = true
  nt : ∀ c t, W.has c -> t ∈ ["NoneType", "bool", "int", "str", "list", "tuple", "dict"] -> PySem.W.notFirst W.K (W.cA c) (.type t) = true
  gi : ∀ c g, W.has c -> PySem.W.findIn W.K (.ref (W.cA c)) (so "__getitem__") = some (some (.ref g)) -> PySem.W.fnIn W.K g = true
section
variable {T : Tbl} {W : Wd T}
section
variable {X : Cx} {pins : List (Addr × Obj)} {σ : St} {H : Hp} {s : Shared}
end
end
end Py
namespace L2
open PySem PySem.Spec PyProof.Rows
section
variable {prog : Program} {w : World} {A : Around} {E : Value -> Shared -> Prop} {s : Shared}
end
section
variable {X : Cx} {pins : List (Addr × Obj)} {σ : St} {H : Hp} {s : Shared}
end
section
variable {prog : Program} {w : World} {A : Around} {E : Value -> Shared -> Prop} {s : Shared} {l : Addr} {its : List Value} {ns : List Int} {Q : Value -> Shared -> Prop}
end
section
variable {X : Cx}
end
end L2
namespace Py
open PySem L2
section
variable {T : Tbl} {W : Wd T} {env : Py.Env}
end
end Py
namespace Py
open PySem L2
section
variable {T : Tbl} {W : Wd T} {env : Py.Env} {d : D}
theorem set_split {α : Type} {xs : List α} {j : Nat} (h : j < xs.length) (d : α) : xs.set j d = xs.take j ++ [d] ++ xs.drop (j + 1) := by
  rw [List.set_eq_take_append_cons_drop, if_pos h, List.append_assoc]; rfl
end
end Py
namespace Py
open PySem L2
def mgM {α : Type} : List Bool -> List α -> List α -> List α
  | true :: bs, m :: ms, ws => m :: mgM bs ms ws
  | false :: bs, ms, w :: ws => w :: mgM bs ms ws
  | _, _, _ => []
theorem mgM_rel : ∀ {bs : List Bool} {mz zs : List V} {mv ws : List Value}, Vals mz mv -> Vals zs ws -> Vals (mgM bs mz zs) (mgM bs mv ws)
  | [], _, _, _, _, _, _ => .nil
  | true :: bs, _, _, _, _, .nil, _ => .nil
  | true :: bs, _, _, _, _, .cons h t, r => .cons h (mgM_rel t r)
  | false :: bs, _, _, _, _, r, .nil => by cases r <;> exact .nil
  | false :: bs, _, _, _, _, r, .cons h t => by cases r <;> exact .cons h (mgM_rel (by first | exact .nil | exact .cons (by assumption) (by assumption)) t)
def cV : D -> V
  | .int i => .int i
  | .str x => .str (so x)
  | .bl b => .bl b
  | _ => .non
def cst : D -> Bool
  | .int _ | .str _ | .bl _ | .non => true
  | _ => false
section
variable {T : Tbl} {W : Wd T}
theorem shr_cst {F : Hp} {d : D} (h : cst d = true) : Shr W F d (cV d) := by cases d <;> first | (cases h; done) | exact .int | exact .str | exact .bl | exact .non
theorem mgM_shr {F : Hp} : ∀ {bs : List Bool} {dd zs : List D} {ws : List V}, dd.all cst = true -> Shrs W F zs ws -> Shrs W F (mgM bs dd zs) (mgM bs (dd.map cV) ws)
  | [], _, _, _, _, _ => .nil
  | true :: bs, [], _, _, _, _ => .nil
  | true :: bs, d :: dd, _, _, h, r => by
    rw [List.all_cons, Bool.and_eq_true] at h
    exact .cons (shr_cst h.1) (mgM_shr h.2 r)
  | false :: bs, dd, _, _, h, .nil => by cases dd <;> exact .nil
  | false :: bs, dd, _, _, h, .cons x t => by cases dd <;> exact .cons x (mgM_shr h t)
theorem if_some' {α : Type} {c : Prop} [Decidable c] {a : Option α} {b : α} (h : (if c then a else none) = some b) : c /\ a = some b := by
  split at h
  · exact ⟨by assumption, h⟩
  · cases h
def mkN (φ : Sem) (c ini : String) (n m N : Nat) (bs : List Bool) (dd ds zs : List D) : Option D := if ds.length = n /\ zs.length = m then mk1 φ c ini N (ds ++ mgM bs dd zs) else none
def makeNE (φ : Sem) (c ini : String) (n m N : Nat) (bs : List Bool) (dd : List D) (f g v w : Option (List D)) : Option (Kd × D) := match f, g with
  | some ds, some zs => (mkN φ c ini n m N bs dd ds zs).map (Prod.mk .fr)
  | _, _ => match v, w with
    | some ds, some zs => (mkN φ c ini n m N bs dd ds zs).map fun d => (.vw, fz d)
    | _, _ => none
def xMakeN (φ : Sem) (c ini : String) (n m N : Nat) (bs : List Bool) (dd : List D) (hd : dd.all cst = true) (as ks : XA W) : XP W where
  t := fun σ H Q => W.has c -> tMakeK (W.cA c) n m (spR W N (φ ini) (some 0)) (fun vs zs => vs ++ mgM bs (dd.map cV) zs) E0 as.t ks.t σ H Q
  ev env := makeNE φ c ini n m N bs dd (as.evF env) (ks.evF env) (as.evV env) (ks.evV env)
  snd := fun {env k d} e e' F σ H L Q r q hc => by
    unfold makeNE at e
    split at e
    · rename_i ds zs e1 e2
      obtain ⟨d2, h, e⟩ := Option.map_eq_some_iff.mp e
      cases e
      obtain ⟨⟨l1, l2⟩, h⟩ := if_some' h
      refine as.sF e1 e' F σ H L _ r fun vs F1 H1 x1 y1 => ks.sF e2 e' F1 σ H1 L _ (r.ext x1) fun ws F2 H2 x2 y2 => ?_
      have y1 : Shrs W F1 ds vs := y1
      have y2 : Shrs W F2 zs ws := y2
      exact ⟨by rw [<- y1.length, l1], by rw [<- y2.length, l2], fun x dx hx hdx ne => makeF x2.s (Shrs.append (y1.mono x2.f) (mgM_shr hd y2)) hc h (fun v F3 H3 x3 y3 => q v F3 H3 ((x1.trans x2).trans x3) (rO_back (x1.trans x2).h y3)) x dx hx hdx ne⟩
    · split at e
      · rename_i ds zs e1 e2
        obtain ⟨d2, h, e⟩ := Option.map_eq_some_iff.mp e
        cases e
        obtain ⟨⟨l1, l2⟩, h⟩ := if_some' h
        refine as.sV e1 e' F σ H L _ r fun vs F1 H1 x1 y1 => ks.sV e2 e' F1 σ H1 L _ (r.ext x1) fun ws F2 H2 x2 y2 => ?_
        have y1 : Shrs W H1 ds vs := y1
        have y2 : Shrs W H2 zs ws := y2
        exact ⟨by rw [<- y1.length, l1], by rw [<- y2.length, l2], fun x dx hx hdx ne => makeV x2.s (Shrs.append (y1.mono x2.h) (mgM_shr hd y2)) hc h (fun v H3 x3 y3 => q v F2 H3 ((x1.trans x2).trans x3) y3) x dx hx hdx ne⟩
      · cases e
end
def KShape (K : PySem.W.Frag) (x qual : Str) (st : Stmt) (kws : List (Str × V)) (ps : List Str) (n : Nat) (ks : List Str) (bs : List Bool) (dvs : List V) : Prop :=
  ∀ f fd, FunD K x qual (defArgs st) (defBody st) (defScope st) [] kws f fd -> ∃ g, KBn K fd ps n ks g (fun vs zs => vs ++ mgM bs dvs zs)
theorem kshape1 {K : PySem.W.Frag} {x qual : Str} {st : Stmt} {kws : List (Str × V)} {ps : List Str} {n : Nat} {ks : List Str} {bs : List Bool} (ms : List (Str × V)) (hk : kws ≠ []) (hms : ∀ q ∈ ms, q ∈ kws)
    (h : ∀ (D : Addr) (doc pm : Value) (an : Option Addr) (cdv ct : Value) (us mv ws : List Value), us.length = n -> mv.length = ms.length -> ws.length = ks.length ->
      KwChain D ((ms.map (·.1)).zip mv) (bindArgs (PySem.W.fnOf x qual (defArgs st) (defBody st) (defScope st) .none (.ref D) doc pm an cdv ct) ⟨us, ks.zip ws⟩) (ps.zip (us ++ mgM bs mv ws))) :
    KShape K x qual st kws ps n ks bs (ms.map (·.2)) := fun f fd F => by
  obtain ⟨mv, hb⟩ := F.kbinds0 (ps := ps) n ks ms (fun us mz ws => us ++ mgM bs mz ws) hk hms (fun r1 r2 r3 => r1.append (mgM_rel r2 r3)) h
  exact ⟨_, hb⟩
structure DfD (P : Program) (w : World) (K : PySem.W.Frag) (mg : Str -> Option Value) (base : Heap) (k : Nat) (x qual : Str) (st : Stmt) (kws : List (Str × V)) (ps : List Str) (sp : Sp) : Prop where
  ex : ∃ f fd, FnOk P w K mg base (L2.CX P w) k f fd ps sp /\ mg x = some (.ref f) /\ PySem.W.keepIn K (.ref f) = true /\ FunD K x qual (defArgs st) (defBody st) (defScope st) [] kws f fd
structure MkD (P : Program) (w : World) (K : PySem.W.Frag) (mg : Str -> Option Value) (base : Heap) (k : Nat) (x : Str) (C : Addr) (qual : Str) (st : Stmt) (kws : List (Str × V)) (ps : List Str) (sp : Sp) : Prop where
  ex : ∃ f fd, Mk K C f /\ FnOk P w K mg base (L2.CX P w) k f fd ps sp /\ mg x = some (.ref C) /\ FunD K "__init__" qual (defArgs st) (defBody st) (defScope st) [] kws f fd
section
variable {P : Program} {w : World} {K : PySem.W.Frag} {mg : Str -> Option Value} {base : Heap}
theorem mkD_of {C : Addr} {x qual : Str} {st : Stmt} {kws : List (Str × V)} {N ps : List Str} {k : Nat} {sp : Sp} {f0 : Addr} (M : Mk K C f0) (hm : mg x = some (.ref C)) (D : MethAt K C "__init__" "__init__" qual st [] kws) (S : FnScope N ps (defScope st)) (len : ∀ vs H Q E, sp vs H Q E -> vs.length = ps.length)
    (hbody : ∀ (f : Addr) (cdv : Value) (A : Around) (outer : List PySem.Env) (s : Shared) (H : Hp) (vs : List V) (Q : VK) (E : XK), Room k (A.deeper (PyProof.Rows.envOfC qual (defScope st) s.heap.objs.size f cdv)) -> sp vs H Q E ->
      ∃ t, PSs (cxOf (L2.CX P w) P w K mg base N qual (defScope st) f cdv A outer s H E) (defBody st) t /\ t { nx := fun _ H' => Q .non H', rt := Q } (L2.start N vs) H) : MkD P w K mg base (k + 1) x C qual st kws ps sp := by
  obtain ⟨f, fd, F, hg⟩ := D.ex
  have e := M.init
  rw [hg.at_] at e
  cases e
  refine ⟨_, fd, M, F.ok S len fun cdv A outer s H vs Q E hr h => ?_, hm, F⟩
  obtain ⟨t, q1, q2⟩ := hbody _ cdv A outer s H vs Q E hr h
  exact ⟨t, q1, q2⟩
theorem mkD_no {C : Addr} {x qual : Str} {st : Stmt} {kws : List (Str × V)} {ps : List Str} {k : Nat} {sp : Sp} {f0 : Addr} (M : Mk K C f0) (hm : mg x = some (.ref C)) (D : MethAt K C "__init__" "__init__" qual st [] kws) (h : ∀ vs H Q E, ¬ sp vs H Q E) : MkD P w K mg base k x C qual st kws ps sp := by
  obtain ⟨f, fd, F, hg⟩ := D.ex
  have e := M.init
  rw [hg.at_] at e
  cases e
  exact ⟨_, fd, M, ⟨fun vs H Q E z => absurd z (h vs H Q E), fun A outer s H args us vs Q E _ _ _ _ z => absurd z (h vs H Q E)⟩, hm, F⟩
end
section
variable {X : Cx} {k n : Nat} {x qual : Str} {st : Stmt} {kws0 : List (Str × V)} {ps ks : List Str} {bs : List Bool} {dvs : List V} {sp : Sp} {p pos : Pos} {e : Expr} {es : List Expr} {kws : List Keyword} {t tk : TA}
theorem px_makeN {C : String} {T : Tbl} {W : Wd T} (M : MkD X.prog X.w X.K X.mg X.base k x (W.cA C) qual st kws0 ps sp) (hb : KShape X.K "__init__" qual st kws0 ps (n + 1) ks bs dvs) (hc : W.has C) (hr : Room (k + 1) X.A) (hg : Gl X x)
    (ha : PA X (e :: es) t) (hkw : PK X kws tk) (hall : (backToKw pos (keywordEach kws X.env)).all (·.1.isSome) = true := by rfl) (hks : (backToKw pos (keywordEach kws X.env)).filterMap (·.1) = ks := by rfl)
    (hdb : (x == ("__debug__" : Str)) = false := by decide) (he : starEach (e :: es) X.env = (false, eval e X.env) :: starEach es X.env := by rfl)
    (hpl : ((backTo pos (starEach (e :: es) X.env)).any (·.1) || (backToKw pos (keywordEach kws X.env)).any (·.1.isNone)) = false := by rfl) :
    PE X (.Call (.Name x p) (e :: es) kws pos) (fun σ H Q => W.has C -> tMakeK (W.cA C) n ks.length sp (fun vs zs => vs ++ mgM bs dvs zs) E0 t tk σ H Q) := by
  obtain ⟨f, fd, M, F, hm, FD⟩ := M.ex
  obtain ⟨g, hb⟩ := hb f fd FD
  exact pe_imp hc (pe_makeK M F hr hg hm hb passE0 ha hkw hall hks hdb he hpl)
theorem px_glI {x : Str} {i : Int} {pos : Pos} (h : ∃ t, X.mg x = some (.int i t)) (hg : Gl X x := by rfl) (hd : (x == ("__debug__" : Str)) = false := by decide) : PE X (.Name x pos) (tC (.int i)) := by
  obtain ⟨t, h⟩ := h
  exact pe_glob hg h ⟨t, rfl⟩ hd
end
section
variable {P : Program} {w : World} {K : PySem.W.Frag} {mg : Str -> Option Value} {base : Heap}
end
section
variable {T : Tbl} {W : Wd T}
end
end Py
namespace Py
open PySem L2
def keyD : D -> Option Key
  | .int i => some (.inl i)
  | .str x => some (.inr (so x))
  | _ => none
def dg : List Key -> List D -> Key -> Option D
  | k' :: ks, x :: xs, k => if k' = k then some x else dg ks xs k
  | _, _, _ => none
section
variable {T : Tbl} {W : Wd T} {env : Py.Env} {d : D}
theorem keyD_ok {F : Hp} {v : V} {k : Key} (h : Shr W F d v) (e : keyD d = some k) : v = kV k := by
  cases h <;> first | (cases e; rfl) | cases e
theorem dg_own {F H : Hp} {k : Key} : ∀ {ks : List Key} {xs : List D} {vs : List V} {L : List Addr}, Owns W F H xs vs L -> ks.length = vs.length ->
    (∀ d, dg ks xs k = some d -> ∃ v M, valV (ks.zip vs) k = some v /\ Own W F H d v M) /\ (dg ks xs k = none -> valV (ks.zip vs) k = none)
  | [], xs, vs, _, o, hl => by
    cases vs with
    | nil => cases o; exact ⟨fun d h => by simp [dg] at h, fun _ => rfl⟩
    | cons v vs => simp at hl
  | k' :: ks, _, _, _, .nil, hl => by simp at hl
  | k' :: ks, _, _, _, .cons (v := v) (vs := vs) (L := L1) h t, hl => by
    obtain ⟨i1, i2⟩ := dg_own (k := k) (ks := ks) t (by simpa using hl)
    rw [List.zip_cons_cons]
    by_cases e : k' = k
    · unfold dg
      rw [if_pos e, valV_pos (p := (k', v)) e]
      exact ⟨fun d hd => by cases hd; exact ⟨v, L1, rfl, h⟩, fun z => nomatch z⟩
    · unfold dg
      rw [if_neg e, valV_neg (p := (k', v)) e]
      exact ⟨i1, i2⟩
def dicOf : D -> Option (List Key × List D)
  | .dic ks xs => some (ks, xs)
  | .odic ks xs => some (ks, xs)
  | _ => none
theorem dicOf_ok {F H : Hp} {v : V} {L : List Addr} {ks : List Key} {xs : List D} (s : Same F H) (o : Own W F H d v L) (h : dicOf d = some (ks, xs)) : ∃ a vs M, v = .ref a /\ Rd H a (.dK (ks.zip vs)) /\ ks.length = vs.length /\ ks.Nodup /\ Owns W F H xs vs M := by
  cases o with
  | sh y =>
    cases y <;> first | (cases h; done) | skip
    rename_i a1 vs1 h1 h2 h3 h4
    cases h
    exact ⟨_, _, [], rfl, rd_same s h1, h2, h3, Shrs.owns h4⟩
  | odic ha hl hn hs => cases h; exact ⟨_, _, _, rfl, .inl ha, hl, hn, hs⟩
  | olst => cases h
  | odit => cases h
  | odig => cases h
  | olf => cases h
  | oxt => cases h
  | otup => cases h
  | oins => cases h
def xDnew {T : Tbl} (W : Wd T) : XP W where
  t := tDNewK
  ev _ := some (.fr, .odic [] [])
  snd := fun e => by
    cases e
    exact fun e' F σ H L Q r q p hp => q _ F _ (.newH r.sF hp) ⟨[p], .odic (vs := []) upd_same rfl .nil .nil, by simp, fun x m => by rw [List.mem_singleton.mp m]; exact ⟨hp, r.sF.free hp⟩⟩
def DGetN (H : Hp) (a : Addr) (y : V) (o : Option V) : Prop := DGet H a y o \/ (y = .non /\ (∃ kvs, Rd H a (.dK kvs)) /\ o = none)
section
variable {X : Cx} {pins : List (Addr × Obj)} {σ : St} {H : Hp} {s : Shared} {A : Around} {E : Value -> Shared -> Prop} {kvs : List (Key × V)} {a : Addr}
theorem d_get2None {z : V} {r : Value} {Q : Value -> Shared -> Prop} (I : Inv X pins σ H s) (e : Rd H a (.dK kvs)) (rd : RelV z r) (h : ∀ s', Inv X pins σ H s' -> Q r s') : wpAny (model X.prog X.w) A (call (.builtin "dict.get") [.ref a, .none, r]) Q E s := by
  obtain ⟨_, hd, vs, _, dd⟩ := dk_rd I.hok e
  obtain ⟨f, hm, hf⟩ := none_map dd
  have hk : (noneKind X.prog X.w).is none .none = true := rfl
  refine call_meetsIn PySem.F.slot_dict_get dd.typeIs PySem.F.entry_dict_get (PySem.F.args_dict_get_3 _ _ _) (meets_dict_get_default (noneKind X.prog X.w) a hk hd r) ⟨_, hm, ?_⟩
  rw [hf]
  exact h _ (I.tok _)
end
def tDGet2N (td ty tx : TE) : TE := fun σ H Q => td σ H fun x H1 => ∃ a, x = .ref a /\ IsD H1 a /\ ty σ H1 fun y H2 => tx σ H2 fun z H3 => ∃ o, DGetN H3 a y o /\ Q (o.getD z) H3
theorem pe_dget2N {X : Cx} {o e f : Expr} {td ty tx : TE} {apos cpos : Pos} (hu : X.A.units + 1 < cLine) (ho : PE X o td) (he : PE X e ty) (hf : PE X f tx) (m : M2 X o "get" apos e f cpos) : PE X (.Call (.Attribute o "get" apos) [e, f] [] cpos) (tDGet2N td ty tx) := by
  refine ⟨fun pins s σ H Q I h => ?_⟩
  refine wpAny_Call_method m.base m.few m.line PySem.F.plainAttrs_dict PySem.F.slot_dict_get PySem.F.type_dict_get (thn (ho.run pins s σ H _ I h) fun u s1 ⟨x, H1, I1, rx, a, ex, d, q1⟩ => ?_)
  subst ex
  obtain rfl : u = Value.ref a := rx
  obtain ⟨t1, t2, _⟩ := isD_at I1 d
  refine ⟨t1, t2, ?_⟩
  rw [m.trees]
  refine Calls.callWith_builtin rfl (Calls.evalArgs_plain (Calls.spliced_cons (thn (he.run pins s1 σ H1 _ I1 q1) fun iv s2 ⟨y, H2, I2, ry, q2⟩ =>
    Calls.spliced_cons (thn (hf.run pins s2 σ H2 _ I2 q2) fun fv s3 ⟨z, H3, I3, rz, o, g, q3⟩ => Calls.spliced_nil ?_))))
  rcases g with g | ⟨ey, ⟨kvs, e⟩, eo⟩
  · exact d_get2 hu I3 g ry rz fun w' s4 I4 rw' => ⟨_, H3, I4, rw', q3⟩
  · subst ey eo
    obtain rfl : iv = Value.none := ry
    exact d_get2None I3 e rz fun s4 I4 => ⟨_, H3, I4, rz, q3⟩
def getE (ks : List Key) (xs : List D) (p : Kd) (y : D) (z : Kd × D) : Option (Kd × D) := match y with
  | .non => some z
  | y => (keyD y).map fun k => match dg ks xs k with
    | some x => p.of x
    | none => z
theorem rK_back {F H H0 H1 : Hp} {k : Kd} {v : V} {d : D} (e : Same H0 H1) (h : rK W k d F H H1 v) : rK W k d F H H0 v := by
  cases k with
  | fr => exact rO_back e h
  | pl => exact h
  | vw => exact h
def xDget2 (a b c : XP W) : XP W where
  t := tDGet2N a.t b.t c.t
  ev env := (a.ev env).bind fun p => (dicOf p.2).bind fun q => (b.evV env).bind fun y => (c.ev env).bind fun z => getE q.1 q.2 p.1 y z
  snd := fun {env k d} e => by
    obtain ⟨⟨kp, dp⟩, e1, e⟩ := Option.bind_eq_some_iff.mp e
    obtain ⟨⟨ks, xs⟩, e2, e⟩ := Option.bind_eq_some_iff.mp e
    obtain ⟨y, e3, e⟩ := Option.bind_eq_some_iff.mp e
    obtain ⟨⟨kz, dz⟩, e4, e⟩ := Option.bind_eq_some_iff.mp e
    intro e' F σ H L Q r q
    refine a.snd e1 e' F σ H L _ r fun v F1 H1 x1 y1 => ?_
    obtain ⟨M, o⟩ := rK_own y1
    obtain ⟨da, vs, M1, rfl, rd, hl, hn, os⟩ := dicOf_ok (basis_same x1.s) o e2
    refine ⟨da, rfl, .inl ⟨_, rd⟩, b.sV e3 e' F1 σ H1 L _ (r.ext x1) fun u F2 H2 x2 y2 => c.snd e4 e' F2 σ H2 L _ ((r.ext x1).ext x2) fun w F3 H3 x3 y3 => ?_⟩
    have x12 := x2.trans x3
    have rd3 := rd_same x12.h rd
    have os3 := os.frame (F' := basis kp F3 H3) (H' := H3) x12.basis fun a _ o q => x12.h _ _ q
    have y2 : Shr W H2 y u := y2
    have y2 := y2.mono x3.h
    have back : ∀ {k d v}, rK W k d F3 H3 H2 v -> rK W k d F3 H3 H v := fun h => rK_back (x1.h.trans x2.h) h
    dsimp only at e
    by_cases hy : ∃ k, keyD y = some k
    · obtain ⟨ky, hk⟩ := hy
      have ee : (some (match dg ks xs ky with | some x => kp.of x | none => (kz, dz))) = some (k, d) := by
        rw [<- e]
        cases y <;> first | (cases hk; done) | (simp only [getE, hk, Option.map_some])
      have hv := keyD_ok y2 hk
      obtain ⟨g1, g2⟩ := dg_own (k := ky) os3 hl
      cases hg : dg ks xs ky with
      | none =>
        rw [hg] at ee
        cases ee
        refine ⟨none, .inl (.inl ⟨_, ky, rd3, hv, (g2 hg).symm⟩), ?_⟩
        exact q _ F3 H3 (x1.trans x12) (back y3)
      | some x =>
        rw [hg] at ee
        obtain ⟨v', M', hv', ov⟩ := g1 x hg
        refine ⟨some v', .inl (.inl ⟨_, ky, rd3, hv, hv'.symm⟩), ?_⟩
        exact q _ F3 H3 (x1.trans x12) (rK_of x3.s ov (Option.some.inj ee))
    · have hyn : y = .non := by
        cases y <;> first | rfl | skip
        all_goals first | (exact absurd ⟨_, rfl⟩ hy) | (simp [getE, keyD] at e)
      subst hyn
      cases e
      cases y2
      exact ⟨none, .inr ⟨rfl, ⟨_, rd3⟩, rfl⟩, q _ F3 H3 (x1.trans x12) (back y3)⟩
theorem ps_alt {X : Cx} {st : Stmt} {t1 t2 : TS} (h1 : PS X st t1) (h2 : PS X st t2) : PS X st (fun D σ H => t1 D σ H \/ t2 D σ H) :=
  ⟨fun pins s σ H D I h => h.elim (h1.run pins s σ H D I) (h2.run pins s σ H D I)⟩
theorem PSet.or {X : Cx} {r r' : TSet} (h : PSet X r) (h' : PSet X r') : PSet X (fun o i v H Q => r o i v H Q \/ r' o i v H Q) :=
  fun pins s σ H o i v ov iv u Q I ro ri rv q => q.elim (h pins s σ H o i v ov iv u Q I ro ri rv) (h' pins s σ H o i v ov iv u Q I ro ri rv)
def orR (a b : RS) : RS := match a with
  | .no => b
  | r => r
def xsAlt (s u : XS W) : XS W where
  t E := fun D σ H => s.t E D σ H \/ u.t E D σ H
  ev P env := orR (s.ev P env) (u.ev P env)
  snd := fun P E env hn e F σ H L Dn hP r h => by
    have hs := s.snd P E env
    cases hr : s.ev P env with
    | no =>
      rw [hr] at hn h
      exact .inr (u.snd P E env hn e F σ H L Dn hP r h)
    | _ =>
      rw [hr] at hs h
      exact .inl (hs (by simp) e F σ H L Dn hP r h)
def dgE (ks : List Key) (xs : List D) (p : Kd) (y : D) : Option (Kd × D) := (keyD y).bind fun k => (dg ks xs k).map p.of
def xDix (a b : XP W) : XP W where
  t := tDGet a.t b.t
  ev env := (a.ev env).bind fun p => (dicOf p.2).bind fun q => (b.evV env).bind fun y => dgE q.1 q.2 p.1 y
  snd := fun {env k d} e => by
    obtain ⟨⟨kp, dp⟩, e1, e⟩ := Option.bind_eq_some_iff.mp e
    obtain ⟨⟨ks, xs⟩, e2, e⟩ := Option.bind_eq_some_iff.mp e
    obtain ⟨y, e3, e⟩ := Option.bind_eq_some_iff.mp e
    obtain ⟨ky, hk, e⟩ := Option.bind_eq_some_iff.mp e
    obtain ⟨x, hx, e⟩ := Option.map_eq_some_iff.mp e
    intro e' F σ H L Q r q
    refine a.snd e1 e' F σ H L _ r fun v F1 H1 x1 y1 => b.sV e3 e' F1 σ H1 L _ (r.ext x1) fun u F2 H2 x2 y2 => ?_
    obtain ⟨M, o⟩ := rK_own y1
    have o2 : Own W (basis kp F2 H2) H2 dp v M := o.frame x2.basis fun a _ o q => x2.h _ _ q
    obtain ⟨da, vs, M1, rfl, rd, hl, hn, os⟩ := dicOf_ok (basis_same x2.s) o2 e2
    have y2 : Shr W H2 y u := y2
    obtain ⟨v', M', hv', ov⟩ := (dg_own (k := ky) os hl).1 x hx
    exact ⟨da, v', rfl, .inl ⟨_, ky, rd, keyD_ok y2 hk, hv'.symm⟩, q _ F2 H2 (x1.trans x2) (rK_of x2.s ov e)⟩
def fls : List D -> Option (List V)
  | [] => some []
  | d :: ds => (fl d).bind fun v => (fls ds).map (v :: ·)
def inL (neg : Bool) (x : D) (ys : List D) : Option D := (fl x).bind fun v => (fls ys).map fun vs => .bl (if neg then !inV v vs else inV v vs)
def hasK (ks : List Key) (k : Key) : Bool := ks.any fun j => decide (j = k)
theorem hasK_valV {k : Key} : ∀ {ks : List Key} {vs : List V}, ks.length = vs.length -> (valV (ks.zip vs) k).isSome = hasK ks k
  | [], [], _ => rfl
  | [], _ :: _, h => by simp at h
  | _ :: _, [], h => by simp at h
  | k' :: ks, v :: vs, h => by
    rw [List.zip_cons_cons]
    unfold hasK
    rw [List.any_cons]
    by_cases e : k' = k
    · rw [valV_pos (p := (k', v)) e, decide_eq_true e]; rfl
    · rw [valV_neg (p := (k', v)) e, decide_eq_false e, hasK_valV (by simpa using h)]; rfl
def kDs : List Key -> Option (List D)
  | [] => some []
  | .inl i :: ks => (kDs ks).map (.int i :: ·)
  | .inr _ :: _ => none
theorem kDs_ok {F : Hp} : ∀ {ks : List Key} {vs : List V} {ds : List D}, ks.length = vs.length -> kDs ks = some ds -> Shrs W F ds ((ks.zip vs).map fun kv => kV kv.1)
  | [], [], _, _, e => by cases e; exact .nil
  | [], _ :: _, _, h, _ => by simp at h
  | _ :: _, [], _, h, _ => by simp at h
  | .inl i :: ks, v :: vs, _, h, e => by
    obtain ⟨ds, e1, rfl⟩ := Option.map_eq_some_iff.mp e
    exact .cons .int (kDs_ok (by simpa using h) e1)
  | .inr _ :: _, _, _, _, e => by cases e
abbrev rDictK : List V -> Hp -> VK -> Prop := fun xs H Q => ∃ (a : Addr) (kvs : List (Key × V)), xs = [.ref a] /\ Rd H a (.dK kvs) /\ ∀ p, H p = none -> Q (.ref p) (upd H p (.dK kvs))
def dicF : D -> Option (List Key × List D)
  | .dic ks xs => some (ks, xs)
  | .odic ks xs => if xs.all isSh = true then some (ks, xs) else none
  | _ => none
theorem dicF_ok {F H : Hp} {v : V} {L : List Addr} {ks : List Key} {xs : List D} (s : Same F H) (o : Own W F H d v L) (h : dicF d = some (ks, xs)) : ∃ a vs, v = .ref a /\ Rd H a (.dK (ks.zip vs)) /\ ks.length = vs.length /\ ks.Nodup /\ Shrs W F xs vs := by
  cases o with
  | sh y =>
    cases y <;> first | (cases h; done) | skip
    rename_i a1 vs1 h1 h2 h3 h4
    cases h
    exact ⟨_, _, rfl, rd_same s h1, h2, h3, h4⟩
  | odic ha hl hn hs => obtain ⟨hz, e⟩ := ite_some h; cases e; exact ⟨_, _, rfl, .inl ha, hl, hn, hs.shrs hz⟩
  | olst => cases h
  | odit => cases h
  | odig => cases h
  | olf => cases h
  | oxt => cases h
  | otup => cases h
  | oins => cases h
def xDict (a : XP W) : XP W where
  t := tCB rDictK (tCons a.t tNil)
  ev env := (a.evK env).bind fun d => (dicF d).map fun q => (.fr, .odic q.1 q.2)
  snd := fun {env k d} e => by
    obtain ⟨d0, e1, e⟩ := Option.bind_eq_some_iff.mp e
    obtain ⟨⟨ks, xs⟩, e2, e⟩ := Option.map_eq_some_iff.mp e
    cases e
    intro e' F σ H L Q r q
    refine a.sK e1 e' F σ H L _ r fun v F1 H1 x1 ⟨M, o⟩ => ?_
    obtain ⟨da, vs, rfl, rd, hl, hn, os⟩ := dicF_ok x1.s o e2
    exact ⟨da, _, rfl, rd, fun p hp => q _ F1 _ (x1.trans (.newH x1.s hp)) ⟨[p], .odic upd_same hl hn os.owns, by simp, fun x m => by
      rw [List.mem_singleton.mp m]; exact ⟨x1.h.free hp, x1.s.free hp⟩⟩⟩
theorem pos_none_has {k : Key} : ∀ {ks : List Key}, pos k ks = none -> (∀ k' ∈ ks, k' ≠ k)
  | [], _, _, m => nomatch m
  | k1 :: ks, h, k', m => by
    have h : (if k1 = k then some 0 else (pos k ks).map (· + 1)) = none := h
    split at h
    · cases h
    · rename_i e
      rcases List.mem_cons.mp m with rfl | m
      · exact e
      · exact pos_none_has (Option.map_eq_none_iff.mp h) k' m
theorem putK_none {k : Key} {v : V} {ks : List Key} {vs : List V} (hl : ks.length = vs.length) (h : pos k ks = none) : putK (ks.zip vs) k v = (ks ++ [k]).zip (vs ++ [v]) := by
  have hn : valV (ks.zip vs) k = none := by
    cases e : valV (ks.zip vs) k with
    | none => rfl
    | some x =>
      have := hasK_valV (k := k) hl
      rw [e] at this
      have this : hasK ks k = true := this.symm
      unfold hasK at this
      obtain ⟨k', m, e'⟩ := List.any_eq_true.mp this
      exact absurd (of_decide_eq_true e') (pos_none_has h k' m)
  rw [putK_new v hn, List.zip_append hl]; rfl
theorem pos_has {k : Key} : ∀ {ks : List Key} {j : Nat}, pos k ks = some j -> hasK ks k = true
  | k1 :: ks, j, h => by
    have h : (if k1 = k then some 0 else (pos k ks).map (· + 1)) = some j := h
    unfold hasK
    rw [List.any_cons]
    split at h
    · rename_i e; rw [decide_eq_true e]; rfl
    · obtain ⟨i, h1, _⟩ := Option.map_eq_some_iff.mp h
      have := pos_has h1
      unfold hasK at this
      rw [this, Bool.or_true]
theorem putK_map {k : Key} {v : V} : ∀ {ks : List Key} {vs : List V} {j : Nat}, ks.length = vs.length -> ks.Nodup -> pos k ks = some j -> (ks.zip vs).map (fun kv => if kv.1 = k then (kv.1, v) else kv) = ks.zip (vs.set j v)
  | [], _, _, _, _, h => by cases h
  | _ :: _, [], _, h, _, _ => by simp at h
  | k1 :: ks, u :: vs, j, hl, hn, h => by
    have h : (if k1 = k then some 0 else (pos k ks).map (· + 1)) = some j := h
    rw [List.nodup_cons] at hn
    rw [List.zip_cons_cons, List.map_cons]
    split at h
    · rename_i e
      cases h
      rw [if_pos e, List.set_cons_zero, List.zip_cons_cons]
      congr 1
      have : ∀ kv ∈ ks.zip vs, (if kv.1 = k then (kv.1, v) else kv) = kv := fun kv m => by
        rw [if_neg]
        intro z
        have := (List.of_mem_zip (a := kv.1) (b := kv.2) m).1
        rw [z, <- e] at this
        exact hn.1 this
      exact (List.map_congr_left this).trans (List.map_id _)
    · rename_i e
      obtain ⟨i, h1, h2⟩ := Option.map_eq_some_iff.mp h
      subst h2
      rw [if_neg e, List.set_cons_succ, List.zip_cons_cons, putK_map (by simpa using hl) hn.2 h1]
theorem putK_some {k : Key} {v : V} {ks : List Key} {vs : List V} {j : Nat} (hl : ks.length = vs.length) (hn : ks.Nodup) (h : pos k ks = some j) : putK (ks.zip vs) k v = ks.zip (vs.set j v) := by
  unfold putK
  rw [if_pos, putK_map hl hn h]
  rw [valV_any, hasK_valV hl]
  exact pos_has h
theorem mop_atD {G : D} {F H : Hp} {a : Addr} {L : List Addr} {Ms : List Addr} {ys : List D} {ws : List V} {o : HO} {M' L2 : List Addr} {v' : V} {Q : VK} (s : Same F H) (nd : (Ms ++ (a :: L)).Nodup) (kF : ∀ b ∈ Ms ++ (a :: L), F b = none)
    (hG : ∀ (F' H' : Hp) (L' : List Addr), H' a = some o -> Owns W F' H' ys ws L' -> Own W F' H' G (.ref a) (a :: L')) (hs : Owns W F H ys ws L2) (od : Own W F H d v' M') (n2 : (M' ++ L2).Nodup) (sub : ∀ b ∈ M' ++ L2, b ∈ L \/ b ∈ Ms)
    (q : ∀ F' H' v' Ln' M', Same F F' -> Same F' H' -> (∀ b o, b ∉ a :: L -> H b = some o -> H' b = some o) -> (∀ b o, F' b = some o -> F b = some o \/ H b = none) -> Own W F' H' G (.ref a) Ln' -> Own W F' H' d v' M' -> (M' ++ Ln').Nodup ->
      (∀ b ∈ M' ++ Ln', F' b = none /\ (b ∈ a :: L \/ b ∈ Ms \/ H b = none)) -> Q v' H') : Q v' (upd H a o) := by
  rw [List.nodup_append] at nd
  obtain ⟨n3, n4, n5⟩ := nd
  rw [List.nodup_cons] at n4
  have na : ∀ b ∈ M' ++ L2, b ≠ a := fun b hb z => by
    subst z
    rcases sub _ hb with y | y
    · exact n4.1 y
    · exact n5 _ y _ (List.mem_cons_self ..) rfl
  have Fa : F a = none := kF a (List.mem_append_right _ (List.mem_cons_self ..))
  refine q F (upd H a o) v' (a :: L2) M' (Same.refl _) (same_upd s Fa) (fun b u hb hu => ?_) (fun b u hu => .inl hu) (hG F _ _ upd_same (owns_upd hs fun z => na a (List.mem_append_right _ z) rfl)) (own_upd od fun z => na a (List.mem_append_left _ z) rfl) ?_ (fun b hb => ?_)
  · rw [upd_ne (fun z => hb (by rw [z]; exact List.mem_cons_self ..))]; exact hu
  · rw [List.nodup_append] at n2 ⊢
    refine ⟨n2.1, List.nodup_cons.mpr ⟨fun z => na a (List.mem_append_right _ z) rfl, n2.2.1⟩, fun b hb c hc => ?_⟩
    rcases List.mem_cons.mp hc with z | z
    · rw [z]; exact na b (List.mem_append_left _ hb)
    · exact n2.2.2 b hb c z
  · rcases List.mem_append.mp hb with z | z
    · have := sub b (List.mem_append_left _ z)
      refine ⟨kF b ?_, ?_⟩
      · rcases this with y | y
        · exact List.mem_append_right _ (List.mem_cons_of_mem _ y)
        · exact List.mem_append_left _ y
      · rcases this with y | y
        · exact .inl (List.mem_cons_of_mem _ y)
        · exact .inr (.inl y)
    · rcases List.mem_cons.mp z with z | z
      · subst z; exact ⟨Fa, .inl (List.mem_cons_self ..)⟩
      · have := sub b (List.mem_append_right _ z)
        refine ⟨kF b ?_, ?_⟩
        · rcases this with y | y
          · exact List.mem_append_right _ (List.mem_cons_of_mem _ y)
          · exact List.mem_append_left _ y
        · rcases this with y | y
          · exact .inl (List.mem_cons_of_mem _ y)
          · exact .inr (.inl y)
def putP (ks : List Key) (xs : List D) (k : Key) (y : D) : Option (List Key × List D) := match pos k ks with
  | none => some (ks ++ [k], xs ++ [y])
  | some j => if xs.all isSh = true then some (ks, xs.set j y) else none
def dputD (n : D) (ds : List D) : Option (D × D) := match n, ds with
  | .odic ks xs, [i, d] => if xs.length < 1000000 then (keyD i).bind fun k => (putP ks xs k d).map fun q => (.odic q.1 q.2, .non) else none
  | _, _ => none
def rDput : V -> List V -> Hp -> VK -> Prop := fun x ys H Q => ∃ (a : Addr) (k v : V) (H' : Hp), x = .ref a /\ ys = [k, v] /\ DPut H a k v H' /\ Q .non H'
theorem mop_dput : Mop W rDput dputD := by
  intro n ds n' d hf F H vn Ln vs Ms Q s o os nd kF q
  unfold dputD at hf
  split at hf
  · rename_i ks xs i d2
    have hz : xs.length < 1000000 := by
      by_cases h : xs.length < 1000000
      · exact h
      · rw [if_neg h] at hf; cases hf
    rw [if_pos hz] at hf
    obtain ⟨k, hk, hf⟩ := Option.bind_eq_some_iff.mp hf
    obtain ⟨⟨ks', xs'⟩, hp, e⟩ := Option.map_eq_some_iff.mp hf
    cases e
    obtain ⟨v1, v2, L1, L2, rfl, o1, o2, rfl⟩ := os.two
    have hi : isSh i = true := by cases i <;> first | rfl | cases hk
    have hv := keyD_ok (o1.shr hi) hk
    cases o1.shNil hi
    cases o with
    | sh y => cases y
    | @odic a _ _ vs L ha hl hn hs =>
      have hz2 : (ks.zip vs).length < sizeLine := by
        rw [List.length_zip, <- hs.length]
        exact Nat.lt_of_le_of_lt (Nat.min_le_right _ _) (Nat.lt_of_lt_of_le hz (by decide))
      unfold putP at hp
      cases hpos : pos k ks with
      | none =>
        rw [hpos] at hp
        cases hp
        refine ⟨a, v1, v2, _, rfl, rfl, .inl ⟨_, k, ha, hv, hz2, rfl⟩, ?_⟩
        rw [putK_none hl hpos]
        refine mop_atD (ys := xs ++ [d2]) (ws := vs ++ [v2]) s nd kF (fun F' H' L' h1 h2 => .odic h1 (by simp [hl]) ?_ h2) (hs.append (.cons o2 .nil)) (.sh .non) ?_ (fun b hb => ?_) q
        · rw [List.nodup_append]
          exact ⟨hn, by simp, fun x hx y hy z => pos_none_has hpos x hx (by rw [z]; simpa using hy)⟩
        · have := nd_swap (nd_tail nd)
          simpa using this
        · simpa using hb
      | some j =>
        rw [hpos] at hp
        obtain ⟨hall, e⟩ := ite_some hp
        cases e
        refine ⟨a, v1, v2, _, rfl, rfl, .inl ⟨_, k, ha, hv, hz2, rfl⟩, ?_⟩
        rw [putK_some hl hn hpos]
        have sh := hs.shrs hall
        have hj : j < ks.length := by
          have := pos_get hpos
          exact (List.getElem?_eq_some_iff.mp this).1
        have hjx : j < xs.length := by have := hs.length; omega
        refine mop_atD (ys := xs.set j d2) (ws := vs.set j v2) (L2 := L2 ++ []) s nd kF (fun F' H' L' h1 h2 => .odic h1 (by simp [hl]) hn h2) ?_ (.sh .non) ?_ (fun b hb => ?_) q
        · rw [set_split hjx, set_split (by rw [<- hs.length]; exact hjx)]
          have h3 := ((sh.take j).owns (H := H)).append (.cons o2 ((sh.drop (j + 1)).owns))
          rw [List.nil_append] at h3
          rw [List.append_assoc, List.append_assoc]
          exact h3
        · have := (List.nodup_append.mp nd).1
          simpa using this
        · exact .inr (by simpa using hb)
  · cases hf
def rSetD : TSet := fun o i v H Q => ∃ (a : Addr) (H' : Hp), o = .ref a /\ DPut H a i v H' /\ Q H'
theorem set_dict {X : Cx} (hu : X.A.units + 1 < cLine) : PSet X rSetD := by
  intro pins s σ H o i v ov iv u Q I ro ri rv h
  obtain ⟨a, H', rfl, g, q⟩ := h
  cases ro
  exact d_setItem hu I g ri rv fun s' I' => ⟨H', I', q⟩
def dputK {T : Tbl} {W : Wd T} (p : XPl W) (k : XP W) (d : D) (e : Py.Env) : RS := RS.ofO ((p.ev e).bind fun q => (k.evF e).bind fun i => (dputD q.2 [i, d]).bind fun z => (getS e p.root).map fun d0 => e.set p.root (some (d0.putAt q.1 z.1)))
def xsDput (p : XPl W) (k : XP W) (m : XM W) : XS W where
  t E := tAsg (m.t E) (gSub p.t k.t rSetD)
  ev P env := (m.ev P env).thenS (dputK p k)
  snd := fun P E env hn e F σ H L Dn hP r s => by
    have hm : m.ev P env ≠ .no := fun z => hn (by rw [z]; rfl)
    refine (m.snd P E env).run hm hP r s (fun x e1 h => by rw [h]; rfl) fun d env' v F' H' L' M h r' o nd kk => ?_
    rw [h] at hn s
    have hn : dputK p k d env' ≠ .no := hn
    have s : Sat W e E (ends (dputK p k d env')) Dn := s
    unfold dputK at hn s
    cases h2 : ((p.ev env').bind fun q => (k.evF env').bind fun i => (dputD q.2 [i, d]).bind fun z => (getS env' p.root).map fun d0 => env'.set p.root (some (d0.putAt q.1 z.1))) with
    | none => rw [h2] at hn; exact absurd rfl hn
    | some e2 =>
      rw [h2] at s
      obtain ⟨⟨st, n⟩, e1, h3⟩ := Option.bind_eq_some_iff.mp h2
      obtain ⟨i, ei, h3⟩ := Option.bind_eq_some_iff.mp h3
      obtain ⟨⟨n', d'⟩, e3, h4⟩ := Option.bind_eq_some_iff.mp h3
      obtain ⟨d0', e4, h5⟩ := Option.map_eq_some_iff.mp h4
      subst h5
      obtain ⟨d0, h0, h1⟩ := p.at_ e1
      rw [getS_some e4] at h0
      cases h0
      obtain ⟨v0, _, _, _, hs, _⟩ := r'.focus (getS_some e4) h1
      refine p.loc e1 e F' σ H' L' v0 _ r' hs fun vn F1 H1 x1 p1 => ?_
      refine k.sF ei e F1 σ H1 L' _ (r'.ext x1) fun u F2 H2 x2 y2 => ?_
      rw [List.nodup_append] at nd
      obtain ⟨nd1, nd2, nd3⟩ := nd
      have x12 := x1.trans x2
      have go : rDput vn [u, v] H2 (fun _ H => Dn.nx σ H) := by
        refine am_mop mop_dput ((r'.ext x1).ext x2) (getS_some e4) h1 hs (p1.mono x2.h) e3 (Ms := [] ++ (M ++ [])) (.cons (.sh y2) (.cons (o.frame x12.f fun a _ o q => x12.h _ _ q) .nil)) (by simpa using nd1) (fun a ha => ?_) fun v2 F2 H2 L2 M2 r2 o2 n2 k2 => s.nx _ _ _ _ _ rfl r2
        have ha : a ∈ M := by simpa using ha
        refine ⟨fun z => nd3 a ha a z rfl, ?_, (kk a ha).2⟩
        obtain ⟨u, hu⟩ := o.lives a ha
        cases z : F2 a with
        | none => rfl
        | some w =>
          rcases x12.n a w z with y | y
          · rw [(kk a ha).1] at y; cases y
          · rw [hu] at y; cases y
      obtain ⟨a, k2, v', H', ex, ey, hd, q⟩ := go
      cases ey
      exact ⟨a, H', ex, hd, q⟩
end
end Py
namespace Py
open PySem L2
section
variable {T : Tbl} {W : Wd T} {env : Py.Env} {d : D} {P : List Nat} {E : WX} {A : AEnds}
def SameL (F F' : Hp) : Prop := ∀ a o, F a = some o -> F' a = some o \/ (∃ kvs od, o = .dK kvs /\ F' a = some (.frz od (.dK kvs))) \/ ∃ kvs od, o = .frz od (.dK kvs) /\ F' a = some (.dK kvs)
theorem SameL.eq {F F' : Hp} (e : SameL F F') {a : Addr} {o : HO} (h : F a = some o) (h1 : ∀ kvs, o ≠ .dK kvs) (h2 : ∀ od kvs, o ≠ .frz od (.dK kvs)) : F' a = some o := by
  rcases e a o h with q | ⟨kvs, od, q, _⟩ | ⟨kvs, od, q, _⟩
  · exact q
  · exact absurd q (h1 kvs)
  · exact absurd q (h2 od kvs)
theorem SameL.rd {F F' : Hp} (e : SameL F F') {a : Addr} {kvs : List (Key × V)} (h : Rd F a (.dK kvs)) : Rd F' a (.dK kvs) := by
  rcases h with h | ⟨o, h⟩
  · rcases e a _ h with q | ⟨kvs', od, q, q2⟩ | ⟨kvs', od, q, _⟩
    · exact .inl q
    · cases q; exact .inr ⟨_, q2⟩
    · cases q
  · rcases e a _ h with q | ⟨kvs', od, q, q2⟩ | ⟨kvs', od, q, q2⟩
    · exact .inr ⟨_, q⟩
    · cases q
    · cases q; exact .inl q2
theorem SameL.rdT {F F' : Hp} (e : SameL F F') {a : Addr} {kvs : List (List Key × V)} (h : Rd F a (.dT kvs)) : Rd F' a (.dT kvs) := by
  rcases h with h | ⟨o, h⟩
  · exact .inl (e.eq h (fun _ z => nomatch z) fun _ _ z => nomatch z)
  · exact .inr ⟨_, e.eq h (fun _ z => nomatch z) fun _ _ z => nomatch z⟩
theorem SameL.seq {F F' : Hp} (e : SameL F F') {K : PySem.W.Frag} {a : Addr} {vs : List V} (h : SqL K F a vs) : SqL K F' a vs := by
  rcases h with (h | ⟨o, h⟩) | h
  · exact .inl (.inl (e.eq h (fun _ z => nomatch z) fun _ _ z => nomatch z))
  · exact .inl (.inr ⟨o, e.eq h (fun _ z => nomatch z) fun _ _ z => nomatch z⟩)
  · exact .inr h
mutual
theorem Shr.lock {F F' : Hp} (e : SameL F F') : ∀ {d : D} {v : V}, Shr W F d v -> Shr W F' d v
  | _, _, .non => .non
  | _, _, .bl => .bl
  | _, _, .int => .int
  | _, _, .str => .str
  | _, _, .cls h => .cls h
  | _, _, .sei h n => .sei (e.eq h (fun _ z => nomatch z) fun _ _ z => nomatch z) n
  | _, _, .scr h => .scr (e.seq h)
  | _, _, .tup h hs => .tup (e.eq h (fun _ z => nomatch z) fun _ _ z => nomatch z) (Shrs.lock e hs)
  | _, _, .lst h hs => .lst (e.eq h (fun _ z => nomatch z) fun _ _ z => nomatch z) (Shrs.lock e hs)
  | _, _, .dic h l n hs => .dic (e.rd h) l n (Shrs.lock e hs)
  | _, _, .dit h l n hs => .dit (e.rdT h) l n (Shrs.lock e hs)
  | _, _, .dig h k l hs => .dig (e.eq h (fun _ z => nomatch z) fun _ _ z => nomatch z) (Shrs.lock e k) l (Shrs.lock e hs)
  | _, _, .dlf h l n hs => .dlf (e.eq h (fun _ z => nomatch z) fun _ _ z => nomatch z) l n (Shrs.lock e hs)
  | _, _, .xt h k hs => .xt (e.eq h (fun _ z => nomatch z) fun _ _ z => nomatch z) (Shrs.lock e k) (Shrs.lock e hs)
  | _, _, .len h hs => .len (e.eq h (fun _ z => nomatch z) fun _ _ z => by cases z) (Shrs.lock e hs)
  | _, _, .ins h c l hs => .ins (e.eq h (fun _ z => nomatch z) fun _ _ z => nomatch z) c l (Shrs.lock e hs)
theorem Shrs.lock {F F' : Hp} (e : SameL F F') : ∀ {d : List D} {v : List V}, Shrs W F d v -> Shrs W F' d v
  | _, _, .nil => .nil
  | _, _, .cons h t => .cons (Shr.lock e h) (Shrs.lock e t)
end
mutual
theorem Own.lock {F F' H H' : Hp} (e : SameL F F') : ∀ {d : D} {v : V} {L : List Addr}, (∀ a ∈ L, ∀ o, H a = some o -> H' a = some o) -> Own W F H d v L -> Own W F' H' d v L
  | _, _, _, _, .sh h => .sh (h.lock e)
  | _, _, _, k, .olst h t => .olst (k _ (List.mem_cons_self ..) _ h) (Owns.lock e (fun a m => k a (List.mem_cons_of_mem _ m)) t)
  | _, _, _, k, .odic h l n t => .odic (k _ (List.mem_cons_self ..) _ h) l n (Owns.lock e (fun a m => k a (List.mem_cons_of_mem _ m)) t)
  | _, _, _, k, .odit h l n t => .odit (k _ (List.mem_cons_self ..) _ h) l n (Owns.lock e (fun a m => k a (List.mem_cons_of_mem _ m)) t)
  | _, _, _, k, .odig h s l t => .odig (k _ (List.mem_cons_self ..) _ h) (s.lock e) l (Owns.lock e (fun a m => k a (List.mem_cons_of_mem _ m)) t)
  | _, _, _, k, .olf h l n t => .olf (k _ (List.mem_cons_self ..) _ h) l n (Owns.lock e (fun a m => k a (List.mem_cons_of_mem _ m)) t)
  | _, _, _, k, .oxt h s t => .oxt (k _ (List.mem_cons_self ..) _ h) (s.lock e) (Owns.lock e (fun a m => k a (List.mem_cons_of_mem _ m)) t)
  | _, _, _, k, .otup h t => .otup (k _ (List.mem_cons_self ..) _ h) (Owns.lock e (fun a m => k a (List.mem_cons_of_mem _ m)) t)
  | _, _, _, k, .oins h c l t => .oins (k _ (List.mem_cons_self ..) _ h) c l (Owns.lock e (fun a m => k a (List.mem_cons_of_mem _ m)) t)
theorem Owns.lock {F F' H H' : Hp} (e : SameL F F') : ∀ {d : List D} {v : List V} {L : List Addr}, (∀ a ∈ L, ∀ o, H a = some o -> H' a = some o) -> Owns W F H d v L -> Owns W F' H' d v L
  | _, _, _, _, .nil => .nil
  | _, _, _, k, .cons h t => .cons (Own.lock e (fun a m => k a (List.mem_append_left _ m)) h) (Owns.lock e (fun a m => k a (List.mem_append_right _ m)) t)
end
theorem Slots.lock {F F' H H' : Hp} (e : SameL F F') : ∀ {env : Py.Env} {σ : St} {L : List Addr}, (∀ a ∈ L, ∀ o, H a = some o -> H' a = some o) -> Slots W F H env σ L -> Slots W F' H' env σ L
  | _, _, _, _, .nil => .nil
  | _, _, _, k, .so h t => .so (h.lock e fun a m => k a (List.mem_append_left _ m)) (t.lock e fun a m => k a (List.mem_append_right _ m))
  | _, _, _, k, .no t => .no (t.lock e k)
theorem sameL_lock {F : Hp} {a : Addr} {kvs : List (Key × V)} {od : Obj} (h : F a = some (.dK kvs)) : SameL F (upd F a (.frz od (.dK kvs))) := fun b o q => by
  by_cases z : b = a
  · subst z; rw [h] at q; cases q; exact .inr (.inl ⟨kvs, od, rfl, upd_same⟩)
  · rw [upd_ne z]; exact .inl q
theorem sameL_unlock {F : Hp} {a : Addr} {kvs : List (Key × V)} {od : Obj} (h : F a = some (.frz od (.dK kvs))) : SameL F (upd F a (.dK kvs)) := fun b o q => by
  by_cases z : b = a
  · subst z; rw [h] at q; cases q; exact .inr (.inr ⟨kvs, od, rfl, upd_same⟩)
  · rw [upd_ne z]; exact .inl q
theorem Rel.lock {e : Ent} {F H : Hp} {σ : St} {L : List Addr} {a : Addr} {kvs : List (Key × V)} {od : Obj} (r : Rel W e env F σ H L) (h : F a = some (.dK kvs)) :
    Rel W ⟨upd F a (.frz od (.dK kvs)), upd H a (.frz od (.dK kvs)), L, e.pins⟩ env (upd F a (.frz od (.dK kvs))) σ (upd H a (.frz od (.dK kvs))) L where
  sF := fun b o q => by
    by_cases z : b = a
    · subst z; rw [upd_same] at q ⊢; exact q
    · rw [upd_ne z] at q ⊢; exact r.sF _ _ q
  slots := r.slots.lock (sameL_lock h) fun b m o q => by
    have : b ≠ a := fun z => by rw [z] at m; rw [r.dj a m] at h; cases h
    rw [upd_ne this]; exact q
  nd := r.nd
  dj := fun b m => by
    have : b ≠ a := fun z => by rw [z] at m; rw [r.dj a m] at h; cases h
    rw [upd_ne this]; exact r.dj b m
  s0 := Same.refl _
  nw := fun b o q => .inl q
  fr := fun b o m q => q
  ln := fun b m => .inl m
  pin := r.pin
theorem Rel.unlock {e : Ent} {F H F' H' : Hp} {σ σ' : St} {L L' : List Addr} {a : Addr} {kvs : List (Key × V)} {od : Obj} {env' : Py.Env} (r : Rel W e env F σ H L) (h : F a = some (.dK kvs))
    (r2 : Rel W ⟨upd F a (.frz od (.dK kvs)), upd H a (.frz od (.dK kvs)), L, e.pins⟩ env' F' σ' H' L') : F' a = some (.frz od (.dK kvs)) /\ H' a = some (.frz od (.dK kvs)) /\ Rel W e env' (upd F' a (.dK kvs)) σ' (upd H' a (.dK kvs)) L' := by
  have hF' : F' a = some (.frz od (.dK kvs)) := r2.s0 _ _ upd_same
  have hH' : H' a = some (.frz od (.dK kvs)) := r2.sF _ _ hF'
  have na : ∀ b ∈ L', b ≠ a := fun b m z => by rw [z] at m; rw [r2.dj a m] at hF'; cases hF'
  refine ⟨hF', hH', ⟨fun b o q => ?_, r2.slots.lock (sameL_unlock hF') fun b m o q => by rw [upd_ne (na b m)]; exact q, r2.nd, fun b m => by rw [upd_ne (na b m)]; exact r2.dj b m, fun b o q => ?_, fun b o q => ?_, fun b o m q => ?_, fun b m => ?_, r2.pin⟩⟩
  · by_cases z : b = a
    · subst z; rw [upd_same] at q ⊢; exact q
    · rw [upd_ne z] at q ⊢; exact r2.sF _ _ q
  · have q1 := r.s0 _ _ q
    by_cases z : b = a
    · subst z; rw [h] at q1; cases q1; exact upd_same
    · rw [upd_ne z]
      exact r2.s0 b o (by show upd F a _ b = _; rw [upd_ne z]; exact q1)
  · by_cases z : b = a
    · subst z; rw [upd_same] at q; cases q; exact r.nw b _ h
    · rw [upd_ne z] at q
      rcases r2.nw b o q with y | y | y
      · have y : upd F a (.frz od (.dK kvs)) b = some o := y
        rw [upd_ne z] at y
        exact r.nw b o y
      · have y : upd H a (.frz od (.dK kvs)) b = none := y
        rw [upd_ne z] at y
        exact .inr ((r.h0 y).elim .inr .inl)
      · exact .inr ((r.ln b y).elim .inr .inl)
  · have q1 := r.fr b o m q
    have nL : b ∉ L := fun y => by
      rcases r.ln b y with w | w
      · exact m w
      · rw [q] at w; cases w
    by_cases z : b = a
    · subst z
      rw [r.sF _ _ h] at q1
      cases q1
      exact upd_same
    · rw [upd_ne z]
      exact r2.fr b o nL (by show upd H a _ b = _; rw [upd_ne z]; exact q1)
  · rcases r2.ln b m with y | y
    · exact r.ln b y
    · have y : upd H a (.frz od (.dK kvs)) b = none := y
      rw [upd_ne (na b m)] at y
      exact r.h0 y
theorem seq_keys {F0 : Hp} {a : Addr} {od : Obj} {ks : List Key} {vs : List V} {ds : List D} (h : F0 a = some (.frz od (.dK (ks.zip vs)))) (hl : ks.length = vs.length) (hk : kDs ks = some ds) : Seq W (Itk a od (ks.zip vs)) ds F0 := by
  have hn : ds.length = ks.length := by
    clear h hl
    induction ks generalizing ds with
    | nil => cases hk; rfl
    | cons k ks ih =>
      cases k with
      | inl i => obtain ⟨ds', e, rfl⟩ := Option.map_eq_some_iff.mp hk; rw [List.length_cons, List.length_cons, ih e]
      | inr x => cases hk
  have hz : (ks.zip vs).length = ks.length := by rw [List.length_zip, <- hl, Nat.min_self]
  refine ⟨fun i d F H s1 s2 hd => ?_, fun F H s1 s2 => ⟨s2 _ _ (s1 _ _ h), by rw [hz, hn]; exact Nat.le_refl _⟩⟩
  have hi := (List.getElem?_eq_some_iff.mp hd).1
  refine ⟨⟨s2 _ _ (s1 _ _ h), by rw [hz]; omega⟩, fun x H' y => ?_⟩
  obtain ⟨rfl, k, v, h1, rfl⟩ := y
  refine ⟨F, .refl s2, ?_⟩
  have sh := kDs_ok (W := W) (F := F) hl hk
  obtain ⟨u, hu, su⟩ := sh.get hd
  rw [List.getElem?_map, h1] at hu
  cases hu
  exact su
def dsK : Option D -> Option (List D)
  | some (.dic ks _) => kDs ks
  | _ => none
theorem dsK_ok {o : Option D} {ds : List D} (h : dsK o = some ds) : ∃ ks xs, o = some (.dic ks xs) /\ kDs ks = some ds := by
  match o, h with
  | some (.dic ks xs), h => exact ⟨ks, xs, rfl, h⟩
def Lk (i : Nat) (σ : St) (H : Hp) : Prop := ∃ a od kvs, σ[i]? = some (some (V.ref a)) /\ H a = some (.frz od (.dK kvs))
theorem ait_keysL {i : Nat} {ds : List D} (h : dsK (getS env i) = some ds) : AIt W (fun σ H R => Lk i σ H -> iKeys (tVar i) σ H R) env ds := fun e F σ H L R r q => by
  rintro ⟨a, od, kvs, h1, h2⟩
  obtain ⟨ks, xs, e1, e2⟩ := dsK_ok h
  obtain ⟨v, M, e3, o, _⟩ := slot_get r (getS_some e1)
  rw [h1] at e3
  cases e3
  have sh := o.shr rfl
  cases sh with
  | dic hd hl hn hs =>
    rcases hd with hd | ⟨od', hd⟩
    · rw [r.sF _ _ hd] at h2; cases h2
    · have := r.sF _ _ hd
      refine ⟨_, h1, a, od', rfl, .inl ⟨_, this, ?_⟩⟩
      exact q _ F H (.refl r.sF) (seq_keys hd hl e2)
def xiKeysL (i : Nat) : XI W where
  t := fun σ H R => Lk i σ H -> iKeys (tVar i) σ H R
  evF env := dsK (getS env i)
  evP env := dsK (getS env i)
  sF := fun e => ait_keysL e
  sP := fun e => (ait_keysL e).p
def isDic : Option D -> Bool
  | some (.dic _ _) => true
  | _ => false
theorem isDic_ok {o : Option D} (h : isDic o = true) : ∃ ks xs, o = some (.dic ks xs) := by
  match o, h with
  | some (.dic ks xs), h => exact ⟨ks, xs, rfl⟩
def xpLock (i : Nat) (x : XP W) (t : TE) (ht : ∀ σ H Q, Lk i σ H -> x.t σ H Q -> t σ H Q) : XP W where
  t := fun σ H Q => tLockE t σ H Q \/ t σ H Q
  ev env := guardB (isDic (getS env i)) (match x.ev env with
    | some (.fr, d) => some (.fr, d)
    | _ => none)
  snd := fun {env k d} e => by
    obtain ⟨h1, e⟩ := guardB_some e
    obtain ⟨ks, xs, e1⟩ := isDic_ok h1
    match e2 : x.ev env, e with
    | some (.fr, d'), e =>
      cases e
      intro e' F σ H L Q r q
      obtain ⟨v, M, e3, o, _⟩ := slot_get r (getS_some e1)
      have sh := o.shr rfl
      cases sh with
      | @dic a _ _ vs hd hl hn hs =>
        rcases hd with hd | ⟨od', hd⟩
        · refine .inl ⟨a, _, r.sF _ _ hd, trivial, fun od => ht _ _ _ ⟨a, od, _, e3, upd_same⟩ (x.snd e2 _ _ σ _ L _ (r.lock (od := od) hd) fun v F' H' x1 ⟨M, o, nd, kk⟩ => ?_)⟩
          have hF' : F' a = some (.frz od (.dK (ks.zip vs))) := x1.f _ _ upd_same
          have hH' := x1.s _ _ hF'
          have na : ∀ b ∈ M, b ≠ a := fun b m z => by have := (kk b m).2; rw [z, hF'] at this; cases this
          refine ⟨hH', q v (upd F' a (.dK (ks.zip vs))) _ ⟨fun b o q => ?_, fun b o q => ?_, fun b o q => ?_, fun b o q => ?_⟩ ⟨M, o.lock (sameL_unlock hF') fun b m o q => by rw [upd_ne (na b m)]; exact q, nd, fun b m => ⟨?_, by rw [upd_ne (na b m)]; exact (kk b m).2⟩⟩⟩
          · by_cases z : b = a
            · subst z; rw [hd] at q; cases q; exact upd_same
            · rw [upd_ne z]; exact x1.f _ _ (by rw [upd_ne z]; exact q)
          · by_cases z : b = a
            · subst z; rw [upd_same] at q ⊢; exact q
            · rw [upd_ne z] at q ⊢; exact x1.s _ _ q
          · by_cases z : b = a
            · subst z; rw [r.sF _ _ hd] at q; cases q; exact upd_same
            · rw [upd_ne z]; exact x1.h _ _ (by rw [upd_ne z]; exact q)
          · by_cases z : b = a
            · subst z; rw [upd_same] at q; cases q; exact .inl hd
            · rw [upd_ne z] at q
              rcases x1.n b o q with y | y
              · rw [upd_ne z] at y; exact .inl y
              · rw [upd_ne z] at y; exact .inr y
          · have := (kk b m).1
            rw [upd_ne (na b m)] at this
            exact this
        · exact .inr (ht _ _ _ ⟨a, od', _, e3, r.sF _ _ hd⟩ (x.snd e2 e' F σ H L Q r q))
def noEx : RS -> RS
  | .ex _ _ => .no
  | r => r
theorem noEx_ne {r : RS} (h : noEx r ≠ .no) : noEx r = r /\ r ≠ .no /\ ∀ x e, r ≠ .ex x e := by
  cases r <;> first | exact ⟨rfl, h, fun _ _ z => nomatch z⟩ | exact absurd rfl h
def xsLock (i : Nat) (s : XS W) (t : WX -> TS) (ht : ∀ E D σ H, Lk i σ H -> s.t E D σ H -> t E D σ H) : XS W where
  t E := fun D σ H => tLock (t E) D σ H \/ t E D σ H
  ev P env := match isDic (getS env i) with
    | true => noEx (s.ev P env)
    | false => .no
  snd := fun P E env hn e F σ H L Dn hP r st => by
    match h1 : isDic (getS env i), hn, st with
    | true, hn, st =>
    obtain ⟨hq, hn1, hx⟩ := noEx_ne hn
    dsimp only at st
    rw [hq] at st
    obtain ⟨ks, xs, e1⟩ := isDic_ok h1
    obtain ⟨v, M, e3, o, _⟩ := slot_get r (getS_some e1)
    have sh := o.shr rfl
    cases sh with
    | @dic a _ _ vs hd hl hnd hs =>
      rcases hd with hd | ⟨od', hd⟩
      · refine .inl ⟨a, _, r.sF _ _ hd, trivial, fun od => ht _ _ _ _ ⟨a, od, _, e3, upd_same⟩ (s.snd P E env hn1 ⟨upd F a (.frz od (.dK (ks.zip vs))), upd H a (.frz od (.dK (ks.zip vs))), L, e.pins⟩ _ σ _ L _ hP (r.lock (od := od) hd) ⟨fun env' F' σ' H' L' a' r' => ?_, fun d env' F' σ' H' L' v M a' r' o nd kk => ?_, fun env' F' σ' H' L' a' r' => ?_, fun env' F' σ' H' L' a' r' => ?_, fun x env' F' σ' H' L' C dd a' r' ie => absurd a' (hx _ _)⟩)⟩
        · obtain ⟨_, z, u⟩ := Rel.unlock r hd r'
          exact ⟨z, st.nx _ _ _ _ _ a' u⟩
        · obtain ⟨hF', z, u⟩ := Rel.unlock r hd r'
          have na : ∀ b ∈ M, b ≠ a := fun b m z => by have := (kk b m).1; rw [z, hF'] at this; cases this
          refine ⟨z, st.rt _ _ _ _ _ _ _ _ a' u (o.lock (sameL_unlock hF') fun b m o q => by rw [upd_ne (na b m)]; exact q) nd fun b m => ⟨by rw [upd_ne (na b m)]; exact (kk b m).1, ?_⟩⟩
          rcases (kk b m).2 with y | y
          · exact r.ln b y
          · have y : upd H a _ b = none := y
            rw [upd_ne (na b m)] at y
            exact r.h0 y
        · obtain ⟨_, z, u⟩ := Rel.unlock r hd r'
          exact ⟨z, st.bk _ _ _ _ _ a' u⟩
        · obtain ⟨_, z, u⟩ := Rel.unlock r hd r'
          exact ⟨z, st.ct _ _ _ _ _ a' u⟩
      · exact .inr (ht _ _ _ _ ⟨a, od', _, e3, r.sF _ _ hd⟩ (s.snd P E env hn1 e F σ H L Dn hP r st))
theorem tFor_lk {i : Nat} {g : TG} {tb : TS} {D : Ends} {σ : St} {H : Hp} (h : Lk i σ H) (q : tFor (fun σ H R => Lk i σ H -> iKeys (tVar i) σ H R) g tb D σ H) : tFor (iKeys (tVar i)) g tb D σ H := q h
def xsForD (i : Nat) (g : XG W) (b : XS W) : XS W := xsLock i (xsFor (xiKeysL i) g b) (fun E => tFor (iKeys (tVar i)) g.t (b.t E)) (fun _ _ _ _ h q => tFor_lk h q)
theorem ps_forD {X : Cx} {i : Nat} {st : Stmt} {g : TG} {tb : TS} (h : PS X st (tFor (iKeys (tVar i)) g tb)) : PS X st (fun D σ H => tLock (tFor (iKeys (tVar i)) g tb) D σ H \/ tFor (iKeys (tVar i)) g tb D σ H) := ps_alt (ps_lock h) h
theorem pe_lockU {X : Cx} {e : Expr} {t : TE} (h : PE X e t) : PE X e (fun σ H Q => tLockE t σ H Q \/ t σ H Q) := pe_alt (pe_lock h) h
def dc1 (g : XG W) (c : XT W) (k x : XP W) (env : Py.Env) (d : D) : Option (Option (Key × D)) := (g.ev [] d env).bind fun e2 => (c.ev e2).bind fun b => if b = true then ((k.evF e2).bind keyD).bind fun y => (x.evF e2).map fun z => some (y, z) else some none
def putO (acc : List Key × List D) : Option (Key × D) -> Option (List Key × List D)
  | some p => putP acc.1 acc.2 p.1 p.2
  | none => some acc
def dcL (f : D -> Option (Option (Key × D))) : List D -> List Key × List D -> Option (List Key × List D)
  | [], acc => some acc
  | d :: ds, acc => (f d).bind fun o => (putO acc o).bind (dcL f ds)
theorem dcL_take {f : D -> Option (Option (Key × D))} : ∀ {ds : List D} {acc r : List Key × List D}, dcL f ds acc = some r -> ∃ rs : Nat -> List Key × List D, rs 0 = acc /\ rs ds.length = r /\ (∀ (i : Nat) (d : D), ds[i]? = some d -> ∃ o, f d = some o /\ putO (rs i) o = some (rs (i + 1)))
  | [], acc, r, h => by cases h; exact ⟨fun _ => acc, rfl, rfl, fun i d h => by simp at h⟩
  | d :: ds, acc, r, h => by
    obtain ⟨o, e1, h⟩ := Option.bind_eq_some_iff.mp h
    obtain ⟨acc2, e2, h⟩ := Option.bind_eq_some_iff.mp h
    obtain ⟨rs, r0, r1, r2⟩ := dcL_take h
    refine ⟨fun i => match i with | 0 => acc | i + 1 => rs i, rfl, r1, fun i d' hd => ?_⟩
    cases i with
    | zero => simp at hd; subst hd; exact ⟨o, e1, by dsimp only; rw [r0]; exact e2⟩
    | succ i => exact r2 i d' (by simpa using hd)
theorem ae_dc {wi : TI} {g : TG} {tt : TT} {tk tv : TE} {vs : List Nat} {ds : List D} (h : AIp W wi env ds) (hg : GW g vs) (rs : Nat -> List Key × List D) (h0 : rs 0 = ([], []))
    (hs : ∀ (i : Nat) (d : D), ds[i]? = some d -> AG W [] g d (wipeE env vs) fun e2 => ∃ b, AT W tt e2 b /\ (b = true -> ∃ y k z, AE W tk e2 (rF W y) /\ keyD y = some k /\ AE W tv e2 (rF W z) /\ putP (rs i).1 (rs i).2 k z = some (rs (i + 1))) /\ (b = false -> rs (i + 1) = rs i))
    (hz : ds.length < 1000000) : AE W (tDc wi g tt tk tv vs) env (rO W (.odic (rs ds.length).1 (rs ds.length).2)) := fun e F σ H L Q r q =>
  h e F σ H L _ r fun J F1 H1 x1 sq => by
    intro Dl hD
    have r1 := (r.ext x1).nopin
    obtain ⟨Lw, rw', mw⟩ := r1.wipe rfl vs
    have hF1 : F1 Dl = none := x1.s.free hD
    have hH : H Dl = none := x1.h.free hD
    let Iv : Nat -> Hp -> Prop := fun i H' => ∃ F' ws, Ext F H F' H' /\ (Same F1 F' /\ Same H1 H') /\ Rel W { e with pins := [] } (wipeE env vs) F' (wipe σ vs) H' Lw /\ H' Dl = some (.dK ((rs i).1.zip ws)) /\ F' Dl = none /\ Shrs W F' (rs i).2 ws /\ (rs i).1.length = ws.length /\ (rs i).1.Nodup /\ (rs i).1.length <= i
    refine ⟨fun i m H' => m = ds.length - i /\ i <= ds.length /\ Iv i H', ⟨ds.length, rfl, Nat.zero_le _, F1, [], x1.trans (.newH x1.s hD), ⟨Same.refl _, same_new hD⟩, rw'.ext (.newH x1.s hD), by rw [h0]; exact upd_same, hF1, by rw [h0]; exact .nil, by rw [h0]; rfl, by rw [h0]; exact .nil, by rw [h0]; exact Nat.le_refl _⟩, ?_⟩
    rintro i m H' ⟨rfl, hi, F', ws, xE, s1, rr, hl, hFD, os, lk, nd, hle⟩
    have hDL : Dl ∉ Lw := fun z => by
      obtain ⟨o, ho⟩ := rw'.slots.lives Dl z
      rw [hD] at ho; cases ho
    by_cases hlt : i < ds.length
    · have hd' : ds[i]? = some ds[i] := List.getElem?_eq_getElem hlt
      obtain ⟨g1, g2⟩ := sq.go i _ F' H' s1.1 s1.2 rr.sF hd'
      refine .inr ⟨g1, Iv (i + 1), fun H'' p' => ⟨ds.length - (i + 1), by omega, rfl, hlt, p'⟩, fun x H2 y => ?_⟩
      obtain ⟨F2, x2, sx⟩ := g2 x H2 y
      have rr2 := rr.ext x2
      have fin : ∀ {Fa Ha}, Ext F2 H2 Fa Ha -> Ext F H Fa Ha /\ (Same F1 Fa /\ Same H1 Ha) /\ Rel W { e with pins := [] } (wipeE env vs) Fa (wipe σ vs) Ha Lw /\ Ha Dl = some (.dK ((rs i).1.zip ws)) /\ Fa Dl = none /\ Shrs W Fa (rs i).2 ws := fun {Fa Ha} xa => by
        have x3 := x2.trans xa
        refine ⟨xE.trans x3, ⟨s1.1.trans x3.f, s1.2.trans x3.h⟩, rr.ext x3, x3.h _ _ hl, ?_, os.mono x3.f⟩
        cases z : Fa Dl with
        | none => rfl
        | some u =>
          rcases x3.n Dl u z with w | w
          · rw [hFD] at w; cases w
          · rw [hl] at w; cases w
      have step := hg x (wipe σ vs) H2 _ (hs i _ hd' { e with pins := [] } F2 (wipe σ vs) H2 Lw x (fun σ2 H2 => tt σ2 H2 fun b H3 => if b = true then tk σ2 H3 fun y H4 => tv σ2 H4 fun z H5 => ∃ kvs k, y = kV k /\ H5 Dl = some (.dK kvs) /\ kvs.length < sizeLine /\ Iv (i + 1) (upd H5 Dl (.dK (putK kvs k z))) else Iv (i + 1) H3) rfl rr2 sx fun env2 σ2 L2 k2 q2 => ?_)
      · rw [wipe_wipe] at step
        exact step
      obtain ⟨b, hb, hy, hn⟩ := k2
      refine hb _ F2 σ2 H2 L2 _ q2 fun F3 H3 x3 => ?_
      cases b with
      | false =>
        obtain ⟨a1, a2, a3, a4, a5, a6⟩ := fin x3
        rw [if_neg (by decide)]
        refine ⟨F3, ws, a1, a2, a3, ?_, a5, ?_, ?_, ?_, ?_⟩
        · rw [hn rfl]; exact a4
        · rw [hn rfl]; exact a6
        · rw [hn rfl]; exact lk
        · rw [hn rfl]; exact nd
        · rw [hn rfl]; omega
      | true =>
        obtain ⟨y, k, z, htk, hk, htv, hput⟩ := hy rfl
        rw [if_pos rfl]
        refine htk _ F3 σ2 H3 L2 _ (q2.ext x3) fun w F4 H4 x4 sy => htv _ F4 σ2 H4 L2 _ ((q2.ext x3).ext x4) fun w2 F5 H5 x5 sz => ?_
        obtain ⟨a1, a2, a3, a4, a5, a6⟩ := fin ((x3.trans x4).trans x5)
        have hzl : ((rs i).1.zip ws).length < sizeLine := by
          rw [List.length_zip, <- lk, Nat.min_self]
          exact Nat.lt_of_le_of_lt hle (Nat.lt_of_lt_of_le (Nat.lt_trans hlt hz) (by decide))
        refine ⟨_, k, keyD_ok sy hk, a4, hzl, ?_⟩
        have ext2 : ∀ o, Ext F H F5 (upd H5 Dl o) := fun o => ⟨a1.f, fun b u hb => by rw [upd_ne (fun z => by rw [z, a5] at hb; cases hb)]; exact a1.s _ _ hb, fun b u hb => by rw [upd_ne (fun z => by rw [z, hH] at hb; cases hb)]; exact a1.h _ _ hb, a1.n⟩
        have same2 : ∀ o, Same F1 F5 /\ Same H1 (upd H5 Dl o) := fun o => ⟨a2.1, fun b u hb => by rw [upd_ne (fun z => by rw [z, hD] at hb; cases hb)]; exact a2.2 _ _ hb⟩
        unfold putP at hput
        cases hpos : pos k (rs i).1 with
        | none =>
          rw [hpos] at hput
          have hput := Option.some.inj hput
          have e1 : (rs (i + 1)).1 = (rs i).1 ++ [k] := by rw [<- hput]
          have e2 : (rs (i + 1)).2 = (rs i).2 ++ [z] := by rw [<- hput]
          rw [putK_none lk hpos]
          refine ⟨F5, ws ++ [w2], ext2 _, same2 _, a3.free hDL a5 (rw'.h0 hD), by rw [e1]; exact upd_same, a5, ?_, ?_, ?_, ?_⟩
          · rw [e2]; exact a6.append (.cons sz .nil)
          · rw [e1]; simp [lk]
          · rw [e1, List.nodup_append]
            exact ⟨nd, by simp, fun x hx y hy z => pos_none_has hpos x hx (by rw [z]; simpa using hy)⟩
          · rw [e1]; simp; exact hle
        | some j =>
          rw [hpos] at hput
          obtain ⟨hall, hput⟩ := ite_some hput
          have e1 : (rs (i + 1)).1 = (rs i).1 := by rw [<- hput]
          have e2 : (rs (i + 1)).2 = (rs i).2.set j z := by rw [<- hput]
          have hj : j < (rs i).1.length := (List.getElem?_eq_some_iff.mp (pos_get hpos)).1
          have hjx : j < (rs i).2.length := by have := a6.length; omega
          rw [putK_some lk nd hpos]
          refine ⟨F5, ws.set j w2, ext2 _, same2 _, a3.free hDL a5 (rw'.h0 hD), by rw [e1]; exact upd_same, a5, ?_, ?_, ?_, ?_⟩
          · rw [e2, set_split hjx, set_split (by rw [<- a6.length]; exact hjx), List.append_assoc, List.append_assoc]
            exact (a6.take j).append (.cons sz (a6.drop (j + 1)))
          · rw [e1, List.length_set]; exact lk
          · rw [e1]; exact nd
          · rw [e1]; omega
    · have e0 : i = ds.length := by omega
      subst e0
      refine .inl ⟨sq.stop F' H' s1.1 s1.2 rr.sF, q _ F' H' xE ⟨[Dl], .odic hl lk nd os.owns, by simp, fun a ha => ?_⟩⟩
      rw [List.mem_singleton.mp ha]; exact ⟨hH, hFD⟩
def xDc (it : XI W) (g : XG W) (c : XT W) (k x : XP W) : XP W where
  t := tDc it.t g.t c.t k.t x.t g.own
  ev env := (it.evP env).bind fun ds => if ds.length < 1000000 then (dcL (dc1 g c k x (wipeE env g.own)) ds ([], [])).map fun q => (.fr, .odic q.1 q.2) else none
  snd := fun {env kd d} e => by
    obtain ⟨ds, e1, e⟩ := Option.bind_eq_some_iff.mp e
    split at e
    · rename_i hl
      obtain ⟨q, e2, e⟩ := Option.map_eq_some_iff.mp e
      cases e
      obtain ⟨rs, r0, r1, r2⟩ := dcL_take e2
      rw [<- r1]
      refine ae_dc (it.sP e1) (g.gw fun _ m => m) rs r0 (fun i d hd => ?_) hl
      obtain ⟨o, h, hr⟩ := r2 i d hd
      obtain ⟨env2, g1, h⟩ := Option.bind_eq_some_iff.mp h
      obtain ⟨b, c1, h⟩ := Option.bind_eq_some_iff.mp h
      intro e0 F σ H L v Q hP r s q
      refine g.snd g1 e0 F σ H L v Q hP r s fun env3 σ2 L2 z r3 => ?_
      subst z
      refine q _ σ2 L2 ⟨b, c.snd c1, fun hb => ?_, fun hb => ?_⟩ r3
      · subst hb
        obtain ⟨y, h8, h⟩ := Option.bind_eq_some_iff.mp h
        obtain ⟨z, h9, rfl⟩ := Option.map_eq_some_iff.mp h
        obtain ⟨yd, h10, h11⟩ := Option.bind_eq_some_iff.mp h8
        exact ⟨yd, y, z, k.sF h10, h11, x.sF h9, hr⟩
      · subst hb
        cases h
        exact (Option.some.inj hr).symm
    · cases e
def xDcD (i : Nat) (g : XG W) (c : XT W) (k x : XP W) : XP W := xpLock i (xDc (xiKeysL i) g c k x) (tDc (iKeys (tVar i)) g.t c.t k.t x.t g.own) (fun _ _ _ h q => q h)
end
end Py
namespace Py
open PySem L2
section
variable {T : Tbl} {W : Wd T} {env : Py.Env} {d : D} {P : List Nat} {E : WX} {A : AEnds}
end
theorem hu1 {k : Nat} {A : Around} (r : Room k A) : A.units + 1 < cLine := by have := r.un; omega
theorem hu65 {k : Nat} {A : Around} (r : Room k A) : A.units + 65 < cLine := by have := r.un; omega
end Py
namespace Py
open PySem L2
section
variable {T : Tbl} {W : Wd T} {env : Py.Env} {P : List Nat} {E : WX} {A : AEnds}
end
end Py
namespace Py
open PySem L2
section
variable {T : Tbl} {W : Wd T} {env : Py.Env}
def dispE : List (XP W × XP W) -> Py.Env -> Option (List (Key × D))
  | [], _ => some []
  | p :: r, env => (p.1.evF env).bind fun x => (keyD x).bind fun k => (p.2.evF env).bind fun y => (dispE r env).map ((k, y) :: ·)
theorem disp_pairs : ∀ (ps : List (XP W × XP W)) {kds : List (Key × D)}, dispE ps env = some kds -> ∀ (e : Ent) (F : Hp) (σ : St) (H : Hp) (L : List Addr) (Q : List (V × V) -> Hp -> Prop), Rel W e env F σ H L ->
    (∀ (kvs : List (Key × V)) F' H', Ext F H F' H' -> kvs.map (·.1) = kds.map (·.1) -> Shrs W F' (kds.map (·.2)) (kvs.map (·.2)) -> Q (kvs.map fun kv => (kV kv.1, kv.2)) H') -> tPairs (ps.map fun p => (p.1.t, p.2.t)) σ H Q
  | [], _, h, e, F, σ, H, L, Q, r, q => by
    cases h
    exact q [] F H (.refl r.sF) rfl .nil
  | p :: ps, _, h, e, F, σ, H, L, Q, r, q => by
    obtain ⟨x, e1, h⟩ := Option.bind_eq_some_iff.mp h
    obtain ⟨k, e2, h⟩ := Option.bind_eq_some_iff.mp h
    obtain ⟨y, e3, h⟩ := Option.bind_eq_some_iff.mp h
    obtain ⟨z, e4, rfl⟩ := Option.map_eq_some_iff.mp h
    refine p.1.sF e1 e F σ H L _ r fun v F1 H1 x1 y1 => p.2.sF e3 e F1 σ H1 L _ (r.ext x1) fun u F2 H2 x2 y2 => ?_
    refine disp_pairs ps e4 e F2 σ H2 L _ ((r.ext x1).ext x2) fun kvs F3 H3 x3 ek ev => ?_
    have hv := keyD_ok y1 e2
    subst hv
    exact q ((k, u) :: kvs) F3 H3 ((x1.trans x2).trans x3) (by simp [ek]) (.cons (y2.mono x3.f) ev)
theorem merge_nodup : ∀ (more kvs : List (Key × V)), ((kvs ++ more).map (·.1)).Nodup -> mergeK kvs more = kvs ++ more
  | [], kvs, _ => (List.append_nil kvs).symm
  | p :: r, kvs, h => by
    have hn : (kvs.any fun kv => decide (kv.1 = p.1)) = false := by
      rw [Bool.eq_false_iff]
      intro z
      obtain ⟨q, hq, e⟩ := List.any_eq_true.mp z
      rw [List.map_append, List.nodup_append] at h
      exact h.2.2 q.1 (List.mem_map.mpr ⟨q, hq, rfl⟩) p.1 (by simp) (of_decide_eq_true e)
    have e : mergeK kvs (p :: r) = mergeK (kvs ++ [(p.1, p.2)]) r := by
      show mergeK (putK kvs p.1 p.2) r = _
      unfold putK
      rw [if_neg (by rw [hn]; decide)]
    rw [e, merge_nodup r (kvs ++ [(p.1, p.2)]) (by simpa using h)]
    simp
theorem zip_self {α β : Type} : ∀ l : List (α × β), (l.map (·.1)).zip (l.map (·.2)) = l
  | [] => rfl
  | p :: l => by rw [List.map_cons, List.map_cons, List.zip_cons_cons, zip_self l]
def xDisp (ps : List (XP W × XP W)) : XP W where
  t := tDisp (ps.map fun p => (p.1.t, p.2.t))
  ev env := (dispE ps env).bind fun kds => if (kds.map (·.1)).Nodup /\ kds.length <= 15 then some (.fr, .odic (kds.map (·.1)) (kds.map (·.2))) else none
  snd := fun {env k d} h => by
    obtain ⟨kds, e1, h⟩ := Option.bind_eq_some_iff.mp h
    obtain ⟨⟨nd, hl⟩, e⟩ := ite_some h
    cases e
    intro e F σ H L Q r q p hp
    refine disp_pairs ps e1 e F σ (upd H p (.dK [])) L _ (r.ext (.newH r.sF hp)) fun kvs F2 H2 x2 ek ev => ?_
    have h2 : H2 p = some (.dK []) := x2.h _ _ upd_same
    have hF : F2 p = none := by
      cases z : F2 p with
      | none => rfl
      | some u =>
        rcases x2.n p u z with y | y
        · rw [r.sF.free hp] at y; cases y
        · rw [upd_same] at y; cases y
    have hlen : kvs.length = kds.length := by have := congrArg List.length ek; simpa using this
    refine ⟨h2, kvs, rfl, by omega, ?_⟩
    rw [merge_nodup kvs [] (by rw [List.nil_append, ek]; exact nd), List.nil_append]
    have ne : ∀ {b : Addr} {o : HO}, H b = some o -> b ≠ p := fun {b o} hb z => by rw [z, hp] at hb; cases hb
    refine q _ F2 _ ⟨x2.f, fun b o z => ?_, fun b o z => ?_, fun b o z => ?_⟩ ⟨[p], .odic (vs := kvs.map (·.2)) ?_ (by simp [hlen]) nd ev.owns, by simp, fun a m => ?_⟩
    · rw [upd_ne (fun e => by rw [e, hF] at z; cases z)]; exact x2.s _ _ z
    · rw [upd_ne (ne z)]; exact x2.h _ _ (by rw [upd_ne (ne z)]; exact z)
    · rcases x2.n b o z with y | y
      · exact .inl y
      · refine .inr ?_
        by_cases e : b = p
        · rw [e]; exact hp
        · rwa [upd_ne e] at y
    · rw [upd_same]
      congr 2
      rw [<- ek]
      exact (zip_self kvs).symm
    · rw [List.mem_singleton.mp m]
      exact ⟨hp, hF⟩
end
end Py
namespace Py
open PySem L2
section
variable {T : Tbl} {W : Wd T}
end
end Py
namespace Py
open PySem L2 PyProof.Rows
section
variable {P : Program} {w : World} {A : Around} {E : Value -> Shared -> Prop} {s : Shared}
end
end Py
namespace Py
open PySem L2
section
variable {X : Cx} {k n : Nat} {f C : Addr} {fd : FuncData} {ps ks : List Str} {sp : Sp} {E : WX} {x : Str} {p pos : Pos} {e : Expr} {es : List Expr} {kws : List Keyword} {t tkw : TA} {g : List Value -> List Value -> List Value} {gV : List V -> List V -> List V} {dvs : List V} {ds : List Value}
theorem runMX {pins : List (Addr × Obj)} {σ : St} {H : Hp} {s : Shared} {Q : VK} {us ws : List Value} {vs : List V} {kn : List Str} (M : Mk X.K C f) (F : FnOk X.prog X.w X.K X.mg X.base (L2.CX X.prog X.w) k f fd ps sp) (hr : Room (k + 1) X.A) (tk : Takes X E)
    (I : Inv X pins σ H s)
    (hb : ∀ (s' : Shared) (a : Addr), X.K.In s'.heap -> ∃ us2 : List Value, Vals (gV (.ref a :: vs) []) us2 /\ BindsTo s' fd ⟨.ref a :: us, kn.zip ws⟩ (ps.zip us2))
    (h : ∀ x dx, H x = none -> H dx = none -> dx ≠ x -> sp (gV (.ref x :: vs) []) (upd (upd H dx (.own x)) x (.ins C dx [])) (fun v H2 => v = .non /\ Q (.ref x) H2) (WE E σ)) :
    wpAny (model X.prog X.w) X.A (call (.ref C) us (kn.zip ws)) (EP X pins σ Q) X.xe s := by
  have hq := h (s.heap.objs.size + 1) s.heap.objs.size (I.hok.fresh (Nat.le_succ _)) (I.hok.fresh (Nat.le_refl _)) (Nat.ne_of_lt (Nat.lt_succ_self _))
  have I2 := Inv.made (C := C) I
  obtain ⟨us2, r2, b⟩ := hb _ (s.heap.objs.size + 1) I2.kIn
  refine wpAny_call (make_map (f := f) I.kIn M.makes M.init (beq_iff_eq.mp M.fn) (codeAny_mono (F.run _ X.stack _ _ ⟨Value.ref (s.heap.objs.size + 1) :: us, kn.zip ws⟩ us2 _ _ (WE E σ) (hr.make C us (kn.zip ws)) (I2.env0.make C us (kn.zip ws)) b r2 hq) fun res s' hq' => ?_))
  match res, hq' with
  | .error er, hq' => exact L2.passAt tk σ pins _ _ er s' I2 hq'
  | .ok (.ret u), hq' =>
    obtain ⟨v, H', I3, rv, ev, q3⟩ := I2.after hq'
    subst ev
    exact ⟨rv, ⟨V.ref (s.heap.objs.size + 1), H', I3, rfl, q3⟩⟩
  | .ok .next, hq' => exact False.elim hq'
  | .ok .brk, hq' => exact False.elim hq'
  | .ok .cont, hq' => exact False.elim hq'
theorem px_makeNX {c : String} {T : Tbl} {W : Wd T} {qual : Str} {st : Stmt} {kws0 : List (Str × V)} {bs : List Bool} (M : MkD X.prog X.w X.K X.mg X.base k x (W.cA c) qual st kws0 ps sp) (hb : KShape X.K "__init__" qual st kws0 ps (n + 1) ks bs dvs) (hc : W.has c) (tk : Takes X E) (hr : Room (k + 1) X.A) (hg : Gl X x)
    (ha : PA X (e :: es) t) (hkw : PK X kws tkw) (hall : (backToKw pos (keywordEach kws X.env)).all (·.1.isSome) = true := by rfl) (hks : (backToKw pos (keywordEach kws X.env)).filterMap (·.1) = ks := by rfl)
    (hdb : (x == ("__debug__" : Str)) = false := by decide) (he : starEach (e :: es) X.env = (false, eval e X.env) :: starEach es X.env := by rfl)
    (hpl : ((backTo pos (starEach (e :: es) X.env)).any (·.1) || (backToKw pos (keywordEach kws X.env)).any (·.1.isNone)) = false := by rfl) :
    PE X (.Call (.Name x p) (e :: es) kws pos) (fun σ H Q => W.has c -> tMakeK (W.cA c) n ks.length sp (fun vs zs => vs ++ mgM bs dvs zs) (WE E σ) t tkw σ H Q) := by
  obtain ⟨f, fd, M, F, hm, FD⟩ := M.ex
  obtain ⟨g, hb⟩ := hb f fd FD
  refine ⟨fun pins s σ H Q I h => wpAny_Call_Name_kw (ld_glob I hg hm ?_ hdb)⟩
  refine PySem.W.callWith_KW (h₀ := X.base) I.ok.mod.kin M.kp hall (thn (ha.run pos pins s σ H _ I (h hc)) fun us s1 ⟨vs, H1, I1, r, q⟩ => thn (hkw.run pos pins s1 σ H1 _ I1 q) fun ws s2 ⟨zs, H2, I2, rz, l1, l2, q2⟩ => ⟨I2.kIn, ?_⟩) hpl he
  rw [hks]
  refine runMX (gV := fun vs _ => vs ++ mgM bs dvs zs) M F hr tk I2 (fun s' a X' => ⟨g (Value.ref a :: us) ws, hb.rel (.cons rfl r) rz, hb.to s' (Value.ref a :: us) ws X' (by rw [List.length_cons, <- r.length, l1]) (rz.length.symm.trans l2)⟩) fun x dx h1 h2 h3 => q2 x dx h1 h2 h3
end
section
variable {T : Tbl} {W : Wd T} {env : Py.Env} {P : List Nat} {E : WX} {A : AEnds} {d : D}
def exOf (c : String) (fs : List String) (ds : Option (List D)) (env : Py.Env) : RS := match ds with
  | some ds => if ds.length = fs.length then .ex ⟨c, fs.zip ds⟩ env else .no
  | none => .no
theorem zip_fst {fs : List String} {ds : List D} (h : ds.length = fs.length) : (fs.zip ds).map (·.1) = fs := List.map_fst_zip (by omega)
theorem zip_snd {fs : List String} {ds : List D} (h : ds.length = fs.length) : (fs.zip ds).map (·.2) = ds := List.map_snd_zip (by omega)
def xsRaise (c : String) (fs : List String) (as : XA W) : XS W where
  t E := fun _ σ H => W.hasX c -> tMkX (W.cA c) (fs.map so) as.t σ H fun cls d H' => E cls d σ H'
  ev P env := exOf c fs (as.evF env) env
  snd := fun P E env hn e F σ H L Dn hP r s hc => by
    match h : as.evF env, hn, s with
    | none, hn, s => exact absurd rfl hn
    | some ds, hn, s =>
      unfold exOf at hn s
      by_cases hl : ds.length = fs.length
      · dsimp only at s
        rw [if_pos hl] at s
        refine as.sF h e F σ H L _ r fun vs F1 H1 x1 y1 => ?_
        have y1 : Shrs W F1 ds vs := y1
        refine ⟨by rw [<- y1.length, hl, List.length_map], fun a ha => ?_⟩
        refine s.ex ⟨c, fs.zip ds⟩ env (upd F1 a (.xd ((fs.map so).zip vs))) σ (upd H1 a (.xd ((fs.map so).zip vs))) L _ _ rfl ((r.ext x1).ext (.new x1.s ha)) ⟨rfl, hc, .inr ⟨a, vs, rfl, ?_, ?_⟩⟩
        · rw [upd_same, zip_fst hl]
        · rw [zip_snd hl]
          exact y1.mono (same_new (x1.s.free ha))
      · dsimp only at hn
        rw [if_neg hl] at hn
        exact absurd rfl hn
def mkM (r : Rz) (env : Py.Env) : RM := match r with
  | .ok .non (some d) => .ok d env
  | .exn x _ => .exn x env
  | _ => .no
theorem makeX {n : Nat} {φ : Sem} {c ini : String} {e : Ent} {F H : Hp} {σ : St} {L : List Addr} {vs : List V} {ds : List D} {Q : VK} {E : XK} (r : Rel W e env F σ H L) (h : Shrs W F ds vs) (hc : W.has c) (hl : ds.length + 1 = n) (hn : mkM (φ ini (.oins c [] [] :: ds) (some 0)) env ≠ .no)
    (q : ∀ d env' v F' H' L' M, mkM (φ ini (.oins c [] [] :: ds) (some 0)) env = .ok d env' -> Rel W e env' F' σ H' L' -> Own W F' H' d v M -> (M ++ L').Nodup -> (∀ a ∈ M, F' a = none /\ (a ∈ e.L0 \/ e.H0 a = none)) -> Q v H')
    (qx : ∀ x env' F' H' L' C dd, mkM (φ ini (.oins c [] [] :: ds) (some 0)) env = .exn x env' -> Rel W e env' F' σ H' L' -> IsExn W F' x C dd -> E C dd H') (x dx : Addr) (hx : H x = none) (hd : H dx = none) (ne : dx ≠ x) :
    spR W n (φ ini) (some 0) (.ref x :: vs) (upd (upd H dx (.own x)) x (.ins (W.cA c) dx [])) (fun v H2 => v = .non /\ Q (.ref x) H2) E := by
  have s := r.sF
  have hs : Same H (upd (upd H dx (.own x)) x (.ins (W.cA c) dx [])) := (same_new hd).trans (same_new (by rw [upd_ne ne.symm]; exact hx))
  have ext : ∀ {F' H'}, Post F (upd (upd H dx (.own x)) x (.ins (W.cA c) dx [])) [x] F' H' -> Ext F H F' H' := fun {F' H'} p => ⟨p.f, p.s, fun a o ha => p.h a o (fun z => by
      obtain rfl : a = x := by simpa using z
      rw [hx] at ha; cases ha) (hs _ _ ha), fun a o ha => by
    rcases p.n a o ha with z | z | z
    · exact .inl z
    · exact .inr (hs.free z)
    · obtain rfl : a = x := by simpa using z
      exact .inr hx⟩
  refine ⟨F, .oins c [] [] :: ds, [x] ++ [], s.trans hs, .cons (.oins (vs := []) (by rw [upd_same]; rfl) hc rfl .nil) h.owns, by simp, fun a m => ?_, hl, fun z => hn (by rw [z]; rfl), fun d' bd e' F' H' v M Mb p o ob nd k => ?_, fun x' bd e' F' H' C dd Mb p ie ob nb k => ?_⟩
  · obtain rfl : a = x := by simpa using m
    exact s.free hx
  · rw [e'] at hn q
    cases d' with
    | non =>
      cases bd with
      | none => exact absurd rfl hn
      | some d2 =>
        have hv : v = .non := by cases o with | sh y => cases y; rfl
        have hM : M = [] := o.shNil rfl
        subst hM
        obtain ⟨w, hw, ow⟩ := ob
        cases hw
        have ex := ext p
        have hk : ∀ a ∈ Mb, F' a = none /\ H a = none := fun a m => ⟨(k a (by simpa using m)).1, by
          rcases (k a (by simpa using m)).2 with z | z
          · obtain rfl : a = x := by simpa using z
            exact hx
          · exact hs.free z⟩
        refine ⟨hv, q d2 env (.ref x) F' H' L Mb rfl (r.ext ex) ow (nodup_new (H := H) r.nd (by simpa using nd) r.slots.lives fun a m => (hk a m).2) fun a m => ⟨(hk a m).1, r.h0 (hk a m).2⟩⟩
    | _ => exact absurd rfl hn
  · rw [e'] at qx
    exact qx x' env F' H' L C dd rfl (r.ext (ext p)) ie
def makeNM (φ : Sem) (c ini : String) (n m N : Nat) (bs : List Bool) (dd : List D) (f g : Option (List D)) (env : Py.Env) : RM := match f, g with
  | some ds, some zs => if ds.length = n /\ zs.length = m /\ (ds ++ mgM bs dd zs).length + 1 = N then mkM (φ ini (.oins c [] [] :: (ds ++ mgM bs dd zs)) (some 0)) env else .no
  | _, _ => .no
def xmMakeN (φ : Sem) (c ini : String) (n m N : Nat) (bs : List Bool) (dd : List D) (hd : dd.all cst = true) (as ks : XA W) : XM W where
  t E := fun σ H Q => W.has c -> tMakeK (W.cA c) n m (spR W N (φ ini) (some 0)) (fun vs zs => vs ++ mgM bs (dd.map cV) zs) (WE E σ) as.t ks.t σ H Q
  ev P env := makeNM φ c ini n m N bs dd (as.evF env) (ks.evF env) env
  snd := fun P E env hn e F σ H L Q hP r c1 cx hc => by
    match e1 : as.evF env, e2 : ks.evF env, hn, c1, cx with
    | none, _, hn, _, _ => exact absurd rfl hn
    | some _, none, hn, _, _ => exact absurd rfl hn
    | some ds, some zs, hn, c1, cx =>
      unfold makeNM at hn c1 cx
      dsimp only at hn c1 cx
      by_cases hl : ds.length = n /\ zs.length = m /\ (ds ++ mgM bs dd zs).length + 1 = N
      · rw [if_pos hl] at hn c1 cx
        obtain ⟨l1, l2, l3⟩ := hl
        refine as.sF e1 e F σ H L _ r fun vs F1 H1 x1 y1 => ks.sF e2 e F1 σ H1 L _ (r.ext x1) fun ws F2 H2 x2 y2 => ?_
        have y1 : Shrs W F1 ds vs := y1
        have y2 : Shrs W F2 zs ws := y2
        exact ⟨by rw [<- y1.length, l1], by rw [<- y2.length, l2], fun x dx hx hdx ne => makeX ((r.ext x1).ext x2) (Shrs.append (y1.mono x2.f) (mgM_shr hd y2)) hc l3 hn c1 cx x dx hx hdx ne⟩
      · rw [if_neg hl] at hn; exact absurd rfl hn
end
end Py
namespace Py
open PySem L2
section
variable {T : Tbl} {W : Wd T} {env : Py.Env} {P : List Nat} {E : WX} {A : AEnds} {d : D} {i : Nat}
theorem IsExn.mono {F F' : Hp} {x : Exn} {C : Value} {dd : Option Addr} (e : Same F F') (h : IsExn W F x C dd) : IsExn W F' x C dd := by
  obtain ⟨h1, h2, h3⟩ := h
  refine ⟨h1, h2, h3.imp id ?_⟩
  rintro ⟨a, vs, h4, h5, h6⟩
  exact ⟨a, vs, h4, e _ _ h5, h6.mono e⟩
def AQ {T : Tbl} (W : Wd T) (i : Nat) (x : Exn) (a : Addr) (cls : Value) (dd : Option Addr) (t : TE) (env : Py.Env) (R : Res) : Prop :=
  ∀ (e : Ent) (F : Hp) (σ : St) (H : Hp) (L : List Addr) (Q : VK), Rel W e env F σ H L -> IsExn W F x cls dd -> σ[i]? = some (some (.ref a)) -> (∀ v F' H', Ext F H F' H' -> R F' H' H v -> Q v H') -> t σ H Q
structure XQ {T : Tbl} (W : Wd T) (i : Nat) where
  t : Addr -> Value -> Option Addr -> TE
  ev : Exn -> Py.Env -> Option (Kd × D)
  snd : ∀ {x env k d}, ev x env = some (k, d) -> ∀ a cls dd, AQ W i x a cls dd (t a cls dd) env (rK W k d)
def xqP (p : XP W) : XQ W i where
  t _ _ _ := p.t
  ev _ env := p.ev env
  snd := fun h a cls dd e F σ H L Q r _ _ q => p.snd h e F σ H L Q r q
theorem look_fld {F : Hp} {f : String} {d : D} : ∀ {fs : List (String × D)} {vs : List V}, Shrs W F (fs.map (·.2)) vs -> fs.lookup f = some d -> ∃ v, (((fs.map (·.1)).map so).zip vs).lookup (so f) = some v /\ Shr W F d v
  | [], _, _, h => by simp [List.lookup] at h
  | (k, x) :: fs, _, .cons (v := v) h t, hl => by
    by_cases e : f = k
    · subst e
      simp only [List.lookup_cons_self] at hl
      cases hl
      exact ⟨v, by simp, h⟩
    · rw [List.lookup_cons, beq_eq_false_iff_ne.mpr e] at hl
      obtain ⟨u, h1, h2⟩ := look_fld t hl
      refine ⟨u, ?_, h2⟩
      rw [List.map_cons, List.map_cons, List.zip_cons_cons, List.lookup_cons, beq_eq_false_iff_ne.mpr (fun z => e (so_inj z))]
      exact h1
def xqFld (W : Wd T) (i : Nat) (c f : String) : XQ W i where
  t a cls dd := tXf a cls dd (W.cA c) (so f) (tVar i)
  ev x _ := if x.c = c then (x.fs.lookup f).map (Prod.mk .fr) else none
  snd := fun {x env k d} h a cls dd e F σ H L Q r ie hs q => by
    obtain ⟨hc, h⟩ := if_some' h
    obtain ⟨z, h, e1⟩ := Option.map_eq_some_iff.mp h
    cases e1
    obtain ⟨h1, h2, h3⟩ := ie
    rcases h3 with h3 | ⟨p, vs, h4, h5, h6⟩
    · rw [h3] at h; simp [List.lookup] at h
    · obtain ⟨v, h7, h8⟩ := look_fld h6 h
      exact ⟨_, hs, rfl, by rw [h1, hc], p, _, v, h4, r.sF _ _ h5, h7, q v F H (.refl r.sF) (rO_sh h8)⟩
def clsXOk (W : Wd T) (c : Bool × String) : Prop := if c.1 = true then W.hasX c.2 else c.2 = "ValueError"
def isX1 (T : Tbl) (x : String) (c : Bool × String) : Bool := if c.1 = true then T.xsub x c.2 else true
theorem kit_isx {x : String} {c : Bool × String} (hx : W.hasX x) (hc : clsXOk W c) : PySem.W.kitOne W.K (.ref (W.cA x)) (clsT W c) = some (isX1 T x c) := by
  obtain ⟨b, n⟩ := c
  cases b with
  | true => exact W.xk x n hx hc
  | false =>
    have hc : n = "ValueError" := hc
    subst hc
    exact W.xv x hx
def isXA (T : Tbl) (x : String) : List (Bool × String) -> Bool
  | [] => false
  | c :: cs => isX1 T x c || isXA T x cs
theorem kitAny_isx {x : String} (hx : W.hasX x) : ∀ {cs : List (Bool × String)}, (∀ c ∈ cs, clsXOk W c) -> PySem.W.kitAny W.K (.ref (W.cA x)) (cs.map (clsT W)) = some (isXA T x cs)
  | [], _ => rfl
  | c :: cs, h => by
    have h1 := kit_isx hx (h c (List.mem_cons_self ..))
    have h2 := kitAny_isx hx (cs := cs) fun y m => h y (List.mem_cons_of_mem _ m)
    exact kitAny_cons h1 (fun hb => by rw [h2, isXA, hb]; rfl) fun hb => by rw [isXA, hb]; rfl
def rIsX (K : PySem.W.Frag) (a : Addr) (cls : Value) (dd : Option Addr) : List V -> Hp -> VK -> Prop := fun xs H Q => ∃ (D0 p : Addr) (fs : List (Str × V)) (b : Bool), cls = .ref D0 /\ ExcC K D0 /\ dd = some p /\ H p = some (.xd fs) /\
  ((∃ (c : V) (cv : Value), xs = [.ref a, c] /\ (∀ u, RelV c u -> u = cv) /\ PySem.W.kitOne K (.ref D0) cv = some b) \/ (∃ (tp : Addr) (cs : List V) (us : List Value), xs = [.ref a, .ref tp] /\ H tp = some (.tup cs) /\ Paired ClsV cs us /\ PySem.W.kitAny K (.ref D0) us = some b)) /\ Q (.bl b) H
theorem call_isX {X : Cx} {a : Addr} {oe : Obj} {cls : Value} {dd : Option Addr} {pn : List (Addr × Obj)} (hz : Zc cls dd oe) (hf : ∃ vs, oe.data = .fields vs) : CallR (X.suite a ((a, oe) :: pn)) (.builtin "isinstance") (rIsX X.K a cls dd) := by
  intro pins s σ H xs us Q I r h
  obtain ⟨D0, p, fs, b, ec, C, ed, hp, h, q⟩ := h
  subst ec
  subst ed
  obtain ⟨hget, _⟩ := I.pin (a, oe) (List.mem_append_left _ List.mem_cons_self)
  obtain ⟨vs, hv⟩ := hf
  have hx : ObjOk X.prog X.w H s.heap p (.xd fs) := I.hok p _ hp
  obtain ⟨mA, hns, _⟩ := hx
  obtain ⟨od, ho, hl⟩ := lookIn_ns hns
  have J : PySem.W.InstAt s.heap a oe D0 (some od) := ⟨hget, hz.1, by unfold PySem.W.notCls; rw [hv] <;> rfl, by rw [hz.2]; exact ho⟩
  have KX := PySem.W.kitx_exc (x := a) (ox := oe) (od := some od) (by obtain ⟨cd, hc, _⟩ := PySem.W.any_some C.hd; rw [hc]; rfl) C.hg C.hk C.hs C.ha C.hn C.ht C.hm
  rcases h with ⟨c, cv, rfl, hcv, e⟩ | ⟨tp, cs, ws, rfl, hT, k, e⟩
  · obtain ⟨u1, u2, rfl, r1, r2⟩ := vals2 r
    cases (show u1 = Value.ref a from r1)
    have ev := hcv _ r2
    subst ev
    exact PySem.W.kia_one KX I.kIn J e (fun z => nomatch z) fun tk => ⟨.bl b, H, I.tok tk, rfl, q⟩
  · obtain ⟨u1, u2, rfl, r1, r2⟩ := vals2 r
    cases (show u1 = Value.ref a from r1)
    cases (show u2 = Value.ref tp from r2)
    obtain ⟨_, its, rv, o, h1, h2, n, h3⟩ := (show ObjOk X.prog X.w H s.heap tp (.tup cs) from I.hok tp _ hT)
    have e3 := ClsV.all k rv
    subst e3
    obtain ⟨oc, od, dt, sl⟩ := o
    simp only at h2 h3
    subst h2 h3
    exact PySem.W.kia_tup KX I.kIn J h1 e (fun z => nomatch z) fun tk => ⟨.bl b, H, I.tok tk, rfl, q⟩
theorem clsV_rel {W : Wd T} (c : Bool × String) : ∀ u, RelV (clsV W c) u -> u = clsT W c := by
  obtain ⟨b, n⟩ := c
  cases b with
  | true => intro u h; exact h
  | false => intro u h; exact h
def xqIs (W : Wd T) (i : Nat) (c : Bool × String) : XQ W i where
  t a cls dd := fun σ H Q => clsXOk W c -> tCB (rIsX W.K a cls dd) (tCons (tVar i) (tCons (tC (clsV W c)) tNil)) σ H Q
  ev x _ := match x.fs with
    | [] => none
    | _ :: _ => some (.fr, .bl (isX1 T x.c c))
  snd := fun {x env k d} h a cls dd e F σ H L Q r ie hs q hc => by
    obtain ⟨h1, h2, h3⟩ := ie
    split at h
    · cases h
    · rename_i z zs hfs
      cases h
      rcases h3 with h3 | ⟨p, vs, h4, h5, h6⟩
      · rw [hfs] at h3; cases h3
      · exact ⟨_, hs, W.cA x.c, p, _, _, h1, W.xc _ h2, h4, r.sF _ _ h5, .inl ⟨_, _, rfl, clsV_rel c, kit_isx h2 hc⟩, q _ F H (.refl r.sF) (rO_sh .bl)⟩
def xqIsT (W : Wd T) (i : Nat) (cs : List (Bool × String)) : XQ W i where
  t a cls dd := fun σ H Q => (∀ c ∈ cs, clsXOk W c) -> cs.length <= 100 -> tCB (rIsX W.K a cls dd) (tCons (tVar i) (tCons (tTup (tCls W cs)) tNil)) σ H Q
  ev x _ := match x.fs with
    | [] => none
    | _ :: _ => some (.fr, .bl (isXA T x.c cs))
  snd := fun {x env k d} h a cls dd e F σ H L Q r ie hs q hc hl => by
    obtain ⟨h1, h2, h3⟩ := ie
    split at h
    · cases h
    · rename_i z zs hfs
      cases h
      rcases h3 with h3 | ⟨p, vs, h4, h5, h6⟩
      · rw [hfs] at h3; cases h3
      · refine ⟨_, hs, tCls_run cs σ H _ ⟨by rw [List.length_map]; exact Nat.le_trans hl (by decide), fun tp htp => ?_⟩⟩
        have x1 : Ext F H F (upd H tp (.tup (cs.map (clsV W)))) := .newH r.sF htp
        exact ⟨W.cA x.c, p, _, _, h1, W.xc _ h2, h4, x1.h _ _ (r.sF _ _ h5), .inr ⟨_, _, _, rfl, upd_same, paired_cls cs, kitAny_isx h2 hc⟩, q _ F _ x1 (rO_sh .bl)⟩
def XQ.evB (m : XQ W i) (x : Exn) (env : Py.Env) : Option Bool := (toV (m.ev x env)).bind blD
theorem XQ.sB (m : XQ W i) {x : Exn} {b : Bool} (h : m.evB x env = some b) (a : Addr) (cls : Value) (dd : Option Addr) : AQ W i x a cls dd (m.t a cls dd) env (rV W (.bl b)) := by
  obtain ⟨y, e1, e⟩ := Option.bind_eq_some_iff.mp h
  cases blD_ok e
  match e2 : m.ev x env, e1 with
  | some (k, d0), e1 =>
    have e1 : some (fz d0) = some (.bl b) := e1
    exact fun e F σ H L Q r ie hs q => m.snd e2 a cls dd e F σ H L Q r ie hs fun v F' H' x' y => q v F' H' x' (by
      have := rK_view x'.s y
      rwa [Option.some.inj e1] at this)
def xqAnd (m n : XQ W i) : XQ W i where
  t a cls dd := tAndV (m.t a cls dd) (n.t a cls dd)
  ev x env := (andE (m.evB x env) fun _ => n.evB x env).map fun c => (.fr, .bl c)
  snd := fun {x env k d} h a cls dd e F σ H L Q r ie hs q => by
    obtain ⟨c, e1, h⟩ := Option.map_eq_some_iff.mp h
    cases h
    match ha : m.evB x env, e1 with
    | some b, e1 =>
      refine m.sB ha a cls dd e F σ H L _ r ie hs fun v F1 H1 x1 y1 => ?_
      have y1 : Shr W H1 (.bl b) v := y1
      cases y1
      refine ⟨b, rfl, ?_⟩
      cases b with
      | true =>
        refine n.sB e1 a cls dd e F1 σ H1 L _ (r.ext x1) (ie.mono x1.f) hs fun u F2 H2 x2 y2 => ?_
        have y2 : Shr W H2 (.bl c) u := y2
        cases y2
        exact q _ F2 H2 (x1.trans x2) (rO_sh .bl)
      | false => cases e1; exact q _ F1 H1 x1 (rO_sh .bl)
def xqNot (m : XQ W i) : XQ W i where
  t a cls dd := tNotV (m.t a cls dd)
  ev x env := (m.evB x env).map fun c => (.fr, .bl (!c))
  snd := fun {x env k d} h a cls dd e F σ H L Q r ie hs q => by
    obtain ⟨c, e1, h⟩ := Option.map_eq_some_iff.mp h
    cases h
    refine m.sB e1 a cls dd e F σ H L _ r ie hs fun v F1 H1 x1 y1 => ?_
    have y1 : Shr W H1 (.bl c) v := y1
    cases y1
    exact ⟨c, rfl, q _ F1 H1 x1 (rO_sh .bl)⟩
def toQ (o : Option (Kd × D)) : Option D := match o with
  | some (.fr, d) => if isSh d = true then some d else none
  | some (.pl, d) => if isSh d = true then some d else none
  | some (.vw, d) => if isFlat d = true then some d else none
  | none => none
def XQ.evF (m : XQ W i) (x : Exn) (env : Py.Env) : Option D := toQ (m.ev x env)
theorem XQ.sF (m : XQ W i) {x : Exn} (h : m.evF x env = some d) (a : Addr) (cls : Value) (dd : Option Addr) : AQ W i x a cls dd (m.t a cls dd) env (rF W d) := by
  unfold XQ.evF toQ at h
  intro e F σ H L Q r ie hs q
  split at h
  · rename_i d0 e2
    obtain ⟨h1, rfl⟩ := ite_some h
    exact m.snd e2 a cls dd e F σ H L Q r ie hs fun v F' H' x' ⟨M, o, _, _⟩ => q v F' H' x' (o.shr h1)
  · rename_i d0 e2
    obtain ⟨h1, rfl⟩ := ite_some h
    exact m.snd e2 a cls dd e F σ H L Q r ie hs fun v F' H' x' ⟨M, o⟩ => q v F' H' x' (o.shr h1)
  · rename_i d0 e2
    obtain ⟨h1, rfl⟩ := ite_some h
    exact m.snd e2 a cls dd e F σ H L Q r ie hs fun v F' H' x' y => q v F' H' x' (Shr.flat y h1)
  · cases h
structure XQs {T : Tbl} (W : Wd T) (i : Nat) where
  t : Addr -> Value -> Option Addr -> TA
  ev : Exn -> Py.Env -> Option (List D)
  snd : ∀ {x env ds}, ev x env = some ds -> ∀ a cls dd (e : Ent) (F : Hp) (σ : St) (H : Hp) (L : List Addr) (Q : List V -> Hp -> Prop), Rel W e env F σ H L -> IsExn W F x cls dd -> σ[i]? = some (some (.ref a)) -> (∀ vs F' H', Ext F H F' H' -> Shrs W F' ds vs -> Q vs H') -> t a cls dd σ H Q
def xqsNil (W : Wd T) (i : Nat) : XQs W i where
  t _ _ _ := tNil
  ev _ _ := some []
  snd := fun h a cls dd e F σ H L Q r _ _ q => by cases h; exact q [] F H (.refl r.sF) .nil
def xqsCons (m : XQ W i) (n : XQs W i) : XQs W i where
  t a cls dd := tCons (m.t a cls dd) (n.t a cls dd)
  ev x env := (m.evF x env).bind fun y => (n.ev x env).map (y :: ·)
  snd := fun {x env ds} h a cls dd e F σ H L Q r ie hs q => by
    obtain ⟨y, e1, h⟩ := Option.bind_eq_some_iff.mp h
    obtain ⟨ys, e2, rfl⟩ := Option.map_eq_some_iff.mp h
    exact m.sF e1 a cls dd e F σ H L _ r ie hs fun v F1 H1 x1 y1 => n.snd e2 a cls dd e F1 σ H1 L _ (r.ext x1) (ie.mono x1.f) hs fun vs F2 H2 x2 y2 => q _ F2 H2 (x1.trans x2) (.cons (Shr.mono x2.f y1) y2)
def xqLst (n : XQs W i) : XQ W i where
  t a cls dd := tLst (n.t a cls dd)
  ev x env := (n.ev x env).bind fun ds => if ds.length <= 1000000 then some (.fr, .olst ds) else none
  snd := fun {x env k d} h a cls dd e F σ H L Q r ie hs q => by
    obtain ⟨ds, e1, h⟩ := Option.bind_eq_some_iff.mp h
    obtain ⟨hl, h⟩ := ite_some h
    cases h
    refine n.snd e1 a cls dd e F σ H L _ r ie hs fun vs F1 H1 x1 y1 => ⟨by rw [<- y1.length]; exact Nat.le_trans hl (by decide), fun p hp => q _ F1 _ (x1.trans (.newH x1.s hp)) ⟨[p], .olst upd_same y1.owns, by simp, fun b m => ?_⟩⟩
    obtain rfl := List.mem_singleton.mp m
    exact ⟨x1.h.free hp, x1.s.free hp⟩
structure XH {T : Tbl} (W : Wd T) (i : Nat) where
  t : Addr -> Value -> Option Addr -> TS
  ev : Exn -> List Nat -> Py.Env -> RS
  snd : ∀ {x P env} (a : Addr) (cls : Value) (dd : Option Addr), ev x P env ≠ .no -> ∀ (e : Ent) (F : Hp) (σ : St) (H : Hp) (L : List Addr) (E : WX) (Dn : Ends), P = e.pins.map (·.1) -> Rel W e env F σ H L -> IsExn W F x cls dd -> σ[i]? = some (some (.ref a)) -> Sat W e E (ends (ev x P env)) Dn -> t a cls dd Dn σ H
def XQ.evO (m : XQ W i) (x : Exn) (env : Py.Env) : Option D := toO (m.ev x env)
theorem XQ.sO (m : XQ W i) {x : Exn} (h : m.evO x env = some d) (a : Addr) (cls : Value) (dd : Option Addr) : AQ W i x a cls dd (m.t a cls dd) env (rO W d) := by
  unfold XQ.evO at h
  intro e F σ H L Q r ie hs q
  match e2 : m.ev x env, h with
  | some (.fr, d0), h => cases h; exact m.snd e2 a cls dd e F σ H L Q r ie hs q
  | some (.pl, d0), h =>
    obtain ⟨h1, rfl⟩ := ite_some h
    exact m.snd e2 a cls dd e F σ H L Q r ie hs fun v F' H' x' ⟨M, o⟩ => q v F' H' x' (rO_sh (o.shr h1))
  | some (.vw, d0), h =>
    obtain ⟨h1, rfl⟩ := ite_some h
    exact m.snd e2 a cls dd e F σ H L Q r ie hs fun v F' H' x' y => q v F' H' x' (rO_sh (Shr.flat y h1))
def xhAsgK (P : List Nat) (j : Nat) (env : Py.Env) : Option D -> RS
  | some d => RS.ofO (setS P j d env)
  | none => .no
def xhAsg (j : Nat) (m : XQ W i) : XH W i where
  t a cls dd := tAsg (m.t a cls dd) (gName j)
  ev x P env := xhAsgK P j env (m.evO x env)
  snd := fun {x P env} a cls dd hn e F σ H L E Dn hP r ie hs s => by
    match h : m.evO x env, hn, s with
    | none, hn, _ => exact absurd rfl hn
    | some d, hn, s =>
      have hn : RS.ofO (setS P j d env) ≠ .no := hn
      have s : Sat W e E (ends (RS.ofO (setS P j d env))) Dn := s
      cases h2 : setS P j d env with
      | none => rw [h2] at hn; exact absurd rfl hn
      | some e2 =>
        rw [h2] at s
        obtain ⟨⟨h3, h4⟩, rfl⟩ := ite_some h2
        refine m.sO h a cls dd e F σ H L _ r ie hs fun v F' H' x1 ⟨M, o, nd, k⟩ => ?_
        obtain ⟨L2, r2⟩ := (r.ext x1).set (i := j) o (nodup_new (H := H) r.nd nd r.slots.lives fun b m => (k b m).1) (fun b m => ⟨(k b m).2, r.h0 (k b m).1⟩) h3 fun p hm z => h4 (by rw [hP]; exact List.mem_map.mpr ⟨p, hm, z⟩)
        exact s.nx _ _ _ _ _ rfl r2
theorem Slots.junk {F H : Hp} : ∀ {env : Py.Env} {σ : St} {L : List Addr}, Slots W F H env σ L -> ∀ (i : Nat) (o : Option V), ∃ L', Slots W F H (env.set i none) (σ.set i o) L' /\ (∀ a ∈ L', a ∈ L) /\ (L.Nodup -> L'.Nodup)
  | _, _, _, .nil, i, o => ⟨[], .nil, fun _ h => h, id⟩
  | _, _, _, .so (L := L1) (M := M1) h t, 0, o => ⟨M1, .no t, fun a m => List.mem_append_right _ m, fun n => (List.nodup_append.mp n).2.1⟩
  | _, _, _, .so (L := L1) (M := M1) h t, i + 1, o => by
    obtain ⟨L', s, m, n⟩ := t.junk i o
    refine ⟨L1 ++ L', .so h s, fun a ha => ?_, fun nd => ?_⟩
    · rcases List.mem_append.mp ha with z | z
      · exact List.mem_append_left _ z
      · exact List.mem_append_right _ (m a z)
    · rw [List.nodup_append] at nd ⊢
      exact ⟨nd.1, n nd.2.1, fun a ha b hb => nd.2.2 a ha b (m b hb)⟩
  | _, _, _, .no t, 0, o => ⟨_, .no t, fun _ h => h, id⟩
  | _, _, _, .no t, i + 1, o => by
    obtain ⟨L', s, m, n⟩ := t.junk i o
    exact ⟨L', .no s, m, n⟩
theorem Rel.junk {e : Ent} {F H : Hp} {σ : St} {L : List Addr} (r : Rel W e env F σ H L) (i : Nat) (o : Option V) (hp : ∀ p ∈ e.pins, p.1 ≠ i) : ∃ L', Rel W e (env.set i none) F (σ.set i o) H L' := by
  obtain ⟨L', s, m, n⟩ := r.slots.junk i o
  refine ⟨L', r.sF, s, n r.nd, fun a ha => r.dj a (m a ha), r.s0, r.nw, r.fr, fun a ha => r.ln a (m a ha), fun p hm => ?_⟩
  rw [List.getElem?_set_ne (fun z => hp p hm z.symm)]
  exact r.pin p hm
def RS.clr (i : Nat) : RS -> RS
  | .nx e => .nx (e.set i none)
  | .bk e => .bk (e.set i none)
  | .ct e => .ct (e.set i none)
  | .rt d e => .rt d e
  | _ => .no
def tryK (T : Tbl) {W : Wd T} (i : Nat) (c : String) (s : XH W i) (P : List Nat) : RS -> RS
  | .ex x env1 => if T.xsub x.c c = true then (if i ∈ P \/ env1.length <= i then .no else (s.ev x P (env1.set i none)).clr i) else .ex x env1
  | r => r
theorem Slots.len {F H : Hp} {env : Py.Env} {σ : St} {L : List Addr} (h : Slots W F H env σ L) : env.length = σ.length := h.length
def xsTryAs (i : Nat) (c : String) (b : XS W) (s : XH W i) : XS W where
  t E := fun Dn σ H => W.hasX c -> b.t (wAs W.K (.ref (W.cA c)) i s.t E Dn) Dn σ H
  ev P env := tryK T i c s P (b.ev P env)
  snd := fun P E env hn e F σ H L Dn hP r sat hc => by
    have hb : b.ev P env ≠ .no := fun z => hn (by rw [z]; rfl)
    refine b.snd P _ env hb e F σ H L Dn hP r ⟨fun env' F' σ' H' L' h r' => ?_, fun d env' F' σ' H' L' v M h r' => ?_, fun env' F' σ' H' L' h r' => ?_, fun env' F' σ' H' L' h r' => ?_, fun x env1 F1 σ1 H1 L1 C dd h r1 ie => ?_⟩
    · exact sat.nx _ _ _ _ _ (show tryK T i c s P (b.ev P env) = .nx env' by rw [show b.ev P env = .nx env' from h]; rfl) r'
    · exact sat.rt _ _ _ _ _ _ _ _ (show tryK T i c s P (b.ev P env) = .rt d env' by rw [show b.ev P env = .rt d env' from h]; rfl) r'
    · exact sat.bk _ _ _ _ _ (show tryK T i c s P (b.ev P env) = .bk env' by rw [show b.ev P env = .bk env' from h]; rfl) r'
    · exact sat.ct _ _ _ _ _ (show tryK T i c s P (b.ev P env) = .ct env' by rw [show b.ev P env = .ct env' from h]; rfl) r'
    · have h : b.ev P env = .ex x env1 := h
      rw [h] at hn sat
      unfold tryK at hn sat
      refine ⟨T.xsub x.c c, by rw [ie.1]; exact W.xm _ _ ie.2.1 hc, fun ht a ha => ?_, fun hf => ?_⟩
      · dsimp only at hn sat
        rw [if_pos ht] at hn sat
        by_cases hi : i ∈ P \/ env1.length <= i
        · rw [if_pos hi] at hn; exact absurd rfl hn
        · rw [if_neg hi] at hn sat
          rw [not_or] at hi
          have hp : ∀ p ∈ e.pins, p.1 ≠ i := fun p hm z => hi.1 (by rw [hP]; exact List.mem_map.mpr ⟨p, hm, z⟩)
          obtain ⟨L2, r2⟩ := r1.junk i (some (.ref a)) hp
          have hs : (σ1.set i (some (.ref a)))[i]? = some (some (.ref a)) := List.getElem?_set_self (by rw [<- r1.slots.length]; omega)
          have hn2 : s.ev x P (env1.set i none) ≠ .no := fun z => hn (by rw [z]; rfl)
          refine s.snd a C dd hn2 e F1 _ H1 L2 E _ hP r2 ie hs ⟨fun env' F' σ' H' L' h' r' => ?_, fun d env' F' σ' H' L' v M h' r' => ?_, fun env' F' σ' H' L' h' r' => ?_, fun env' F' σ' H' L' h' r' => ?_, fun x' env' F' σ' H' L' C' dd' h' r' ie' => ?_⟩
          · have h' : s.ev x P (env1.set i none) = .nx env' := h'
            obtain ⟨L3, r3⟩ := r'.junk i none hp
            exact sat.nx _ _ _ _ _ (show (s.ev x P (env1.set i none)).clr i = _ by rw [h']; rfl) r3
          · have h' : s.ev x P (env1.set i none) = .rt d env' := h'
            exact sat.rt _ _ _ _ _ _ _ _ (show (s.ev x P (env1.set i none)).clr i = _ by rw [h']; rfl) r'
          · have h' : s.ev x P (env1.set i none) = .bk env' := h'
            obtain ⟨L3, r3⟩ := r'.junk i none hp
            exact sat.bk _ _ _ _ _ (show (s.ev x P (env1.set i none)).clr i = _ by rw [h']; rfl) r3
          · have h' : s.ev x P (env1.set i none) = .ct env' := h'
            obtain ⟨L3, r3⟩ := r'.junk i none hp
            exact sat.ct _ _ _ _ _ (show (s.ev x P (env1.set i none)).clr i = _ by rw [h']; rfl) r3
          · have h' : s.ev x P (env1.set i none) = .ex x' env' := h'
            rw [h'] at hn
            exact absurd rfl hn
      · dsimp only at sat
        rw [if_neg (by rw [hf]; exact Bool.false_ne_true)] at sat
        exact sat.ex x env1 F1 σ1 H1 L1 C dd rfl r1 ie
def apmK (i : Nat) (d : D) (e : Py.Env) : RM := RM.ofO ((getS e i).bind fun n => (appendD n [d]).map fun z => (z.2, e.set i (some z.1)))
def isOl : Option D -> Bool
  | some (.olst _) => true
  | _ => false
def xmAppendR (j : Nat) (m : XM W) : XM W where
  t E := tBM W.K "list" rAppend (tVar j) (tCons (m.t E) tNil)
  ev P env := if isOl (getS env j) = true then (m.ev P env).thenM (apmK j) else .no
  snd := fun P E env hn e F σ H L Q hP r c cx => by
    by_cases hl : isOl (getS env j) = true
    · rw [if_pos hl] at hn c cx
      cases hg : getS env j with
      | none => rw [hg] at hl; cases hl
      | some n0 =>
        rw [hg] at hl
        cases n0 with
        | olst xs =>
          obtain ⟨v0, M0, hs, o0, _⟩ := slot_get r (getS_some hg)
          cases o0 with
          | sh y => cases y
          | olst ha _ =>
            refine ⟨_, hs, .inl ⟨rfl, _, .of ha⟩, ?_⟩
            have hm : m.ev P env ≠ .no := fun z => hn (by rw [z]; rfl)
            refine m.snd P E env hm e F σ H L _ hP r (fun d env1 v F1 H1 L1 M h r1 o nd kk => ?_) fun x env1 F1 H1 L1 C dd h r1 ie => cx x env1 F1 H1 L1 C dd (by rw [h]; rfl) r1 ie
            rw [h] at hn c
            have hn : apmK j d env1 ≠ .no := hn
            have c : ∀ d' env' v F' H' L' M, apmK j d env1 = .ok d' env' -> _ := c
            unfold apmK at hn c
            obtain ⟨d2, env2, h2⟩ := RM.ofO_ok hn
            rw [h2] at c
            obtain ⟨n1, e3, h2⟩ := Option.bind_eq_some_iff.mp h2
            obtain ⟨⟨n2, d3⟩, e4, h2⟩ := Option.map_eq_some_iff.mp h2
            cases h2
            rw [List.nodup_append] at nd
            exact am_mop (st := []) mop_append r1 (getS_some e3) rfl hs rfl e4 (.cons o .nil) (by simpa using nd.1) (fun a ha => by
              have ha : a ∈ M := by simpa using ha
              exact ⟨fun z => nd.2.2 a ha a z rfl, kk a ha⟩) fun v F' H' L' M r' o nd kk => c _ _ v F' H' L' M rfl r' o nd kk
        | _ => cases hl
    · rw [if_neg hl] at hn; exact absurd rfl hn
def callOM (T : Tbl) (φ : Sem) (n : Nat) (f : Option D) (fs : Option (List D)) (env : Py.Env) : RM := match f, fs with
  | some d, some ds => rm0 (callO1 T φ n (d :: ds)) env
  | _, _ => .no
def xmCallO (φ : Sem) (n : Nat) (a : XP W) (as : XA W) : XM W where
  t E := fun σ H Q => tCallO W φ n none (WE E σ) a.t as.t σ H Q
  ev P env := callOM T φ n (a.evF env) (as.evF env) env
  snd := fun P E env hn e F σ H L Q hP r c cx => by
    match e1 : a.evF env, e2 : as.evF env, hn, c, cx with
    | none, _, hn, _, _ => exact absurd rfl hn
    | some _, none, hn, _, _ => exact absurd rfl hn
    | some d0, some ds, hn, c, cx =>
      have hn : rm0 (callO1 T φ n (d0 :: ds)) env ≠ .no := hn
      have hm : callO1 T φ n (d0 :: ds) ≠ .no := fun z => hn (by rw [z]; rfl)
      obtain ⟨cn, ns, xs, nm, rfl, h1, h3, h4⟩ := callO1_ok hm
      have c : ∀ d env' v F' H' L' M, rm0 (callO1 T φ n (.ins cn ns xs :: ds)) env = .ok d env' -> _ := c
      have cx : ∀ x env' F' H' L' C dd, rm0 (callO1 T φ n (.ins cn ns xs :: ds)) env = .exn x env' -> _ := cx
      rw [h4] at hm c cx
      refine a.sF e1 e F σ H L _ r fun v F1 H1 x1 y1 => ?_
      obtain ⟨p, dx, vs, rfl, hp, hc⟩ := shr_ins y1
      refine ⟨p, rfl, as.sF e2 e F1 σ H1 L _ (r.ext x1) fun ws F2 H2 x2 y2 => ?_⟩
      obtain ⟨p', dx', vs', hv, hp', hc'⟩ := shr_ins (y1.mono x2.f)
      cases hv
      have r2 := (r.ext x1).ext x2
      refine ⟨cn, nm, dx', _, x2.s _ _ hp', hc, h1, ?_⟩
      refine callX x2.s (.cons (y1.mono x2.f) y2) h3 hm (fun d b v F3 H3 eq x3 ⟨M, o, nd, kk⟩ => ?_) fun x b F3 H3 C dd eq x3 ie => ?_
      · rw [eq] at c
        exact c d env v F3 H3 L M rfl (r2.ext x3) o (nodup_new (H := H2) r2.nd nd r2.slots.lives fun a m => (kk a m).1) fun a m => ⟨(kk a m).2, r2.h0 (kk a m).1⟩
      · rw [eq] at cx
        exact cx x env F3 H3 L C dd rfl (r2.ext x3) ie
end
theorem ps_imp {X : Cx} {s : Stmt} {t : TS} {c : Prop} (hc : c) (h : PS X s t) : PS X s (fun Dn σ H => c -> t Dn σ H) := ⟨fun pins s σ H Dn I q => h.run pins s σ H Dn I (q hc)⟩
section
variable {X : Cx} {T : Tbl} {W : Wd T} {E : WX}
theorem px_raise {c : String} {fs : List String} {a : Expr} {es : List Expr} {ta : TA} {x : Str} {p pos pos2 : Pos} {k : Nat} (D : ExcD X.prog X.K X.mg x (W.cA c) (fs.map so)) (hx : W.hasX c) (tk : Takes X E) (hc : X.calm = true) (hr : Room k X.A) (ha : PA X (a :: es) ta) (hg : Gl X x)
    (hd : (x == ("__debug__" : Str)) = false := by decide) (he : starEach (a :: es) X.env = (false, eval a X.env) :: starEach es X.env := by rfl) (hpl : (backTo pos (starEach es X.env)).any (·.1) = false := by rfl) :
    PS X (.Raise (some (.Call (.Name x p) (a :: es) [] pos)) none pos2) (fun _ σ H => W.hasX c -> tMkX (W.cA c) (fs.map so) ta σ H fun cls d H' => E cls d σ H') :=
  ps_imp hx (ps_raise hc tk (pmk_x D hr ha hg hd he hpl))
theorem px_isX {a : Addr} {oe : Obj} {cls : Value} {dd : Option Addr} {pn : List (Addr × Obj)} {e ce : Expr} {te : TE} {p1 pos : Pos} {c : Bool × String} (hz : Zc cls dd oe) (hf : ∃ vs, oe.data = .fields vs) (hm : X.mg "isinstance" = none) (hok : clsXOk W c) (hE : PE (X.suite a ((a, oe) :: pn)) e te)
    (hC : PE (X.suite a ((a, oe) :: pn)) ce (tC (clsV W c))) (hg : Gl (X.suite a ((a, oe) :: pn)) "isinstance" := by rfl)
    (hs : starEach [e, ce] X.env = (false, eval e X.env) :: starEach [ce] X.env := by rfl) (hs2 : starEach [ce] X.env = (false, eval ce X.env) :: starEach [] X.env := by rfl)
    (hpl : (backTo pos (starEach [ce] X.env)).any (·.1) = false := by rfl) :
    PE (X.suite a ((a, oe) :: pn)) (.Call (.Name "isinstance" p1) [e, ce] [] pos) (fun σ H Q => clsXOk W c -> tCB (rIsX X.K a cls dd) (tCons te (tCons (tC (clsV W c)) tNil)) σ H Q) :=
  pe_imp hok (pe_callB (X := X.suite a ((a, oe) :: pn)) (call_isX hz hf) hg hm (by decide +kernel) (pa_cons hE (pa_cons hC pa_nil hs2) hs) (he := hs) (hpl := hpl))
theorem px_isXT {a : Addr} {oe : Obj} {cls : Value} {dd : Option Addr} {pn : List (Addr × Obj)} {e : Expr} {es : List Expr} {te : TE} {p1 p2 pos : Pos} {kk : Nat} {cs : List (Bool × String)} (hz : Zc cls dd oe) (hf : ∃ vs, oe.data = .fields vs) (hm : X.mg "isinstance" = none) (hok : ∀ c ∈ cs, clsXOk W c) (hl : cs.length <= 100) (hE : PE (X.suite a ((a, oe) :: pn)) e te)
    (hC : PA (X.suite a ((a, oe) :: pn)) es (tCls W cs)) (hg : Gl (X.suite a ((a, oe) :: pn)) "isinstance" := by rfl)
    (hs : starEach [e, .Tuple es kk p2] X.env = (false, eval e X.env) :: starEach [.Tuple es kk p2] X.env := by rfl) (hs2 : starEach [.Tuple es kk p2] X.env = (false, eval (.Tuple es kk p2) X.env) :: starEach [] X.env := by rfl)
    (hpl : (backTo pos (starEach [.Tuple es kk p2] X.env)).any (·.1) = false := by rfl) (hplE : (starEach es X.env).any (·.1) = false := by rfl) :
    PE (X.suite a ((a, oe) :: pn)) (.Call (.Name "isinstance" p1) [e, .Tuple es kk p2] [] pos) (fun σ H Q => (∀ c ∈ cs, clsXOk W c) -> cs.length <= 100 -> tCB (rIsX X.K a cls dd) (tCons te (tCons (tTup (tCls W cs)) tNil)) σ H Q) :=
  pe_imp hok (pe_imp hl (pe_callB (X := X.suite a ((a, oe) :: pn)) (call_isX hz hf) hg hm (by decide +kernel) (pa_cons hE (pa_cons (pe_tup hC) pa_nil hs2) hs) (he := hs) (hpl := hpl)))
theorem exd_no {P : Program} {K : PySem.W.Frag} {mg : Str -> Option Value} {x : Str} {C : Addr} {fs : List Str} (D : ExcD P K mg x C fs) {f : Str} (h : f ∈ fs) : PySem.W.findIn K (.ref C) f = some none := by
  obtain ⟨_, _, _, _, _, T, _⟩ := D.ex
  exact T.noN f h
theorem px_xf {c f : String} {fs : List String} {x : Str} {a : Addr} {oe : Obj} {cls : Value} {dd : Option Addr} {pn : List (Addr × Obj)} {e : Expr} {te : TE} {pos : Pos} (D : ExcD X.prog X.K X.mg x (W.cA c) (fs.map so)) (hx : W.hasX c) (hK : W.K = X.K) (hm : f ∈ fs)
    (hz : Zc cls dd oe) (hf : ∃ vs, oe.data = .fields vs) (he : PE (X.suite a ((a, oe) :: pn)) e te) (hb : attributeBase e (so f) X.env (eval e X.env) = eval e X.env := by rfl) :
    PE (X.suite a ((a, oe) :: pn)) (.Attribute e (so f) pos) (tXf a cls dd (W.cA c) (so f) te) := by
  have q := W.xc c hx
  rw [hK] at q
  exact pe_xf ⟨q.hg, q.hk, q.hs, q.hd⟩ (exd_no D (List.mem_map_of_mem hm)) hz hf he hb
theorem cx_tk {P : Program} {w : World} {K : PySem.W.Frag} {mg : Str -> Option Value} {base : Heap} {N : List Str} {qual : Str} {sc : Scope} {f : Addr} {cdv : Value} {A : Around} {outer : List PySem.Env} {s : Shared} {H : Hp} {E : XK} :
    Takes (cxOf (L2.CX P w) P w K mg base N qual sc f cdv A outer s H E) (fun c d _ H => E c d H) := takes_of rfl rfl rfl rfl
theorem cx_po {P : Program} {w : World} {K : PySem.W.Frag} {mg : Str -> Option Value} {base : Heap} {N : List Str} {qual : Str} {sc : Scope} {f : Addr} {cdv : Value} {A : Around} {outer : List PySem.Env} {s : Shared} {H : Hp} {E : XK} :
    PassesOwn (model P w) (cxOf (L2.CX P w) P w K mg base N qual sc f cdv A outer s H E).A (cxOf (L2.CX P w) P w K mg base N qual sc f cdv A outer s H E).env (cxOf (L2.CX P w) P w K mg base N qual sc f cdv A outer s H E).xe := passes_of (X := cxOf (L2.CX P w) P w K mg base N qual sc f cdv A outer s H E) rfl
theorem spL_len {K : PySem.W.Frag} : ∀ vs H Q E, spL K vs H Q E -> vs.length = 1 := fun vs H Q E h => by
  obtain ⟨_, _, rfl, _⟩ := h
  rfl
theorem boot_VE : bootBuiltins "ValueError" = some (.type "ValueError") := by decide +kernel
end
end Py
namespace Py
open PySem L2
section
variable {T : Tbl} {W : Wd T}
end
end Py
namespace Py
open PySem L2
section
variable {T : Tbl} {W : Wd T}
end
end Py
namespace Py
open PySem L2
section
variable {T : Tbl} {W : Wd T}
end
end Py
namespace Py
open PySem L2 PyProof.Rows
section
variable {T : Tbl} {W : Wd T}
end
end Py
namespace Py
open PySem L2 PyProof.Rows
section
variable {T : Tbl} {W : Wd T}
end
end Py
namespace Py
open PySem L2
section
variable {T : Tbl} {W : Wd T}
def onL (As : List Addr) (H F : Hp) : Hp := fun b => if b ∈ As then H b else F b
theorem onL_in {As : List Addr} {H F : Hp} {b : Addr} (h : b ∈ As) : onL As H F b = H b := if_pos h
theorem onL_out {As : List Addr} {H F : Hp} {b : Addr} (h : b ∉ As) : onL As H F b = F b := if_neg h
theorem onL_same {As : List Addr} {F H : Hp} (s : Same F H) : Same F (onL As H F) /\ Same (onL As H F) H := by
  constructor
  · intro b o h
    by_cases e : b ∈ As
    · rw [onL_in e]; exact s _ _ h
    · rw [onL_out e]; exact h
  · intro b o h
    by_cases e : b ∈ As
    · rw [onL_in e] at h; exact h
    · rw [onL_out e] at h; exact s _ _ h
inductive Lents {T : Tbl} (W : Wd T) (F H : Hp) : List D -> List V -> List Addr -> Prop
  | nil : Lents W F H [] [] []
  | sh {d v ds vs As} : Shr W F d v -> Lents W F H ds vs As -> Lents W F H (d :: ds) (v :: vs) As
  | le {a xs ws ds vs As} : H a = some (.lst ws) -> Shrs W F xs ws -> Lents W F H ds vs As -> Lents W F H (.lst xs :: ds) (.ref a :: vs) (a :: As)
theorem Lents.ext {F H F' H' : Hp} (x : Ext F H F' H') : ∀ {ds : List D} {vs : List V} {As : List Addr}, Lents W F H ds vs As -> Lents W F' H' ds vs As
  | _, _, _, .nil => .nil
  | _, _, _, .sh h t => .sh (h.mono x.f) (t.ext x)
  | _, _, _, .le h s t => .le (x.h _ _ h) (s.mono x.f) (t.ext x)
theorem Lents.lists {F H : Hp} : ∀ {ds : List D} {vs : List V} {As : List Addr}, Lents W F H ds vs As -> ∀ b ∈ As, ∃ ws, H b = some (.lst ws)
  | _, _, _, .nil, b, m => nomatch m
  | _, _, _, .sh h t, b, m => t.lists b m
  | _, _, _, .le h s t, b, m => by
    rcases List.mem_cons.mp m with rfl | m
    · exact ⟨_, h⟩
    · exact t.lists b m
theorem Lents.shrs {F H : Hp} {Bs : List Addr} (s : Same F H) : ∀ {ds : List D} {vs : List V} {As : List Addr}, Lents W F H ds vs As -> (∀ b ∈ As, b ∈ Bs) -> Shrs W (onL Bs H F) ds vs
  | _, _, _, .nil, _ => .nil
  | _, _, _, .sh h t, k => .cons (h.mono (onL_same s).1) (t.shrs s k)
  | _, _, _, .le h u t, k => .cons (.lst (by rw [onL_in (k _ (List.mem_cons_self ..))]; exact h) (u.mono (onL_same s).1)) (t.shrs s fun b m => k b (List.mem_cons_of_mem _ m))
structure XB {T : Tbl} (W : Wd T) where
  t : TA
  ev : Py.Env -> Option (List D)
  snd : ∀ {env ds}, ev env = some ds -> ∀ (e : Ent) (F : Hp) (σ : St) (H : Hp) (L : List Addr) (Q : List V -> Hp -> Prop), Rel W e env F σ H L -> (∀ vs F' H' As, Ext F H F' H' -> Lents W F' H' ds vs As -> Q vs H') -> t σ H Q
end
end Py
namespace Py
open PySem L2
section
variable {T : Tbl} {W : Wd T} {P : Program} {w : World}
def DKeys (P : Program) (w : World) (H : Hp) (ks : List NestedKey) (kas : List Addr) : Prop := ∀ h, HOk P w H h -> ∀ (i : Nat) (k : NestedKey) (ka : Addr), ks[i]? = some k -> kas[i]? = some ka -> (nestedKind P w).is h k ka
def GD (P : Program) (w : World) (H : Hp) (a : Addr) (ks : List NestedKey) (kas : List Addr) (vs : List V) : Prop := H a = some (.ext (digP P w a ks kas vs)) /\ DKeys P w H ks kas
theorem zip3_get {α β γ : Type} {as : List α} {bs : List β} {cs : List γ} {i : Nat} {x : α × β × γ} (h : (as.zip (bs.zip cs))[i]? = some x) : as[i]? = some x.1 /\ bs[i]? = some x.2.1 /\ cs[i]? = some x.2.2 := by
  rw [List.getElem?_zip_eq_some, List.getElem?_zip_eq_some] at h
  exact ⟨h.1, h.2.1, h.2.2⟩
theorem zip3_mk {α β γ : Type} {as : List α} {bs : List β} {cs : List γ} {i : Nat} {x : α} {y : β} {z : γ} (h1 : as[i]? = some x) (h2 : bs[i]? = some y) (h3 : cs[i]? = some z) : (as.zip (bs.zip cs))[i]? = some (x, y, z) := by
  rw [List.getElem?_zip_eq_some, List.getElem?_zip_eq_some]
  exact ⟨h1, h2, h3⟩
theorem zip3_fst {α β γ : Type} {as : List α} {bs : List β} {cs : List γ} (h1 : as.length = bs.length) (h2 : as.length = cs.length) : (as.zip (bs.zip cs)).map (·.1) = as := by
  rw [List.map_fst_zip]
  rw [List.length_zip]; omega
structure GOk (P : Program) (w : World) (h : Heap) (a : Addr) (ks : List NestedKey) (kas : List Addr) (vs : List V) (us : List Value) : Prop where
  ns : (a == sysModules) = false
  rv : Vals vs us
  l1 : ks.length = kas.length
  l2 : ks.length = us.length
  sz : us.length <= sizeLine
  at' : h.DictOfH (nestedKind P w) a (ks.zip (kas.zip us))
  nd : ks.Nodup
theorem GD.ok {H : Hp} {h : Heap} {a : Addr} {ks : List NestedKey} {kas : List Addr} {vs : List V} (g : GD P w H a ks kas vs) (ok : HOk P w H h) : ∃ us, GOk P w h a ks kas vs us := by
  obtain ⟨⟨ns, us, rv, l1, l2, sz, o, es, ep, ho, hx, hd, he, hn⟩, _⟩ := ok _ _ g.1
  refine ⟨us, ns, rv, l1, l2, sz, ⟨o, es, ep, ho, hx, hd, he, fun x hx => ?_, ?_⟩, hn⟩
  · obtain ⟨i, hi⟩ := List.mem_iff_getElem?.mp hx
    obtain ⟨h1, h2, _⟩ := zip3_get hi
    exact g.2 h ok i _ _ h1 h2
  · rw [zip3_fst l1 l2]; exact hn
theorem GOk.dig {h : Heap} {a : Addr} {ks : List NestedKey} {kas : List Addr} {vs : List V} {us : List Value} (g : GOk P w h a ks kas vs us) : digP P w a ks kas vs h := by
  obtain ⟨o, es, ep, ho, hx, hd, he, _, _⟩ := g.at'
  exact ⟨g.ns, us, g.rv, g.l1, g.l2, g.sz, o, es, ep, ho, hx, hd, he, g.nd⟩
theorem GOk.new {H : Hp} {h : Heap} {a : Addr} {ks : List NestedKey} {kas : List Addr} {vs : List V} {us : List Value} (g : GOk P w h a ks kas vs us) : ObjOk P w H h a (.ext (digP P w a ks kas vs)) := by
  have ⟨o, _, _, ho, _⟩ := g.at'
  refine ⟨g.dig, ⟨o, ho⟩, fun h1 h2 p k => ?_⟩
  obtain ⟨ns, us, rv, l1, l2, sz, o, es, ep, ho, r⟩ := p
  exact ⟨ns, us, rv, l1, l2, sz, o, es, ep, k o ho, r⟩
theorem GOk.atKey_s {h : Heap} {a : Addr} {ks : List NestedKey} {kas : List Addr} {vs : List V} {us : List Value} (g : GOk P w h a ks kas vs us) {k : NestedKey} {j : Nat} (hp : pos k ks = some j) : ∃ ka u v, kas[j]? = some ka /\ us[j]? = some u /\ vs[j]? = some v /\ RelV v u /\ (ks.zip (kas.zip us))[j]? = some (k, ka, u) /\ atKey (ks.zip (kas.zip us)) k = some (ka, u) := by
  have hk := pos_get hp
  have hj := (List.getElem?_eq_some_iff.mp hk).1
  have l1 := g.l1
  have l2 := g.l2
  have l3 := g.rv.length
  have h1 : kas[j]? = some kas[j] := List.getElem?_eq_getElem (by omega)
  have h2 : us[j]? = some us[j] := List.getElem?_eq_getElem (by omega)
  have h3 : vs[j]? = some vs[j] := List.getElem?_eq_getElem (by omega)
  obtain ⟨u, hu, ru⟩ := g.rv.get h3
  rw [h2] at hu
  cases hu
  have hz := zip3_mk hk h1 h2
  exact ⟨_, _, _, h1, h2, h3, ru, hz, atKey_of_get (by rw [zip3_fst l1 l2]; exact g.nd) hz⟩
theorem pos_noneG {k : NestedKey} : ∀ {ks : List NestedKey}, pos k ks = none -> k ∉ ks
  | [], _, m => nomatch m
  | x :: ks, h, m => by
    have h : (if x = k then some 0 else (pos k ks).map (· + 1)) = none := h
    split at h
    · cases h
    · rename_i e
      rcases List.mem_cons.mp m with rfl | m
      · exact e rfl
      · exact pos_noneG (Option.map_eq_none_iff.mp h) m
theorem GOk.atKey_n {h : Heap} {a : Addr} {ks : List NestedKey} {kas : List Addr} {vs : List V} {us : List Value} (g : GOk P w h a ks kas vs us) {k : NestedKey} (hp : pos k ks = none) : atKey (ks.zip (kas.zip us)) k = none := by
  refine atKey_none_of_get fun j p hj => ?_
  obtain ⟨h1, _, _⟩ := zip3_get hj
  exact pos_noneG hp (List.mem_of_getElem? h1)
section
variable {X : Cx} {pins : List (Addr × Obj)} {σ : St} {H : Hp} {s : Shared} {A : Around} {E : Value -> Shared -> Prop} {a : Addr} {ks : List NestedKey} {kas : List Addr} {vs : List V} {k : NestedKey} {ka : Addr} {y v : V} {u r : Value}
end
section
variable {X : Cx} {o e f i : Expr} {apos cpos pos' : Pos} {td ty tx : TE}
end
end
end Py
namespace Py
open PySem L2
section
variable {X : Cx} {o e f i : Expr} {apos cpos pos' : Pos} {td ty tx : TE}
theorem vals2 {x y : V} {us : List Value} (h : Vals [x, y] us) : ∃ u v, us = [u, v] /\ RelV x u /\ RelV y v := by
  cases h with
  | cons a b =>
    obtain ⟨v, rfl, r⟩ := vals1 b
    exact ⟨_, _, rfl, a, r⟩
end
section
variable {T : Tbl} {W : Wd T} {env : Py.Env} {d : D}
theorem GD.mono {P : Program} {w : World} {H H' : Hp} {a : Addr} {ks : List NestedKey} {kas : List Addr} {vs : List V} (g : GD P w H a ks kas vs) (e : Same H H') (k : DKeys P w H' ks kas) : GD P w H' a ks kas vs := ⟨e _ _ g.1, k⟩
end
end Py
namespace Py
open PySem L2
section
variable {T : Tbl} {W : Wd T} {env : Py.Env} {d : D}
end
end Py
namespace Py
open PySem L2
section
variable {T : Tbl} {W : Wd T} {env : Py.Env} {d : D}
end
end Py
namespace Py
open PySem L2
def spEn : Sp := fun vs H Q _ => ∃ x, vs = [x] /\ Q x H
def spEx (P : Program) (w : World) (K : PySem.W.Frag) (f : String) : Sp := fun vs H Q _ => ∃ a C dx fs d ks kas ws, vs = [.ref a, .non, .non, .non] /\ H a = some (.ins C dx fs) /\ Cls K C /\ NoAttr K C (so f) /\ fs.lookup (so f) = some (.ref d) /\ GD P w H d ks kas ws /\ Q .non (upd H d (.ext (digP P w d [] [] [])))
structure WiOk (P : Program) (w : World) (K : PySem.W.Frag) (mg : Str -> Option Value) (base : Heap) (k : Nat) (C : Addr) (f : String) : Prop where
  en : MdOk P w K mg base k C "__enter__" 1 spEn
  ex : MdOk P w K mg base k C "__exit__" 4 (spEx P w K f)
section
variable {T : Tbl} {W : Wd T} {env : Py.Env} {d : D}
theorem Rel.back {e : Ent} {F H : Hp} {σ : St} {L : List Addr} {i j : Nat} {v : V} (r : Rel W e env F σ H L) (h : env[i]? = some (some d)) (hv : σ[i]? = some (some v)) (hj : j < env.length) (hw : σ[j]? = some (some v)) :
    ∃ L', Rel W e ((env.set i none).set j (some d)) F σ H L' := by
  obtain ⟨v', Li, Lr, e1, o, sl, nd, m⟩ := r.slots.take r.nd h
  rw [hv] at e1
  cases e1
  obtain ⟨L', s, nd', m'⟩ := sl.put (i := j) o nd (by simpa using hj)
  have hσ : σ.set j (some v) = σ := by
    apply List.ext_getElem?
    intro k
    by_cases hk : j = k
    · subst hk
      obtain ⟨hlt, _⟩ := List.getElem?_eq_some_iff.mp hw
      rw [List.getElem?_set_self hlt, hw]
    · rw [List.getElem?_set_ne hk]
  rw [hσ] at s
  have inL : ∀ a ∈ L', a ∈ L := fun a ha => (m a).mp (m' a ha)
  exact ⟨L', r.sF, s, nd', fun a ha => r.dj a (inL a ha), r.s0, r.nw, r.fr, fun a ha => r.ln a (inL a ha), r.pin⟩
end
end Py
namespace Py
open PySem L2 PyProof.Rows GenW
section
variable {M : Model} {A : Around} {R : GenEnd} {Y : Protocol} {n : Nat} {s₀ : Shared} {c : Code} {fs : List Frame} {s : Shared} {env : PySem.Env} {K : Flow -> PySem.Sem PySem.Fin} {H : Value -> PySem.Sem PySem.Fin} {gd : Bool -> Bool} {lv : List Value -> List Value}
end
section
variable {prog : Program} {w : World} {A : Around} {R : GenEnd} {Y : Protocol} {n : Nat} {s₀ : Shared} {fs : List Frame} {s : Shared} {env : PySem.Env}
end
section
variable {X : Cx}
end
end Py
namespace Py
open PySem L2 PyProof.Rows GenW
inductive RY where
  | nx (ys : List D) (env : Py.Env) | bk (ys : List D) (env : Py.Env) | ct (ys : List D) (env : Py.Env) | ex (x : Exn) (env : Py.Env) | no
structure YEnds where
  nx : List D -> Py.Env -> Prop
  bk : List D -> Py.Env -> Prop := fun _ _ => False
  ct : List D -> Py.Env -> Prop := fun _ _ => False
  ex : Exn -> Py.Env -> Prop := fun _ _ => False
def endsY (r : RY) : YEnds where
  nx ys e := r = .nx ys e
  bk ys e := r = .bk ys e
  ct ys e := r = .ct ys e
  ex x e := r = .ex x e
section
variable {T : Tbl} {W : Wd T} {env : Py.Env} {P : List Nat} {E : WX} {A : YEnds} {ys : List D}
structure SatY {T : Tbl} (W : Wd T) (e : Ent) (E : WX) (A : YEnds) (Dn : GEnds) : Prop where
  nx : ∀ ys env F σ H L vs, A.nx ys env -> Rel W e env F σ H L -> Shrs W F ys vs -> Dn.nx vs σ H
  bk : ∀ ys env F σ H L vs, A.bk ys env -> Rel W e env F σ H L -> Shrs W F ys vs -> Dn.bk vs σ H
  ct : ∀ ys env F σ H L vs, A.ct ys env -> Rel W e env F σ H L -> Shrs W F ys vs -> Dn.ct vs σ H
  ex : ∀ x env F σ H L C d, A.ex x env -> Rel W e env F σ H L -> IsExn W F x C d -> E C d σ H
def AY {T : Tbl} (W : Wd T) (P : List Nat) (E : WX) (t : TGn) (ys : List D) (env : Py.Env) (A : YEnds) : Prop :=
  ∀ (e : Ent) (F : Hp) (σ : L2.St) (H : Hp) (L : List Addr) (vs : List V) (Dn : GEnds), P = e.pins.map (·.1) -> Rel W e env F σ H L -> Shrs W F ys vs -> SatY W e E A Dn -> t Dn vs σ H
theorem SatY.weaken {A' : YEnds} {e : Ent} {Dn : GEnds} (s : SatY W e E A Dn) (nx : ∀ ys e, A'.nx ys e -> A.nx ys e) (bk : ∀ ys e, A'.bk ys e -> A.bk ys e) (ct : ∀ ys e, A'.ct ys e -> A.ct ys e) (ex : ∀ x e, A'.ex x e -> A.ex x e) : SatY W e E A' Dn :=
  ⟨fun _ _ _ _ _ _ _ a => s.nx _ _ _ _ _ _ _ (nx _ _ a), fun _ _ _ _ _ _ _ a => s.bk _ _ _ _ _ _ _ (bk _ _ a), fun _ _ _ _ _ _ _ a => s.ct _ _ _ _ _ _ _ (ct _ _ a), fun _ _ _ _ _ _ _ _ a => s.ex _ _ _ _ _ _ _ _ (ex _ _ a)⟩
theorem AY.weaken {t : TGn} {A' : YEnds} (h : AY W P E t ys env A') (nx : ∀ ys e, A'.nx ys e -> A.nx ys e) (bk : ∀ ys e, A'.bk ys e -> A.bk ys e) (ct : ∀ ys e, A'.ct ys e -> A.ct ys e) (ex : ∀ x e, A'.ex x e -> A.ex x e) : AY W P E t ys env A :=
  fun e F σ H L vs Dn hP r sh s => h e F σ H L vs Dn hP r sh (s.weaken nx bk ct ex)
structure XY {T : Tbl} (W : Wd T) where
  t : WX -> TGn
  ev : List Nat -> List D -> Py.Env -> RY
  snd : ∀ P E ys env, ev P ys env ≠ .no -> AY W P E (t E) ys env (endsY (ev P ys env))
def RY.then (r : RY) (f : List D -> Py.Env -> RY) : RY := match r with
  | .nx ys e => f ys e
  | r => r
end
end Py
namespace Py
open PySem L2 PyProof.Rows GenW
section
variable {T : Tbl} {W : Wd T}
end
structure MgOk (P : Program) (w : World) (K : PySem.W.Frag) (mg : Str -> Option Value) (base : Heap) (k : Nat) (C : Addr) (m : String) (n : Nat) (sp : SpG) : Prop where
  ex : ∃ g fd ps, Meth K C (so m) g /\ GFn P w K mg base k g fd ps sp /\ Binds K fd ps [] /\ ps.length = n
section
variable {P : Program} {w : World} {K : PySem.W.Frag} {mg : Str -> Option Value} {base : Heap}
end
section
variable {T : Tbl} {W : Wd T} {X : Cx}
end
end Py
namespace Py
open PySem L2
section
variable {T : Tbl} {W : Wd T}
end
end Py
namespace Py
open PySem L2
section
variable {T : Tbl} {W : Wd T}
end
end Py
namespace Py
open PySem L2
section
variable {T : Tbl} {W : Wd T}
end
end Py
namespace Py
open PySem L2
section
variable {T : Tbl} {W : Wd T}
end
end Py
namespace Py
open PySem L2 PyProof.Rows GenW
end Py
namespace Py
open PySem L2
section
variable {T : Tbl} {W : Wd T} {env : Py.Env}
end
end Py
namespace Py
open PySem L2
section
variable {T : Tbl} {W : Wd T}
end
end Py
namespace Py
open PySem L2
section
variable {T : Tbl} {W : Wd T}
end
end Py
namespace Py
open PySem L2
structure CmAt (K : PySem.W.Frag) (C : Addr) (m : String) (x qual : Str) (st : Stmt) : Prop where
  ex : ∃ p g fd mc, FunD K x qual (defArgs st) (defBody st) (defScope st) [] [] g fd /\ ClX.CRead K C mc /\ ClX.CMet K C mc (so m) p g
structure CmOk (P : Program) (w : World) (K : PySem.W.Frag) (mg : Str -> Option Value) (base : Heap) (k : Nat) (C : Addr) (m : String) (n : Nat) (sp : Sp) : Prop where
  ex : ∃ p g fd ps mc, ClX.CRead K C mc /\ ClX.CMet K C mc (so m) p g /\ FnOk P w K mg base (L2.CX P w) k g fd ps sp /\ Binds K fd ps [] /\ ps.length = n
section
variable {P : Program} {w : World} {K : PySem.W.Frag} {mg : Str -> Option Value} {base : Heap}
end
section
variable {X : Cx} {T : Tbl} {W : Wd T}
end
end Py
namespace Py
open PySem L2
section
variable {T : Tbl} {W : Wd T}
end
end Py
namespace Py
open PySem L2 NdefX
structure SupT (P : Program) (K : PySem.W.Frag) (D g : Addr) (fd : FuncData) (cda cc : Addr) : Prop where
  look : ∃ oc od osl, K.lookup g = some ⟨oc, od, .func fd, osl⟩
  head : ∃ ar : Arg, (fd.params.posonlyargs ++ fd.params.args).head? = some ar /\ ar.arg = ("self" : Str)
  code : ∃ ccl cdd vs ccs file tf, K.lookup cda = some ⟨ccl, cdd, .fields vs, ccs⟩ /\ vs[2]? = some (.str file tf) /\ ((P.main.file : Str) == file) = true
  cell : ∃ cl cld csl, K.lookup cc = some ⟨cl, cld, .cell (some (.ref D)), csl⟩
  dcl : ∃ cd, PySem.W.clsIn K D = some cd
  top : (P.main.scope.names.lookup ("super" : Str)).isSome = false
section
variable {M : Model} {A : Around} {E : Value -> Shared -> Prop} {s : Shared} {env : PySem.Env} {c0 : Code}
end
structure SupM (P : Program) (w : World) (K : PySem.W.Frag) (mg : Str -> Option Value) (base : Heap) {T : Tbl} (W : Wd T) (k : Nat) (φ : Sem) (D : Addr) (m : Str) (r : String -> Option String) : Prop where
  at_ : ∀ c nm, W.has c -> r c = some nm -> ∃ g2 fd2 ps2, PySem.W.ks_superIn K (W.cA c) D m = some (some (.ref g2)) /\ PySem.W.typeIn K (.ref g2) = some (.type "function") /\ PySem.W.mroIn K (W.cA c) (.ref D) = some true /\ PySem.W.fnIn K g2 = true /\
    FnOk P w K mg base (L2.CX P w) k g2 fd2 ps2 (spR W 2 (φ nm) none) /\ Binds K fd2 ps2 []
end Py
namespace Py
open PySem L2
structure Mk0 (K : PySem.W.Frag) (C : Addr) : Prop where
  makes : PySem.W.makesIn K C = true
  init : PySem.W.findIn K (.ref C) "__init__" = some (some (.builtin "object.__init__"))
  top : PySem.W.mroIn K C (.type "object") = some true
  kp : PySem.W.keepIn K (.ref C) = true
section
variable {X : Cx} {C : Addr} {pins : List (Addr × Obj)} {σ : L2.St} {H : Hp} {s : Shared} {Q : VK}
end
section
variable {T : Tbl} {W : Wd T}
end
end Py
namespace Py
open PySem L2 NdefX
section
variable {T : Tbl} {W : Wd T}
end
open PySem.W in
structure SupAt (P : Program) (K : Frag) (C : Addr) (m : String) (qual : Str) (st : Stmt) (D : Addr) : Prop where
  ex : ∃ (g cda cc : Addr) (doc pm ct : Value) (an : Option Addr), Meth K C (so m) g /\ codeIn K (.ref cda) qual = true /\ SupT P K D g (ksFn (so m) qual (defArgs st) (defBody st) (defScope st) .none .none doc pm an (.ref cda) ct cc) cda cc
open PySem.W in
structure SupC (K : Frag) (C D : Addr) (m : String) (E : Addr) : Prop where
  ex : ∃ g2, ks_superIn K C D (so m) = some (some (.ref g2)) /\ findIn K (.ref E) (so m) = some (some (.ref g2)) /\ typeIn K (.ref g2) = some (.type "function") /\ mroIn K C (.ref D) = some true /\ fnIn K g2 = true
section
variable {P : Program} {w : World} {K : PySem.W.Frag} {mg : Str -> Option Value} {base : Heap} {T : Tbl} {W : Wd T}
end
end Py
namespace Py
open PySem L2 PyProof.Rows
end Py
namespace Py
open PySem L2 PyProof.Rows
section
variable {P : Program} {w : World} {A : Around} {E : Value -> Shared -> Prop} {s : Shared} {a b : Addr}
end
end Py
namespace Py
open PySem L2 PyProof.Rows
section
variable {P : Program} {w : World} {A : Around} {E : Value -> Shared -> Prop} {s : Shared} {a b : Addr}
end
end Py
namespace Py
open PySem L2 PyProof.Rows
section
variable {T : Tbl} {W : Wd T}
end
end Py
namespace Py
open PySem L2
def getM (p : Kd) (z : Kd × D) : Option D -> Kd × D
  | some x => p.of x
  | none => z
def lockR (b : Bool) (r : RS) : RS := match b with
  | true => noEx r
  | false => .no
def frE (o : Option (Kd × D)) : Option (Kd × D) := match o with
  | some (.fr, d) => some (.fr, d)
  | _ => none
def dcJ {T : Tbl} {W : Wd T} (k x : XP W) (b : Option Bool) (e : Py.Env) : Option (Option (Key × D)) := b.bind fun b => if b = true then ((k.evF e).bind keyD).bind fun y => (x.evF e).map fun z => some (y, z) else some none
def dcK {T : Tbl} {W : Wd T} (c : XT W) (k x : XP W) (o : Option Py.Env) : Option (Option (Key × D)) := o.bind fun e => dcJ k x (c.ev e) e
theorem nr {α : Type} {a b : α} (h : a = b) : a = b := h
theorem atI_litN {α : Type} {xs : List α} (n : Nat) : atI xs (n : Int) = xs[n]? := by
  unfold atI ixN
  rw [if_pos (by omega)]
  by_cases h : (n : Int) < xs.length
  · rw [if_pos h]; rfl
  · rw [if_neg h, List.getElem?_eq_none (by omega)]; rfl
theorem atI_last {α : Type} {xs : List α} : atI xs (-1) = xs.getLast? := by
  unfold atI ixN
  rw [if_neg (by omega)]
  cases xs with
  | nil => rfl
  | cons x xs =>
    rw [if_pos (by simp; omega), List.getLast?_eq_getElem?]
    show (x :: xs)[_]? = _
    congr 1
    simp
    omega
def callE (φ : List D -> Option Nat -> Rz) (n : Nat) (dds : List D) (f v : Option (List D)) : Option (Kd × D) := match f with
  | some ds => if (ds ++ dds).length = n then (φ (ds ++ dds) none).toF else none
  | none => match v with
    | some ds => if (ds ++ dds).length = n then (φ (ds ++ dds) none).toV else none
    | none => none
def turnE (o : Option Py.Env) (f : Py.Env -> RS) : RS := match o with
  | some e => f e
  | none => .no
def forE (f : D -> Py.Env -> RS) (o : Option (List D)) (env : Py.Env) : RS := match o with
  | some ds => forL f ds env
  | none => .no
def frzO (env : Py.Env) (i : Nat) : Option D -> Py.Env
  | some d => env.set i (some (fz d))
  | none => env
def resE (o : Option String) (f : String -> Rz) : Rz := match o with
  | some nm => f nm
  | none => .no
def setO (xs : List D) (o : Option Nat) (y : D) : List D := match o with
  | some j => xs.set j y
  | none => xs
def putE (d : D) (s : Pst) (st : List Pst) (n : D) (o : Option D) : D := match o with
  | some x => d.put s (x.putAt st n)
  | none => d
def retZ (o : Option (Option D)) (d : D) : Rz := match o with
  | some x => .ok d x
  | none => .no
def retX (o : Option (Option D)) (x : Exn) : Rz := match o with
  | some y => .exn x y
  | none => .no
def tryJ {T : Tbl} {W : Wd T} (b : Bool) (x : Exn) (i : Nat) (s : XH W i) (P : List Nat) (e : Py.Env) : RS := match b with
  | true => if i ∈ P \/ e.length <= i then .no else (s.ev x P (e.set i none)).clr i
  | false => .ex x e
def forT (f : D -> Py.Env -> RS) (ds : List D) : RS -> RS
  | .nx e => forL f ds e
  | .ct e => forL f ds e
  | .bk e => .nx e
  | r => r
def asgK (P : List Nat) (i : Nat) (d : D) (e : Py.Env) : RS := RS.ofO (setS P i d e)
def iteF (b : Option Bool) (s u : Py.Env -> RS) (e : Py.Env) : RS := match b with
  | some true => s e
  | some false => u e
  | none => .no
def andF (b : Option Bool) (f : Py.Env -> Option Bool) (e : Py.Env) : Option Bool := match b with
  | some true => f e
  | some false => some false
  | none => none
def orF (b : Option Bool) (f : Py.Env -> Option Bool) (e : Py.Env) : Option Bool := match b with
  | some false => f e
  | some true => some true
  | none => none
def forK {T : Tbl} {W : Wd T} (g : XG W) (b : XS W) (P : List Nat) (d : D) (e : Py.Env) : RS := turnE (g.ev P d e) (b.ev P)
theorem e_xsSeq {T : Tbl} {W : Wd T} {s u : XS W} {P env} : (xsSeq s u).ev P env = (s.ev P env).then (u.ev P) := nr rfl
theorem e_xsNext {T : Tbl} {W : Wd T} {P env} : (xsNext W).ev P env = .nx env := nr rfl
theorem e_xsAsg {T : Tbl} {W : Wd T} {i} {m : XM W} {P env} : (xsAsg i m).ev P env = (m.ev P env).thenS (asgK P i) := nr rfl
theorem e_xsExpr {T : Tbl} {W : Wd T} {m : XM W} {P env} : (xsExpr m).ev P env = (m.ev P env).thenS fun _ => RS.nx := nr rfl
theorem e_xsRet {T : Tbl} {W : Wd T} {m : XM W} {P env} : (xsRet m).ev P env = (m.ev P env).thenS RS.rt := nr rfl
theorem e_xsIf {T : Tbl} {W : Wd T} {c : XT W} {s u : XS W} {P env} : (xsIf c s u).ev P env = iteF (c.ev env) (s.ev P) (u.ev P) env := nr rfl
theorem e_xsFrz {T : Tbl} {W : Wd T} {is} {s : XS W} {P env} : (xsFrz is s).ev P env = s.ev P (is.foldl frzS env) := nr rfl
theorem e_xmP {T : Tbl} {W : Wd T} {p : XP W} {P env} : (xmP p).ev P env = RM.of (p.evO env) env := nr rfl
theorem e_xVar_V {T : Tbl} {W : Wd T} {i env} : (xVar W i).evV env = (getS env i).map fz := by show toV ((getS env i).map _) = _; cases getS env i <;> rfl
theorem e_xtV {T : Tbl} {W : Wd T} {a : XP W} {env} : (xtV a).ev env = (a.evV env).bind blD := nr rfl
theorem e_xtTru {T : Tbl} {W : Wd T} {a : XP W} {env} : (xtTru a).ev env = (a.evV env).bind truD := nr rfl
theorem e_xtOr {T : Tbl} {W : Wd T} {a b : XT W} {env} : (xtOr a b).ev env = orF (a.ev env) b.ev env := nr rfl
theorem e_xtNot {T : Tbl} {W : Wd T} {a : XT W} {env} : (xtNot a).ev env = (a.ev env).map (!·) := nr rfl
theorem e_xtYes {T : Tbl} {W : Wd T} {env} : (xtYes W).ev env = some true := nr rfl
theorem e_xVar {T : Tbl} {W : Wd T} {i env} : (xVar W i).ev env = (getS env i).map (Prod.mk .pl) := nr rfl
theorem e_xInt {T : Tbl} {W : Wd T} {i env} : (xInt W i).ev env = some (.fr, .int i) := nr rfl
theorem e_xBl {T : Tbl} {W : Wd T} {b env} : (xBl W b).ev env = some (.fr, .bl b) := nr rfl
theorem e_xNon {T : Tbl} {W : Wd T} {env} : (xNon W).ev env = some (.fr, .non) := nr rfl
theorem e_xStr {T : Tbl} {W : Wd T} {x env} : (xStr W x).ev env = some (.fr, .str x) := nr rfl
theorem e_xMul {T : Tbl} {W : Wd T} {a b : XP W} {env} : (xMul a b).ev env = (a.evV env).bind fun x => (b.evV env).bind fun y => (mulD x y).map (Prod.mk .fr) := nr rfl
theorem e_xDiv {T : Tbl} {W : Wd T} {a b : XP W} {env} : (xDiv a b).ev env = (a.evV env).bind fun x => (b.evV env).bind fun y => (divD x y).map (Prod.mk .fr) := nr rfl
theorem e_xMod {T : Tbl} {W : Wd T} {a b : XP W} {env} : (xMod a b).ev env = (a.evV env).bind fun x => (b.evV env).bind fun y => (modD x y).map (Prod.mk .fr) := nr rfl
theorem e_xPow {T : Tbl} {W : Wd T} {a b : XP W} {env} : (xPow a b).ev env = (a.evV env).bind fun x => (b.evV env).bind fun y => (powD x y).map (Prod.mk .fr) := nr rfl
theorem e_xNeg {T : Tbl} {W : Wd T} {a : XP W} {env} : (xNeg a).ev env = (a.evV env).bind fun x => (negD x).map (Prod.mk .fr) := by show (match a.evV env with | some x => _ | none => _) = _; cases a.evV env <;> rfl
theorem e_xAdd {T : Tbl} {W : Wd T} {a b : XP W} {env} : (xAdd a b).ev env = (a.evK env).bind fun x => (b.evK env).bind fun y => (addD x y).map (Prod.mk .fr) := nr rfl
theorem e_xEq {T : Tbl} {W : Wd T} {a b : XP W} {env} : (xEq a b).ev env = (a.evV env).bind fun x => (b.evV env).bind fun y => (eqD x y).map (Prod.mk .fr) := nr rfl
theorem e_xNe {T : Tbl} {W : Wd T} {a b : XP W} {env} : (xNe a b).ev env = (a.evV env).bind fun x => (b.evV env).bind fun y => (neD x y).map (Prod.mk .fr) := nr rfl
theorem e_xLt {T : Tbl} {W : Wd T} {a b : XP W} {env} : (xLt a b).ev env = (a.evV env).bind fun x => (b.evV env).bind fun y => (ltD x y).map (Prod.mk .fr) := nr rfl
theorem e_xGt {T : Tbl} {W : Wd T} {a b : XP W} {env} : (xGt a b).ev env = (a.evV env).bind fun x => (b.evV env).bind fun y => (cmpD (fun i j => decide (j < i)) x y).map (Prod.mk .fr) := nr rfl
theorem e_xGe {T : Tbl} {W : Wd T} {a b : XP W} {env} : (xGe a b).ev env = (a.evV env).bind fun x => (b.evV env).bind fun y => (cmpD (fun i j => decide (j <= i)) x y).map (Prod.mk .fr) := nr rfl
theorem e_xAnd {T : Tbl} {W : Wd T} {a b : XP W} {env} : (xAnd a b).ev env = (andF (a.evB env) b.evB env).map fun c => (.fr, .bl c) := nr rfl
theorem e_xNot {T : Tbl} {W : Wd T} {a : XP W} {env} : (xNot a).ev env = (a.evB env).map fun c => (.fr, .bl (!c)) := nr rfl
theorem e_xTup {T : Tbl} {W : Wd T} {as : XA W} {env} : (xTup as).ev env = (as.evF env).bind fun ds => if ds.length <= 1000000 then some (.fr, .tup ds) else none := nr rfl
theorem e_xLst {T : Tbl} {W : Wd T} {as : XA W} {env} : (xLst as).ev env = (as.evF env).bind fun ds => if ds.length <= 1000000 then some (.fr, .olst ds) else none := nr rfl
theorem e_xInt1 {T : Tbl} {W : Wd T} {as : XA W} {env} : (xInt1 as).ev env = (as.evV env).bind fun ds => (intD ds).map (Prod.mk .fr) := nr rfl
theorem e_xAbs {T : Tbl} {W : Wd T} {as : XA W} {env} : (xAbs as).ev env = (as.evV env).bind fun ds => (absD ds).map (Prod.mk .fr) := nr rfl
theorem e_xLen {T : Tbl} {W : Wd T} {as : XA W} {env} : (xLen as).ev env = (as.evV env).bind fun ds => (lenD ds).map (Prod.mk .fr) := nr rfl
theorem e_xIx {T : Tbl} {W : Wd T} {a b : XP W} {env} : (xIx a b).ev env = (a.ev env).bind fun p => (b.evV env).bind fun y => (ixD p.2 y).map p.1.of := nr rfl
theorem e_xFld {T : Tbl} {W : Wd T} {a : XP W} {f env} : (xFld a f).ev env = (a.ev env).bind fun p => (fldD T f p.2).map p.1.of := nr rfl
theorem e_xIsi {T : Tbl} {W : Wd T} {c} {a : XP W} {env} : (xIsi c a).ev env = (a.evV env).bind fun x => (tyD x).map fun t => (.fr, .bl (isi1 T t c)) := nr rfl
theorem e_xCall {T : Tbl} {W : Wd T} {φ n} {as : XA W} {dds dvs hd env} : (xCall φ n as dds dvs hd).ev env = callE φ n dds (as.evF env) (as.evV env) := by show (match as.evF env with | some ds => _ | none => _) = _; unfold callE; cases as.evF env <;> first | rfl | (cases as.evV env <;> rfl)
theorem e_xmVar {T : Tbl} {W : Wd T} {i P env} : (xmVar W i).ev P env = RM.ofO ((getS env i).map fun d => (fz d, if isSh d = true then env else env.set i (some (fz d)))) := by show (match getS env i with | some d => _ | none => _) = _; cases getS env i <;> rfl
theorem e_xmMove {T : Tbl} {W : Wd T} {i P env} : (xmMove W i).ev P env = RM.ofO ((getS env i).map fun d => (d, env.set i none)) := by show (match getS env i with | some d => _ | none => _) = _; cases getS env i <;> rfl
theorem e_xmAppend {T : Tbl} {W : Wd T} {p : XPl W} {a : XP W} {P env} : (xmAppend p a).ev P env = RM.ofO ((p.ev env).bind fun q => ((xoCons a (xoNil W)).ev env).bind fun ds => (appendD q.2 ds).bind fun z => (getS env p.root).map fun d0 => (z.2, env.set p.root (some (d0.putAt q.1 z.1)))) := nr rfl
theorem e_xoNil {T : Tbl} {W : Wd T} {env} : (xoNil W).ev env = some [] := nr rfl
theorem e_xoCons {T : Tbl} {W : Wd T} {a : XP W} {as : XO W} {env} : (xoCons a as).ev env = (a.evO env).bind fun x => (as.ev env).map (x :: ·) := nr rfl
theorem e_plVar {T : Tbl} {W : Wd T} {i env} : (plVar W i).ev env = (getS env i).map fun d => ([], d) := nr rfl
theorem r_plVar {T : Tbl} {W : Wd T} {i} : (plVar W i).root = i := nr rfl
theorem e_xaNilV {T : Tbl} {W : Wd T} {env} : (xaNil W).evV env = some [] := nr rfl
theorem e_xaNilF {T : Tbl} {W : Wd T} {env} : (xaNil W).evF env = some [] := nr rfl
theorem e_xaConsV {T : Tbl} {W : Wd T} {a : XP W} {as : XA W} {env} : (xaCons a as).evV env = (a.evV env).bind fun x => (as.evV env).map (x :: ·) := nr rfl
theorem e_xaConsF {T : Tbl} {W : Wd T} {a : XP W} {as : XA W} {env} : (xaCons a as).evF env = (a.evF env).bind fun x => (as.evF env).map (x :: ·) := nr rfl
theorem e_xgN {T : Tbl} {W : Wd T} {i P d env} : (xgN W i).ev P d env = setS P i d env := nr rfl
theorem o_xgN {T : Tbl} {W : Wd T} {i} : (xgN W i).own = [i] := nr rfl
theorem e_xiR1F {T : Tbl} {W : Wd T} {as : XA W} {env} : (xiR1 as).evF env = (as.evV env).bind rng1D := nr rfl
theorem e_xiR1P {T : Tbl} {W : Wd T} {as : XA W} {env} : (xiR1 as).evP env = (as.evV env).bind rng1D := nr rfl
theorem e_xsFor {T : Tbl} {W : Wd T} {it : XI W} {g : XG W} {b : XS W} {P env} : (xsFor it g b).ev P env = forE (forK g b P) (it.evF env) env := by show (match it.evF env with | some ds => _ | none => _) = _; unfold forE forK turnE; cases it.evF env <;> rfl
theorem e_evV {T : Tbl} {W : Wd T} {x : XP W} {env} : x.evV env = toV (x.ev env) := nr rfl
theorem e_evK {T : Tbl} {W : Wd T} {x : XP W} {env} : x.evK env = toK (x.ev env) := nr rfl
theorem e_evF {T : Tbl} {W : Wd T} {x : XP W} {env} : x.evF env = toF (x.ev env) := nr rfl
theorem e_evO {T : Tbl} {W : Wd T} {x : XP W} {env} : x.evO env = toO (x.ev env) := nr rfl
theorem e_evB {T : Tbl} {W : Wd T} {x : XP W} {env} : x.evB env = (x.evV env).bind blD := nr rfl
theorem h_getS0 {d e} : getS (some d :: e) 0 = some d := nr rfl
theorem h_getS0n {e} : getS (none :: e) 0 = none := nr rfl
theorem h_getSs {x e} {n : Nat} : getS (x :: e) (n + 1) = getS e n := nr rfl
theorem h_toV {k d} : toV (some (k, d)) = some (fz d) := nr rfl
theorem h_toVn  : toV none = none := nr rfl
theorem h_toKf {d} : toK (some (.fr, d)) = some d := nr rfl
theorem h_toKp {d} : toK (some (.pl, d)) = some d := nr rfl
theorem h_toKv {d} : toK (some (.vw, d)) = if isFlat d = true then some d else none := nr rfl
theorem h_toKn  : toK none = none := nr rfl
theorem h_toFf {d} : toF (some (.fr, d)) = some (fz d) := nr rfl
theorem h_toFp {d} : toF (some (.pl, d)) = if isSh d = true then some d else none := nr rfl
theorem h_toFv {d} : toF (some (.vw, d)) = if isFlat d = true then some d else none := nr rfl
theorem h_toFn  : toF none = none := nr rfl
theorem h_toOf {d} : toO (some (.fr, d)) = some d := nr rfl
theorem h_toOp {d} : toO (some (.pl, d)) = if isSh d = true then some d else none := nr rfl
theorem h_toOv {d} : toO (some (.vw, d)) = if isFlat d = true then some d else none := nr rfl
theorem h_toOn  : toO none = none := nr rfl
theorem h_of_f {d} : Kd.of .fr d = (.pl, d) := nr rfl
theorem h_of_p {d} : Kd.of .pl d = (.pl, d) := nr rfl
theorem h_of_v {d} : Kd.of .vw d = (.vw, fz d) := nr rfl
theorem h_then_nx {e f} : RS.then (.nx e) f = f e := nr rfl
theorem h_then_rt {d e f} : RS.then (.rt d e) f = .rt d e := nr rfl
theorem h_then_bk {e f} : RS.then (.bk e) f = .bk e := nr rfl
theorem h_then_ct {e f} : RS.then (.ct e) f = .ct e := nr rfl
theorem h_then_ex {x e f} : RS.then (.ex x e) f = .ex x e := nr rfl
theorem h_then_no {f} : RS.then .no f = .no := nr rfl
theorem h_thenS_ok {d e f} : RM.thenS (.ok d e) f = f d e := nr rfl
theorem h_thenS_exn {x e f} : RM.thenS (.exn x e) f = .ex x e := nr rfl
theorem h_thenS_no {f} : RM.thenS .no f = .no := nr rfl
theorem h_ofO {e} : RS.ofO (some e) = .nx e := nr rfl
theorem h_ofOn  : RS.ofO none = .no := nr rfl
theorem h_of {d e} : RM.of (some d) e = .ok d e := nr rfl
theorem h_ofn {e} : RM.of none e = .no := nr rfl
theorem h_mofO {d e} : RM.ofO (some (d, e)) = .ok d e := nr rfl
theorem h_mofOn  : RM.ofO none = .no := nr rfl
theorem h_iteF1 {s u e} : iteF (some true) s u e = s e := nr rfl
theorem h_iteF0 {s u e} : iteF (some false) s u e = u e := nr rfl
theorem h_iteFn {s u e} : iteF none s u e = .no := nr rfl
theorem h_asgK {P i d e} : asgK P i d e = RS.ofO (setS P i d e) := nr rfl
theorem h_forK {T : Tbl} {W : Wd T} {g : XG W} {b : XS W} {P d e} : forK g b P d e = turnE (g.ev P d e) (b.ev P) := nr rfl
theorem h_andF1 {f e} : andF (some true) f e = f e := nr rfl
theorem h_andF0 {f e} : andF (some false) f e = some false := nr rfl
theorem h_orF1 {f e} : orF (some true) f e = some true := nr rfl
theorem h_orF0 {f e} : orF (some false) f e = f e := nr rfl
theorem h_blD {b} : blD (.bl b) = some b := nr rfl
theorem h_turn {e f} : turnE (some e) f = f e := nr rfl
theorem h_turnn {f} : turnE none f = .no := nr rfl
theorem h_forE {f ds env} : forE f (some ds) env = forL f ds env := nr rfl
theorem h_forEn {f env} : forE f none env = .no := nr rfl
theorem h_callF {φ : List D -> Option Nat -> Rz} {n dds ds v} : callE φ n dds (some ds) v = if (ds ++ dds).length = n then (φ (ds ++ dds) none).toF else none := nr rfl
theorem h_callV {φ : List D -> Option Nat -> Rz} {n dds ds} : callE φ n dds none (some ds) = if (ds ++ dds).length = n then (φ (ds ++ dds) none).toV else none := nr rfl
theorem h_rzF {d b} : (Rz.ok d b).toF = some (.fr, d) := nr rfl
theorem h_rzV {d b} : (Rz.ok d b).toV = some (if isFlat d = true then (.fr, d) else (.vw, fz d)) := nr rfl
theorem h_fz_non  : fz (.non) = .non := by simp [fz]
theorem h_sh_non  : isSh (.non) = true := nr rfl
theorem h_fl_non  : isFlat (.non) = true := nr rfl
theorem h_isN_non  : isNon (.non) = true := nr rfl
theorem h_fz_bl {b} : fz (.bl b) = .bl b := by simp [fz]
theorem h_sh_bl {b} : isSh (.bl b) = true := nr rfl
theorem h_fl_bl {b} : isFlat (.bl b) = true := nr rfl
theorem h_fz_int {i} : fz (.int i) = .int i := by simp [fz]
theorem h_sh_int {i} : isSh (.int i) = true := nr rfl
theorem h_fl_int {i} : isFlat (.int i) = true := nr rfl
theorem h_isN_int {i} : isNon (.int i) = false := nr rfl
theorem h_fz_str {x} : fz (.str x) = .str x := by simp [fz]
theorem h_sh_str {x} : isSh (.str x) = true := nr rfl
theorem h_fl_str {x} : isFlat (.str x) = true := nr rfl
theorem h_isN_str {x} : isNon (.str x) = false := nr rfl
theorem h_fz_cls {c} : fz (.cls c) = .cls c := by simp [fz]
theorem h_sh_cls {c} : isSh (.cls c) = true := nr rfl
theorem h_fl_cls {c} : isFlat (.cls c) = true := nr rfl
theorem h_isN_cls {c} : isNon (.cls c) = false := nr rfl
theorem h_fz_sei {xs} : fz (.sei xs) = .sei xs := by simp [fz]
theorem h_sh_sei {xs} : isSh (.sei xs) = true := nr rfl
theorem h_fl_sei {xs} : isFlat (.sei xs) = false := nr rfl
theorem h_isN_sei {xs} : isNon (.sei xs) = false := nr rfl
theorem h_fz_scr {ns} : fz (.scr ns) = .scr ns := by simp [fz]
theorem h_sh_scr {ns} : isSh (.scr ns) = true := nr rfl
theorem h_fl_scr {ns} : isFlat (.scr ns) = false := nr rfl
theorem h_isN_scr {ns} : isNon (.scr ns) = false := nr rfl
theorem h_fz_tup {xs} : fz (.tup xs) = .tup xs := by simp [fz]
theorem h_sh_tup {xs} : isSh (.tup xs) = true := nr rfl
theorem h_fl_tup {xs} : isFlat (.tup xs) = false := nr rfl
theorem h_isN_tup {xs} : isNon (.tup xs) = false := nr rfl
theorem h_fz_lst {xs} : fz (.lst xs) = .lst xs := by simp [fz]
theorem h_sh_lst {xs} : isSh (.lst xs) = true := nr rfl
theorem h_fl_lst {xs} : isFlat (.lst xs) = false := nr rfl
theorem h_isN_lst {xs} : isNon (.lst xs) = false := nr rfl
theorem h_fz_dic {ks xs} : fz (.dic ks xs) = .dic ks xs := by simp [fz]
theorem h_sh_dic {ks xs} : isSh (.dic ks xs) = true := nr rfl
theorem h_fl_dic {ks xs} : isFlat (.dic ks xs) = false := nr rfl
theorem h_isN_dic {ks xs} : isNon (.dic ks xs) = false := nr rfl
theorem h_fz_dit {ks xs} : fz (.dit ks xs) = .dit ks xs := by simp [fz]
theorem h_sh_dit {ks xs} : isSh (.dit ks xs) = true := nr rfl
theorem h_fl_dit {ks xs} : isFlat (.dit ks xs) = false := nr rfl
theorem h_isN_dit {ks xs} : isNon (.dit ks xs) = false := nr rfl
theorem h_fz_dig {ks xs} : fz (.dig ks xs) = .dig ks xs := by simp [fz]
theorem h_sh_dig {ks xs} : isSh (.dig ks xs) = true := nr rfl
theorem h_fl_dig {ks xs} : isFlat (.dig ks xs) = false := nr rfl
theorem h_isN_dig {ks xs} : isNon (.dig ks xs) = false := nr rfl
theorem h_fz_dlf {m ks xs} : fz (.dlf m ks xs) = .dlf m ks xs := by simp [fz]
theorem h_sh_dlf {m ks xs} : isSh (.dlf m ks xs) = true := nr rfl
theorem h_fl_dlf {m ks xs} : isFlat (.dlf m ks xs) = false := nr rfl
theorem h_isN_dlf {m ks xs} : isNon (.dlf m ks xs) = false := nr rfl
theorem h_fz_xt {t φ ks xs} : fz (.xt t φ ks xs) = .xt t φ ks xs := by simp [fz]
theorem h_sh_xt {t φ ks xs} : isSh (.xt t φ ks xs) = true := nr rfl
theorem h_fl_xt {t φ ks xs} : isFlat (.xt t φ ks xs) = false := nr rfl
theorem h_isN_xt {t φ ks xs} : isNon (.xt t φ ks xs) = false := nr rfl
theorem h_fz_len {xs} : fz (.len xs) = .len xs := by simp [fz]
theorem h_sh_len {xs} : isSh (.len xs) = true := nr rfl
theorem h_fl_len {xs} : isFlat (.len xs) = false := nr rfl
theorem h_isN_len {xs} : isNon (.len xs) = false := nr rfl
theorem h_fz_ins {c ns xs} : fz (.ins c ns xs) = .ins c ns xs := by simp [fz]
theorem h_sh_ins {c ns xs} : isSh (.ins c ns xs) = true := nr rfl
theorem h_fl_ins {c ns xs} : isFlat (.ins c ns xs) = false := nr rfl
theorem h_isN_ins {c ns xs} : isNon (.ins c ns xs) = false := nr rfl
theorem h_isN_bl {b} : isNon (.bl b) = false := nr rfl
theorem h_fz_olst {xs} : fz (.olst xs) = .lst (fzs xs) := by rw [fz]
theorem h_sh_olst {xs} : isSh (.olst xs) = false := nr rfl
theorem h_fl_olst {xs} : isFlat (.olst xs) = false := nr rfl
theorem h_fz_odic {ks xs} : fz (.odic ks xs) = .dic ks (fzs xs) := by rw [fz]
theorem h_sh_odic {ks xs} : isSh (.odic ks xs) = false := nr rfl
theorem h_fl_odic {ks xs} : isFlat (.odic ks xs) = false := nr rfl
theorem h_fz_odit {ks xs} : fz (.odit ks xs) = .dit ks (fzs xs) := by rw [fz]
theorem h_sh_odit {ks xs} : isSh (.odit ks xs) = false := nr rfl
theorem h_fl_odit {ks xs} : isFlat (.odit ks xs) = false := nr rfl
theorem h_fz_odig {ks xs} : fz (.odig ks xs) = .dig ks (fzs xs) := by rw [fz]
theorem h_sh_odig {ks xs} : isSh (.odig ks xs) = false := nr rfl
theorem h_fl_odig {ks xs} : isFlat (.odig ks xs) = false := nr rfl
theorem h_fz_olf {m ks xs} : fz (.olf m ks xs) = .dlf m ks (fzs xs) := by rw [fz]
theorem h_sh_olf {m ks xs} : isSh (.olf m ks xs) = false := nr rfl
theorem h_fl_olf {m ks xs} : isFlat (.olf m ks xs) = false := nr rfl
theorem h_fz_oxt {t φ ks xs} : fz (.oxt t φ ks xs) = .xt t φ ks (fzs xs) := by rw [fz]
theorem h_sh_oxt {t φ ks xs} : isSh (.oxt t φ ks xs) = false := nr rfl
theorem h_fl_oxt {t φ ks xs} : isFlat (.oxt t φ ks xs) = false := nr rfl
theorem h_fz_otup {xs} : fz (.otup xs) = .tup (fzs xs) := by rw [fz]
theorem h_sh_otup {xs} : isSh (.otup xs) = false := nr rfl
theorem h_fl_otup {xs} : isFlat (.otup xs) = false := nr rfl
theorem h_fz_oins {c ns xs} : fz (.oins c ns xs) = .ins c ns (fzs xs) := by rw [fz]
theorem h_sh_oins {c ns xs} : isSh (.oins c ns xs) = false := nr rfl
theorem h_fl_oins {c ns xs} : isFlat (.oins c ns xs) = false := nr rfl
theorem h_fzs_nil  : fzs [] = [] := by rw [fzs]
theorem h_fzs_cons {x xs} : fzs (x :: xs) = fz x :: fzs xs := by rw [fzs]
theorem h_fzs_app {xs ys} : fzs (xs ++ ys) = fzs xs ++ fzs ys := by rw [fzs_eq, fzs_eq, fzs_eq, List.map_append]
theorem h_tru_bl {b} : truD (.bl b) = some b := nr rfl
theorem h_tru_non  : truD .non = some false := nr rfl
theorem h_tru_int {i} : truD (.int i) = some (decide (i ≠ 0)) := nr rfl
theorem h_tru_lst {ds} : truD (.lst ds) = some (!ds.isEmpty) := nr rfl
theorem h_tru_tup {ds} : truD (.tup ds) = some (!ds.isEmpty) := nr rfl
theorem h_neg {i} : negD (.int i) = some (.int (-i)) := nr rfl
theorem h_addI {i j} : addD (.int i) (.int j) = some (.int (i + j)) := nr rfl
theorem h_addT {xs ys} : addD (.tup xs) (.tup ys) = if xs ≠ [] /\ xs.length + ys.length <= 1000000 then some (.tup (xs ++ ys)) else none := nr rfl
theorem h_addL {xs ys} : addD (.lst xs) (.lst ys) = if xs.length + ys.length <= 1000000 then some (.olst (xs ++ ys)) else none := nr rfl
theorem h_addLo {xs ys} : addD (.lst xs) (.olst ys) = if ys.all isSh = true then (if xs.length + ys.length <= 1000000 then some (.olst (xs ++ ys)) else none) else none := by by_cases h1 : xs.all isSh = true <;> by_cases h2 : ys.all isSh = true <;> simp only [addD, lstOf, h1, h2, if_true, if_false, and_self, and_true, true_and, and_false, false_and, Bool.false_eq_true]
theorem h_addoL {xs ys} : addD (.olst xs) (.lst ys) = if xs.all isSh = true then (if xs.length + ys.length <= 1000000 then some (.olst (xs ++ ys)) else none) else none := by by_cases h1 : xs.all isSh = true <;> by_cases h2 : ys.all isSh = true <;> simp only [addD, lstOf, h1, h2, if_true, if_false, and_self, and_true, true_and, and_false, false_and, Bool.false_eq_true]
theorem h_addoo {xs ys} : addD (.olst xs) (.olst ys) = if xs.all isSh = true /\ ys.all isSh = true then (if xs.length + ys.length <= 1000000 then some (.olst (xs ++ ys)) else none) else none := by by_cases h1 : xs.all isSh = true <;> by_cases h2 : ys.all isSh = true <;> simp only [addD, lstOf, h1, h2, if_true, if_false, and_self, and_true, true_and, and_false, false_and, Bool.false_eq_true]
theorem h_mulL {i j} (h1 : -18446744073709551616 < i) (h2 : i < 18446744073709551616) : mulD (.int i) (.int j) = some (.int (i * j)) := if_pos (.inl ⟨h1, h2⟩)
theorem h_mulR {i j} (h1 : -18446744073709551616 < j) (h2 : j < 18446744073709551616) : mulD (.int i) (.int j) = some (.int (i * j)) := if_pos (.inr (.inl ⟨h1, h2⟩))
theorem h_div {i j} (h1 : 0 < j) (h2 : j < 1073741824) : divD (.int i) (.int j) = some (.int (i / j)) := if_pos ⟨h1, .inl h2⟩
theorem h_mod {i j} (h1 : 0 < j) : modD (.int i) (.int j) = some (.int (i % j)) := if_pos h1
theorem h_eqD {x y} : eqD x y = if okD 60 x = true /\ okD 60 y = true then some (.bl (eqB x y)) else none := nr rfl
theorem h_neD {x y} : neD x y = if okD 60 x = true /\ okD 60 y = true then some (.bl (!eqB x y)) else none := nr rfl
theorem h_ok_non {n} : okD n (.non) = true := by cases n <;> simp [okD]
theorem h_ok_bl {n}{b} : okD n (.bl b) = true := by cases n <;> simp [okD]
theorem h_ok_int {n}{i} : okD n (.int i) = true := by cases n <;> simp [okD]
theorem h_ok_str {n}{x} : okD n (.str x) = true := by cases n <;> simp [okD]
theorem h_ok_tup {n xs} : okD (n + 1) (.tup xs) = okDs n xs := by rw [okD]
theorem h_ok_lst {n xs} : okD (n + 1) (.lst xs) = okDs n xs := by rw [okD]
theorem h_oks_nil {n} : okDs n [] = true := by rw [okDs]
theorem h_oks_cons {n x xs} : okDs n (x :: xs) = (okD n x && okDs n xs) := by rw [okDs]
theorem h_eqB_ii {i j} : eqB (.int i) (.int j) = decide (i = j) := by rw [eqB]
theorem h_eqB_ss {x y} : eqB (.str x) (.str y) = decide (x = y) := by rw [eqB]
theorem h_eqB_bb {a b} : eqB (.bl a) (.bl b) = decide (a = b) := by rw [eqB]
theorem h_eqB_nn  : eqB .non .non = true := by rw [eqB]
theorem h_eqB_ni {i} : eqB .non (.int i) = false := by simp [eqB]
theorem h_eqB_in {i} : eqB (.int i) .non = false := by simp [eqB]
theorem h_eqB_nt {xs} : eqB .non (.tup xs) = false := by simp [eqB]
theorem h_eqB_tn {xs} : eqB (.tup xs) .non = false := by simp [eqB]
theorem h_eqB_tt {xs ys} : eqB (.tup xs) (.tup ys) = eqBs xs ys := by rw [eqB]
theorem h_eqB_ll {xs ys} : eqB (.lst xs) (.lst ys) = eqBs xs ys := by rw [eqB]
theorem h_eqBs_nn  : eqBs [] [] = true := by rw [eqBs]
theorem h_eqBs_cc {x xs y ys} : eqBs (x :: xs) (y :: ys) = (eqB x y && eqBs xs ys) := by rw [eqBs]
theorem h_eqBs_nc {y ys} : eqBs [] (y :: ys) = false := by simp [eqBs]
theorem h_eqBs_cn {y ys} : eqBs (y :: ys) [] = false := by simp [eqBs]
theorem h_cmp {f i j} : cmpD f (.int i) (.int j) = some (.bl (f i j)) := nr rfl
theorem h_ltI {i j} : ltD (.int i) (.int j) = some (.bl (decide (i < j))) := nr rfl
theorem h_ltT {xs ys} : ltD (.tup xs) (.tup ys) = (intsOf xs).bind fun ns => (intsOf ys).map fun ms => .bl (HT.lexLt ns ms) := nr rfl
theorem h_ints_nil  : intsOf [] = some [] := nr rfl
theorem h_ints_cons {i ds} : intsOf (.int i :: ds) = (intsOf ds).map (i :: ·) := nr rfl
theorem h_intI {i} : intD [.int i] = some (.int i) := nr rfl
theorem h_intB {b} : intD [.bl b] = some (.int (if b = true then 1 else 0)) := nr rfl
theorem h_abs {i} : absD [.int i] = some (.int (if i < 0 then -i else i)) := nr rfl
theorem h_lenL {ds} : lenD [.lst ds] = some (.int ds.length) := nr rfl
theorem h_lenT {ds} : lenD [.tup ds] = some (.int ds.length) := nr rfl
theorem h_lenS {ns} : lenD [.scr ns] = some (.int ns.length) := nr rfl
theorem h_ix {d i} : ixD d (.int i) = (itemsD d).bind fun xs => atI xs i := nr rfl
theorem h_it_lst {xs} : itemsD (.lst xs) = some xs := nr rfl
theorem h_it_olst {xs} : itemsD (.olst xs) = some xs := nr rfl
theorem h_it_tup {xs} : itemsD (.tup xs) = some xs := nr rfl
theorem h_it_scr {ns} : itemsD (.scr ns) = some (ns.map .int) := nr rfl
theorem h_at0 {α : Type} {x : α} {xs} : atI (x :: xs) 0 = some x := by simp [atI, ixN]
theorem h_at1 {α : Type} {xs : List α} : atI xs 1 = xs[1]? := atI_litN 1
theorem h_at2 {α : Type} {xs : List α} : atI xs 2 = xs[2]? := atI_litN 2
theorem h_at3 {α : Type} {xs : List α} : atI xs 3 = xs[3]? := atI_litN 3
theorem h_at4 {α : Type} {xs : List α} : atI xs 4 = xs[4]? := atI_litN 4
theorem h_at5 {α : Type} {xs : List α} : atI xs 5 = xs[5]? := atI_litN 5
theorem h_at6 {α : Type} {xs : List α} : atI xs 6 = xs[6]? := atI_litN 6
theorem h_at7 {α : Type} {xs : List α} : atI xs 7 = xs[7]? := atI_litN 7
theorem h_at8 {α : Type} {xs : List α} : atI xs 8 = xs[8]? := atI_litN 8
theorem h_at9 {α : Type} {xs : List α} : atI xs 9 = xs[9]? := atI_litN 9
theorem h_at10 {α : Type} {xs : List α} : atI xs 10 = xs[10]? := atI_litN 10
theorem h_at11 {α : Type} {xs : List α} : atI xs 11 = xs[11]? := atI_litN 11
theorem h_at12 {α : Type} {xs : List α} : atI xs 12 = xs[12]? := atI_litN 12
theorem h_atm1 {α : Type} {xs : List α} : atI xs (-1) = xs.getLast? := atI_last
theorem h_ty_non  : tyD (.non) = some (false, "NoneType") := nr rfl
theorem h_ty_bl {b} : tyD (.bl b) = some (false, "bool") := nr rfl
theorem h_ty_int {i} : tyD (.int i) = some (false, "int") := nr rfl
theorem h_ty_str {x} : tyD (.str x) = some (false, "str") := nr rfl
theorem h_ty_lst {xs} : tyD (.lst xs) = some (false, "list") := nr rfl
theorem h_ty_tup {xs} : tyD (.tup xs) = some (false, "tuple") := nr rfl
theorem h_ty_ins {c ns xs} : tyD (.ins c ns xs) = some (true, c) := nr rfl
theorem h_isi_bb {T : Tbl} {a b} : isi1 T (false, a) (false, b) = isiB a b := nr rfl
theorem h_isi_bo {T : Tbl} {a b} : isi1 T (false, a) (true, b) = false := nr rfl
theorem h_isi_ob {T : Tbl} {a b} : isi1 T (true, a) (false, b) = false := nr rfl
theorem h_isi_oo {T : Tbl} {a b} : isi1 T (true, a) (true, b) = T.sub a b := nr rfl
theorem h_isiB_NoneType_bool  : isiB "NoneType" "bool" = false := by decide
theorem h_isiB_NoneType_int  : isiB "NoneType" "int" = false := by decide
theorem h_isiB_NoneType_str  : isiB "NoneType" "str" = false := by decide
theorem h_isiB_NoneType_list  : isiB "NoneType" "list" = false := by decide
theorem h_isiB_NoneType_tuple  : isiB "NoneType" "tuple" = false := by decide
theorem h_isiB_NoneType_dict  : isiB "NoneType" "dict" = false := by decide
theorem h_isiB_bool_bool  : isiB "bool" "bool" = true := by decide
theorem h_isiB_bool_int  : isiB "bool" "int" = true := by decide
theorem h_isiB_bool_str  : isiB "bool" "str" = false := by decide
theorem h_isiB_bool_list  : isiB "bool" "list" = false := by decide
theorem h_isiB_bool_tuple  : isiB "bool" "tuple" = false := by decide
theorem h_isiB_bool_dict  : isiB "bool" "dict" = false := by decide
theorem h_isiB_int_bool  : isiB "int" "bool" = false := by decide
theorem h_isiB_int_int  : isiB "int" "int" = true := by decide
theorem h_isiB_int_str  : isiB "int" "str" = false := by decide
theorem h_isiB_int_list  : isiB "int" "list" = false := by decide
theorem h_isiB_int_tuple  : isiB "int" "tuple" = false := by decide
theorem h_isiB_int_dict  : isiB "int" "dict" = false := by decide
theorem h_isiB_str_bool  : isiB "str" "bool" = false := by decide
theorem h_isiB_str_int  : isiB "str" "int" = false := by decide
theorem h_isiB_str_str  : isiB "str" "str" = true := by decide
theorem h_isiB_str_list  : isiB "str" "list" = false := by decide
theorem h_isiB_str_tuple  : isiB "str" "tuple" = false := by decide
theorem h_isiB_str_dict  : isiB "str" "dict" = false := by decide
theorem h_isiB_list_bool  : isiB "list" "bool" = false := by decide
theorem h_isiB_list_int  : isiB "list" "int" = false := by decide
theorem h_isiB_list_str  : isiB "list" "str" = false := by decide
theorem h_isiB_list_list  : isiB "list" "list" = true := by decide
theorem h_isiB_list_tuple  : isiB "list" "tuple" = false := by decide
theorem h_isiB_list_dict  : isiB "list" "dict" = false := by decide
theorem h_isiB_tuple_bool  : isiB "tuple" "bool" = false := by decide
theorem h_isiB_tuple_int  : isiB "tuple" "int" = false := by decide
theorem h_isiB_tuple_str  : isiB "tuple" "str" = false := by decide
theorem h_isiB_tuple_list  : isiB "tuple" "list" = false := by decide
theorem h_isiB_tuple_tuple  : isiB "tuple" "tuple" = true := by decide
theorem h_isiB_tuple_dict  : isiB "tuple" "dict" = false := by decide
theorem h_isiB_dict_bool  : isiB "dict" "bool" = false := by decide
theorem h_isiB_dict_int  : isiB "dict" "int" = false := by decide
theorem h_isiB_dict_str  : isiB "dict" "str" = false := by decide
theorem h_isiB_dict_list  : isiB "dict" "list" = false := by decide
theorem h_isiB_dict_tuple  : isiB "dict" "tuple" = false := by decide
theorem h_isiB_dict_dict  : isiB "dict" "dict" = true := by decide
theorem h_append {xs d} : appendD (.olst xs) [d] = if xs.length < 1000000 then some (.olst (xs ++ [d]), .non) else none := nr rfl
theorem h_put0 {d n : D} : D.putAt d [] n = n := nr rfl
theorem h_rng1 {n} : rng1D [.int n] = guardB (rngOk n) (some (rangeD 0 n.toNat)) := nr rfl
theorem h_guard1 {α : Type} {x : Option α} : guardB true x = x := nr rfl
theorem h_guard0 {α : Type} {x : Option α} : guardB false x = none := nr rfl
theorem h_rngOk {i : Int} (h1 : -1000000000000000000 <= i) (h2 : i <= 1000000000000000000) : rngOk i = true := Nat.ble_eq_true_of_le (by omega)
theorem h_forLn {f env} : forL f [] env = .nx env := nr rfl
theorem h_forLc {f d ds env} : forL f (d :: ds) env = forT f ds (f d env) := by show (match f d env with | .nx e => _ | .ct e => _ | .bk e => _ | r => r) = _; cases f d env <;> rfl
theorem h_forT_nx {f ds e} : forT f ds (.nx e) = forL f ds e := nr rfl
theorem h_forT_ct {f ds e} : forT f ds (.ct e) = forL f ds e := nr rfl
theorem h_forT_bk {f ds e} : forT f ds (.bk e) = .nx e := nr rfl
theorem h_forT_rt {f ds d e} : forT f ds (.rt d e) = .rt d e := nr rfl
theorem h_forT_ex {f ds x e} : forT f ds (.ex x e) = .ex x e := nr rfl
theorem h_wipe0 {env} : wipeE env [] = env := nr rfl
theorem h_wipes {env v vs} : wipeE env (v :: vs) = (wipeE env vs).set v none := nr rfl
theorem h_frz {env i} : frzS env i = frzO env i (getS env i) := by unfold frzS frzO; cases getS env i <;> rfl
theorem h_frzO {env i d} : frzO env i (some d) = env.set i (some (fz d)) := nr rfl
theorem h_frzOn {env i} : frzO env i none = env := nr rfl
theorem h_runR_rt {b d env} : runR b (.rt d env) = retZ (bGet b env) d := by cases hb : bGet b env <;> simp [runR, retZ, hb]
theorem h_runR_nx {b env} : runR b (.nx env) = retZ (bGet b env) .non := by cases hb : bGet b env <;> simp [runR, retZ, hb]
theorem h_retZ {x d} : retZ (some x) d = .ok d x := nr rfl
theorem h_bGetn {env} : bGet none env = some none := nr rfl
theorem h_bGets {i env} : bGet (some i) env = (getS env i).map some := nr rfl
theorem h_setS {P i d env} : setS P i d env = if i < env.length /\ i ∉ P then some (env.set i (some d)) else none := nr rfl
theorem h_fldI {T : Tbl} {f c ns xs} : fldD T f (.ins c ns xs) = if T.fOk c f = true then (pos f ns).bind fun j => xs[j]? else none := nr rfl
theorem h_fldO {T : Tbl} {f c ns xs} : fldD T f (.oins c ns xs) = if T.fOk c f = true then (pos f ns).bind fun j => xs[j]? else none := nr rfl
theorem h_iteFd1 {p : Prop} [Decidable p] {s u e} (h : p) : iteF (some (decide p)) s u e = s e := by rw [decide_eq_true h]; rfl
theorem h_iteFd0 {p : Prop} [Decidable p] {s u e} (h : ¬ p) : iteF (some (decide p)) s u e = u e := by rw [decide_eq_false h]; rfl
theorem h_iteFe1 {p : Prop} [Decidable p] {s u e} (h : ¬ p) : iteF (some (!decide p)) s u e = s e := by rw [decide_eq_false h]; rfl
theorem h_iteFe0 {p : Prop} [Decidable p] {s u e} (h : p) : iteF (some (!decide p)) s u e = u e := by rw [decide_eq_true h]; rfl
theorem h_andFd1 {p : Prop} [Decidable p] {s e} (h : p) : andF (some (decide p)) s e = s e := by rw [decide_eq_true h]; rfl
theorem h_andFd0 {p : Prop} [Decidable p] {s e} (h : ¬ p) : andF (some (decide p)) s e = some false := by rw [decide_eq_false h]; rfl
theorem h_andFe1 {p : Prop} [Decidable p] {s e} (h : ¬ p) : andF (some (!decide p)) s e = s e := by rw [decide_eq_false h]; rfl
theorem h_andFe0 {p : Prop} [Decidable p] {s e} (h : p) : andF (some (!decide p)) s e = some false := by rw [decide_eq_true h]; rfl
theorem h_orFd1 {p : Prop} [Decidable p] {s e} (h : p) : orF (some (decide p)) s e = some true := by rw [decide_eq_true h]; rfl
theorem h_orFd0 {p : Prop} [Decidable p] {s e} (h : ¬ p) : orF (some (decide p)) s e = s e := by rw [decide_eq_false h]; rfl
theorem h_orFe1 {p : Prop} [Decidable p] {s e} (h : ¬ p) : orF (some (!decide p)) s e = some true := by rw [decide_eq_false h]; rfl
theorem h_orFe0 {p : Prop} [Decidable p] {s e} (h : p) : orF (some (!decide p)) s e = s e := by rw [decide_eq_true h]; rfl
theorem h_callO1 {T : Tbl} {φ : Sem} {n c ns xs ds} : callO1 T φ n (.ins c ns xs :: ds) = resE (T.res c "__call__") fun nm => if ds.length + 1 = n then φ nm (.ins c ns xs :: ds) none else .no := by show (match T.res c "__call__" with | some nm => _ | none => _) = _; cases T.res c "__call__" <;> rfl
theorem h_meth1 {T : Tbl} {φ : Sem} {m n c ns xs ds} : meth1 T φ m n (.ins c ns xs :: ds) = resE (T.res c m) fun nm => if pos m ns = none /\ ds.length + 1 = n then φ nm (.ins c ns xs :: ds) none else .no := by show (match T.res c m with | some nm => _ | none => _) = _; cases T.res c m <;> rfl
theorem h_meth2 {T : Tbl} {φ : Sem} {m n c ns xs ds} : meth2 T φ m n (.oins c ns xs :: ds) = resE (T.res c m) fun nm => if pos m ns = none /\ ds.length + 1 = n then φ nm (.oins c ns xs :: ds) (some 0) else .no := by show (match T.res c m with | some nm => _ | none => _) = _; cases T.res c m <;> rfl
theorem h_resE {nm f} : resE (some nm) f = f nm := nr rfl
theorem h_resEn {f} : resE none f = .no := nr rfl
theorem h_posn {m : String} : pos m [] = none := nr rfl
theorem h_posc {m n : String} {ns} : pos m (n :: ns) = if n = m then some 0 else (pos m ns).map (· + 1) := nr rfl
theorem h_eMmeth {T : Tbl} {W : Wd T} {φ : Sem} {m n} {p : XPl W} {as : XA W} {P env} : (xmMeth φ m n p as).ev P env = methM T φ m n p.root (p.ev env) (as.evF env) env := nr rfl
theorem h_methM1 {T : Tbl} {φ : Sem} {m n i st c ns xs ds env} : methM T φ m n i (some (st, .oins c ns xs)) (some ds) env = rm1 (meth2 T φ m n (.oins c ns xs :: ds)) (getS env i) i st env := nr rfl
theorem h_methM0 {T : Tbl} {φ : Sem} {m n i st c ns xs ds env} : methM T φ m n i (some (st, .ins c ns xs)) (some ds) env = rm0 (meth1 T φ m n (.ins c ns xs :: ds)) env := nr rfl
theorem h_rm0o {d b e} : rm0 (.ok d b) e = .ok d e := nr rfl
theorem h_rm0x {x b e} : rm0 (.exn x b) e = .exn x e := nr rfl
theorem h_rm0n {e} : rm0 .no e = .no := nr rfl
theorem h_rm1o {d n d0 i st e} : rm1 (.ok d (some n)) (some d0) i st e = .ok d (e.set i (some (d0.putAt st n))) := nr rfl
theorem h_rm1x {x n d0 i st e} : rm1 (.exn x (some n)) (some d0) i st e = .exn x (e.set i (some (d0.putAt st n))) := nr rfl
theorem h_putc {d : D} {s st n} : D.putAt d (s :: st) n = putE d s st n (d.sub s) := by show (match d.sub s with | some x => _ | none => _) = _; cases d.sub s <;> rfl
theorem h_putE {d : D} {s st n x} : putE d s st n (some x) = d.put s (x.putAt st n) := nr rfl
theorem h_subF {c ns xs f} : D.sub (.oins c ns xs) (.fld f) = (pos f ns).bind fun j => xs[j]? := nr rfl
theorem h_subI {xs k} : D.sub (.olst xs) (.idx k) = xs[k]? := nr rfl
theorem h_putF {c ns xs f y} : D.put (.oins c ns xs) (.fld f) y = .oins c ns (setO xs (pos f ns) y) := by show (match pos f ns with | some j => _ | none => _) = _; cases pos f ns <;> rfl
theorem h_putI {xs k y} : D.put (.olst xs) (.idx k) y = .olst (xs.set k y) := nr rfl
theorem h_setOs {xs : List D} {j y} : setO xs (some j) y = xs.set j y := nr rfl
theorem h_eSfld {T : Tbl} {W : Wd T} {p : XPl W} {f} {m : XM W} {P env} : (xsFld p f m).ev P env = (m.ev P env).thenS (fldK T p f) := nr rfl
theorem h_fldK {T : Tbl} {W : Wd T} {p : XPl W} {f d e} : fldK T p f d e = RS.ofO ((p.ev e).bind fun q => (setFD T f q.2 [d]).bind fun z => (getS e p.root).map fun d0 => e.set p.root (some (d0.putAt q.1 z.1))) := nr rfl
theorem h_setFD {T : Tbl} {f c ns xs d} : setFD T f (.oins c ns xs) [d] = if T.fOk c f = true /\ ns.length < 1000 then some (.oins c (setF f d ns xs).1 (setF f d ns xs).2, .non) else none := nr rfl
theorem h_setFn {f d} : setF f d [] [] = ([f], [d]) := nr rfl
theorem h_setFc {f d n ns x xs} : setF f d (n :: ns) (x :: xs) = if n = f then (n :: ns, d :: xs) else ((n :: (setF f d ns xs).1), x :: (setF f d ns xs).2) := nr rfl
theorem h_mk1 {φ : Sem} {c ini n ds} : mk1 φ c ini n ds = if ds.length + 1 = n then mkR (φ ini (.oins c [] [] :: ds) (some 0)) else none := nr rfl
theorem h_mkR {d} : mkR (.ok .non (some d)) = some d := nr rfl
theorem h_RLthenM_ok {d e f} : RL.thenM (.ok d e) f = f d e := nr rfl
theorem h_RMthenM_ok {d e f} : RM.thenM (.ok d e) f = f d e := nr rfl
theorem h_RTthen_ok {d e f} : RT.then (.ok d e) f = f d e := nr rfl
theorem h_RTthenS_ok {d e f} : RT.thenS (.ok d e) f = f d e := nr rfl
theorem h_RLthenM_exn {x e f} : RL.thenM (.exn x e) f = .exn x e := nr rfl
theorem h_RMthenM_exn {x e f} : RM.thenM (.exn x e) f = .exn x e := nr rfl
theorem h_RTthen_exn {x e f} : RT.then (.exn x e) f = .exn x e := nr rfl
theorem h_RTthenS_exn {x e f} : RT.thenS (.exn x e) f = .ex x e := nr rfl
theorem h_RTof {b e} : RT.of (some b) e = .ok b e := nr rfl
theorem h_lo_lst {xs} : lstOf (.lst xs) = some xs := nr rfl
theorem h_lo_olst {xs} : lstOf (.olst xs) = if xs.all isSh = true then some xs else none := nr rfl
theorem h_ixD_ins {c ns xs i} : ixD (.ins c ns xs) (.int i) = none := nr rfl
theorem h_okD_ins {n c ns xs} : okD n (.ins c ns xs) = false := by cases n <;> simp [okD]
theorem h_eqD_ins {c ns xs y} : eqD (.ins c ns xs) y = none := by show (if okD 60 (.ins c ns xs) = true /\ okD 60 y = true then _ else _) = _; rw [if_neg (fun z => nomatch z.1)]
theorem h_addD_ins {c ns xs y} : addD (.ins c ns xs) y = none := nr rfl
theorem h_addD_oins {c ns xs y} : addD (.oins c ns xs) y = none := nr rfl
theorem h_eMakeN {T : Tbl} {W : Wd T} {φ c ini n m N bs dd hd} {as ks : XA W} {env} : (xMakeN φ c ini n m N bs dd hd as ks).ev env = makeNE φ c ini n m N bs dd (as.evF env) (ks.evF env) (as.evV env) (ks.evV env) := nr rfl
theorem h_makeNE_F {φ c ini n m N bs dd ds zs v w} : makeNE φ c ini n m N bs dd (some ds) (some zs) v w = (mkN φ c ini n m N bs dd ds zs).map (Prod.mk .fr) := nr rfl
theorem h_makeNE_V {φ c ini n m N bs dd g ds zs} : makeNE φ c ini n m N bs dd none g (some ds) (some zs) = (mkN φ c ini n m N bs dd ds zs).map fun d => (.vw, fz d) := nr rfl
theorem h_makeNE_W {φ c ini n m N bs dd f ds zs} : makeNE φ c ini n m N bs dd (some f) none (some ds) (some zs) = (mkN φ c ini n m N bs dd ds zs).map fun d => (.vw, fz d) := nr rfl
theorem h_mkN {φ c ini n m N bs dd ds zs} : mkN φ c ini n m N bs dd ds zs = if ds.length = n /\ zs.length = m then mk1 φ c ini N (ds ++ mgM bs dd zs) else none := nr rfl
theorem h_mgM_t {bs m} {ms ws : List D} : mgM (true :: bs) (m :: ms) ws = m :: mgM bs ms ws := nr rfl
theorem h_mgM_f {bs w} {ms ws : List D} : mgM (false :: bs) ms (w :: ws) = w :: mgM bs ms ws := by cases ms <;> rfl
theorem h_mgM_n {ms ws : List D} : mgM [] ms ws = [] := by cases ms <;> rfl
theorem h_eDnew {T : Tbl} {W : Wd T} {env} : (xDnew W).ev env = some (.fr, .odic [] []) := nr rfl
theorem h_eDget2 {T : Tbl} {W : Wd T} {a b c : XP W} {env} : (xDget2 a b c).ev env = (a.ev env).bind fun p => (dicOf p.2).bind fun q => (b.evV env).bind fun y => (c.ev env).bind fun z => getE q.1 q.2 p.1 y z := nr rfl
theorem h_getE_non {ks xs p z} : getE ks xs p .non z = some z := nr rfl
theorem h_getE_int {ks xs p i z} : getE ks xs p (.int i) z = some (getM p z (dg ks xs (.inl i))) := by simp only [getE, keyD, Option.map_some]; cases dg ks xs (Sum.inl i) <;> rfl
theorem h_getE_str {ks xs p x z} : getE ks xs p (.str x) z = some (getM p z (dg ks xs (.inr (so x)))) := by simp only [getE, keyD, Option.map_some]; cases dg ks xs (Sum.inr (so x)) <;> rfl
theorem h_getM_s {p : Kd} {z x} : getM p z (some x) = p.of x := nr rfl
theorem h_getM_n {p : Kd} {z} : getM p z none = z := nr rfl
theorem h_eDix {T : Tbl} {W : Wd T} {a b : XP W} {env} : (xDix a b).ev env = (a.ev env).bind fun p => (dicOf p.2).bind fun q => (b.evV env).bind fun y => dgE q.1 q.2 p.1 y := nr rfl
theorem h_dgE_int {ks xs p i} : dgE ks xs p (.int i) = (dg ks xs (.inl i)).map p.of := nr rfl
theorem h_dgE_str {ks xs p x} : dgE ks xs p (.str x) = (dg ks xs (.inr (so x))).map p.of := nr rfl
theorem h_eDict {T : Tbl} {W : Wd T} {a : XP W} {env} : (xDict a).ev env = (a.evK env).bind fun d => (dicF d).map fun q => (.fr, .odic q.1 q.2) := nr rfl
theorem h_dicOf_d {ks xs} : dicOf (.dic ks xs) = some (ks, xs) := nr rfl
theorem h_dicOf_o {ks xs} : dicOf (.odic ks xs) = some (ks, xs) := nr rfl
theorem h_dicF_d {ks xs} : dicF (.dic ks xs) = some (ks, xs) := nr rfl
theorem h_dicF_o {ks xs} : dicF (.odic ks xs) = if xs.all isSh = true then some (ks, xs) else none := nr rfl
theorem h_eDput {T : Tbl} {W : Wd T} {p : XPl W} {k : XP W} {m : XM W} {P env} : (xsDput p k m).ev P env = (m.ev P env).thenS (dputK p k) := nr rfl
theorem h_dputK {T : Tbl} {W : Wd T} {p : XPl W} {k : XP W} {d e} : dputK p k d e = RS.ofO ((p.ev e).bind fun q => (k.evF e).bind fun i => (dputD q.2 [i, d]).bind fun z => (getS e p.root).map fun d0 => e.set p.root (some (d0.putAt q.1 z.1))) := nr rfl
theorem h_dputI {ks xs i d} : dputD (.odic ks xs) [.int i, d] = if xs.length < 1000000 then (putP ks xs (.inl i) d).map fun q => (.odic q.1 q.2, .non) else none := nr rfl
theorem h_dputS {ks xs x d} : dputD (.odic ks xs) [.str x, d] = if xs.length < 1000000 then (putP ks xs (.inr (so x)) d).map fun q => (.odic q.1 q.2, .non) else none := nr rfl
theorem h_eForD {T : Tbl} {W : Wd T} {i} {g : XG W} {b : XS W} {P env} : (xsForD i g b).ev P env = lockR (isDic (getS env i)) (forE (forK g b P) (dsK (getS env i)) env) := by show (match isDic (getS env i) with | true => noEx ((xsFor (xiKeysL i) g b).ev P env) | false => RS.no) = _; rw [e_xsFor]; cases isDic (getS env i) <;> rfl
theorem h_lockR {r} : lockR true r = noEx r := nr rfl
theorem h_noEx_nx {e} : noEx (.nx e) = .nx e := nr rfl
theorem h_noEx_rt {d e} : noEx (.rt d e) = .rt d e := nr rfl
theorem h_isDic {ks xs} : isDic (some (.dic ks xs)) = true := nr rfl
theorem h_dsK {ks xs} : dsK (some (.dic ks xs)) = kDs ks := nr rfl
theorem h_eDc {T : Tbl} {W : Wd T} {it : XI W} {g : XG W} {c : XT W} {k x : XP W} {env} : (xDc it g c k x).ev env = (it.evP env).bind fun ds => if ds.length < 1000000 then (dcL (dc1 g c k x (wipeE env g.own)) ds ([], [])).map fun q => (.fr, .odic q.1 q.2) else none := nr rfl
theorem h_eDcD {T : Tbl} {W : Wd T} {i} {g : XG W} {c : XT W} {k x : XP W} {env} : (xDcD i g c k x).ev env = guardB (isDic (getS env i)) (frE ((dsK (getS env i)).bind fun ds => if ds.length < 1000000 then (dcL (dc1 g c k x (wipeE env g.own)) ds ([], [])).map fun q => (.fr, .odic q.1 q.2) else none)) := by rfl
theorem h_frE_s {d} : frE (some (.fr, d)) = some (.fr, d) := nr rfl
theorem h_frE_n  : frE none = none := nr rfl
theorem h_guardB_t {α : Type} {x : Option α} : guardB true x = x := nr rfl
theorem h_dc1 {T : Tbl} {W : Wd T} {g : XG W} {c : XT W} {k x : XP W} {env d} : dc1 g c k x env d = dcK c k x (g.ev [] d env) := nr rfl
theorem h_dcK {T : Tbl} {W : Wd T} {c : XT W} {k x : XP W} {e} : dcK c k x (some e) = dcJ k x (c.ev e) e := nr rfl
theorem h_dcJ1 {T : Tbl} {W : Wd T} {k x : XP W} {e} : dcJ k x (some true) e = ((k.evF e).bind keyD).bind fun y => (x.evF e).map fun z => some (y, z) := nr rfl
theorem h_dcJ0 {T : Tbl} {W : Wd T} {k x : XP W} {e} : dcJ k x (some false) e = some none := nr rfl
theorem h_keyD_i {i} : keyD (.int i) = some (.inl i) := nr rfl
theorem h_keyD_s {x} : keyD (.str x) = some (.inr (so x)) := nr rfl
theorem h_kDs_n  : kDs [] = some [] := nr rfl
theorem h_kDs_c {i ks} : kDs (.inl i :: ks) = (kDs ks).map (.int i :: ·) := nr rfl
theorem h_dcL_n {f acc} : dcL f [] acc = some acc := nr rfl
theorem h_putP_n {k y} : putP [] [] k y = some ([k], [y]) := nr rfl
theorem h_eDisp {T : Tbl} {W : Wd T} {ps : List (XP W × XP W)} {env} : (xDisp ps).ev env = (dispE ps env).bind fun kds => if (kds.map (·.1)).Nodup /\ kds.length <= 15 then some (.fr, .odic (kds.map (·.1)) (kds.map (·.2))) else none := nr rfl
theorem h_dispEn {T : Tbl} {W : Wd T} {env} : dispE ([] : List (XP W × XP W)) env = some [] := nr rfl
theorem h_dispEc {T : Tbl} {W : Wd T} {a b : XP W} {r env} : dispE ((a, b) :: r) env = (a.evF env).bind fun x => (keyD x).bind fun k => (b.evF env).bind fun y => (dispE r env).map ((k, y) :: ·) := nr rfl
theorem h_eRaise {T : Tbl} {W : Wd T} {c fs} {as : XA W} {P env} : (xsRaise c fs as).ev P env = exOf c fs (as.evF env) env := nr rfl
theorem h_exOf {c fs ds env} : exOf c fs (some ds) env = if ds.length = fs.length then .ex ⟨c, fs.zip ds⟩ env else .no := nr rfl
theorem h_exOfn {c fs env} : exOf c fs none env = .no := nr rfl
theorem h_eTryAs {T : Tbl} {W : Wd T} {i c} {b : XS W} {s : XH W i} {P env} : (xsTryAs i c b s).ev P env = tryK T i c s P (b.ev P env) := nr rfl
theorem h_tryK_nx {T : Tbl} {W : Wd T} {i c} {s : XH W i} {P e} : tryK T i c s P (.nx e) = .nx e := nr rfl
theorem h_tryK_rt {T : Tbl} {W : Wd T} {i c} {s : XH W i} {P d e} : tryK T i c s P (.rt d e) = .rt d e := nr rfl
theorem h_tryK_bk {T : Tbl} {W : Wd T} {i c} {s : XH W i} {P e} : tryK T i c s P (.bk e) = .bk e := nr rfl
theorem h_tryK_ct {T : Tbl} {W : Wd T} {i c} {s : XH W i} {P e} : tryK T i c s P (.ct e) = .ct e := nr rfl
theorem h_tryK_no {T : Tbl} {W : Wd T} {i c} {s : XH W i} {P} : tryK T i c s P .no = .no := nr rfl
theorem h_tryK_ex {T : Tbl} {W : Wd T} {i c} {s : XH W i} {P n fs e} : tryK T i c s P (.ex ⟨n, fs⟩ e) = tryJ (T.xsub n c) ⟨n, fs⟩ i s P e := by show (if T.xsub n c = true then _ else _) = _; cases T.xsub n c <;> rfl
theorem h_tryJ1 {T : Tbl} {W : Wd T} {i} {s : XH W i} {x P e} : tryJ true x i s P e = if i ∈ P \/ e.length <= i then .no else (s.ev x P (e.set i none)).clr i := nr rfl
theorem h_tryJ0 {T : Tbl} {W : Wd T} {i} {s : XH W i} {x P e} : tryJ false x i s P e = .ex x e := nr rfl
theorem h_clr_nx {i e} : RS.clr i (.nx e) = .nx (e.set i none) := nr rfl
theorem h_clr_rt {i d e} : RS.clr i (.rt d e) = .rt d e := nr rfl
theorem h_clr_bk {i e} : RS.clr i (.bk e) = .bk (e.set i none) := nr rfl
theorem h_clr_ct {i e} : RS.clr i (.ct e) = .ct (e.set i none) := nr rfl
theorem h_clr_no {i} : RS.clr i .no = .no := nr rfl
theorem h_ehAsg {T : Tbl} {W : Wd T} {i j} {m : XQ W i} {x P env} : (xhAsg j m).ev x P env = xhAsgK P j env (m.evO x env) := nr rfl
theorem h_hAsgK {P j env d} : xhAsgK P j env (some d) = RS.ofO (setS P j d env) := nr rfl
theorem h_hAsgKn {P j env} : xhAsgK P j env none = .no := nr rfl
theorem h_qevO {T : Tbl} {W : Wd T} {i} {m : XQ W i} {x env} : m.evO x env = toO (m.ev x env) := nr rfl
theorem h_qevB {T : Tbl} {W : Wd T} {i} {m : XQ W i} {x env} : m.evB x env = (toV (m.ev x env)).bind blD := nr rfl
theorem h_qevF {T : Tbl} {W : Wd T} {i} {m : XQ W i} {x env} : m.evF x env = toQ (m.ev x env) := nr rfl
theorem h_toQf {d} : toQ (some (.fr, d)) = if isSh d = true then some d else none := nr rfl
theorem h_toQp {d} : toQ (some (.pl, d)) = if isSh d = true then some d else none := nr rfl
theorem h_toQv {d} : toQ (some (.vw, d)) = if isFlat d = true then some d else none := nr rfl
theorem h_toQn  : toQ none = none := nr rfl
theorem h_eqP {T : Tbl} {W : Wd T} {i} {p : XP W} {x env} : (xqP (i := i) p).ev x env = p.ev env := nr rfl
theorem h_eqFld {T : Tbl} {W : Wd T} {i c f n fs env} : (xqFld W i c f).ev ⟨n, fs⟩ env = if n = c then (fs.lookup f).map (Prod.mk .fr) else none := nr rfl
theorem h_eqIs {T : Tbl} {W : Wd T} {i c n p fs env} : (xqIs W i c).ev ⟨n, p :: fs⟩ env = some (.fr, .bl (isX1 T n c)) := nr rfl
theorem h_eqIsT {T : Tbl} {W : Wd T} {i cs n p fs env} : (xqIsT W i cs).ev ⟨n, p :: fs⟩ env = some (.fr, .bl (isXA T n cs)) := nr rfl
theorem h_isX1t {T : Tbl} {x y} : isX1 T x (true, y) = T.xsub x y := nr rfl
theorem h_isX1f {T : Tbl} {x y} : isX1 T x (false, y) = true := nr rfl
theorem h_isXAn {T : Tbl} {x} : isXA T x [] = false := nr rfl
theorem h_isXAc {T : Tbl} {x c cs} : isXA T x (c :: cs) = (isX1 T x c || isXA T x cs) := nr rfl
theorem h_eqAnd {T : Tbl} {W : Wd T} {i} {m n : XQ W i} {x env} : (xqAnd m n).ev x env = (andF (m.evB x env) (n.evB x) env).map fun c => (.fr, .bl c) := by show (andE (m.evB x env) fun _ => n.evB x env).map _ = _; unfold andE andF; rfl
theorem h_eqNot {T : Tbl} {W : Wd T} {i} {m : XQ W i} {x env} : (xqNot m).ev x env = (m.evB x env).map fun c => (.fr, .bl (!c)) := nr rfl
theorem h_eqLst {T : Tbl} {W : Wd T} {i} {n : XQs W i} {x env} : (xqLst n).ev x env = (n.ev x env).bind fun ds => if ds.length <= 1000000 then some (.fr, .olst ds) else none := nr rfl
theorem h_eqs0 {T : Tbl} {W : Wd T} {i x env} : (xqsNil W i).ev x env = some [] := nr rfl
theorem h_eqs1 {T : Tbl} {W : Wd T} {i} {m : XQ W i} {n : XQs W i} {x env} : (xqsCons m n).ev x env = (m.evF x env).bind fun y => (n.ev x env).map (y :: ·) := nr rfl
theorem h_mkMo {d env} : mkM (.ok .non (some d)) env = .ok d env := nr rfl
theorem h_mkMx {x b env} : mkM (.exn x b) env = .exn x env := nr rfl
theorem h_mkMn {env} : mkM .no env = .no := nr rfl
theorem h_eMakeNM {T : Tbl} {W : Wd T} {φ : Sem} {c ini n m N bs dd hd} {as ks : XA W} {P env} : (xmMakeN φ c ini n m N bs dd hd as ks).ev P env = makeNM φ c ini n m N bs dd (as.evF env) (ks.evF env) env := nr rfl
theorem h_makeNM {φ : Sem} {c ini n m N bs dd ds zs env} : makeNM φ c ini n m N bs dd (some ds) (some zs) env = if ds.length = n /\ zs.length = m /\ (ds ++ mgM bs dd zs).length + 1 = N then mkM (φ ini (.oins c [] [] :: (ds ++ mgM bs dd zs)) (some 0)) env else .no := nr rfl
theorem h_eCallOM {T : Tbl} {W : Wd T} {φ : Sem} {n} {a : XP W} {as : XA W} {P env} : (xmCallO φ n a as).ev P env = callOM T φ n (a.evF env) (as.evF env) env := nr rfl
theorem h_callOMs {T : Tbl} {φ : Sem} {n d ds env} : callOM T φ n (some d) (some ds) env = rm0 (callO1 T φ n (d :: ds)) env := nr rfl
theorem h_eAppR {T : Tbl} {W : Wd T} {j} {m : XM W} {P env} : (xmAppendR j m).ev P env = if isOl (getS env j) = true then (m.ev P env).thenM (apmK j) else .no := nr rfl
theorem h_isOl {xs} : isOl (some (.olst xs)) = true := nr rfl
theorem h_apmK {i d e} : apmK i d e = RM.ofO ((getS e i).bind fun n => (appendD n [d]).map fun z => (z.2, e.set i (some z.1))) := nr rfl
theorem h_runR_ex {b x env} : runR b (.ex x env) = retX (bGet b env) x := by cases hb : bGet b env <;> simp [runR, retX, hb]
theorem h_retX {o x} : retX (some o) x = .exn x o := nr rfl
theorem h_thenY1 {ys e f} : (RY.nx ys e).then f = f ys e := nr rfl
theorem h_thenY2 {ys e f} : (RY.ct ys e).then f = .ct ys e := nr rfl
theorem h_thenY3 {ys e f} : (RY.bk ys e).then f = .bk ys e := nr rfl
theorem h_look1 {k : String} {d : D} {r} : List.lookup k ((k, d) :: r) = some d := by simp
theorem h_look2 {k f : String} {d : D} {r} (h : ¬ f = k) : List.lookup f ((k, d) :: r) = List.lookup f r := by rw [List.lookup_cons, beq_eq_false_iff_ne.mpr h]
end Py
namespace Py
open PySem L2
section
variable {T : Tbl} {W : Wd T} {env : Py.Env}
end
end Py
namespace Py
open PySem L2
section
variable {T : Tbl} {W : Wd T} {env : Py.Env} {P : List Nat} {E : WX}
end
end Py
namespace Py
open PySem L2
section
variable {T : Tbl} {W : Wd T}
end
end Py
namespace Py
open PySem L2
section
variable {T : Tbl} {W : Wd T}
end
end Py
namespace Py
open PySem L2
section
variable {X : Cx} {T : Tbl} {W : Wd T} {E : WX}
end
end Py
namespace Py
open PySem L2
section
variable {T : Tbl} {W : Wd T} {env : Py.Env} {P : List Nat} {E : WX}
end
end Py
namespace Py
open PySem L2
section
variable {T : Tbl} {W : Wd T} {env : Py.Env} {P : List Nat} {E : WX}
end
end Py
namespace Py
open PySem L2
section
variable {T : Tbl} {W : Wd T} {env : Py.Env} {ds : List D}
structure Acc2 {T : Tbl} (W : Wd T) (F H F1 H1 : Hp) (Dl : Addr) (acc : List D) (F' H' : Hp) : Prop where
  x : Ext F H F' H'
  s1 : Same F1 F'
  s2 : Same H1 H'
  nl : F' Dl = none
  at_ : ∃ ws M, H' Dl = some (.lst ws) /\ Owns W F' H' acc ws M /\ (Dl :: M).Nodup /\ ∀ a ∈ M, H a = none /\ F' a = none
theorem Acc2.ext {F H F1 H1 F' H' F2 H2 : Hp} {Dl : Addr} {acc : List D} (c : Acc2 W F H F1 H1 Dl acc F' H') (x3 : Ext F' H' F2 H2) : Acc2 W F H F1 H1 Dl acc F2 H2 := by
  obtain ⟨ws, M, hl, os, nd, hM⟩ := c.at_
  have nn : ∀ a, (∃ o, H' a = some o) -> F' a = none -> F2 a = none := fun a ⟨o, ho⟩ hf => by
    cases z : F2 a with
    | none => rfl
    | some u =>
      rcases x3.n a u z with w | w
      · rw [hf] at w; cases w
      · rw [ho] at w; cases w
  exact ⟨c.x.trans x3, c.s1.trans x3.f, c.s2.trans x3.h, nn Dl ⟨_, hl⟩ c.nl, ws, M, x3.h _ _ hl, os.frame x3.f fun a _ o ho => x3.h _ _ ho, nd, fun a ha => ⟨(hM a ha).1, nn a (os.lives a ha) (hM a ha).2⟩⟩
theorem Acc2.push {F H F1 H1 F3 H3 F4 H4 : Hp} {Dl : Addr} {acc : List D} {y : D} {w : V} {My : List Addr} (c : Acc2 W F H F1 H1 Dl acc F3 H3) (x4 : Ext F3 H3 F4 H4) (hD : H1 Dl = none) (hH : H Dl = none) (oy : Own W F4 H4 y w My) (ndy : My.Nodup) (ky : ∀ a ∈ My, H3 a = none /\ F4 a = none) :
    ∃ ws, H4 Dl = some (.lst ws) /\ ws.length = acc.length /\ Acc2 W F H F1 H1 Dl (acc ++ [y]) F4 (upd H4 Dl (.lst (ws ++ [w]))) := by
  have c4 := c.ext x4
  obtain ⟨ws3, M3, hl3, os3, nd3, hM3⟩ := c.at_
  obtain ⟨ws, M, hl, os, nd, hM⟩ := c4.at_
  have e3 : ws = ws3 := by
    have := x4.h _ _ hl3
    rw [hl] at this
    cases this; rfl
  subst e3
  have nD : ∀ b ∈ My, b ≠ Dl := fun b hb z => by rw [<- z, (ky b hb).1] at hl3; cases hl3
  have os3' : Owns W F4 H4 acc ws M3 := os3.frame x4.f fun a _ o ho => x4.h _ _ ho
  refine ⟨ws, hl, os.length.symm, ⟨?_, c4.s1, fun b u hb => by rw [upd_ne (fun z => by rw [z, hD] at hb; cases hb)]; exact c4.s2 _ _ hb, c4.nl, ws ++ [w], M3 ++ My, upd_same, ?_, ?_, ?_⟩⟩
  · exact ⟨c4.x.f, fun b u hb => by rw [upd_ne (fun z => by rw [z, c4.nl] at hb; cases hb)]; exact c4.x.s _ _ hb, fun b u hb => by rw [upd_ne (fun z => by rw [z, hH] at hb; cases hb)]; exact c4.x.h _ _ hb, c4.x.n⟩
  · refine Owns.snoc (os3'.frame (Same.refl _) fun b hb u hu => ?_) (oy.frame (Same.refl _) fun b hb u hu => ?_)
    · rw [upd_ne (fun z => (List.nodup_cons.mp nd3).1 (by rw [<- z]; exact hb))]; exact hu
    · rw [upd_ne (nD b hb)]; exact hu
  · have fr : ∀ b ∈ My, b ∉ Dl :: M3 := fun b hb z => by
      have : ∃ o, H3 b = some o := by
        rcases List.mem_cons.mp z with z | z
        · exact ⟨_, by rw [z]; exact hl3⟩
        · exact os3.lives b z
      obtain ⟨o, ho⟩ := this
      rw [(ky b hb).1] at ho; cases ho
    have : ((Dl :: M3) ++ My).Nodup := by
      rw [List.nodup_append]
      exact ⟨nd3, ndy, fun b hb c hc z => fr c hc (by rw [<- z]; exact hb)⟩
    exact this
  · intro b hb
    rcases List.mem_append.mp hb with z | z
    · refine ⟨(hM3 b z).1, ?_⟩
      cases q : F4 b with
      | none => rfl
      | some u =>
        obtain ⟨o, ho⟩ := os3.lives b z
        rcases x4.n b u q with v | v
        · rw [(hM3 b z).2] at v; cases v
        · rw [ho] at v; cases v
    · exact ⟨c.x.h.free (ky b z).1, (ky b z).2⟩
end
end Py
namespace Py
open PySem PySem.Spec PyProof.Rows L2
structure ZAp (z TI TO i1 i2 : Addr) (f1 f2 : List Addr) : Prop where
  TIz : TI ≠ z
  TOz : TO ≠ z
  i1z : i1 ≠ z
  i2z : i2 ≠ z
  TITO : TI ≠ TO
  TIi1 : TI ≠ i1
  TIi2 : TI ≠ i2
  TOi1 : TO ≠ i1
  TOi2 : TO ≠ i2
  i12 : i1 ≠ i2
  zf1 : z ∉ f1
  TOf1 : TO ∉ f1
  i2f1 : i2 ∉ f1
  zf2 : z ∉ f2
  TOf2 : TO ∉ f2
  i1f2 : i1 ∉ f2
section
variable {prog : Program} {w : World} {A : Around} {E : Value -> Shared -> Prop} {s : Shared} {z TI TO i1 i2 : Addr} {f1 f2 : List Addr} {n1 n2 k1 k2 : Nat} {P1 P2 : Nat -> Value -> Prop} {S1 S2 : Nat -> Heap -> Prop} {a b : Value}
end
section
variable {prog : Program} {w : World} {A : Around} {E : Value -> Shared -> Prop} {s : Shared}
end
theorem ZAp.of {z TI TO i1 i2 a b : Addr} (D : ZipApart z TI TO i1 i2 a b) : ZAp z TI TO i1 i2 [i1, a] [i2, b] where
  TIz := D.TIz
  TOz := D.TOz
  i1z := D.i1z
  i2z := D.i2z
  TITO := D.TITO
  TIi1 := D.TIi1
  TIi2 := D.TIi2
  TOi1 := D.TOi1
  TOi2 := D.TOi2
  i12 := D.i12
  zf1 := by simp [D.i1z.symm, D.l1z.symm]
  TOf1 := by simp [D.TOi1, D.l1TO.symm]
  i2f1 := by simp [D.i12.symm, D.l1i2.symm]
  zf2 := by simp [D.i2z.symm, D.l2z.symm]
  TOf2 := by simp [D.TOi2, D.l2TO.symm]
  i1f2 := by simp [D.i12, D.l2i1.symm]
section
variable {T : Tbl} {W : Wd T} {env : Py.Env} {ta tb : TE} {ds es : List D}
end
end Py
namespace Py
open PySem L2
section
variable {T : Tbl} {W : Wd T} {X : Cx} {pins : List (Addr × Obj)} {σ : St} {H : Hp} {s : Shared}
end
section
variable {T : Tbl} {W : Wd T}
end
end Py
namespace Py
open PySem L2
section
variable {T : Tbl} {W : Wd T}
end
end Py
namespace L2
open PySem PySem.Spec PyProof.Rows
inductive HdsA (X : Cx) (n : Str) : List ExceptHandler -> List (Value × (Addr -> Value -> Option Addr -> TS)) -> Prop
  | nil : HdsA X n [] []
  | cons {x : Str} {c : Value} {ts : Addr -> Value -> Option Addr -> TS} {b₀ : Stmt} {suite : List Stmt} {np pos' : Pos} {hds : List ExceptHandler} {l : List (Value × (Addr -> Value -> Option Addr -> TS))} (hc : Names X x c)
      (hsu : ∀ (a : Addr) (oe : Obj) (cls : Value) (d : Option Addr) (pn : List (Addr × Obj)), Zc cls d oe -> (∃ vs, oe.data = .fields vs) -> PSs (X.suite a ((a, oe) :: pn)) (b₀ :: suite) (ts a cls d)) (r : HdsA X n hds l) :
      HdsA X n (.ExceptHandler (some (.Name x np)) (some n) (b₀ :: suite) pos' :: hds) ((c, ts) :: l)
section
variable {X : Cx} {n : Str} {i : Nat} {body : List Stmt} {h₀ : ExceptHandler} {hds : List ExceptHandler} {l : List (Value × (Addr -> Value -> Option Addr -> TS))} {pos : Pos} {tb : WX -> TS} {Wout : WX}
end
end L2
namespace Py
open PySem L2
section
variable {T : Tbl} {W : Wd T}
section
variable {X : Cx} {pins : List (Addr × Obj)} {σ : St} {H : Hp} {s : Shared}
end
def q2 (r : R2) (Q : VK) : List V -> Hp -> Prop := fun vs H => match vs with
  | [x, y] => r x y H Q
  | _ => False
end
end Py
namespace L2
open PySem PySem.Spec PyProof.Rows
section
variable {M : Model} {A : Around} {E : Value -> Shared -> Prop} {s : Shared} {Z : Obj -> Prop} {base : Heap} {env : Env} {outer l : List Env} {L e : Addr}
end
section
variable {X : Cx}
end
end L2
namespace Py
open PySem L2
structure XEl {T : Tbl} (W : Wd T) where
  t : WX -> TE
  ev : Py.Env -> Rz
  snd : ∀ (E : WX) (env : Py.Env) (e : Ent) (F : Hp) (σ : St) (H : Hp) (L : List Addr) (Q : VK), ev env ≠ .no -> Rel W e env F σ H L ->
    (∀ d b v F' H', ev env = .ok d b -> Ext F H F' H' -> rO W d F' H' H v -> Q v H') -> (∀ x b F' H' C dd, ev env = .exn x b -> Ext F H F' H' -> IsExn W F' x C dd -> E C dd σ H') -> t E σ H Q
section
variable {T : Tbl} {W : Wd T} {env : Py.Env} {E : WX}
end
end Py
namespace L2
open PySem PySem.Spec PyProof.Rows
def napped : GenState -> GenState
  | .suspended _ l c p fs cl => .suspended (fun _ => .unsupported "asleep") l c p fs cl
  | x => x
def sleeps : GenState -> Bool
  | .suspended .. => true
  | _ => false
def isRet : Frame -> Bool
  | .ret .. => true
  | .gen .. => false
theorem napped_seen (x : GenState) : (napped x).seen = x.seen := by cases x <;> rfl
theorem napped_bare (x : GenState) : (napped x).bare = x.bare := by cases x <;> rfl
structure Nap (rl : Nat -> Option GenState) (v s : Shared) : Prop where
  hp : s.heap = v.heap
  dr : s.drawn = v.drawn
  tk : s.toks = v.toks
  os : s.os = v.os
  sz : s.gens.size = v.gens.size
  sl : ∀ i st, rl i = some st -> sleeps st = true
  at' : ∀ i st, rl i = some st -> s.gens[i]? = some st /\ v.gens[i]? = some (napped st)
  ot : ∀ i, rl i = none -> s.gens[i]? = v.gens[i]?
  ng : ∀ i k l c p fs cl, rl i = none -> v.gens[i]? = some (.suspended k l c p fs cl) -> fs.all isRet = true
section
variable {M : Model} {rl : Nat -> Option GenState} {v s v' : Shared} {Γ : PySem.Ctx} {p : Pos} {fs : List Frame} {e : End}
theorem Nap.heap (n : Nap rl v s) (h : Heap) : Nap rl { v with heap := h } { s with heap := h } := ⟨rfl, n.dr, n.tk, n.os, n.sz, n.sl, n.at', n.ot, n.ng⟩
theorem Nap.toks (n : Nap rl v s) (h : Nat) : Nap rl { v with toks := h } { s with toks := h } := ⟨n.hp, n.dr, rfl, n.os, n.sz, n.sl, n.at', n.ot, n.ng⟩
theorem Nap.drawn (n : Nap rl v s) (h : Drawn) : Nap rl { v with drawn := h } { s with drawn := h } := ⟨n.hp, rfl, n.tk, n.os, n.sz, n.sl, n.at', n.ot, n.ng⟩
theorem Nap.set (n : Nap rl v s) {g : Nat} {x : GenState} (hg : rl g = none) (hx : ∀ k l c p fs cl, x = .suspended k l c p fs cl -> fs.all isRet = true) : Nap rl (v.setGen g x) (s.setGen g x) := by
  have nx : ∀ i st, rl i = some st -> i ≠ g := fun i st h z => by rw [z, hg] at h; cases h
  have o : ∀ (u : Shared) i, i ≠ g -> (u.setGen g x).gens[i]? = u.gens[i]? := fun u i h => by
    show (u.gens.setIfInBounds g x)[i]? = _
    rw [Array.getElem?_setIfInBounds_ne (Ne.symm h)]
  have self : ∀ (u : Shared), g < u.gens.size -> (u.setGen g x).gens[g]? = some x := fun u h => by
    show (u.gens.setIfInBounds g x)[g]? = _
    simp [h]
  have out : ∀ (u : Shared), ¬ g < u.gens.size -> (u.setGen g x).gens[g]? = none := fun u h => by
    show (u.gens.setIfInBounds g x)[g]? = _
    rw [Array.getElem?_eq_none (by rw [Array.size_setIfInBounds]; omega)]
  refine ⟨n.hp, n.dr, n.tk, n.os, ?_, n.sl, fun i st h => ?_, fun i h => ?_, fun i k l c p fs cl h hv => ?_⟩
  · show (s.gens.setIfInBounds g x).size = (v.gens.setIfInBounds g x).size
    rw [Array.size_setIfInBounds, Array.size_setIfInBounds, n.sz]
  · rw [o _ _ (nx i st h), o _ _ (nx i st h)]
    exact n.at' i st h
  · by_cases z : i = g
    · subst z
      by_cases hb : i < v.gens.size
      · rw [self _ hb, self _ (by rw [n.sz]; exact hb)]
      · rw [out _ hb, out _ (by rw [n.sz]; exact hb)]
    · rw [o _ _ z, o _ _ z]
      exact n.ot i h
  · by_cases z : i = g
    · subst z
      by_cases hb : i < v.gens.size
      · rw [self _ hb] at hv
        exact hx k l c p fs cl (Option.some.inj hv)
      · rw [out _ hb] at hv; cases hv
    · rw [o _ _ z] at hv
      exact n.ng i k l c p fs cl h hv
theorem Nap.push (n : Nap rl v s) (c : Code) : Nap rl { v with gens := v.gens.push (.fresh c) } { s with gens := s.gens.push (.fresh c) } := by
  have lt : ∀ i st, rl i = some st -> i < v.gens.size := fun i st h => (Array.getElem?_eq_some_iff.mp (n.at' i st h).2).1
  have pu : ∀ (a : Array GenState) i, i < a.size -> (a.push (.fresh c))[i]? = a[i]? := fun a i h => by
    rw [Array.getElem?_push, if_neg (by omega)]
  refine ⟨n.hp, n.dr, n.tk, n.os, by show (s.gens.push _).size = (v.gens.push _).size; rw [Array.size_push, Array.size_push, n.sz], n.sl, fun i st h => ?_, fun i h => ?_, fun i k l c' p fs cl h hv => ?_⟩
  · show (s.gens.push _)[i]? = _ /\ (v.gens.push _)[i]? = _
    rw [pu _ _ (lt i st h), pu _ _ (by rw [n.sz]; exact lt i st h)]
    exact n.at' i st h
  · show (s.gens.push _)[i]? = (v.gens.push _)[i]?
    rw [Array.getElem?_push, Array.getElem?_push, n.sz, n.ot i h]
  · have hv : (v.gens.push (.fresh c))[i]? = some (.suspended k l c' p fs cl) := hv
    rw [Array.getElem?_push] at hv
    by_cases z : i = v.gens.size
    · rw [if_pos z] at hv
      have := Option.some.inj hv
      cases this
    · rw [if_neg z] at hv
      exact n.ng i k l c' p fs cl h hv
theorem Nap.awake (n : Nap rl v s) {g : Nat} {x : GenState} (h : v.gens[g]? = some x) (hx : sleeps x = false) : rl g = none := by
  cases e : rl g with
  | none => rfl
  | some st =>
    have := (n.at' g st e).2
    rw [h] at this
    have z := n.sl g st e
    rw [Option.some.inj this] at hx
    cases st <;> first | exact Bool.noConfusion (show false = true from z) | exact Bool.noConfusion (show true = false from hx)
theorem Nap.get (n : Nap rl v s) {g : Nat} {x : GenState} (h : v.gens[g]? = some x) (hx : sleeps x = false) : s.gens[g]? = some x := by
  rw [n.ot g (n.awake h hx)]; exact h
theorem Nap.look (n : Nap rl v s) {g : Nat} {x : GenState} (h : v.gens[g]? = some x) : ∃ x', s.gens[g]? = some x' /\ x'.seen = x.seen := by
  cases e : rl g with
  | none => exact ⟨x, by rw [n.ot g e]; exact h, rfl⟩
  | some st0 =>
    obtain ⟨a, b⟩ := n.at' g st0 e
    rw [h] at b
    exact ⟨st0, a, by rw [Option.some.inj b, napped_seen]⟩
end
theorem Nap.bare {rl : Nat -> Option GenState} {v s : Shared} (n : Nap rl v s) (h : AllBare v.gens) : AllBare s.gens := fun y hy => by
  obtain ⟨i, hi, e⟩ := Array.mem_iff_getElem.mp hy
  have e1 : s.gens[i]? = some y := by rw [Array.getElem?_eq_getElem hi, e]
  cases q : rl i with
  | none =>
    rw [n.ot i q] at e1
    exact h y (Array.mem_of_getElem? e1)
  | some st =>
    obtain ⟨a, b⟩ := n.at' i st q
    rw [e1] at a
    cases a
    have := h _ (Array.mem_of_getElem? b)
    rw [napped_bare] at this
    exact this
end L2
namespace L2
open PySem PySem.Spec PyProof.Rows
def Sg (M : Model) (A : Around) (Φ : End -> Shared -> Prop) (c : Code) (t : Sem PySem.Fin) (fs : List Frame) (s : Shared) : Prop :=
  ∀ (Γ : PySem.Ctx) (p : PySem.Pos), Γ.code = c -> Γ.Woken A -> ∃ e s', Runs M Γ p t fs s e s' /\ Φ e s'
section
variable {M : Model} {A : Around} {Φ Φ' : End -> Shared -> Prop} {c : Code} {fs : List Frame} {s : Shared}
theorem Sg.mono {t : Sem PySem.Fin} (h : Sg M A Φ c t fs s) (k : ∀ e s', Φ e s' -> Φ' e s') : Sg M A Φ' c t fs s := fun Γ p hc hΓ =>
  let ⟨e, s', r, q⟩ := h Γ p hc hΓ
  ⟨e, s', r, k e s' q⟩
end
section
variable {M : Model} {A : Around} {Φ : End -> Shared -> Prop} {c : Code} {fs : List Frame} {s : Shared} {env : PySem.Env} {K : Flow -> Sem PySem.Fin} {J : Value -> Sem PySem.Fin} {gd : Bool -> Bool} {lv : List Value -> List Value}
end
section
variable {prog : Program} {w : World} {A : Around} {Φ : End -> Shared -> Prop} {fs : List Frame} {s : Shared} {env : PySem.Env}
end
end L2
namespace L2
open PySem PySem.Spec PyProof.Rows GenW
def upTo (s : Shared) (n : Nat) : Shared := { s with heap := { s.heap with objs := s.heap.objs.extract 0 n } }
structure Gx where
  prog : Program
  w : World
  K : PySem.W.Frag
  mg : Str -> Option Value
  base : Heap
  N : List Str
  qual : Str
  scope : Scope
  f : Addr
  cd : Value
  A : Around
  outer : List PySem.Env
  n0 : Nat
  a : Addr
  go : Obj
  g : Nat
abbrev Gx.env (X : Gx) : PySem.Env := envOfC X.qual X.scope X.n0 X.f X.cd
def Gx.cx (X : Gx) (s : Shared) (H : Hp) : Cx where
  prog := X.prog
  w := X.w
  K := X.K
  mg := X.mg
  base := X.base
  A := X.A.deeper X.env
  N := X.N
  s_0 := s
  H_0 := H
  env := X.env
  outer := X.outer
  stack := X.env :: X.outer
  ex := []
  calm := true
  fn := fun _ => true
  pn := [(X.a, X.go)]
  xe := fun _ _ => False
structure Gx.Ok (X : Gx) : Prop where
  go : ∃ nm qn, X.go.cls = .type "generator" /\ X.go.data = .fields #[.int X.g 0, nm, qn] /\ X.go.slots = #[]
  young : X.n0 <= X.a
  frl : ∀ L ∈ frs X.outer, L < X.n0
  bsz : X.base.objs.size <= X.n0
structure Woke (X : Gx) (H : Hp) (s : Shared) (H' : Hp) (s' : Shared) : Prop where
  env : Env0 X.prog X.w X.K X.mg X.base X.A X.outer s' H'
  os : s'.os = s.os
  keep : ∀ b o, X.n0 <= b -> H b = none -> s.heap.get? b = some o -> s'.heap.get? b = some o /\ H' b = none
section
variable {X : Gx} {ip : List (Addr × Obj)} {σ : St} {H H' Hs : Hp} {s s' ss : Shared}
theorem Woke.size (k : Woke X H s H' s') {b : Nat} (hb : X.n0 <= b) {o : Obj} (hn : H b = none) (e : s.heap.get? b = some o) : X.n0 <= s'.heap.objs.size :=
  Nat.le_trans hb (Nat.le_of_lt (Heap.lt_size (k.keep b o hb hn e).1))
structure Moved (X : Gx) (Hs : Hp) (ss : Shared) (H : Hp) (s : Shared) : Prop where
  os : s.os = ss.os
  bare : AllBare s.gens
  hok : HOk X.prog X.w H s.heap
  lim : s.heap.NoLimit
  gen : s.heap.IsGen X.a X.g
  gn : H X.a = none
  un : Un (frs X.outer) ((List.range ss.heap.objs.size).filter fun b => decide (X.n0 <= b)) Hs H ss.heap s.heap
end
end L2
namespace L2
open PySem PySem.Spec PyProof.Rows GenW
def GP : Nat -> Type
  | 0 => Hp -> Prop
  | n + 1 => (V -> Hp -> (GP n -> Hp -> Prop) -> Prop) × (Hp -> Prop)
def GP.en : {n : Nat} -> GP n -> Hp -> Prop
  | 0, G => G
  | _ + 1, G => G.2
def GP.yl {n : Nat} (G : GP (n + 1)) : V -> Hp -> (GP n -> Hp -> Prop) -> Prop := G.1
def Phi (X : Gx) : (n : Nat) -> GP n -> Hp -> Shared -> End -> Shared -> Prop
  | 0, G, Hs, ss, .ret r, s' => (r = .ok (.ret .none) \/ r = .ok .next) /\ ∃ H', Moved X Hs ss H' s' /\ GP.en G H'
  | 0, _, _, _, .susp .., _ => False
  | _ + 1, G, Hs, ss, .ret r, s' => (r = .ok (.ret .none) \/ r = .ok .next) /\ ∃ H', Moved X Hs ss H' s' /\ GP.en G H'
  | n + 1, G, Hs, ss, .susp v g l k c p fs, s' => (End.susp v g l k c p fs).quiet = true /\ ∃ x H' fut, RelV x v /\ Moved X Hs ss H' s' /\ GP.yl G x H' fut /\
      ∀ s'' H'', Woke X H' s' H'' s'' -> ∀ G' : GP n, fut G' H'' -> Sg (model X.prog X.w) X.A (Phi X n G' H'' s'') c (k (.send .none)) fs s''
structure TEnds where
  nx : (n : Nat) -> GP n -> St -> Hp -> Prop
  rt : (n : Nat) -> GP n -> V -> Hp -> Prop
  bk : (n : Nat) -> GP n -> St -> Hp -> Prop := fun _ _ _ _ => False
  ct : (n : Nat) -> GP n -> St -> Hp -> Prop := fun _ _ _ _ => False
abbrev TGt := TEnds -> (n : Nat) -> GP n -> St -> Hp -> Prop
def TEnds.at (D : TEnds) (n : Nat) (G : GP n) : Ends := { nx := D.nx n G, rt := D.rt n G, bk := D.bk n G, ct := D.ct n G }
structure GCt (X : Gx) (c : Code) (fs : List Frame) (gd : Bool -> Bool) : Prop where
  over : X.A.over c fs = X.A.deeper X.env
  split : splitAtGen fs = none
  guard : fs.any Frame.guarded = false
  gd : gd false = false
def SPt (X : Gx) (ip : List (Addr × Obj)) (D : TEnds) (n : Nat) (G : GP n) (Hs : Hp) (ss : Shared) (f : Flow) (s : Shared) : Prop := SP (X.cx (upTo ss X.n0) Hs) ip (D.at n G) f s
def GKt (X : Gx) (ip : List (Addr × Obj)) (c : Code) (fs : List Frame) (K : Flow -> Sem PySem.Fin) (D : TEnds) : Prop :=
  ∀ (n : Nat) (G : GP n) (Hs : Hp) (ss s : Shared) (f : Flow), X.n0 <= ss.heap.objs.size -> SPt X ip D n G Hs ss f s -> Sg (model X.prog X.w) X.A (Phi X n G Hs ss) c (K f) fs s
structure GT (X : Gx) (st : Stmt) (t : TGt) : Prop where
  run : ∀ (ip : List (Addr × Obj)) (c : Code) (fs : List Frame) (K : Flow -> Sem PySem.Fin) (J : Value -> Sem PySem.Fin) (gd : Bool -> Bool) (lv : List Value -> List Value) (D : TEnds) (n : Nat) (G : GP n) (Hs : Hp) (ss s : Shared) (σ : St) (H : Hp),
    GCt X c fs gd -> GKt X ip c fs K D -> X.n0 <= ss.heap.objs.size -> (∀ p ∈ ip, X.n0 <= p.1) -> Inv (X.cx (upTo ss X.n0) Hs) ip σ H s -> t D n G σ H -> Sg (model X.prog X.w) X.A (Phi X n G Hs ss) c ((exec st X.env).wrap K J gd lv) fs s
structure GTs (X : Gx) (st : List Stmt) (t : TGt) : Prop where
  run : ∀ (ip : List (Addr × Obj)) (c : Code) (fs : List Frame) (K : Flow -> Sem PySem.Fin) (J : Value -> Sem PySem.Fin) (gd : Bool -> Bool) (lv : List Value -> List Value) (D : TEnds) (n : Nat) (G : GP n) (Hs : Hp) (ss s : Shared) (σ : St) (H : Hp),
    GCt X c fs gd -> GKt X ip c fs K D -> X.n0 <= ss.heap.objs.size -> (∀ p ∈ ip, X.n0 <= p.1) -> Inv (X.cx (upTo ss X.n0) Hs) ip σ H s -> t D n G σ H -> Sg (model X.prog X.w) X.A (Phi X n G Hs ss) c ((execs st X.env).wrap K J gd lv) fs s
section
variable {X : Gx} {st : Stmt} {rest : List Stmt}
end
end L2
namespace L2
open PySem PySem.Spec PyProof.Rows GenW
abbrev Fut := (n : Nat) -> GP n -> Hp -> Prop
def GMadeT (P : Program) (w : World) (K : PySem.W.Frag) (mg : Str -> Option Value) (base : Heap) (k : Nat) (outer : List PySem.Env) (H : Hp) (s : Shared) (fu : Fut) (u : Value) (s' : Shared) : Prop :=
  ∃ (Y : Gx) (c : Code), u = .ref Y.a /\ Y.prog = P /\ Y.w = w /\ Y.K = K /\ Y.mg = mg /\ Y.base = base /\ Y.outer = outer /\ Y.n0 = s.heap.objs.size /\ (∀ A, ({ Y with A := A } : Gx).Ok) /\ s'.heap.IsGen Y.a Y.g /\ s'.gens[Y.g]? = some (.fresh c) /\
    s'.os = s.os /\ AllBare s'.gens /\ s'.heap.NoLimit /\ (∀ b o, s.heap.get? b = some o -> s'.heap.get? b = some o) /\
    ∀ (A : Around) (n : Nat) (G : GP n) (H2 : Hp) (s2 : Shared), Room k A -> Woke { Y with A := A } H s' H2 s2 -> fu n G H2 -> Sg (model P w) A (Phi { Y with A := A } n G H2 s2) c ((model P w).den c) [] s2
structure GFnT (P : Program) (w : World) (K : PySem.W.Frag) (mg : Str -> Option Value) (base : Heap) (k : Nat) (f : Addr) (fd : FuncData) (ps : List Str) (fu : List V -> Fut) : Prop where
  run : ∀ (A : Around) (outer : List PySem.Env) (s : Shared) (H : Hp) (args : Args) (us : List Value) (vs : List V), vs.length = ps.length -> Room k A -> Env0 P w K mg base A outer s H -> BindsTo s fd args (ps.zip us) -> Vals vs us ->
    codeAny (model P w) A (.call (.ref f) args) (fun r s' => match r with | .ok (.ret u) => GMadeT P w K mg base k outer H s (fu vs) u s' | _ => False) s
end L2
namespace L2
open PySem PySem.Spec PyProof.Rows GenW
abbrev anyHO : HO := .ext fun _ => True
structure PlusF (H Hc : Hp) : Prop where
  old : ∀ b o, H b = some o -> Hc b = some o
  new : ∀ b o, H b = none -> Hc b = some o -> ∃ ob, o = .frz ob anyHO
section
variable {X : Cx} {pins : List (Addr × Obj)} {σ : St} {H Hc H' : Hp} {s : Shared} {n0 : Nat}
structure OldC (X : Cx) (pins : List (Addr × Obj)) (n0 : Nat) : Prop where
  loc : X.env.locals < n0
  cells : ∀ x c, X.env.cells.lookup x = some c -> c < n0
  pins : ∀ p ∈ X.pn ++ pins, p.1 < n0
  s0 : X.s_0.heap.objs.size <= n0
end
abbrev TGenT := St -> Hp -> (Fut -> Hp -> Prop) -> Prop
structure PGenT (X : Cx) (k : Nat) (e : Expr) (tg : TGenT) : Prop where
  run : ∀ (pins : List (Addr × Obj)) (s : Shared) (σ : St) (H : Hp) (R : Fut -> Hp -> Prop), Inv X pins σ H s -> tg σ H R ->
    wpAny (model X.prog X.w) X.A (eval e X.env) (fun u s' => ∃ fu H1 sc, Inv X pins σ H1 sc /\ GMadeT X.prog X.w X.K X.mg X.base k X.stack H1 sc fu u s' /\ R fu H1) X.xe s
end L2
namespace Py
open PySem L2 PyProof.Rows GenW
section
variable {T : Tbl} {W : Wd T}
def Drive {T : Tbl} (W : Wd T) : List D -> (n : Nat) -> GP n -> Hp -> Hp -> List Addr -> Prop
  | [], _, G, F, H, Lg => ∀ F' H', Post F H Lg F' H' -> GP.en G H'
  | _ :: _, 0, _, _, _, _ => False
  | y :: ys, n + 1, G, F, H, Lg => ∀ F' H' Lg' x (fut : GP n -> Hp -> Prop), Post F H Lg F' H' -> Shr W F' y x -> (∀ a ∈ Lg', F' a = none /\ (a ∈ Lg \/ H a = none) /\ ∃ o, H' a = some o) ->
      (∀ (G' : GP n) F2 H2, Same F' F2 -> Same F2 H2 -> (∀ a ∈ Lg', H2 a = H' a /\ F2 a = none) -> Drive W ys n G' F2 H2 Lg' -> fut G' H2) -> GP.yl G x H' fut
inductive RZ where
  | nx (ys : List D) (env : Py.Env) | bk (ys : List D) (env : Py.Env) | ct (ys : List D) (env : Py.Env) | no
def RZ.ys : RZ -> List D
  | .nx ys _ => ys
  | .bk ys _ => ys
  | .ct ys _ => ys
  | .no => []
def RZ.pre (ds : List D) : RZ -> RZ
  | .nx ys e => .nx (ds ++ ys) e
  | .bk ys e => .bk (ds ++ ys) e
  | .ct ys e => .ct (ds ++ ys) e
  | .no => .no
def RZ.then (r : RZ) (f : Py.Env -> RZ) : RZ := match r with
  | .nx ys e => (f e).pre ys
  | r => r
def GAt {T : Tbl} (W : Wd T) (Fb : Hp) (zs : List D) (env : Py.Env) (K : (n : Nat) -> GP n -> L2.St -> Hp -> Prop) : Prop :=
  ∀ (n : Nat) (G : GP n) (e : Ent) (F : Hp) (σ : L2.St) (H : Hp) (L : List Addr), e.pins = [] -> Same Fb F -> Rel W e env F σ H L -> Drive W zs n G e.F0 e.H0 e.L0 -> K n G σ H
structure SatZ {T : Tbl} (W : Wd T) (Fb : Hp) (zs : List D) (r : RZ) (Dn : TEnds) : Prop where
  nx : ∀ ys env, r = .nx ys env -> GAt W Fb zs env Dn.nx
  bk : ∀ ys env, r = .bk ys env -> GAt W Fb zs env Dn.bk
  ct : ∀ ys env, r = .ct ys env -> GAt W Fb zs env Dn.ct
def AZ {T : Tbl} (W : Wd T) (t : TGt) (env : Py.Env) (r : RZ) : Prop :=
  ∀ (Fb : Hp) (zs : List D) (Dn : TEnds), SatZ W Fb zs r Dn -> GAt W Fb (r.ys ++ zs) env (t Dn)
structure XZ {T : Tbl} (W : Wd T) where
  t : TGt
  ev : Py.Env -> RZ
  snd : ∀ env, ev env ≠ .no -> AZ W t env (ev env)
end
end Py
namespace Py
open PySem L2 PyProof.Rows GenW
section
variable {T : Tbl} {W : Wd T} {env : Py.Env} {E : WX}
structure XGn {T : Tbl} (W : Wd T) where
  t : TGenT
  ev : Py.Env -> Option (List D)
  snd : ∀ {env ys}, ev env = some ys -> ∀ (e : Ent) (F : Hp) (σ : L2.St) (H : Hp) (L : List Addr) (R : Fut -> Hp -> Prop), Rel W e env F σ H L ->
    (∀ F' H' fu, Ext F H F' H' -> (∀ m G, Drive W ys m G F' H' [] -> fu m G H') -> R fu H') -> t σ H R
theorem Rel.post {e : Ent} {F H F' H' : Hp} {σ : L2.St} {L Lg : List Addr} (r : Rel W e env F σ H L) (p : Post F H Lg F' H') (k : ∀ a ∈ Lg, (a ∈ e.L0 \/ e.H0 a = none) /\ a ∉ L) : Rel W e env F' σ H' L where
  sF := p.s
  slots := r.slots.frame p.f fun a m o q => p.h a o (fun z => (k a z).2 m) q
  nd := r.nd
  dj := fun a m => by
    obtain ⟨o, ho⟩ := r.slots.lives a m
    cases q : F' a with
    | none => rfl
    | some u =>
      rcases p.n a u q with z | z | z
      · rw [r.dj a m] at z; cases z
      · rw [ho] at z; cases z
      · exact absurd m (k a z).2
  s0 := r.s0.trans p.f
  nw := fun a o q => by
    rcases p.n a o q with z | z | z
    · exact r.nw a o z
    · exact (r.h0 z).elim (fun q => .inr (.inr q)) fun q => .inr (.inl q)
    · exact (k a z).1.elim (fun q => .inr (.inr q)) fun q => .inr (.inl q)
  fr := fun a o m q => p.h a o (fun z => (k a z).1.elim m fun z => by rw [q] at z; cases z) (r.fr a o m q)
  ln := r.ln
  pin := r.pin
section
variable {e : Ent} {F H Hc F3 H7 : Hp} {σ σ3 : L2.St} {L L3 : List Addr} {env3 : Py.Env}
end
end
structure GfD (P : Program) (w : World) (K : PySem.W.Frag) (mg : Str -> Option Value) (base : Heap) (k : Nat) (x qual : Str) (st : Stmt) (ps : List Str) (fu : List V -> Fut) : Prop where
  ex : ∃ f fd, GFnT P w K mg base k f fd ps fu /\ mg x = some (.ref f) /\ PySem.W.keepIn K (.ref f) = true /\ FunD K x qual (defArgs st) (defBody st) (defScope st) [] [] f fd
section
variable {P : Program} {w : World} {K : PySem.W.Frag} {mg : Str -> Option Value} {base : Heap}
end
section
variable {X : Cx} {k n : Nat} {x qual : Str} {st : Stmt} {ps ks : List Str} {fu : List V -> Fut} {p pos' : Pos}
end
end Py
namespace Py
open PySem L2 PyProof.Rows GenW
section
variable {T : Tbl} {W : Wd T} {env : Py.Env} {P : List Nat}
end
end Py
namespace L2
open PySem PySem.Spec PyProof.Rows
section
variable {X : Cx} {tg : Expr}
end
end L2
namespace Py
open PySem L2
section
variable {T : Tbl} {W : Wd T} {env : Py.Env}
end
end Py
namespace L2
open PySem PySem.Spec PyProof.Rows
section
variable {X : Cx} {e st : Expr} {te ts : TE} {p2 pos : Pos}
end
end L2
namespace Py
open PySem L2
section
variable {T : Tbl} {W : Wd T} {env : Py.Env}
end
end Py
namespace L2
open PySem PySem.Spec PyProof.Rows
section
variable {X : Cx}
end
end L2
namespace Py
open PySem L2
section
variable {T : Tbl} {W : Wd T} {env : Py.Env}
end
end Py
namespace Py
open PySem L2
section
variable {T : Tbl} {W : Wd T} {env : Py.Env}
end
end Py
namespace L2
open PySem PySem.Spec PyProof.Rows GenW
section
variable {M : Model} {A : Around} {Φ : End -> Shared -> Prop} {c : Code} {fs : List Frame} {s : Shared} {env : PySem.Env} {K : Flow -> Sem PySem.Fin} {J : Value -> Sem PySem.Fin} {gd : Bool -> Bool} {lv : List Value -> List Value}
end
section
variable {X : Gx}
end
end L2
namespace Py
open PySem L2
section
variable {T : Tbl} {W : Wd T} {env : Py.Env}
end
end Py
namespace L2
open PySem PySem.Spec PyProof.Rows GenW
section
variable {M : Model} {A : Around} {Φ : End -> Shared -> Prop} {c : Code} {fs : List Frame} {s : Shared} {env : PySem.Env} {K : Flow -> Sem PySem.Fin} {J : Value -> Sem PySem.Fin} {gd : Bool -> Bool} {lv : List Value -> List Value}
end
section
variable {prog : Program} {w : World} {A : Around} {Φ : End -> Shared -> Prop} {fs : List Frame} {s : Shared} {env : PySem.Env}
end
section
variable {X : Gx}
end
end L2
namespace Py
open PySem L2
section
variable {T : Tbl} {W : Wd T} {env : Py.Env}
end
end Py
namespace L2
open PySem PySem.Spec PyProof.Rows PySem.W
structure SpecIs (sp : PySem.Str) (w : Nat) (r : Bool) : Prop where
  ne : (sp.length == 0) = false
  asc : ((sp.cps.toList.drop 1).any (· ≥ 128) || (sp.cps.getD 0 0 ≥ 128 && !([60, 62, 61, 94] : List Nat).contains (sp.cps.getD 1 0))) = false
  ps : ∀ name, Builtin.Float.parseFormatSpec sp.cps.toList name 60 = .ok { align := if r = true then 62 else 60, width := some w }
  pi : Builtin.Float.parseFormatSpec sp.cps.toList "int" 62 = .ok { align := if r = true then 62 else 60, width := some w }
  bk : (sp.cps.back? == some 0) = false
  sz : sp.length <= sizeLine
  wd : w <= 1000
section
variable {X : Cx} {e st : Expr} {te ts : TE} {pos : Pos}
end
end L2
namespace Py
open PySem L2
section
end
section
variable {T : Tbl} {W : Wd T} {env : Py.Env}
structure XJ {T : Tbl} (W : Wd T) where
  ts : List TE
  ev : Py.Env -> Option String
  snd : ∀ {env y}, ev env = some y -> ∀ (acc : String) (e' : Ent) (F : Hp) (σ : St) (H : Hp) (L : List Addr) (Q : VK), acc.length + y.length <= 100000 -> Rel W e' env F σ H L -> (∀ F' H', Ext F H F' H' -> Q (.str (so (acc ++ y))) H') -> tJs ts (so acc) σ H (fun out H1 => Q (.str out) H1)
end
end Py
namespace Py
open PySem L2
section
variable {T : Tbl} {W : Wd T}
end
end Py
namespace Py
open PySem L2
def hasG (ks : List NestedKey) (k : NestedKey) : Bool := (pos k ks).isSome
section
variable {X : Cx}
theorem GOk.has {P : Program} {w : World} {h : Heap} {a : Addr} {ks : List NestedKey} {kas : List Addr} {vs : List V} {us : List Value} (g : GOk P w h a ks kas vs us) (k : NestedKey) : (atKey (ks.zip (kas.zip us)) k).isSome = hasG ks k := by
  unfold hasG
  cases hp : pos k ks with
  | none => rw [g.atKey_n hp]; rfl
  | some j =>
    obtain ⟨_, _, _, _, _, _, _, _, hat⟩ := g.atKey_s hp
    rw [hat]; rfl
end
section
variable {T : Tbl} {W : Wd T}
end
end Py
namespace Py
open PySem L2
section
variable {X : Cx} {e f : Expr} {pos' : Pos} {tk tv : TE}
end
section
variable {T : Tbl} {W : Wd T}
end
end Py
namespace Py
open PySem PySem.Spec PyProof.Rows L2
section
variable {prog : Program} {w : World} {A : Around} {E : Value -> Shared -> Prop} {s : Shared}
end
section
variable {T : Tbl} {W : Wd T} {env : Py.Env} {ta tb : TE} {ds es : List D}
end
end Py
namespace L2
open PySem PySem.Spec PyProof.Rows
section
variable {X : Cx} {n : Str} {i : Nat} {body : List Stmt} {pos : Pos} {tb : WX -> TS} {Wout : WX}
end
end L2
namespace Py
open PySem L2
section
variable {T : Tbl} {W : Wd T}
end
end Py
namespace Py
open PySem L2
section
variable {K : Type} [DecidableEq K]
end
def lkV : LK -> V
  | .non => .non
  | .bl b => .bl b
  | .num i => .int i
  | .txt x => .str (so x)
def lkD : LK -> D
  | .non => .non
  | .bl b => .bl b
  | .num i => .int i
  | .txt x => .str x
def LKey (m : Bool) (y : V) (k : LK) : Prop := ∀ u, RelV y u -> LK.is m k u = true
theorem lk_back {m : Bool} : ∀ {k : LK} {u : Value}, LK.is m k u = true -> RelV (lkV k) u
  | .non, u, e => by cases u <;> first | rfl | exact absurd e Bool.false_ne_true
  | .bl b, u, e => by
    cases u with
    | bool c =>
      have e' : (m && decide (c = b)) = true := e
      rw [Bool.and_eq_true, decide_eq_true_eq] at e'
      rw [e'.2]; rfl
    | _ => exact absurd e Bool.false_ne_true
  | .num i, u, e => by
    cases u with
    | int j t =>
      have e' : (decide (j = i) && (!m || (decide (i ≠ 0) && decide (i ≠ 1)))) = true := e
      rw [Bool.and_eq_true, decide_eq_true_eq] at e'
      rw [e'.1]; exact ⟨t, rfl⟩
    | _ => exact absurd e Bool.false_ne_true
  | .txt x, u, e => by
    obtain ⟨t, rfl⟩ := Value.isStrOf_shape (show Value.isStrOf (so x) u = true from e)
    exact ⟨t, rfl⟩
def keyL (m : Bool) : D -> Option LK
  | .non => some .non
  | .bl b => if m = true then some (.bl b) else none
  | .int i => if m = true then (if i = 0 \/ i = 1 then none else some (.num i)) else some (.num i)
  | .str x => some (.txt x)
  | _ => none
section
variable {T : Tbl} {W : Wd T}
theorem keyL_ok {m : Bool} {F : Hp} {d : D} {v : V} {k : LK} (h : Shr W F d v) (e : keyL m d = some k) : LKey m v k := by
  intro u ru
  cases h <;> first | (cases e; done) | skip
  · cases e; obtain rfl : u = Value.none := ru; rfl
  · rename_i b
    unfold keyL at e
    dsimp only at e
    obtain ⟨hm, e⟩ := ite_some e
    cases e
    obtain rfl : u = Value.bool b := ru
    subst hm
    show (true && decide (b = b)) = true
    simp
  · rename_i i
    obtain ⟨t, rfl⟩ := (show ∃ t, u = Value.int i t from ru)
    have go : ∀ k, (m = true -> i ≠ 0 /\ i ≠ 1) -> k = LK.num i -> LK.is m k (.int i t) = true := by
      rintro _ hm rfl
      show (decide (i = i) && (!m || (decide (i ≠ 0) && decide (i ≠ 1)))) = true
      cases m with
      | false => simp
      | true => obtain ⟨h1, h2⟩ := hm rfl; simp [h1, h2]
    unfold keyL at e
    dsimp only at e
    by_cases hm : m = true
    · rw [if_pos hm] at e
      by_cases hi : i = 0 \/ i = 1
      · rw [if_pos hi] at e; cases e
      · rw [if_neg hi] at e
        exact go k (fun _ => ⟨fun z => hi (.inl z), fun z => hi (.inr z)⟩) (by cases e; rfl)
    · rw [if_neg hm] at e
      exact go k (fun z => absurd z hm) (by cases e; rfl)
  · rename_i x
    cases e
    obtain ⟨t, rfl⟩ := (show ∃ t, u = Value.str (so x) t from ru)
    show Value.isStrOf (so x) (.str (so x) t) = true
    show (so x == so x) = true
    simp
theorem shr_lk {F : Hp} {k : LK} : Shr W F (lkD k) (lkV k) := by
  cases k
  · exact .non
  · exact .bl
  · exact .int
  · exact .str
abbrev LD (P : Program) (w : World) (m : Bool) (H : Hp) (a : Addr) (ep : Nat) (ks : List LK) (vs : List V) : Prop := H a = some (.ext (lfP P w m a ep ks vs))
theorem lf_new {P : Program} {w : World} {m : Bool} {H : Hp} {h : Heap} {a : Addr} {ep : Nat} {ks : List LK} {vs : List V} (g : lfP P w m a ep ks vs h) : ObjOk P w H h a (.ext (lfP P w m a ep ks vs)) := by
  have g0 := g
  obtain ⟨_, _, _, _, _, o, es, ho, _⟩ := g0
  refine ⟨g, ⟨o, ho⟩, fun h1 h2 p k => ?_⟩
  obtain ⟨ns, sz, us, rv, l, o, es, ho, r⟩ := p
  exact ⟨ns, sz, us, rv, l, o, es, k o ho, r⟩
theorem LD.ok {P : Program} {w : World} {m : Bool} {H : Hp} {h : Heap} {a : Addr} {ep : Nat} {ks : List LK} {vs : List V} (g : LD P w m H a ep ks vs) (ok : HOk P w H h) : lfP P w m a ep ks vs h := (ok _ _ g).1
end
section
variable {X : Cx} {pins : List (Addr × Obj)} {σ : St} {H : Hp} {s : Shared} {A : Around} {E : Value -> Shared -> Prop} {a : Addr} {m : Bool} {ep : Nat} {ks : List LK} {vs : List V} {k : LK} {y v : V} {u r : Value}
end
def Itlf (P : Program) (w : World) (m : Bool) (d : Addr) (ep : Nat) (ks : List LK) (vs : List V) : It :=
  ⟨fun i H => LD P w m H d ep ks vs /\ i < ks.length, fun i H x H' => H' = H /\ ∃ k, ks[i]? = some k /\ x = lkV k, fun i H => LD P w m H d ep ks vs /\ ks.length <= i⟩
theorem turn_lf {P : Program} {w : World} {K : PySem.W.Frag} {tg : Expr} {m : Bool} {d : Addr} {ep : Nat} {ks : List LK} {vs : List V} (it : Addr) : Turn P w K tg (Itlf P w m d ep ks vs) [it] it (fun i h => h.IsKeyIter it d i ks.length ep) where
  mem := by simp
  obj := fun i h st b hb => by
    have e : b = it := by simpa using hb
    subst e
    obtain ⟨oi, e, c, dd⟩ := st
    exact ⟨oi, e, fun v z => by rw [dd] at z; cases z⟩
  keep := fun i h h' st k => st.at fun oi e => k it (by simp) oi e
  item := by
    intro X hP hw hK hc i pins s σ H E I hf st hg
    subst hP hw hK
    obtain ⟨hd, hi⟩ := hg
    obtain ⟨f0, f1, f2, f3, f4, f5⟩ := hf it (by simp)
    obtain ⟨ns, sz, us, rvs, l, dd⟩ := LD.ok hd I.hok
    have hz : (ks.zip us).length = ks.length := by rw [List.length_zip, <- l, Nat.min_self]
    rw [<- hz] at st
    have h1 : ks[i]? = some ks[i] := List.getElem?_eq_getElem hi
    have h2 : us[i]? = some (us[i]'(by omega)) := List.getElem?_eq_getElem (by omega)
    have hx : (ks.zip us)[i]? = some (ks[i], us[i]'(by omega)) := List.getElem?_zip_eq_some.mpr ⟨h1, h2⟩
    refine wpAny_pyNext_dict_item st dd hx fun key h' hkey st' sb => ?_
    have I1 : Inv X pins σ H { s with heap := h' } := I.turned (t' := s.toks) (fun b ob hb e => (sb.2 b hb).trans e) f0 f1 f3 f4 f5
    obtain ⟨oi, e, c, dd'⟩ := id st'
    refine ⟨key, rfl, go_of (s := { s with heap := h' }) e c dd' (by decide) ⟨lkV ks[i], H, I1, lk_back (show LK.is m ks[i] key = true from hkey), ⟨rfl, ks[i], h1, rfl⟩, ?_, fun b hb => (hf b hb).1⟩⟩
    show h'.IsKeyIter it d (i + 1) ks.length _
    rw [<- hz]
    exact st'
  done := by
    intro X hP hw hK hc i pins s σ H E I hf st hg
    subst hP hw hK
    obtain ⟨hd, hi⟩ := hg
    obtain ⟨f0, f1, f2, f3, f4, f5⟩ := hf it (by simp)
    obtain ⟨ns, sz, us, rvs, l, dd⟩ := LD.ok hd I.hok
    obtain ⟨od, es, hod, hcd, hdd, hk, hp, hn⟩ := dd
    have hz : es.size = ks.length := by
      have := hp.length
      rw [List.length_zip, <- l, Nat.min_self] at this
      simpa using this
    exact next_key_end (I.ok.hd hc) st hod hdd hz hi fun h' eb => ⟨rfl, I.turned (t' := s.toks) (fun b ob hb e => eb b ob hb e) f0 f1 f3 f4 f5⟩
  self := fun A i s Q E st h => wpAny_pyIter_keyiter st h
def iLf (P : Program) (w : World) (td : TE) : TI := fun σ H R => td σ H fun x H1 => ∃ m d ep ks vs, x = .ref d /\ LD P w m H1 d ep ks vs /\ R (Itlf P w m d ep ks vs) H1
theorem pi_lf {X : Cx} {tg e : Expr} {td : TE} (he : PE X e td) : PI X tg e (iLf X.prog X.w td) := by
  refine ⟨fun pins s σ H R I h => ?_⟩
  refine thn (he.run pins s σ H _ I h) fun u s1 ⟨x, H1, I1, rx, m, d, ep, ks, vs, ex, g, q⟩ => ?_
  subst ex
  obtain rfl : u = Value.ref d := rx
  obtain ⟨ns, sz, us, rvs, l, dd⟩ := g.ok I1.hok
  obtain ⟨od, es, hod, hcd, hdd, hk, hp, hn⟩ := dd
  have hz : es.size = ks.length := by
    have := hp.length
    rw [List.length_zip, <- l, Nat.min_self] at this
    simpa using this
  refine iter_keys ns hod hcd hdd (pi_one (tk := s1.toks) I1 _ (turn_lf _) ⟨_, Heap.get?_push_size _ rfl, rfl, ?_⟩ q)
  rw [hz] <;> rfl
section
variable {X : Cx} {o e f i : Expr} {apos cpos pos' : Pos} {td ty tx to : TE}
end
def dicL : D -> Option (Bool × List LK × List D)
  | .dlf m ks xs => some (m, ks, xs)
  | .olf m ks xs => some (m, ks, xs)
  | _ => none
section
variable {T : Tbl} {W : Wd T} {env : Py.Env} {d : D}
theorem dicL_ok {F H : Hp} {v : V} {L : List Addr} {m : Bool} {ks : List LK} {xs : List D} (s : Same F H) (o : Own W F H d v L) (h : dicL d = some (m, ks, xs)) : ∃ a ep vs M, v = .ref a /\ LD W.P W.w m H a ep ks vs /\ ks.length = vs.length /\ ks.Nodup /\ Owns W F H xs vs M := by
  cases o with
  | sh y =>
    cases y <;> first | (cases h; done) | skip
    cases h
    exact ⟨_, _, _, _, rfl, s _ _ (by assumption), by assumption, by assumption, Shrs.owns (by assumption)⟩
  | olf ha hl hn hs => cases h; exact ⟨_, _, _, _, rfl, ha, hl, hn, hs⟩
  | olst => cases h
  | odic => cases h
  | odit => cases h
  | odig => cases h
  | oxt => cases h
  | otup => cases h
  | oins => cases h
theorem seqP_lf {F0 H0 : Hp} {m : Bool} {a : Addr} {ep : Nat} {ks : List LK} {vs : List V} (h : LD W.P W.w m H0 a ep ks vs) : SeqP W (Itlf W.P W.w m a ep ks vs) (ks.map lkD) F0 H0 where
  go := fun i d F H s1 s0 s2 hd => by
    rw [List.getElem?_map] at hd
    obtain ⟨k, hk, rfl⟩ := Option.map_eq_some_iff.mp hd
    refine ⟨⟨s0 _ _ h, (List.getElem?_eq_some_iff.mp hk).1⟩, fun x H' y => ?_⟩
    obtain ⟨rfl, k', hk', rfl⟩ := y
    rw [hk] at hk'
    cases hk'
    exact ⟨F, .refl s2, shr_lk⟩
  stop := fun F H s1 s0 s2 => ⟨s0 _ _ h, by rw [List.length_map]; exact Nat.le_refl _⟩
theorem seq_lf {F0 : Hp} {m : Bool} {a : Addr} {ep : Nat} {ks : List LK} {vs : List V} (h : LD W.P W.w m F0 a ep ks vs) : Seq W (Itlf W.P W.w m a ep ks vs) (ks.map lkD) F0 where
  go := fun i d F H s1 s2 hd => (seqP_lf (H0 := F0) (F0 := F0) h).go i d F H s1 (s1.trans s2) s2 hd
  stop := fun F H s1 s2 => (seqP_lf (H0 := F0) (F0 := F0) h).stop F H s1 (s1.trans s2) s2
def ksL (d : D) : Option (List D) := (dicL d).map fun q => q.2.1.map lkD
def xiLf (a : XP W) : XI W where
  t := iLf W.P W.w a.t
  evF env := (a.evF env).bind fun d => guardB (isSh d) (ksL d)
  evP env := (a.evK env).bind ksL
  sF := fun {env ds} e => by
    obtain ⟨d, e1, e⟩ := Option.bind_eq_some_iff.mp e
    obtain ⟨hg, e⟩ := guardB_some e
    obtain ⟨⟨m, ks, xs⟩, e2, rfl⟩ := Option.map_eq_some_iff.mp e
    refine fun e' F σ H L R r q => a.sF e1 e' F σ H L _ r fun v F1 H1 x1 y1 => ?_
    obtain ⟨da, ep, vs, M1, rfl, g, hl, hn, os⟩ := dicL_ok (H := F1) (Same.refl F1) (.sh y1) e2
    exact ⟨m, da, ep, ks, vs, rfl, x1.s _ _ g, q _ F1 H1 x1 (seq_lf g)⟩
  sP := fun {env ds} e => by
    obtain ⟨d, e1, e⟩ := Option.bind_eq_some_iff.mp e
    obtain ⟨⟨m, ks, xs⟩, e2, rfl⟩ := Option.map_eq_some_iff.mp e
    refine fun e' F σ H L R r q => a.sK e1 e' F σ H L _ r fun v F1 H1 x1 ⟨M, o⟩ => ?_
    obtain ⟨da, ep, vs, M1, rfl, g, hl, hn, os⟩ := dicL_ok x1.s o e2
    exact ⟨m, da, ep, ks, vs, rfl, g, q _ F1 H1 x1 (seqP_lf g)⟩
theorem h_xiLfF {a : XP W} {env} : (xiLf a).evF env = (a.evF env).bind fun d => guardB (isSh d) (ksL d) := rfl
end
end Py
namespace L2
open PySem PySem.Spec PyProof.Rows
section
variable {X : Cx}
end
end L2
namespace Py
open PySem L2 PyProof.Rows
section
variable {T : Tbl} {W : Wd T} {env : Py.Env}
end
end Py
namespace L2
open PySem PySem.Spec PyProof.Rows
section
variable {P : Program} {w : World} {A : Around} {E : Value -> Shared -> Prop} {s : Shared} {d : Addr}
theorem no_places {es : Array DictEntry} {h : Int} (hno : ∀ e ∈ es.toList, e.hash ≠ h) : placesWithHash es.size (fun i => es[i]?.map (·.hash)) h = [] := by
  unfold placesWithHash
  rw [List.filter_eq_nil_iff]
  intro i hi e
  rw [List.mem_range] at hi
  dsimp only at e
  rw [Array.getElem?_eq_getElem hi] at e
  have e' : (es[i]'hi).hash = h := by simpa using e
  exact hno _ (Array.getElem_mem_toList hi) e'
theorem find_int {o : Obj} {es : Array DictEntry} {ep : Nat} {i : Int} {t : Tok} {h : Int} {Q : Option Nat -> Shared -> Prop} (ho : s.heap.get? d = some o) (hd : o.data = .dict es ep)
    (hno : ∀ e ∈ es.toList, e.hash ≠ h) (q : Q none s) : wpAny (model P w) A (dictFind d (.int i t) h) Q E s := by
  unfold dictFind
  refine wpAny_holding ?_
  refine wpAny_bind (wpAny_dictEntries ho hd ?_)
  dsimp only
  rw [no_places hno]
  rw [if_pos (by simp [carriedByValue])]
  unfold dictWalkPlain
  rw [List.forIn_nil]
  exact wpAny_bind (wpAny_pure (wpAny_pure q))
theorem find_ref {o : Obj} {es : Array DictEntry} {ep : Nat} {a : Addr} {h : Int} {Q : Option Nat -> Shared -> Prop} (ho : s.heap.get? d = some o) (hd : o.data = .dict es ep)
    (hno : ∀ e ∈ es.toList, e.hash ≠ h) (hk : ∀ e ∈ es.toList, e.key ≠ .ref a) (q : Q none s) : wpAny (model P w) A (dictFind d (.ref a) h) Q E s := by
  unfold dictFind
  refine wpAny_holding ?_
  refine wpAny_bind (wpAny_dictEntries ho hd ?_)
  dsimp only
  rw [no_places hno]
  rw [if_neg (by simp [carriedByValue])]
  rw [if_neg (by
    rw [<- Array.any_toList, List.any_eq_true]
    rintro ⟨e, hin, hc⟩
    simp only [Bool.and_eq_true, beq_iff_eq] at hc
    exact hk e hin hc.1)]
  rw [if_neg (by simp)]
  refine wpAny_bind ?_
  unfold tableMayTell
  rw [if_pos (by simp)]
  refine wpAny_pure ?_
  rw [if_neg (by simp)]
  rw [List.forIn_nil]
  refine wpAny_bind (wpAny_pure ?_)
  exact wpAny_pure q
theorem set_new {o : Obj} {es : Array DictEntry} {ep : Nat} {key v : Value} {h : Int} {n : Nat} {Q : Unit -> Shared -> Prop} (ho : s.heap.get? d = some o) (hx : o.ExactDict) (hd : o.data = .dict es ep) (hz : es.size <= 10)
    (hash : ∀ {Q' : Int -> Shared -> Prop}, Q' h { s with toks := s.toks + n } -> wpAny (model P w) A (pyHash key) Q' E s)
    (find : ∀ {Q' : Option Nat -> Shared -> Prop} {s' : Shared}, s'.heap = s.heap -> Q' none s' -> wpAny (model P w) A (dictFind d key h) Q' E s')
    (q : ∀ h' tk o', h'.get? d = some o' -> o'.ExactDict -> o'.data = .dict (es.push ⟨h, key, v⟩) (ep + 1) -> Heap.SameBut d s.heap h' -> Q () { s with heap := h', toks := tk }) : wpAny (model P w) A (dictSet d key v) Q E s := by
  unfold dictSet
  refine wpAny_holding ?_
  refine wpAny_bind (hash ?_)
  unfold dictSetHashed
  refine wpAny_holding ?_
  refine wpAny_bind (find rfl ?_)
  refine wpAny_bind (wpAny_rule (wpAny_updateDictKeys (hz := by rw [sizeLine_eq]; omega) (s := { s with toks := s.toks + n }) ho hd (q _ _ _ (Heap.get?_update_self _ ho (Obj.isFreed_of_dict (Obj.data_mapDictKeys hd _))) (hx.mapDictKeys _) (Obj.data_mapDictKeys hd _) (Heap.SameBut.update ..))))
theorem th_a0 : hashInt (-5) ≠ reduceHash (Builtin.Tuple.tupleHashOf [hashInt 1]) := by decide +kernel
theorem th_b0 : hashInt 5 ≠ reduceHash (Builtin.Tuple.tupleHashOf [hashInt 1]) := by decide +kernel
theorem th_a {P : Program} {w : World} : hashInt (-5) ≠ tupleKeyHash (intKind P w) [1] := th_a0
theorem th_b {P : Program} {w : World} : hashInt 5 ≠ tupleKeyHash (intKind P w) [1] := th_b0
theorem th_c : hashInt (-5) ≠ hashInt 5 := by decide +kernel
end
end L2
namespace Py
open PySem L2
def rwP : XPred := fun P w ep a kvs _ h => (a == sysModules) = false /\ ∃ o es kus, h.get? a = some o /\ o.ExactDict /\ o.data = .dict es ep /\ es.toList.map (·.key) = kus /\ Vals kvs kus
abbrev RD (P : Program) (w : World) (H : Hp) (a : Addr) (ep : Nat) (kvs vs : List V) : Prop := H a = some (.ext (rwP P w ep a kvs vs))
theorem rw_new {P : Program} {w : World} {H : Hp} {h : Heap} {a : Addr} {ep : Nat} {kvs vs : List V} (g : rwP P w ep a kvs vs h) : ObjOk P w H h a (.ext (rwP P w ep a kvs vs)) := by
  have g0 := g
  obtain ⟨_, o, es, kus, ho, _⟩ := g0
  refine ⟨g, ⟨o, ho⟩, fun h1 h2 p k => ?_⟩
  obtain ⟨ns, o, es, kus, ho, r⟩ := p
  exact ⟨ns, o, es, kus, k o ho, r⟩
theorem RD.ok {P : Program} {w : World} {H : Hp} {h : Heap} {a : Addr} {ep : Nat} {kvs vs : List V} (g : RD P w H a ep kvs vs) (ok : HOk P w H h) : rwP P w ep a kvs vs h := (ok _ _ g).1
def Itrw (P : Program) (w : World) (d : Addr) (ep : Nat) (kvs vs : List V) : It :=
  ⟨fun i H => RD P w H d ep kvs vs /\ i < kvs.length, fun i H x H' => H' = H /\ kvs[i]? = some x, fun i H => RD P w H d ep kvs vs /\ kvs.length <= i⟩
theorem turn_rw {P : Program} {w : World} {K : PySem.W.Frag} {tg : Expr} {d : Addr} {ep : Nat} {kvs vs : List V} (it : Addr) : Turn P w K tg (Itrw P w d ep kvs vs) [it] it (fun i h => h.IsKeyIter it d i kvs.length ep) where
  mem := by simp
  obj := fun i h st b hb => by
    have e : b = it := by simpa using hb
    subst e
    obtain ⟨oi, e, c, dd⟩ := st
    exact ⟨oi, e, fun v z => by rw [dd] at z; cases z⟩
  keep := fun i h h' st k => st.at fun oi e => k it (by simp) oi e
  item := by
    intro X hP hw hK hc i pins s σ H E I hf st hg
    subst hP hw hK
    obtain ⟨hd, hi⟩ := hg
    obtain ⟨f0, f1, f2, f3, f4, f5⟩ := hf it (by simp)
    obtain ⟨ns, o, es, kus, ho, hx, hdt, hk, hv⟩ := RD.ok hd I.hok
    have h1 : kvs[i]? = some kvs[i] := List.getElem?_eq_getElem hi
    obtain ⟨u, hu, ru⟩ := hv.get h1
    have hl := hv.length
    have hz : es.size = kvs.length := by rw [hl, <- hk]; simp
    rw [<- hk, List.getElem?_map] at hu
    obtain ⟨en, he, rfl⟩ := Option.map_eq_some_iff.mp hu
    have he' : es[i]? = some en := by rw [<- Array.getElem?_toList]; exact he
    refine next_key_item st ho hdt hz he' fun h' st' sb => ?_
    have I1 : Inv X pins σ H { s with heap := h' } := I.turned (t' := s.toks) (fun b ob hb e => (sb.2 b hb).trans e) f0 f1 f3 f4 f5
    obtain ⟨oi, e, c, dd'⟩ := id st'
    exact ⟨en.key, rfl, go_of (s := { s with heap := h' }) e c dd' (by decide) ⟨kvs[i], H, I1, ru, ⟨rfl, h1⟩, st', fun b hb => (hf b hb).1⟩⟩
  done := by
    intro X hP hw hK hc i pins s σ H E I hf st hg
    subst hP hw hK
    obtain ⟨hd, hi⟩ := hg
    obtain ⟨f0, f1, f2, f3, f4, f5⟩ := hf it (by simp)
    obtain ⟨ns, o, es, kus, ho, hx, hdt, hk, hv⟩ := RD.ok hd I.hok
    have hz : es.size = kvs.length := by rw [hv.length, <- hk]; simp
    exact next_key_end (I.ok.hd hc) st ho hdt hz hi fun h' eb => ⟨rfl, I.turned (t' := s.toks) (fun b ob hb e => eb b ob hb e) f0 f1 f3 f4 f5⟩
  self := fun A i s Q E st h => wpAny_pyIter_keyiter st h
def iRw (P : Program) (w : World) (td : TE) : TI := fun σ H R => td σ H fun x H1 => ∃ d ep kvs vs, x = .ref d /\ RD P w H1 d ep kvs vs /\ R (Itrw P w d ep kvs vs) H1
theorem pi_rw {X : Cx} {tg e : Expr} {td : TE} (he : PE X e td) : PI X tg e (iRw X.prog X.w td) := by
  refine ⟨fun pins s σ H R I h => ?_⟩
  refine thn (he.run pins s σ H _ I h) fun u s1 ⟨x, H1, I1, rx, d, ep, kvs, vs, ex, g, q⟩ => ?_
  subst ex
  obtain rfl : u = Value.ref d := rx
  obtain ⟨ns, o, es, kus, ho, hx, hdt, hk, hv⟩ := g.ok I1.hok
  have hz : es.size = kvs.length := by rw [hv.length, <- hk]; simp
  refine iter_keys ns ho hx hdt (pi_one (tk := s1.toks) I1 _ (turn_rw _) ⟨_, Heap.get?_push_size _ rfl, rfl, ?_⟩ q)
  rw [hz] <;> rfl
def Disp3 (K : PySem.W.Frag) (P : Program) (w : World) (p : Addr) (x1 y1 x2 y2 x3 y3 : V) (H : Hp) (Q : VK) : Prop :=
  (∃ m k1 k2 k3, LKey m x1 k1 /\ LKey m x2 k2 /\ LKey m x3 k3 /\ [k1, k2, k3].Nodup /\ ∀ ep, Q (.ref p) (upd H p (.ext (lfP P w m p ep [k1, k2, k3] [y1, y2, y3])))) \/
  (∃ t, x1 = .int (-5) /\ x2 = .ref t /\ SqT K H t [.int 1] /\ x3 = .int 5 /\ ∀ ep, Q (.ref p) (upd H p (.ext (rwP P w ep p [x1, x2, x3] [y1, y2, y3]))))
def tDisp3 (K : PySem.W.Frag) (P : Program) (w : World) (t1 u1 t2 u2 t3 u3 : TE) : TE := fun σ H Q => ∀ p, H p = none -> t1 σ (upd H p (.ext (lfP P w false p 0 [] []))) fun x1 H1 => u1 σ H1 fun y1 H2 => t2 σ H2 fun x2 H3 => u2 σ H3 fun y2 H4 => t3 σ H4 fun x3 H5 => u3 σ H5 fun y3 H6 =>
  H6 p = some (.ext (lfP P w false p 0 [] [])) /\ Disp3 K P w p x1 y1 x2 y2 x3 y3 H6 Q
section
variable {X : Cx} {e1 f1 e2 f2 e3 f3 : Expr} {pos' : Pos} {t1 u1 t2 u2 t3 u3 : TE}
theorem pe_disp3 (hu : X.A.units + 65 < cLine) (h1 : PE X e1 t1) (g1 : PE X f1 u1) (h2 : PE X e2 t2) (g2 : PE X f2 u2) (h3 : PE X e3 t3) (g3 : PE X f3 u3) :
    PE X (.Dict [some e1, some e2, some e3] [f1, f2, f3] pos') (tDisp3 X.K X.prog X.w t1 u1 t2 u2 t3 u3) := by
  refine ⟨fun pins s σ H Q I q => ?_⟩
  have hn := I.hok.fresh (Nat.le_refl s.heap.objs.size)
  have ns : (s.heap.objs.size == sysModules) = false := beq_eq_false_iff_ne.mpr (Ne.symm (Nat.ne_of_lt I.big))
  have I1 := I.laid (a := s.heap.objs.size) (o := .ext (lfP X.prog X.w false s.heap.objs.size 0 [] [])) (h' := s.heap.push { cls := .type "dict", data := .dict #[] }) (t' := s.toks) (fun _ _ q => Heap.get?_push_of_some _ q) (Nat.le_refl _)
    (lf_new ⟨ns, Nat.zero_le _, [], .nil, rfl, ⟨_, #[], Heap.get?_push_size _ rfl, ⟨rfl, rfl, rfl⟩, rfl, fun _ he => by simp at he, Pairs.nil, List.nodup_nil⟩⟩)
  rw [arm_eval_Dict, zip_pairTrees [some e1, some e2, some e3] [f1, f2, f3] X.env pos' rfl rfl, dictDisplay_pairs _ (by simp [pairTrees]) (by simp [pairTrees])]
  refine wpAny_bind (wpAny_standAt (wpAny_bind ?_))
  unfold subDict
  refine wpAny_bind (wpAny_alloc ?_)
  refine wpAny_bind (wpAny_holding ?_)
  rw [if_pos (by simp [pairTrees])]
  generalize hp : s.heap.objs.size = p at *
  refine wpAny_bind (pairTrees_cons_walk (thn (h1.run pins _ σ _ _ I1 (q _ hn)) fun k1 s1 ⟨x1, H1, J1, r1, q1⟩ => thn (g1.run pins s1 σ H1 _ J1 q1) fun v1 s2 ⟨y1, H2, J2, w1, q2⟩ =>
    pairTrees_cons_walk (thn (h2.run pins s2 σ H2 _ J2 q2) fun k2 s3 ⟨x2, H3, J3, r2, q3⟩ => thn (g2.run pins s3 σ H3 _ J3 q3) fun v2 s4 ⟨y2, H4, J4, w2, q4⟩ =>
    pairTrees_cons_walk (thn (h3.run pins s4 σ H4 _ J4 q4) fun k3 s5 ⟨x3, H5, J5, r3, q5⟩ => thn (g3.run pins s5 σ H5 _ J5 q5) fun v3 s6 ⟨y3, H6, J6, w3, e6, q6⟩ => pairTrees_nil_walk ?_))))
  refine wpAny_holding ?_
  obtain ⟨_, _, us0, rv0, _, o, es, ho, hx, hd, _, hp0, _⟩ := LD.ok e6 J6.hok
  cases rv0
  have hes : es = #[] := by
    have := hp0.length
    simp at this
    exact Array.eq_empty_of_size_eq_zero (by simpa using this)
  subst hes
  rcases q6 with ⟨m, c1, c2, c3, l1, l2, l3, nd, q7⟩ | ⟨t, rfl, rfl, hT, rfl, q7⟩
  · have hm : s6.heap.DictOf (lfK X.prog X.w m) p [] := ⟨o, #[], 0, ho, hx, hd, fun _ he => by simp at he, Pairs.nil, List.nodup_nil⟩
    refine wpAny_bind (wpAny_storeAll (knd := lfK X.prog X.w m) [(k1, v1), (k2, v2), (k3, v3)] [(c1, v1), (c2, v2), (c3, v3)] [] s6 _ ⟨l1 _ r1, rfl, l2 _ r2, rfl, l3 _ r3, rfl, True.intro⟩ hm (by rw [sizeLine_eq]; simp) fun h' dd hs => ?_)
    refine wpAny_pure (wpAny_pure ?_)
    rw [merged_nil_of_nodup _ (by simpa using nd)] at dd
    obtain ⟨ep, da⟩ := dd.dictAt
    have he : ∃ q, h'.get? p = some q := let ⟨q, _, hq, _⟩ := da; ⟨q, hq⟩
    exact wpAny_pure ⟨.ref p, _, d_write J6 (by rw [e6]; exact True.intro) hs he (lf_new (m := m) (ep := ep) (ks := [c1, c2, c3]) (vs := [y1, y2, y3]) ⟨ns, by rw [sizeLine_eq]; simp, [v1, v2, v3], .cons w1 (.cons w2 (.cons w3 .nil)), rfl, da⟩), rfl, q7 ep⟩
  · obtain ⟨tk1, rfl⟩ := r1
    cases r2
    obtain ⟨tk3, rfl⟩ := r3
    have hT0 : IsT X.prog X.w s6.heap [1] t := J6.isT (k := [1]) hT
    have yp : ∀ {ee : DictEntry} {l : List DictEntry}, ee ∈ (#[] : Array DictEntry).toList -> ee ∈ l := fun h => by simp at h
    rw [List.forIn_cons]
    dsimp only
    refine wpAny_bind (wpAny_bind (wpAny_bind (set_new (h := hashInt (-5)) (n := 1) ho hx hd (by simp) (fun q => wpAny_pyHash_int q) (fun {Q' s'} e q => find_int (o := o) (es := #[]) (ep := 0) (by rw [e]; exact ho) hd (fun ee he => by simp at he) q) fun h1 tk1' o1 ho1 hx1 hd1 sb1 => wpAny_pure ?_)))
    dsimp only
    rw [List.forIn_cons]
    have hT1 : IsT X.prog X.w h1 [1] t := (tupleKind (intKind X.prog X.w)).keeps hT0 ho hd sb1
    have lu : X.A.units < cLine := by omega
    dsimp only
    refine wpAny_bind (wpAny_bind (set_new (s := { s6 with heap := h1, toks := tk1' }) (h := thash X.prog X.w [1]) (n := 2) ho1 hx1 hd1 (by simp) (fun q => wpAny_pyHash_tuple lu hT1 q) (fun {Q' s'} e q => find_ref (o := o1) (by rw [e]; exact ho1) hd1 (fun ee he => ?_) (fun ee he => ?_) q) fun h2 tk2' o2 ho2 hx2 hd2 sb2 => wpAny_pure ?_))
    · simp at he
      rw [he]
      exact th_a
    · simp at he
      rw [he]
      simp
    dsimp only
    rw [List.forIn_cons]
    dsimp only
    refine wpAny_bind (wpAny_bind (set_new (s := { s6 with heap := h2, toks := tk2' }) (h := hashInt 5) (n := 1) ho2 hx2 hd2 (by simp) (fun q => wpAny_pyHash_int q) (fun {Q' s'} e q => find_int (o := o2) (by rw [e]; exact ho2) hd2 (fun ee he => ?_) q) fun h3 tk3' o3 ho3 hx3 hd3 sb3 => wpAny_pure ?_))
    · simp at he
      rcases he with he | he
      · rw [he]; exact th_c
      · rw [he]; exact fun e => th_b e.symm
    dsimp only
    rw [List.forIn_nil]
    refine wpAny_pure (wpAny_pure (wpAny_pure ?_))
    have sb : Heap.SameBut p s6.heap h3 := (sb1.trans sb2).trans sb3
    exact wpAny_pure ⟨.ref p, _, d_write (t' := tk3') J6 (by rw [e6]; exact True.intro) sb ⟨_, ho3⟩ (rw_new (ep := 0 + 1 + 1 + 1) (vs := [y1, y2, y3]) ⟨ns, o3, _, _, ho3, hx3, hd3, rfl, by
      simp only [Array.toList_push, List.map_append, List.map_cons, List.map_nil, List.nil_append, List.cons_append]
      exact .cons ⟨_, rfl⟩ (.cons rfl (.cons ⟨_, rfl⟩ .nil))⟩), rfl, q7 _⟩
end
section
variable {T : Tbl} {W : Wd T} {env : Py.Env} {d : D}
open Classical in
noncomputable def ksR : D -> Option (List D)
  | .xt _ φ ks _ => if φ = rwP then some ks else none
  | _ => none
theorem h_ksR {t : String} {ks xs : List D} : ksR (.xt t rwP ks xs) = some ks := by
  unfold ksR; exact if_pos rfl
theorem ksR_ok {F : Hp} {v : V} {ks : List D} (h : Shr W F d v) (e : ksR d = some ks) : ∃ a ep kvs vs, v = .ref a /\ RD W.P W.w F a ep kvs vs /\ Shrs W F ks kvs := by
  cases h <;> first | (cases e; done) | skip
  rename_i ha hk hs
  unfold ksR at e
  dsimp only at e
  split at e
  · rename_i e1
    cases e
    rw [e1] at ha
    exact ⟨_, _, _, _, rfl, ha, hk⟩
  · cases e
theorem seq_rw {F0 : Hp} {a : Addr} {ep : Nat} {kvs vs : List V} {ks : List D} (h : RD W.P W.w F0 a ep kvs vs) (hk : Shrs W F0 ks kvs) : Seq W (Itrw W.P W.w a ep kvs vs) ks F0 where
  go := fun i d F H s1 s2 hd => by
    obtain ⟨v, hv, sv⟩ := hk.get hd
    refine ⟨⟨s2 _ _ (s1 _ _ h), (List.getElem?_eq_some_iff.mp hv).1⟩, fun x H' y => ?_⟩
    obtain ⟨rfl, hx⟩ := y
    rw [hv] at hx
    cases hx
    exact ⟨F, .refl s2, sv.mono s1⟩
  stop := fun F H s1 s2 => ⟨s2 _ _ (s1 _ _ h), by rw [<- hk.length]; exact Nat.le_refl _⟩
noncomputable def xiRw (a : XP W) : XI W where
  t := iRw W.P W.w a.t
  evF env := (a.evF env).bind ksR
  evP env := (a.evF env).bind ksR
  sF := fun {env ds} e => by
    obtain ⟨d, e1, e⟩ := Option.bind_eq_some_iff.mp e
    refine fun e' F σ H L R r q => a.sF e1 e' F σ H L _ r fun v F1 H1 x1 y1 => ?_
    obtain ⟨da, ep, kvs, vs, rfl, g, hk⟩ := ksR_ok (show Shr W F1 d v from y1) e
    exact ⟨da, ep, kvs, vs, rfl, x1.s _ _ g, q _ F1 H1 x1 (seq_rw g hk)⟩
  sP := fun {env ds} e => by
    obtain ⟨d, e1, e⟩ := Option.bind_eq_some_iff.mp e
    refine AIt.p (fun e' F σ H L R r q => a.sF e1 e' F σ H L _ r fun v F1 H1 x1 y1 => ?_)
    obtain ⟨da, ep, kvs, vs, rfl, g, hk⟩ := ksR_ok (show Shr W F1 d v from y1) e
    exact ⟨da, ep, kvs, vs, rfl, x1.s _ _ g, q _ F1 H1 x1 (seq_rw g hk)⟩
def disp3E (x1 x2 x3 y1 y2 y3 : D) : Option D := match x1, x2, x3 with
  | .int i, .tup [.int j], .int k => if i = -5 /\ j = 1 /\ k = 5 then some (.oxt "dict" rwP [.int (-5), .tup [.int 1], .int 5] [y1, y2, y3]) else none
  | .int i, .bl b, .int k => if i = -5 /\ k = 5 then some (.olf true [.num (-5), .bl b, .num 5] [y1, y2, y3]) else none
  | .int i, .non, .int k => if i = -5 /\ k = 5 then some (.olf false [.num (-5), .non, .num 5] [y1, y2, y3]) else none
  | .int i, .str s, .int k => if i = -5 /\ k = 5 then some (.olf false [.num (-5), .txt s, .num 5] [y1, y2, y3]) else none
  | _, _, _ => none
theorem disp3_ok {F H : Hp} {p : Addr} {x1 x2 x3 y1 y2 y3 d : D} {v1 v2 v3 w1 w2 w3 : V} {Q : VK} (s : Same F H) (h : disp3E x1 x2 x3 y1 y2 y3 = some d) (a1 : Shr W F x1 v1) (a2 : Shr W F x2 v2) (a3 : Shr W F x3 v3) (b1 : Shr W F y1 w1) (b2 : Shr W F y2 w2) (b3 : Shr W F y3 w3) (hF : F p = none)
    (q : ∀ o, Own W F (upd H p o) d (.ref p) [p] -> Q (.ref p) (upd H p o)) : Disp3 W.K W.P W.w p v1 w1 v2 w2 v3 w3 H Q := by
  have ys : Shrs W F [y1, y2, y3] [w1, w2, w3] := .cons b1 (.cons b2 (.cons b3 .nil))
  have lf : ∀ (m : Bool) (k : LK) (ep : Nat) (u2 : V), keyL m x2 = some k -> [LK.num (-5), k, LK.num 5].Nodup -> Own W F (upd H p (.ext (lfP W.P W.w m p ep [.num (-5), k, .num 5] [w1, w2, w3]))) (.olf m [.num (-5), k, .num 5] [y1, y2, y3]) (.ref p) [p] := fun m k ep _ _ nd =>
    .olf (L := []) upd_same rfl nd ys.owns
  have n5 : ∀ (m : Bool), LKey m (.int (-5)) (.num (-5)) := fun m u ru => by
    obtain ⟨t, rfl⟩ := (show ∃ t, u = Value.int (-5) t from ru)
    show (decide ((-5 : Int) = -5) && (!m || (decide ((-5 : Int) ≠ 0) && decide ((-5 : Int) ≠ 1)))) = true
    cases m <;> decide
  have p5 : ∀ (m : Bool), LKey m (.int 5) (.num 5) := fun m u ru => by
    obtain ⟨t, rfl⟩ := (show ∃ t, u = Value.int 5 t from ru)
    show (decide ((5 : Int) = 5) && (!m || (decide ((5 : Int) ≠ 0) && decide ((5 : Int) ≠ 1)))) = true
    cases m <;> decide
  unfold disp3E at h
  split at h
  · rename_i i j k
    split at h
    · rename_i hc
      obtain ⟨rfl, rfl, rfl⟩ := hc
      cases h
      cases a1
      cases a3
      cases a2 with
      | tup ht hs =>
        cases hs with
        | cons h1 h2 =>
          cases h1
          cases h2
          rename_i a
          refine .inr ⟨a, rfl, rfl, .inl (.inl (s _ _ ht)), rfl, fun ep => q _ (.oxt (L := []) upd_same ?_ ys.owns)⟩
          exact .cons .int (.cons (.tup ht (.cons .int .nil)) (.cons .int .nil))
    · cases h
  · rename_i i b k
    split at h
    · rename_i hc
      obtain ⟨rfl, rfl⟩ := hc
      cases h
      cases a1
      cases a3
      exact .inl ⟨true, _, _, _, n5 true, keyL_ok a2 rfl, p5 true, by cases b <;> decide, fun ep => q _ (lf true _ ep v2 rfl (by cases b <;> decide))⟩
    · cases h
  · rename_i i k
    split at h
    · rename_i hc
      obtain ⟨rfl, rfl⟩ := hc
      cases h
      cases a1
      cases a3
      exact .inl ⟨false, _, _, _, n5 false, keyL_ok a2 rfl, p5 false, by decide, fun ep => q _ (lf false _ ep v2 rfl (by decide))⟩
    · cases h
  · rename_i i x k
    split at h
    · rename_i hc
      obtain ⟨rfl, rfl⟩ := hc
      cases h
      cases a1
      cases a3
      exact .inl ⟨false, _, _, _, n5 false, keyL_ok a2 rfl, p5 false, by simp, fun ep => q _ (lf false _ ep v2 rfl (by simp))⟩
    · cases h
  · cases h
def xDisp3 (a1 b1 a2 b2 a3 b3 : XP W) : XP W where
  t := tDisp3 W.K W.P W.w a1.t b1.t a2.t b2.t a3.t b3.t
  ev env := (a1.evF env).bind fun x1 => (b1.evF env).bind fun y1 => (a2.evF env).bind fun x2 => (b2.evF env).bind fun y2 => (a3.evF env).bind fun x3 => (b3.evF env).bind fun y3 => (disp3E x1 x2 x3 y1 y2 y3).map (Prod.mk .fr)
  snd := fun {env k d} h => by
    obtain ⟨x1, e1, h⟩ := Option.bind_eq_some_iff.mp h
    obtain ⟨y1, g1, h⟩ := Option.bind_eq_some_iff.mp h
    obtain ⟨x2, e2, h⟩ := Option.bind_eq_some_iff.mp h
    obtain ⟨y2, g2, h⟩ := Option.bind_eq_some_iff.mp h
    obtain ⟨x3, e3, h⟩ := Option.bind_eq_some_iff.mp h
    obtain ⟨y3, g3, h⟩ := Option.bind_eq_some_iff.mp h
    obtain ⟨dd, hd, e⟩ := Option.map_eq_some_iff.mp h
    cases e
    intro e F σ H L Q r q p hp
    have r0 := r.ext (.newH r.sF hp (o := .ext (lfP W.P W.w false p 0 [] [])))
    refine a1.sF e1 e F σ _ L _ r0 fun v1 F1 H1 z1 s1 => b1.sF g1 e F1 σ H1 L _ (r0.ext z1) fun w1 F2 H2 z2 t1 => a2.sF e2 e F2 σ H2 L _ ((r0.ext z1).ext z2) fun v2 F3 H3 z3 s2 => b2.sF g2 e F3 σ H3 L _ (((r0.ext z1).ext z2).ext z3) fun w2 F4 H4 z4 t2 =>
      a3.sF e3 e F4 σ H4 L _ ((((r0.ext z1).ext z2).ext z3).ext z4) fun v3 F5 H5 z5 s3 => b3.sF g3 e F5 σ H5 L _ (((((r0.ext z1).ext z2).ext z3).ext z4).ext z5) fun w3 F6 H6 z6 t3 => ?_
    have z56 := z5.trans z6
    have z46 := z4.trans z56
    have z36 := z3.trans z46
    have z26 := z2.trans z36
    have x3' := z1.trans z26
    have h2 : H6 p = some (.ext (lfP W.P W.w false p 0 [] [])) := x3'.h _ _ upd_same
    have hF : F6 p = none := by
      cases z : F6 p with
      | none => rfl
      | some u =>
        rcases x3'.n p u z with y | y
        · rw [r.sF.free hp] at y; cases y
        · rw [upd_same] at y; cases y
    have ne : ∀ {b : Addr} {o : HO}, H b = some o -> b ≠ p := fun {b o} hb z => by rw [z, hp] at hb; cases hb
    refine ⟨h2, disp3_ok x3'.s hd ((show Shr W F1 x1 v1 from s1).mono z26.f) ((show Shr W F3 x2 v2 from s2).mono z46.f) ((show Shr W F5 x3 v3 from s3).mono z6.f) ((show Shr W F2 y1 w1 from t1).mono z36.f) ((show Shr W F4 y2 w2 from t2).mono z56.f) (show Shr W F6 y3 w3 from t3) hF fun o ow => ?_⟩
    refine q _ F6 _ ⟨x3'.f, fun b o z => ?_, fun b o z => ?_, fun b o z => ?_⟩ ⟨[p], ow, by simp, fun a m => ?_⟩
    · rw [upd_ne (fun e => by rw [e, hF] at z; cases z)]; exact x3'.s _ _ z
    · rw [upd_ne (ne z)]; exact x3'.h _ _ (by rw [upd_ne (ne z)]; exact z)
    · rcases x3'.n b o z with y | y
      · exact .inl y
      · refine .inr ?_
        by_cases e : b = p
        · rw [e]; exact hp
        · rwa [upd_ne e] at y
    · rw [List.mem_singleton.mp m]; exact ⟨hp, hF⟩
theorem e_xDisp3 {a1 b1 a2 b2 a3 b3 : XP W} {env} : (xDisp3 a1 b1 a2 b2 a3 b3).ev env = (a1.evF env).bind fun x1 => (b1.evF env).bind fun y1 => (a2.evF env).bind fun x2 => (b2.evF env).bind fun y2 => (a3.evF env).bind fun x3 => (b3.evF env).bind fun y3 => (disp3E x1 x2 x3 y1 y2 y3).map (Prod.mk .fr) := rfl
theorem h_xiRwF {a : XP W} {env} : (xiRw a).evF env = (a.evF env).bind ksR := rfl
theorem e_xsAlt {s u : XS W} {P env} : (xsAlt s u).ev P env = orR (s.ev P env) (u.ev P env) := rfl
end
end Py
namespace Py
open PySem L2
theorem forL_gen {f : D -> Py.Env -> RS} {r : RS} : ∀ {ds : List D} {env : Py.Env} (I : Nat -> Py.Env -> Prop), forL f ds env = r -> I 0 env -> (∀ i d e, ds[i]? = some d -> I i e -> ∃ e', (f d e = .nx e' \/ f d e = .ct e') /\ I (i + 1) e') -> ∃ e', r = .nx e' /\ I ds.length e'
  | [], env, I, h, h0, _ => ⟨env, h.symm, h0⟩
  | d :: ds, env, I, h, h0, hs => by
    obtain ⟨e', h1, h2⟩ := hs 0 d env rfl h0
    have h : (match f d env with | .nx e => forL f ds e | .ct e => forL f ds e | .bk e => .nx e | r => r) = r := h
    have h3 : forL f ds e' = r := by rcases h1 with h1 | h1 <;> (rw [h1] at h; exact h)
    exact forL_gen (fun i e => I (i + 1) e) h3 h2 fun i d e hd hi => hs (i + 1) d e (by simpa using hd) hi
theorem atI_map {α β : Type} (f : α -> β) (xs : List α) (i : Int) : atI (xs.map f) i = (atI xs i).map f := by
  unfold atI
  rw [List.length_map]
  cases ixN xs.length i with
  | none => rfl
  | some j => show (xs.map f)[j]? = _; rw [List.getElem?_map]; rfl
theorem atI_of {α : Type} {xs : List α} {j : Nat} {x : α} (h : xs[j]? = some x) : atI xs (j : Int) = some x := by rw [atI_litN, h]
theorem atI_get {α : Type} {xs : List α} {i : Int} (h0 : 0 <= i) (h : i < xs.length) : ∃ x, atI xs i = some x /\ xs[i.toNat]? = some x := by
  obtain ⟨j, rfl⟩ := Int.eq_ofNat_of_zero_le h0
  have : xs[j]? = some (xs[j]'(by omega)) := List.getElem?_eq_getElem (by omega)
  exact ⟨_, atI_of this, this⟩
theorem sh_map {α : Type} {enc : α -> D} (h : ∀ a, isSh (enc a) = true) (xs : List α) : (xs.map enc).all isSh = true := by
  rw [List.all_eq_true]
  intro d hd
  obtain ⟨a, _, rfl⟩ := List.mem_map.mp hd
  exact h a
theorem fzs_map {α : Type} {enc : α -> D} (h : ∀ a, isSh (enc a) = true) (xs : List α) : fzs (xs.map enc) = xs.map enc := by
  rw [fzs_eq, List.map_map]
  exact List.map_congr_left fun a _ => fz_isSh (h a)
theorem okDs_map {α : Type} {enc : α -> D} {n : Nat} (h : ∀ a, okD n (enc a) = true) (xs : List α) : okDs n (xs.map enc) = true := by
  rw [okDs_all, List.all_eq_true]
  intro d hd
  obtain ⟨a, _, rfl⟩ := List.mem_map.mp hd
  exact h a
theorem eqBs_map {α : Type} [DecidableEq α] {enc : α -> D} (h : ∀ a b, eqB (enc a) (enc b) = decide (a = b)) : ∀ xs ys : List α, eqBs (xs.map enc) (ys.map enc) = decide (xs = ys)
  | [], [] => by rw [List.map_nil, eqBs]; rfl
  | [], y :: ys => by rw [List.map_nil, List.map_cons, h_eqBs_nc]; rfl
  | x :: xs, [] => by rw [List.map_nil, List.map_cons, h_eqBs_cn]; rfl
  | x :: xs, y :: ys => by
    rw [List.map_cons, List.map_cons, eqBs, h, eqBs_map h xs ys]
    by_cases h1 : x = y <;> by_cases h2 : xs = ys <;> simp [h1, h2]
end Py
namespace Py
open PySem L2
local macro_rules | `(tactic| walk_at "ev") => `(tactic| try simp (maxSteps := 1000000) (disch := first | omega | decide) only [e_xsSeq, e_xsNext, e_xsAsg, e_xsExpr, e_xsRet, e_xsIf, e_xsFrz, e_xmP, e_xVar_V, e_xtV, e_xtTru, e_xtOr, e_xtNot, e_xtYes, e_xVar, e_xInt, e_xBl, e_xNon, e_xStr, e_xMul, e_xDiv, e_xMod, e_xPow, e_xNeg, e_xAdd, e_xEq, e_xNe, e_xLt, e_xGt, e_xGe, e_xAnd, e_xNot, e_xTup, e_xLst, e_xInt1, e_xAbs, e_xLen, e_xIx, e_xFld, e_xIsi, e_xCall, e_xmVar, e_xmMove, e_xmAppend, e_xoNil, e_xoCons, e_plVar, r_plVar, e_xaNilV, e_xaNilF, e_xaConsV, e_xaConsF, e_xgN, o_xgN, e_xiR1F, e_xiR1P, e_xsFor, e_evV, e_evK, e_evF, e_evO, e_evB, h_getS0, h_getS0n, h_getSs, h_toV, h_toVn, h_toKf, h_toKp, h_toKv, h_toKn, h_toFf, h_toFp, h_toFv, h_toFn, h_toOf, h_toOp, h_toOv, h_toOn, h_of_f, h_of_p, h_of_v, h_then_nx, h_then_rt, h_then_bk, h_then_ct, h_then_ex, h_then_no, h_thenS_ok, h_thenS_exn, h_thenS_no, h_ofO, h_ofOn, h_of, h_ofn, h_mofO, h_mofOn, h_iteF1, h_iteF0, h_iteFn, h_asgK, h_forK, h_andF1, h_andF0, h_orF1, h_orF0, h_blD, h_turn, h_turnn, h_forE, h_forEn, h_callF, h_callV, h_rzF, h_rzV, h_fz_non, h_sh_non, h_fl_non, h_isN_non, h_fz_bl, h_sh_bl, h_fl_bl, h_fz_int, h_sh_int, h_fl_int, h_isN_int, h_fz_str, h_sh_str, h_fl_str, h_isN_str, h_fz_cls, h_sh_cls, h_fl_cls, h_isN_cls, h_fz_sei, h_sh_sei, h_fl_sei, h_isN_sei, h_fz_scr, h_sh_scr, h_fl_scr, h_isN_scr, h_fz_tup, h_sh_tup, h_fl_tup, h_isN_tup, h_fz_lst, h_sh_lst, h_fl_lst, h_isN_lst, h_fz_dic, h_sh_dic, h_fl_dic, h_isN_dic, h_fz_dit, h_sh_dit, h_fl_dit, h_isN_dit, h_fz_dig, h_sh_dig, h_fl_dig, h_isN_dig, h_fz_dlf, h_sh_dlf, h_fl_dlf, h_isN_dlf, h_fz_xt, h_sh_xt, h_fl_xt, h_isN_xt, h_fz_len, h_sh_len, h_fl_len, h_isN_len, h_fz_ins, h_sh_ins, h_fl_ins, h_isN_ins, h_isN_bl, h_fz_olst, h_sh_olst, h_fl_olst, h_fz_odic, h_sh_odic, h_fl_odic, h_fz_odit, h_sh_odit, h_fl_odit, h_fz_odig, h_sh_odig, h_fl_odig, h_fz_olf, h_sh_olf, h_fl_olf, h_fz_oxt, h_sh_oxt, h_fl_oxt, h_fz_otup, h_sh_otup, h_fl_otup, h_fz_oins, h_sh_oins, h_fl_oins, h_fzs_nil, h_fzs_cons, h_fzs_app, h_tru_bl, h_tru_non, h_tru_int, h_tru_lst, h_tru_tup, h_neg, h_addI, h_addT, h_addL, h_addLo, h_addoL, h_addoo, h_eqD, h_neD, h_ok_non, h_ok_bl, h_ok_int, h_ok_str, h_ok_tup, h_ok_lst, h_oks_nil, h_oks_cons, h_eqB_ii, h_eqB_ss, h_eqB_bb, h_eqB_nn, h_eqB_ni, h_eqB_in, h_eqB_nt, h_eqB_tn, h_eqB_tt, h_eqB_ll, h_eqBs_nn, h_eqBs_cc, h_eqBs_nc, h_eqBs_cn, h_cmp, h_ltI, h_ltT, h_ints_nil, h_ints_cons, h_intI, h_intB, h_abs, h_lenL, h_lenT, h_lenS, h_ix, h_it_lst, h_it_olst, h_it_tup, h_it_scr, h_at0, h_at1, h_at2, h_at3, h_at4, h_at5, h_at6, h_at7, h_at8, h_at9, h_at10, h_at11, h_at12, h_atm1, h_ty_non, h_ty_bl, h_ty_int, h_ty_str, h_ty_lst, h_ty_tup, h_ty_ins, h_isi_bb, h_isi_bo, h_isi_ob, h_isi_oo, h_isiB_NoneType_bool, h_isiB_NoneType_int, h_isiB_NoneType_str, h_isiB_NoneType_list, h_isiB_NoneType_tuple, h_isiB_NoneType_dict, h_isiB_bool_bool, h_isiB_bool_int, h_isiB_bool_str, h_isiB_bool_list, h_isiB_bool_tuple, h_isiB_bool_dict, h_isiB_int_bool, h_isiB_int_int, h_isiB_int_str, h_isiB_int_list, h_isiB_int_tuple, h_isiB_int_dict, h_isiB_str_bool, h_isiB_str_int, h_isiB_str_str, h_isiB_str_list, h_isiB_str_tuple, h_isiB_str_dict, h_isiB_list_bool, h_isiB_list_int, h_isiB_list_str, h_isiB_list_list, h_isiB_list_tuple, h_isiB_list_dict, h_isiB_tuple_bool, h_isiB_tuple_int, h_isiB_tuple_str, h_isiB_tuple_list, h_isiB_tuple_tuple, h_isiB_tuple_dict, h_isiB_dict_bool, h_isiB_dict_int, h_isiB_dict_str, h_isiB_dict_list, h_isiB_dict_tuple, h_isiB_dict_dict, h_append, h_put0, h_rng1, h_guard1, h_guard0, h_forLn, h_forLc, h_forT_nx, h_forT_ct, h_forT_bk, h_forT_rt, h_forT_ex, h_wipe0, h_wipes, h_frz, h_frzO, h_frzOn, h_runR_rt, h_runR_nx, h_retZ, h_bGetn, h_bGets, h_setS, h_fldI, h_fldO, h_iteFd1, h_iteFd0, h_iteFe1, h_iteFe0, h_andFd1, h_andFd0, h_andFe1, h_andFe0, h_orFd1, h_orFd0, h_orFe1, h_orFe0, h_callO1, h_meth1, h_meth2, h_resE, h_resEn, h_posn, h_posc, h_eMmeth, h_methM1, h_methM0, h_rm0o, h_rm0x, h_rm0n, h_rm1o, h_rm1x, h_putc, h_putE, h_subF, h_subI, h_putF, h_putI, h_setOs, h_eSfld, h_fldK, h_setFD, h_setFn, h_setFc, h_mk1, h_mkR, h_RLthenM_ok, h_RMthenM_ok, h_RTthen_ok, h_RTthenS_ok, h_RLthenM_exn, h_RMthenM_exn, h_RTthen_exn, h_RTthenS_exn, h_RTof, h_lo_lst, h_lo_olst, h_ixD_ins, h_okD_ins, h_eqD_ins, h_addD_ins, h_addD_oins, h_eMakeN, h_makeNE_F, h_makeNE_V, h_makeNE_W, h_mkN, h_mgM_t, h_mgM_f, h_mgM_n, h_eDnew, h_eDget2, h_getE_non, h_getE_int, h_getE_str, h_getM_s, h_getM_n, h_eDix, h_dgE_int, h_dgE_str, h_eDict, h_dicOf_d, h_dicOf_o, h_dicF_d, h_dicF_o, h_eDput, h_dputK, h_dputI, h_dputS, h_eForD, h_lockR, h_noEx_nx, h_noEx_rt, h_isDic, h_dsK, h_eDc, h_eDcD, h_frE_s, h_frE_n, h_guardB_t, h_dc1, h_dcK, h_dcJ1, h_dcJ0, h_keyD_i, h_keyD_s, h_kDs_n, h_kDs_c, h_dcL_n, h_putP_n, h_eDisp, h_dispEn, h_dispEc, h_eRaise, h_exOf, h_exOfn, h_eTryAs, h_tryK_nx, h_tryK_rt, h_tryK_bk, h_tryK_ct, h_tryK_no, h_tryK_ex, h_tryJ1, h_tryJ0, h_clr_nx, h_clr_rt, h_clr_bk, h_clr_ct, h_clr_no, h_ehAsg, h_hAsgK, h_hAsgKn, h_qevO, h_qevB, h_qevF, h_toQf, h_toQp, h_toQv, h_toQn, h_eqP, h_eqFld, h_eqIs, h_eqIsT, h_isX1t, h_isX1f, h_isXAn, h_isXAc, h_eqAnd, h_eqNot, h_eqLst, h_eqs0, h_eqs1, h_mkMo, h_mkMx, h_mkMn, h_eMakeNM, h_makeNM, h_eCallOM, h_callOMs, h_eAppR, h_isOl, h_apmK, h_runR_ex, h_retX, h_thenY1, h_thenY2, h_thenY3, h_look1, h_look2, h_div, h_mod, h_mulL, h_mulR, h_rngOk, List.zip_cons_cons, List.zip_nil_left, if_pos, if_neg, List.getElem?_cons_zero, List.getElem?_cons_succ, List.getElem?_nil, List.getLast?_append, List.getLast?_singleton, List.getLast?_cons_cons, runFn, env0, Option.toList, List.map_cons, List.map_nil, List.length_cons, List.length_nil, List.length_append, List.length_map, List.length_set, List.replicate, List.cons_append, List.nil_append, List.append_nil, Nat.reduceSub, Nat.reduceAdd, Nat.reduceLT, Nat.reduceLeDiff, Nat.reduceEqDiff, Nat.zero_add, Nat.add_zero, List.set_cons_zero, List.set_cons_succ, List.set_nil, Option.bind_some, Option.bind_none, Option.map_some, Option.map_none, List.foldl_cons, List.foldl_nil, not_false_eq_true, not_true_eq_false, and_true, true_and, and_self, and_false, false_and, if_true, if_false, ite_true, ite_false, reduceIte, List.not_mem_nil, reduceCtorEq, List.mem_cons, or_false, false_or, or_self, ne_eq, Bool.not_true, Bool.not_false, Bool.and_true, Bool.and_false, Bool.true_and, Bool.false_and, Bool.or_true, Bool.or_false, Bool.true_or, Bool.false_or, Bool.and_self, Bool.or_self, List.all_cons, List.all_nil, decide_true, decide_false, decide_not, decide_eq_true_eq, decide_eq_false_iff_not, Bool.not_not, Int.reduceLT, Int.reduceLE, Int.reduceEq, Int.reduceNe, Int.reduceAdd, Int.reduceMul, Int.reduceSub, Int.reduceNeg, List.isEmpty_cons, List.isEmpty_nil, Bool.false_eq_true, Bool.true_eq_false, String.reduceEq, Function.comp_apply, Option.isNone_none, Option.some_or, Option.isNone_some, List.getLast?_concat, List.dropLast_concat, List.all_append])
end Py
namespace Py
open PySem L2
local macro_rules | `(tactic| walk_at "ev") => `(tactic| try simp (maxSteps := 1000000) (disch := first | omega | decide) only [e_xsSeq, e_xsNext, e_xsAsg, e_xsExpr, e_xsRet, e_xsIf, e_xsFrz, e_xmP, e_xVar_V, e_xtV, e_xtTru, e_xtOr, e_xtNot, e_xtYes, e_xVar, e_xInt, e_xBl, e_xNon, e_xStr, e_xMul, e_xDiv, e_xMod, e_xPow, e_xNeg, e_xAdd, e_xEq, e_xNe, e_xLt, e_xGt, e_xGe, e_xAnd, e_xNot, e_xTup, e_xLst, e_xInt1, e_xAbs, e_xLen, e_xIx, e_xFld, e_xIsi, e_xCall, e_xmVar, e_xmMove, e_xmAppend, e_xoNil, e_xoCons, e_plVar, r_plVar, e_xaNilV, e_xaNilF, e_xaConsV, e_xaConsF, e_xgN, o_xgN, e_xiR1F, e_xiR1P, e_xsFor, e_evV, e_evK, e_evF, e_evO, e_evB, h_getS0, h_getS0n, h_getSs, h_toV, h_toVn, h_toKf, h_toKp, h_toKv, h_toKn, h_toFf, h_toFp, h_toFv, h_toFn, h_toOf, h_toOp, h_toOv, h_toOn, h_of_f, h_of_p, h_of_v, h_then_nx, h_then_rt, h_then_bk, h_then_ct, h_then_ex, h_then_no, h_thenS_ok, h_thenS_exn, h_thenS_no, h_ofO, h_ofOn, h_of, h_ofn, h_mofO, h_mofOn, h_iteF1, h_iteF0, h_iteFn, h_asgK, h_forK, h_andF1, h_andF0, h_orF1, h_orF0, h_blD, h_turn, h_turnn, h_forE, h_forEn, h_callF, h_callV, h_rzF, h_rzV, h_fz_non, h_sh_non, h_fl_non, h_isN_non, h_fz_bl, h_sh_bl, h_fl_bl, h_fz_int, h_sh_int, h_fl_int, h_isN_int, h_fz_str, h_sh_str, h_fl_str, h_isN_str, h_fz_cls, h_sh_cls, h_fl_cls, h_isN_cls, h_fz_sei, h_sh_sei, h_fl_sei, h_isN_sei, h_fz_scr, h_sh_scr, h_fl_scr, h_isN_scr, h_fz_tup, h_sh_tup, h_fl_tup, h_isN_tup, h_fz_lst, h_sh_lst, h_fl_lst, h_isN_lst, h_fz_dic, h_sh_dic, h_fl_dic, h_isN_dic, h_fz_dit, h_sh_dit, h_fl_dit, h_isN_dit, h_fz_dig, h_sh_dig, h_fl_dig, h_isN_dig, h_fz_dlf, h_sh_dlf, h_fl_dlf, h_isN_dlf, h_fz_xt, h_sh_xt, h_fl_xt, h_isN_xt, h_fz_len, h_sh_len, h_fl_len, h_isN_len, h_fz_ins, h_sh_ins, h_fl_ins, h_isN_ins, h_isN_bl, h_fz_olst, h_sh_olst, h_fl_olst, h_fz_odic, h_sh_odic, h_fl_odic, h_fz_odit, h_sh_odit, h_fl_odit, h_fz_odig, h_sh_odig, h_fl_odig, h_fz_olf, h_sh_olf, h_fl_olf, h_fz_oxt, h_sh_oxt, h_fl_oxt, h_fz_otup, h_sh_otup, h_fl_otup, h_fz_oins, h_sh_oins, h_fl_oins, h_fzs_nil, h_fzs_cons, h_fzs_app, h_tru_bl, h_tru_non, h_tru_int, h_tru_lst, h_tru_tup, h_neg, h_addI, h_addT, h_addL, h_addLo, h_addoL, h_addoo, h_eqD, h_neD, h_ok_non, h_ok_bl, h_ok_int, h_ok_str, h_ok_tup, h_ok_lst, h_oks_nil, h_oks_cons, h_eqB_ii, h_eqB_ss, h_eqB_bb, h_eqB_nn, h_eqB_ni, h_eqB_in, h_eqB_nt, h_eqB_tn, h_eqB_tt, h_eqB_ll, h_eqBs_nn, h_eqBs_cc, h_eqBs_nc, h_eqBs_cn, h_cmp, h_ltI, h_ltT, h_ints_nil, h_ints_cons, h_intI, h_intB, h_abs, h_lenL, h_lenT, h_lenS, h_ix, h_it_lst, h_it_olst, h_it_tup, h_it_scr, h_at0, h_at1, h_at2, h_at3, h_at4, h_at5, h_at6, h_at7, h_at8, h_at9, h_at10, h_at11, h_at12, h_atm1, h_ty_non, h_ty_bl, h_ty_int, h_ty_str, h_ty_lst, h_ty_tup, h_ty_ins, h_isi_bb, h_isi_bo, h_isi_ob, h_isi_oo, h_isiB_NoneType_bool, h_isiB_NoneType_int, h_isiB_NoneType_str, h_isiB_NoneType_list, h_isiB_NoneType_tuple, h_isiB_NoneType_dict, h_isiB_bool_bool, h_isiB_bool_int, h_isiB_bool_str, h_isiB_bool_list, h_isiB_bool_tuple, h_isiB_bool_dict, h_isiB_int_bool, h_isiB_int_int, h_isiB_int_str, h_isiB_int_list, h_isiB_int_tuple, h_isiB_int_dict, h_isiB_str_bool, h_isiB_str_int, h_isiB_str_str, h_isiB_str_list, h_isiB_str_tuple, h_isiB_str_dict, h_isiB_list_bool, h_isiB_list_int, h_isiB_list_str, h_isiB_list_list, h_isiB_list_tuple, h_isiB_list_dict, h_isiB_tuple_bool, h_isiB_tuple_int, h_isiB_tuple_str, h_isiB_tuple_list, h_isiB_tuple_tuple, h_isiB_tuple_dict, h_isiB_dict_bool, h_isiB_dict_int, h_isiB_dict_str, h_isiB_dict_list, h_isiB_dict_tuple, h_isiB_dict_dict, h_append, h_put0, h_rng1, h_guard1, h_guard0, h_forLn, h_forLc, h_forT_nx, h_forT_ct, h_forT_bk, h_forT_rt, h_forT_ex, h_wipe0, h_wipes, h_frz, h_frzO, h_frzOn, h_runR_rt, h_runR_nx, h_retZ, h_bGetn, h_bGets, h_setS, h_fldI, h_fldO, h_iteFd1, h_iteFd0, h_iteFe1, h_iteFe0, h_andFd1, h_andFd0, h_andFe1, h_andFe0, h_orFd1, h_orFd0, h_orFe1, h_orFe0, h_callO1, h_meth1, h_meth2, h_resE, h_resEn, h_posn, h_posc, h_eMmeth, h_methM1, h_methM0, h_rm0o, h_rm0x, h_rm0n, h_rm1o, h_rm1x, h_putc, h_putE, h_subF, h_subI, h_putF, h_putI, h_setOs, h_eSfld, h_fldK, h_setFD, h_setFn, h_setFc, h_mk1, h_mkR, h_RLthenM_ok, h_RMthenM_ok, h_RTthen_ok, h_RTthenS_ok, h_RLthenM_exn, h_RMthenM_exn, h_RTthen_exn, h_RTthenS_exn, h_RTof, h_lo_lst, h_lo_olst, h_ixD_ins, h_okD_ins, h_eqD_ins, h_addD_ins, h_addD_oins, h_eMakeN, h_makeNE_F, h_makeNE_V, h_makeNE_W, h_mkN, h_mgM_t, h_mgM_f, h_mgM_n, h_eDnew, h_eDget2, h_getE_non, h_getE_int, h_getE_str, h_getM_s, h_getM_n, h_eDix, h_dgE_int, h_dgE_str, h_eDict, h_dicOf_d, h_dicOf_o, h_dicF_d, h_dicF_o, h_eDput, h_dputK, h_dputI, h_dputS, h_eForD, h_lockR, h_noEx_nx, h_noEx_rt, h_isDic, h_dsK, h_eDc, h_eDcD, h_frE_s, h_frE_n, h_guardB_t, h_dc1, h_dcK, h_dcJ1, h_dcJ0, h_keyD_i, h_keyD_s, h_kDs_n, h_kDs_c, h_dcL_n, h_putP_n, h_eDisp, h_dispEn, h_dispEc, h_eRaise, h_exOf, h_exOfn, h_eTryAs, h_tryK_nx, h_tryK_rt, h_tryK_bk, h_tryK_ct, h_tryK_no, h_tryK_ex, h_tryJ1, h_tryJ0, h_clr_nx, h_clr_rt, h_clr_bk, h_clr_ct, h_clr_no, h_ehAsg, h_hAsgK, h_hAsgKn, h_qevO, h_qevB, h_qevF, h_toQf, h_toQp, h_toQv, h_toQn, h_eqP, h_eqFld, h_eqIs, h_eqIsT, h_isX1t, h_isX1f, h_isXAn, h_isXAc, h_eqAnd, h_eqNot, h_eqLst, h_eqs0, h_eqs1, h_mkMo, h_mkMx, h_mkMn, h_eMakeNM, h_makeNM, h_eCallOM, h_callOMs, h_eAppR, h_isOl, h_apmK, h_runR_ex, h_retX, h_thenY1, h_thenY2, h_thenY3, h_look1, h_look2, h_div, h_mod, h_mulL, h_mulR, h_rngOk, List.zip_cons_cons, List.zip_nil_left, if_pos, if_neg, List.getElem?_cons_zero, List.getElem?_cons_succ, List.getElem?_nil, List.getLast?_append, List.getLast?_singleton, List.getLast?_cons_cons, runFn, env0, Option.toList, List.map_cons, List.map_nil, List.length_cons, List.length_nil, List.length_append, List.length_map, List.length_set, List.replicate, List.cons_append, List.nil_append, List.append_nil, Nat.reduceSub, Nat.reduceAdd, Nat.reduceLT, Nat.reduceLeDiff, Nat.reduceEqDiff, Nat.zero_add, Nat.add_zero, List.set_cons_zero, List.set_cons_succ, List.set_nil, Option.bind_some, Option.bind_none, Option.map_some, Option.map_none, List.foldl_cons, List.foldl_nil, not_false_eq_true, not_true_eq_false, and_true, true_and, and_self, and_false, false_and, if_true, if_false, ite_true, ite_false, reduceIte, List.not_mem_nil, reduceCtorEq, List.mem_cons, or_false, false_or, or_self, ne_eq, Bool.not_true, Bool.not_false, Bool.and_true, Bool.and_false, Bool.true_and, Bool.false_and, Bool.or_true, Bool.or_false, Bool.true_or, Bool.false_or, Bool.and_self, Bool.or_self, List.all_cons, List.all_nil, decide_true, decide_false, decide_not, decide_eq_true_eq, decide_eq_false_iff_not, Bool.not_not, Int.reduceLT, Int.reduceLE, Int.reduceEq, Int.reduceNe, Int.reduceAdd, Int.reduceMul, Int.reduceSub, Int.reduceNeg, List.isEmpty_cons, List.isEmpty_nil, Bool.false_eq_true, Bool.true_eq_false, String.reduceEq, Function.comp_apply, Option.isNone_none, Option.some_or, Option.isNone_some, List.getLast?_concat, List.dropLast_concat, List.all_append])
class Enc (α : Type) [DecidableEq α] where
  enc : α -> D
  sh : ∀ a, isSh (enc a) = true
  dp : Nat
  ok : ∀ n a, okD (n + dp) (enc a) = true
  eq : ∀ a b, eqB (enc a) (enc b) = decide (a = b)
open Enc (enc)
class EncN (α : Type) [DecidableEq α] [Enc α] : Prop where
  nn : ∀ a : α, isNon (enc a) = false
  en : ∀ a : α, eqB (enc a) .non = false
  ne : ∀ a : α, eqB .non (enc a) = false
class EncF (α : Type) [DecidableEq α] [Enc α] : Prop where
  fl : ∀ a : α, isFlat (enc a) = true
section
variable {α β γ : Type} [DecidableEq α] [DecidableEq β] [DecidableEq γ] [Enc α] [Enc β] [Enc γ]
theorem sh_enc (a : α) : isSh (enc a) = true := Enc.sh a
theorem fz_enc (a : α) : fz (enc a) = enc a := fz_isSh (Enc.sh a)
theorem shl_enc (xs : List α) : (xs.map enc).all isSh = true := sh_map Enc.sh xs
theorem fzl_enc (xs : List α) : fzs (xs.map enc) = xs.map enc := fzs_map Enc.sh xs
theorem fl_enc [EncF α] (a : α) : isFlat (enc a) = true := EncF.fl a
theorem ok_enc {n : Nat} (a : α) (h : Enc.dp α <= n) : okD n (enc a) = true := by
  have := Enc.ok (n - Enc.dp α) a
  rwa [show n - Enc.dp α + Enc.dp α = n by omega] at this
theorem okl_enc {n : Nat} (xs : List α) (h : Enc.dp α <= n) : okDs n (xs.map enc) = true := okDs_map (fun a => ok_enc a h) xs
theorem eq_enc (a b : α) : eqB (enc a) (enc b) = decide (a = b) := Enc.eq a b
theorem eql_enc (xs ys : List α) : eqBs (xs.map enc) (ys.map enc) = decide (xs = ys) := eqBs_map Enc.eq xs ys
theorem en_enc [EncN α] (a : α) : eqB (enc a) .non = false := EncN.en a
theorem ne_enc [EncN α] (a : α) : eqB .non (enc a) = false := EncN.ne a
end
instance : Enc Int := ⟨.int, fun _ => rfl, 0, fun n a => by walk_at "ev", fun a b => by walk_at "ev"⟩
instance : EncN Int := ⟨fun _ => rfl, fun a => by show eqB (.int a) .non = _; walk_at "ev", fun a => by show eqB .non (.int a) = _; walk_at "ev"⟩
instance : EncF Int := ⟨fun _ => rfl⟩
theorem enc_int (i : Int) : enc i = .int i := rfl
instance : Enc Bool := ⟨.bl, fun _ => rfl, 0, fun n a => by walk_at "ev", fun a b => by walk_at "ev"⟩
instance : EncN Bool := ⟨fun _ => rfl, fun a => by show eqB (.bl a) .non = _; simp [eqB], fun a => by show eqB .non (.bl a) = _; simp [eqB]⟩
instance : EncF Bool := ⟨fun _ => rfl⟩
theorem enc_bool (i : Bool) : enc i = .bl i := rfl
instance : Enc String := ⟨.str, fun _ => rfl, 0, fun n a => by walk_at "ev", fun a b => by walk_at "ev"⟩
instance : EncN String := ⟨fun _ => rfl, fun a => by show eqB (.str a) .non = _; simp [eqB], fun a => by show eqB .non (.str a) = _; simp [eqB]⟩
instance : EncF String := ⟨fun _ => rfl⟩
section
variable {α β γ : Type} [DecidableEq α] [DecidableEq β] [DecidableEq γ] [Enc α] [Enc β] [Enc γ]
def encO : Option α -> D
  | none => .non
  | some a => enc a
instance [EncN α] : Enc (Option α) where
  enc := encO
  sh a := by cases a; rfl; exact Enc.sh _
  dp := Enc.dp α
  ok n a := by
    cases a with
    | none => show okD _ .non = true; walk_at "ev"
    | some a => exact Enc.ok n a
  eq a b := by
    cases a <;> cases b
    · show eqB .non .non = _; walk_at "ev"
    · rename_i b; show eqB .non (enc b) = _; rw [ne_enc]; simp
    · rename_i b; show eqB (enc b) .non = _; rw [en_enc]; simp
    · rename_i a b; show eqB (enc a) (enc b) = _; rw [eq_enc]; simp
instance [EncN α] [EncF α] : EncF (Option α) := ⟨fun a => by cases a; rfl; exact EncF.fl (α := α) _⟩
def enc2 (p : α × β) : D := .tup [enc p.1, enc p.2]
instance : Enc (α × β) where
  enc := enc2
  sh _ := rfl
  dp := max (Enc.dp α) (Enc.dp β) + 1
  ok n a := by
    show okD (n + (max (Enc.dp α) (Enc.dp β) + 1)) (.tup [enc a.1, enc a.2]) = true
    rw [<- Nat.add_assoc, h_ok_tup, h_oks_cons, h_oks_cons, h_oks_nil, ok_enc _ (by omega), ok_enc _ (by omega)]; rfl
  eq a b := by
    show eqB (.tup [enc a.1, enc a.2]) (.tup [enc b.1, enc b.2]) = _
    rw [h_eqB_tt, h_eqBs_cc, h_eqBs_cc, h_eqBs_nn, eq_enc, eq_enc, Bool.eq_iff_iff]
    simp [Prod.ext_iff]
instance : EncN (α × β) := ⟨fun _ => rfl, fun a => by show eqB (.tup _) .non = _; walk_at "ev", fun a => by show eqB .non (.tup _) = _; walk_at "ev"⟩
structure T3 (α β γ : Type) where
  a : α
  b : β
  c : γ
deriving DecidableEq
instance : Enc (T3 α β γ) where
  enc p := .tup [enc p.a, enc p.b, enc p.c]
  sh _ := rfl
  dp := max (Enc.dp α) (max (Enc.dp β) (Enc.dp γ)) + 1
  ok n a := by
    show okD (n + (max (Enc.dp α) (max (Enc.dp β) (Enc.dp γ)) + 1)) (.tup [enc a.a, enc a.b, enc a.c]) = true
    rw [<- Nat.add_assoc, h_ok_tup, h_oks_cons, h_oks_cons, h_oks_cons, h_oks_nil, ok_enc _ (by omega), ok_enc _ (by omega), ok_enc _ (by omega)]; rfl
  eq a b := by
    show eqB (.tup [enc a.a, enc a.b, enc a.c]) (.tup [enc b.a, enc b.b, enc b.c]) = _
    rw [h_eqB_tt, h_eqBs_cc, h_eqBs_cc, h_eqBs_cc, h_eqBs_nn, eq_enc, eq_enc, eq_enc, Bool.eq_iff_iff]
    cases a; cases b
    simp
instance : EncN (T3 α β γ) := ⟨fun _ => rfl, fun a => by show eqB (.tup _) .non = _; walk_at "ev", fun a => by show eqB .non (.tup _) = _; walk_at "ev"⟩
instance : Enc (List α) where
  enc xs := .lst (xs.map enc)
  sh _ := rfl
  dp := Enc.dp α + 1
  ok n a := by
    show okD (n + (Enc.dp α + 1)) (.lst _) = true
    rw [<- Nat.add_assoc, h_ok_lst]; exact okl_enc a (by omega)
  eq a b := by
    show eqB (.lst _) (.lst _) = _
    rw [h_eqB_ll, eql_enc]
instance : EncN (List α) := ⟨fun _ => rfl, fun a => by show eqB (.lst _) .non = _; simp [eqB], fun a => by show eqB .non (.lst _) = _; simp [eqB]⟩
structure Tp (α : Type) where
  l : List α
deriving DecidableEq
instance : Enc (Tp α) where
  enc xs := .tup (xs.l.map enc)
  sh _ := rfl
  dp := Enc.dp α + 1
  ok n a := by
    show okD (n + (Enc.dp α + 1)) (.tup _) = true
    rw [<- Nat.add_assoc, h_ok_tup]; exact okl_enc a.l (by omega)
  eq a b := by
    show eqB (.tup _) (.tup _) = _
    rw [h_eqB_tt, eql_enc]
    cases a; cases b; simp
instance : EncN (Tp α) := ⟨fun _ => rfl, fun a => by show eqB (.tup _) .non = _; simp [eqB], fun a => by show eqB .non (.tup _) = _; simp [eqB]⟩
end
theorem forL_enc {α : Type} {g : α -> D} {f : D -> Py.Env -> RS} {r : RS} : ∀ {xs : List α} {env : Py.Env} (I : List α -> Py.Env -> Prop), forL f (xs.map g) env = r -> I [] env ->
    (∀ ys x zs e, xs = ys ++ x :: zs -> I ys e -> ∃ e', (f (g x) e = .nx e' \/ f (g x) e = .ct e') /\ I (ys ++ [x]) e') -> ∃ e', r = .nx e' /\ I xs e'
  | [], env, I, h, h0, _ => ⟨env, h.symm, h0⟩
  | x :: xs, env, I, h, h0, hs => by
    obtain ⟨e', h1, h2⟩ := hs [] x xs env rfl h0
    have h : (match f (g x) env with | .nx e => forL f (xs.map g) e | .ct e => forL f (xs.map g) e | .bk e => .nx e | r => r) = r := h
    have h3 : forL f (xs.map g) e' = r := by rcases h1 with h1 | h1 <;> (rw [h1] at h; exact h)
    exact forL_enc (fun ys e => I (x :: ys) e) h3 h2 fun ys y zs e hy hi => hs (x :: ys) y zs e (by rw [hy]; rfl) hi
theorem forL_range {f : D -> Py.Env -> RS} {r : RS} {n : Nat} {env : Py.Env} (I : Nat -> Py.Env -> Prop) (h : forL f (rangeD 0 n) env = r) (h0 : I 0 env)
    (hs : ∀ j e, j < n -> I j e -> ∃ e', (f (.int (j : Int)) e = .nx e' \/ f (.int (j : Int)) e = .ct e') /\ I (j + 1) e') : ∃ e', r = .nx e' /\ I n e' := by
  obtain ⟨e', h1, h2⟩ := forL_gen I h h0 fun i d e hd hi => by
    obtain ⟨hi2, rfl⟩ := rangeD_get hd
    rw [Int.zero_add]
    exact hs i e hi2 hi
  rw [rangeD_length] at h2
  exact ⟨e', h1, h2⟩
end Py
namespace Py
open PySem L2
open Enc (enc)
section
variable {α β : Type} [DecidableEq α] [Enc α]
def kI (m : List (Int × β)) : List Key := m.map fun p => Sum.inl p.1
def vE (g : β -> D) (m : List (Int × β)) : List D := m.map fun p => g p.2
def alG (m : List (Int × β)) (k : Int) : Option β := (m.find? fun p => decide (p.1 = k)).map (·.2)
def alP (m : List (Int × β)) (k : Int) (a : β) : List (Int × β) := if (m.any fun p => decide (p.1 = k)) = true then m.map (fun p => if p.1 = k then (k, a) else p) else m ++ [(k, a)]
theorem kI_length (m : List (Int × β)) : (kI m).length = m.length := by simp [kI]
theorem vE_length (g : β -> D) (m : List (Int × β)) : (vE g m).length = m.length := by simp [vE]
theorem vE_sh {g : β -> D} (h : ∀ b, isSh (g b) = true) (m : List (Int × β)) : (vE g m).all isSh = true := by
  unfold vE
  rw [List.all_map]
  exact List.all_eq_true.mpr fun p _ => h p.2
theorem inl_eq (i j : Int) : ((Sum.inl i : Key) = Sum.inl j) = (i = j) := by
  apply propext; exact ⟨fun h => Sum.inl.inj h, fun h => by rw [h]⟩
theorem dg_al (g : β -> D) (k : Int) : ∀ m : List (Int × β), dg (kI m) (vE g m) (.inl k) = (alG m k).map g
  | [] => rfl
  | p :: m => by
    show dg (Sum.inl p.1 :: kI m) (g p.2 :: vE g m) (.inl k) = _
    unfold dg
    by_cases h : p.1 = k
    · rw [if_pos (by rw [h])]
      unfold alG
      rw [List.find?_cons_of_pos (by simpa using h)]
      rfl
    · rw [if_neg (by rw [inl_eq]; exact h), dg_al g k m]
      unfold alG
      rw [List.find?_cons_of_neg (by simpa using h)]
theorem pos_al (k : Int) : ∀ m : List (Int × β), (pos (Sum.inl k : Key) (kI m) = none /\ (m.any fun p => decide (p.1 = k)) = false) \/ ∃ j p, pos (Sum.inl k : Key) (kI m) = some j /\ m[j]? = some p /\ p.1 = k /\ (m.any fun p => decide (p.1 = k)) = true /\ m.find? (fun p => decide (p.1 = k)) = some p
  | [] => .inl ⟨rfl, rfl⟩
  | p :: m => by
    show ((if (Sum.inl p.1 : Key) = Sum.inl k then some 0 else (pos (Sum.inl k : Key) (kI m)).map (· + 1)) = none /\ _) \/ ∃ j q, (if (Sum.inl p.1 : Key) = Sum.inl k then some 0 else (pos (Sum.inl k : Key) (kI m)).map (· + 1)) = some j /\ _
    by_cases h : p.1 = k
    · rw [if_pos (by rw [h])]
      exact .inr ⟨0, p, rfl, rfl, h, by rw [List.any_cons, decide_eq_true h]; rfl, List.find?_cons_of_pos (by simpa using h)⟩
    · rw [if_neg (by rw [inl_eq]; exact h)]
      rcases pos_al k m with ⟨h1, h2⟩ | ⟨j, q, h1, h2, h3, h4, h5⟩
      · exact .inl ⟨by rw [h1]; rfl, by rw [List.any_cons, h2, decide_eq_false h]; rfl⟩
      · exact .inr ⟨j + 1, q, by rw [h1]; rfl, by simpa using h2, h3, by rw [List.any_cons, h4, Bool.or_true], by rw [List.find?_cons_of_neg (by simpa using h)]; exact h5⟩
def Nk (m : List (Int × β)) : Prop := (m.map (·.1)).Nodup
theorem alP_map {k : Int} {a : β} : ∀ {m : List (Int × β)} {j : Nat}, Nk m -> pos (Sum.inl k : Key) (kI m) = some j -> m.map (fun p => if p.1 = k then (k, a) else p) = m.set j (k, a)
  | [], _, _, h => by cases h
  | p :: m, j, hn, h => by
    have h : (if (Sum.inl p.1 : Key) = Sum.inl k then some 0 else (pos (Sum.inl k : Key) (kI m)).map (· + 1)) = some j := h
    unfold Nk at hn
    rw [List.map_cons, List.nodup_cons] at hn
    rw [List.map_cons]
    by_cases e : p.1 = k
    · rw [if_pos (by rw [e])] at h
      cases h
      rw [if_pos e, List.set_cons_zero]
      congr 1
      have : ∀ q ∈ m, (if q.1 = k then (k, a) else q) = q := fun q hq => by
        rw [if_neg]
        intro z
        exact hn.1 (by rw [e, <- z]; exact List.mem_map.mpr ⟨q, hq, rfl⟩)
      exact (List.map_congr_left this).trans (List.map_id _)
    · rw [if_neg (by rw [inl_eq]; exact e)] at h
      obtain ⟨i, h1, rfl⟩ := Option.map_eq_some_iff.mp h
      rw [if_neg e, List.set_cons_succ, alP_map hn.2 h1]
theorem putP_al {g : β -> D} (hg : ∀ b, isSh (g b) = true) {k : Int} {a : β} {m : List (Int × β)} (hn : Nk m) : putP (kI m) (vE g m) (.inl k) (g a) = some (kI (alP m k a), vE g (alP m k a)) := by
  unfold putP alP
  rcases pos_al k m with ⟨h1, h2⟩ | ⟨j, q, h1, h2, h3, h4, _⟩
  · rw [h1, if_neg (by rw [h2]; decide)]
    simp [kI, vE]
  · rw [h1, if_pos h4, alP_map hn h1]
    dsimp only
    rw [if_pos (vE_sh hg m)]
    have hj := (List.getElem?_eq_some_iff.mp h2).1
    congr 2
    · unfold kI
      rw [List.map_set]
      apply List.ext_getElem?
      intro i
      by_cases e : j = i
      · subst e
        rw [List.getElem?_set_self (by simpa using hj), List.getElem?_map, h2]
        simp [h3]
      · rw [List.getElem?_set_ne e]
    · unfold vE
      rw [List.map_set]
theorem Nk.put {k : Int} {a : β} {m : List (Int × β)} (hn : Nk m) : Nk (alP m k a) := by
  unfold Nk
  unfold alP
  rcases pos_al k m with ⟨h1, h2⟩ | ⟨j, q, h1, h2, h3, h4, _⟩
  · rw [if_neg (by rw [h2]; decide), List.map_append, List.nodup_append]
    refine ⟨hn, by simp, fun x hx y hy z => ?_⟩
    have hy : y = k := by simpa using hy
    subst z hy
    obtain ⟨p, hp, e⟩ := List.mem_map.mp hx
    have : (m.any fun p => decide (p.1 = x)) = true := List.any_eq_true.mpr ⟨p, hp, decide_eq_true e⟩
    rw [h2] at this; cases this
  · rw [if_pos h4, alP_map hn h1, List.map_set]
    have hj := (List.getElem?_eq_some_iff.mp h2).1
    have : (m.map (·.1)).set j k = m.map (·.1) := by
      apply List.ext_getElem?
      intro i
      by_cases e : j = i
      · subst e
        rw [List.getElem?_set_self (by simpa using hj), List.getElem?_map, h2, Option.map_some, h3]
      · rw [List.getElem?_set_ne e]
    show ((m.map (·.1)).set j k).Nodup
    rw [this]
    exact hn
theorem kDs_al : ∀ m : List (Int × β), kDs (kI m) = some (m.map fun p => .int p.1)
  | [] => rfl
  | p :: m => by
    show (kDs (kI m)).map _ = _
    rw [kDs_al m]; rfl
theorem fzs_vE {g h : β -> D} (e : ∀ b, fz (g b) = h b) (m : List (Int × β)) : fzs (vE g m) = vE h m := by
  unfold vE
  rw [fzs_eq, List.map_map]
  exact List.map_congr_left fun p _ => e p.2
theorem dcL_al {γ : Type} {c : γ -> D} {g : β -> D} (hg : ∀ b, isSh (g b) = true) {f : D -> Option (Option (Key × D))} {ky : γ -> Int} {vl : γ -> β} : ∀ {xs : List γ} {m : List (Int × β)}, Nk m -> (∀ x ∈ xs, f (c x) = some (some (.inl (ky x), g (vl x)))) ->
    dcL f (xs.map c) (kI m, vE g m) = some (kI (xs.foldl (fun m x => alP m (ky x) (vl x)) m), vE g (xs.foldl (fun m x => alP m (ky x) (vl x)) m))
  | [], m, _, _ => rfl
  | x :: xs, m, hn, h => by
    show (f (c x)).bind (fun o => (putO (kI m, vE g m) o).bind (dcL f (xs.map c))) = _
    rw [h x (List.mem_cons_self ..), Option.bind_some]
    show (putP (kI m) (vE g m) (.inl (ky x)) (g (vl x))).bind _ = _
    rw [putP_al hg hn, Option.bind_some, dcL_al hg hn.put fun y hy => h y (List.mem_cons_of_mem _ hy)]
    rfl
def dcM {γ : Type} (ky : γ -> Int) (vl : γ -> β) (xs : List γ) : List (Int × β) := xs.foldl (fun m x => alP m (ky x) (vl x)) []
theorem dcL_al0 {γ : Type} {c : γ -> D} {g : β -> D} (hg : ∀ b, isSh (g b) = true) {f : D -> Option (Option (Key × D))} (ky : γ -> Int) (vl : γ -> β) (xs : List γ) (h : ∀ x ∈ xs, f (c x) = some (some (.inl (ky x), g (vl x)))) :
    dcL f (xs.map c) ([], []) = some (kI (dcM ky vl xs), vE g (dcM ky vl xs)) := dcL_al (m := []) hg .nil h
end
end Py
namespace Py
open PySem L2
theorem DefX.funD {K : PySem.W.Frag} {d : DefX} (hcl : d.cl = false) (e : fnXd K d = d.val) (c : d.ok K = true) : ∃ fd, FunD K d.name d.qual (defArgs d.st) (defBody d.st) (defScope d.st) (d.dvs K) (d.kws K) (d.ad K) fd := by
  obtain ⟨kp, c2⟩ := He.ba c
  unfold fnXd DefX.val at e
  rw [hcl] at e
  dsimp only at e
  unfold fnX at e
  cases q : K.lookup (d.ad K) with
  | none =>
    rw [q] at c2
    cases c2
  | some o =>
    obtain ⟨oc, od, dt, osl⟩ := o
    rw [q] at c2 e
    cases dt with
    | func fd =>
      obtain ⟨n1, n2, n3, n4, n5, n6, n7, n8, n9, n10, n11, n12, n13, n14, n15⟩ := fd
      have e2 : (some (n1, n2, n3, n4, n5, n6, n7, n15) : He.FnW) = some (d.name, d.qual, defArgs d.st, .stmts (defBody d.st), defScope d.st, mainGlobals, [], builtinsNs) := e
      simp only [Option.some.injEq, Prod.mk.injEq] at e2
      obtain ⟨h1, h2, h3, h4, h5, h6, h7, h8⟩ := e2
      subst h1 h2 h6 h7 h8
      have c3 : (PySem.W.codeIn K n13 d.qual && (He.dflB K n8 (d.dvs K) && He.kwdB K n9 (d.kws K))) = true := c2
      obtain ⟨k1, k2⟩ := He.ba c3
      obtain ⟨k3, k4⟩ := He.ba k2
      rw [h3, h4, h5] at q
      exact ⟨_, ⟨oc, od, n8, n9, n10, n11, n12, n13, n14, osl, rfl, q, k1, He.dflB_ok k3, He.kwdB_ok k4⟩, kp⟩
    | _ => cases c2
section
variable {fa : List FB} {fn : List DefX} {K : PySem.W.Frag}
theorem SaysX.fact (c : SaysX fa fn K) (i : Nat) {f : FB} (h : fa[i]? = some f := by rfl) : f K = true := by
  have c1 := (He.ba (show ((fa.all fun f => f K) && fn.all fun d => d.ok K) = true from congrArg (fun z : He.AlD => z.1) c)).1
  exact List.all_eq_true.mp c1 f (List.mem_of_getElem? h)
theorem SaysX.def_ (c : SaysX fa fn K) (i : Nat) {d : DefX} (h : fn[i]? = some d := by rfl) (hcl : d.cl = false := by rfl) : ∃ fd, FunD K d.name d.qual (defArgs d.st) (defBody d.st) (defScope d.st) (d.dvs K) (d.kws K) (d.ad K) fd := by
  have c2 := (He.ba (show ((fa.all fun f => f K) && fn.all fun d => d.ok K) = true from congrArg (fun z : He.AlD => z.1) c)).2
  have e : fn.map (fun d => fnXd K d) = fn.map DefX.val := congrArg (fun z : He.AlD => z.2) c
  have e2 : (fn.map fun d => fnXd K d)[i]? = (fn.map DefX.val)[i]? := by rw [e]
  rw [List.getElem?_map, List.getElem?_map, h] at e2
  exact DefX.funD hcl (Option.some.inj e2) (List.all_eq_true.mp c2 d (List.mem_of_getElem? h))
theorem SaysX.cld (c : SaysX fa fn K) (i : Nat) {d : DefX} (h : fn[i]? = some d := by rfl) (hcl : d.cl = true := by rfl) : fnXc K (d.ad K) = some (d.name, d.qual, defArgs d.st, .stmts (defBody d.st), defScope d.st, mainGlobals, [(("__class__" : Str), 0)], builtinsNs) := by
  have e : fn.map (fun d => fnXd K d) = fn.map DefX.val := congrArg (fun z : He.AlD => z.2) c
  have e2 : (fn.map fun d => fnXd K d)[i]? = (fn.map DefX.val)[i]? := by rw [e]
  rw [List.getElem?_map, List.getElem?_map, h] at e2
  have e3 : fnXd K d = d.val := Option.some.inj e2
  obtain ⟨q1, q2, q3, q4, q5, q6, q7⟩ := d
  have hcl : q7 = true := hcl
  subst hcl
  exact e3
end
theorem fExc_ok {P : Program} {K : PySem.W.Frag} {c qual : String} {fs : List String} {file : Str} {params : Arguments} {body : List Stmt} {scope : Scope} (h : fExc c qual fs file K = true)
    (e : fnXc K (ma K c "__init__") = some (("__init__" : Str), so qual, params, .stmts body, scope, mainGlobals, [(("__class__" : Str), 0)], builtinsNs)) (hP : ((P.main.file : Str) == file) = true) :
    PySem.PxE.ExTxt P K (ga K c) (ma K c "__init__") (so qual) params body scope (fs.map so) /\ PySem.W.keepIn K (.ref (ga K c)) = true := by
  obtain ⟨h1, h⟩ := He.ba h
  obtain ⟨h2, h⟩ := He.ba h
  obtain ⟨h3, h⟩ := He.ba h
  obtain ⟨h4, h⟩ := He.ba h
  obtain ⟨h5, h⟩ := He.ba h
  obtain ⟨h6, h⟩ := He.ba h
  obtain ⟨h7, h⟩ := He.ba h
  obtain ⟨h8, h⟩ := He.ba h
  obtain ⟨h9, h⟩ := He.ba h
  obtain ⟨h10, h⟩ := He.ba h
  obtain ⟨h11, h⟩ := He.ba h
  obtain ⟨h12, h⟩ := He.ba h
  obtain ⟨h13, h14⟩ := He.ba h
  refine ⟨⟨h1, ?_, of_decide_eq_true h3, fun f hf => ?_, of_decide_eq_true h5, of_decide_eq_true h6, of_decide_eq_true h7, of_decide_eq_true h8, of_decide_eq_true h9, of_decide_eq_true h10, of_decide_eq_true h11, of_decide_eq_true h12, ?_⟩, h14⟩
  · split at h2
    · rename_i cd q
      obtain ⟨a, b⟩ := He.ba h2
      exact ⟨cd, q, a, b⟩
    · cases h2
  · obtain ⟨f', hf', rfl⟩ := List.mem_map.mp hf
    exact of_decide_eq_true (List.all_eq_true.mp h4 f' hf')
  · unfold fnExB at h13
    unfold fnXc at e
    cases q : K.lookup (ma K c "__init__") with
    | none => rw [q] at h13; cases h13
    | some o =>
      obtain ⟨oc, od, dt, osl⟩ := o
      rw [q] at h13 e
      cases dt with
      | func fd =>
        obtain ⟨n1, n2, n3, n4, n5, n6, n7, n8, n9, n10, n11, n12, n13, n14, n15⟩ := fd
        have e2 : (some (n1, n2, n3, n4, n5, n6, n7.map fun p => (p.1, 0), n15) : He.FnW) = some (("__init__" : Str), so qual, params, .stmts body, scope, mainGlobals, [(("__class__" : Str), 0)], builtinsNs) := e
        simp only [Option.some.injEq, Prod.mk.injEq] at e2
        obtain ⟨z1, z2, z3, z4, z5, z6, z7, z8⟩ := e2
        subst z1 z2 z3 z4 z5 z6 z8
        dsimp only at h13
        obtain ⟨k1, k2⟩ := He.ba h13
        obtain ⟨k2, k3⟩ := He.ba k2
        obtain ⟨k3, k4⟩ := He.ba k3
        match n7, z7, k1 with
        | [(nm, cc)], z7, k1 =>
          have z9 : nm = "__class__" := by
            simp only [List.map_cons, List.map_nil, List.cons.injEq, Prod.mk.injEq, and_true] at z7
            exact z7
          subst z9
          dsimp only at k1
          cases q2 : K.lookup cc with
          | none => rw [q2] at k1; cases k1
          | some o2 =>
            obtain ⟨oc2, od2, dt2, osl2⟩ := o2
            rw [q2] at k1
            cases dt2 with
            | cell v =>
              cases v with
              | none => cases k1
              | some v =>
                cases v with
                | ref Dd =>
                  have k1 : Dd = ga K c := of_decide_eq_true k1
                  subst k1
                  cases n13 with
                  | ref cda =>
                    dsimp only at k2
                    obtain ⟨k5, k6⟩ := He.ba k2
                    cases q3 : K.lookup cda with
                    | none => rw [q3] at k6; cases k6
                    | some o3 =>
                      obtain ⟨oc3, od3, dt3, osl3⟩ := o3
                      rw [q3] at k6
                      cases dt3 with
                      | fields vs =>
                        dsimp only at k6
                        cases q4 : vs[2]? with
                        | none => rw [q4] at k6; cases k6
                        | some v4 =>
                          rw [q4] at k6
                          cases v4 with
                          | str f tf =>
                            have k6 : f = file := of_decide_eq_true k6
                            subst k6
                            have k7 : n8 = .none := by cases n8 <;> first | rfl | cases k3
                            have k8 : n9 = .none := by cases n9 <;> first | rfl | cases k4
                            subst k7 k8
                            exact ⟨oc, od, n10, n11, n12, n14, osl, cda, cc, oc3, od3, vs, osl3, f, tf, oc2, od2, osl2, by first | exact q | rfl, k5, by first | exact q3 | rfl, by first | exact q4 | rfl, hP, by first | exact q2 | rfl⟩
                          | _ => cases k6
                      | _ => cases k6
                  | _ => cases k2
                | _ => cases k1
            | _ => cases k1
      | _ => cases h13
def fLaw (T : Tbl) (P : Program) (w : World) (K : PySem.W.Frag) (cs : List String) (fl : String -> List String) (hT : ∀ c f, c ∈ cs -> T.fOk c f = true -> f ∈ fl c) (sub : String -> String -> Bool) (hs : ∀ c d, T.sub c d = sub c d)
    (xs : List String) (xsub : String -> String -> Bool) (hx : ∀ c d, T.xsub c d = xsub c d) (x1 : fXm xs xsub K = true) (x2 : fXv xs K = true) (x3 : fXc xs K = true)
    (h1 : fCls cs K = true) (h2 : fNoat cs fl K = true) (h3 : fIsT cs K = true) (h4 : fTO cs K = true) (h5 : fOT cs K = true) (h6 : fOO cs sub K = true) : Wd T where
  K := K
  P := P
  w := w
  cA := ga K
  has c := c ∈ cs
  cl c hc := by
    obtain ⟨a, b, c', d⟩ := He.cls_ok (List.all_eq_true.mp h1 c hc)
    exact ⟨a, b, c', d⟩
  na c f hc hf := He.noat_ok (List.all_eq_true.mp (List.all_eq_true.mp h2 c hc) f (hT c f hc hf))
  isT c hc := by
    obtain ⟨a, b⟩ := He.ba (List.all_eq_true.mp h3 c hc)
    obtain ⟨b, d⟩ := He.ba b
    obtain ⟨d, e⟩ := He.ba d
    exact ⟨of_decide_eq_true a, of_decide_eq_true b, of_decide_eq_true d, of_decide_eq_true e⟩
  isTO t c ht hc := of_decide_eq_true (List.all_eq_true.mp (List.all_eq_true.mp h4 t ht) c hc)
  isOT c t hc ht := of_decide_eq_true (List.all_eq_true.mp (List.all_eq_true.mp h5 c hc) t ht)
  hasX c := c ∈ xs
  xm c d hc hd := by
    rw [hx]
    exact of_decide_eq_true (He.ba (List.all_eq_true.mp (List.all_eq_true.mp x1 c hc) d hd)).1
  xk c d hc hd := by
    rw [hx]
    exact of_decide_eq_true (He.ba (List.all_eq_true.mp (List.all_eq_true.mp x1 c hc) d hd)).2
  xv c hc := of_decide_eq_true (List.all_eq_true.mp x2 c hc)
  xc c hc := by
    obtain ⟨h1, h⟩ := He.ba (List.all_eq_true.mp x3 c hc)
    obtain ⟨h2, h⟩ := He.ba h
    obtain ⟨h3, h⟩ := He.ba h
    obtain ⟨h4, h⟩ := He.ba h
    obtain ⟨h5, h⟩ := He.ba h
    obtain ⟨h6, h⟩ := He.ba h
    obtain ⟨h7, h8⟩ := He.ba h
    exact ⟨of_decide_eq_true h1, of_decide_eq_true h2, of_decide_eq_true h3, h4, of_decide_eq_true h5, of_decide_eq_true h6, of_decide_eq_true h7, of_decide_eq_true h8⟩
  isOO c d hc hd := by rw [hs]; exact of_decide_eq_true (List.all_eq_true.mp (List.all_eq_true.mp h6 c hc) d hd)
theorem fDun_ok {T : Tbl} {W : Wd T} {cs : List String} (hh : ∀ c, W.has c -> c ∈ cs) (hc : ∀ c, W.cA c = ga W.K c) (h : fDun cs W.K = true) : Dun W := by
  have g := fun c hc' => He.ba (List.all_eq_true.mp h c (hh c hc'))
  refine ⟨fun c z => hc c ▸ (g c z).1, fun c t z m => hc c ▸ List.all_eq_true.mp (He.ba (g c z).2).1 t m, fun c f z m => ?_⟩
  have := (He.ba (g c z).2).2
  rw [hc c] at m
  rw [m] at this
  exact this
end Py
namespace Py
open PySem L2 NdefX
end Py
namespace Py
open PySem L2
end Py
namespace Py
open PySem L2
noncomputable section
def b_is_integer {T : Tbl} (W : Wd T) (φ : Sem) : XS W :=
  (xsRet (xmP (xAnd (xIsi (false, "int") (xVar W 0)) (xNot (xIsi (false, "bool") (xVar W 0))))))
def l1_HashFunction___init__ {T : Tbl} (W : Wd T) (φ : Sem) : XS W :=
  (xsIf (xtNot (xtTru (xCall (φ "is_integer") 1 (xaCons (xVar W 4) (xaNil W)) [] [] (fun _ => .nil)))) (xsRaise "BadFunction" ["field"] (xaCons (xStr W "table") (xaNil W))) (xsNext W))
def b_HashFunction___init__ {T : Tbl} (W : Wd T) (φ : Sem) : XS W :=
  (xsSeq (xsIf (xtOr (xtNot (xtTru (xCall (φ "is_integer") 1 (xaCons (xVar W 1) (xaNil W)) [] [] (fun _ => .nil)))) (xtOr (xtV (xLt (xVar W 1) (xInt W 1))) (xtV (xGt (xVar W 1) (xInt W 64))))) (xsRaise "BadFunction" ["field"] (xaCons (xStr W "fan_out") (xaNil W))) (xsNext W))
  (xsSeq (xsFrz [2] (xsAlt (xsForD 2 (xgN W 4) (l1_HashFunction___init__ W φ)) (xsAlt (xsFor (xiLf (xVar W 2)) (xgN W 4) (l1_HashFunction___init__ W φ)) (xsFor (xiRw (xVar W 2)) (xgN W 4) (l1_HashFunction___init__ W φ)))))
  (xsSeq (xsFld (plVar W 0) "fan_out" (xmVar W 1))
  (xsSeq (xsFld (plVar W 0) "other" (xmVar W 3))
  (xsFrz [2] (xsFld (plVar W 0) "_parts" (xmP (xDcD 2 (xgN W 4) (xtYes W) (xVar W 4) (xDix (xVar W 2) (xVar W 4))))))))))
def b_HashFunction___call__ {T : Tbl} (W : Wd T) (φ : Sem) : XS W :=
  (xsFrz [1, 0] (xsRet (xmMeth φ "part_of" 2 (plVar W 0) (xaCons (xVar W 1) (xaNil W)))))
def b_HashFunction_part_of {T : Tbl} (W : Wd T) (φ : Sem) : XS W :=
  (xsSeq (xsAsg 2 (xmP (xDget2 (xFld (xVar W 0) "_parts") (xVar W 1) (xFld (xVar W 0) "other"))))
  (xsSeq (xsIf (xtOr (xtNot (xtTru (xCall (φ "is_integer") 1 (xaCons (xVar W 2) (xaNil W)) [] [] (fun _ => .nil)))) (xtOr (xtV (xLt (xVar W 2) (xInt W 0))) (xtV (xGe (xVar W 2) (xFld (xVar W 0) "fan_out"))))) (xsRaise "BadPart" ["key", "part"] (xaCons (xVar W 1) (xaCons (xVar W 2) (xaNil W)))) (xsNext W))
  (xsRet (xmMove W 2))))
def l1_law_draws {T : Tbl} (W : Wd T) (φ : Sem) : XS W :=
  (xsSeq (xsAsg 7 (xmP (xInt W 0)))
  (xsSeq (xsIf (xtTru (xVar W 4)) (xsSeq (xsAsg 7 (xmP (xMod (xInt1 (xaCons (xVar W 3) (xaNil W))) (xInt W 1000))))
  (xsAsg 3 (xmP (xDiv (xVar W 3) (xInt W 1000))))) (xsIf (xtV (xGt (xVar W 3) (xInt W 0))) (xsSeq (xsAsg 8 (xmP (xMod (xInt1 (xaCons (xAdd (xMul (xVar W 3) (xAdd (xInt W 48271) (xMul (xInt W 6) (xVar W 6)))) (xMul (xInt W 69621) (xVar W 6))) (xaNil W))) (xInt W 2147483647))))
  (xsSeq (xsAsg 8 (xmP (xMod (xInt1 (xaCons (xAdd (xAdd (xMul (xVar W 8) (xVar W 8)) (xMul (xInt W 40692) (xVar W 6))) (xInt W 1)) (xaNil W))) (xInt W 2147483629))))
  (xsAsg 7 (xmP (xMod (xInt1 (xaCons (xVar W 8) (xaNil W))) (xInt W 1000)))))) (xsNext W)))
  (xsExpr (xmAppend (plVar W 5) (xVar W 7)))))
def b_law_draws {T : Tbl} (W : Wd T) (φ : Sem) : XS W :=
  (xsSeq (xsAsg 3 (xmP (xInt W 0)))
  (xsSeq (xsIf (xtV (xLt (xVar W 1) (xLen (xaCons (xVar W 0) (xaNil W))))) (xsAsg 3 (xmP (xAbs (xaCons (xIx (xVar W 0) (xVar W 1)) (xaNil W))))) (xsNext W))
  (xsSeq (xsAsg 4 (xmP (xGe (xVar W 3) (xPow (xInt W 10) (xInt W 18)))))
  (xsSeq (xsAsg 5 (xmP (xLst (xaNil W))))
  (xsSeq (xsFor (xiR1 (xaCons (xVar W 2) (xaNil W))) (xgN W 6) (l1_law_draws W φ))
  (xsRet (xmMove W 5)))))))
def b_law_refused {T : Tbl} (W : Wd T) (φ : Sem) : XS W :=
  (xsSeq (xsAsg 2 (xmP (xStr W "taken")))
  (xsSeq (xsTryAs 3 "BadFunction" (xsFrz [0, 1] (xsExpr (xmMakeN φ "HashFunction" "HashFunction.__init__" 2 0 4 [true] [.int 0] (by decide) (xaCons (xVar W 0) (xaCons (xVar W 1) (xaNil W))) (xaNil W)))) (xhAsg 2 (xqFld W 3 "BadFunction" "field")))
  (xsRet (xmMove W 2))))
def b_law_refused_base {T : Tbl} (W : Wd T) (φ : Sem) : XS W :=
  (xsSeq (xsAsg 2 (xmP (xBl W false)))
  (xsSeq (xsTryAs 3 "JoinError" (xsFrz [0, 1] (xsExpr (xmMakeN φ "HashFunction" "HashFunction.__init__" 2 0 4 [true] [.int 0] (by decide) (xaCons (xVar W 0) (xaCons (xVar W 1) (xaNil W))) (xaNil W)))) (xhAsg 2 (xqAnd (xqIs W 3 (false, "ValueError")) (xqAnd (xqIs W 3 (true, "BadFunction")) (xqNot (xqIsT W 3 [(true, "BadPart"), (true, "BadPlan")]))))))
  (xsRet (xmMove W 2))))
def b_law_asked {T : Tbl} (W : Wd T) (φ : Sem) : XS W :=
  (xsSeq (xsAsg 2 (xmP (xLst (xaCons (xStr W "part") (xaNil W)))))
  (xsSeq (xsTryAs 3 "BadPart" (xsExpr (xmAppendR 2 (xmCallO φ 2 (xVar W 0) (xaCons (xVar W 1) (xaNil W))))) (xhAsg 2 (xqLst (xqsCons (xqP (xStr W "wrong")) (xqsCons (xqFld W 3 "BadPart" "key") (xqsCons (xqFld W 3 "BadPart" "part") (xqsNil W 3)))))))
  (xsRet (xmMove W 2))))
def b_law_asked_base {T : Tbl} (W : Wd T) (φ : Sem) : XS W :=
  (xsSeq (xsAsg 2 (xmP (xBl W false)))
  (xsSeq (xsTryAs 3 "JoinError" (xsExpr (xmCallO φ 2 (xVar W 0) (xaCons (xVar W 1) (xaNil W)))) (xhAsg 2 (xqAnd (xqIs W 3 (false, "ValueError")) (xqAnd (xqIs W 3 (true, "BadPart")) (xqNot (xqIsT W 3 [(true, "BadFunction"), (true, "BadRow")]))))))
  (xsRet (xmMove W 2))))
def b_law_same {T : Tbl} (W : Wd T) (φ : Sem) : XS W :=
  (xsRet (xmP (xAnd (xEq (xIsi (false, "bool") (xVar W 0)) (xIsi (false, "bool") (xVar W 1))) (xEq (xVar W 0) (xVar W 1)))))
def l1_law {T : Tbl} (W : Wd T) (φ : Sem) : XS W :=
  (xsDput (plVar W 3) (xMul (xVar W 4) (xInt W 10)) (xmP (xMod (xInt1 (xaCons (xAdd (xIx (xVar W 1) (xInt W 2)) (xVar W 4)) (xaNil W))) (xVar W 2))))
def l2_law {T : Tbl} (W : Wd T) (φ : Sem) : XS W :=
  (xsSeq (xsFrz [11] (xsAsg 13 (xmP (xCall (φ "_law_asked") 2 (xaCons (xVar W 11) (xaCons (xInt W 7) (xaNil W))) [] [] (fun _ => .nil)))))
  (xsSeq (xsIf (xtOr (xtV (xNe (xLen (xaCons (xVar W 13) (xaNil W))) (xInt W 3))) (xtOr (xtV (xNe (xIx (xVar W 13) (xInt W 1)) (xInt W 7))) (xtOr (xtNot (xtTru (xCall (φ "_law_same") 2 (xaCons (xIx (xVar W 13) (xInt W 2)) (xaCons (xVar W 10) (xaNil W))) [] [] (fun _ => .nil)))) (xtNot (xtTru (xCall (φ "_law_asked_base") 2 (xaCons (xVar W 11) (xaCons (xInt W 7) (xaNil W))) [] [] (fun _ => .nil))))))) (xsRet (xmP (xBl W false))) (xsNext W))
  (xsIf (xtV (xNe (xCall (φ "_law_asked") 2 (xaCons (xVar W 11) (xaCons (xInt W 3) (xaNil W))) [] [] (fun _ => .nil)) (xLst (xaCons (xStr W "part") (xaCons (xInt W 0) (xaNil W)))))) (xsRet (xmP (xBl W false))) (xsNext W))))
def b_law {T : Tbl} (W : Wd T) (φ : Sem) : XS W :=
  (xsSeq (xsFrz [0] (xsAsg 1 (xmP (xCall (φ "_law_draws") 3 (xaCons (xVar W 0) (xaCons (xInt W 0) (xaCons (xInt W 7) (xaNil W)))) [] [] (fun _ => .nil)))))
  (xsSeq (xsAsg 2 (xmP (xAdd (xInt W 1) (xMod (xInt1 (xaCons (xIx (xVar W 1) (xInt W 0)) (xaNil W))) (xInt W 64)))))
  (xsSeq (xsAsg 3 (xmP (xDnew W)))
  (xsSeq (xsFor (xiR1 (xaCons (xMod (xInt1 (xaCons (xIx (xVar W 1) (xInt W 1)) (xaNil W))) (xInt W 7)) (xaNil W))) (xgN W 4) (l1_law W φ))
  (xsSeq (xsAsg 5 (xmP (xLst (xaCons (xInt W 0) (xaCons (xNeg (xInt W 1)) (xaCons (xInt W 65) (xaCons (xPow (xInt W 10) (xInt W 20)) (xaCons (xBl W true) (xaCons (xBl W false) (xaCons (xNon W) (xaCons (xStr W "2") (xaCons (xLst (xaCons (xInt W 2) (xaNil W))) (xaCons (xTup (xaCons (xInt W 1) (xaNil W))) (xaNil W))))))))))))))
  (xsSeq (xsAsg 6 (xmP (xIx (xVar W 5) (xMod (xInt1 (xaCons (xIx (xVar W 1) (xInt W 3)) (xaNil W))) (xInt W 10)))))
  (xsSeq (xsAsg 7 (xmP (xIx (xLst (xaCons (xBl W true) (xaCons (xBl W false) (xaCons (xNon W) (xaCons (xStr W "1") (xaCons (xTup (xaCons (xInt W 1) (xaNil W))) (xaCons (xStr W "key") (xaNil W)))))))) (xMod (xInt1 (xaCons (xIx (xVar W 1) (xInt W 4)) (xaNil W))) (xInt W 6)))))
  (xsSeq (xsAsg 8 (xmP (xDisp3 (xNeg (xInt W 5)) (xInt W 0) (xVar W 7) (xInt W 0) (xInt W 5) (xInt W 0))))
  (xsSeq (xsIf (xtOr (xtV (xNe (xCall (φ "_law_refused") 2 (xaCons (xVar W 6) (xaCons (xDict (xVar W 3)) (xaNil W))) [] [] (fun _ => .nil)) (xStr W "fan_out"))) (xtV (xNe (xCall (φ "_law_refused") 2 (xaCons (xVar W 2) (xaCons (xVar W 8) (xaNil W))) [] [] (fun _ => .nil)) (xStr W "table")))) (xsRet (xmP (xBl W false))) (xsNext W))
  (xsSeq (xsIf (xtOr (xtV (xNe (xCall (φ "_law_refused") 2 (xaCons (xVar W 6) (xaCons (xVar W 8) (xaNil W))) [] [] (fun _ => .nil)) (xStr W "fan_out"))) (xtV (xNe (xCall (φ "_law_refused") 2 (xaCons (xVar W 2) (xaCons (xDict (xVar W 3)) (xaNil W))) [] [] (fun _ => .nil)) (xStr W "taken")))) (xsRet (xmP (xBl W false))) (xsNext W))
  (xsSeq (xsIf (xtOr (xtNot (xtTru (xCall (φ "_law_refused_base") 2 (xaCons (xVar W 6) (xaCons (xDict (xVar W 3)) (xaNil W))) [] [] (fun _ => .nil)))) (xtNot (xtTru (xCall (φ "_law_refused_base") 2 (xaCons (xVar W 2) (xaCons (xVar W 8) (xaNil W))) [] [] (fun _ => .nil))))) (xsRet (xmP (xBl W false))) (xsNext W))
  (xsSeq (xsAsg 9 (xmP (xLst (xaCons (xVar W 2) (xaCons (xNeg (xInt W 1)) (xaCons (xPow (xInt W 10) (xInt W 20)) (xaCons (xBl W true) (xaCons (xBl W false) (xaCons (xNon W) (xaCons (xStr W "0") (xaCons (xLst (xaCons (xInt W 0) (xaNil W))) (xaNil W))))))))))))
  (xsSeq (xsAsg 10 (xmP (xIx (xVar W 9) (xMod (xInt1 (xaCons (xIx (xVar W 1) (xInt W 5)) (xaNil W))) (xInt W 8)))))
  (xsSeq (xsDput (plVar W 3) (xInt W 7) (xmVar W 10))
  (xsSeq (xsFrz [2, 3] (xsAsg 11 (xmP (xMakeN φ "HashFunction" "HashFunction.__init__" 2 1 4 [false] [] (by decide) (xaCons (xVar W 2) (xaCons (xVar W 3) (xaNil W))) (xaCons (xInt W 0) (xaNil W))))))
  (xsSeq (xsFrz [11] (xsIf (xtV (xEq (xMod (xInt1 (xaCons (xIx (xVar W 1) (xInt W 6)) (xaNil W))) (xInt W 2)) (xInt W 1))) (xsFrz [2] (xsAsg 11 (xmP (xMakeN φ "HashFunction" "HashFunction.__init__" 2 1 4 [false] [] (by decide) (xaCons (xVar W 2) (xaCons (xDisp [((xInt W 3), (xInt W 0))]) (xaNil W))) (xaCons (xVar W 10) (xaNil W)))))) (xsNext W)))
  (xsSeq (xsFor (xiR1 (xaCons (xInt W 2) (xaNil W))) (xgN W 12) (l2_law W φ))
  (xsRet (xmP (xBl W true))))))))))))))))))))
def itT (c : String) : Option String :=  none
def TT : Tbl := ⟨fun c f => (fldL c).contains f, fun _ _ => none, subT, resT, itT, xsubT⟩
theorem xs_JoinError_JoinError : TT.xsub "JoinError" "JoinError" = true := by simp [TT, xsubT]
theorem xs_JoinError_BadRow : TT.xsub "JoinError" "BadRow" = false := by simp [TT, xsubT]
theorem xs_JoinError_BadPlan : TT.xsub "JoinError" "BadPlan" = false := by simp [TT, xsubT]
theorem xs_JoinError_BadFunction : TT.xsub "JoinError" "BadFunction" = false := by simp [TT, xsubT]
theorem xs_JoinError_BadPart : TT.xsub "JoinError" "BadPart" = false := by simp [TT, xsubT]
theorem xs_BadRow_JoinError : TT.xsub "BadRow" "JoinError" = true := by simp [TT, xsubT]
theorem xs_BadRow_BadRow : TT.xsub "BadRow" "BadRow" = true := by simp [TT, xsubT]
theorem xs_BadRow_BadPlan : TT.xsub "BadRow" "BadPlan" = false := by simp [TT, xsubT]
theorem xs_BadRow_BadFunction : TT.xsub "BadRow" "BadFunction" = false := by simp [TT, xsubT]
theorem xs_BadRow_BadPart : TT.xsub "BadRow" "BadPart" = false := by simp [TT, xsubT]
theorem xs_BadPlan_JoinError : TT.xsub "BadPlan" "JoinError" = true := by simp [TT, xsubT]
theorem xs_BadPlan_BadRow : TT.xsub "BadPlan" "BadRow" = false := by simp [TT, xsubT]
theorem xs_BadPlan_BadPlan : TT.xsub "BadPlan" "BadPlan" = true := by simp [TT, xsubT]
theorem xs_BadPlan_BadFunction : TT.xsub "BadPlan" "BadFunction" = false := by simp [TT, xsubT]
theorem xs_BadPlan_BadPart : TT.xsub "BadPlan" "BadPart" = false := by simp [TT, xsubT]
theorem xs_BadFunction_JoinError : TT.xsub "BadFunction" "JoinError" = true := by simp [TT, xsubT]
theorem xs_BadFunction_BadRow : TT.xsub "BadFunction" "BadRow" = false := by simp [TT, xsubT]
theorem xs_BadFunction_BadPlan : TT.xsub "BadFunction" "BadPlan" = false := by simp [TT, xsubT]
theorem xs_BadFunction_BadFunction : TT.xsub "BadFunction" "BadFunction" = true := by simp [TT, xsubT]
theorem xs_BadFunction_BadPart : TT.xsub "BadFunction" "BadPart" = false := by simp [TT, xsubT]
theorem xs_BadPart_JoinError : TT.xsub "BadPart" "JoinError" = true := by simp [TT, xsubT]
theorem xs_BadPart_BadRow : TT.xsub "BadPart" "BadRow" = false := by simp [TT, xsubT]
theorem xs_BadPart_BadPlan : TT.xsub "BadPart" "BadPlan" = false := by simp [TT, xsubT]
theorem xs_BadPart_BadFunction : TT.xsub "BadPart" "BadFunction" = false := by simp [TT, xsubT]
theorem xs_BadPart_BadPart : TT.xsub "BadPart" "BadPart" = true := by simp [TT, xsubT]
theorem ik_HashFunction : TT.it "HashFunction" = none := by simp [TT, itT]
theorem fk_HashFunction_fan_out : TT.fOk "HashFunction" "fan_out" = true := by simp [TT, fldL]
theorem fk_HashFunction_other : TT.fOk "HashFunction" "other" = true := by simp [TT, fldL]
theorem fk_HashFunction__parts : TT.fOk "HashFunction" "_parts" = true := by simp [TT, fldL]
theorem rs_HashFunction___call__ : TT.res "HashFunction" "__call__" = some "HashFunction.__call__" := by simp [TT, resT]
theorem rs_HashFunction_part_of : TT.res "HashFunction" "part_of" = some "HashFunction.part_of" := by simp [TT, resT]
theorem sb_HashFunction_HashFunction : TT.sub "HashFunction" "HashFunction" = true := by simp [TT, subT]
def tbl {T : Tbl} (W : Wd T) : String -> Option (Sem -> List D -> Option Nat -> Rz)
  | "is_integer" => some fun φ => runFn 1 (b_is_integer W φ)
  | "HashFunction.__init__" => some fun φ => runFn 5 (b_HashFunction___init__ W φ)
  | "HashFunction.__call__" => some fun φ => runFn 2 (b_HashFunction___call__ W φ)
  | "HashFunction.part_of" => some fun φ => runFn 3 (b_HashFunction_part_of W φ)
  | "_law_draws" => some fun φ => runFn 9 (b_law_draws W φ)
  | "_law_refused" => some fun φ => runFn 4 (b_law_refused W φ)
  | "_law_refused_base" => some fun φ => runFn 4 (b_law_refused_base W φ)
  | "_law_asked" => some fun φ => runFn 4 (b_law_asked W φ)
  | "_law_asked_base" => some fun φ => runFn 4 (b_law_asked_base W φ)
  | "_law_same" => some fun φ => runFn 2 (b_law_same W φ)
  | _ => none
theorem sem_is_integer {T : Tbl} (W : Wd T) (k : Nat) (args : List D) (b : Option Nat) : semT (tbl W) (k + 1) "is_integer" args b = runFn 1 (b_is_integer W (semT (tbl W) k)) args b := rfl
theorem sem_HashFunction___init__ {T : Tbl} (W : Wd T) (k : Nat) (args : List D) (b : Option Nat) : semT (tbl W) (k + 1) "HashFunction.__init__" args b = runFn 5 (b_HashFunction___init__ W (semT (tbl W) k)) args b := rfl
theorem sem_HashFunction___call__ {T : Tbl} (W : Wd T) (k : Nat) (args : List D) (b : Option Nat) : semT (tbl W) (k + 1) "HashFunction.__call__" args b = runFn 2 (b_HashFunction___call__ W (semT (tbl W) k)) args b := rfl
theorem sem_HashFunction_part_of {T : Tbl} (W : Wd T) (k : Nat) (args : List D) (b : Option Nat) : semT (tbl W) (k + 1) "HashFunction.part_of" args b = runFn 3 (b_HashFunction_part_of W (semT (tbl W) k)) args b := rfl
theorem sem_law_draws {T : Tbl} (W : Wd T) (k : Nat) (args : List D) (b : Option Nat) : semT (tbl W) (k + 1) "_law_draws" args b = runFn 9 (b_law_draws W (semT (tbl W) k)) args b := rfl
theorem sem_law_refused {T : Tbl} (W : Wd T) (k : Nat) (args : List D) (b : Option Nat) : semT (tbl W) (k + 1) "_law_refused" args b = runFn 4 (b_law_refused W (semT (tbl W) k)) args b := rfl
theorem sem_law_refused_base {T : Tbl} (W : Wd T) (k : Nat) (args : List D) (b : Option Nat) : semT (tbl W) (k + 1) "_law_refused_base" args b = runFn 4 (b_law_refused_base W (semT (tbl W) k)) args b := rfl
theorem sem_law_asked {T : Tbl} (W : Wd T) (k : Nat) (args : List D) (b : Option Nat) : semT (tbl W) (k + 1) "_law_asked" args b = runFn 4 (b_law_asked W (semT (tbl W) k)) args b := rfl
theorem sem_law_asked_base {T : Tbl} (W : Wd T) (k : Nat) (args : List D) (b : Option Nat) : semT (tbl W) (k + 1) "_law_asked_base" args b = runFn 4 (b_law_asked_base W (semT (tbl W) k)) args b := rfl
theorem sem_law_same {T : Tbl} (W : Wd T) (k : Nat) (args : List D) (b : Option Nat) : semT (tbl W) (k + 1) "_law_same" args b = runFn 2 (b_law_same W (semT (tbl W) k)) args b := rfl
end
end Py
namespace Py
open PySem L2
local macro_rules | `(tactic| dsimp? only [$xs,*]) => `(tactic| dsimp only [$xs,*, xDisp3, xiRw, xsAlt, xsSeq, xsNext, xsAsg, xsExpr, xsRet, xsIf, xsFrz, xsFor, xmP, xmVar, xmMove, xmBM, xmAppend, plVar, xoNil, xoCons, xVar, xC, xInt, xBl, xNon, xStr, xOp, xMul, xDiv, xMod, xPow, xNeg, xAdd, xEq, xNe, xLt, xCmp, xGt, xGe, xAnd, xNot, xtV, xtTru, xtOr, xtNot, xtYes, xaNil, xaCons, xTup, xLst, xCb, xInt1, xAbs, xLen, xIx, xFld, xIsi, xCall, xgN, xiR1, xmMeth, xsFld, tCls, xMakeN, xDnew, xDget2, xDix, xDict, xsDput, xsForD, xsLock, xiKeysL, xpLock, xDc, xDcD, xsAlt, xVar, xDisp, List.map_cons, List.map_nil, xsRaise, xsTryAs, xhAsg, xqP, xqFld, xqIs, xqIsT, xqAnd, xqNot, xqLst, xqsNil, xqsCons, xmMakeN, xmCallO, xmAppendR])
abbrev N_is_integer : List Str := ["thing"]
abbrev A_is_integer : List Str := ["thing"]
theorem sc_is_integer : FnScope N_is_integer A_is_integer (defScope s_is_integer) := ⟨rfl, rfl, rfl, by decide +kernel, rfl, by decide +kernel, by decide +kernel⟩
theorem bp_is_integer : BindsP "is_integer" "is_integer" s_is_integer A_is_integer := fun _ _ _ _ _ _ us hl => match us, hl with | [_], _ => rfl
abbrev N_law_draws : List Str := ["_law_script", "_law_at", "_law_many", "_law_number", "_law_big", "_law_found", "_law_k", "_law_draw", "_law_mixed"]
abbrev A_law_draws : List Str := ["_law_script", "_law_at", "_law_many"]
theorem sc_law_draws : FnScope N_law_draws A_law_draws (defScope s_law_draws) := ⟨rfl, rfl, rfl, by decide +kernel, rfl, by decide +kernel, by decide +kernel⟩
theorem bp_law_draws : BindsP "_law_draws" "_law_draws" s_law_draws A_law_draws := fun _ _ _ _ _ _ us hl => match us, hl with | [_, _, _], _ => rfl
abbrev N_law_refused : List Str := ["_law_fan_out", "_law_table", "_law_found", "e"]
abbrev A_law_refused : List Str := ["_law_fan_out", "_law_table"]
theorem sc_law_refused : FnScope N_law_refused A_law_refused (defScope s_law_refused) := ⟨rfl, rfl, rfl, by decide +kernel, rfl, by decide +kernel, by decide +kernel⟩
theorem bp_law_refused : BindsP "_law_refused" "_law_refused" s_law_refused A_law_refused := fun _ _ _ _ _ _ us hl => match us, hl with | [_, _], _ => rfl
abbrev N_law_refused_base : List Str := ["_law_fan_out", "_law_table", "_law_base", "e"]
abbrev A_law_refused_base : List Str := ["_law_fan_out", "_law_table"]
theorem sc_law_refused_base : FnScope N_law_refused_base A_law_refused_base (defScope s_law_refused_base) := ⟨rfl, rfl, rfl, by decide +kernel, rfl, by decide +kernel, by decide +kernel⟩
theorem bp_law_refused_base : BindsP "_law_refused_base" "_law_refused_base" s_law_refused_base A_law_refused_base := fun _ _ _ _ _ _ us hl => match us, hl with | [_, _], _ => rfl
abbrev N_law_asked : List Str := ["_law_function", "_law_key", "_law_found", "e"]
abbrev A_law_asked : List Str := ["_law_function", "_law_key"]
theorem sc_law_asked : FnScope N_law_asked A_law_asked (defScope s_law_asked) := ⟨rfl, rfl, rfl, by decide +kernel, rfl, by decide +kernel, by decide +kernel⟩
theorem bp_law_asked : BindsP "_law_asked" "_law_asked" s_law_asked A_law_asked := fun _ _ _ _ _ _ us hl => match us, hl with | [_, _], _ => rfl
abbrev N_law_asked_base : List Str := ["_law_function", "_law_key", "_law_base", "e"]
abbrev A_law_asked_base : List Str := ["_law_function", "_law_key"]
theorem sc_law_asked_base : FnScope N_law_asked_base A_law_asked_base (defScope s_law_asked_base) := ⟨rfl, rfl, rfl, by decide +kernel, rfl, by decide +kernel, by decide +kernel⟩
theorem bp_law_asked_base : BindsP "_law_asked_base" "_law_asked_base" s_law_asked_base A_law_asked_base := fun _ _ _ _ _ _ us hl => match us, hl with | [_, _], _ => rfl
abbrev N_law_same : List Str := ["_law_first", "_law_second"]
abbrev A_law_same : List Str := ["_law_first", "_law_second"]
theorem sc_law_same : FnScope N_law_same A_law_same (defScope s_law_same) := ⟨rfl, rfl, rfl, by decide +kernel, rfl, by decide +kernel, by decide +kernel⟩
theorem bp_law_same : BindsP "_law_same" "_law_same" s_law_same A_law_same := fun _ _ _ _ _ _ us hl => match us, hl with | [_, _], _ => rfl
abbrev N_HashFunction___init__ : List Str := ["self", "fan_out", "table", "other", "key"]
abbrev A_HashFunction___init__ : List Str := ["self", "fan_out", "table", "other"]
theorem sc_HashFunction___init__ : FnScope N_HashFunction___init__ A_HashFunction___init__ (defScope s_HashFunction___init__) := ⟨rfl, rfl, rfl, by decide +kernel, rfl, by decide +kernel, by decide +kernel⟩
abbrev N_HashFunction___call__ : List Str := ["self", "key"]
abbrev A_HashFunction___call__ : List Str := ["self", "key"]
theorem sc_HashFunction___call__ : FnScope N_HashFunction___call__ A_HashFunction___call__ (defScope s_HashFunction___call__) := ⟨rfl, rfl, rfl, by decide +kernel, rfl, by decide +kernel, by decide +kernel⟩
theorem bp_HashFunction___call__ : BindsP "__call__" "HashFunction.__call__" s_HashFunction___call__ A_HashFunction___call__ := fun _ _ _ _ _ _ us hl => match us, hl with | [_, _], _ => rfl
abbrev N_HashFunction_part_of : List Str := ["self", "key", "part"]
abbrev A_HashFunction_part_of : List Str := ["self", "key"]
theorem sc_HashFunction_part_of : FnScope N_HashFunction_part_of A_HashFunction_part_of (defScope s_HashFunction_part_of) := ⟨rfl, rfl, rfl, by decide +kernel, rfl, by decide +kernel, by decide +kernel⟩
theorem bp_HashFunction_part_of : BindsP "part_of" "HashFunction.part_of" s_HashFunction_part_of A_HashFunction_part_of := fun _ _ _ _ _ _ us hl => match us, hl with | [_, _], _ => rfl
abbrev N_law : List Str := ["_law_script", "_law_shape", "_law_fan_out", "_law_table", "_law_k", "_law_outs", "_law_wrong_out", "_law_wrong_key", "_law_mixed", "_law_parts", "_law_wrong", "_law_function", "_law_turn", "_law_told"]
abbrev A_law : List Str := ["_law_script"]
theorem sc_law : FnScope N_law A_law (defScope s_law) := ⟨rfl, rfl, rfl, by decide +kernel, rfl, by decide +kernel, by decide +kernel⟩
theorem bp_law : BindsP "law" "law" s_law A_law := fun _ _ _ _ _ _ us hl => match us, hl with | [_], _ => rfl
section
variable {W : Wd TT} {mg : Str -> Option Value} {base : Heap}
structure Cs (W : Wd TT) (mg : Str -> Option Value) : Prop where
  hasL : ∀ c, W.has c -> c ∈ clsL
  dun : Dun W
  has_HashFunction : W.has "HashFunction"
  g_HashFunction : mg "HashFunction" = some (.ref (W.cA "HashFunction"))
  a_HashFunction___init__ : MethAt W.K (W.cA "HashFunction") "__init__" "__init__" "HashFunction.__init__" s_HashFunction___init__ [] [("other", .int 0)]
  a_HashFunction___call__ : MethAt W.K (W.cA "HashFunction") "__call__" "__call__" "HashFunction.__call__" s_HashFunction___call__ [] []
  a_HashFunction_part_of : MethAt W.K (W.cA "HashFunction") "part_of" "part_of" "HashFunction.part_of" s_HashFunction_part_of [] []
  k_HashFunction : ∃ f, Mk W.K (W.cA "HashFunction") f
  noVE : mg "ValueError" = none
  hx_JoinError : W.hasX "JoinError"
  gx_JoinError : mg "JoinError" = some (.ref (W.cA "JoinError"))
  hx_BadRow : W.hasX "BadRow"
  gx_BadRow : mg "BadRow" = some (.ref (W.cA "BadRow"))
  x_BadRow : ExcD W.P W.K mg "BadRow" (W.cA "BadRow") (["number"].map so)
  hx_BadPlan : W.hasX "BadPlan"
  gx_BadPlan : mg "BadPlan" = some (.ref (W.cA "BadPlan"))
  x_BadPlan : ExcD W.P W.K mg "BadPlan" (W.cA "BadPlan") (["field"].map so)
  hx_BadFunction : W.hasX "BadFunction"
  gx_BadFunction : mg "BadFunction" = some (.ref (W.cA "BadFunction"))
  x_BadFunction : ExcD W.P W.K mg "BadFunction" (W.cA "BadFunction") (["field"].map so)
  hx_BadPart : W.hasX "BadPart"
  gx_BadPart : mg "BadPart" = some (.ref (W.cA "BadPart"))
  x_BadPart : ExcD W.P W.K mg "BadPart" (W.cA "BadPart") (["key", "part"].map so)
  v_WIDEST : ∃ t, mg "WIDEST" = some (.int 64 t)
structure Ds (W : Wd TT) (mg : Str -> Option Value) (base : Heap) (φ : Sem) (k : Nat) : Prop where
  its : Its W.P W.w W.K mg base W
  d_is_integer : ∀ b, (∀ i, b = some i -> i < 1) -> Df W.P W.w W.K mg base (L2.CX W.P W.w) k "is_integer" A_is_integer (spR W 1 (φ "is_integer") b)
  d_law_draws : ∀ b, (∀ i, b = some i -> i < 3) -> Df W.P W.w W.K mg base (L2.CX W.P W.w) k "_law_draws" A_law_draws (spR W 3 (φ "_law_draws") b)
  d_law_refused : ∀ b, (∀ i, b = some i -> i < 2) -> Df W.P W.w W.K mg base (L2.CX W.P W.w) k "_law_refused" A_law_refused (spR W 2 (φ "_law_refused") b)
  d_law_refused_base : ∀ b, (∀ i, b = some i -> i < 2) -> Df W.P W.w W.K mg base (L2.CX W.P W.w) k "_law_refused_base" A_law_refused_base (spR W 2 (φ "_law_refused_base") b)
  d_law_asked : ∀ b, (∀ i, b = some i -> i < 2) -> Df W.P W.w W.K mg base (L2.CX W.P W.w) k "_law_asked" A_law_asked (spR W 2 (φ "_law_asked") b)
  d_law_asked_base : ∀ b, (∀ i, b = some i -> i < 2) -> Df W.P W.w W.K mg base (L2.CX W.P W.w) k "_law_asked_base" A_law_asked_base (spR W 2 (φ "_law_asked_base") b)
  d_law_same : ∀ b, (∀ i, b = some i -> i < 2) -> Df W.P W.w W.K mg base (L2.CX W.P W.w) k "_law_same" A_law_same (spR W 2 (φ "_law_same") b)
  m___call__ : ∀ b, (∀ i, b = some i -> i < 2) -> Mt W.P W.w W.K mg base W k "__call__" 2 φ b
  m_part_of : ∀ b, (∀ i, b = some i -> i < 2) -> Mt W.P W.w W.K mg base W k "part_of" 2 φ b
  mk_HashFunction : MkD W.P W.w W.K mg base k "HashFunction" (W.cA "HashFunction") "HashFunction.__init__" s_HashFunction___init__ [("other", .int 0)] A_HashFunction___init__ (spR W 4 (φ "HashFunction.__init__") (some 0))
theorem it_all (C : Cs W mg) (B : Blt mg) : Its W.P W.w W.K mg base W := by
  refine ⟨fun c f hc hf => ?_⟩
  have hm := C.hasL c hc
  simp only [clsL, List.mem_cons, List.not_mem_nil, or_false] at hm
  rcases hm with rfl
  · rw [ik_HashFunction] at hf; cases hf
theorem callF_all (C : Cs W mg) : CallFn W W.K := by
  refine callFn_of fun c nm hc hr => ?_
  have hm := C.hasL c hc
  simp only [clsL, List.mem_cons, List.not_mem_nil, or_false] at hm
  rcases hm with rfl
  · rw [rs_HashFunction___call__] at hr; cases hr; exact ⟨_, _, _, _, _, C.a_HashFunction___call__⟩
theorem ks_HashFunction___init___0 {K : PySem.W.Frag} : KShape K "__init__" "HashFunction.__init__" s_HashFunction___init__ [("other", .int 0)] A_HashFunction___init__ 3 [] [true] [.int 0] := kshape1 [("other", .int 0)] (by simp) (by simp) fun _ _ _ _ _ _ us mv ws h1 h2 h3 => match us, mv, ws, h1, h2, h3 with | [_, _, _], [_], [], _, _, _ => ⟨_, _, _, _, _, _, rfl, rfl, rfl⟩
theorem ks_HashFunction___init___1 {K : PySem.W.Frag} : KShape K "__init__" "HashFunction.__init__" s_HashFunction___init__ [("other", .int 0)] A_HashFunction___init__ 3 ["other"] [false] [] := kshape1 [] (by simp) (by simp) fun _ _ _ _ _ _ us mv ws h1 h2 h3 => match us, mv, ws, h1, h2, h3 with | [_, _, _], [], [_], _, _, _ => rfl
theorem ok_is_integer {φ : Sem} {k : Nat} (D : Ds W mg base φ k) (C : Cs W mg) (D' : DefAt W.K mg "is_integer" "is_integer" s_is_integer [] []) (B : Blt mg) : ∀ b, (∀ i, b = some i -> i < 1) -> Df W.P W.w W.K mg base (L2.CX W.P W.w) (k + 4) "is_integer" A_is_integer (spR W 1 (runFn 1 (b_is_integer W φ)) b) := by
  intro b hb
  refine df_of D' sc_is_integer bp_is_integer spR_len fun f cdv A outer s H vs Q E hr hsp => ⟨(b_is_integer W φ).t (fun c d _ H => E c d H), ?_, fn_run (N := N_is_integer) hb hsp⟩
  dsimp? only [b_is_integer]
  exact (pss_one (ps_ret (pe_and (px_isi (n := "int") B.isinstance B.int (pv 0)) (pe_one (pe_not (px_isi (n := "bool") B.isinstance B.bool (pv 0)))))))
theorem ok_law_draws {φ : Sem} {k : Nat} (D : Ds W mg base φ k) (C : Cs W mg) (D' : DefAt W.K mg "_law_draws" "_law_draws" s_law_draws [] []) (B : Blt mg) : ∀ b, (∀ i, b = some i -> i < 3) -> Df W.P W.w W.K mg base (L2.CX W.P W.w) (k + 4) "_law_draws" A_law_draws (spR W 3 (runFn 9 (b_law_draws W φ)) b) := by
  intro b hb
  refine df_of D' sc_law_draws bp_law_draws spR_len fun f cdv A outer s H vs Q E hr hsp => ⟨(b_law_draws W φ).t (fun c d _ H => E c d H), ?_, fn_run (N := N_law_draws) hb hsp⟩
  dsimp? only [b_law_draws, l1_law_draws]
  exact (pss_cons (ps_set (i := 3) sc_law_draws.nd rfl (Or.inl rfl) pe_int)
      (pss_cons (ps_if (pt_cmpR (opLt hr.units0) (pv 1) (pe_callB call_lenA (by rfl) B.len (by decide +kernel) (pa_cons (pv 0) pa_nil)) (nomark _)) (pss_one (ps_set (i := 3) sc_law_draws.nd rfl (Or.inl rfl) (pe_callB call_absU (by rfl) B.abs (by decide +kernel) (pa_cons (pe_ix ixU (pv 0) (pv 1) (fun _ _ => rfl)) pa_nil)))) pss_nil)
      (pss_cons (ps_set (i := 4) sc_law_draws.nd rfl (Or.inl rfl) (pe_cmpR op_ge (pv 3) (pe_op op_pow pe_int pe_int) (nomark _)))
      (pss_cons (ps_set (i := 5) sc_law_draws.nd rfl (Or.inl rfl) (pe_lst pa_nil))
      (pss_cons (ps_for cx_po rfl (pi_range1 rfl B.range (pa_cons (pv 2) pa_nil)) (pg_name (i := 6) sc_law_draws.nd rfl (Or.inl rfl)) (pss_cons (ps_set (i := 7) sc_law_draws.nd rfl (Or.inl rfl) pe_int)
      (pss_cons (ps_if (pt_truU (pv 4)) (pss_cons (ps_set (i := 7) sc_law_draws.nd rfl (Or.inl rfl) (pe_op op_mod (pe_callTy call_intU (by rfl) B.int (by decide +kernel) (pa_cons (pv 3) pa_nil)) pe_int))
      (pss_one (ps_set (i := 3) sc_law_draws.nd rfl (Or.inl rfl) (pe_op opDiv (pv 3) pe_int)))) (pss_one (ps_if (pt_cmpR op_gt (pv 3) pe_int (nomark _)) (pss_cons (ps_set (i := 8) sc_law_draws.nd rfl (Or.inl rfl) (pe_op op_mod (pe_callTy call_intU (by rfl) B.int (by decide +kernel) (pa_cons (pe_op opAdd (pe_op opMul (pv 3) (pe_op opAdd pe_int (pe_op opMul pe_int (pv 6)))) (pe_op opMul pe_int (pv 6))) pa_nil)) pe_int))
      (pss_cons (ps_set (i := 8) sc_law_draws.nd rfl (Or.inl rfl) (pe_op op_mod (pe_callTy call_intU (by rfl) B.int (by decide +kernel) (pa_cons (pe_op opAdd (pe_op opAdd (pe_op opMul (pv 8) (pv 8)) (pe_op opMul pe_int (pv 6))) pe_int) pa_nil)) pe_int))
      (pss_one (ps_set (i := 7) sc_law_draws.nd rfl (Or.inl rfl) (pe_op op_mod (pe_callTy call_intU (by rfl) B.int (by decide +kernel) (pa_cons (pv 8) pa_nil)) pe_int))))) pss_nil)))
      (pss_one (ps_expr (pe_bm PySem.F.plainAttrs_list PySem.F.slot_list_append PySem.F.type_list_append mt_append (pv 5) (pa_cons (pv 7) pa_nil)))))))
      (pss_one (ps_ret (pv 5))))))))
theorem ok_law_refused {φ : Sem} {k : Nat} (D : Ds W mg base φ k) (C : Cs W mg) (D' : DefAt W.K mg "_law_refused" "_law_refused" s_law_refused [] []) (B : Blt mg) : ∀ b, (∀ i, b = some i -> i < 2) -> Df W.P W.w W.K mg base (L2.CX W.P W.w) (k + 4) "_law_refused" A_law_refused (spR W 2 (runFn 4 (b_law_refused W φ)) b) := by
  intro b hb
  refine df_of D' sc_law_refused bp_law_refused spR_len fun f cdv A outer s H vs Q E hr hsp => ⟨(b_law_refused W φ).t (fun c d _ H => E c d H), ?_, fn_run (N := N_law_refused) hb hsp⟩
  dsimp? only [b_law_refused]
  exact (pss_cons (ps_set (i := 2) sc_law_refused.nd rfl (Or.inl rfl) pe_str)
      (pss_cons (ps_imp C.hx_BadFunction (ps_try_as (i := 3) (tb := fun W1 => ((xsFrz [0, 1] (xsExpr (xmMakeN φ "HashFunction" "HashFunction.__init__" 2 0 4 [true] [.int 0] (by decide) (xaCons (xVar W 0) (xaCons (xVar W 1) (xaNil W))) (xaNil W))))).t W1) (ts := ((xhAsg 2 (xqFld W 3 "BadFunction" "field")) : XH W 3).t) rfl rfl sc_law_refused.nd rfl rfl ⟨rfl, by decide, .inl C.gx_BadFunction⟩ cx_tk (fun W1 pn xe tk po => (pss_one (ps_expr (px_makeNX D.mk_HashFunction ks_HashFunction___init___0 C.has_HashFunction tk (ro1 hr) (by rfl) (pa_cons (pv 0) (pa_cons (pv 1) pa_nil)) pk_nil)))) (fun a0 oe0 cls0 d0 pn0 hz hf => (pss_one (ps_set (i := 2) sc_law_refused.nd rfl (Or.inl rfl) (px_xf C.x_BadFunction C.hx_BadFunction rfl (by simp) hz hf (pv 3)))))))
      (pss_one (ps_ret (pv 2)))))
theorem ok_law_refused_base {φ : Sem} {k : Nat} (D : Ds W mg base φ k) (C : Cs W mg) (D' : DefAt W.K mg "_law_refused_base" "_law_refused_base" s_law_refused_base [] []) (B : Blt mg) : ∀ b, (∀ i, b = some i -> i < 2) -> Df W.P W.w W.K mg base (L2.CX W.P W.w) (k + 4) "_law_refused_base" A_law_refused_base (spR W 2 (runFn 4 (b_law_refused_base W φ)) b) := by
  intro b hb
  refine df_of D' sc_law_refused_base bp_law_refused_base spR_len fun f cdv A outer s H vs Q E hr hsp => ⟨(b_law_refused_base W φ).t (fun c d _ H => E c d H), ?_, fn_run (N := N_law_refused_base) hb hsp⟩
  dsimp? only [b_law_refused_base]
  exact (pss_cons (ps_set (i := 2) sc_law_refused_base.nd rfl (Or.inl rfl) pe_bl)
      (pss_cons (ps_imp C.hx_JoinError (ps_try_as (i := 3) (tb := fun W1 => ((xsFrz [0, 1] (xsExpr (xmMakeN φ "HashFunction" "HashFunction.__init__" 2 0 4 [true] [.int 0] (by decide) (xaCons (xVar W 0) (xaCons (xVar W 1) (xaNil W))) (xaNil W))))).t W1) (ts := ((xhAsg 2 (xqAnd (xqIs W 3 (false, "ValueError")) (xqAnd (xqIs W 3 (true, "BadFunction")) (xqNot (xqIsT W 3 [(true, "BadPart"), (true, "BadPlan")]))))) : XH W 3).t) rfl rfl sc_law_refused_base.nd rfl rfl ⟨rfl, by decide, .inl C.gx_JoinError⟩ cx_tk (fun W1 pn xe tk po => (pss_one (ps_expr (px_makeNX D.mk_HashFunction ks_HashFunction___init___0 C.has_HashFunction tk (ro1 hr) (by rfl) (pa_cons (pv 0) (pa_cons (pv 1) pa_nil)) pk_nil)))) (fun a0 oe0 cls0 d0 pn0 hz hf => (pss_one (ps_set (i := 2) sc_law_refused_base.nd rfl (Or.inl rfl) (pe_and (px_isX (c := (false, "ValueError")) hz hf B.isinstance rfl (pv 3) (pe_bltn (v := clsV W (false, "ValueError")) (by rfl) C.noVE boot_VE (by rfl))) (pe_and (px_isX (c := (true, "BadFunction")) hz hf B.isinstance C.hx_BadFunction (pv 3) (pe_glob (v := clsV W (true, "BadFunction")) (by rfl) C.gx_BadFunction (by rfl))) (pe_one (pe_not (px_isXT (cs := [(true, "BadPart"), (true, "BadPlan")]) hz hf B.isinstance (by intro c hc; simp only [List.mem_cons, List.not_mem_nil, or_false] at hc; rcases hc with rfl | rfl <;> first | exact C.hx_BadPart | exact C.hx_BadPlan) (by decide) (pv 3) (pa_cons (pe_glob (v := clsV W (true, "BadPart")) (by rfl) C.gx_BadPart (by rfl)) (pa_cons (pe_glob (v := clsV W (true, "BadPlan")) (by rfl) C.gx_BadPlan (by rfl)) pa_nil))))))))))))
      (pss_one (ps_ret (pv 2)))))
theorem ok_law_asked {φ : Sem} {k : Nat} (D : Ds W mg base φ k) (C : Cs W mg) (D' : DefAt W.K mg "_law_asked" "_law_asked" s_law_asked [] []) (B : Blt mg) : ∀ b, (∀ i, b = some i -> i < 2) -> Df W.P W.w W.K mg base (L2.CX W.P W.w) (k + 4) "_law_asked" A_law_asked (spR W 2 (runFn 4 (b_law_asked W φ)) b) := by
  intro b hb
  refine df_of D' sc_law_asked bp_law_asked spR_len fun f cdv A outer s H vs Q E hr hsp => ⟨(b_law_asked W φ).t (fun c d _ H => E c d H), ?_, fn_run (N := N_law_asked) hb hsp⟩
  dsimp? only [b_law_asked]
  exact (pss_cons (ps_set (i := 2) sc_law_asked.nd rfl (Or.inl rfl) (pe_lst (pa_cons pe_str pa_nil)))
      (pss_cons (ps_imp C.hx_BadPart (ps_try_as (i := 3) (tb := fun W1 => ((xsExpr (xmAppendR 2 (xmCallO φ 2 (xVar W 0) (xaCons (xVar W 1) (xaNil W)))))).t W1) (ts := ((xhAsg 2 (xqLst (xqsCons (xqP (xStr W "wrong")) (xqsCons (xqFld W 3 "BadPart" "key") (xqsCons (xqFld W 3 "BadPart" "part") (xqsNil W 3)))))) : XH W 3).t) rfl rfl sc_law_asked.nd rfl rfl ⟨rfl, by decide, .inl C.gx_BadPart⟩ cx_tk (fun W1 pn xe tk po => (pss_one (ps_expr (pe_bm PySem.F.plainAttrs_list PySem.F.slot_list_append PySem.F.type_list_append mt_append (pv 2) (pa_cons (px_callOX (D.m___call__ none (by nofun)) (callF_all C) tk (ro0 hr) rfl (pv 0) (pa_cons (pv 1) pa_nil)) pa_nil))))) (fun a0 oe0 cls0 d0 pn0 hz hf => (pss_one (ps_set (i := 2) sc_law_asked.nd rfl (Or.inl rfl) (pe_lst (pa_cons pe_str (pa_cons (px_xf C.x_BadPart C.hx_BadPart rfl (by simp) hz hf (pv 3)) (pa_cons (px_xf C.x_BadPart C.hx_BadPart rfl (by simp) hz hf (pv 3)) pa_nil)))))))))
      (pss_one (ps_ret (pv 2)))))
theorem ok_law_asked_base {φ : Sem} {k : Nat} (D : Ds W mg base φ k) (C : Cs W mg) (D' : DefAt W.K mg "_law_asked_base" "_law_asked_base" s_law_asked_base [] []) (B : Blt mg) : ∀ b, (∀ i, b = some i -> i < 2) -> Df W.P W.w W.K mg base (L2.CX W.P W.w) (k + 4) "_law_asked_base" A_law_asked_base (spR W 2 (runFn 4 (b_law_asked_base W φ)) b) := by
  intro b hb
  refine df_of D' sc_law_asked_base bp_law_asked_base spR_len fun f cdv A outer s H vs Q E hr hsp => ⟨(b_law_asked_base W φ).t (fun c d _ H => E c d H), ?_, fn_run (N := N_law_asked_base) hb hsp⟩
  dsimp? only [b_law_asked_base]
  exact (pss_cons (ps_set (i := 2) sc_law_asked_base.nd rfl (Or.inl rfl) pe_bl)
      (pss_cons (ps_imp C.hx_JoinError (ps_try_as (i := 3) (tb := fun W1 => ((xsExpr (xmCallO φ 2 (xVar W 0) (xaCons (xVar W 1) (xaNil W))))).t W1) (ts := ((xhAsg 2 (xqAnd (xqIs W 3 (false, "ValueError")) (xqAnd (xqIs W 3 (true, "BadPart")) (xqNot (xqIsT W 3 [(true, "BadFunction"), (true, "BadRow")]))))) : XH W 3).t) rfl rfl sc_law_asked_base.nd rfl rfl ⟨rfl, by decide, .inl C.gx_JoinError⟩ cx_tk (fun W1 pn xe tk po => (pss_one (ps_expr (px_callOX (D.m___call__ none (by nofun)) (callF_all C) tk (ro0 hr) rfl (pv 0) (pa_cons (pv 1) pa_nil))))) (fun a0 oe0 cls0 d0 pn0 hz hf => (pss_one (ps_set (i := 2) sc_law_asked_base.nd rfl (Or.inl rfl) (pe_and (px_isX (c := (false, "ValueError")) hz hf B.isinstance rfl (pv 3) (pe_bltn (v := clsV W (false, "ValueError")) (by rfl) C.noVE boot_VE (by rfl))) (pe_and (px_isX (c := (true, "BadPart")) hz hf B.isinstance C.hx_BadPart (pv 3) (pe_glob (v := clsV W (true, "BadPart")) (by rfl) C.gx_BadPart (by rfl))) (pe_one (pe_not (px_isXT (cs := [(true, "BadFunction"), (true, "BadRow")]) hz hf B.isinstance (by intro c hc; simp only [List.mem_cons, List.not_mem_nil, or_false] at hc; rcases hc with rfl | rfl <;> first | exact C.hx_BadFunction | exact C.hx_BadRow) (by decide) (pv 3) (pa_cons (pe_glob (v := clsV W (true, "BadFunction")) (by rfl) C.gx_BadFunction (by rfl)) (pa_cons (pe_glob (v := clsV W (true, "BadRow")) (by rfl) C.gx_BadRow (by rfl)) pa_nil))))))))))))
      (pss_one (ps_ret (pv 2)))))
theorem ok_law_same {φ : Sem} {k : Nat} (D : Ds W mg base φ k) (C : Cs W mg) (D' : DefAt W.K mg "_law_same" "_law_same" s_law_same [] []) (B : Blt mg) : ∀ b, (∀ i, b = some i -> i < 2) -> Df W.P W.w W.K mg base (L2.CX W.P W.w) (k + 4) "_law_same" A_law_same (spR W 2 (runFn 2 (b_law_same W φ)) b) := by
  intro b hb
  refine df_of D' sc_law_same bp_law_same spR_len fun f cdv A outer s H vs Q E hr hsp => ⟨(b_law_same W φ).t (fun c d _ H => E c d H), ?_, fn_run (N := N_law_same) hb hsp⟩
  dsimp? only [b_law_same]
  exact (pss_one (ps_ret (pe_and (pe_cmpR (opEq hr.units) (px_isi (n := "bool") B.isinstance B.bool (pv 0)) (px_isi (n := "bool") B.isinstance B.bool (pv 1)) (nomark _)) (pe_one (pe_cmpR (opEq hr.units) (pv 0) (pv 1) (nomark _))))))
theorem ok_HashFunction___init__ {φ : Sem} {k : Nat} (D : Ds W mg base φ k) (C : Cs W mg) {C0 : Addr} {x0 : Str} {f00 : Addr} (M0 : Mk W.K C0 f00) (hm0 : mg x0 = some (.ref C0)) (D' : MethAt W.K C0 "__init__" "__init__" "HashFunction.__init__" s_HashFunction___init__ [] [("other", .int 0)]) (B : Blt mg) : MkD W.P W.w W.K mg base (k + 4) x0 C0 "HashFunction.__init__" s_HashFunction___init__ [("other", .int 0)] A_HashFunction___init__ (spR W 4 (runFn 5 (b_HashFunction___init__ W φ)) (some 0)) := by
  refine mkD_of M0 hm0 D' sc_HashFunction___init__ spR_len fun f cdv A outer s H vs Q E hr hsp => ⟨(b_HashFunction___init__ W φ).t (fun c d _ H => E c d H), ?_, fn_run (N := N_HashFunction___init__) (fun i h => by cases h; decide) hsp⟩
  dsimp? only [b_HashFunction___init__, l1_HashFunction___init__]
  exact (pss_cons (ps_if (PW.pt (pw_or (pt_not (pt_truU (px_call (D.d_is_integer none (by nofun)) (ro0 hr) rfl (pa_cons (pv 1) pa_nil)))) (pw_or (pt_cmpR (opLt hr.units0) (pv 1) pe_int (nomark _)) (pw_or1 (pt_cmpR op_gt (pv 1) (px_glI C.v_WIDEST) (nomark _)))))) (pss_one (px_raise C.x_BadFunction C.hx_BadFunction cx_tk rfl hr (pa_cons pe_str pa_nil) rfl)) pss_nil)
      (pss_cons (ps_alt (ps_forD (ps_for cx_po rfl (pi_keys (pv 2)) (pg_name (i := 4) sc_HashFunction___init__.nd rfl (Or.inl rfl)) (pss_one (ps_if (pt_not (pt_truU (px_call (D.d_is_integer none (by nofun)) (ro0 hr) rfl (pa_cons (pv 4) pa_nil)))) (pss_one (px_raise C.x_BadFunction C.hx_BadFunction cx_tk rfl hr (pa_cons pe_str pa_nil) rfl)) pss_nil)))) (ps_alt (ps_for cx_po rfl (pi_lf (pv 2)) (pg_name (i := 4) sc_HashFunction___init__.nd rfl (Or.inl rfl)) (pss_one (ps_if (pt_not (pt_truU (px_call (D.d_is_integer none (by nofun)) (ro0 hr) rfl (pa_cons (pv 4) pa_nil)))) (pss_one (px_raise C.x_BadFunction C.hx_BadFunction cx_tk rfl hr (pa_cons pe_str pa_nil) rfl)) pss_nil))) (ps_for cx_po rfl (pi_rw (pv 2)) (pg_name (i := 4) sc_HashFunction___init__.nd rfl (Or.inl rfl)) (pss_one (ps_if (pt_not (pt_truU (px_call (D.d_is_integer none (by nofun)) (ro0 hr) rfl (pa_cons (pv 4) pa_nil)))) (pss_one (px_raise C.x_BadFunction C.hx_BadFunction cx_tk rfl hr (pa_cons pe_str pa_nil) rfl)) pss_nil)))))
      (pss_cons (ps_fld (pv 0) (pv 1) rfl)
      (pss_cons (ps_fld (pv 0) (pv 3) rfl)
      (pss_one (ps_fld (pv 0) (pe_lockU (pe_dc (own := [("key", 4)]) rfl sc_HashFunction___init__.nd (pi_keys (pv 2)) (blkOk_by (own := [("key", 4)]) (N := N_HashFunction___init__) (sc := defScope s_HashFunction___init__) (by decide +kernel)) (fun _ _ _ _ _ => (pg_name (i := 4) sc_HashFunction___init__.nd rfl (Or.inl rfl))) (fun _ _ _ _ _ => pts_nil) (fun _ _ _ _ _ => (pv 4)) (fun _ _ _ _ _ => (pe_dget (hu1 hr) (pv 2) (pv 4) (fun _ _ => rfl))))) rfl))))))
theorem ok_HashFunction___call__ {φ : Sem} {k : Nat} (D : Ds W mg base φ k) (C : Cs W mg) {C0 : Addr} (D' : MethAt W.K C0 "__call__" "__call__" "HashFunction.__call__" s_HashFunction___call__ [] []) (B : Blt mg) : ∀ b, (∀ i, b = some i -> i < 2) -> MdOk W.P W.w W.K mg base (k + 4) C0 "__call__" 2 (spR W 2 (runFn 2 (b_HashFunction___call__ W φ)) b) := by
  intro b hb
  refine md_of D' sc_HashFunction___call__ bp_HashFunction___call__ rfl spR_len fun f cdv A outer s H vs Q E hr hsp => ⟨(b_HashFunction___call__ W φ).t (fun c d _ H => E c d H), ?_, fn_run (N := N_HashFunction___call__) hb hsp⟩
  dsimp? only [b_HashFunction___call__]
  exact (pss_one (ps_ret (pe_alt (px_methX (D.m_part_of none (by nofun)) cx_tk (ro0 hr) rfl (pv 0) (pa_cons (pv 1) pa_nil)) (px_methX (D.m_part_of (some 0) (fun i h => by cases h; decide)) cx_tk (ro0 hr) rfl (pv 0) (pa_cons (pv 1) pa_nil)))))
theorem ok_HashFunction_part_of {φ : Sem} {k : Nat} (D : Ds W mg base φ k) (C : Cs W mg) {C0 : Addr} (D' : MethAt W.K C0 "part_of" "part_of" "HashFunction.part_of" s_HashFunction_part_of [] []) (B : Blt mg) : ∀ b, (∀ i, b = some i -> i < 2) -> MdOk W.P W.w W.K mg base (k + 4) C0 "part_of" 2 (spR W 2 (runFn 3 (b_HashFunction_part_of W φ)) b) := by
  intro b hb
  refine md_of D' sc_HashFunction_part_of bp_HashFunction_part_of rfl spR_len fun f cdv A outer s H vs Q E hr hsp => ⟨(b_HashFunction_part_of W φ).t (fun c d _ H => E c d H), ?_, fn_run (N := N_HashFunction_part_of) hb hsp⟩
  dsimp? only [b_HashFunction_part_of]
  exact (pss_cons (ps_set (i := 2) sc_HashFunction_part_of.nd rfl (Or.inl rfl) (pe_dget2N (hu1 hr) (pe_fld (pv 0) rfl) (pv 1) (pe_fld (pv 0) rfl) ⟨rfl, rfl, rfl, rfl⟩))
      (pss_cons (ps_if (PW.pt (pw_or (pt_not (pt_truU (px_call (D.d_is_integer none (by nofun)) (ro0 hr) rfl (pa_cons (pv 2) pa_nil)))) (pw_or (pt_cmpR (opLt hr.units0) (pv 2) pe_int (nomark _)) (pw_or1 (pt_cmpR op_ge (pv 2) (pe_fld (pv 0) rfl) (nomark _)))))) (pss_one (px_raise C.x_BadPart C.hx_BadPart cx_tk rfl hr (pa_cons (pv 1) (pa_cons (pv 2) pa_nil)) rfl)) pss_nil)
      (pss_one (ps_ret (pv 2)))))
theorem ok_law {φ : Sem} {k : Nat} (D : Ds W mg base φ k) (C : Cs W mg) {f0 : Addr} {fd0 : FuncData} (F0 : FunD W.K "law" "law" (defArgs s_law) (defBody s_law) (defScope s_law) [] [] f0 fd0) (B : Blt mg) (hL : ∀ vs H Q E, spL W.K vs H Q E -> spR W 1 (runFn 14 (b_law W φ)) none vs H Q E) : FnOk W.P W.w W.K mg base CX0 (k + 4) f0 fd0 A_law (spL W.K) := by
  refine lw_of F0 sc_law spL_len fun f cdv A outer s H vs Q E hr hsp => ⟨(b_law W φ).t (fun c d _ H => E0 c d H), ?_, fn_run (N := N_law) (by intro i h; cases h) (hL vs H Q E0 hsp)⟩
  dsimp? only [b_law, l1_law, l2_law]
  exact (pss_cons (ps_set (i := 1) sc_law.nd rfl (Or.inl rfl) (px_call (D.d_law_draws none (by nofun)) (ro0 hr) rfl (pa_cons (pv 0) (pa_cons pe_int (pa_cons pe_int pa_nil)))))
      (pss_cons (ps_set (i := 2) sc_law.nd rfl (Or.inl rfl) (pe_op opAdd pe_int (pe_op op_mod (pe_callTy call_intU (by rfl) B.int (by decide +kernel) (pa_cons (pe_ix ixU (pv 1) pe_int (fun _ _ => rfl)) pa_nil)) pe_int)))
      (pss_cons (ps_set (i := 3) sc_law.nd rfl (Or.inl rfl) pe_dnewK)
      (pss_cons (ps_for PassesOwn.never rfl (pi_range1 rfl B.range (pa_cons (pe_op op_mod (pe_callTy call_intU (by rfl) B.int (by decide +kernel) (pa_cons (pe_ix ixU (pv 1) pe_int (fun _ _ => rfl)) pa_nil)) pe_int) pa_nil)) (pg_name (i := 4) sc_law.nd rfl (Or.inl rfl)) (pss_one (ps_asg (pe_op op_mod (pe_callTy call_intU (by rfl) B.int (by decide +kernel) (pa_cons (pe_op opAdd (pe_ix ixU (pv 1) pe_int (fun _ _ => rfl)) (pv 4)) pa_nil)) (pv 2)) (pg_sub (pv 3) (pe_op opMul (pv 4) pe_int) (set_dict (hu1 hr))))))
      (pss_cons (ps_set (i := 5) sc_law.nd rfl (Or.inl rfl) (pe_lst (pa_cons pe_int (pa_cons (pe_un un_neg pe_int) (pa_cons pe_int (pa_cons (pe_op op_pow pe_int pe_int) (pa_cons pe_bl (pa_cons pe_bl (pa_cons pe_non (pa_cons pe_str (pa_cons (pe_lst (pa_cons pe_int pa_nil)) (pa_cons (pe_tup (pa_cons pe_int pa_nil)) pa_nil))))))))))))
      (pss_cons (ps_set (i := 6) sc_law.nd rfl (Or.inl rfl) (pe_ix ixU (pv 5) (pe_op op_mod (pe_callTy call_intU (by rfl) B.int (by decide +kernel) (pa_cons (pe_ix ixU (pv 1) pe_int (fun _ _ => rfl)) pa_nil)) pe_int) (fun _ _ => rfl)))
      (pss_cons (ps_set (i := 7) sc_law.nd rfl (Or.inl rfl) (pe_ix ixU (pe_lst (pa_cons pe_bl (pa_cons pe_bl (pa_cons pe_non (pa_cons pe_str (pa_cons (pe_tup (pa_cons pe_int pa_nil)) (pa_cons pe_str pa_nil))))))) (pe_op op_mod (pe_callTy call_intU (by rfl) B.int (by decide +kernel) (pa_cons (pe_ix ixU (pv 1) pe_int (fun _ _ => rfl)) pa_nil)) pe_int) (fun _ _ => rfl)))
      (pss_cons (ps_set (i := 8) sc_law.nd rfl (Or.inl rfl) (pe_disp3 (hu65 hr) (pe_un un_neg pe_int) pe_int (pv 7) pe_int pe_int pe_int))
      (pss_cons (ps_if (PW.pt (pw_or (pt_cmpR (opNe hr.units) (px_call (D.d_law_refused none (by nofun)) (ro0 hr) rfl (pa_cons (pv 6) (pa_cons (pe_callTy call_dictD (by rfl) B.dict (by decide +kernel) (pa_cons (pv 3) pa_nil)) pa_nil))) pe_str (nomark _)) (pw_or1 (pt_cmpR (opNe hr.units) (px_call (D.d_law_refused none (by nofun)) (ro0 hr) rfl (pa_cons (pv 2) (pa_cons (pv 8) pa_nil))) pe_str (nomark _))))) (pss_one (ps_ret pe_bl)) pss_nil)
      (pss_cons (ps_if (PW.pt (pw_or (pt_cmpR (opNe hr.units) (px_call (D.d_law_refused none (by nofun)) (ro0 hr) rfl (pa_cons (pv 6) (pa_cons (pv 8) pa_nil))) pe_str (nomark _)) (pw_or1 (pt_cmpR (opNe hr.units) (px_call (D.d_law_refused none (by nofun)) (ro0 hr) rfl (pa_cons (pv 2) (pa_cons (pe_callTy call_dictD (by rfl) B.dict (by decide +kernel) (pa_cons (pv 3) pa_nil)) pa_nil))) pe_str (nomark _))))) (pss_one (ps_ret pe_bl)) pss_nil)
      (pss_cons (ps_if (PW.pt (pw_or (pt_not (pt_truU (px_call (D.d_law_refused_base none (by nofun)) (ro0 hr) rfl (pa_cons (pv 6) (pa_cons (pe_callTy call_dictD (by rfl) B.dict (by decide +kernel) (pa_cons (pv 3) pa_nil)) pa_nil))))) (pw_or1 (pt_not (pt_truU (px_call (D.d_law_refused_base none (by nofun)) (ro0 hr) rfl (pa_cons (pv 2) (pa_cons (pv 8) pa_nil)))))))) (pss_one (ps_ret pe_bl)) pss_nil)
      (pss_cons (ps_set (i := 9) sc_law.nd rfl (Or.inl rfl) (pe_lst (pa_cons (pv 2) (pa_cons (pe_un un_neg pe_int) (pa_cons (pe_op op_pow pe_int pe_int) (pa_cons pe_bl (pa_cons pe_bl (pa_cons pe_non (pa_cons pe_str (pa_cons (pe_lst (pa_cons pe_int pa_nil)) pa_nil))))))))))
      (pss_cons (ps_set (i := 10) sc_law.nd rfl (Or.inl rfl) (pe_ix ixU (pv 9) (pe_op op_mod (pe_callTy call_intU (by rfl) B.int (by decide +kernel) (pa_cons (pe_ix ixU (pv 1) pe_int (fun _ _ => rfl)) pa_nil)) pe_int) (fun _ _ => rfl)))
      (pss_cons (ps_asg (pv 10) (pg_sub (pv 3) pe_int (set_dict (hu1 hr))))
      (pss_cons (ps_set (i := 11) sc_law.nd rfl (Or.inl rfl) (px_makeN D.mk_HashFunction ks_HashFunction___init___1 C.has_HashFunction (ro1 hr) rfl (pa_cons (pv 2) (pa_cons (pv 3) pa_nil)) (pk_cons pe_int pk_nil)))
      (pss_cons (ps_if (pt_cmpR (opEq hr.units) (pe_op op_mod (pe_callTy call_intU (by rfl) B.int (by decide +kernel) (pa_cons (pe_ix ixU (pv 1) pe_int (fun _ _ => rfl)) pa_nil)) pe_int) pe_int (nomark _)) (pss_one (ps_set (i := 11) sc_law.nd rfl (Or.inl rfl) (px_makeN D.mk_HashFunction ks_HashFunction___init___1 C.has_HashFunction (ro1 hr) rfl (pa_cons (pv 2) (pa_cons (pe_disp (pps_cons pe_int pe_int pps_nil) rfl rfl (by simp) (by decide)) pa_nil)) (pk_cons (pv 10) pk_nil)))) pss_nil)
      (pss_cons (ps_for PassesOwn.never rfl (pi_range1 rfl B.range (pa_cons pe_int pa_nil)) (pg_name (i := 12) sc_law.nd rfl (Or.inl rfl)) (pss_cons (ps_set (i := 13) sc_law.nd rfl (Or.inl rfl) (px_call (D.d_law_asked none (by nofun)) (ro0 hr) rfl (pa_cons (pv 11) (pa_cons pe_int pa_nil))))
      (pss_cons (ps_if (PW.pt (pw_or (pt_cmpR (opNe hr.units) (pe_callB call_lenA (by rfl) B.len (by decide +kernel) (pa_cons (pv 13) pa_nil)) pe_int (nomark _)) (pw_or (pt_cmpR (opNe hr.units) (pe_ix ixU (pv 13) pe_int (fun _ _ => rfl)) pe_int (nomark _)) (pw_or (pt_not (pt_truU (px_call (D.d_law_same none (by nofun)) (ro0 hr) rfl (pa_cons (pe_ix ixU (pv 13) pe_int (fun _ _ => rfl)) (pa_cons (pv 10) pa_nil))))) (pw_or1 (pt_not (pt_truU (px_call (D.d_law_asked_base none (by nofun)) (ro0 hr) rfl (pa_cons (pv 11) (pa_cons pe_int pa_nil)))))))))) (pss_one (ps_ret pe_bl)) pss_nil)
      (pss_one (ps_if (pt_cmpR (opNe hr.units) (px_call (D.d_law_asked none (by nofun)) (ro0 hr) rfl (pa_cons (pv 11) (pa_cons pe_int pa_nil))) (pe_lst (pa_cons pe_str (pa_cons pe_int pa_nil))) (nomark _)) (pss_one (ps_ret pe_bl)) pss_nil)))))
      (pss_one (ps_ret pe_bl)))))))))))))))))))
theorem mt___call__ {φ : Sem} {k : Nat} {b : Option Nat} (C : Cs W mg) (h_HashFunction : MdOk W.P W.w W.K mg base k (W.cA "HashFunction") "__call__" 2 (spR W 2 (φ "HashFunction.__call__") b)) : Mt W.P W.w W.K mg base W k "__call__" 2 φ b := by
  refine ⟨fun c nm hc hr => ?_⟩
  have hm := C.hasL c hc
  simp only [clsL, List.mem_cons, List.not_mem_nil, or_false] at hm
  rcases hm with rfl
  · rw [rs_HashFunction___call__] at hr; cases hr; obtain ⟨g, fd, ps, x1, x2, x3, _⟩ := h_HashFunction.ex; exact ⟨g, fd, ps, x1, x2, x3⟩
theorem mt_part_of {φ : Sem} {k : Nat} {b : Option Nat} (C : Cs W mg) (h_HashFunction : MdOk W.P W.w W.K mg base k (W.cA "HashFunction") "part_of" 2 (spR W 2 (φ "HashFunction.part_of") b)) : Mt W.P W.w W.K mg base W k "part_of" 2 φ b := by
  refine ⟨fun c nm hc hr => ?_⟩
  have hm := C.hasL c hc
  simp only [clsL, List.mem_cons, List.not_mem_nil, or_false] at hm
  rcases hm with rfl
  · rw [rs_HashFunction_part_of] at hr; cases hr; obtain ⟨g, fd, ps, x1, x2, x3, _⟩ := h_HashFunction.ex; exact ⟨g, fd, ps, x1, x2, x3⟩
theorem ds_all (D0 : DefAt W.K mg "is_integer" "is_integer" s_is_integer [] []) (D1 : DefAt W.K mg "_law_draws" "_law_draws" s_law_draws [] []) (D2 : DefAt W.K mg "_law_refused" "_law_refused" s_law_refused [] []) (D3 : DefAt W.K mg "_law_refused_base" "_law_refused_base" s_law_refused_base [] []) (D4 : DefAt W.K mg "_law_asked" "_law_asked" s_law_asked [] []) (D5 : DefAt W.K mg "_law_asked_base" "_law_asked_base" s_law_asked_base [] []) (D6 : DefAt W.K mg "_law_same" "_law_same" s_law_same [] []) (C : Cs W mg) (B : Blt mg) : ∀ n, Ds W mg base (semT (tbl W) n) (4 * n)
  | 0 => ⟨it_all C B,
    fun b _ => df_no D0 bp_is_integer spR_no,
    fun b _ => df_no D1 bp_law_draws spR_no,
    fun b _ => df_no D2 bp_law_refused spR_no,
    fun b _ => df_no D3 bp_law_refused_base spR_no,
    fun b _ => df_no D4 bp_law_asked spR_no,
    fun b _ => df_no D5 bp_law_asked_base spR_no,
    fun b _ => df_no D6 bp_law_same spR_no,
    fun b _ => mt___call__ C (md_no C.a_HashFunction___call__ bp_HashFunction___call__ rfl spR_no),
    fun b _ => mt_part_of C (md_no C.a_HashFunction_part_of bp_HashFunction_part_of rfl spR_no),
    (let ⟨_, M⟩ := C.k_HashFunction; mkD_no M C.g_HashFunction C.a_HashFunction___init__ spR_no)⟩
  | n + 1 => ⟨it_all C B,
    ok_is_integer (ds_all D0 D1 D2 D3 D4 D5 D6 C B n) C D0 B,
    ok_law_draws (ds_all D0 D1 D2 D3 D4 D5 D6 C B n) C D1 B,
    ok_law_refused (ds_all D0 D1 D2 D3 D4 D5 D6 C B n) C D2 B,
    ok_law_refused_base (ds_all D0 D1 D2 D3 D4 D5 D6 C B n) C D3 B,
    ok_law_asked (ds_all D0 D1 D2 D3 D4 D5 D6 C B n) C D4 B,
    ok_law_asked_base (ds_all D0 D1 D2 D3 D4 D5 D6 C B n) C D5 B,
    ok_law_same (ds_all D0 D1 D2 D3 D4 D5 D6 C B n) C D6 B,
    fun b hb => mt___call__ C (ok_HashFunction___call__ (ds_all D0 D1 D2 D3 D4 D5 D6 C B n) C C.a_HashFunction___call__ B b hb),
    fun b hb => mt_part_of C (ok_HashFunction_part_of (ds_all D0 D1 D2 D3 D4 D5 D6 C B n) C C.a_HashFunction_part_of B b hb),
    (let ⟨_, M⟩ := C.k_HashFunction; ok_HashFunction___init__ (ds_all D0 D1 D2 D3 D4 D5 D6 C B n) C M C.g_HashFunction C.a_HashFunction___init__ B)⟩
end
end Py
namespace Py
open PySem L2
theorem exd_BadRow {P : Program} {K : PySem.W.Frag} {mg : Str -> Option Value} (T : PySem.PxE.ExTxt P K (ga K "BadRow") (ma K "BadRow" "__init__") (so "BadRow.__init__") (defArgs s_BadRow___init__) (defBody s_BadRow___init__) (defScope s_BadRow___init__) (["number"].map so)) (top : (P.main.scope.names.lookup ("super" : Str)).isSome = false) (gC : mg "BadRow" = some (.ref (ga K "BadRow"))) (gs : mg "super" = none) (kC : PySem.W.keepIn K (.ref (ga K "BadRow")) = true) : ExcD P K mg "BadRow" (ga K "BadRow") (["number"].map so) :=
  ⟨⟨_, _, _, _, _, T, ⟨_, _, _, rfl, ⟨_, _, _, _, _, _, _, rfl, fun _ _ _ _ => ⟨_, rfl⟩⟩, .cons (.nil)⟩, ⟨_, rfl, rfl⟩, by decide +kernel, rfl, rfl, by decide +kernel, rfl, rfl, rfl, fun us hl x doc pm an cdv ct cc => match us, hl with | [_], _ => rfl⟩, ⟨by simp, by decide +kernel, by decide, by decide +kernel⟩, top, gC, gs, kC⟩
theorem exd_BadPlan {P : Program} {K : PySem.W.Frag} {mg : Str -> Option Value} (T : PySem.PxE.ExTxt P K (ga K "BadPlan") (ma K "BadPlan" "__init__") (so "BadPlan.__init__") (defArgs s_BadPlan___init__) (defBody s_BadPlan___init__) (defScope s_BadPlan___init__) (["field"].map so)) (top : (P.main.scope.names.lookup ("super" : Str)).isSome = false) (gC : mg "BadPlan" = some (.ref (ga K "BadPlan"))) (gs : mg "super" = none) (kC : PySem.W.keepIn K (.ref (ga K "BadPlan")) = true) : ExcD P K mg "BadPlan" (ga K "BadPlan") (["field"].map so) :=
  ⟨⟨_, _, _, _, _, T, ⟨_, _, _, rfl, ⟨_, _, _, _, _, _, _, rfl, fun _ _ _ _ => ⟨_, rfl⟩⟩, .cons (.nil)⟩, ⟨_, rfl, rfl⟩, by decide +kernel, rfl, rfl, by decide +kernel, rfl, rfl, rfl, fun us hl x doc pm an cdv ct cc => match us, hl with | [_], _ => rfl⟩, ⟨by simp, by decide +kernel, by decide, by decide +kernel⟩, top, gC, gs, kC⟩
theorem exd_BadFunction {P : Program} {K : PySem.W.Frag} {mg : Str -> Option Value} (T : PySem.PxE.ExTxt P K (ga K "BadFunction") (ma K "BadFunction" "__init__") (so "BadFunction.__init__") (defArgs s_BadFunction___init__) (defBody s_BadFunction___init__) (defScope s_BadFunction___init__) (["field"].map so)) (top : (P.main.scope.names.lookup ("super" : Str)).isSome = false) (gC : mg "BadFunction" = some (.ref (ga K "BadFunction"))) (gs : mg "super" = none) (kC : PySem.W.keepIn K (.ref (ga K "BadFunction")) = true) : ExcD P K mg "BadFunction" (ga K "BadFunction") (["field"].map so) :=
  ⟨⟨_, _, _, _, _, T, ⟨_, _, _, rfl, ⟨_, _, _, _, _, _, _, rfl, fun _ _ _ _ => ⟨_, rfl⟩⟩, .cons (.nil)⟩, ⟨_, rfl, rfl⟩, by decide +kernel, rfl, rfl, by decide +kernel, rfl, rfl, rfl, fun us hl x doc pm an cdv ct cc => match us, hl with | [_], _ => rfl⟩, ⟨by simp, by decide +kernel, by decide, by decide +kernel⟩, top, gC, gs, kC⟩
theorem exd_BadPart {P : Program} {K : PySem.W.Frag} {mg : Str -> Option Value} (T : PySem.PxE.ExTxt P K (ga K "BadPart") (ma K "BadPart" "__init__") (so "BadPart.__init__") (defArgs s_BadPart___init__) (defBody s_BadPart___init__) (defScope s_BadPart___init__) (["key", "part"].map so)) (top : (P.main.scope.names.lookup ("super" : Str)).isSome = false) (gC : mg "BadPart" = some (.ref (ga K "BadPart"))) (gs : mg "super" = none) (kC : PySem.W.keepIn K (.ref (ga K "BadPart")) = true) : ExcD P K mg "BadPart" (ga K "BadPart") (["key", "part"].map so) :=
  ⟨⟨_, _, _, _, _, T, ⟨_, _, _, rfl, ⟨_, _, _, _, _, _, _, rfl, fun _ _ _ _ => ⟨_, rfl⟩⟩, .cons (.cons (.nil))⟩, ⟨_, rfl, rfl⟩, by decide +kernel, rfl, rfl, by decide +kernel, rfl, rfl, rfl, fun us hl x doc pm an cdv ct cc => match us, hl with | [_, _], _ => rfl⟩, ⟨by simp, by decide +kernel, by decide, by decide +kernel⟩, top, gC, gs, kC⟩
theorem fldL_ok (c f : String) (_ : c ∈ clsL) (h : TT.fOk c f = true) : f ∈ fldL c := List.contains_iff_mem.mp h
def HFt : Prop := ∀ {P : Program} {w : World} {K : PySem.W.Frag} {h : Heap} {mg : Str -> Option Value} {f : Addr} (X : K.In h) (G : h.Ns mainGlobals mg) (hfa : mg ("law" : Str) = some (.ref f)) (c : SaysX faL fnL K) (hPf : ((P.main.file : Str) == fileL) = true) (hPs : (P.main.scope.names.lookup ("super" : Str)).isSome = false), ∃ fd : FuncData, (∀ (s : Shared) (v : Value), BindsTo s fd ⟨[v], []⟩ [("_law_script", v)]) /\ ∀ base : Heap, K.In base -> base.Ns mainGlobals mg -> FnOk P w K mg base CX0 36 f fd A_law (spL K)
end Py
section
open PySem PySem.W PySem.Calls PyProof.Rows
theorem Py.headL (HF : Py.HFt) : PySem.Challenge.rw_anyhashes_k13_wrong_hash_functions.Holds := by
  unfold Py.HFt at HF
  w_on; o_law
  refine HandSHeadRun.head_any (r := OpenLaw.row PySem.Challenge.rw_anyhashes_k13_wrong_hash_functions) (q := view (OpenLaw.row PySem.Challenge.rw_anyhashes_k13_wrong_hash_functions).prog [Py.lawAt]) (H := Py.hkL) (ob := Py.obL) (M := 12000) (loose := Py.nmL) (d := HandSHeadRun.topDef (OpenLaw.row PySem.Challenge.rw_anyhashes_k13_wrong_hash_functions).prog Py.lawAt) (kwd := []) Py.obL_eq
    (by kernel_rfl) (fun s => by kernel_rfl) Py.runL (by kernel_rfl) (by kernel_rfl) (by kernel_rfl) (by rfl) (by first | assumption | decide +kernel) (by decide +kernel) ⟨rfl, rfl, rfl, rfl, rfl, by decide +kernel⟩ ?hw ?hc
  case hw => w_witness2
  case hc =>
    refine L2.walk_ofE (l := PySem.Challenge.rw_anyhashes_k13_wrong_hash_functions) (n := 63) (k := 36) (x := "_law_script") (CX := L2.CX0) rfl (by decide) (by kernel_rfl) ⟨rfl, by decide, by decide⟩ ?F (fun _ _ _ _ z => z)
    intro w mg fa h Y G hmg0
    obtain ⟨K, KX, c⟩ := Y
    have hmg : mg ("law" : PySem.Str) = some (.ref fa) := by
      have e : (HandSHeadRun.topDef (OpenLaw.row PySem.Challenge.rw_anyhashes_k13_wrong_hash_functions).prog Py.lawAt).name = ("law" : PySem.Str) := by kernel_rfl
      rw [<- e]
      exact hmg0
    obtain ⟨fd, hb, hF⟩ := HF (P := (PySem.Challenge.rw_anyhashes_k13_wrong_hash_functions).prog) (w := w) KX G hmg c (by kernel_rfl) (by kernel_rfl)
    exact ⟨K, fd, Py.spL K, KX, hb, fun H a ns hl _ hS => Py.spL_in hl hS, hF⟩
end
namespace Py
open PySem L2
open Enc (enc)
local macro_rules | `(tactic| simp? only [$xs,*]) => `(tactic| try simp (maxSteps := 1000000) (disch := first | omega | decide) only [e_xsSeq, e_xsNext, e_xsAsg, e_xsExpr, e_xsRet, e_xsIf, e_xsFrz, e_xmP, e_xVar_V, e_xtV, e_xtTru, e_xtOr, e_xtNot, e_xtYes, e_xVar, e_xInt, e_xBl, e_xNon, e_xStr, e_xMul, e_xDiv, e_xMod, e_xPow, e_xNeg, e_xAdd, e_xEq, e_xNe, e_xLt, e_xGt, e_xGe, e_xAnd, e_xNot, e_xTup, e_xLst, e_xInt1, e_xAbs, e_xLen, e_xIx, e_xFld, e_xIsi, e_xCall, e_xmVar, e_xmMove, e_xmAppend, e_xoNil, e_xoCons, e_plVar, r_plVar, e_xaNilV, e_xaNilF, e_xaConsV, e_xaConsF, e_xgN, o_xgN, e_xiR1F, e_xiR1P, e_xsFor, e_evV, e_evK, e_evF, e_evO, e_evB, h_getS0, h_getS0n, h_getSs, h_toV, h_toVn, h_toKf, h_toKp, h_toKv, h_toKn, h_toFf, h_toFp, h_toFv, h_toFn, h_toOf, h_toOp, h_toOv, h_toOn, h_of_f, h_of_p, h_of_v, h_then_nx, h_then_rt, h_then_bk, h_then_ct, h_then_ex, h_then_no, h_thenS_ok, h_thenS_exn, h_thenS_no, h_ofO, h_ofOn, h_of, h_ofn, h_mofO, h_mofOn, h_iteF1, h_iteF0, h_iteFn, h_asgK, h_forK, h_andF1, h_andF0, h_orF1, h_orF0, h_blD, h_turn, h_turnn, h_forE, h_forEn, h_callF, h_callV, h_rzF, h_rzV, h_fz_non, h_sh_non, h_fl_non, h_isN_non, h_fz_bl, h_sh_bl, h_fl_bl, h_fz_int, h_sh_int, h_fl_int, h_isN_int, h_fz_str, h_sh_str, h_fl_str, h_isN_str, h_fz_cls, h_sh_cls, h_fl_cls, h_isN_cls, h_fz_sei, h_sh_sei, h_fl_sei, h_isN_sei, h_fz_scr, h_sh_scr, h_fl_scr, h_isN_scr, h_fz_tup, h_sh_tup, h_fl_tup, h_isN_tup, h_fz_lst, h_sh_lst, h_fl_lst, h_isN_lst, h_fz_dic, h_sh_dic, h_fl_dic, h_isN_dic, h_fz_dit, h_sh_dit, h_fl_dit, h_isN_dit, h_fz_dig, h_sh_dig, h_fl_dig, h_isN_dig, h_fz_dlf, h_sh_dlf, h_fl_dlf, h_isN_dlf, h_fz_xt, h_sh_xt, h_fl_xt, h_isN_xt, h_fz_len, h_sh_len, h_fl_len, h_isN_len, h_fz_ins, h_sh_ins, h_fl_ins, h_isN_ins, h_isN_bl, h_fz_olst, h_sh_olst, h_fl_olst, h_fz_odic, h_sh_odic, h_fl_odic, h_fz_odit, h_sh_odit, h_fl_odit, h_fz_odig, h_sh_odig, h_fl_odig, h_fz_olf, h_sh_olf, h_fl_olf, h_fz_oxt, h_sh_oxt, h_fl_oxt, h_fz_otup, h_sh_otup, h_fl_otup, h_fz_oins, h_sh_oins, h_fl_oins, h_fzs_nil, h_fzs_cons, h_fzs_app, h_tru_bl, h_tru_non, h_tru_int, h_tru_lst, h_tru_tup, h_neg, h_addI, h_addT, h_addL, h_addLo, h_addoL, h_addoo, h_eqD, h_neD, h_ok_non, h_ok_bl, h_ok_int, h_ok_str, h_ok_tup, h_ok_lst, h_oks_nil, h_oks_cons, h_eqB_ii, h_eqB_ss, h_eqB_bb, h_eqB_nn, h_eqB_ni, h_eqB_in, h_eqB_nt, h_eqB_tn, h_eqB_tt, h_eqB_ll, h_eqBs_nn, h_eqBs_cc, h_eqBs_nc, h_eqBs_cn, h_cmp, h_ltI, h_ltT, h_ints_nil, h_ints_cons, h_intI, h_intB, h_abs, h_lenL, h_lenT, h_lenS, h_ix, h_it_lst, h_it_olst, h_it_tup, h_it_scr, h_at0, h_at1, h_at2, h_at3, h_at4, h_at5, h_at6, h_at7, h_at8, h_at9, h_at10, h_at11, h_at12, h_atm1, h_ty_non, h_ty_bl, h_ty_int, h_ty_str, h_ty_lst, h_ty_tup, h_ty_ins, h_isi_bb, h_isi_bo, h_isi_ob, h_isi_oo, h_isiB_NoneType_bool, h_isiB_NoneType_int, h_isiB_NoneType_str, h_isiB_NoneType_list, h_isiB_NoneType_tuple, h_isiB_NoneType_dict, h_isiB_bool_bool, h_isiB_bool_int, h_isiB_bool_str, h_isiB_bool_list, h_isiB_bool_tuple, h_isiB_bool_dict, h_isiB_int_bool, h_isiB_int_int, h_isiB_int_str, h_isiB_int_list, h_isiB_int_tuple, h_isiB_int_dict, h_isiB_str_bool, h_isiB_str_int, h_isiB_str_str, h_isiB_str_list, h_isiB_str_tuple, h_isiB_str_dict, h_isiB_list_bool, h_isiB_list_int, h_isiB_list_str, h_isiB_list_list, h_isiB_list_tuple, h_isiB_list_dict, h_isiB_tuple_bool, h_isiB_tuple_int, h_isiB_tuple_str, h_isiB_tuple_list, h_isiB_tuple_tuple, h_isiB_tuple_dict, h_isiB_dict_bool, h_isiB_dict_int, h_isiB_dict_str, h_isiB_dict_list, h_isiB_dict_tuple, h_isiB_dict_dict, h_append, h_put0, h_rng1, h_guard1, h_guard0, h_forLn, h_forLc, h_forT_nx, h_forT_ct, h_forT_bk, h_forT_rt, h_forT_ex, h_wipe0, h_wipes, h_frz, h_frzO, h_frzOn, h_runR_rt, h_runR_nx, h_retZ, h_bGetn, h_bGets, h_setS, h_fldI, h_fldO, h_iteFd1, h_iteFd0, h_iteFe1, h_iteFe0, h_andFd1, h_andFd0, h_andFe1, h_andFe0, h_orFd1, h_orFd0, h_orFe1, h_orFe0, h_callO1, h_meth1, h_meth2, h_resE, h_resEn, h_posn, h_posc, h_eMmeth, h_methM1, h_methM0, h_rm0o, h_rm0x, h_rm0n, h_rm1o, h_rm1x, h_putc, h_putE, h_subF, h_subI, h_putF, h_putI, h_setOs, h_eSfld, h_fldK, h_setFD, h_setFn, h_setFc, h_mk1, h_mkR, h_RLthenM_ok, h_RMthenM_ok, h_RTthen_ok, h_RTthenS_ok, h_RLthenM_exn, h_RMthenM_exn, h_RTthen_exn, h_RTthenS_exn, h_RTof, h_lo_lst, h_lo_olst, h_ixD_ins, h_okD_ins, h_eqD_ins, h_addD_ins, h_addD_oins, h_eMakeN, h_makeNE_F, h_makeNE_V, h_makeNE_W, h_mkN, h_mgM_t, h_mgM_f, h_mgM_n, h_eDnew, h_eDget2, h_getE_non, h_getE_int, h_getE_str, h_getM_s, h_getM_n, h_eDix, h_dgE_int, h_dgE_str, h_eDict, h_dicOf_d, h_dicOf_o, h_dicF_d, h_dicF_o, h_eDput, h_dputK, h_dputI, h_dputS, h_eForD, h_lockR, h_noEx_nx, h_noEx_rt, h_isDic, h_dsK, h_eDc, h_eDcD, h_frE_s, h_frE_n, h_guardB_t, h_dc1, h_dcK, h_dcJ1, h_dcJ0, h_keyD_i, h_keyD_s, h_kDs_n, h_kDs_c, h_dcL_n, h_putP_n, h_eDisp, h_dispEn, h_dispEc, h_eRaise, h_exOf, h_exOfn, h_eTryAs, h_tryK_nx, h_tryK_rt, h_tryK_bk, h_tryK_ct, h_tryK_no, h_tryK_ex, h_tryJ1, h_tryJ0, h_clr_nx, h_clr_rt, h_clr_bk, h_clr_ct, h_clr_no, h_ehAsg, h_hAsgK, h_hAsgKn, h_qevO, h_qevB, h_qevF, h_toQf, h_toQp, h_toQv, h_toQn, h_eqP, h_eqFld, h_eqIs, h_eqIsT, h_isX1t, h_isX1f, h_isXAn, h_isXAc, h_eqAnd, h_eqNot, h_eqLst, h_eqs0, h_eqs1, h_mkMo, h_mkMx, h_mkMn, h_eMakeNM, h_makeNM, h_eCallOM, h_callOMs, h_eAppR, h_isOl, h_apmK, h_runR_ex, h_retX, h_thenY1, h_thenY2, h_thenY3, h_look1, h_look2, h_div, h_mod, h_mulL, h_mulR, h_rngOk, List.zip_cons_cons, List.zip_nil_left, if_pos, if_neg, List.getElem?_cons_zero, List.getElem?_cons_succ, List.getElem?_nil, List.getLast?_append, List.getLast?_singleton, List.getLast?_cons_cons, runFn, env0, Option.toList, List.map_cons, List.map_nil, List.length_cons, List.length_nil, List.length_append, List.length_map, List.length_set, List.replicate, List.cons_append, List.nil_append, List.append_nil, Nat.reduceSub, Nat.reduceAdd, Nat.reduceLT, Nat.reduceLeDiff, Nat.reduceEqDiff, Nat.zero_add, Nat.add_zero, List.set_cons_zero, List.set_cons_succ, List.set_nil, Option.bind_some, Option.bind_none, Option.map_some, Option.map_none, List.foldl_cons, List.foldl_nil, not_false_eq_true, not_true_eq_false, and_true, true_and, and_self, and_false, false_and, if_true, if_false, ite_true, ite_false, reduceIte, List.not_mem_nil, reduceCtorEq, List.mem_cons, or_false, false_or, or_self, ne_eq, Bool.not_true, Bool.not_false, Bool.and_true, Bool.and_false, Bool.true_and, Bool.false_and, Bool.or_true, Bool.or_false, Bool.true_or, Bool.false_or, Bool.and_self, Bool.or_self, List.all_cons, List.all_nil, decide_true, decide_false, decide_not, decide_eq_true_eq, decide_eq_false_iff_not, Bool.not_not, Int.reduceLT, Int.reduceLE, Int.reduceEq, Int.reduceNe, Int.reduceAdd, Int.reduceMul, Int.reduceSub, Int.reduceNeg, List.isEmpty_cons, List.isEmpty_nil, Bool.false_eq_true, Bool.true_eq_false, String.reduceEq, Function.comp_apply, Option.isNone_none, Option.some_or, Option.isNone_some, List.getLast?_concat, List.dropLast_concat, List.all_append, $xs,*])
local macro_rules | `(tactic| dsimp? only [$xs,*]) => `(tactic| simp? only [xs_JoinError_JoinError, xs_JoinError_BadRow, xs_JoinError_BadPlan, xs_JoinError_BadFunction, xs_JoinError_BadPart, xs_BadRow_JoinError, xs_BadRow_BadRow, xs_BadRow_BadPlan, xs_BadRow_BadFunction, xs_BadRow_BadPart, xs_BadPlan_JoinError, xs_BadPlan_BadRow, xs_BadPlan_BadPlan, xs_BadPlan_BadFunction, xs_BadPlan_BadPart, xs_BadFunction_JoinError, xs_BadFunction_BadRow, xs_BadFunction_BadPlan, xs_BadFunction_BadFunction, xs_BadFunction_BadPart, xs_BadPart_JoinError, xs_BadPart_BadRow, xs_BadPart_BadPlan, xs_BadPart_BadFunction, xs_BadPart_BadPart, ik_HashFunction, fk_HashFunction_fan_out, fk_HashFunction_other, fk_HashFunction__parts, rs_HashFunction___call__, rs_HashFunction_part_of, sb_HashFunction_HashFunction, $xs,*])
local macro_rules | `(tactic| walk_at "ev") => `(tactic| simp? only [])
section
variable {W : Wd TT}
def drawStep (big : Bool) (k : Int) (n : Int) : Int × Int :=
  if big = true then (n % 1000, n / 1000)
  else if 0 < n then
    ((((n * (48271 + 6 * k) + 69621 * k) % 2147483647 * ((n * (48271 + 6 * k) + 69621 * k) % 2147483647) + 40692 * k + 1) % 2147483629) % 1000, n)
  else (0, n)
def drawsGo (big : Bool) (n : Int) : Nat -> List Int × Int
  | 0 => ([], n)
  | i + 1 => ((drawsGo big n i).1 ++ [(drawStep big (0 + i) (drawsGo big n i).2).1], (drawStep big (0 + i) (drawsGo big n i).2).2)
def drawNum (ns : List Int) (at' : Int) : Int := if h : 0 <= at' /\ at' < ns.length then (if ns[at'.toNat]'(by omega) < 0 then -(ns[at'.toNat]'(by omega)) else ns[at'.toNat]'(by omega)) else 0
def draws (ns : List Int) (at' many : Int) : List Int := (drawsGo (decide (10 ^ 18 <= drawNum ns at')) (drawNum ns at') many.toNat).1
theorem drawStep_ok {big : Bool} {k n : Int} (h : 0 <= n) : 0 <= (drawStep big k n).1 /\ (drawStep big k n).1 < 1000 /\ 0 <= (drawStep big k n).2 /\ (drawStep big k n).2 <= n := by
  unfold drawStep
  split
  · simp only; omega
  · split
    · simp only; omega
    · simp only; omega
theorem drawsGo_ok {big : Bool} {n : Int} (h : 0 <= n) : ∀ i, (drawsGo big n i).1.length = i /\ (∀ d ∈ (drawsGo big n i).1, 0 <= d /\ d < 1000) /\ 0 <= (drawsGo big n i).2 /\ (drawsGo big n i).2 <= n
  | 0 => ⟨rfl, (fun _ m => nomatch m), h, Int.le_refl _⟩
  | i + 1 => by
    obtain ⟨h1, h2, h3, h4⟩ := drawsGo_ok (big := big) h i
    obtain ⟨q1, q2, q3, q4⟩ := drawStep_ok (big := big) (k := 0 + i) h3
    refine ⟨by rw [drawsGo]; simp [h1], fun d m => ?_, q3, Int.le_trans q4 h4⟩
    rw [drawsGo] at m
    rcases List.mem_append.mp m with m | m
    · exact h2 d m
    · rw [List.mem_singleton.mp m]; exact ⟨q1, q2⟩
theorem drawNum_nn (ns : List Int) (at' : Int) : 0 <= drawNum ns at' := by
  unfold drawNum
  split
  · split <;> omega
  · omega
theorem draws_length (ns : List Int) (at' many : Int) : (draws ns at' many).length = many.toNat := (drawsGo_ok (drawNum_nn ns at') _).1
theorem draws_ok (ns : List Int) (at' many : Int) : ∀ d ∈ draws ns at' many, 0 <= d /\ d < 1000 := (drawsGo_ok (drawNum_nn ns at') _).2.1
theorem f_law_draws (k : Nat) {ns : List Int} {i n : Int} (h0 : 0 <= i) (h1 : 0 <= n) (h2 : n <= 1000) : semT (tbl W) (k + 1) "_law_draws" [.scr ns, .int i, .int n] none = .ok (.olst ((draws ns i n).map .int)) none := by
  rw [sem_law_draws]
  unfold b_law_draws
  have loop : ∀ (b : Bool) (m : Int), 0 <= m -> ∀ e0, e0 = [some (.scr ns), some (.int i), some (.int n), some (.int m), some (.bl b), some (.olst []), none, none, none] -> ∀ r, forL (forK (xgN W 6) (l1_law_draws W (semT (tbl W) k)) []) (rangeD 0 n.toNat) e0 = r ->
      ∃ e', r = .nx e' /\ getS e' 5 = some (.olst ((drawsGo b m n.toNat).1.map .int)) /\ e'.length = 9 := by
    intro b m hm e0 he r hF
    obtain ⟨e', rfl, o6, o7, o8, h⟩ := forL_gen (fun j e => ∃ o6 o7 o8, e = [some (.scr ns), some (.int i), some (.int n), some (.int (drawsGo b m j).2), some (.bl b), some (.olst ((drawsGo b m j).1.map .int)), o6, o7, o8]) hF ⟨none, none, none, he⟩ (by
      rintro j d _ hd ⟨o6, o7, o8, rfl⟩
      obtain ⟨hj, rfl⟩ := rangeD_get hd
      obtain ⟨q1, q2, q3, q4⟩ := drawsGo_ok (big := b) hm j
      generalize hg : drawsGo b m j = g at q1 q2 q3 q4
      have hs : drawsGo b m (j + 1) = (g.1 ++ [(drawStep b (0 + j) g.2).1], (drawStep b (0 + j) g.2).2) := by rw [drawsGo, hg]
      rw [hs]
      have hj2 : (0 : Int) + (j : Int) < 1000 := by omega
      generalize hx : (0 : Int) + (j : Int) = x at hj2
      have hx0 : 0 <= x := by omega
      have hl : g.1.length < 1000000 := by omega
      clear hx hj hd hs hg q4 hF q2
      unfold drawStep l1_law_draws
      cases b with
      | true =>
        refine ⟨_, .inl (by walk_at "ev"; rfl), ?_⟩
        rw [List.map_append]
        exact ⟨_, _, _, rfl⟩
      | false =>
        by_cases hp : 0 < g.2
        · generalize hy : g.2 * (48271 + 6 * x) + 69621 * x = y
          have e1 : 0 <= y % 2147483647 := by omega
          have e2 : y % 2147483647 < 2147483647 := by omega
          generalize hz : y % 2147483647 = z at e1 e2
          refine ⟨_, .inl (by walk_at "ev"; rw [hy, hz]), ?_⟩
          rw [if_neg (by decide), if_pos hp, List.map_append]
          exact ⟨_, _, _, rfl⟩
        · refine ⟨_, .inl (by walk_at "ev"; rfl), ?_⟩
          rw [if_neg (by decide), if_neg hp, List.map_append]
          exact ⟨_, _, _, rfl⟩)
    rw [rangeD_length] at h
    exact ⟨e', rfl, by rw [h]; rfl, by rw [h]; rfl⟩
  have fin : ∀ e' : Py.Env, getS e' 5 = some (.olst ((draws ns i n).map .int)) -> runR none (RS.then (.nx e') ((xsRet (xmMove W 5)).ev [])) = .ok (.olst ((draws ns i n).map .int)) none := fun e' he => by
    walk_at "ev"
    rw [he]
    walk_at "ev"
  have hp : powD (.int 10) (.int 18) = some (.int 1000000000000000000) := rfl
  by_cases hi : i < ns.length
  · obtain ⟨x, hx1, hx2⟩ := atI_get h0 hi
    have en : drawNum ns i = if x < 0 then -x else x := by
      have : x = ns[i.toNat]'(by omega) := by rw [List.getElem?_eq_getElem (by omega)] at hx2; exact (Option.some.inj hx2).symm
      unfold drawNum
      rw [dif_pos ⟨h0, hi⟩, this]
    walk_at "ev"
    rw [atI_map, hx1]
    walk_at "ev"
    rw [hp]
    walk_at "ev"
    rw [<- en]
    have hn := drawNum_nn ns i
    have e0 : drawsGo (decide (1000000000000000000 <= drawNum ns i)) (drawNum ns i) n.toNat = drawsGo (decide (10 ^ 18 <= drawNum ns i)) (drawNum ns i) n.toNat := rfl
    generalize hF : forL _ _ _ = r
    obtain ⟨e', rfl, h5, _⟩ := loop _ _ hn _ rfl _ hF
    exact fin e' (by rw [h5, e0]; rfl)
  · have en : drawNum ns i = 0 := by
      unfold drawNum
      rw [dif_neg (by omega)]
    walk_at "ev"
    rw [hp]
    walk_at "ev"
    generalize hF : forL _ _ _ = r
    obtain ⟨e', rfl, h5, _⟩ := loop false 0 (Int.le_refl _) _ rfl _ hF
    exact fin e' (by rw [h5]; unfold draws; rw [en]; rfl)
theorem u_is_integer (k : Nat) (i : Int) : semT (tbl W) (k + 1) "is_integer" [.int i] none = .ok (.bl true) none := by
  rw [sem_is_integer]; unfold b_is_integer; walk_at "ev"
inductive V7 where
  | i (n : Int) | b (c : Bool) | n | s | l
def eV : V7 -> D
  | .i n => .int n
  | .b c => .bl c
  | .n => .non
  | .s => .str "0"
  | .l => .lst [.int 0]
theorem sh_eV (v : V7) : isSh (eV v) = true := by cases v <;> rfl
theorem fz_eV (v : V7) : fz (eV v) = eV v := fz_isSh (sh_eV v)
abbrev TX := List (Int × V7)
abbrev HX := Int × V7 × TX
abbrev mX (m : TX) : D := .dic (kI m) (vE eV m)
def xS (h : HX) : D := .ins "HashFunction" ["fan_out", "other", "_parts"] [.int h.1, eV h.2.1, mX h.2.2]
def xO (h : HX) : D := .oins "HashFunction" ["fan_out", "other", "_parts"] [.int h.1, eV h.2.1, .odic (kI h.2.2) (vE eV h.2.2)]
theorem fzv_V (m : TX) : fzs (vE eV m) = vE eV m := fzs_vE fz_eV m
theorem shv_V (m : TX) : (vE eV m).all isSh = true := vE_sh sh_eV m
theorem sh_xS (h : HX) : isSh (xS h) = true := rfl
theorem fz_xS (h : HX) : fz (xS h) = xS h := fz_isSh rfl
theorem shl_xS (hs : List HX) : (hs.map xS).all isSh = true := sh_map sh_xS hs
theorem fzl_xS (hs : List HX) : fzs (hs.map xS) = hs.map xS := fzs_map sh_xS hs
def partX (h : HX) : Option Int -> V7
  | some k => (alG h.2.2 k).getD h.2.1
  | none => h.2.1
def goodV : V7 -> Int -> Bool
  | .i n, f => decide (0 <= n /\ n < f)
  | _, _ => false
def isI : V7 -> Bool
  | .i _ => true
  | _ => false
inductive E22 where
  | part (k : Option Int) (v : V7) | fan
def oK : Option Int -> D
  | some k => .int k
  | none => .non
def exE : E22 -> Exn
  | .part k v => ⟨"BadPart", [("key", oK k), ("part", eV v)]⟩
  | .fan => ⟨"BadFunction", [("field", .str "fan_out")]⟩
structure OkX (h : HX) : Prop where
  f1 : 1 <= h.1
  f2 : h.1 <= 64
  nk : Nk h.2.2
  len : h.2.2.length <= 20
theorem u_isI (k : Nat) (v : V7) : semT (tbl W) (k + 1) "is_integer" [eV v] none = .ok (.bl (isI v)) none := by
  rw [sem_is_integer]; unfold b_is_integer eV isI; cases v <;> walk_at "ev"
theorem alX_mem : ∀ {m : TX} {p : Int × V7}, Nk m -> p ∈ m -> alG m p.1 = some p.2
  | q :: m, p, hn, h => by
    have hn2 : q.1 ∉ m.map (·.1) /\ Nk m := List.nodup_cons.mp hn
    unfold alG
    by_cases e : q.1 = p.1
    · rw [List.find?_cons_of_pos (by simpa using e)]
      rcases List.mem_cons.mp h with e2 | h2
      · rw [e2]; rfl
      · exact absurd (List.mem_map.mpr ⟨p, h2, e.symm⟩) hn2.1
    · rw [List.find?_cons_of_neg (by simpa using e)]
      rcases List.mem_cons.mp h with e2 | h2
      · exact absurd (congrArg Prod.fst e2).symm e
      · exact alX_mem hn2.2 h2
theorem alX_new {m : TX} {k : Int} {v : V7} (h : k ∉ m.map (·.1)) : alP m k v = m ++ [(k, v)] := by
  unfold alP
  rw [if_neg]
  rw [List.any_eq_true]
  rintro ⟨p, hp, e⟩
  exact h (List.mem_map.mpr ⟨p, hp, of_decide_eq_true e⟩)
theorem selfX_go (vl : Int -> V7) : ∀ (s p : TX), Nk (p ++ s) -> (∀ q ∈ s, vl q.1 = q.2) -> (s.map (·.1)).foldl (fun m k => alP m k (vl k)) p = p ++ s
  | [], p, _, _ => by simp
  | q :: s, p, hn, hv => by
    have h1 : q.1 ∉ p.map (·.1) := by
      intro m
      unfold Nk at hn
      rw [List.map_append, List.nodup_append] at hn
      exact hn.2.2 q.1 m q.1 (by simp) rfl
    rw [List.map_cons, List.foldl_cons, alX_new h1, hv q (by simp)]
    have e : p ++ q :: s = (p ++ [(q.1, q.2)]) ++ s := by simp
    rw [e] at hn ⊢
    exact selfX_go vl s _ hn fun x m => hv x (List.mem_cons_of_mem _ m)
theorem dcX_self {m : TX} (hn : Nk m) : dcM (fun k : Int => k) (fun k => (alG m k).getD .n) (m.map (·.1)) = m :=
  selfX_go _ m [] hn fun q h => by rw [alX_mem hn h]; rfl
theorem h_orRn {e : Py.Env} {b : RS} : orR (.nx e) b = .nx e := rfl
theorem h_orRx {d : Exn} {e : Py.Env} {b : RS} : orR (.ex d e) b = .ex d e := rfl
theorem h_orRe {b : RS} : orR .no b = b := rfl
local macro_rules | `(tactic| walk_at "evj") => `(tactic| dsimp? only [e_xsAlt, h_orRn, h_orRx, h_orRe, fzv_V, shv_V, sh_eV, fz_eV, sh_xS, fz_xS, shl_xS, fzl_xS, enc_int, enc_bool, sh_enc, fz_enc, shl_enc, fzl_enc, fl_enc, ok_enc, okl_enc, eq_enc, eql_enc, vE_length, kI_length])
theorem x_hash_init (k : Nat) (h : HX) (ok : OkX h) : semT (tbl W) (k + 2) "HashFunction.__init__" [.oins "HashFunction" [] [], .int h.1, mX h.2.2, eV h.2.1] (some 0) = .ok .non (some (xO h)) := by
  obtain ⟨f, o, m⟩ := h
  have h1 : 1 <= f := ok.f1
  have h2 : f <= 64 := ok.f2
  have hm : Nk m := ok.nk
  have hl : m.length <= 20 := ok.len
  have u := fun i => u_is_integer (W := W) k i
  unfold xO
  rw [sem_HashFunction___init__]
  unfold b_HashFunction___init__
  walk_at "evj"
  rw [u]
  walk_at "evj"
  have hkd : kDs (kI m) = some ((m.map (·.1)).map (enc : Int -> D)) := by rw [kDs_al, List.map_map]; rfl
  rw [hkd]
  walk_at "evj"
  generalize hF : forL _ _ _ = rz
  obtain ⟨e', rfl, o4, rfl⟩ := forL_enc (fun (ys : List Int) e => ∃ o4, e = [some (.oins "HashFunction" [] []), some (.int f), some (mX m), some (eV o), o4]) hF ⟨none, rfl⟩ (by
    rintro ys t zs _ hx ⟨o4, rfl⟩
    refine ⟨_, .inl (by unfold l1_HashFunction___init__; walk_at "evj"; rw [u]; walk_at "evj"; rfl), _, rfl⟩)
  walk_at "evj"
  rw [hkd]
  walk_at "evj"
  rw [dcL_al0 (c := (enc : Int -> D)) (g := eV) sh_eV (fun k : Int => k) (fun k => (alG m k).getD .n) (m.map (·.1)) (fun p hp => by
    obtain ⟨q, hq, rfl⟩ := List.mem_map.mp hp
    have hdg := dg_al eV q.1 m
    rw [alX_mem hm hq] at hdg ⊢
    walk_at "evj"
    rw [hdg]
    walk_at "evj"
    try rfl), dcX_self hm]
  walk_at "evj"
  try rfl
theorem x_part_of (k : Nat) {h : HX} (ok : OkX h) (q : Option Int) : semT (tbl W) (k + 2) "HashFunction.part_of" [xS h, oK q] none = if goodV (partX h q) h.1 = true then .ok (eV (partX h q)) none else .exn (exE (.part q (partX h q))) none := by
  have u := fun i => u_isI (W := W) k i
  have f1 := ok.f1
  have f2 := ok.f2
  obtain ⟨f, o, m⟩ := h
  dsimp only at f1 f2
  obtain ⟨v, hv⟩ : ∃ v, v = partX (f, o, m) q := ⟨_, rfl⟩
  rw [<- hv]
  rw [sem_HashFunction_part_of]
  unfold b_HashFunction_part_of xS
  cases q with
  | none =>
    have hv : v = o := hv
    subst hv
    have u := u v
    unfold oK
    cases v with
    | i n =>
      unfold eV isI goodV at *
      walk_at "evj"
      rw [u]
      walk_at "evj"
      by_cases h1 : n < 0
      · rw [if_neg (by first | omega | (simp; omega))]
        walk_at "evj"
        rfl
      · by_cases h2 : n < f
        · rw [if_pos (by first | omega | (simp; omega))]
          walk_at "evj"
        · rw [if_neg (by first | omega | (simp; omega))]
          walk_at "evj"
          rfl
    | b c => unfold eV isI goodV at *; walk_at "evj"; rw [u]; walk_at "evj"; rfl
    | n => unfold eV isI goodV at *; walk_at "evj"; rw [u]; walk_at "evj"; rfl
    | s => unfold eV isI goodV at *; walk_at "evj"; rw [u]; walk_at "evj"; rfl
    | l => unfold eV isI goodV at *; walk_at "evj"; rw [u]; walk_at "evj"; rfl
  | some k =>
    have hd := dg_al eV k m
    have hv : v = (alG m k).getD o := hv
    unfold oK
    cases ha : alG m k with
    | none =>
      rw [ha] at hd hv
      have hv : v = o := hv
      subst hv
      have u := u v
      walk_at "evj"
      rw [hd]
      walk_at "evj"
      cases v with
      | i n =>
        unfold eV isI goodV at *
        rw [u]
        walk_at "evj"
        by_cases h1 : n < 0
        · rw [if_neg (by first | omega | (simp; omega))]
          walk_at "evj"
          rfl
        · by_cases h2 : n < f
          · rw [if_pos (by first | omega | (simp; omega))]
            walk_at "evj"
          · rw [if_neg (by first | omega | (simp; omega))]
            walk_at "evj"
            rfl
      | b c => unfold eV isI goodV at *; rw [u]; walk_at "evj"; rfl
      | n => unfold eV isI goodV at *; rw [u]; walk_at "evj"; rfl
      | s => unfold eV isI goodV at *; rw [u]; walk_at "evj"; rfl
      | l => unfold eV isI goodV at *; rw [u]; walk_at "evj"; rfl
    | some z =>
      rw [ha] at hd hv
      have hv : v = z := hv
      subst hv
      have u := u v
      walk_at "evj"
      rw [hd]
      walk_at "evj"
      cases v with
      | i n =>
        unfold eV isI goodV at *
        rw [u]
        walk_at "evj"
        by_cases h1 : n < 0
        · rw [if_neg (by first | omega | (simp; omega))]
          walk_at "evj"
          rfl
        · by_cases h2 : n < f
          · rw [if_pos (by first | omega | (simp; omega))]
            walk_at "evj"
          · rw [if_neg (by first | omega | (simp; omega))]
            walk_at "evj"
            rfl
      | b c => unfold eV isI goodV at *; rw [u]; walk_at "evj"; rfl
      | n => unfold eV isI goodV at *; rw [u]; walk_at "evj"; rfl
      | s => unfold eV isI goodV at *; rw [u]; walk_at "evj"; rfl
      | l => unfold eV isI goodV at *; rw [u]; walk_at "evj"; rfl
abbrev bfX (f : String) : Exn := ⟨"BadFunction", [("field", .str f)]⟩
def WO : List D := [.int 0, .int (-1), .int 65, .int 100000000000000000000, .bl true, .bl false, .non, .str "2", .lst [.int 2], .tup [.int 1]]
def WK : List D := [.bl true, .bl false, .non, .str "1", .tup [.int 1], .str "key"]
theorem u_isB (k : Nat) (b : Bool) : semT (tbl W) (k + 1) "is_integer" [.bl b] none = .ok (.bl false) none := by
  rw [sem_is_integer]; unfold b_is_integer; walk_at "ev"
theorem u_isN (k : Nat) : semT (tbl W) (k + 1) "is_integer" [.non] none = .ok (.bl false) none := by
  rw [sem_is_integer]; unfold b_is_integer; walk_at "ev"
theorem u_isS (k : Nat) (s : String) : semT (tbl W) (k + 1) "is_integer" [.str s] none = .ok (.bl false) none := by
  rw [sem_is_integer]; unfold b_is_integer; walk_at "ev"
theorem u_isL (k : Nat) (xs : List D) : semT (tbl W) (k + 1) "is_integer" [.lst xs] none = .ok (.bl false) none := by
  rw [sem_is_integer]; unfold b_is_integer; walk_at "ev"
theorem u_isT (k : Nat) (xs : List D) : semT (tbl W) (k + 1) "is_integer" [.tup xs] none = .ok (.bl false) none := by
  rw [sem_is_integer]; unfold b_is_integer; walk_at "ev"
theorem x_bad_out (k : Nat) (w tab : D) (hw : w ∈ WO) : semT (tbl W) (k + 2) "HashFunction.__init__" [.oins "HashFunction" [] [], w, tab, .int 0] (some 0) = .exn (bfX "fan_out") (some (.oins "HashFunction" [] [])) := by
  have u := fun i => u_is_integer (W := W) k i
  rw [sem_HashFunction___init__]
  unfold b_HashFunction___init__
  simp only [WO, List.mem_cons, List.mem_singleton, List.not_mem_nil, or_false] at hw
  rcases hw with rfl | rfl | rfl | rfl | rfl | rfl | rfl | rfl | rfl | rfl
  · walk_at "evj"; rw [u]; walk_at "evj"
  · walk_at "evj"; rw [u]; walk_at "evj"
  · walk_at "evj"; rw [u]; walk_at "evj"
  · walk_at "evj"; rw [u]; walk_at "evj"
  · walk_at "evj"; rw [u_isB]; walk_at "evj"
  · walk_at "evj"; rw [u_isB]; walk_at "evj"
  · walk_at "evj"; rw [u_isN]; walk_at "evj"
  · walk_at "evj"; rw [u_isS]; walk_at "evj"
  · walk_at "evj"; rw [u_isL]; walk_at "evj"
  · walk_at "evj"; rw [u_isT]; walk_at "evj"
theorem h_isDl {m : Bool} {ks : List LK} {xs : List D} : isDic (some (.dlf m ks xs)) = false := rfl
theorem h_isDx {t : String} {φ : XPred} {ks xs : List D} : isDic (some (.xt t φ ks xs)) = false := rfl
theorem h_lockF {r : RS} : lockR false r = .no := rfl
theorem h_ksLs {m : Bool} {ks : List LK} {xs : List D} : ksL (.dlf m ks xs) = some (ks.map lkD) := rfl
theorem h_ksLx {t : String} {φ : XPred} {ks xs : List D} : ksL (.xt t φ ks xs) = none := rfl
theorem h_lkN : lkD .non = .non := rfl
theorem h_lkB {b : Bool} : lkD (.bl b) = .bl b := rfl
theorem h_lkI {i : Int} : lkD (.num i) = .int i := rfl
theorem h_lkS {s : String} : lkD (.txt s) = .str s := rfl
local macro_rules | `(tactic| walk_at "evq") => `(tactic| dsimp? only [e_xDisp3, h_isDl, h_isDx, h_lockF, h_ksLs, h_ksLx, h_ksR, h_xiLfF, h_xiRwF, h_lkN, h_lkB, h_lkI, h_lkS, List.map_cons, List.map_nil, e_xsAlt, h_orRn, h_orRx, h_orRe, fzv_V, shv_V, sh_eV, fz_eV, sh_xS, fz_xS, shl_xS, fzl_xS, enc_int, enc_bool, sh_enc, fz_enc, shl_enc, fzl_enc, fl_enc, ok_enc, okl_enc, eq_enc, eql_enc, vE_length, kI_length])
theorem l13_ok (k : Nat) (i : Int) (s0 s1 s2 s3 : Option D) : (l1_HashFunction___init__ W (semT (tbl W) (k + 1))).ev [0] [s0, s1, s2, s3, some (.int i)] = .nx [s0, s1, s2, s3, some (.int i)] := by
  unfold l1_HashFunction___init__
  walk_at "evj"
  rw [u_is_integer]
  walk_at "evj"
theorem l13_bad (k : Nat) (x : D) (hx : x ∈ WK) (s0 s1 s2 s3 : Option D) : (l1_HashFunction___init__ W (semT (tbl W) (k + 1))).ev [0] [s0, s1, s2, s3, some x] = .ex (bfX "table") [s0, s1, s2, s3, some x] := by
  unfold l1_HashFunction___init__
  simp only [WK, List.mem_cons, List.mem_singleton, List.not_mem_nil, or_false] at hx
  rcases hx with rfl | rfl | rfl | rfl | rfl | rfl
  · walk_at "evj"; rw [u_isB]; walk_at "evj"
  · walk_at "evj"; rw [u_isB]; walk_at "evj"
  · walk_at "evj"; rw [u_isN]; walk_at "evj"
  · walk_at "evj"; rw [u_isS]; walk_at "evj"
  · walk_at "evj"; rw [u_isT]; walk_at "evj"
  · walk_at "evj"; rw [u_isS]; walk_at "evj"
def mixO (x : D) : D := match x with
  | .tup _ => .oxt "dict" rwP [.int (-5), .tup [.int 1], .int 5] [.int 0, .int 0, .int 0]
  | .bl b => .olf true [.num (-5), .bl b, .num 5] [.int 0, .int 0, .int 0]
  | .str s => .olf false [.num (-5), .txt s, .num 5] [.int 0, .int 0, .int 0]
  | _ => .olf false [.num (-5), .non, .num 5] [.int 0, .int 0, .int 0]
theorem mix_ev (x : D) (hx : x ∈ WK) : disp3E (.int (-5)) x (.int 5) (.int 0) (.int 0) (.int 0) = some (mixO x) := by
  simp only [WK, List.mem_cons, List.mem_singleton, List.not_mem_nil, or_false] at hx
  rcases hx with rfl | rfl | rfl | rfl | rfl | rfl <;> rfl
theorem x_bad_tab (k : Nat) (f : Int) (x : D) (h1 : 1 <= f) (h2 : f <= 64) (hx : x ∈ WK) : semT (tbl W) (k + 3) "HashFunction.__init__" [.oins "HashFunction" [] [], .int f, fz (mixO x), .int 0] (some 0) = .exn (bfX "table") (some (.oins "HashFunction" [] [])) := by
  have ok := l13_ok (W := W) (k + 1) (-5) (some (.oins "HashFunction" [] [])) (some (.int f)) (some (fz (mixO x))) (some (.int 0))
  have bad := l13_bad (W := W) (k + 1) x hx (some (.oins "HashFunction" [] [])) (some (.int f)) (some (fz (mixO x))) (some (.int 0))
  have u := fun i => u_is_integer (W := W) (k + 1) i
  rw [sem_HashFunction___init__]
  unfold b_HashFunction___init__
  simp only [WK, List.mem_cons, List.mem_singleton, List.not_mem_nil, or_false] at hx
  rcases hx with rfl | rfl | rfl | rfl | rfl | rfl
  all_goals
    unfold mixO at *
    dsimp only at *
    (try simp only [h_fz_olf, h_fz_oxt, h_fzs_cons, h_fzs_nil, h_fz_int] at ok bad)
    walk_at "evq"
    rw [u]
    walk_at "evq"
    rw [ok]
    walk_at "evq"
    rw [bad]
    walk_at "evq"
end
local macro_rules | `(tactic| walk_at "ev") => `(tactic| simp? only [])
local macro_rules | `(tactic| walk_at "evq") => `(tactic| dsimp? only [e_xDisp3, h_isDl, h_isDx, h_lockF, h_ksLs, h_ksLx, h_ksR, h_xiLfF, h_xiRwF, h_lkN, h_lkB, h_lkI, h_lkS, List.map_cons, List.map_nil, e_xsAlt, h_orRn, h_orRx, h_orRe, fzv_V, shv_V, sh_eV, fz_eV, sh_xS, fz_xS, shl_xS, fzl_xS, enc_int, enc_bool, sh_enc, fz_enc, shl_enc, fzl_enc, fl_enc, ok_enc, okl_enc, eq_enc, eql_enc, vE_length, kI_length])
section
variable {W : Wd TT}
theorem x_refused (k : Nat) (w t : D) (s : String) (hw : isSh w = true) (ht : isSh t = true) (h : semT (tbl W) k "HashFunction.__init__" [.oins "HashFunction" [] [], w, t, .int 0] (some 0) = .exn (bfX s) (some (.oins "HashFunction" [] []))) : semT (tbl W) (k + 1) "_law_refused" [w, t] none = .ok (.str s) none := by
  have e1 := fz_isSh hw
  have e2 := fz_isSh ht
  rw [sem_law_refused]
  unfold b_law_refused
  walk_at "evq"
  rw [e1, e2]
  walk_at "evq"
  rw [h]
  walk_at "evq"
theorem x_refused_base (k : Nat) (w t : D) (s : String) (hw : isSh w = true) (ht : isSh t = true) (h : semT (tbl W) k "HashFunction.__init__" [.oins "HashFunction" [] [], w, t, .int 0] (some 0) = .exn (bfX s) (some (.oins "HashFunction" [] []))) : semT (tbl W) (k + 1) "_law_refused_base" [w, t] none = .ok (.bl true) none := by
  have e1 := fz_isSh hw
  have e2 := fz_isSh ht
  rw [sem_law_refused_base]
  unfold b_law_refused_base
  walk_at "evq"
  rw [e1, e2]
  walk_at "evq"
  rw [h]
  walk_at "evq"
theorem x_taken (k : Nat) (h : HX) (ok : OkX h) (ho : h.2.1 = .i 0) : semT (tbl W) (k + 3) "_law_refused" [.int h.1, mX h.2.2] none = .ok (.str "taken") none := by
  have e := x_hash_init (W := W) k h ok
  rw [ho, show eV (.i 0) = .int 0 from rfl] at e
  rw [sem_law_refused]
  unfold b_law_refused
  walk_at "evq"
  rw [e]
  walk_at "evq"
theorem u_same (k : Nat) (v : V7) : semT (tbl W) (k + 1) "_law_same" [eV v, eV v] none = .ok (.bl true) none := by
  rw [sem_law_same]
  unfold b_law_same
  cases v <;> (unfold eV; walk_at "evq")
theorem x_call (k : Nat) {h : HX} (ok : OkX h) (q : Int) : semT (tbl W) (k + 3) "HashFunction.__call__" [xS h, .int q] none = if goodV (partX h (some q)) h.1 = true then .ok (eV (partX h (some q))) none else .exn (exE (.part (some q) (partX h (some q)))) none := by
  have p := x_part_of (W := W) k ok (some q)
  rw [show oK (some q) = .int q from rfl] at p
  rw [sem_HashFunction___call__]
  unfold b_HashFunction___call__
  unfold xS at p ⊢
  walk_at "evq"
  rw [p]
  by_cases g : goodV (partX h (some q)) h.1 = true
  · rw [if_pos g]
    walk_at "evq"
  · rw [if_neg g]
    walk_at "evq"
theorem x_asked (k : Nat) {h : HX} (ok : OkX h) (q : Int) : semT (tbl W) (k + 4) "_law_asked" [xS h, .int q] none = .ok (.olst (if goodV (partX h (some q)) h.1 = true then [.str "part", eV (partX h (some q))] else [.str "wrong", .int q, eV (partX h (some q))])) none := by
  have c := x_call (W := W) k ok q
  rw [sem_law_asked]
  unfold b_law_asked
  unfold xS at c ⊢
  walk_at "evq"
  rw [c]
  by_cases g : goodV (partX h (some q)) h.1 = true
  · rw [if_pos g, if_pos g]
    have hf := fz_eV (partX h (some q))
    have hs := sh_eV (partX h (some q))
    walk_at "evq"
  · rw [if_neg g, if_neg g]
    unfold exE oK
    walk_at "evq"
theorem x_asked_base (k : Nat) {h : HX} (ok : OkX h) (q : Int) (g : goodV (partX h (some q)) h.1 = false) : semT (tbl W) (k + 4) "_law_asked_base" [xS h, .int q] none = .ok (.bl true) none := by
  have c := x_call (W := W) k ok q
  rw [g] at c
  rw [sem_law_asked_base]
  unfold b_law_asked_base
  unfold xS at c ⊢
  rw [if_neg (by decide)] at c
  unfold exE oK at c
  walk_at "evq"
  rw [c]
  walk_at "evq"
end
local macro_rules | `(tactic| walk_at "ev") => `(tactic| simp? only [])
local macro_rules | `(tactic| walk_at "evq") => `(tactic| dsimp? only [e_xDisp3, h_isDl, h_isDx, h_lockF, h_ksLs, h_ksLx, h_ksR, h_xiLfF, h_xiRwF, h_lkN, h_lkB, h_lkI, h_lkS, List.map_cons, List.map_nil, e_xsAlt, h_orRn, h_orRx, h_orRe, fzv_V, shv_V, sh_eV, fz_eV, sh_xS, fz_xS, shl_xS, fzl_xS, enc_int, enc_bool, sh_enc, fz_enc, shl_enc, fzl_enc, fl_enc, ok_enc, okl_enc, eq_enc, eql_enc, vE_length, kI_length])
section
variable {W : Wd TT}
theorem pow_13 : powD (.int 10) (.int 20) = some (.int 100000000000000000000) := rfl
theorem at_WO (j : Nat) (h : j < 10) : ∃ w, atI ([.int 0, .int (-1), .int 65, .int 100000000000000000000, .bl true, .bl false, .non, .str "2", .lst [.int 2], .tup [.int 1]] : List D) (j : Int) = some w /\ w ∈ WO /\ isSh w = true := by
  match j, h with
  | 0, _ => exact ⟨_, rfl, by simp [WO], rfl⟩
  | 1, _ => exact ⟨_, rfl, by simp [WO], rfl⟩
  | 2, _ => exact ⟨_, rfl, by simp [WO], rfl⟩
  | 3, _ => exact ⟨_, rfl, by simp [WO], rfl⟩
  | 4, _ => exact ⟨_, rfl, by simp [WO], rfl⟩
  | 5, _ => exact ⟨_, rfl, by simp [WO], rfl⟩
  | 6, _ => exact ⟨_, rfl, by simp [WO], rfl⟩
  | 7, _ => exact ⟨_, rfl, by simp [WO], rfl⟩
  | 8, _ => exact ⟨_, rfl, by simp [WO], rfl⟩
  | 9, _ => exact ⟨_, rfl, by simp [WO], rfl⟩
theorem at_WK (j : Nat) (h : j < 6) : ∃ w, atI ([.bl true, .bl false, .non, .str "1", .tup [.int 1], .str "key"] : List D) (j : Int) = some w /\ w ∈ WK /\ isSh w = true := by
  match j, h with
  | 0, _ => exact ⟨_, rfl, by simp [WK], rfl⟩
  | 1, _ => exact ⟨_, rfl, by simp [WK], rfl⟩
  | 2, _ => exact ⟨_, rfl, by simp [WK], rfl⟩
  | 3, _ => exact ⟨_, rfl, by simp [WK], rfl⟩
  | 4, _ => exact ⟨_, rfl, by simp [WK], rfl⟩
  | 5, _ => exact ⟨_, rfl, by simp [WK], rfl⟩
theorem at_WP (f : Int) (h1 : 1 <= f) (h2 : f <= 64) (j : Nat) (h : j < 8) : ∃ v : V7, atI ([.int f, .int (-1), .int 100000000000000000000, .bl true, .bl false, .non, .str "0", .lst [.int 0]] : List D) (j : Int) = some (eV v) /\ goodV v f = false := by
  match j, h with
  | 0, _ => exact ⟨.i f, rfl, by simp [goodV]⟩
  | 1, _ => exact ⟨.i (-1), rfl, by simp [goodV]⟩
  | 2, _ => exact ⟨.i 100000000000000000000, rfl, by simp [goodV]; omega⟩
  | 3, _ => exact ⟨.b true, rfl, rfl⟩
  | 4, _ => exact ⟨.b false, rfl, rfl⟩
  | 5, _ => exact ⟨.n, rfl, rfl⟩
  | 6, _ => exact ⟨.s, rfl, rfl⟩
  | 7, _ => exact ⟨.l, rfl, rfl⟩
theorem mixO_fz (x : D) (hx : x ∈ WK) : isSh (mixO x) = false /\ isSh (fz (mixO x)) = true /\ fz (fz (mixO x)) = fz (mixO x) := by
  simp only [WK, List.mem_cons, List.mem_singleton, List.not_mem_nil, or_false] at hx
  rcases hx with rfl | rfl | rfl | rfl | rfl | rfl <;> (unfold mixO; refine ⟨rfl, ?_, ?_⟩ <;> simp [fz, fzs, isSh])
def tabN (c f : Int) (n : Nat) : TX := (List.range n).map fun k : Nat => ((k : Int) * 10, V7.i ((c + (k : Int)) % f))
theorem tabN_succ (c f : Int) (n : Nat) : tabN c f (n + 1) = tabN c f n ++ [((n : Int) * 10, V7.i ((c + (n : Int)) % f))] := by
  unfold tabN; rw [List.range_succ, List.map_append]; rfl
theorem tabN_len (c f : Int) (n : Nat) : (tabN c f n).length = n := by unfold tabN; simp
theorem tabN_mem {c f : Int} {n : Nat} {q : Int × V7} (h : q ∈ tabN c f n) : ∃ k : Nat, k < n /\ q.1 = (k : Int) * 10 := by
  obtain ⟨k, h1, rfl⟩ := List.mem_map.mp h
  exact ⟨k, List.mem_range.mp h1, rfl⟩
theorem tabN_new (c f : Int) (n : Nat) : (n : Int) * 10 ∉ (tabN c f n).map (·.1) := by
  intro m
  obtain ⟨q, h1, h2⟩ := List.mem_map.mp m
  obtain ⟨k, h3, h4⟩ := tabN_mem h1
  rw [h4] at h2
  omega
theorem tabN_nk (c f : Int) : ∀ n, Nk (tabN c f n)
  | 0 => .nil
  | n + 1 => by
    unfold Nk
    rw [tabN_succ, List.map_append, List.nodup_append]
    refine ⟨tabN_nk c f n, by simp, fun x hx y hy z => tabN_new c f n ?_⟩
    have : y = (n : Int) * 10 := by simpa using hy
    rw [<- this, <- z]; exact hx
theorem tabN_7 (c f : Int) (n : Nat) : (7 : Int) ∉ (tabN c f n).map (·.1) := by
  intro m
  obtain ⟨q, h1, h2⟩ := List.mem_map.mp m
  obtain ⟨k, h3, h4⟩ := tabN_mem h1
  omega
theorem tabN_3 (c f : Int) (n : Nat) : (3 : Int) ∉ (tabN c f n).map (·.1) := by
  intro m
  obtain ⟨q, h1, h2⟩ := List.mem_map.mp m
  obtain ⟨k, h3, h4⟩ := tabN_mem h1
  omega
theorem l1_13 (φ : Sem) (j : Nat) (hj : j < 7) (a b c d e f g F : Int) (h1 : 1 <= F) (h2 : F <= 64) (s0 s4 s5 s6 s7 s8 s9 s10 s11 s12 s13 : Option D) :
    forK (xgN W 4) (l1_law W φ) [] (.int (j : Int)) [s0, some (.olst [.int a, .int b, .int c, .int d, .int e, .int f, .int g]), some (.int F), some (.odic (kI (tabN c F j)) (vE eV (tabN c F j))), s4, s5, s6, s7, s8, s9, s10, s11, s12, s13] =
      .nx [s0, some (.olst [.int a, .int b, .int c, .int d, .int e, .int f, .int g]), some (.int F), some (.odic (kI (tabN c F (j + 1))) (vE eV (tabN c F (j + 1)))), some (.int (j : Int)), s5, s6, s7, s8, s9, s10, s11, s12, s13] := by
  have hput : putP (kI (tabN c F j)) (vE eV (tabN c F j)) (.inl ((j : Int) * 10)) (.int ((c + (j : Int)) % F)) = some (kI (alP (tabN c F j) ((j : Int) * 10) (.i ((c + (j : Int)) % F))), vE eV (alP (tabN c F j) ((j : Int) * 10) (.i ((c + (j : Int)) % F)))) := putP_al (g := eV) (a := .i ((c + (j : Int)) % F)) sh_eV (tabN_nk c F j)
  rw [alX_new (tabN_new c F j), <- tabN_succ] at hput
  have hl := tabN_len c F j
  have hlm : (tabN c F j).length < 1000 := by omega
  clear hl
  generalize tabN c F (j + 1) = m2 at *
  generalize tabN c F j = m at *
  match j, hj with
  | 0, _ | 1, _ | 2, _ | 3, _ | 4, _ | 5, _ | 6, _ =>
    unfold l1_law
    walk_at "evq"
    rw [hput]
    walk_at "evq"
theorem fz_xO (h : HX) : fz (xO h) = xS h := by
  unfold xO xS
  simp only [h_fz_oins, h_fzs_cons, h_fzs_nil, h_fz_int, h_fz_odic, fz_eV, fzv_V]
theorem l2_13 (k : Nat) {h : HX} (ok : OkX h) {v : V7} (h7 : partX h (some 7) = v) (hb : goodV v h.1 = false) (h3 : partX h (some 3) = .i 0) {d11 : D} (hd11 : fz d11 = xS h) (t : Int) (s0 s1 s2 s3 s4 s5 s6 s7 s8 s9 s13 : Option D) :
    ∃ s13', (l2_law W (semT (tbl W) (k + 5))).ev [] [s0, s1, s2, s3, s4, s5, s6, s7, s8, s9, some (eV v), some d11, some (.int t), s13] = .nx [s0, s1, s2, s3, s4, s5, s6, s7, s8, s9, some (eV v), some (xS h), some (.int t), s13'] := by
  have a7 := x_asked (W := W) (k + 1) ok 7
  have a3 := x_asked (W := W) (k + 1) ok 3
  have b7 := x_asked_base (W := W) (k + 1) ok 7 (by rw [h7]; exact hb)
  have f1 := ok.f1
  rw [h7, hb, if_neg (by decide)] at a7
  rw [h3, show goodV (.i 0) h.1 = true by (unfold goodV; rw [decide_eq_true_eq]; omega), if_pos rfl, show eV (.i 0) = .int 0 from rfl] at a3
  have us := u_same (W := W) (k + 4) v
  have e1 := fz_eV v
  have e2 := sh_eV v
  refine ⟨some (.olst [.str "wrong", .int 7, eV v]), ?_⟩
  unfold l2_law
  unfold xS at *
  walk_at "evq"
  rw [hd11]
  walk_at "evq"
  rw [a7]
  walk_at "evq"
  rw [us]
  walk_at "evq"
  rw [b7]
  walk_at "evq"
  rw [a3]
  walk_at "evq"
theorem nk_snoc7 {tb : TX} (hnk : Nk tb) (hn7 : (7 : Int) ∉ tb.map (·.1)) (v : V7) : Nk (tb ++ [(7, v)]) := by
  unfold Nk
  rw [List.map_append, List.nodup_append]
  refine ⟨hnk, by simp, fun x hx y hy z => hn7 ?_⟩
  have e : y = 7 := by simpa using hy
  rw [<- e, <- z]
  exact hx
theorem p17 {tb : TX} (hnk : Nk tb) (hn7 : (7 : Int) ∉ tb.map (·.1)) (F : Int) (v : V7) : partX (F, .i 0, tb ++ [(7, v)]) (some 7) = v := by
  show (alG (tb ++ [((7 : Int), v)]) 7).getD (.i 0) = v
  rw [alX_mem (p := ((7 : Int), v)) (nk_snoc7 hnk hn7 v) (by simp)]
  rfl
theorem alX_no : ∀ {m : TX} {k : Int}, k ∉ m.map (·.1) -> alG m k = none
  | [], _, _ => rfl
  | q :: m, k, h => by
    rw [List.map_cons, List.mem_cons, not_or] at h
    have ih := alX_no h.2
    unfold alG at ih ⊢
    rw [List.find?_cons_of_neg (by simpa using fun e => h.1 e.symm)]
    exact ih
theorem p13 {tb : TX} (hn3 : (3 : Int) ∉ tb.map (·.1)) (F : Int) (v : V7) : partX (F, .i 0, tb ++ [(7, v)]) (some 3) = .i 0 := by
  show (alG (tb ++ [((7 : Int), v)]) 3).getD (.i 0) = .i 0
  rw [alX_no]
  · rfl
  · rw [List.map_append, List.mem_append]
    rintro (h | h)
    · exact hn3 h
    · simp at h
theorem law_true (W : Wd TT) (ns : List Int) (hns : ns.length <= 63) : runFn 14 (b_law W (semT (tbl W) 8)) [.scr ns] none = .ok (.bl true) none := by
  unfold b_law
  walk_at "evq"
  rw [f_law_draws 7 (by decide) (by decide) (by decide)]
  have hl := draws_length ns 0 7
  have ho := draws_ok ns 0 7
  match hd : draws ns 0 7, hl with
  | [a, b, c, d, e, f, g], _ =>
  rw [hd] at ho
  walk_at "evq"
  obtain ⟨n, hn⟩ : ∃ n : Nat, b % 7 = (n : Int) := ⟨(b % 7).toNat, by omega⟩
  rw [hn, Int.toNat_natCast]
  have hF1 : 1 <= 1 + a % 64 := by omega
  have hF2 : 1 + a % 64 <= 64 := by omega
  generalize 1 + a % 64 = F at *
  generalize hF : forL _ _ _ = r
  obtain ⟨e', rfl, o4, rfl⟩ := forL_range (fun j e' => ∃ o4, e' = [some (.scr ns), some (.olst [.int a, .int b, .int c, .int d, .int e, .int f, .int g]), some (.int F), some (.odic (kI (tabN c F j)) (vE eV (tabN c F j))), o4, none, none, none, none, none, none, none, none, none]) hF ⟨none, rfl⟩ (by
    rintro j _ hj ⟨o4, rfl⟩
    exact ⟨_, .inl (l1_13 _ j (by omega) a b c d e f g F hF1 hF2 _ _ _ _ _ _ _ _ _ _ _), _, rfl⟩)
  clear hF
  walk_at "evq"
  rw [pow_13]
  walk_at "evq"
  obtain ⟨jd, hjd⟩ : ∃ n : Nat, d % 10 = (n : Int) := ⟨(d % 10).toNat, by omega⟩
  obtain ⟨w, hw1, hw2, hw3⟩ := at_WO jd (by omega)
  rw [hjd, hw1]
  have hw4 := fz_isSh hw3
  walk_at "evq"
  obtain ⟨je, hje⟩ : ∃ n : Nat, e % 6 = (n : Int) := ⟨(e % 6).toNat, by omega⟩
  obtain ⟨x, hx1, hx2, hx3⟩ := at_WK je (by omega)
  rw [hje, hx1]
  have hx4 := fz_isSh hx3
  walk_at "evq"
  rw [mix_ev x hx2]
  obtain ⟨m1, m2, m3⟩ := mixO_fz x hx2
  have r1 := x_refused (W := W) 7 w (mX (tabN c F n)) "fan_out" hw3 rfl (x_bad_out 5 w _ hw2)
  have r2 := x_refused (W := W) 7 (.int F) (fz (mixO x)) "table" rfl m2 (x_bad_tab 4 F x hF1 hF2 hx2)
  have r3 := x_refused (W := W) 7 w (fz (mixO x)) "fan_out" hw3 m2 (x_bad_out 5 w _ hw2)
  have ok0 : OkX (F, .i 0, tabN c F n) := ⟨hF1, hF2, tabN_nk c F n, by show (tabN c F n).length <= 20; rw [tabN_len]; omega⟩
  have r4 := x_taken (W := W) 5 (F, .i 0, tabN c F n) ok0 rfl
  have r5 := x_refused_base (W := W) 7 w (mX (tabN c F n)) "fan_out" hw3 rfl (x_bad_out 5 w _ hw2)
  have r6 := x_refused_base (W := W) 7 (.int F) (fz (mixO x)) "table" rfl m2 (x_bad_tab 4 F x hF1 hF2 hx2)
  have hn7 := tabN_7 c F n
  have hn3 := tabN_3 c F n
  have hnk := tabN_nk c F n
  have htl := tabN_len c F n
  generalize tabN c F n = tb at *
  generalize mixO x = mx at *
  have m4 : ¬ isSh mx = true := by rw [m1]; decide
  walk_at "evq"
  rw [r1]
  walk_at "evq"
  (try rw [if_neg m4])
  walk_at "evq"
  rw [r2]
  walk_at "evq"
  (try rw [if_neg m4])
  walk_at "evq"
  (try rw [hw4])
  rw [r3]
  walk_at "evq"
  rw [r4]
  walk_at "evq"
  (try rw [hw4])
  rw [r5]
  walk_at "evq"
  (try rw [if_neg m4])
  walk_at "evq"
  rw [r6]
  walk_at "evq"
  rw [pow_13]
  walk_at "evq"
  obtain ⟨jf, hjf⟩ : ∃ n : Nat, f % 8 = (n : Int) := ⟨(f % 8).toNat, by omega⟩
  obtain ⟨v, hv1, hv2⟩ := at_WP F hF1 hF2 jf (by omega)
  rw [hjf, hv1]
  have hvf := fz_eV v
  have hvs := sh_eV v
  walk_at "evq"
  have hput : putP (kI tb) (vE eV tb) (.inl 7) (eV v) = some (kI (alP tb 7 v), vE eV (alP tb 7 v)) := putP_al (g := eV) (a := v) sh_eV hnk
  rw [alX_new hn7] at hput
  rw [hput]
  walk_at "evq"
  have ok1 : OkX (F, .i 0, tb ++ [(7, v)]) := ⟨hF1, hF2, nk_snoc7 hnk hn7 v, by show (tb ++ [(7, v)]).length <= 20; rw [List.length_append, htl, List.length_singleton]; omega⟩
  have ok2 : OkX (F, v, [((3 : Int), V7.i 0)]) := ⟨hF1, hF2, by simp [Nk], by simp⟩
  have i1 := x_hash_init (W := W) 6 _ ok1
  have i2 := x_hash_init (W := W) 6 _ ok2
  dsimp only at i1 i2
  rw [show eV (.i 0) = .int 0 from rfl] at i1
  rw [i1]
  have hz1 := fz_xO (F, .i 0, tb ++ [(7, v)])
  have hz2 := fz_xO (F, v, [((3 : Int), V7.i 0)])
  have p17 := p17 hnk hn7 F v
  have p13 := p13 hn3 F v
  have p27 : partX (F, v, [((3 : Int), V7.i 0)]) (some 7) = v := rfl
  have p23 : partX (F, v, [((3 : Int), V7.i 0)]) (some 3) = .i 0 := rfl
  walk_at "evq"
  have i2 : semT (tbl W) 8 "HashFunction.__init__" [.oins "HashFunction" [] [], .int F, .dic [.inl 3] [.int 0], eV v] (some 0) = .ok .non (some (xO (F, v, [((3 : Int), V7.i 0)]))) := i2
  have hxs := fz_xS (F, .i 0, tb ++ [(7, v)])
  generalize hI : iteF _ _ _ _ = ri
  obtain ⟨h, d11, ok, hF, hd, p7, p3, rfl⟩ : ∃ (h : HX) (d11 : D), OkX h /\ h.1 = F /\ fz d11 = xS h /\ partX h (some 7) = v /\ partX h (some 3) = .i 0 /\ ri = .nx [some (.scr ns), some (.olst [.int a, .int b, .int c, .int d, .int e, .int f, .int g]), some (.int F), some (.dic (kI (tb ++ [(7, v)])) (vE eV (tb ++ [(7, v)]))), o4, some (.olst [.int 0, .int (-1), .int 65, .int 100000000000000000000, .bl true, .bl false, .non, .str "2", .lst [.int 2], .tup [.int 1]]), some w, some x, some mx,
      some (.olst [.int F, .int (-1), .int 100000000000000000000, .bl true, .bl false, .non, .str "0", .lst [.int 0]]), some (eV v), some d11, none, none] := by
    rw [<- hI]
    by_cases hg : g % 2 = 1
    · refine ⟨(F, v, [((3 : Int), V7.i 0)]), _, ok2, rfl, hz2, p27, p23, ?_⟩
      rw [decide_eq_true hg]
      walk_at "evq"
      rw [i2]
      walk_at "evq"
    · refine ⟨(F, .i 0, tb ++ [(7, v)]), fz (xO (F, V7.i 0, tb ++ [(7, v)])), ok1, rfl, by rw [hz1]; exact hxs, p17, p13, ?_⟩
      rw [decide_eq_false hg]
      walk_at "evq"
  clear hI
  walk_at "evq"
  have hb : goodV v h.1 = false := by rw [hF]; exact hv2
  obtain ⟨u0, h0⟩ := l2_13 (W := W) 3 ok p7 hb p3 hd 0 (some (.scr ns)) (some (.olst [.int a, .int b, .int c, .int d, .int e, .int f, .int g])) (some (.int F)) (some (.dic (kI (tb ++ [(7, v)])) (vE eV (tb ++ [(7, v)])))) o4 (some (.olst [.int 0, .int (-1), .int 65, .int 100000000000000000000, .bl true, .bl false, .non, .str "2", .lst [.int 2], .tup [.int 1]])) (some w) (some x) (some mx) (some (.olst [.int F, .int (-1), .int 100000000000000000000, .bl true, .bl false, .non, .str "0", .lst [.int 0]])) none
  obtain ⟨u1, h1⟩ := l2_13 (W := W) 3 ok p7 hb p3 (fz_xS h) 1 (some (.scr ns)) (some (.olst [.int a, .int b, .int c, .int d, .int e, .int f, .int g])) (some (.int F)) (some (.dic (kI (tb ++ [(7, v)])) (vE eV (tb ++ [(7, v)])))) o4 (some (.olst [.int 0, .int (-1), .int 65, .int 100000000000000000000, .bl true, .bl false, .non, .str "2", .lst [.int 2], .tup [.int 1]])) (some w) (some x) (some mx) (some (.olst [.int F, .int (-1), .int 100000000000000000000, .bl true, .bl false, .non, .str "0", .lst [.int 0]])) u0
  rw [show rangeD 0 (Int.toNat 2) = [.int 0, .int 1] from rfl]
  walk_at "evq"
  rw [h0]
  walk_at "evq"
  rw [h1]
  walk_at "evq"
end
end Py
namespace Py
open PySem L2
theorem factsL {P : Program} {w : World} {K : PySem.W.Frag} {h : Heap} {mg : Str -> Option Value} {f : Addr} (X : K.In h) (G : h.Ns mainGlobals mg) (hfa : mg ("law" : Str) = some (.ref f)) (c : SaysX faL fnL K) (hPf : ((P.main.file : Str) == fileL) = true) (hPs : (P.main.scope.names.lookup ("super" : Str)).isSome = false) :
    ∃ fd : FuncData, (∀ (s : Shared) (v : Value), BindsTo s fd ⟨[v], []⟩ [("_law_script", v)]) /\ ∀ base : Heap, K.In base -> base.Ns mainGlobals mg -> FnOk P w K mg base CX0 36 f fd A_law (spL K) := by
  let W : Wd TT := fLaw TT P w K clsL fldL fldL_ok subT (fun _ _ => rfl) xL xsubT (fun _ _ => rfl) (c.fact 37 (f := fXm xL xsubT) rfl) (c.fact 38 (f := fXv xL) rfl) (c.fact 39 (f := fXc xL) rfl) (c.fact 30 (f := fCls clsL) rfl) (c.fact 31 (f := fNoat clsL fldL) rfl) (c.fact 32 (f := fIsT clsL) rfl) (c.fact 33 (f := fTO clsL) rfl) (c.fact 34 (f := fOT clsL) rfl) (c.fact 35 (f := fOO clsL subT) rfl)
  have D_is_integer : DefAt K mg "is_integer" "is_integer" s_is_integer [] [] := by
    obtain ⟨fd, F⟩ := c.def_ 0 (d := dd_is_integer) rfl
    exact ⟨_, fd, F, He.glo_ok X G (c.fact 0 (f := fGlo "is_integer") rfl)⟩
  have D_law_draws : DefAt K mg "_law_draws" "_law_draws" s_law_draws [] [] := by
    obtain ⟨fd, F⟩ := c.def_ 1 (d := dd_law_draws) rfl
    exact ⟨_, fd, F, He.glo_ok X G (c.fact 1 (f := fGlo "_law_draws") rfl)⟩
  have D_law_refused : DefAt K mg "_law_refused" "_law_refused" s_law_refused [] [] := by
    obtain ⟨fd, F⟩ := c.def_ 2 (d := dd_law_refused) rfl
    exact ⟨_, fd, F, He.glo_ok X G (c.fact 2 (f := fGlo "_law_refused") rfl)⟩
  have D_law_refused_base : DefAt K mg "_law_refused_base" "_law_refused_base" s_law_refused_base [] [] := by
    obtain ⟨fd, F⟩ := c.def_ 3 (d := dd_law_refused_base) rfl
    exact ⟨_, fd, F, He.glo_ok X G (c.fact 3 (f := fGlo "_law_refused_base") rfl)⟩
  have D_law_asked : DefAt K mg "_law_asked" "_law_asked" s_law_asked [] [] := by
    obtain ⟨fd, F⟩ := c.def_ 4 (d := dd_law_asked) rfl
    exact ⟨_, fd, F, He.glo_ok X G (c.fact 4 (f := fGlo "_law_asked") rfl)⟩
  have D_law_asked_base : DefAt K mg "_law_asked_base" "_law_asked_base" s_law_asked_base [] [] := by
    obtain ⟨fd, F⟩ := c.def_ 5 (d := dd_law_asked_base) rfl
    exact ⟨_, fd, F, He.glo_ok X G (c.fact 5 (f := fGlo "_law_asked_base") rfl)⟩
  have D_law_same : DefAt K mg "_law_same" "_law_same" s_law_same [] [] := by
    obtain ⟨fd, F⟩ := c.def_ 6 (d := dd_law_same) rfl
    exact ⟨_, fd, F, He.glo_ok X G (c.fact 6 (f := fGlo "_law_same") rfl)⟩
  have B : Blt mg := ⟨He.free_ok X G (c.fact 8 (f := fFree "len") rfl), He.free_ok X G (c.fact 9 (f := fFree "range") rfl), He.free_ok X G (c.fact 10 (f := fFree "abs") rfl), He.free_ok X G (c.fact 11 (f := fFree "int") rfl), He.free_ok X G (c.fact 12 (f := fFree "bool") rfl), He.free_ok X G (c.fact 13 (f := fFree "str") rfl), He.free_ok X G (c.fact 14 (f := fFree "list") rfl), He.free_ok X G (c.fact 15 (f := fFree "tuple") rfl), He.free_ok X G (c.fact 16 (f := fFree "isinstance") rfl), He.free_ok X G (c.fact 17 (f := fFree "sorted") rfl), He.free_ok X G (c.fact 18 (f := fFree "enumerate") rfl), He.free_ok X G (c.fact 19 (f := fFree "zip") rfl), He.free_ok X G (c.fact 20 (f := fFree "sum") rfl), He.free_ok X G (c.fact 21 (f := fFree "any") rfl), He.free_ok X G (c.fact 22 (f := fFree "all") rfl), He.free_ok X G (c.fact 23 (f := fFree "max") rfl), He.free_ok X G (c.fact 24 (f := fFree "min") rfl), He.free_ok X G (c.fact 25 (f := fFree "dict") rfl), He.free_ok X G (c.fact 26 (f := fFree "set") rfl), He.free_ok X G (c.fact 27 (f := fFree "type") rfl), He.free_ok X G (c.fact 28 (f := fFree "iter") rfl), He.free_ok X G (c.fact 29 (f := fFree "super") rfl)⟩
  have C : Cs W mg := ⟨fun c h => h,
    fDun_ok (fun c h => h) (fun c => rfl) (c.fact 36 (f := fDun clsL) rfl),
    (by simp [W, fLaw, clsL]),
    He.glo_ok X G (c.fact 50 (f := fGlo "HashFunction") rfl),
    (let ⟨fd, F⟩ := c.def_ 8 (d := de_HashFunction___init__) rfl; ⟨_, fd, F, He.meth_ok (c.fact 51 (f := fMeth "HashFunction" "__init__") rfl)⟩),
    (let ⟨fd, F⟩ := c.def_ 9 (d := de_HashFunction___call__) rfl; ⟨_, fd, F, He.meth_ok (c.fact 52 (f := fMeth "HashFunction" "__call__") rfl)⟩),
    (let ⟨fd, F⟩ := c.def_ 10 (d := de_HashFunction_part_of) rfl; ⟨_, fd, F, He.meth_ok (c.fact 53 (f := fMeth "HashFunction" "part_of") rfl)⟩),
    ⟨_, He.mkr_ok (c.fact 54 (f := fMkr "HashFunction") rfl)⟩,
    He.free_ok X G (c.fact 40 (f := fFree "ValueError") rfl),
    (by simp [W, fLaw, xL]),
    He.glo_ok X G (c.fact 41 (f := fGlo "JoinError") rfl),
    (by simp [W, fLaw, xL]),
    He.glo_ok X G (c.fact 42 (f := fGlo "BadRow") rfl),
    (let z := fExc_ok (c.fact 43 (f := fExc "BadRow" "BadRow.__init__" ["number"] fileL) rfl) (c.cld 11 (d := dx_BadRow) rfl) hPf; exd_BadRow z.1 hPs (He.glo_ok X G (c.fact 42 (f := fGlo "BadRow") rfl)) B.super z.2),
    (by simp [W, fLaw, xL]),
    He.glo_ok X G (c.fact 44 (f := fGlo "BadPlan") rfl),
    (let z := fExc_ok (c.fact 45 (f := fExc "BadPlan" "BadPlan.__init__" ["field"] fileL) rfl) (c.cld 12 (d := dx_BadPlan) rfl) hPf; exd_BadPlan z.1 hPs (He.glo_ok X G (c.fact 44 (f := fGlo "BadPlan") rfl)) B.super z.2),
    (by simp [W, fLaw, xL]),
    He.glo_ok X G (c.fact 46 (f := fGlo "BadFunction") rfl),
    (let z := fExc_ok (c.fact 47 (f := fExc "BadFunction" "BadFunction.__init__" ["field"] fileL) rfl) (c.cld 13 (d := dx_BadFunction) rfl) hPf; exd_BadFunction z.1 hPs (He.glo_ok X G (c.fact 46 (f := fGlo "BadFunction") rfl)) B.super z.2),
    (by simp [W, fLaw, xL]),
    He.glo_ok X G (c.fact 48 (f := fGlo "BadPart") rfl),
    (let z := fExc_ok (c.fact 49 (f := fExc "BadPart" "BadPart.__init__" ["key", "part"] fileL) rfl) (c.cld 14 (d := dx_BadPart) rfl) hPf; exd_BadPart z.1 hPs (He.glo_ok X G (c.fact 48 (f := fGlo "BadPart") rfl)) B.super z.2),
    He.int_ok X G (c.fact 55 (f := fInt "WIDEST" 64) rfl)⟩
  obtain ⟨fdL, FL⟩ := c.def_ 7 (d := dd_law) rfl
  have e := hfa.symm.trans (He.glo_ok X G (c.fact 7 (f := fGlo "law") rfl))
  cases e
  have b := FunD.bindsA (ps := A_law) FL bp_law
  refine ⟨fdL, fun s v => b s [v] rfl, fun base _ _ => ?_⟩
  exact ok_law (W := W) (ds_all (W := W) (base := base) D_is_integer D_law_draws D_law_refused D_law_refused_base D_law_asked D_law_asked_base D_law_same C B 8) C FL B (spL_spR (W := W) (law_true W))
end Py
open PySem PySem.W PySem.Calls PyProof.Rows
theorem PySem.Challenge.cw_anyhashes_k13_wrong_hash_functions_holds : PySem.Challenge.rw_anyhashes_k13_wrong_hash_functions.Holds :=
  Py.headL Py.factsL
