import PyProof.Rows.All
import HandS.HeadHook2
import HandS.Head0
import HandS.Head1
import HandS.Head2
import HandS.HeadEnd
import HandS.HeadHook1
import HandS.HeadNt
import Wide.All
import OpenK.AllK
import Wide.FinOn
import KE.KFromBytes
import KE.KSuper
import KE.KExcSuper
import KE.KExcIs
import HandS.ForMost
import HandS.Exc
import HandS.ExcOwn
import HandS.ExcSuper
import HandS.TryOnly
import HandS.TryMany
import HandS.CallSlots
import KE.KDictCopyH
import PyProof.DictIter
import HandS.ExcIs
import KE.KDictKeyed
import HandS.IsInst
import HandS.Wide
import HandS.Defaults
import HandS.Zip
import HandS.More
import KE.SortData
import HandS.Property
import HandS.MakeKwOnly
import HandS.SortKw
import HandS.IterVal
import HandS.OwnIter
import HandS.OwnEq
import KE.DataMinMax
import KE.KTupSum
import HandS.Deep
import HandS.Dict
import HandS.DictComp
import HandS.NoneIn
import HandS.SetKeys
import HandS.Iter
import HandS.SetFor
import HandS.Strs
import PyProof.Rows.SetFrom
import HandS.ExcField
import KE.GoesMore
import PyProof.Draws
import HandS.Conv
import HandS.TupLen
import KE.KWithOwn
import HandS.GenList
import HandS.GenYield
import HandS.TupAny
import HandS.Style
import HandS.ClsMeth
import HandS.Nested
import HandS.New0
import KE.GoesComp
import KE.GoesRaise
import HandS.GenOver
import PyProof.GenRules
import PyProof.Rows.Range3
import KE.KxField
import HandS.FStr
import HandS.Text
import PyProof.StrOps2
import PyProof.Rows.TupTab
import KE.KDictDisplayH
import KE.GoesSet
import PySem.Challenge.RW_anyhashes_k77_plain_groups
set_option Elab.async false
set_option linter.all false
set_option maxRecDepth 100000
set_option maxHeartbeats 8000000
namespace Py
open PySem L2
inductive LK where
  | non | bl (b : Bool) | num (i : Int) | txt (x : String)
  deriving DecidableEq
inductive D where
  | non | bl (b : Bool) | int (i : Int) | str (x : String) | cls (c : String) | sei (xs : List Int)
  | scr (ns : List Int) | tup (xs : List D) | lst (xs : List D) | dic (ks : List Key) (xs : List D) | dit (ks : List (List Key)) (xs : List D) | dig (ks : List NestedKey) (xs : List D) | dlf (m : Bool) (ks : List LK) (xs : List D) | ins (c : String) (ns : List String) (xs : List D)
  | olst (xs : List D) | odic (ks : List Key) (xs : List D) | odit (ks : List (List Key)) (xs : List D) | odig (ks : List NestedKey) (xs : List D) | olf (m : Bool) (ks : List LK) (xs : List D) | oins (c : String) (ns : List String) (xs : List D)
abbrev so : String -> Str := Str.ofString
abbrev FB := PySem.W.Frag -> Bool
abbrev ga (K : PySem.W.Frag) (c : String) : Addr := He.ga K (so c)
abbrev ma (K : PySem.W.Frag) (c m : String) : Addr := He.ma K (ga K c) (so m)
def pa (K : PySem.W.Frag) (c f : String) : Addr := match PySem.W.findIn K (.ref (ga K c)) (so f) with
  | some (some (.ref p)) => (match PySem.W.recIn K p "property" with
    | some (.ref g :: _) => g
    | _ => 0)
  | _ => 0
structure DefX where
  ad : PySem.W.Frag -> Addr
  name : Str
  qual : Str
  st : Stmt
  dfl : List He.Dv := []
  kwd : List (Str × He.Dv) := []
  /-- an __init__ that says super() -/
  cl : Bool := false
def fnX (K : PySem.W.Frag) (a : Addr) : He.FnW := match K.lookup a with
  | some ⟨_, _, .func fd, _⟩ => some (fd.name, fd.qualname, fd.params, fd.body, fd.scope, fd.globals, fd.closure, fd.builtins)
  | _ => none
def fnXc (K : PySem.W.Frag) (a : Addr) : He.FnW := match K.lookup a with
  | some ⟨_, _, .func fd, _⟩ => some (fd.name, fd.qualname, fd.params, fd.body, fd.scope, fd.globals, fd.closure.map fun p => (p.1, 0), fd.builtins)
  | _ => none
def fnXd (K : PySem.W.Frag) (d : DefX) : He.FnW := match d.cl with
  | true => fnXc K (d.ad K)
  | false => fnX K (d.ad K)
def DefX.val (d : DefX) : He.FnW := some (d.name, d.qual, defArgs d.st, .stmts (defBody d.st), defScope d.st, mainGlobals, (match d.cl with | true => [(("__class__" : Str), 0)] | false => []), builtinsNs)
def DefX.dvs (K : PySem.W.Frag) (d : DefX) : List V := d.dfl.map (He.Dv.v K)
def DefX.kws (K : PySem.W.Frag) (d : DefX) : List (Str × V) := d.kwd.map fun q => (q.1, q.2.v K)
def DefX.ok (K : PySem.W.Frag) (d : DefX) : Bool := PySem.W.keepIn K (.ref (d.ad K)) && (match K.lookup (d.ad K) with
  | some ⟨_, _, .func fd, _⟩ => PySem.W.codeIn K fd.code d.qual && (He.dflB K fd.defaults (d.dvs K) && He.kwdB K fd.kwdefaults (d.kws K))
  | _ => false)
def obsX (fa : List FB) (fn : List DefX) (K : PySem.W.Frag) : He.AlD := ((fa.all fun f => f K) && fn.all fun d => d.ok K, fn.map fun d => fnXd K d)
def valX (fn : List DefX) : He.AlD := (true, fn.map DefX.val)
def SaysX (fa : List FB) (fn : List DefX) (K : PySem.W.Frag) : Prop := obsX fa fn K = valX fn
def refsN (o : Obj) : List Addr := match o.data with
  | .cls cd => [cd.ns]
  | .func fd => He.refV fd.code ++ (He.refV fd.kwdefaults ++ fd.closure.map (·.2))
  | .dict es _ => es.toList.flatMap fun e => He.refV e.val
  | _ => []
def refsP (o : Obj) : List Addr := match o.data with
  | .fields vs => vs.toList.flatMap He.refV
  | _ => []
def isFnO (o : Obj) : Bool := match o.data with
  | .func _ => true
  | _ => false
def isClsO (o : Obj) : Bool := match o.data with
  | .cls _ => true
  | _ => false
def isFldO (o : Obj) : Bool := match o.data with
  | .fields _ => true
  | _ => false
def outG (g : Addr -> Option Obj) (p : Obj -> Bool) (f : Obj -> List Addr) (as : List Addr) : List Addr := as.flatMap fun a => match g a with
  | some o => (match p o with
    | true => f o
    | false => [])
  | none => []
def asN (g : Addr -> Option Obj) : List Addr :=
  let l1 := outG g (fun _ => true) refsN [mainGlobals]
  let c := outG g isClsO refsN l1
  let m := outG g (fun _ => true) refsN c
  let p := outG g isFldO refsP m
  mainGlobals :: (c ++ (l1 ++ (m ++ (outG g isFnO refsN m ++ (outG g isFnO refsN l1 ++ (p ++ outG g isFnO refsN p))))))
def obsXG (n : Nat) (fa : List FB) (fn : List DefX) (g : Addr -> Option Obj) : He.AlD := obsX fa fn (He.frG g (match n with
  | 0 => PySem.cStatics :: asN g
  | n => PySem.cStatics :: He.asD g n))
def hookX (n : Nat) (fa : List FB) (fn : List DefX) : PySem.W.Hook where
  α := He.AlD
  obs := fun s => obsXG n fa fn s.heap.get?
  val := fun _ => valX fn
  says := fun _ h => ∃ K : PySem.W.Frag, K.In h /\ SaysX fa fn K
  of := fun _ _ e => ⟨_, He.frG_in, e⟩
  keeps := fun _ _ _ ⟨K, hK, c⟩ k => ⟨K, PySem.W.Frag.In.keeps hK k, c⟩
def fXm (cs : List String) (sub : String -> String -> Bool) : FB := fun K => cs.all fun c => cs.all fun d => decide (PySem.W.exmOne K (.ref (ga K c)) (.ref (ga K d)) = some (sub c d)) && decide (PySem.W.kitOne K (.ref (ga K c)) (.ref (ga K d)) = some (sub c d))
def fXc (cs : List String) : FB := fun K => cs.all fun c => decide (PySem.W.findIn K (.ref (ga K c)) "__getattribute__" = some (some (.builtin "BaseException.__getattribute__"))) && (decide (PySem.W.findIn K (.ref (ga K c)) "__getattr__" = some none) && (decide (PySem.W.subIn K (.ref (ga K c)) (.type "BaseException") = some true) &&
  (PySem.W.hasDictIn K (ga K c) && (decide (PySem.W.findIn K (.ref (ga K c)) "__class__" = some (some (.builtin "object.__class__"))) && (decide (PySem.W.specialIn K (.builtin "object.__class__") "__get__" = some (some (.builtin "getset_descriptor.__get__"))) &&
  (decide (PySem.W.takesIn K (.builtin "object.__class__") = some true) && decide (PySem.W.mroIn K (ga K c) (.type "object") = some true)))))))
def fXv (cs : List String) : FB := fun K => cs.all fun c => decide (PySem.W.kitOne K (.ref (ga K c)) (.type "ValueError") = some true)
def fGlo (x : String) : FB := fun K => (He.Fa.glo (so x)).ok K
def fFree (x : String) : FB := fun K => (He.Fa.free (so x)).ok K
def fCls (cs : List String) : FB := fun K => cs.all fun c => (He.Fa.cls (so c)).ok K
def fNoat (cs : List String) (fl : String -> List String) : FB := fun K => cs.all fun c => (fl c).all fun f => (He.Fa.noat (so c) (so f)).ok K
def fIsT (cs : List String) : FB := fun K => cs.all fun c => decide (PySem.W.findIn K (.ref (ga K c)) "__class__" = some (some (.builtin "object.__class__"))) && (decide (PySem.W.specialIn K (.builtin "object.__class__") "__get__" = some (some (.builtin "getset_descriptor.__get__"))) &&
  (decide (PySem.W.takesIn K (.builtin "object.__class__") = some true) && decide (PySem.W.mroIn K (ga K c) (.type "object") = some true)))
def tyTO : List String := ["NoneType", "bool", "int", "str", "list", "tuple", "dict"]
def tyOT : List String := ["int", "bool", "str", "list", "tuple", "dict"]
def fTO (cs : List String) : FB := fun K => tyTO.all fun t => cs.all fun c => decide (PySem.W.kitOne K (.type t) (.ref (ga K c)) = some false)
def fOT (cs : List String) : FB := fun K => cs.all fun c => tyOT.all fun t => decide (PySem.W.kitOne K (.ref (ga K c)) (.type t) = some false)
def fOO (cs : List String) (sub : String -> String -> Bool) : FB := fun K => cs.all fun c => cs.all fun d => decide (PySem.W.kitOne K (.ref (ga K c)) (.ref (ga K d)) = some (sub c d))
def fMeth (c m : String) : FB := fun K => (He.Fa.meth (so c) (so m)).ok K
def fMkr (c : String) : FB := fun K => (He.Fa.mkr (so c)).ok K
def fDun (cs : List String) : FB := fun K => cs.all fun c => PySem.W.selfFirst K (ga K c) && ((["NoneType", "bool", "int", "str", "list", "tuple", "dict"].all fun t => PySem.W.notFirst K (ga K c) (.type t)) && (match PySem.W.findIn K (.ref (ga K c)) (so "__getitem__") with
  | some (some (.ref f)) => PySem.W.fnIn K f
  | _ => true))
def clsL : List String := ["Table"]
def fldL (c : String) : List String := if c = "Table" then ["_rows"] else []
def resT (c m : String) : Option String := if c = "Table" then (if m = "__len__" then some "Table.__len__" else if m = "entries" then some "Table.entries" else none) else none
def subT (c d : String) : Bool := if c = "Table" then (["Table"]).contains d else false
def xL : List String := []
def xsubT (c d : String) : Bool :=  false
def top (i : Nat) : Stmt := PySem.Challenge.pw_anyhashes_k77_plain_groups.main.body.getD i (.Pass ⟨0, 0, 0, 0⟩)
def inClass (s : Stmt) (j : Nat) : Stmt := match s with
  | .ClassDef _ _ _ body _ _ _ _ _ _ _ => body.getD j (.Pass ⟨0, 0, 0, 0⟩)
  | s => s
abbrev s_plain_groups : Stmt := top 2
abbrev s_group_depth_bounds : Stmt := top 3
abbrev s_is_integer : Stmt := top 8
abbrev s_is_row : Stmt := top 9
abbrev s_law_draws : Stmt := top 12
abbrev s_law_rows : Stmt := top 13
abbrev s_law_is_tuples : Stmt := top 14
abbrev s_Table___init__ : Stmt := inClass (top 10) 0
abbrev s_Table___len__ : Stmt := inClass (top 10) 1
abbrev s_Table_entries : Stmt := inClass (top 10) 6
abbrev s_Table___iter__ : Stmt := inClass (top 10) 3
abbrev s_law : Stmt := top 15
def dd_plain_groups : DefX := ⟨fun K => ga K "plain_groups", "plain_groups", "plain_groups", s_plain_groups, [], [], false⟩
def dd_group_depth_bounds : DefX := ⟨fun K => ga K "group_depth_bounds", "group_depth_bounds", "group_depth_bounds", s_group_depth_bounds, [], [], false⟩
def dd_is_integer : DefX := ⟨fun K => ga K "is_integer", "is_integer", "is_integer", s_is_integer, [], [], false⟩
def dd_is_row : DefX := ⟨fun K => ga K "is_row", "is_row", "is_row", s_is_row, [], [], false⟩
def dd_law_draws : DefX := ⟨fun K => ga K "_law_draws", "_law_draws", "_law_draws", s_law_draws, [], [], false⟩
def dd_law_rows : DefX := ⟨fun K => ga K "_law_rows", "_law_rows", "_law_rows", s_law_rows, [], [], false⟩
def dd_law_is_tuples : DefX := ⟨fun K => ga K "_law_is_tuples", "_law_is_tuples", "_law_is_tuples", s_law_is_tuples, [], [], false⟩
def dd_law : DefX := ⟨fun K => ga K "law", "law", "law", s_law, [], [], false⟩
def de_Table___init__ : DefX := ⟨fun K => ma K "Table" "__init__", "__init__", "Table.__init__", s_Table___init__, [], [], false⟩
def de_Table___len__ : DefX := ⟨fun K => ma K "Table" "__len__", "__len__", "Table.__len__", s_Table___len__, [], [], false⟩
def de_Table___iter__ : DefX := ⟨fun K => ma K "Table" "__iter__", "__iter__", "Table.__iter__", s_Table___iter__, [], [], false⟩
def de_Table_entries : DefX := ⟨fun K => ma K "Table" "entries", "entries", "Table.entries", s_Table_entries, [], [], false⟩
def fnL : List DefX := [dd_plain_groups, dd_group_depth_bounds, dd_is_integer, dd_is_row, dd_law_draws, dd_law_rows, dd_law_is_tuples, dd_law, de_Table___init__, de_Table___len__, de_Table___iter__, de_Table_entries]
def fileL : Str := PySem.Challenge.pw_anyhashes_k77_plain_groups.main.file
def faL : List FB := [fGlo "plain_groups", fGlo "group_depth_bounds", fGlo "is_integer", fGlo "is_row", fGlo "_law_draws", fGlo "_law_rows", fGlo "_law_is_tuples", fGlo "law", fFree "len", fFree "range", fFree "abs", fFree "int", fFree "bool", fFree "str", fFree "list", fFree "tuple", fFree "isinstance", fFree "sorted", fFree "enumerate", fFree "zip", fFree "sum", fFree "any", fFree "all", fFree "max", fFree "min", fFree "dict", fFree "set", fFree "type", fFree "iter", fFree "super", fCls clsL, fNoat clsL fldL, fIsT clsL, fTO clsL, fOT clsL, fOO clsL subT, fDun clsL, fXm xL xsubT, fXv xL, fXc xL, fGlo "Table", fMeth "Table" "__init__", fMeth "Table" "__len__", fMeth "Table" "__iter__", fMeth "Table" "entries", fMkr "Table"]
def nmL : List Str := (["_wall", "plain_groups", "group_depth_bounds", "JoinError", "BadRow", "is_integer", "is_row", "Table", "_law_draws", "_law_rows", "_law_is_tuples"] : List Str)
abbrev lawAt : Nat := 15
theorem obsXG_eq {n : Nat} {fa : List FB} {fn : List DefX} {g : Addr -> Option Obj} {s : Shared} (h : ∀ a, g a = s.heap.get? a) : obsXG n fa fn g = (hookX n fa fn).obs s := by
  have e : g = s.heap.get? := funext h
  rw [e] <;> rfl
abbrev RowL : PySem.W.OpenRow := PySem.W.OpenLaw.row PySem.Challenge.rw_anyhashes_k77_plain_groups
abbrev hkL : PySem.W.Hook := hookX 0 faL fnL
def obL (s : PySem.W.SharedT) : He.AlD := obsXG 0 faL fnL (HandSHeadRun.getT s)
theorem obL_eq (s : PySem.W.SharedT) : obL s = hkL.obs s.abs := obsXG_eq (HandSHeadRun.getT_eq s)
theorem runL (w : World) : HandSHeadRun.RunEq RowL (PySem.W.view RowL.prog [lawAt]) hkL obL 12000 nmL w := by
  intro os
  kernel_rfl
end Py
namespace PySem
namespace PxE
open PySem.W PySem.Calls PyProof.Rows PySem.HandSPX
abbrev selfN : Str := "self"
inductive IsAsgs : List Stmt -> List Str -> Prop
  | nil : IsAsgs [] []
  | cons {f : Str} {p1 p2 p3 p4 : Pos} {r : List Stmt} {fs : List Str} : IsAsgs r fs -> IsAsgs (.Assign [.Attribute (.Name "self" p1) f p2] (.Name f p3) p4 :: r) (f :: fs)
def IsSup (qual : Str) (scope : Scope) (msg : Str) (s : Stmt) : Prop := ∃ (p0 p1 p2 p3 p4 p5 : Pos) (k : Nat), s = .Expr (.Call (.Attribute (.Call (.Name "super" p0) [] [] p1) "__init__" p2) [.Constant (.str msg) k p3] [] p4) p5 /\
  ∀ (L a : Addr) (cd : Value) (cc : Addr), ∃ pl : PySem.Sem Bool, eval (.Call (.Attribute (.Call (.Name "super" p0) [] [] p1) "__init__" p2) [.Constant (.str msg) k p3] [] p4) (ksEnv qual scope L a cd cc) = (do
      let ov <- attributeBase (.Call (.Name "super" p0) [] [] p1) "__init__" (ksEnv qual scope L a cd cc) (eval (.Call (.Name "super" p0) [] [] p1) (ksEnv qual scope L a cd cc))
      standAt p2.atName
      let (f, first) <- holding [ov] (getMethod ov "__init__" pl)
      callWith p4 f first (backTo p4 (starEach [.Constant (.str msg) k p3] (ksEnv qual scope L a cd cc))) [])
structure ExTxt (P : Program) (K : Frag) (C fI : Addr) (qual : Str) (params : Arguments) (body : List Stmt) (scope : Scope) (fs : List Str) : Prop where
  cls : excInitIn K C veTail "ValueError.__new__" = true
  cdt : ∃ cd, clsIn K C = some cd /\ refsVE cd.mro = true /\ cd.hasDict = true
  sa : findIn K (.ref C) "__setattr__" = some (some (.builtin "object.__setattr__"))
  noN : ∀ f ∈ fs, findIn K (.ref C) f = some none
  iC : findIn K (.ref C) "__init__" = some (some (.ref fI))
  tC : typeIn K (.ref fI) = some (.type "function")
  exC : subIn K (.ref C) (.type "BaseException") = some true
  veC : subIn K (.ref C) (.type "ValueError") = some true
  tyC : typeIn K (.ref C) = some (.type "type")
  opq : nsIn K cStatics "thirdparty.any" = some none
  sup : ks_superIn K C C "__init__" = some (some (.builtin "ValueError.__init__"))
  slf : mroIn K C (.ref C) = some true
  fn : ∃ (oc : Value) (od : Option Addr) (doc pm : Value) (an : Option Addr) (ct : Value) (osl : Array (Option Value)) (cda cc : Addr) (ccl : Value) (cdd : Option Addr) (vs : Array Value) (ccs : Array (Option Value)) (file : Str) (tf : Tok) (cl : Value) (cld : Option Addr) (csl : Array (Option Value)),
    K.lookup fI = some ⟨oc, od, .func (ksFn "__init__" qual params body scope .none .none doc pm an (.ref cda) ct cc), osl⟩ /\ codeIn K (.ref cda) qual = true /\ K.lookup cda = some ⟨ccl, cdd, .fields vs, ccs⟩ /\ vs[2]? = some (.str file tf) /\ ((P.main.file : Str) == file) = true /\
      K.lookup cc = some ⟨cl, cld, .cell (some (.ref C)), csl⟩
section
open Builtin Builtin.ObjectAttr
variable {prog : Program} {w : World} {A : Around} {E : Value -> Shared -> Prop} {R : Result -> Shared -> Prop} {hp : Heap} {g : Array GenState} {d : Drawn} {t : Nat} {os : OsState}
end
structure Stored (h h' : Heap) (x C dx : Addr) (t1 : Addr) (m : Str -> Option Value) : Prop where
  keep : ∀ b o, b ≠ x -> b ≠ dx -> h.get? b = some o -> h'.get? b = some o
  obj : h'.get? x = some { cls := .ref C, dict := some dx, data := .fields #[.ref t1, .none, .none, .none, .bool false, .none] }
  ns : h'.Ns1 dx m
section
variable {prog : Program} {w : World} {A : Around} {E : Value -> Shared -> Prop} {K : Frag} {C : Addr}
structure OwnMade (h h' : Heap) (e C d : Addr) (m : Str -> Option Value) : Prop where
  keep : ∀ b o, h.get? b = some o -> h'.get? b = some o
  new : h.objs.size <= e
  obj : ∃ oe vs, h'.get? e = some oe /\ oe.cls = .ref C /\ oe.dict = some d /\ oe.data = .fields vs /\ vs[1]? = some .none
  dbig : h.objs.size <= d
  dne : d ≠ e
  ns : h'.Ns1 d m
structure InitEnd (h h' : Heap) (x C dx t1 : Addr) (m : Str -> Option Value) : Prop where
  keep : ∀ b o, b ≠ x -> h.get? b = some o -> h'.get? b = some o
  obj : h'.get? x = some { cls := .ref C, dict := some dx, data := .fields #[.ref t1, .none, .none, .none, .bool false, .none] }
  dbig : h.objs.size <= dx
  dne : dx ≠ x
  ns : h'.Ns1 dx m
end
end PxE
end PySem
namespace L2
open PySem PySem.Spec PyProof.Rows PySem.PxE
structure ExcD (P : Program) (K : PySem.W.Frag) (mg : Str -> Option Value) (x : Str) (C : Addr) (fs : List Str) : Prop where
  ex : ∃ (fI : Addr) (qual : Str) (params : Arguments) (body : List Stmt) (scope : Scope), ExTxt P K C fI qual params body scope fs /\ (∃ b0 ss msg, body = b0 :: ss /\ IsSup qual scope msg b0 /\ IsAsgs ss fs) /\
    (∃ ar : Arg, (params.posonlyargs ++ params.args).head? = some ar /\ ar.arg = selfN) /\
    (∀ f ∈ selfN :: fs, scope.names.lookup f = some .local /\ (f == ("__debug__" : Str)) = false) /\ scope.names.lookup ("super" : Str) = some .globalImplicit /\ scope.names.lookup ("__class__" : Str) = some .free /\
    (∀ x ∈ scope.names, x.2 ≠ .cell) /\ scope.isCoroutine = false /\ scope.isGenerator = false /\ scope.kind = .function /\
    (∀ (us : List Value), us.length = fs.length -> ∀ (x : Addr) (doc pm : Value) (an : Option Addr) (cdv ct : Value) (cc : Addr), bindArgs (PySem.W.ksFn "__init__" qual params body scope .none .none doc pm an cdv ct cc) ⟨.ref x :: us, []⟩ = pure ((selfN, .ref x) :: fs.zip us))
  nf : fs ≠ [] /\ fs.Nodup /\ fs.length <= 1000 /\ selfN ∉ fs
  top : (P.main.scope.names.lookup ("super" : Str)).isSome = false
  gC : mg x = some (.ref C)
  gs : mg "super" = none
  kC : PySem.W.keepIn K (.ref C) = true
section
variable {X : Cx} {C : Addr} {fs : List Str} {x : Str}
end
end L2
namespace Py
open PySem L2
theorem so_inj {x y : String} (h : so x = so y) : x = y := by
  unfold so at h
  rw [Str.ofString_eq_toList, Str.ofString_eq_toList] at h
  injection h with h
  have h2 : x.toList.map Char.toNat = y.toList.map Char.toNat := by
    have := congrArg Array.toList h
    simpa using this
  have h3 : x.toList = y.toList := by
    have inj : ∀ a b : Char, a.toNat = b.toNat -> a = b := fun a b e => Char.ext (UInt32.toNat_inj.mp e)
    revert h2
    generalize x.toList = l
    generalize y.toList = r
    intro h2
    induction l generalizing r with
    | nil => cases r with
      | nil => rfl
      | cons b r => cases h2
    | cons a l ih => cases r with
      | nil => cases h2
      | cons b r =>
        rw [List.map_cons, List.map_cons] at h2
        injection h2 with e1 e2
        rw [inj _ _ e1, ih r e2]
  exact String.toList_inj.mp h3
structure Tbl where
  fOk : String -> String -> Bool
  con : String -> String -> Option D
  sub : String -> String -> Bool
  /-- the def that a class's name (a method, a getter) stands for -/
  res : String -> String -> Option String := fun _ _ => none
  /-- the field whose list a class's __iter__ walks -/
  it : String -> Option String := fun _ => none
  /-- of exception classes: who derives from whom -/
  xsub : String -> String -> Bool := fun _ _ => false
structure Wd (T : Tbl) where
  K : PySem.W.Frag
  P : Program
  w : World
  cA : String -> Addr
  has : String -> Prop
  cl : ∀ c, has c -> Cls K (cA c)
  na : ∀ c f, has c -> T.fOk c f = true -> NoAttr K (cA c) (so f)
  isT : ∀ c, has c -> PySem.W.findIn K (.ref (cA c)) "__class__" = some (some (.builtin "object.__class__")) /\
    PySem.W.specialIn K (.builtin "object.__class__") "__get__" = some (some (.builtin "getset_descriptor.__get__")) /\ PySem.W.takesIn K (.builtin "object.__class__") = some true /\ PySem.W.mroIn K (cA c) (.type "object") = some true
  isTO : ∀ t c, t ∈ ["NoneType", "bool", "int", "str", "list", "tuple", "dict"] -> has c -> PySem.W.kitOne K (.type t) (.ref (cA c)) = some false
  isOT : ∀ c t, has c -> t ∈ ["int", "bool", "str", "list", "tuple", "dict"] -> PySem.W.kitOne K (.ref (cA c)) (.type t) = some false
  isOO : ∀ c d, has c -> has d -> PySem.W.kitOne K (.ref (cA c)) (.ref (cA d)) = some (T.sub c d)
  /-- the exception classes -/
  hasX : String -> Prop
  xm : ∀ c d, hasX c -> hasX d -> PySem.W.exmOne K (.ref (cA c)) (.ref (cA d)) = some (T.xsub c d)
  xk : ∀ c d, hasX c -> hasX d -> PySem.W.kitOne K (.ref (cA c)) (.ref (cA d)) = some (T.xsub c d)
  xv : ∀ c, hasX c -> PySem.W.kitOne K (.ref (cA c)) (.type "ValueError") = some true
  xc : ∀ c, hasX c -> ExcC K (cA c)
def nkD : NestedKey -> D
  | .none => .non
  | .num i => .int i
  | .text x => .str (String.ofList (x.cps.toList.map Char.ofNat))
  | .tup ks => .tup (nkDs ks)
where nkDs : List NestedKey -> List D
  | [] => []
  | k :: ks => nkD k :: nkDs ks
def digP (P : Program) (w : World) (a : Addr) (ks : List NestedKey) (kas : List Addr) (vs : List V) : Heap -> Prop := fun h =>
  (a == sysModules) = false /\ ∃ us : List Value, Vals vs us /\ ks.length = kas.length /\ ks.length = us.length /\ us.length <= sizeLine /\
    ∃ o es ep, h.get? a = some o /\ o.ExactDict /\ o.data = .dict es ep /\ es.toList = (ks.zip (kas.zip us)).map (entryOfKey (nestedKind P w)) /\ ks.Nodup
namespace LK
def leaf : LK -> Leaf
  | .non => .none
  | .bl b => .num (if b = true then 1 else 0)
  | .num i => .num i
  | .txt x => .text (so x)
def is (m : Bool) : LK -> Value -> Bool
  | .non, .none => true
  | .bl b, .bool c => m && decide (c = b)
  | .num i, .int j _ => decide (j = i) && (!m || (decide (i ≠ 0) && decide (i ≠ 1)))
  | .txt x, v => Value.isStrOf (so x) v
  | _, _ => false
theorem isLeaf {m : Bool} : ∀ {k : LK} {v : Value}, LK.is m k v = true -> Leaf.isOf k.leaf v = true
  | .non, v, e => by cases v <;> first | rfl | exact absurd e Bool.false_ne_true
  | .bl b, v, e => by
    cases v with
    | bool c =>
      have e' : (m && decide (c = b)) = true := e
      rw [Bool.and_eq_true, decide_eq_true_eq] at e'
      rw [e'.2]
      show decide ((if b = true then 1 else 0) = (if b = true then (1 : Int) else 0)) = true
      simp
    | _ => exact absurd e Bool.false_ne_true
  | .num i, v, e => by
    cases v with
    | int j t =>
      have e' : (decide (j = i) && (!m || (decide (i ≠ 0) && decide (i ≠ 1)))) = true := e
      rw [Bool.and_eq_true] at e'
      exact e'.1
    | _ => exact absurd e Bool.false_ne_true
  | .txt x, v, e => e
theorem no_bn {m : Bool} {c : Bool} {i : Int} {u v : Value} (h1 : LK.is m (.bl c) u = true) (h2 : LK.is m (.num i) v = true) : ¬ (if c = true then (1 : Int) else 0) = i := by
  intro h3
  cases u with
  | bool d =>
    cases v with
    | int j t =>
      have h1' : (m && decide (d = c)) = true := h1
      have h2' : (decide (j = i) && (!m || (decide (i ≠ 0) && decide (i ≠ 1)))) = true := h2
      subst h3
      cases m <;> cases c <;> simp at h1' h2'
    | _ => exact absurd h2 Bool.false_ne_true
  | _ => exact absurd h1 Bool.false_ne_true
theorem leaf_eq {m : Bool} {a b : LK} {u v : Value} (ha : LK.is m a u = true) (hb : LK.is m b v = true) (h : a.leaf = b.leaf) : a = b := by
  cases a with
  | non => cases b with
    | non => rfl
    | bl _ => exact nomatch (show Leaf.none = Leaf.num _ from h)
    | num _ => exact nomatch (show Leaf.none = Leaf.num _ from h)
    | txt _ => exact nomatch (show Leaf.none = Leaf.text _ from h)
  | bl c => cases b with
    | non => exact nomatch (show Leaf.num _ = Leaf.none from h)
    | bl d =>
      have h' : Leaf.num (if c = true then 1 else 0) = Leaf.num (if d = true then 1 else 0) := h
      injection h' with h'
      cases c <;> cases d <;> first | rfl | exact absurd h' (by decide)
    | num i =>
      have h' : Leaf.num (if c = true then 1 else 0) = Leaf.num i := h
      injection h' with h'
      exact absurd h' (no_bn ha hb)
    | txt _ => exact nomatch (show Leaf.num _ = Leaf.text _ from h)
  | num i => cases b with
    | non => exact nomatch (show Leaf.num _ = Leaf.none from h)
    | bl d =>
      have h' : Leaf.num i = Leaf.num (if d = true then 1 else 0) := h
      injection h' with h'
      exact absurd h'.symm (no_bn hb ha)
    | num j =>
      have h' : Leaf.num i = Leaf.num j := h
      injection h' with h'
      rw [h']
    | txt _ => exact nomatch (show Leaf.num _ = Leaf.text _ from h)
  | txt x => cases b with
    | non => exact nomatch (show Leaf.text _ = Leaf.none from h)
    | bl _ => exact nomatch (show Leaf.text _ = Leaf.num _ from h)
    | num _ => exact nomatch (show Leaf.text _ = Leaf.num _ from h)
    | txt y =>
      have h' : Leaf.text (so x) = Leaf.text (so y) := h
      injection h' with h'
      rw [so_inj h']
end LK
def lfK (P : Program) (w : World) (m : Bool) : KeyKind P w LK where
  is := LK.is m
  hash := fun k => (leafKind P w).hash k.leaf
  inj := fun v a b ha hb => LK.leaf_eq ha hb ((leafKind P w).inj v _ _ (LK.isLeaf ha) (LK.isLeaf hb))
  byValue := fun k v h => (leafKind P w).byValue _ _ (LK.isLeaf h)
  pyHash := fun hv h => (leafKind P w).pyHash (LK.isLeaf hv) h
  eqBool := fun {A E s a b u v Q} hu hv h => (leafKind P w).eqBool (LK.isLeaf hu) (LK.isLeaf hv) (by
    have e : decide (a.leaf = b.leaf) = decide (a = b) := by
      by_cases z : a = b
      · rw [z]; simp
      · rw [decide_eq_false z, decide_eq_false fun y => z (LK.leaf_eq hu hv y)]
    rw [e]; exact h)
  «strs» := fun k x t v h => by
    cases k with
    | txt y =>
      obtain ⟨u, hu⟩ := Value.isStrOf_shape (show Value.isStrOf (so y) (.str x t) = true from h)
      injection hu with hx
      subst hx
      cases v <;> rfl
    | _ => exact absurd h Bool.false_ne_true
def lfP (P : Program) (w : World) (m : Bool) (a : Addr) (ep : Nat) (ks : List LK) (vs : List V) : Heap -> Prop := fun h =>
  (a == sysModules) = false /\ vs.length <= sizeLine /\ ∃ us : List Value, Vals vs us /\ ks.length = us.length /\ h.DictAt (lfK P w m) a (ks.zip us) ep
section
variable {T : Tbl} (W : Wd T)
mutual
inductive Shr : Hp -> D -> V -> Prop
  | non {F} : Shr F .non .non
  | bl {F b} : Shr F (.bl b) (.bl b)
  | int {F i} : Shr F (.int i) (.int i)
  | str {F x} : Shr F (.str x) (.str (so x))
  | cls {F c} : W.has c -> Shr F (.cls c) (.ref (W.cA c))
  | sei {F a xs} : F a = some (.set (fun i => decide (i ∈ xs)) xs.length) -> xs.Pairwise (· < ·) -> Shr F (.sei xs) (.ref a)
  | scr {F a ns} : SqL W.K F a (ns.map V.int) -> Shr F (.scr ns) (.ref a)
  | tup {F a xs vs} : F a = some (.tup vs) -> Shrs F xs vs -> Shr F (.tup xs) (.ref a)
  | lst {F a xs vs} : F a = some (.lst vs) -> Shrs F xs vs -> Shr F (.lst xs) (.ref a)
  | dic {F a ks xs vs} : Rd F a (.dK (ks.zip vs)) -> ks.length = vs.length -> ks.Nodup -> Shrs F xs vs -> Shr F (.dic ks xs) (.ref a)
  | dit {F a ks xs vs} : Rd F a (.dT (ks.zip vs)) -> ks.length = vs.length -> ks.Nodup -> Shrs F xs vs -> Shr F (.dit ks xs) (.ref a)
  | dig {F a ks kas xs vs} : F a = some (.ext (digP W.P W.w a ks kas vs)) -> Shrs F (ks.map nkD) (kas.map V.ref) -> ks.length = vs.length -> Shrs F xs vs -> Shr F (.dig ks xs) (.ref a)
  | dlf {F a m ep ks xs vs} : F a = some (.ext (lfP W.P W.w m a ep ks vs)) -> ks.length = vs.length -> ks.Nodup -> Shrs F xs vs -> Shr F (.dlf m ks xs) (.ref a)
  | ins {F a c dx ns xs vs} : F a = some (.ins (W.cA c) dx ((ns.map so).zip vs)) -> W.has c -> ns.length = vs.length -> Shrs F xs vs -> Shr F (.ins c ns xs) (.ref a)
inductive Shrs : Hp -> List D -> List V -> Prop
  | nil {F} : Shrs F [] []
  | cons {F d v ds vs} : Shr F d v -> Shrs F ds vs -> Shrs F (d :: ds) (v :: vs)
end
mutual
inductive Own : Hp -> Hp -> D -> V -> List Addr -> Prop
  | sh {F H d v} : Shr W F d v -> Own F H d v []
  | olst {F H a xs vs L} : H a = some (.lst vs) -> Owns F H xs vs L -> Own F H (.olst xs) (.ref a) (a :: L)
  | odic {F H a ks xs vs L} : H a = some (.dK (ks.zip vs)) -> ks.length = vs.length -> ks.Nodup -> Owns F H xs vs L -> Own F H (.odic ks xs) (.ref a) (a :: L)
  | odit {F H a ks xs vs L} : H a = some (.dT (ks.zip vs)) -> ks.length = vs.length -> ks.Nodup -> Owns F H xs vs L -> Own F H (.odit ks xs) (.ref a) (a :: L)
  | odig {F H a ks kas xs vs L} : H a = some (.ext (digP W.P W.w a ks kas vs)) -> Shrs W F (ks.map nkD) (kas.map V.ref) -> ks.length = vs.length -> Owns F H xs vs L -> Own F H (.odig ks xs) (.ref a) (a :: L)
  | olf {F H a m ep ks xs vs L} : H a = some (.ext (lfP W.P W.w m a ep ks vs)) -> ks.length = vs.length -> ks.Nodup -> Owns F H xs vs L -> Own F H (.olf m ks xs) (.ref a) (a :: L)
  | oins {F H a c dx ns xs vs L} : H a = some (.ins (W.cA c) dx ((ns.map so).zip vs)) -> W.has c -> ns.length = vs.length -> Owns F H xs vs L -> Own F H (.oins c ns xs) (.ref a) (a :: L)
inductive Owns : Hp -> Hp -> List D -> List V -> List Addr -> Prop
  | nil {F H} : Owns F H [] [] []
  | cons {F H d v ds vs L M} : Own F H d v L -> Owns F H ds vs M -> Owns F H (d :: ds) (v :: vs) (L ++ M)
end
end
section
variable {T : Tbl} {W : Wd T} {F F' H H' : Hp}
theorem rd_same {F F' : Hp} (e : Same F F') {a : Addr} {u : HO} (h : Rd F a u) : Rd F' a u := h.elim (fun h => .inl (e _ _ h)) fun ⟨o, h⟩ => .inr ⟨o, e _ _ h⟩
mutual
theorem Shr.mono {F F' : Hp} (e : Same F F') : ∀ {d : D} {v : V}, Shr W F d v -> Shr W F' d v
  | _, _, .non => .non
  | _, _, .bl => .bl
  | _, _, .int => .int
  | _, _, .str => .str
  | _, _, .cls h => .cls h
  | _, _, .sei h n => .sei (e _ _ h) n
  | _, _, .scr h => .scr (e.seq h)
  | _, _, .tup h hs => .tup (e _ _ h) (Shrs.mono e hs)
  | _, _, .lst h hs => .lst (e _ _ h) (Shrs.mono e hs)
  | _, _, .dic h l n hs => .dic (rd_same e h) l n (Shrs.mono e hs)
  | _, _, .dit h l n hs => .dit (rd_same e h) l n (Shrs.mono e hs)
  | _, _, .dig h k l hs => .dig (e _ _ h) (Shrs.mono e k) l (Shrs.mono e hs)
  | _, _, .dlf h l n hs => .dlf (e _ _ h) l n (Shrs.mono e hs)
  | _, _, .ins h c l hs => .ins (e _ _ h) c l (Shrs.mono e hs)
theorem Shrs.mono {F F' : Hp} (e : Same F F') : ∀ {d : List D} {v : List V}, Shrs W F d v -> Shrs W F' d v
  | _, _, .nil => .nil
  | _, _, .cons h t => .cons (Shr.mono e h) (Shrs.mono e t)
end
theorem Shrs.length {F : Hp} : ∀ {ds : List D} {vs : List V}, Shrs W F ds vs -> ds.length = vs.length
  | _, _, .nil => rfl
  | _, _, .cons _ t => congrArg (· + 1) (Shrs.length t)
theorem Shrs.get {F : Hp} : ∀ {ds : List D} {vs : List V} {i : Nat} {d : D}, Shrs W F ds vs -> ds[i]? = some d -> ∃ v, vs[i]? = some v /\ Shr W F d v
  | _, _, _, _, .nil, e => by simp at e
  | _, _, 0, _, .cons h _, e => by simp at e; subst e; exact ⟨_, rfl, h⟩
  | _, _, i + 1, _, .cons _ t, e => Shrs.get (i := i) t (by simpa using e)
theorem Shrs.append {F : Hp} : ∀ {ds es : List D} {vs ws : List V}, Shrs W F ds vs -> Shrs W F es ws -> Shrs W F (ds ++ es) (vs ++ ws)
  | _, _, _, _, .nil, h => h
  | _, _, _, _, .cons h t, q => .cons h (Shrs.append t q)
mutual
theorem Own.frame {F F' H H' : Hp} (e : Same F F') : ∀ {d : D} {v : V} {L : List Addr}, (∀ a ∈ L, ∀ o, H a = some o -> H' a = some o) -> Own W F H d v L -> Own W F' H' d v L
  | _, _, _, _, .sh h => .sh (h.mono e)
  | _, _, _, k, .olst h t => .olst (k _ (List.mem_cons_self ..) _ h) (Owns.frame e (fun a m => k a (List.mem_cons_of_mem _ m)) t)
  | _, _, _, k, .odic h l n t => .odic (k _ (List.mem_cons_self ..) _ h) l n (Owns.frame e (fun a m => k a (List.mem_cons_of_mem _ m)) t)
  | _, _, _, k, .odit h l n t => .odit (k _ (List.mem_cons_self ..) _ h) l n (Owns.frame e (fun a m => k a (List.mem_cons_of_mem _ m)) t)
  | _, _, _, k, .odig h s l t => .odig (k _ (List.mem_cons_self ..) _ h) (s.mono e) l (Owns.frame e (fun a m => k a (List.mem_cons_of_mem _ m)) t)
  | _, _, _, k, .olf h l n t => .olf (k _ (List.mem_cons_self ..) _ h) l n (Owns.frame e (fun a m => k a (List.mem_cons_of_mem _ m)) t)
  | _, _, _, k, .oins h c l t => .oins (k _ (List.mem_cons_self ..) _ h) c l (Owns.frame e (fun a m => k a (List.mem_cons_of_mem _ m)) t)
theorem Owns.frame {F F' H H' : Hp} (e : Same F F') : ∀ {d : List D} {v : List V} {L : List Addr}, (∀ a ∈ L, ∀ o, H a = some o -> H' a = some o) -> Owns W F H d v L -> Owns W F' H' d v L
  | _, _, _, _, .nil => .nil
  | _, _, _, k, .cons h t => .cons (Own.frame e (fun a m => k a (List.mem_append_left _ m)) h) (Owns.frame e (fun a m => k a (List.mem_append_right _ m)) t)
end
mutual
theorem Own.lives {F H : Hp} : ∀ {d : D} {v : V} {L : List Addr}, Own W F H d v L -> ∀ a ∈ L, ∃ o, H a = some o
  | _, _, _, .sh _, a, m => nomatch m
  | _, _, _, .olst h t, a, m => by
    rcases List.mem_cons.mp m with rfl | m
    · exact ⟨_, h⟩
    · exact Owns.lives t a m
  | _, _, _, .odic h _ _ t, a, m => by
    rcases List.mem_cons.mp m with rfl | m
    · exact ⟨_, h⟩
    · exact Owns.lives t a m
  | _, _, _, .odit h _ _ t, a, m => by
    rcases List.mem_cons.mp m with rfl | m
    · exact ⟨_, h⟩
    · exact Owns.lives t a m
  | _, _, _, .odig h _ _ t, a, m => by
    rcases List.mem_cons.mp m with rfl | m
    · exact ⟨_, h⟩
    · exact Owns.lives t a m
  | _, _, _, .olf h _ _ t, a, m => by
    rcases List.mem_cons.mp m with rfl | m
    · exact ⟨_, h⟩
    · exact Owns.lives t a m
  | _, _, _, .oins h _ _ t, a, m => by
    rcases List.mem_cons.mp m with rfl | m
    · exact ⟨_, h⟩
    · exact Owns.lives t a m
theorem Owns.lives {F H : Hp} : ∀ {d : List D} {v : List V} {L : List Addr}, Owns W F H d v L -> ∀ a ∈ L, ∃ o, H a = some o
  | _, _, _, .nil, a, m => nomatch m
  | _, _, _, .cons h t, a, m => (List.mem_append.mp m).elim (fun m => Own.lives h a m) fun m => Owns.lives t a m
end
theorem Owns.length {F H : Hp} : ∀ {ds : List D} {vs : List V} {L : List Addr}, Owns W F H ds vs L -> ds.length = vs.length
  | _, _, _, .nil => rfl
  | _, _, _, .cons _ t => congrArg (· + 1) (Owns.length t)
mutual
def fz : D -> D
  | .olst xs => .lst (fzs xs)
  | .odic ks xs => .dic ks (fzs xs)
  | .odit ks xs => .dit ks (fzs xs)
  | .odig ks xs => .dig ks (fzs xs)
  | .olf m ks xs => .dlf m ks (fzs xs)
  | .oins C ns xs => .ins C ns (fzs xs)
  | d => d
def fzs : List D -> List D
  | [] => []
  | d :: ds => fz d :: fzs ds
end
theorem fzs_eq : ∀ ds : List D, fzs ds = ds.map fz
  | [] => by rw [fzs]; rfl
  | d :: ds => by rw [fzs, fzs_eq ds]; rfl
def isSh : D -> Bool
  | .olst _ => false
  | .odic _ _ => false
  | .odit _ _ => false
  | .odig _ _ => false
  | .olf _ _ _ => false
  | .oins _ _ _ => false
  | _ => true
theorem fz_isSh {d : D} (h : isSh d = true) : fz d = d := by
  cases d <;> first | (cases h; done) | simp [fz]
theorem fz_shr {F : Hp} {d : D} {v : V} (h : Shr W F d v) : fz d = d := by
  refine fz_isSh ?_
  cases h <;> rfl
theorem Shr.isSh {F : Hp} {d : D} {v : V} (h : Shr W F d v) : isSh d = true := by cases h <;> rfl
theorem Shrs.isSh {F : Hp} : ∀ {d : List D} {v : List V}, Shrs W F d v -> d.all Py.isSh = true
  | _, _, .nil => rfl
  | _, _, .cons h t => by rw [List.all_cons, h.isSh, t.isSh]; rfl
mutual
theorem Own.view {F H G : Hp} (e : Same F G) : ∀ {d : D} {v : V} {L : List Addr}, (∀ a ∈ L, ∀ o, H a = some o -> G a = some o) -> Own W F H d v L -> Shr W G (fz d) v
  | _, _, _, _, .sh h => by rw [fz_shr h]; exact h.mono e
  | _, _, _, k, .olst h t => by rw [fz]; exact .lst (k _ (List.mem_cons_self ..) _ h) (Owns.view e (fun a m => k a (List.mem_cons_of_mem _ m)) t)
  | _, _, _, k, .odic h l n t => by rw [fz]; exact .dic (.inl (k _ (List.mem_cons_self ..) _ h)) l n (Owns.view e (fun a m => k a (List.mem_cons_of_mem _ m)) t)
  | _, _, _, k, .odit h l n t => by rw [fz]; exact .dit (.inl (k _ (List.mem_cons_self ..) _ h)) l n (Owns.view e (fun a m => k a (List.mem_cons_of_mem _ m)) t)
  | _, _, _, k, .odig h s l t => by rw [fz]; exact .dig (k _ (List.mem_cons_self ..) _ h) (s.mono e) l (Owns.view e (fun a m => k a (List.mem_cons_of_mem _ m)) t)
  | _, _, _, k, .olf h l n t => by rw [fz]; exact .dlf (k _ (List.mem_cons_self ..) _ h) l n (Owns.view e (fun a m => k a (List.mem_cons_of_mem _ m)) t)
  | _, _, _, k, .oins h c l t => by rw [fz]; exact .ins (k _ (List.mem_cons_self ..) _ h) c l (Owns.view e (fun a m => k a (List.mem_cons_of_mem _ m)) t)
theorem Owns.view {F H G : Hp} (e : Same F G) : ∀ {d : List D} {v : List V} {L : List Addr}, (∀ a ∈ L, ∀ o, H a = some o -> G a = some o) -> Owns W F H d v L -> Shrs W G (fzs d) v
  | _, _, _, _, .nil => by rw [fzs]; exact .nil
  | _, _, _, k, .cons h t => by rw [fzs]; exact .cons (Own.view e (fun a m => k a (List.mem_append_left _ m)) h) (Owns.view e (fun a m => k a (List.mem_append_right _ m)) t)
end
theorem Shrs.owns {F H : Hp} : ∀ {ds : List D} {vs : List V}, Shrs W F ds vs -> Owns W F H ds vs []
  | _, _, .nil => .nil
  | _, _, .cons h t => Owns.cons (L := []) (M := []) (.sh h) (Shrs.owns t)
theorem Own.shr {F H : Hp} {d : D} {v : V} {L : List Addr} (o : Own W F H d v L) (h : Py.isSh d = true) : Shr W F d v := by
  cases o with
  | sh y => exact y
  | olst => cases h
  | odic => cases h
  | odit => cases h
  | odig => cases h
  | olf => cases h
  | oins => cases h
theorem Own.shNil {F H : Hp} {d : D} {v : V} {L : List Addr} (o : Own W F H d v L) (h : Py.isSh d = true) : L = [] := by
  cases o with
  | sh y => rfl
  | olst => cases h
  | odic => cases h
  | odit => cases h
  | odig => cases h
  | olf => cases h
  | oins => cases h
theorem Owns.shrs {F H : Hp} : ∀ {ds : List D} {vs : List V} {L : List Addr}, Owns W F H ds vs L -> ds.all Py.isSh = true -> Shrs W F ds vs
  | _, _, _, .nil, _ => .nil
  | _, _, _, .cons o t, h => by
    rw [List.all_cons, Bool.and_eq_true] at h
    exact .cons (o.shr h.1) (t.shrs h.2)
end
end Py
namespace Py
open PySem L2
abbrev Env := List (Option D)
inductive Slots {T : Tbl} (W : Wd T) : Hp -> Hp -> Py.Env -> St -> List Addr -> Prop
  | nil {F H} : Slots W F H [] [] []
  | so {F H d v env σ L M} : Own W F H d v L -> Slots W F H env σ M -> Slots W F H (some d :: env) (some v :: σ) (L ++ M)
  | no {F H o env σ M} : Slots W F H env σ M -> Slots W F H (none :: env) (o :: σ) M
section
variable {T : Tbl} {W : Wd T} {F F' H H' : Hp}
theorem Slots.frame (e : Same F F') : ∀ {env : Py.Env} {σ : St} {L : List Addr}, (∀ a ∈ L, ∀ o, H a = some o -> H' a = some o) -> Slots W F H env σ L -> Slots W F' H' env σ L
  | _, _, _, _, .nil => .nil
  | _, _, _, k, .so h t => .so (h.frame e fun a m => k a (List.mem_append_left _ m)) (t.frame e fun a m => k a (List.mem_append_right _ m))
  | _, _, _, k, .no t => .no (t.frame e k)
theorem Slots.lives : ∀ {env : Py.Env} {σ : St} {L : List Addr}, Slots W F H env σ L -> ∀ a ∈ L, ∃ o, H a = some o
  | _, _, _, .nil, _, m => nomatch m
  | _, _, _, .so h t, a, m => (List.mem_append.mp m).elim (fun m => h.lives a m) fun m => t.lives a m
  | _, _, _, .no t, a, m => t.lives a m
theorem Slots.length : ∀ {env : Py.Env} {σ : St} {L : List Addr}, Slots W F H env σ L -> env.length = σ.length
  | _, _, _, .nil => rfl
  | _, _, _, .so _ t => congrArg (· + 1) t.length
  | _, _, _, .no t => congrArg (· + 1) t.length
theorem Slots.take : ∀ {env : Py.Env} {σ : St} {L : List Addr} {i : Nat} {d : D}, Slots W F H env σ L -> L.Nodup -> env[i]? = some (some d) ->
    ∃ v Li Lr, σ[i]? = some (some v) /\ Own W F H d v Li /\ Slots W F H (env.set i none) σ Lr /\ (Li ++ Lr).Nodup /\ (∀ a, a ∈ Li \/ a ∈ Lr ↔ a ∈ L)
  | _, _, _, _, _, .nil, _, e => by simp at e
  | _, _, _, 0, _, .so (L := L1) (M := M1) h t, nd, e => by
    simp at e; subst e
    exact ⟨_, L1, M1, rfl, h, .no t, nd, fun a => List.mem_append.symm⟩
  | _, _, _, i + 1, _, .so (L := L1) (M := M1) h t, nd, e => by
    rw [List.nodup_append] at nd
    obtain ⟨n1, n2, n3⟩ := nd
    obtain ⟨v, Li, Lr, e1, o, s, nd', m⟩ := t.take (i := i) n2 (by simpa using e)
    refine ⟨v, Li, L1 ++ Lr, by simpa using e1, o, .so h s, ?_, fun a => ?_⟩
    · rw [List.nodup_append] at nd' ⊢
      obtain ⟨p1, p2, p3⟩ := nd'
      refine ⟨p1, ?_, ?_⟩
      · rw [List.nodup_append]
        exact ⟨n1, p2, fun a ha b hb => n3 a ha b ((m b).mp (.inr hb))⟩
      · intro a ha b hb
        rcases List.mem_append.mp hb with hb | hb
        · exact fun q => n3 b hb a ((m a).mp (.inl ha)) q.symm
        · exact p3 a ha b hb
    · simp only [List.mem_append, <- m a]
      constructor
      · rintro (h | h | h)
        · exact .inr (.inl h)
        · exact .inl h
        · exact .inr (.inr h)
      · rintro (h | h | h)
        · exact .inr (.inl h)
        · exact .inl h
        · exact .inr (.inr h)
  | _, _, _, 0, _, .no t, nd, e => by simp at e
  | _, _, _, i + 1, _, .no (o := o1) (M := M1) t, nd, e => by
    obtain ⟨v, Li, Lr, e1, o, s, nd', m⟩ := t.take (i := i) nd (by simpa using e)
    exact ⟨v, Li, Lr, by simpa using e1, o, .no s, nd', m⟩
theorem Slots.put : ∀ {env : Py.Env} {σ : St} {L : List Addr} {i : Nat} {d : D} {v : V} {Ld : List Addr}, Slots W F H env σ L -> Own W F H d v Ld -> (Ld ++ L).Nodup -> i < env.length ->
    ∃ L', Slots W F H (env.set i (some d)) (σ.set i (some v)) L' /\ L'.Nodup /\ (∀ a ∈ L', a ∈ Ld \/ a ∈ L)
  | _, _, _, _, _, _, _, .nil, _, _, hi => by simp at hi
  | _, _, _, 0, d, v, Ld, .so (L := L1) (M := M1) h t, o, nd, _ => by
    refine ⟨Ld ++ M1, .so o t, ?_, fun a m => ?_⟩
    · rw [List.nodup_append] at nd ⊢
      obtain ⟨n1, n2, n3⟩ := nd
      rw [List.nodup_append] at n2
      exact ⟨n1, n2.2.1, fun a ha b hb => n3 a ha b (List.mem_append_right _ hb)⟩
    · rcases List.mem_append.mp m with m | m
      · exact .inl m
      · exact .inr (List.mem_append_right _ m)
  | _, _, _, 0, d, v, Ld, .no (M := M1) t, o, nd, _ => by
    exact ⟨Ld ++ M1, .so o t, nd, fun a m => List.mem_append.mp m⟩
  | _, _, _, i + 1, d, v, Ld, .so (L := L1) (M := M1) h t, o, nd, hi => by
    rw [List.nodup_append] at nd
    obtain ⟨n1, n2, n3⟩ := nd
    rw [List.nodup_append] at n2
    obtain ⟨p1, p2, p3⟩ := n2
    obtain ⟨L', s, nd', m⟩ := t.put (i := i) o (by
      rw [List.nodup_append]
      exact ⟨n1, p2, fun a ha b hb => n3 a ha b (List.mem_append_right _ hb)⟩) (by simpa using hi)
    refine ⟨L1 ++ L', .so h s, ?_, fun a ha => ?_⟩
    · rw [List.nodup_append]
      refine ⟨p1, nd', fun a ha b hb => ?_⟩
      rcases m b hb with q | q
      · exact fun z => n3 b q a (List.mem_append_left _ ha) z.symm
      · exact p3 a ha b q
    · rcases List.mem_append.mp ha with q | q
      · exact .inr (List.mem_append_left _ q)
      · rcases m a q with q | q
        · exact .inl q
        · exact .inr (List.mem_append_right _ q)
  | _, _, _, i + 1, d, v, Ld, .no (M := M1) t, o, nd, hi => by
    obtain ⟨L', s, nd', m⟩ := t.put (i := i) o nd (by simpa using hi)
    exact ⟨L', .no s, nd', m⟩
structure Ent where
  F0 : Hp
  H0 : Hp
  L0 : List Addr
  pins : List (Nat × V)
structure Rel {T : Tbl} (W : Wd T) (e : Ent) (env : Py.Env) (F : Hp) (σ : St) (H : Hp) (L : List Addr) : Prop where
  sF : Same F H
  slots : Slots W F H env σ L
  nd : L.Nodup
  dj : ∀ a ∈ L, F a = none
  s0 : Same e.F0 F
  nw : ∀ a o, F a = some o -> e.F0 a = some o \/ e.H0 a = none \/ a ∈ e.L0
  fr : ∀ a o, a ∉ e.L0 -> e.H0 a = some o -> H a = some o
  ln : ∀ a ∈ L, a ∈ e.L0 \/ e.H0 a = none
  pin : ∀ p ∈ e.pins, σ[p.1]? = some (some p.2)
structure Ext (F H F' H' : Hp) : Prop where
  f : Same F F'
  s : Same F' H'
  h : Same H H'
  n : ∀ a o, F' a = some o -> F a = some o \/ H a = none
theorem Ext.refl (s : Same F H) : Ext F H F H := ⟨Same.refl _, s, Same.refl _, fun _ _ h => .inl h⟩
theorem Ext.trans {F1 H1 F2 H2 : Hp} (a : Ext F H F1 H1) (b : Ext F1 H1 F2 H2) : Ext F H F2 H2 :=
  ⟨a.f.trans b.f, b.s, a.h.trans b.h, fun x o h => by
    rcases b.n x o h with q | q
    · exact a.n x o q
    · exact .inr (a.h.free q)⟩
theorem same_new {H : Hp} {p : Addr} {o : HO} (h : H p = none) : Same H (upd H p o) := fun b u e => by
  rw [upd_ne (ne_of_none e h)]; exact e
theorem Ext.new (s : Same F H) {p : Addr} {o : HO} (h : H p = none) : Ext F H (upd F p o) (upd H p o) where
  f := same_new (s.free h)
  s := fun b u e => by
    by_cases q : b = p
    · subst q; rw [upd_same] at e ⊢; exact e
    · rw [upd_ne q] at e ⊢; exact s _ _ e
  h := same_new h
  n := fun b u e => by
    by_cases q : b = p
    · subst q; exact .inr h
    · rw [upd_ne q] at e; exact .inl e
theorem Ext.newH (s : Same F H) {p : Addr} {o : HO} (h : H p = none) : Ext F H F (upd H p o) where
  f := Same.refl _
  s := s.trans (same_new h)
  h := same_new h
  n := fun _ _ e => .inl e
theorem Rel.ext {e : Ent} {env : Py.Env} {σ : St} {L : List Addr} (R : Rel W e env F σ H L) (x : Ext F H F' H') : Rel W e env F' σ H' L where
  sF := x.s
  slots := R.slots.frame x.f fun a _ o q => x.h _ _ q
  nd := R.nd
  dj := fun a m => by
    obtain ⟨o, ho⟩ := R.slots.lives a m
    cases q : F' a with
    | none => rfl
    | some u =>
      rcases x.n a u q with z | z
      · rw [R.dj a m] at z; cases z
      · rw [ho] at z; cases z
  s0 := R.s0.trans x.f
  nw := fun a o q => by
    rcases x.n a o q with z | z
    · exact R.nw a o z
    · by_cases m : a ∈ e.L0
      · exact .inr (.inr m)
      · refine .inr (.inl ?_)
        cases y : e.H0 a with
        | none => rfl
        | some u => rw [R.fr a u m y] at z; cases z
  fr := fun a o m q => x.h _ _ (R.fr a o m q)
  ln := R.ln
  pin := R.pin
abbrev Res := Hp -> Hp -> Hp -> V -> Prop
def rF {T : Tbl} (W : Wd T) (d : D) : Res := fun F _ _ v => Shr W F d v
def rV {T : Tbl} (W : Wd T) (d : D) : Res := fun _ H _ v => Shr W H d v
def rO {T : Tbl} (W : Wd T) (d : D) : Res := fun F H H0 v => ∃ L, Own W F H d v L /\ L.Nodup /\ ∀ a ∈ L, H0 a = none /\ F a = none
def rL {T : Tbl} (W : Wd T) (ds : List D) : Res := fun F H _ v => ∃ a vs, v = .ref a /\ SqL W.K H a vs /\ Shrs W F ds vs
def AE {T : Tbl} (W : Wd T) (t : TE) (env : Py.Env) (R : Res) : Prop :=
  ∀ (e : Ent) (F : Hp) (σ : St) (H : Hp) (L : List Addr) (Q : VK), Rel W e env F σ H L -> (∀ v F' H', Ext F H F' H' -> R F' H' H v -> Q v H') -> t σ H Q
def AT {T : Tbl} (W : Wd T) (t : TT) (env : Py.Env) (b : Bool) : Prop :=
  ∀ (e : Ent) (F : Hp) (σ : St) (H : Hp) (L : List Addr) (Q : Bool -> Hp -> Prop), Rel W e env F σ H L -> (∀ F' H', Ext F H F' H' -> Q b H') -> t σ H Q
abbrev ResL := Hp -> Hp -> Hp -> List V -> Prop
def rFs {T : Tbl} (W : Wd T) (ds : List D) : ResL := fun F _ _ vs => Shrs W F ds vs
def rVs {T : Tbl} (W : Wd T) (ds : List D) : ResL := fun _ H _ vs => Shrs W H ds vs
def AA {T : Tbl} (W : Wd T) (t : TA) (env : Py.Env) (R : ResL) : Prop :=
  ∀ (e : Ent) (F : Hp) (σ : St) (H : Hp) (L : List Addr) (Q : List V -> Hp -> Prop), Rel W e env F σ H L -> (∀ v F' H', Ext F H F' H' -> R F' H' H v -> Q v H') -> t σ H Q
variable {env : Py.Env} {t ta tb : TE}
theorem AE.imp {R R' : Res} (h : AE W t env R) (k : ∀ F H H0 v, Same F H -> R F H H0 v -> R' F H H0 v) : AE W t env R' := fun e F σ H L Q r q =>
  h e F σ H L Q r fun v F' H' x y => q v F' H' x (k _ _ _ _ x.s y)
theorem AE.view {d : D} (h : AE W t env (rF W d)) : AE W t env (rV W d) := h.imp fun _ _ _ _ s y => Shr.mono s y
theorem AE.own {d : D} (h : AE W t env (rF W d)) : AE W t env (rO W d) := h.imp fun _ _ _ _ s y => ⟨[], .sh y, .nil, fun _ m => nomatch m⟩
theorem AE.list {ds : List D} (h : AE W t env (rF W (.lst ds))) : AE W t env (rL W ds) := h.imp fun _ _ _ _ s y => by
  cases y with
  | lst a b => exact ⟨_, _, rfl, .of (s _ _ a), b⟩
theorem freeze {F H : Hp} {d : D} {v : V} {L : List Addr} (s : Same F H) (o : Own W F H d v L) (k : ∀ a ∈ L, F a = none) :
    ∃ F', Same F F' /\ Same F' H /\ (∀ a o, F' a = some o -> F a = some o \/ a ∈ L) /\ Shr W F' (fz d) v := by
  refine ⟨fun a => if a ∈ L then H a else F a, fun a u q => ?_, fun a u q => ?_, fun a u q => ?_, o.view (fun a u q => ?_) fun a m u q => ?_⟩
  · show (if a ∈ L then H a else F a) = some u
    split
    · rename_i m; rw [k a m] at q; cases q
    · exact q
  · have q : (if a ∈ L then H a else F a) = some u := q
    split at q
    · exact q
    · exact s _ _ q
  · have q : (if a ∈ L then H a else F a) = some u := q
    split at q
    · exact .inr (by assumption)
    · exact .inl q
  · show (if a ∈ L then H a else F a) = some u
    split
    · rename_i m; rw [k a m] at q; cases q
    · exact q
  · show (if a ∈ L then H a else F a) = some u
    rw [if_pos m]; exact q
theorem AE.frz {d : D} (h : AE W t env (rO W d)) : AE W t env (rF W (fz d)) := fun e F σ H L Q r q =>
  h e F σ H L Q r fun v F' H' x ⟨M, o, nd, k⟩ => by
    obtain ⟨G, s1, s2, nw, y⟩ := freeze x.s o fun a m => (k a m).2
    refine q v G H' ⟨x.f.trans s1, s2, x.h, fun a o z => ?_⟩ y
    rcases nw a o z with z | z
    · exact x.n a o z
    · exact .inr (k a z).1
structure Exn where
  c : String
  fs : List (String × D)
structure AEnds where
  nx : Py.Env -> Prop
  rt : D -> Py.Env -> Prop
  bk : Py.Env -> Prop := fun _ => False
  ct : Py.Env -> Prop := fun _ => False
  ex : Exn -> Py.Env -> Prop := fun _ _ => False
def IsExn {T : Tbl} (W : Wd T) (F : Hp) (ex : Exn) (C : Value) (d : Option Addr) : Prop :=
  C = .ref (W.cA ex.c) /\ W.hasX ex.c /\ (ex.fs = [] \/ ∃ a vs, d = some a /\ F a = some (.xd (((ex.fs.map (·.1)).map so).zip vs)) /\ Shrs W F (ex.fs.map (·.2)) vs)
structure Sat {T : Tbl} (W : Wd T) (e : Ent) (E : WX) (A : AEnds) (Dn : Ends) : Prop where
  nx : ∀ env F σ H L, A.nx env -> Rel W e env F σ H L -> Dn.nx σ H
  rt : ∀ d env F σ H L v M, A.rt d env -> Rel W e env F σ H L -> Own W F H d v M -> (M ++ L).Nodup -> (∀ a ∈ M, F a = none /\ (a ∈ e.L0 \/ e.H0 a = none)) -> Dn.rt v H
  bk : ∀ env F σ H L, A.bk env -> Rel W e env F σ H L -> Dn.bk σ H
  ct : ∀ env F σ H L, A.ct env -> Rel W e env F σ H L -> Dn.ct σ H
  ex : ∀ x env F σ H L C d, A.ex x env -> Rel W e env F σ H L -> IsExn W F x C d -> E C d σ H
def AS {T : Tbl} (W : Wd T) (P : List Nat) (E : WX) (t : TS) (env : Py.Env) (A : AEnds) : Prop :=
  ∀ (e : Ent) (F : Hp) (σ : St) (H : Hp) (L : List Addr) (Dn : Ends), P = e.pins.map (·.1) -> Rel W e env F σ H L -> Sat W e E A Dn -> t Dn σ H
variable {P : List Nat} {E : WX} {A : AEnds}
theorem as_seq {t u : TS} (h : AS W P E t env { A with nx := fun env' => AS W P E u env' A }) : AS W P E (tSeq t u) env A := fun e F σ H L Dn hp r s =>
  h e F σ H L _ hp r ⟨fun env' F' σ' H' L' a r' => a e F' σ' H' L' Dn hp r' s, s.rt, s.bk, s.ct, s.ex⟩
theorem as_next (h : A.nx env) : AS W P E tNext env A := fun e F σ H L Dn hp r s => s.nx _ _ _ _ _ h r
theorem Rel.set {e : Ent} {σ : St} {L M : List Addr} {d : D} {v : V} {i : Nat} (r : Rel W e env F σ H L) (o : Own W F H d v M) (nd : (M ++ L).Nodup) (k : ∀ a ∈ M, F a = none /\ (a ∈ e.L0 \/ e.H0 a = none)) (hi : i < env.length)
    (hp : ∀ p ∈ e.pins, p.1 ≠ i) : ∃ L', Rel W e (env.set i (some d)) F (σ.set i (some v)) H L' := by
  obtain ⟨L', s, nd', m⟩ := r.slots.put o nd hi
  refine ⟨L', r.sF, s, nd', fun a ha => ?_, r.s0, r.nw, r.fr, fun a ha => ?_, fun p hm => ?_⟩
  · rcases m a ha with q | q
    · exact (k a q).1
    · exact r.dj a q
  · rcases m a ha with q | q
    · exact (k a q).2
    · exact r.ln a q
  · rw [List.getElem?_set_ne (fun z => hp p hm z.symm)]
    exact r.pin p hm
theorem Rel.h0 {e : Ent} {σ : St} {L : List Addr} (r : Rel W e env F σ H L) {a : Addr} (h : H a = none) : a ∈ e.L0 \/ e.H0 a = none := by
  by_cases m : a ∈ e.L0
  · exact .inl m
  · refine .inr ?_
    cases y : e.H0 a with
    | none => rfl
    | some u => rw [r.fr a u m y] at h; cases h
theorem nodup_new {L M : List Addr} {H : Hp} (h1 : L.Nodup) (h2 : M.Nodup) (hl : ∀ a ∈ L, ∃ o, H a = some o) (hm : ∀ a ∈ M, H a = none) : (M ++ L).Nodup := by
  rw [List.nodup_append]
  refine ⟨h2, h1, fun a ha b hb q => ?_⟩
  subst q
  obtain ⟨o, z⟩ := hl a hb
  rw [hm a ha] at z
  cases z
theorem as_if {tc : TT} {t u : TS} {b : Bool} (h : AT W tc env b) (h1 : b = true -> AS W P E t env A) (h2 : b = false -> AS W P E u env A) : AS W P E (tIfS tc t u) env A := fun e F σ H L Dn hP r s =>
  h e F σ H L _ r fun F' H' x => by
    have r' := r.ext x
    cases b with
    | true => exact h1 rfl e F' σ H' L Dn hP r' s
    | false => exact h2 rfl e F' σ H' L Dn hP r' s
end
end Py
namespace Py
open PySem L2
section
variable {T : Tbl} {W : Wd T} {env : Py.Env} {t ta tb tc : TE} {d d1 d2 d3 : D} {i j : Int} {n m : Nat}
theorem slot_get {e : Ent} {F H : Hp} {σ : St} {L : List Addr} (r : Rel W e env F σ H L) (h : env[n]? = some (some d)) : ∃ v M, σ[n]? = some (some v) /\ Own W F H d v M /\ ∀ a ∈ M, a ∈ L := by
  obtain ⟨v, Li, Lr, e1, o, _, _, m⟩ := r.slots.take r.nd h
  exact ⟨v, Li, e1, o, fun a ha => (m a).mp (.inl ha)⟩
theorem ae_c {v : V} (h : ∀ F, Shr W F d v) : AE W (tC v) env (rF W d) := fun e F σ H L Q r q => q v F H (.refl r.sF) (h F)
theorem AE.shr (h : AE W t env (rO W d)) (s : isSh d = true) : AE W t env (rF W d) := h.imp fun _ _ _ _ _ ⟨_, o, _⟩ => o.shr s
theorem rO_sh {F H H0 : Hp} {v : V} (h : Shr W F d v) : rO W d F H H0 v := ⟨[], .sh h, .nil, fun _ m => nomatch m⟩
theorem rO_back {F H H0 H1 : Hp} {v : V} (e : Same H0 H1) (h : rO W d F H H1 v) : rO W d F H H0 v := by
  obtain ⟨L, o, nd, k⟩ := h
  exact ⟨L, o, nd, fun a m => ⟨e.free (k a m).1, (k a m).2⟩⟩
def Op2 {T : Tbl} (W : Wd T) (r : R2) (d1 d2 d : D) : Prop := ∀ (F H : Hp) (v1 v2 : V) (Q : VK), Same F H -> Shr W H d1 v1 -> Shr W H d2 v2 -> (∀ v F' H', Ext F H F' H' -> rO W d F' H' H v -> Q v H') -> r v1 v2 H Q
def Op2L {T : Tbl} (W : Wd T) (r : R2) (ds es : List D) (d : D) : Prop := ∀ (F H : Hp) (a b : Addr) (vs ws : List V) (Q : VK), Same F H -> H a = some (.lst vs) -> Shrs W F ds vs -> H b = some (.lst ws) -> Shrs W F es ws -> (∀ v F' H', Ext F H F' H' -> rO W d F' H' H v -> Q v H') -> r (.ref a) (.ref b) H Q
theorem ae_op2 {r : R2} (ha : AE W ta env (rV W d1)) (hb : AE W tb env (rV W d2)) (h : Op2 W r d1 d2 d) : AE W (tOp r ta tb) env (rO W d) := fun e F σ H L Q rl q =>
  ha e F σ H L _ rl fun v F1 H1 x1 y1 => hb e F1 σ H1 L _ (rl.ext x1) fun u F2 H2 x2 y2 => h F2 H2 v u Q x2.s (y1.mono x2.h) y2 fun w F3 H3 x3 y3 => q w F3 H3 ((x1.trans x2).trans x3) (rO_back (x1.h.trans x2.h) y3)
theorem o2_l {r r' : R2} (h : Op2 W r d1 d2 d) : Op2 W (fun x y H Q => r x y H Q \/ r' x y H Q) d1 d2 d := fun F H v1 v2 Q s a b q => .inl (h F H v1 v2 Q s a b q)
theorem o2_r {r r' : R2} (h : Op2 W r' d1 d2 d) : Op2 W (fun x y H Q => r x y H Q \/ r' x y H Q) d1 d2 d := fun F H v1 v2 Q s a b q => .inr (h F H v1 v2 Q s a b q)
theorem o2_i {g : Int -> Int -> V} (hg : ∀ F, Shr W F d (g i j)) : Op2 W (rI0 g) (.int i) (.int j) d := fun F H v1 v2 Q s a b q => by
  cases a; cases b
  exact ⟨i, j, rfl, rfl, q _ F H (.refl s) (rO_sh (hg _))⟩
theorem o2_ic {C : Int -> Int -> Prop} {g : Int -> Int -> V} (hc : C i j) (hg : ∀ F, Shr W F d (g i j)) : Op2 W (rI C g) (.int i) (.int j) d := fun F H v1 v2 Q s a b q => by
  cases a; cases b
  exact ⟨i, j, rfl, rfl, hc, q _ F H (.refl s) (rO_sh (hg _))⟩
theorem ae_u {g : Int -> V} (ha : AE W ta env (rV W (.int i))) (hg : ∀ F, Shr W F d (g i)) : AE W (tUn (rU g) ta) env (rF W d) := fun e F σ H L Q r q =>
  ha e F σ H L _ r fun v F1 H1 x1 y1 => by
    cases y1
    exact ⟨i, rfl, q _ F1 H1 x1 (hg _)⟩
def fl : D -> Option V
  | .non => some .non
  | .bl b => some (.bl b)
  | .int i => some (.int i)
  | .str x => some (.str (so x))
  | _ => none
theorem Shr.fl {F : Hp} {v u : V} (h : Shr W F d v) (e : Py.fl d = some u) : v = u := by
  cases h <;> (first | (cases e; rfl) | cases e)
mutual
def pd : D -> Option PyData
  | .non => some .none
  | .bl b => some (.bool b)
  | .int i => some (.int i)
  | .str x => some (.str (so x))
  | .tup xs => (pds xs).map PyData.tuple
  | .lst xs => (pds xs).map PyData.list
  | _ => none
def pds : List D -> Option (List PyData)
  | [] => some []
  | d :: ds => match pd d, pds ds with
    | some x, some xs => some (x :: xs)
    | _, _ => none
end
mutual
theorem Shr.dp {H : Hp} : ∀ {d : D} {v : V} {x : PyData}, Shr W H d v -> pd d = some x -> Dp W.K H v x
  | _, _, _, .non, e => by rw [pd] at e; cases e; exact .non
  | _, _, _, .bl, e => by rw [pd] at e; cases e; exact .bl _
  | _, _, _, .int, e => by rw [pd] at e; cases e; exact .int _
  | _, _, _, .str, e => by rw [pd] at e; cases e; exact .str _
  | _, _, _, .scr _, e => by rw [pd] at e <;> cases e
  | .tup xs, _, _, .tup h hs, e => by
    rw [pd] at e
    cases q : pds xs with
    | none => rw [q] at e; cases e
    | some ys => rw [q] at e; cases e; exact .tup (.of h) (Shrs.dp hs q)
  | .lst xs, _, _, .lst h hs, e => by
    rw [pd] at e
    cases q : pds xs with
    | none => rw [q] at e; cases e
    | some ys => rw [q] at e; cases e; exact .lst (.of h) (Shrs.dp hs q)
  | _, _, _, .cls _, e => by rw [pd] at e <;> cases e
  | _, _, _, .sei _ _, e => by rw [pd] at e <;> cases e
  | _, _, _, .dic _ _ _ _, e => by rw [pd] at e <;> cases e
  | _, _, _, .dit _ _ _ _, e => by rw [pd] at e <;> cases e
  | _, _, _, .dig _ _ _ _, e => by rw [pd] at e <;> cases e
  | _, _, _, .dlf _ _ _ _, e => by rw [pd] at e <;> cases e
  | _, _, _, .ins _ _ _ _, e => by rw [pd] at e <;> cases e
theorem Shrs.dp {H : Hp} : ∀ {ds : List D} {vs : List V} {xs : List PyData}, Shrs W H ds vs -> pds ds = some xs -> DpAll W.K H vs xs
  | _, _, _, .nil, e => by rw [pds] at e; cases e; exact .nil
  | d :: ds, _, _, .cons h t, e => by
    rw [pds] at e
    cases q1 : pd d with
    | none => rw [q1] at e; cases e
    | some x =>
      cases q2 : pds ds with
      | none => rw [q1, q2] at e; cases e
      | some xs => rw [q1, q2] at e; cases e; exact .cons (Shr.dp h q1) (Shrs.dp t q2)
end
theorem o2_eqD {x y : PyData} (h1 : pd d1 = some x) (h2 : pd d2 = some y) (s1 : SeqAt.shaped x = true) (s2 : SeqAt.shaped y = true) : Op2 W (rEqD W.K) d1 d2 (.bl (PyData.eqv x y)) := fun F H v1 v2 Q s a b q =>
  ⟨x, y, a.dp h1, b.dp h2, s1, s2, q _ F H (.refl s) (rO_sh .bl)⟩
theorem o2_neD {x y : PyData} (h1 : pd d1 = some x) (h2 : pd d2 = some y) (s1 : SeqAt.shaped x = true) (s2 : SeqAt.shaped y = true) : Op2 W (rNeD W.K) d1 d2 (.bl (!PyData.eqv x y)) := fun F H v1 v2 Q s a b q =>
  ⟨x, y, a.dp h1, b.dp h2, s1, s2, q _ F H (.refl s) (rO_sh .bl)⟩
theorem o2L_cat {ds es : List D} (hl : ds.length + es.length <= 1000000) : Op2L W rCat ds es (.olst (ds ++ es)) := fun F H a b vs ws Q s ha sa hb sb q =>
  ⟨a, b, vs, ws, rfl, rfl, ha, hb, by rw [<- sa.length, <- sb.length]; exact Nat.le_trans hl (by decide), fun p hp => q _ F _ (.newH s hp) ⟨[p], .olst upd_same (sa.append sb).owns, by simp, fun x m => by
    rw [List.mem_singleton.mp m]; exact ⟨hp, s.free hp⟩⟩⟩
def Cb {T : Tbl} (W : Wd T) (r : List V -> Hp -> VK -> Prop) (ds : List D) (d : D) : Prop := ∀ (F H : Hp) (vs : List V) (Q : VK), Same F H -> Shrs W H ds vs -> (∀ v F' H', Ext F H F' H' -> rO W d F' H' H v -> Q v H') -> r vs H Q
theorem ae_cb {r : List V -> Hp -> VK -> Prop} {tr : TA} {ds : List D} (h : AA W tr env (rVs W ds)) (hc : Cb W r ds d) : AE W (tCB r tr) env (rO W d) := fun e F σ H L Q rl q =>
  h e F σ H L _ rl fun vs F1 H1 x1 y1 => hc F1 H1 vs Q x1.s y1 fun w F3 H3 x3 y3 => q w F3 H3 (x1.trans x3) (rO_back x1.h y3)
theorem cb_l {r r' : List V -> Hp -> VK -> Prop} {ds : List D} (h : Cb W r ds d) : Cb W (fun xs H Q => r xs H Q \/ r' xs H Q) ds d := fun F H vs Q s a q => .inl (h F H vs Q s a q)
def isNon : D -> Bool
  | .non => true
  | _ => false
theorem Shr.non_iff {F : Hp} {v : V} (h : Shr W F d v) : decide (v = V.non) = isNon d := by
  cases h <;> first | rfl | (simp [isNon])
theorem ae_isN (ha : AE W ta env (rV W d)) : AE W (tOp (fun x y H Q => y = .non /\ Q (.bl (decide (x = .non))) H) ta (tC .non)) env (rF W (.bl (isNon d))) := fun e F σ H L Q r q =>
  ha e F σ H L _ r fun v F1 H1 x1 y1 => ⟨rfl, by rw [y1.non_iff]; exact q _ F1 H1 x1 .bl⟩
theorem ae_notN (ha : AE W ta env (rV W d)) : AE W (tOp (fun x y H Q => y = .non /\ Q (.bl (!decide (x = .non))) H) ta (tC .non)) env (rF W (.bl (!isNon d))) := fun e F σ H L Q r q =>
  ha e F σ H L _ r fun v F1 H1 x1 y1 => ⟨rfl, by rw [y1.non_iff]; exact q _ F1 H1 x1 .bl⟩
theorem ae_andV {a b : Bool} (ha : AE W ta env (rV W (.bl a))) (hb : a = true -> AE W tb env (rV W (.bl b))) : AE W (tAndV ta tb) env (rF W (.bl (a && b))) := fun e F σ H L Q r q =>
  ha e F σ H L _ r fun v F1 H1 x1 y1 => by
    cases y1
    refine ⟨a, rfl, ?_⟩
    cases a with
    | true => exact hb rfl e F1 σ H1 L _ (r.ext x1) fun u F2 H2 x2 y2 => by cases y2; exact q _ F2 H2 (x1.trans x2) .bl
    | false => exact q _ F1 H1 x1 .bl
theorem ae_notV {a : Bool} (ha : AE W ta env (rV W (.bl a))) : AE W (tNotV ta) env (rF W (.bl (!a))) := fun e F σ H L Q r q =>
  ha e F σ H L _ r fun v F1 H1 x1 y1 => by
    cases y1
    exact ⟨a, rfl, q _ F1 H1 x1 .bl⟩
variable {tt tu : TT} {a b : Bool}
theorem at_test (h : AE W t env (rV W (.bl b))) : AT W (tTest t) env b := fun e F σ H L Q r q => h e F σ H L _ r fun v F1 H1 x1 y1 => by
  cases y1
  exact ⟨b, rfl, q F1 H1 x1⟩
theorem at_and (h1 : AT W tt env a) (h2 : a = true -> AT W tu env b) : AT W (tAnd tt tu) env (a && b) := fun e F σ H L Q r q => h1 e F σ H L _ r fun F1 H1 x1 => by
  cases a with
  | true => exact h2 rfl e F1 σ H1 L _ (r.ext x1) fun F2 H2 x2 => q F2 H2 (x1.trans x2)
  | false => exact q F1 H1 x1
theorem at_or (h1 : AT W tt env a) (h2 : a = false -> AT W tu env b) : AT W (tOr tt tu) env (a || b) := fun e F σ H L Q r q => h1 e F σ H L _ r fun F1 H1 x1 => by
  cases a with
  | false => exact h2 rfl e F1 σ H1 L _ (r.ext x1) fun F2 H2 x2 => q F2 H2 (x1.trans x2)
  | true => exact q F1 H1 x1
theorem at_not (h1 : AT W tt env a) : AT W (tNot tt) env (!a) := fun e F σ H L Q r q => h1 e F σ H L _ r fun F1 H1 x1 => q F1 H1 x1
variable {tr : TA} {ds : List D}
theorem aa_nil : AA W tNil env (rFs W []) := fun e F σ H L Q r q => q [] F H (.refl r.sF) .nil
theorem aa_nilV : AA W tNil env (rVs W []) := fun e F σ H L Q r q => q [] F H (.refl r.sF) .nil
theorem aa_cons (ha : AE W t env (rF W d)) (hr : AA W tr env (rFs W ds)) : AA W (tCons t tr) env (rFs W (d :: ds)) := fun e F σ H L Q r q =>
  ha e F σ H L _ r fun v F1 H1 x1 y1 => hr e F1 σ H1 L _ (r.ext x1) fun vs F2 H2 x2 y2 => q _ F2 H2 (x1.trans x2) (.cons (y1.mono x2.f) y2)
theorem aa_consV (ha : AE W t env (rV W d)) (hr : AA W tr env (rVs W ds)) : AA W (tCons t tr) env (rVs W (d :: ds)) := fun e F σ H L Q r q =>
  ha e F σ H L _ r fun v F1 H1 x1 y1 => hr e F1 σ H1 L _ (r.ext x1) fun vs F2 H2 x2 y2 => q _ F2 H2 (x1.trans x2) (.cons (y1.mono x2.h) y2)
theorem AA.view (h : AA W tr env (rFs W ds)) : AA W tr env (rVs W ds) := fun e F σ H L Q r q => h e F σ H L _ r fun v F1 H1 x1 y1 => q v F1 H1 x1 (Shrs.mono x1.s y1)
theorem sz_le {n : Nat} (h : n <= 1000000) : n <= sizeLine := Nat.le_trans h (by decide)
theorem ae_tup (h : AA W tr env (rFs W ds)) (hl : ds.length <= 1000000) : AE W (tTup tr) env (rF W (.tup ds)) := fun e F σ H L Q r q =>
  h e F σ H L _ r fun vs F1 H1 x1 y1 => ⟨by rw [<- y1.length]; exact sz_le hl, fun p hp =>
    q _ (upd F1 p (.tup vs)) _ (x1.trans (.new x1.s hp)) (.tup upd_same (y1.mono (same_new (x1.s.free hp))))⟩
theorem ae_lst (h : AA W tr env (rFs W ds)) (hl : ds.length <= 1000000) : AE W (tLst tr) env (rO W (.olst ds)) := fun e F σ H L Q r q =>
  h e F σ H L _ r fun vs F1 H1 x1 y1 => ⟨by rw [<- y1.length]; exact sz_le hl, fun p hp =>
    q _ F1 _ (x1.trans (.newH x1.s hp)) ⟨[p], .olst upd_same y1.owns, by simp, fun a m => by
      rw [List.mem_singleton.mp m]; exact ⟨x1.h.free hp, x1.s.free hp⟩⟩⟩
abbrev rLenU (K : PySem.W.Frag) : List V -> Hp -> VK -> Prop := fun xs H Q => ∃ p ys, xs = [.ref p] /\ (SqL K H p ys \/ SqT K H p ys) /\ Q (.int ys.length) H
theorem cb_lenL {ds : List D} : Cb W (rLenU W.K) [.lst ds] (.int ds.length) := fun F H vs Q s a q => by
  cases a with
  | cons a b =>
    cases b
    cases a with
    | lst a b => exact ⟨_, _, rfl, .inl (.of a), q _ F H (.refl s) (rO_sh (by rw [b.length]; exact .int))⟩
theorem cb_lenT {ds : List D} : Cb W (rLenU W.K) [.tup ds] (.int ds.length) := fun F H vs Q s a q => by
  cases a with
  | cons a b =>
    cases b
    cases a with
    | tup a b => exact ⟨_, _, rfl, .inr (.of a), q _ F H (.refl s) (rO_sh (by rw [b.length]; exact .int))⟩
theorem cb_lenS {ns : List Int} : Cb W (rLenU W.K) [.scr ns] (.int ns.length) := fun F H vs Q s a q => by
  cases a with
  | cons a b =>
    cases b
    cases a with
    | scr a => exact ⟨_, _, rfl, .inl a, q _ F H (.refl s) (rO_sh (by rw [List.length_map]; exact .int))⟩
def rIxU (K : PySem.W.Frag) : R2 := fun x y H Q => rIxL K x y H Q \/ rIxT K x y H Q
theorem AT.is {tt : TT} {b c : Bool} (h : AT W tt env b) (e : b = c) : AT W tt env c := e ▸ h
theorem cb_int : Cb W (fun xs H Q => (∃ i, xs = [.int i] /\ Q (.int i) H) \/ ∃ k, xs = [.bl k] /\ Q (.int (if k then 1 else 0)) H) [.int i] (.int i) := fun F H vs Q s a q => by
  cases a with
  | cons a b =>
    cases b; cases a
    exact .inl ⟨i, rfl, q _ F H (.refl s) (rO_sh .int)⟩
theorem cb_abs : Cb W (fun xs H Q => ∃ i, xs = [.int i] /\ Q (.int (if i < 0 then -i else i)) H) [.int i] (.int (if i < 0 then -i else i)) := fun F H vs Q s a q => by
  cases a with
  | cons a b =>
    cases b; cases a
    exact ⟨i, rfl, q _ F H (.refl s) (rO_sh .int)⟩
variable {P : List Nat} {E : WX} {A : AEnds}
def AG {T : Tbl} (W : Wd T) (P : List Nat) (g : TG) (d : D) (env : Py.Env) (k : Py.Env -> Prop) : Prop :=
  ∀ (e : Ent) (F : Hp) (σ : St) (H : Hp) (L : List Addr) (v : V) (Q : St -> Hp -> Prop), P = e.pins.map (·.1) -> Rel W e env F σ H L -> Shr W F d v -> (∀ env' σ' L', k env' -> Rel W e env' F σ' H L' -> Q σ' H) -> g v σ H Q
def AGs {T : Tbl} (W : Wd T) (P : List Nat) (g : TGs) (ds : List D) (env : Py.Env) (k : Py.Env -> Prop) : Prop :=
  ∀ (e : Ent) (F : Hp) (σ : St) (H : Hp) (L : List Addr) (vs : List V) (Q : St -> Hp -> Prop), P = e.pins.map (·.1) -> Rel W e env F σ H L -> Shrs W F ds vs -> (∀ env' σ' L', k env' -> Rel W e env' F σ' H L' -> Q σ' H) -> g vs σ H Q
theorem ag_name {k : Nat} {o' : Option D} {q : Py.Env -> Prop} (hi' : env[k]? = some o') (hp : k ∉ P) (h : q (env.set k (some d))) : AG W P (gName k) d env q := fun e F σ H L v Q hP r s c => by
  have hi := (List.getElem?_eq_some_iff.mp hi').1
  obtain ⟨L', r2⟩ := r.set (i := k) (M := []) (.sh s) (by simpa using r.nd) (fun a m => nomatch m) hi fun p hm z => hp (by rw [hP]; exact List.mem_map.mpr ⟨p, hm, z⟩)
  exact c _ _ _ h r2
theorem ags_nil {q : Py.Env -> Prop} (h : q env) : AGs W P gNil [] env q := fun e F σ H L v Q hP r s c => by
  cases s
  exact ⟨rfl, c _ _ _ h r⟩
theorem ags_cons {g : TG} {gs : TGs} {q : Py.Env -> Prop} (h : AG W P g d env fun env' => AGs W P gs ds env' q) : AGs W P (gCons g gs) (d :: ds) env q := fun e F σ H L v Q hP r s c => by
  cases s with
  | cons a b => exact ⟨_, _, rfl, h e F σ H L _ _ hP r a fun env' σ' L' k r' => k e F σ' H L' _ Q hP r' b c⟩
theorem ag_tup {gs : TGs} {q : Py.Env -> Prop} {k : Nat} (hl : ds.length = k) (h : AGs W P gs ds env q) : AG W P (gTup W.K k gs) (.tup ds) env q := fun e F σ H L v Q hP r s c => by
  cases s with
  | tup a b => exact ⟨_, _, rfl, .of (r.sF _ _ a), by rw [<- b.length]; exact hl, h e F σ H L _ Q hP r b c⟩
theorem Rel.enter {e : Ent} {F H : Hp} {σ : St} {L : List Addr} (r : Rel W e env F σ H L) : Rel W { e with F0 := F } env F σ H L :=
  ⟨r.sF, r.slots, r.nd, r.dj, Same.refl _, fun _ _ h => .inl h, r.fr, r.ln, r.pin⟩
theorem Rel.leave {e : Ent} {F1 F H H1 : Hp} {σ σ1 : St} {L L1 : List Addr} {env1 : Py.Env} (r1 : Rel W e env1 F1 σ1 H1 L1) (r : Rel W { e with F0 := F1 } env F σ H L) : Rel W e env F σ H L :=
  ⟨r.sF, r.slots, r.nd, r.dj, r1.s0.trans r.s0, fun a o h => (r.nw a o h).elim (fun q => r1.nw a o q) .inr, r.fr, r.ln, r.pin⟩
end
end Py
namespace Py
open PySem L2
inductive Pst where
  | fld (f : String) | idx (k : Nat) | key (k : Key) | keyT (k : List Key)
def pos {α : Type} [DecidableEq α] (f : α) : List α -> Option Nat
  | [] => none
  | x :: xs => if x = f then some 0 else (pos f xs).map (· + 1)
theorem pos_get {α : Type} [DecidableEq α] {f : α} : ∀ {ns : List α} {j : Nat}, pos f ns = some j -> ns[j]? = some f
  | [], _, h => by cases h
  | x :: xs, j, h => by
    unfold pos at h
    split at h
    · rename_i e; cases h; rw [e]; rfl
    · cases q : pos f xs with
      | none => rw [q] at h; cases h
      | some k => rw [q] at h; cases h; exact pos_get (ns := xs) q
theorem zip_lookup {f : String} : ∀ {ns : List String} {vs : List V} {j : Nat}, pos f ns = some j -> ((ns.map so).zip vs).lookup (so f) = vs[j]?
  | [], _, _, h => by cases h
  | x :: xs, [], j, h => by simp
  | x :: xs, v :: vs, j, h => by
    unfold pos at h
    rw [List.map_cons, List.zip_cons_cons, List.lookup_cons]
    split at h
    · rename_i e; cases h; subst e; simp
    · rename_i e
      cases q : pos f xs with
      | none => rw [q] at h; cases h
      | some k =>
        rw [q] at h; cases h
        rw [beq_eq_false_iff_ne.mpr (fun z => e (so_inj z.symm))]
        exact zip_lookup (ns := xs) q
def D.place : D -> Pst -> Option Nat
  | .oins _ ns _, .fld f => pos f ns
  | .olst _, .idx k => some k
  | .odic ks _, .key k => pos k ks
  | .odit ks _, .keyT k => pos k ks
  | _, _ => none
def D.parts : D -> List D
  | .oins _ _ xs => xs
  | .olst xs => xs
  | .odic _ xs => xs
  | .odit _ xs => xs
  | _ => []
def D.withParts : D -> List D -> D
  | .oins C ns _, xs => .oins C ns xs
  | .olst _, xs => .olst xs
  | .odic ks _, xs => .odic ks xs
  | .odit ks _, xs => .odit ks xs
  | d, _ => d
def D.sub (d : D) (s : Pst) : Option D := (d.place s).bind fun j => d.parts[j]?
def D.put (d : D) (s : Pst) (n : D) : D := match d.place s with
  | some j => d.withParts (d.parts.set j n)
  | none => d
def D.at (d : D) : List Pst -> Option D
  | [] => some d
  | s :: st => (d.sub s).bind fun x => x.at st
def D.putAt (d : D) : List Pst -> D -> D
  | [], n => n
  | s :: st, n => match d.sub s with
    | some x => d.put s (x.putAt st n)
    | none => d
def VStep (H : Hp) (v : V) (s : Pst) (w : V) : Prop := match s with
  | .fld f => ∃ a C dx fs, v = .ref a /\ H a = some (.ins C dx fs) /\ fs.lookup (so f) = some w
  | .idx k => ∃ a vs, v = .ref a /\ H a = some (.lst vs) /\ vs[k]? = some w
  | .key k => ∃ a kvs, v = .ref a /\ H a = some (.dK kvs) /\ ∃ j : Nat, pos k (kvs.map (·.1)) = some j /\ (kvs.map (·.2))[j]? = some w
  | .keyT k => ∃ a kvs, v = .ref a /\ H a = some (.dT kvs) /\ ∃ j : Nat, pos k (kvs.map (·.1)) = some j /\ (kvs.map (·.2))[j]? = some w
def VPath (H : Hp) (v : V) : List Pst -> V -> Prop
  | [], w => v = w
  | s :: st, w => ∃ u, VStep H v s u /\ VPath H u st w
theorem VStep.mono {H H' : Hp} {v w : V} {s : Pst} (e : Same H H') (h : VStep H v s w) : VStep H' v s w := by
  cases s with
  | fld f => obtain ⟨a, C, dx, fs, h1, h2, h3⟩ := h; exact ⟨a, C, dx, fs, h1, e _ _ h2, h3⟩
  | idx k => obtain ⟨a, vs, h1, h2, h3⟩ := h; exact ⟨a, vs, h1, e _ _ h2, h3⟩
  | key k => obtain ⟨a, vs, h1, h2, h3⟩ := h; exact ⟨a, vs, h1, e _ _ h2, h3⟩
  | keyT k => obtain ⟨a, vs, h1, h2, h3⟩ := h; exact ⟨a, vs, h1, e _ _ h2, h3⟩
theorem VPath.mono {H H' : Hp} (e : Same H H') : ∀ {st : List Pst} {v w : V}, VPath H v st w -> VPath H' v st w
  | [], _, _, h => h
  | _ :: _, _, _, ⟨u, h1, h2⟩ => ⟨u, h1.mono e, VPath.mono e h2⟩
theorem VStep.det {H : Hp} {v w u : V} {s : Pst} (h : VStep H v s w) (q : VStep H v s u) : w = u := by
  cases s with
  | fld f =>
    obtain ⟨a, C, dx, fs, h1, h2, h3⟩ := h
    obtain ⟨b, C', dx', fs', q1, q2, q3⟩ := q
    rw [h1] at q1; cases q1
    rw [h2] at q2; cases q2
    rw [h3] at q3; exact Option.some.inj q3
  | idx k =>
    obtain ⟨a, vs, h1, h2, h3⟩ := h
    obtain ⟨b, ws, q1, q2, q3⟩ := q
    rw [h1] at q1; cases q1
    rw [h2] at q2; cases q2
    rw [h3] at q3; exact Option.some.inj q3
  | key k =>
    obtain ⟨a, vs, h1, h2, j, h3, h4⟩ := h
    obtain ⟨b, ws, q1, q2, j', q3, q4⟩ := q
    rw [h1] at q1; cases q1
    rw [h2] at q2; cases q2
    rw [h3] at q3; cases q3
    rw [h4] at q4; exact Option.some.inj q4
  | keyT k =>
    obtain ⟨a, vs, h1, h2, j, h3, h4⟩ := h
    obtain ⟨b, ws, q1, q2, j', q3, q4⟩ := q
    rw [h1] at q1; cases q1
    rw [h2] at q2; cases q2
    rw [h3] at q3; cases q3
    rw [h4] at q4; exact Option.some.inj q4
theorem VPath.det {H : Hp} : ∀ {st : List Pst} {v w u : V}, VPath H v st w -> VPath H v st u -> w = u
  | [], _, _, _, h, q => by cases h; cases q; rfl
  | _ :: _, _, _, _, ⟨x, h1, h2⟩, ⟨y, q1, q2⟩ => by
    cases h1.det q1
    exact VPath.det h2 q2
theorem VPath.snoc {H : Hp} : ∀ {st : List Pst} {v w u : V} {s : Pst}, VPath H v st w -> VStep H w s u -> VPath H v (st ++ [s]) u
  | [], _, _, _, _, h, q => by cases h; exact ⟨_, q, rfl⟩
  | _ :: _, _, _, _, _, ⟨x, h1, h2⟩, q => ⟨x, h1, VPath.snoc h2 q⟩
section
variable {T : Tbl} {W : Wd T} {F H : Hp}
theorem Owns.focus : ∀ {xs : List D} {vs : List V} {L : List Addr} {j : Nat} {n : D}, Owns W F H xs vs L -> L.Nodup -> xs[j]? = some n ->
    ∃ vn Ln Lr, vs[j]? = some vn /\ Own W F H n vn Ln /\ (Ln ++ Lr).Nodup /\ (∀ a, a ∈ Ln \/ a ∈ Lr ↔ a ∈ L) /\
      ∀ F' H' n' Ln', Same F F' -> (∀ a ∈ Lr, ∀ o, H a = some o -> H' a = some o) -> Own W F' H' n' vn Ln' -> (Ln' ++ Lr).Nodup -> ∃ L', Owns W F' H' (xs.set j n') vs L' /\ L'.Nodup /\ ∀ a, a ∈ L' ↔ a ∈ Ln' \/ a ∈ Lr
  | _, _, _, _, _, .nil, _, e => by simp at e
  | _, _, _, 0, n, .cons (L := L1) (M := M1) (v := v1) o t, nd, e => by
    simp at e; subst e
    refine ⟨v1, L1, M1, rfl, o, nd, fun a => List.mem_append.symm, fun F' H' n' Ln' s k o' nd' => ⟨Ln' ++ M1, ?_, nd', fun a => List.mem_append⟩⟩
    exact .cons o' (t.frame s k)
  | _, _, _, j + 1, n, .cons (L := L1) (M := M1) (v := v1) (d := d1) (ds := ds1) o t, nd, e => by
    rw [List.nodup_append] at nd
    obtain ⟨n1, n2, n3⟩ := nd
    obtain ⟨vn, Ln, Lr, h1, h2, h3, h4, h5⟩ := t.focus (j := j) n2 (by simpa using e)
    have hd : ∀ a ∈ L1, a ∉ Ln /\ a ∉ Lr := fun a ha => ⟨fun z => n3 a ha a ((h4 a).mp (.inl z)) rfl, fun z => n3 a ha a ((h4 a).mp (.inr z)) rfl⟩
    refine ⟨vn, Ln, L1 ++ Lr, by simpa using h1, h2, ?_, fun a => ?_, fun F' H' n' Ln' s k o' nd' => ?_⟩
    · rw [List.nodup_append] at h3 ⊢
      refine ⟨h3.1, ?_, fun a ha b hb q => ?_⟩
      · rw [List.nodup_append]
        exact ⟨n1, h3.2.1, fun a ha b hb q => (hd a ha).2 (q ▸ hb)⟩
      · subst q
        rcases List.mem_append.mp hb with z | z
        · exact (hd a z).1 ha
        · exact h3.2.2 a ha a z rfl
    · rw [List.mem_append, List.mem_append, <- h4 a]
      constructor
      · rintro (z | z | z)
        · exact .inr (.inl z)
        · exact .inl z
        · exact .inr (.inr z)
      · rintro (z | z | z)
        · exact .inr (.inl z)
        · exact .inl z
        · exact .inr (.inr z)
    · rw [List.nodup_append] at nd'
      obtain ⟨p1, p2, p3⟩ := nd'
      rw [List.nodup_append] at p2
      obtain ⟨L', q1, q2, q3⟩ := h5 F' H' n' Ln' s (fun a m => k a (List.mem_append_right _ m)) o' (by
        rw [List.nodup_append]
        exact ⟨p1, p2.2.1, fun a ha b hb => p3 a ha b (List.mem_append_right _ hb)⟩)
      refine ⟨L1 ++ L', .cons (o.frame s fun a m => k a (List.mem_append_left _ m)) q1, ?_, fun a => ?_⟩
      · rw [List.nodup_append]
        refine ⟨n1, q2, fun a ha b hb q => ?_⟩
        subst q
        rcases (q3 a).mp hb with z | z
        · exact p3 a z a (List.mem_append_left _ ha) rfl
        · exact p2.2.2 a ha a z rfl
      · rw [List.mem_append, List.mem_append, q3 a]
        constructor
        · rintro (z | z | z)
          · exact .inr (.inl z)
          · exact .inl z
          · exact .inr (.inr z)
        · rintro (z | z | z)
          · exact .inr (.inl z)
          · exact .inl z
          · exact .inr (.inr z)
theorem zipK_get {κ : Type} {ks : List κ} {vs : List V} (h : ks.length = vs.length) : ((ks.zip vs).map (·.1)) = ks /\ ((ks.zip vs).map (·.2)) = vs := ⟨by rw [List.map_fst_zip (by omega)], by rw [List.map_snd_zip (by omega)]⟩
theorem Own.focus1 {d n : D} {v : V} {L : List Addr} {s : Pst} (o : Own W F H d v L) (nd : L.Nodup) (h : d.sub s = some n) :
    ∃ vn Ln Lr, VStep H v s vn /\ Own W F H n vn Ln /\ (Ln ++ Lr).Nodup /\ (∀ a, a ∈ Ln \/ a ∈ Lr ↔ a ∈ L) /\
      ∀ F' H' n' Ln', Same F F' -> (∀ a ∈ Lr, ∀ o, H a = some o -> H' a = some o) -> Own W F' H' n' vn Ln' -> (Ln' ++ Lr).Nodup -> ∃ L', Own W F' H' (d.put s n') v L' /\ L'.Nodup /\ ∀ a, a ∈ L' ↔ a ∈ Ln' \/ a ∈ Lr := by
  have gen : ∀ {a : Addr} {xs : List D} {vs : List V} {M : List Addr} {j : Nat} {ho : HO} {G : List D -> D}, H a = some ho -> Owns W F H xs vs M -> (a :: M).Nodup -> xs[j]? = some n ->
      (∀ F' H' ys M', H' a = some ho -> Owns W F' H' ys vs M' -> Own W F' H' (G ys) (.ref a) (a :: M')) -> ∃ vn, vs[j]? = some vn /\ ∃ Ln Lr, Own W F H n vn Ln /\ (Ln ++ Lr).Nodup /\ (∀ b, b ∈ Ln \/ b ∈ Lr ↔ b ∈ a :: M) /\
      ∀ F' H' n' Ln', Same F F' -> (∀ a ∈ Lr, ∀ o, H a = some o -> H' a = some o) -> Own W F' H' n' vn Ln' -> (Ln' ++ Lr).Nodup -> ∃ L', Own W F' H' (G (xs.set j n')) (.ref a) L' /\ L'.Nodup /\ ∀ b, b ∈ L' ↔ b ∈ Ln' \/ b ∈ Lr := by
    intro a xs vs M j ho G ha os nd hj mk
    rw [List.nodup_cons] at nd
    obtain ⟨vn, Ln, Lr, h1, h2, h3, h4, h5⟩ := os.focus nd.2 hj
    have na : a ∉ Ln /\ a ∉ Lr := ⟨fun z => nd.1 ((h4 a).mp (.inl z)), fun z => nd.1 ((h4 a).mp (.inr z))⟩
    refine ⟨vn, h1, Ln, a :: Lr, h2, ?_, fun b => ?_, fun F' H' n' Ln' s k o' nd' => ?_⟩
    · rw [List.nodup_append] at h3 ⊢
      refine ⟨h3.1, List.nodup_cons.mpr ⟨na.2, h3.2.1⟩, fun x hx y hy q => ?_⟩
      subst q
      rcases List.mem_cons.mp hy with z | z
      · subst z; exact na.1 hx
      · exact h3.2.2 x hx x z rfl
    · rw [List.mem_cons, List.mem_cons, <- h4 b]
      constructor
      · rintro (z | z | z)
        · exact .inr (.inl z)
        · exact .inl z
        · exact .inr (.inr z)
      · rintro (z | z | z)
        · exact .inr (.inl z)
        · exact .inl z
        · exact .inr (.inr z)
    · rw [List.nodup_append] at nd'
      obtain ⟨p1, p2, p3⟩ := nd'
      rw [List.nodup_cons] at p2
      obtain ⟨L', q1, q2, q3⟩ := h5 F' H' n' Ln' s (fun b m => k b (List.mem_cons_of_mem _ m)) o' (by
        rw [List.nodup_append]
        exact ⟨p1, p2.2, fun x hx y hy => p3 x hx y (List.mem_cons_of_mem _ hy)⟩)
      refine ⟨a :: L', mk F' H' _ L' (k a (List.mem_cons_self ..) _ ha) q1, List.nodup_cons.mpr ⟨fun z => ?_, q2⟩, fun b => ?_⟩
      · rcases (q3 a).mp z with z | z
        · exact p3 a z a (List.mem_cons_self ..) rfl
        · exact p2.1 z
      · rw [List.mem_cons, List.mem_cons, q3 b]
        constructor
        · rintro (z | z | z)
          · exact .inr (.inl z)
          · exact .inl z
          · exact .inr (.inr z)
        · rintro (z | z | z)
          · exact .inr (.inl z)
          · exact .inl z
          · exact .inr (.inr z)
  unfold D.sub at h
  cases hp : d.place s with
  | none => rw [hp] at h; cases h
  | some j =>
    rw [hp] at h
    have h : d.parts[j]? = some n := h
    have hput : ∀ n', d.put s n' = d.withParts (d.parts.set j n') := fun n' => by unfold D.put; rw [hp]
    simp only [hput]
    cases o with
    | sh y =>
      cases y <;> (unfold D.place at hp; cases hp)
    | @olst a xs vs M ha os =>
      cases s with
      | idx k =>
        cases hp
        obtain ⟨vn, h1, Ln, Lr, h2⟩ := gen (G := .olst) ha os nd h fun F' H' ys M' q r => .olst q r
        exact ⟨vn, Ln, Lr, ⟨a, vs, rfl, ha, h1⟩, h2⟩
      | fld f => cases hp
      | key k => cases hp
      | keyT k => cases hp
    | @odic a ks xs vs M ha hl hn os =>
      cases s with
      | key k =>
        obtain ⟨vn, h1, Ln, Lr, h2⟩ := gen (G := .odic ks) ha os nd h fun F' H' ys M' q r => .odic q hl hn r
        obtain ⟨z1, z2⟩ := zipK_get hl
        exact ⟨vn, Ln, Lr, ⟨a, _, rfl, ha, j, by rw [z1]; exact hp, by rw [z2]; exact h1⟩, h2⟩
      | fld f => cases hp
      | idx k => cases hp
      | keyT k => cases hp
    | @odit a ks xs vs M ha hl hn os =>
      cases s with
      | keyT k =>
        obtain ⟨vn, h1, Ln, Lr, h2⟩ := gen (G := .odit ks) ha os nd h fun F' H' ys M' q r => .odit q hl hn r
        obtain ⟨z1, z2⟩ := zipK_get hl
        exact ⟨vn, Ln, Lr, ⟨a, _, rfl, ha, j, by rw [z1]; exact hp, by rw [z2]; exact h1⟩, h2⟩
      | fld f => cases hp
      | idx k => cases hp
      | key k => cases hp
    | odig => cases s <;> cases hp
    | olf => cases s <;> cases hp
    | @oins a C dx ns xs vs M ha hc hl os =>
      cases s with
      | fld f =>
        obtain ⟨vn, h1, Ln, Lr, h2⟩ := gen (G := .oins C ns) ha os nd h fun F' H' ys M' q r => .oins q hc hl r
        exact ⟨vn, Ln, Lr, ⟨a, _, dx, _, rfl, ha, by rw [zip_lookup hp]; exact h1⟩, h2⟩
      | idx k => cases hp
      | key k => cases hp
      | keyT k => cases hp
theorem Own.focus : ∀ {st : List Pst} {d n : D} {v : V} {L : List Addr}, Own W F H d v L -> L.Nodup -> d.at st = some n ->
    ∃ vn Ln Lr, VPath H v st vn /\ Own W F H n vn Ln /\ (Ln ++ Lr).Nodup /\ (∀ a, a ∈ Ln \/ a ∈ Lr ↔ a ∈ L) /\
      ∀ F' H' n' Ln', Same F F' -> (∀ a ∈ Lr, ∀ o, H a = some o -> H' a = some o) -> Own W F' H' n' vn Ln' -> (Ln' ++ Lr).Nodup -> ∃ L', Own W F' H' (d.putAt st n') v L' /\ L'.Nodup /\ ∀ a, a ∈ L' ↔ a ∈ Ln' \/ a ∈ Lr
  | [], d, n, v, L, o, nd, h => by
    cases h
    exact ⟨v, L, [], rfl, o, by simpa using nd, fun a => by simp, fun F' H' n' Ln' s k o' nd' => ⟨Ln', o', by simpa using nd', fun a => by simp⟩⟩
  | s :: st, d, n, v, L, o, nd, h => by
    unfold D.at at h
    cases hs : d.sub s with
    | none => rw [hs] at h; cases h
    | some x =>
      rw [hs] at h
      obtain ⟨vx, Lx, Ly, h1, h2, h3, h4, h5⟩ := o.focus1 nd hs
      obtain ⟨vn, Ln, Lr, k1, k2, k3, k4, k5⟩ := h2.focus (st := st) (List.nodup_append.mp h3).1 h
      have hput : ∀ n', d.putAt (s :: st) n' = d.put s (x.putAt st n') := fun n' => by
        show (match d.sub s with | some x => d.put s (x.putAt st n') | none => d) = _
        rw [hs]
      simp only [hput]
      rw [List.nodup_append] at h3
      obtain ⟨m1, m2, m3⟩ := h3
      refine ⟨vn, Ln, Lr ++ Ly, ⟨vx, h1, k1⟩, k2, ?_, fun a => ?_, fun F' H' n' Ln' sm k o' nd' => ?_⟩
      · rw [<- List.append_assoc, List.nodup_append]
        refine ⟨k3, m2, fun a ha b hb => m3 a ?_ b hb⟩
        exact (k4 a).mp (List.mem_append.mp ha)
      · rw [List.mem_append, <- h4 a, <- k4 a]
        constructor
        · rintro (z | z | z)
          · exact .inl (.inl z)
          · exact .inl (.inr z)
          · exact .inr z
        · rintro ((z | z) | z)
          · exact .inl z
          · exact .inr (.inl z)
          · exact .inr (.inr z)
      · rw [<- List.append_assoc, List.nodup_append] at nd'
        obtain ⟨p1, p2, p3⟩ := nd'
        obtain ⟨L', q1, q2, q3⟩ := k5 F' H' n' Ln' sm (fun a m => k a (List.mem_append_left _ m)) o' p1
        obtain ⟨L2, r1, r2, r3⟩ := h5 F' H' _ L' sm (fun a m => k a (List.mem_append_right _ m)) q1 (by
          rw [List.nodup_append]
          exact ⟨q2, p2, fun a ha b hb => p3 a (List.mem_append.mpr ((q3 a).mp ha)) b hb⟩)
        refine ⟨L2, r1, r2, fun a => ?_⟩
        rw [r3 a, q3 a, List.mem_append]
        constructor
        · rintro ((z | z) | z)
          · exact .inl z
          · exact .inr (.inl z)
          · exact .inr (.inr z)
        · rintro (z | z | z)
          · exact .inl (.inl z)
          · exact .inl (.inr z)
          · exact .inr z
theorem Owns.snoc : ∀ {xs : List D} {vs : List V} {M M2 : List Addr} {d : D} {v : V}, Owns W F H xs vs M -> Own W F H d v M2 -> Owns W F H (xs ++ [d]) (vs ++ [v]) (M ++ M2)
  | _, _, _, M2, _, _, .nil, o => by
    have h := Owns.cons o (Owns.nil (W := W) (F := F) (H := H))
    rw [List.append_nil] at h
    exact h
  | _, _, _, M2, _, _, .cons (L := L) (M := M) h t, o => by
    have q := Owns.cons h (t.snoc o)
    rw [<- List.append_assoc] at q
    exact q
theorem Rel.focus {e : Ent} {env : Py.Env} {σ : St} {L : List Addr} {i : Nat} {d0 n : D} {st : List Pst} (r : Rel W e env F σ H L) (h0 : env[i]? = some (some d0)) (h1 : d0.at st = some n) :
    ∃ v0 vn Ln Lr, σ[i]? = some (some v0) /\ VPath H v0 st vn /\ Own W F H n vn Ln /\ (Ln ++ Lr).Nodup /\ (∀ a, a ∈ Ln \/ a ∈ Lr ↔ a ∈ L) /\
      ∀ F' H' n' Ln', Same F F' -> Same F' H' -> (∀ a o, a ∉ Ln -> H a = some o -> H' a = some o) -> (∀ a o, F' a = some o -> F a = some o \/ (H a = none \/ a ∉ L /\ (a ∈ e.L0 \/ e.H0 a = none)) \/ a ∈ Ln) -> Own W F' H' n' vn Ln' -> (Ln' ++ Lr).Nodup -> (∀ a ∈ Ln', F' a = none /\ (a ∈ Ln \/ a ∈ e.L0 \/ e.H0 a = none)) ->
        ∃ L', Rel W e (env.set i (some (d0.putAt st n'))) F' σ H' L' /\ ∀ a ∈ L', a ∈ Ln' \/ a ∈ Lr := by
  obtain ⟨v0, Li, Lj, e1, o, sl, nd, mem⟩ := r.slots.take r.nd h0
  obtain ⟨vn, Ln, Lr, k1, k2, k3, k4, k5⟩ := o.focus (List.nodup_append.mp nd).1 h1
  rw [List.nodup_append] at nd
  obtain ⟨m1, m2, m3⟩ := nd
  have tot : ∀ a, a ∈ Ln \/ a ∈ Lr ++ Lj ↔ a ∈ L := fun a => by
    rw [List.mem_append, <- mem a, <- k4 a]
    constructor
    · rintro (z | z | z)
      · exact .inl (.inl z)
      · exact .inl (.inr z)
      · exact .inr z
    · rintro ((z | z) | z)
      · exact .inl z
      · exact .inr (.inl z)
      · exact .inr (.inr z)
  have ndT : (Ln ++ (Lr ++ Lj)).Nodup := by
    rw [<- List.append_assoc, List.nodup_append]
    exact ⟨k3, m2, fun a ha b hb => m3 a ((k4 a).mp (List.mem_append.mp ha)) b hb⟩
  refine ⟨v0, vn, Ln, Lr ++ Lj, e1, k1, k2, ndT, tot, fun F' H' n' Ln' sF sH fr nw o' nd' hn => ?_⟩
  have notn : ∀ a ∈ Lr ++ Lj, a ∉ Ln := fun a ha z => (List.nodup_append.mp ndT).2.2 a z a ha rfl
  have keep : ∀ a ∈ Lr ++ Lj, ∀ o, H a = some o -> H' a = some o := fun a ha o q => fr a o (notn a ha) q
  rw [<- List.append_assoc, List.nodup_append] at nd'
  obtain ⟨p1, p2, p3⟩ := nd'
  obtain ⟨L', q1, q2, q3⟩ := k5 F' H' n' Ln' sF (fun a m => keep a (List.mem_append_left _ m)) o' p1
  have sl' := sl.frame (F' := F') (H' := H') sF fun a m => keep a (List.mem_append_right _ m)
  have hi : i < env.length := (List.getElem?_eq_some_iff.mp h0).1
  obtain ⟨L2, s1, s2, s3⟩ := sl'.put (i := i) (v := v0) q1 (by
    rw [List.nodup_append]
    exact ⟨q2, p2, fun a ha b hb => p3 a (List.mem_append.mpr ((q3 a).mp ha)) b hb⟩) (by simpa using hi)
  have hset : (env.set i none).set i (some (d0.putAt st n')) = env.set i (some (d0.putAt st n')) := by rw [List.set_set]
  have hσ : σ.set i (some v0) = σ := by
    apply List.ext_getElem?
    intro k
    by_cases hk : i = k
    · subst hk
      obtain ⟨hlt, _⟩ := List.getElem?_eq_some_iff.mp e1
      rw [List.getElem?_set_self hlt, e1]
    · rw [List.getElem?_set_ne hk]
  rw [hset, hσ] at s1
  have inL : ∀ a ∈ L2, (a ∈ Ln' \/ a ∈ Lr ++ Lj) := fun a ha => by
    rcases s3 a ha with z | z
    · rcases (q3 a).mp z with z | z
      · exact .inl z
      · exact .inr (List.mem_append_left _ z)
    · exact .inr (List.mem_append_right _ z)
  have nr : ∀ a ∈ Lr ++ Lj, F' a = none := fun a ha => by
    obtain ⟨o, ho⟩ := r.slots.lives a ((tot a).mp (.inr ha))
    cases q : F' a with
    | none => rfl
    | some u =>
      rcases nw a u q with z | (z | z) | z
      · rw [r.dj a ((tot a).mp (.inr ha))] at z; cases z
      · rw [ho] at z; cases z
      · exact absurd ((tot a).mp (.inr ha)) z.1
      · exact absurd z (notn a ha)
  refine ⟨L2, ⟨sH, s1, s2, fun a ha => ?_, r.s0.trans sF, fun a o q => ?_, fun a o m q => ?_, fun a ha => ?_, r.pin⟩, inL⟩
  · rcases inL a ha with z | z
    · exact (hn a z).1
    · exact nr a z
  · rcases nw a o q with z | (z | z) | z
    · exact r.nw a o z
    · exact .inr ((r.h0 z).elim .inr .inl)
    · exact .inr (z.2.elim .inr .inl)
    · exact .inr ((r.ln a ((tot a).mp (.inl z))).elim .inr .inl)
  · have h := r.fr a o m q
    refine fr a o (fun z => ?_) h
    rcases r.ln a ((tot a).mp (.inl z)) with y | y
    · exact m y
    · rw [q] at y; cases y
  · rcases inL a ha with z | z
    · rcases (hn a z).2 with y | y
      · exact r.ln a ((tot a).mp (.inl y))
      · exact y
    · exact r.ln a ((tot a).mp (.inr z))
end
end Py
namespace Py
open PySem L2
section
variable {T : Tbl} {W : Wd T} {env : Py.Env} {t ta tb tk : TE} {tr : TA} {d d0 d1 d2 : D} {i : Nat} {st : List Pst} {P : List Nat} {E : WX} {A : AEnds}
def ALoc {T : Tbl} (W : Wd T) (t : TE) (env : Py.Env) (i : Nat) (st : List Pst) : Prop :=
  ∀ (e : Ent) (F : Hp) (σ : St) (H : Hp) (L : List Addr) (v0 : V) (Q : VK), Rel W e env F σ H L -> σ[i]? = some (some v0) -> (∀ v F' H', Ext F H F' H' -> VPath H' v0 st v -> Q v H') -> t σ H Q
theorem loc_var : ALoc W (tVar i) env i [] := fun e F σ H L v0 Q r h q => ⟨v0, h, q v0 F H (.refl r.sF) rfl⟩
end
end Py
namespace Py
open PySem L2
section
variable {X : Cx}
def CMulU (i j : Int) : Prop := CMul i j \/ CMulW i j
def CDivU (i j : Int) : Prop := CDiv i j \/ CDivW i j
theorem cmul_l {i j : Int} (h1 : -(2 ^ 64) < i) (h2 : i < 2 ^ 64) : CMulU i j := .inl (.inl ⟨h1, h2⟩)
theorem cmul_r {i j : Int} (h1 : -(2 ^ 64) < j) (h2 : j < 2 ^ 64) : CMulU i j := .inl (.inr ⟨h1, h2⟩)
theorem cmul_w {i j : Int} (h1 : i.natAbs < 2 ^ 4000) (h2 : j.natAbs < 2 ^ 4000) : CMulU i j := .inr (wide_mul h1 h2 (by decide) (by decide) (by decide))
theorem cdiv_s {i j : Int} (h1 : 0 < j) (h2 : j < 1073741824) : CDivU i j := .inl ⟨h1, h2⟩
theorem cdiv_w {i j : Int} (h1 : 0 < j) (h2 : j.natAbs < 2 ^ 4000) : CDivU i j := .inr (wide_div h1 h2 (by decide) (by decide))
theorem op_mulU : OpR X (binaryOp .Mult) (rI CMulU fun i j => .int (i * j)) := opI fun _ _ _ _ _ _ _ hc q => PyProof.Rows.mul_int q (hc.elim CMul.ok CMulW.ok)
theorem op_divU : OpR X (binaryOp .FloorDiv) (rI CDivU fun i j => .int (i / j)) := fun pins s σ H x y v u Q I rx ry h => by
  obtain ⟨i, j, e1, e2, hc, q⟩ := h
  rcases hc with hc | hc
  · exact op_fdiv pins s σ H x y v u Q I rx ry ⟨i, j, e1, e2, hc, q⟩
  · exact op_fdivW pins s σ H x y v u Q I rx ry ⟨i, j, e1, e2, hc, q⟩
theorem opAdd : OpR X (binaryOp .Add) (fun x y H Q => rI0 (fun i j => .int (i + j)) x y H Q \/ (fun x y H Q => rCat x y H Q \/ rCatT X.K x y H Q) x y H Q) := OpR.or op_add (OpR.or op_cat op_catT)
theorem opMul : OpR X (binaryOp .Mult) (rI CMulU fun i j => .int (i * j)) := op_mulU
theorem opDiv : OpR X (binaryOp .FloorDiv) (rI CDivU fun i j => .int (i / j)) := op_divU
theorem opEq (hu : X.A.units + 64 < cLine) : OpR X (compareOp .Eq) (fun x y H Q => rEq x y H Q \/ rEqD X.K x y H Q) := OpR.or op_eq (op_eqD hu)
theorem opNe (hu : X.A.units + 64 < cLine) : OpR X (compareOp .NotEq) (fun x y H Q => rNe x y H Q \/ rNeD X.K x y H Q) := OpR.or op_ne (op_neD hu)
theorem opLt (hu : X.A.units < cLine) : OpR X (compareOp .Lt) (fun x y H Q => rI0 (fun i j => .bl (decide (i < j))) x y H Q \/ rLtT X.K x y H Q) := OpR.or op_lt (op_ltT hu)
theorem ixU : IxR X (rIxU X.K) := ix_list.or ix_tup
theorem call_intU : CallR X (.type "int") (fun xs H Q => (∃ i, xs = [.int i] /\ Q (.int i) H) \/ ∃ k, xs = [.bl k] /\ Q (.int (if k then 1 else 0)) H) := call_int1
theorem call_absU : CallR X (.builtin "abs") (fun xs H Q => ∃ i, xs = [.int i] /\ Q (.int (if i < 0 then -i else i)) H) := call_abs
theorem call_lenU : CallR X (.builtin "len") (rLenU X.K) := call_len_seq
theorem call_listU : CallR X (.type "list") (fun xs H Q => ∃ p ys, xs = [.ref p] /\ (SqL X.K H p ys \/ SqT X.K H p ys) /\ ∀ l, H l = none -> Q (.ref l) (upd H l (.lst ys))) := call_list_of
theorem pt_truU {a : Expr} {ta : TE} (ha : PE X a ta) (he : ∀ whole, isTrue a X.env whole = (do let v <- whole; standAt a.pos; holding [v] (truthy v)) := by intro _; rfl) :
    PT X a (fun σ H Q => ta σ H fun x H' => ∃ k, TruV X.K x H' k /\ Q k H') := pt_truth ha he
end
end Py
namespace Py
open PySem L2
section
variable {T : Tbl} {W : Wd T} {env : Py.Env} {t ta tb te : TE} {tr : TA} {d d0 d1 d2 : D} {ds es : List D} {i : Nat} {P : List Nat} {E : WX} {A : AEnds}
structure Seq {T : Tbl} (W : Wd T) (J : It) (ds : List D) (F0 : Hp) : Prop where
  go : ∀ (i : Nat) (d : D) (F H : Hp), Same F0 F -> Same F H -> ds[i]? = some d -> J.go i H /\ ∀ x H', J.yld i H x H' -> ∃ F', Ext F H F' H' /\ Shr W F' d x
  stop : ∀ (F H : Hp), Same F0 F -> Same F H -> J.stop ds.length H
def AIt {T : Tbl} (W : Wd T) (wi : TI) (env : Py.Env) (ds : List D) : Prop :=
  ∀ (e : Ent) (F : Hp) (σ : St) (H : Hp) (L : List Addr) (R : It -> Hp -> Prop), Rel W e env F σ H L -> (∀ J F' H', Ext F H F' H' -> Seq W J ds F' -> R J H') -> wi σ H R
theorem seq_list {F0 : Hp} {a : Addr} {vs : List V} (h : F0 a = some (.lst vs)) (hs : Shrs W F0 ds vs) : Seq W (Itl W.K a) ds F0 where
  go := fun i d F H s1 s2 hd => by
    obtain ⟨v, hv, sv⟩ := hs.get hd
    refine ⟨⟨vs, v, .of (s2 _ _ (s1 _ _ h)), hv⟩, fun x H' y => ?_⟩
    obtain ⟨rfl, y⟩ := y
    have := y vs (.of (s2 _ _ (s1 _ _ h)))
    rw [hv] at this; cases this
    exact ⟨F, .refl s2, sv.mono s1⟩
  stop := fun F H s1 s2 => ⟨vs, .of (s2 _ _ (s1 _ _ h)), by rw [hs.length]; exact Nat.le_refl _⟩
theorem seq_tup {F0 : Hp} {a : Addr} {vs : List V} (h : F0 a = some (.tup vs)) (hs : Shrs W F0 ds vs) : Seq W (Itt W.K a) ds F0 where
  go := fun i d F H s1 s2 hd => by
    obtain ⟨v, hv, sv⟩ := hs.get hd
    refine ⟨⟨vs, v, .of (s2 _ _ (s1 _ _ h)), hv⟩, fun x H' y => ?_⟩
    obtain ⟨rfl, y⟩ := y
    have := y vs (.of (s2 _ _ (s1 _ _ h)))
    rw [hv] at this; cases this
    exact ⟨F, .refl s2, sv.mono s1⟩
  stop := fun F H s1 s2 => ⟨vs, .of (s2 _ _ (s1 _ _ h)), by rw [hs.length]; exact Nat.le_refl _⟩
def rangeD (lo : Int) (n : Nat) : List D := (List.range n).map fun k : Nat => D.int (lo + (k : Nat))
theorem rangeD_length (lo : Int) (n : Nat) : (rangeD lo n).length = n := by simp [rangeD]
theorem rangeD_get {lo : Int} {n i : Nat} {d : D} (h : (rangeD lo n)[i]? = some d) : i < n /\ d = .int (lo + (i : Nat)) := by
  unfold rangeD at h
  rw [List.getElem?_map] at h
  by_cases hi : i < n
  · rw [List.getElem?_range hi] at h
    exact ⟨hi, (Option.some.inj h).symm⟩
  · rw [List.getElem?_eq_none (by simpa using hi)] at h; cases h
theorem seq_range {F0 : Hp} {lo : Int} {n : Nat} : Seq W (Itr lo n) (rangeD lo n) F0 where
  go := fun i d F H s1 s2 hd => by
    obtain ⟨hi, rfl⟩ := rangeD_get hd
    refine ⟨hi, fun x H' y => ?_⟩
    obtain ⟨rfl, rfl⟩ := y
    exact ⟨F, .refl s2, .int⟩
  stop := fun F H s1 s2 => by rw [rangeD_length]; exact Nat.le_refl n
theorem ait_list (h : AE W t env (rF W (.lst ds))) : AIt W (iList W.K t) env ds := fun e F σ H L R r q =>
  h e F σ H L _ r fun v F1 H1 x1 y1 => by
    cases y1 with
    | lst hF hS => exact ⟨_, rfl, ⟨_, .of (x1.s _ _ hF)⟩, q _ F1 H1 x1 (seq_list hF hS)⟩
theorem ait_tup (h : AE W t env (rF W (.tup ds))) : AIt W (iTup W.K t) env ds := fun e F σ H L R r q =>
  h e F σ H L _ r fun v F1 H1 x1 y1 => by
    cases y1 with
    | tup hF hS => exact ⟨_, rfl, ⟨_, .of (x1.s _ _ hF)⟩, q _ F1 H1 x1 (seq_tup hF hS)⟩
theorem ait_range {n : Int} (h : AA W tr env (rVs W [.int n])) (hb : -(2 ^ 62) <= n /\ n < 2 ^ 62) : AIt W (iRng1 tr) env (rangeD 0 n.toNat) := fun e F σ H L R r q =>
  h e F σ H L _ r fun vs F1 H1 x1 y1 => by
    cases y1 with
    | cons a b =>
      cases a; cases b
      exact ⟨n, rfl, hb.1, hb.2, q _ F1 H1 x1 seq_range⟩
def enumD (ds : List D) : List D := ds.mapIdx fun k d => D.tup [.int (k : Nat), d]
theorem enumD_get {d : D} (h : (enumD ds)[i]? = some d) : ∃ y, ds[i]? = some y /\ d = .tup [.int (i : Nat), y] := by
  unfold enumD at h
  rw [List.getElem?_mapIdx] at h
  cases e : ds[i]? with
  | none => rw [e] at h; cases h
  | some y => rw [e] at h; exact ⟨y, rfl, (Option.some.inj h).symm⟩
theorem enumD_length : (enumD ds).length = ds.length := by simp [enumD]
theorem ait_enum (h : AE W t env (rF W (.lst ds))) : AIt W (iEnum W.K (tCons t tNil)) env (enumD ds) := fun e F σ H L R r q =>
  h e F σ H L _ r fun v F1 H1 x1 y1 => by
    cases y1 with
    | lst hF hS =>
      rename_i a vs
      refine ⟨a, vs, rfl, .of (x1.s _ _ hF), q _ F1 H1 x1 ⟨fun i d F H s1 s2 hd => ?_, fun F H s1 s2 => ?_⟩⟩
      · obtain ⟨y, hy, rfl⟩ := enumD_get hd
        obtain ⟨w, hw, sw⟩ := hS.get hy
        refine ⟨⟨vs, w, .of (s2 _ _ (s1 _ _ hF)), hw⟩, fun x H' yl => ?_⟩
        obtain ⟨T, y', rfl, hT, rfl, hy'⟩ := yl
        have := hy' vs (.of (s2 _ _ (s1 _ _ hF)))
        rw [hw] at this; cases this
        refine ⟨_, .new s2 hT, .tup upd_same (.cons .int (.cons ?_ .nil))⟩
        exact (sw.mono s1).mono (same_new (s2.free hT))
      · exact ⟨vs, .of (s2 _ _ (s1 _ _ hF)), by rw [enumD_length, hS.length]; exact Nat.le_refl _⟩
def iSeqU (K : PySem.W.Frag) (tl : TE) : TI := fun σ H R => iList K tl σ H R \/ iTup K tl σ H R
theorem pi_seqU {X : Cx} {tg l : Expr} {tl : TE} (hl : PE X l tl) : PI X tg l (iSeqU X.K tl) := ⟨fun pins s σ H R I h => h.elim (fun h => (pi_list hl).run pins s σ H R I h) fun h => (pi_tup hl).run pins s σ H R I h⟩
theorem at_yes : AT W tYes env true := fun e F σ H L Q r q => q F H (.refl r.sF)
theorem as_for {wi : TI} {g : TG} {tb : TS} (h : AIt W wi env ds) (Iv : Nat -> Py.Env -> Prop) (h0 : Iv 0 env)
    (hs : ∀ i d env', ds[i]? = some d -> Iv i env' -> AG W P g d env' fun e2 => AS W P E tb e2 { A with nx := Iv (i + 1), ct := Iv (i + 1), bk := A.nx })
    (hd : ∀ env', Iv ds.length env' -> A.nx env') : AS W P E (tFor wi g tb) env A := fun e F σ H L Dn hP r s =>
  h e F σ H L _ r fun J F1 H1 x1 sq => by
    have r1 := r.ext x1
    refine ⟨fun i m σ H => m = ds.length - i /\ i <= ds.length /\ ∃ env' F L, Iv i env' /\ Rel W { e with F0 := F1 } env' F σ H L, ⟨ds.length, rfl, Nat.zero_le _, env, F1, L, h0, r1.enter⟩, ?_⟩
    rintro i m σ H ⟨rfl, hi, env', F, L, hI, q⟩
    by_cases hlt : i < ds.length
    · have hd' : ds[i]? = some ds[i] := List.getElem?_eq_getElem hlt
      obtain ⟨g1, g2⟩ := sq.go i _ F H q.s0 q.sF hd'
      refine .inr ⟨g1, fun σ H => ∃ env' F L, Iv (i + 1) env' /\ Rel W { e with F0 := F1 } env' F σ H L, fun σ' H' p' => ⟨ds.length - (i + 1), by omega, rfl, hlt, p'⟩, fun x H' y => ?_⟩
      obtain ⟨F2, x2, sx⟩ := g2 x H' y
      refine hs i _ env' hd' hI { e with F0 := F1 } F2 σ H' L x _ hP (q.ext x2) sx fun env2 σ2 L2 k2 q2 => k2 { e with F0 := F1 } F2 σ2 H' L2 _ hP q2 ?_
      exact ⟨fun e3 F3 σ3 H3 L3 w q3 => ⟨e3, F3, L3, w, q3⟩, fun d e3 F3 σ3 H3 L3 v M w q3 => s.rt d e3 F3 σ3 H3 L3 v M w (r1.leave q3), fun e3 F3 σ3 H3 L3 w q3 => s.nx e3 F3 σ3 H3 L3 w (r1.leave q3),
        fun e3 F3 σ3 H3 L3 w q3 => ⟨e3, F3, L3, w, q3⟩, fun x e3 F3 σ3 H3 L3 C dd w q3 => s.ex x e3 F3 σ3 H3 L3 C dd w (r1.leave q3)⟩
    · have e0 : i = ds.length := by omega
      subst e0
      exact .inl ⟨sq.stop F H q.s0 q.sF, s.nx _ _ _ _ _ (hd env' hI) (r1.leave q)⟩
def wipeE (env : Py.Env) : List Nat -> Py.Env
  | [] => env
  | v :: vs => (wipeE env vs).set v none
theorem Slots.kill {F H : Hp} {o : Option V} : ∀ {env : Py.Env} {σ : St} {L : List Addr} {i : Nat}, Slots W F H env σ L -> L.Nodup -> ∃ L', Slots W F H (env.set i none) (σ.set i o) L' /\ L'.Nodup /\ ∀ a ∈ L', a ∈ L
  | _, _, _, i, .nil, nd => ⟨[], by simpa using Slots.nil, nd, fun a h => h⟩
  | _, _, _, 0, .so (L := L1) (M := M1) h t, nd => ⟨M1, .no t, (List.nodup_append.mp nd).2.1, fun a h => List.mem_append_right _ h⟩
  | _, _, _, 0, .no (M := M1) t, nd => ⟨M1, .no t, nd, fun a h => h⟩
  | _, _, _, i + 1, .so (L := L1) (M := M1) h t, nd => by
    rw [List.nodup_append] at nd
    obtain ⟨n1, n2, n3⟩ := nd
    obtain ⟨L', s, nd', m⟩ := t.kill (i := i) (o := o) n2
    refine ⟨L1 ++ L', .so h s, ?_, fun a ha => ?_⟩
    · rw [List.nodup_append]
      exact ⟨n1, nd', fun a ha b hb => n3 a ha b (m b hb)⟩
    · rcases List.mem_append.mp ha with q | q
      · exact List.mem_append_left _ q
      · exact List.mem_append_right _ (m a q)
  | _, _, _, i + 1, .no (M := M1) t, nd => by
    obtain ⟨L', s, nd', m⟩ := t.kill (i := i) (o := o) nd
    exact ⟨L', .no s, nd', m⟩
theorem Rel.wipe {e : Ent} {F H : Hp} {σ : St} {L : List Addr} (r : Rel W e env F σ H L) (hp : e.pins = []) : ∀ vs : List Nat, ∃ L', Rel W e (wipeE env vs) F (L2.wipe σ vs) H L' /\ ∀ a ∈ L', a ∈ L
  | [] => ⟨L, r, fun _ h => h⟩
  | v :: vs => by
    obtain ⟨L1, r1, m1⟩ := r.wipe hp vs
    obtain ⟨L2, s, nd, m⟩ := r1.slots.kill (i := v) (o := none) r1.nd
    exact ⟨L2, ⟨r1.sF, s, nd, fun a h => r1.dj a (m a h), r1.s0, r1.nw, r1.fr, fun a h => r1.ln a (m a h), fun p hm => by rw [hp] at hm; cases hm⟩, fun a h => m1 a (m a h)⟩
theorem Rel.nopin {e : Ent} {F H : Hp} {σ : St} {L : List Addr} (r : Rel W e env F σ H L) : Rel W { e with pins := [] } env F σ H L := ⟨r.sF, r.slots, r.nd, r.dj, r.s0, r.nw, r.fr, r.ln, fun _ h => nomatch h⟩
theorem Rel.free {e : Ent} {F H : Hp} {σ : St} {L : List Addr} {p : Addr} {o : HO} (r : Rel W e env F σ H L) (h1 : p ∉ L) (h2 : F p = none) (h3 : p ∈ e.L0 \/ e.H0 p = none) : Rel W e env F σ (upd H p o) L where
  sF := fun b u hb => by rw [upd_ne (fun z => by rw [z, h2] at hb; cases hb)]; exact r.sF _ _ hb
  slots := r.slots.frame (Same.refl _) fun a m u hu => by rw [upd_ne (fun z => h1 (by rw [<- z]; exact m))]; exact hu
  nd := r.nd
  dj := r.dj
  s0 := r.s0
  nw := r.nw
  fr := fun a u m hu => by
    rw [upd_ne (fun z => ?_)]
    · exact r.fr a u m hu
    · subst z
      rcases h3 with q | q
      · exact m q
      · rw [q] at hu; cases hu
  ln := r.ln
  pin := r.pin
def GW (g : TG) (vs : List Nat) : Prop := ∀ (v : V) (σ : St) (H : Hp) (Q : St -> Hp -> Prop), g v σ H Q -> g v σ H fun σ2 H2 => wipe σ2 vs = wipe σ vs /\ Q σ2 H2
def GWs (g : TGs) (vs : List Nat) : Prop := ∀ (v : List V) (σ : St) (H : Hp) (Q : St -> Hp -> Prop), g v σ H Q -> g v σ H fun σ2 H2 => wipe σ2 vs = wipe σ vs /\ Q σ2 H2
theorem wipe_comm {n : Nat} {o : Option V} : ∀ (vs : List Nat) (σ : St), n ∉ vs -> wipe (σ.set n o) vs = (wipe σ vs).set n o
  | [], σ, _ => rfl
  | w :: ws, σ, hn => by
    unfold wipe
    rw [wipe_comm ws σ (fun z => hn (List.mem_cons_of_mem _ z)), List.set_comm _ _ (fun z => hn (by rw [z]; exact List.mem_cons_self ..))]
theorem wipe_set {σ : St} {n : Nat} {o : Option V} : ∀ {vs : List Nat}, n ∈ vs -> wipe (σ.set n o) vs = wipe σ vs
  | [], h => nomatch h
  | v :: vs, h => by
    unfold wipe
    by_cases hv : n ∈ vs
    · rw [wipe_set hv]
    · rcases List.mem_cons.mp h with z | z
      · subst z
        rw [wipe_comm vs σ hv, List.set_set]
      · exact absurd z hv
theorem wipe_wipe {σ : St} : ∀ {vs : List Nat}, wipe (wipe σ vs) vs = wipe σ vs
  | [] => rfl
  | v :: vs => by
    have e : wipe σ (v :: vs) = (wipe σ vs).set v none := rfl
    rw [e]
    show (wipe ((wipe σ vs).set v none) vs).set v none = _
    by_cases hv : v ∈ vs
    · rw [wipe_set hv, wipe_wipe]
    · rw [wipe_comm vs _ hv, wipe_wipe, List.set_set]
theorem gw_name {n : Nat} {vs : List Nat} (h : n ∈ vs) : GW (gName n) vs := fun v σ H Q q => ⟨wipe_set h, q⟩
theorem gws_nil {vs : List Nat} : GWs gNil vs := fun v σ H Q ⟨h, q⟩ => ⟨h, rfl, q⟩
theorem gw_tup {k : Nat} {gs : TGs} {vs : List Nat} (h : GWs gs vs) : GW (gTup W.K k gs) vs := fun v σ H Q ⟨a, xs, e1, e2, e3, q⟩ => ⟨a, xs, e1, e2, e3, h xs σ H Q q⟩
structure SeqP {T : Tbl} (W : Wd T) (J : It) (ds : List D) (F0 H0 : Hp) : Prop where
  go : ∀ (i : Nat) (d : D) (F H : Hp), Same F0 F -> Same H0 H -> Same F H -> ds[i]? = some d -> J.go i H /\ ∀ x H', J.yld i H x H' -> ∃ F', Ext F H F' H' /\ Shr W F' d x
  stop : ∀ (F H : Hp), Same F0 F -> Same H0 H -> Same F H -> J.stop ds.length H
def AIp {T : Tbl} (W : Wd T) (wi : TI) (env : Py.Env) (ds : List D) : Prop :=
  ∀ (e : Ent) (F : Hp) (σ : St) (H : Hp) (L : List Addr) (R : It -> Hp -> Prop), Rel W e env F σ H L -> (∀ J F' H', Ext F H F' H' -> SeqP W J ds F' H' -> R J H') -> wi σ H R
theorem AIt.p {wi : TI} (h : AIt W wi env ds) : AIp W wi env ds := fun e F σ H L R r q => h e F σ H L R r fun J F' H' x s => q J F' H' x ⟨fun i d F1 H1 a _ c e => s.go i d F1 H1 a c e, fun F1 H1 a _ c => s.stop F1 H1 a c⟩
theorem ae_lc {wi : TI} {g : TG} {tt : TT} {vs : List Nat} (h : AIp W wi env ds) (hg : GW g vs) (rs : Nat -> List D) (h0 : rs 0 = [])
    (hs : ∀ (i : Nat) (d : D), ds[i]? = some d -> AG W [] g d (wipeE env vs) fun e2 => ∃ b, AT W tt e2 b /\ (b = true -> ∃ y, AE W te e2 (rO W y) /\ rs (i + 1) = rs i ++ [y]) /\ (b = false -> rs (i + 1) = rs i))
    (hz : ∀ i, i <= ds.length -> (rs i).length < 1000000) : AE W (tLc wi g tt te vs) env (rO W (.olst (rs ds.length))) := fun e F σ H L Q r q =>
  h e F σ H L _ r fun J F1 H1 x1 sq => by
    intro Dl hD
    have r1 := (r.ext x1).nopin
    obtain ⟨Lw, rw', mw⟩ := r1.wipe rfl vs
    have hF1 : F1 Dl = none := x1.s.free hD
    have hH : H Dl = none := x1.h.free hD
    refine ⟨fun i m H' => m = ds.length - i /\ i <= ds.length /\ ∃ F' ws M, Ext F H F' H' /\ (Same F1 F' /\ Same H1 H') /\ Rel W { e with pins := [] } (wipeE env vs) F' (wipe σ vs) H' Lw /\ H' Dl = some (.lst ws) /\ F' Dl = none /\ Owns W F' H' (rs i) ws M /\ (Dl :: M).Nodup /\ ∀ a ∈ M, H a = none /\ F' a = none,
      ⟨ds.length, rfl, Nat.zero_le _, F1, [], [], ?_, ⟨Same.refl _, same_new hD⟩, ?_, upd_same, hF1, by rw [h0]; exact .nil, by simp, fun a h => nomatch h⟩, ?_⟩
    · exact x1.trans (.newH x1.s hD)
    · exact rw'.ext (.newH x1.s hD)
    rintro i m H' ⟨rfl, hi, F', ws, M, xE, s1, rr, hl, hFD, os, nd, hM⟩
    have hDL : Dl ∉ Lw := fun z => by
      obtain ⟨o, ho⟩ := rw'.slots.lives Dl z
      rw [hD] at ho; cases ho
    by_cases hlt : i < ds.length
    · have hd' : ds[i]? = some ds[i] := List.getElem?_eq_getElem hlt
      obtain ⟨g1, g2⟩ := sq.go i _ F' H' s1.1 s1.2 rr.sF hd'
      refine .inr ⟨g1, fun H'' => ∃ F' ws M, Ext F H F' H'' /\ (Same F1 F' /\ Same H1 H'') /\ Rel W { e with pins := [] } (wipeE env vs) F' (wipe σ vs) H'' Lw /\ H'' Dl = some (.lst ws) /\ F' Dl = none /\ Owns W F' H'' (rs (i + 1)) ws M /\ (Dl :: M).Nodup /\ ∀ a ∈ M, H a = none /\ F' a = none,
        fun H'' p' => ⟨ds.length - (i + 1), by omega, rfl, hlt, p'⟩, fun x H2 y => ?_⟩
      obtain ⟨F2, x2, sx⟩ := g2 x H2 y
      have rr2 := rr.ext x2
      have fin : ∀ {Fa Ha}, Ext F2 H2 Fa Ha -> Ext F H Fa Ha /\ (Same F1 Fa /\ Same H1 Ha) /\ Rel W { e with pins := [] } (wipeE env vs) Fa (wipe σ vs) Ha Lw /\ Ha Dl = some (.lst ws) /\ Fa Dl = none /\ Owns W Fa Ha (rs i) ws M /\ ∀ a ∈ M, H a = none /\ Fa a = none := fun {Fa Ha} xa => by
        have x3 := x2.trans xa
        have nn : ∀ a, (∃ o, H' a = some o) -> F' a = none -> Fa a = none := fun a ⟨o, ho⟩ hf => by
          cases z : Fa a with
          | none => rfl
          | some u =>
            rcases x3.n a u z with w | w
            · rw [hf] at w; cases w
            · rw [ho] at w; cases w
        exact ⟨xE.trans x3, ⟨s1.1.trans x3.f, s1.2.trans x3.h⟩, rr.ext x3, x3.h _ _ hl, nn Dl ⟨_, hl⟩ hFD, os.frame x3.f fun a _ o ho => x3.h _ _ ho, fun a ha => ⟨(hM a ha).1, nn a (os.lives a ha) (hM a ha).2⟩⟩
      have step := hg x (wipe σ vs) H2 _ (hs i _ hd' { e with pins := [] } F2 (wipe σ vs) H2 Lw x (fun σ2 H2 => tt σ2 H2 fun b H3 => if b = true then te σ2 H3 fun y H4 => ∃ acc, H4 Dl = some (.lst acc) /\ acc.length < sizeLine /\
          (fun H'' => ∃ F' ws M, Ext F H F' H'' /\ (Same F1 F' /\ Same H1 H'') /\ Rel W { e with pins := [] } (wipeE env vs) F' (wipe σ vs) H'' Lw /\ H'' Dl = some (.lst ws) /\ F' Dl = none /\ Owns W F' H'' (rs (i + 1)) ws M /\ (Dl :: M).Nodup /\ ∀ a ∈ M, H a = none /\ F' a = none) (upd H4 Dl (.lst (acc ++ [y]))) else
          (fun H'' => ∃ F' ws M, Ext F H F' H'' /\ (Same F1 F' /\ Same H1 H'') /\ Rel W { e with pins := [] } (wipeE env vs) F' (wipe σ vs) H'' Lw /\ H'' Dl = some (.lst ws) /\ F' Dl = none /\ Owns W F' H'' (rs (i + 1)) ws M /\ (Dl :: M).Nodup /\ ∀ a ∈ M, H a = none /\ F' a = none) H3) rfl rr2 sx fun env2 σ2 L2 k2 q2 => ?_)
      · rw [wipe_wipe] at step
        exact step
      obtain ⟨b, hb, hy, hn⟩ := k2
      refine hb _ F2 σ2 H2 L2 _ q2 fun F3 H3 x3 => ?_
      cases b with
      | false =>
        obtain ⟨a1, a2, a3, a4, a5, a6, a7⟩ := fin x3
        rw [hn rfl]
        exact ⟨F3, ws, M, a1, a2, a3, a4, a5, a6, nd, a7⟩
      | true =>
        obtain ⟨y, hte, hacc⟩ := hy rfl
        refine hte _ F3 σ2 H3 L2 _ (q2.ext x3) fun w F4 H4 x4 ⟨My, oy, ndy, ky⟩ => ?_
        obtain ⟨a1, a2, a3, a4, a5, a6, a7⟩ := fin (x3.trans x4)
        have hlen : (rs i).length < 1000000 := hz i hi
        refine ⟨ws, a4, by rw [<- a6.length]; exact Nat.lt_of_lt_of_le hlen (by decide), F4, ws ++ [w], M ++ My, ?_, ⟨a2.1, fun b u hb => by rw [upd_ne (fun z => by rw [z, hD] at hb; cases hb)]; exact a2.2 _ _ hb⟩, a3.free hDL a5 (rw'.h0 hD), upd_same, a5, ?_, ?_, ?_⟩
        · exact ⟨a1.f, fun b u hb => by rw [upd_ne (fun z => by rw [z, a5] at hb; cases hb)]; exact a1.s _ _ hb, fun b u hb => by rw [upd_ne (fun z => by rw [z, hH] at hb; cases hb)]; exact a1.h _ _ hb, a1.n⟩
        · have nD : ∀ b ∈ My, b ≠ Dl := fun b hb z => by
            have := (x2.trans x3).h _ _ hl
            rw [<- z, (ky b hb).1] at this; cases this
          rw [hacc]
          refine Owns.snoc (a6.frame (Same.refl _) fun b hb u hu => ?_) (oy.frame (Same.refl _) fun b hb u hu => ?_)
          · rw [upd_ne (fun z => (List.nodup_cons.mp nd).1 (by rw [<- z]; exact hb))]; exact hu
          · rw [upd_ne (nD b hb)]; exact hu
        · have fr : ∀ b ∈ My, b ∉ Dl :: M := fun b hb z => by
            have : ∃ o, H3 b = some o := by
              rcases List.mem_cons.mp z with z | z
              · exact ⟨_, by rw [z]; exact (x2.trans x3).h _ _ hl⟩
              · obtain ⟨o, ho⟩ := os.lives b z
                exact ⟨o, (x2.trans x3).h _ _ ho⟩
            obtain ⟨o, ho⟩ := this
            rw [(ky b hb).1] at ho; cases ho
          have : ((Dl :: M) ++ My).Nodup := by
            rw [List.nodup_append]
            exact ⟨nd, ndy, fun b hb c hc z => fr c hc (by rw [<- z]; exact hb)⟩
          exact this
        · intro b hb
          rcases List.mem_append.mp hb with z | z
          · exact a7 b z
          · exact ⟨(xE.trans (x2.trans x3)).h.free (ky b z).1, (ky b z).2⟩
    · have e0 : i = ds.length := by omega
      subst e0
      refine .inl ⟨sq.stop F' H' s1.1 s1.2 rr.sF, q _ F' H' xE ⟨Dl :: M, .olst hl os, nd, fun a ha => ?_⟩⟩
      rcases List.mem_cons.mp ha with z | z
      · subst z; exact ⟨hH, hFD⟩
      · exact hM a z
end
end Py
namespace Py
open PySem L2
inductive Kd where
  | fr | pl | vw
def isFlat : D -> Bool
  | .non | .bl _ | .int _ | .str _ | .cls _ => true
  | _ => false
section
variable {T : Tbl} {W : Wd T} {env : Py.Env} {t ta tb : TE} {d d1 d2 : D}
theorem Shr.flat {F F' : Hp} {d : D} {v : V} (h : Shr W F d v) (e : isFlat d = true) : Shr W F' d v := by
  cases h <;> first | (cases e; done) | exact .non | exact .bl | exact .int | exact .str | (apply Shr.cls; assumption)
theorem isSh_flat {d : D} (e : isFlat d = true) : isSh d = true := by cases d <;> first | rfl | cases e
def rP {T : Tbl} (W : Wd T) (d : D) : Res := fun F H _ v => ∃ L, Own W F H d v L
def rK {T : Tbl} (W : Wd T) : Kd -> D -> Res
  | .fr, d => rO W d
  | .pl, d => rP W d
  | .vw, d => rV W d
theorem ite_some {α : Type} {c : Prop} [Decidable c] {a b : α} (h : (if c then some a else none) = some b) : c /\ a = b := by
  split at h
  · exact ⟨by assumption, Option.some.inj h⟩
  · cases h
theorem rK_view {F H H0 : Hp} {k : Kd} {v : V} (s : Same F H) (h : rK W k d F H H0 v) : Shr W H (fz d) v := by
  cases k with
  | fr => obtain ⟨L, o, _⟩ := h; exact o.view s fun _ _ _ z => z
  | pl => obtain ⟨L, o⟩ := h; exact o.view s fun _ _ _ z => z
  | vw => have h : Shr W H d v := h; rw [fz_shr h]; exact h
def basis (k : Kd) (F H : Hp) : Hp := match k with | .vw => H | _ => F
theorem basis_same {k : Kd} {F H : Hp} (s : Same F H) : Same (basis k F H) H := by cases k <;> first | exact s | exact Same.refl _
theorem rK_own {F H H0 : Hp} {k : Kd} {v : V} (h : rK W k d F H H0 v) : ∃ L, Own W (basis k F H) H d v L := by
  cases k with
  | fr => obtain ⟨L, o, _⟩ := h; exact ⟨L, o⟩
  | pl => exact h
  | vw => exact ⟨[], .sh h⟩
def Kd.of (k : Kd) (d : D) : Kd × D := match k with | .vw => (.vw, fz d) | _ => (.pl, d)
theorem rK_of {F H H0 : Hp} {k k' : Kd} {d' : D} {v : V} {L : List Addr} (s : Same F H) (h : Own W (basis k F H) H d v L) (e : k.of d = (k', d')) : rK W k' d' F H H0 v := by
  cases k with
  | fr => cases e; exact ⟨L, h⟩
  | pl => cases e; exact ⟨L, h⟩
  | vw => cases e; exact h.view (Same.refl _) fun _ _ _ z => z
theorem Ext.basis {k : Kd} {F H F' H' : Hp} (x : Ext F H F' H') : Same (basis k F H) (basis k F' H') := by
  cases k <;> first | exact x.f | exact x.h
theorem Own.ext {k : Kd} {F H F' H' : Hp} {v : V} {L : List Addr} (o : Own W (basis k F H) H d v L) (x : Ext F H F' H') : Own W (basis k F' H') H' d v L := o.frame x.basis fun a _ o q => x.h _ _ q
structure XP {T : Tbl} (W : Wd T) where
  t : TE
  ev : Py.Env -> Option (Kd × D)
  snd : ∀ {env k d}, ev env = some (k, d) -> AE W t env (rK W k d)
def toV : Option (Kd × D) -> Option D
  | some (_, d) => some (fz d)
  | none => none
def toK : Option (Kd × D) -> Option D
  | some (.vw, d) => if isFlat d then some d else none
  | some (_, d) => some d
  | none => none
def toF : Option (Kd × D) -> Option D
  | some (.fr, d) => some (fz d)
  | some (.pl, d) => if isSh d then some d else none
  | some (.vw, d) => if isFlat d then some d else none
  | none => none
def toO : Option (Kd × D) -> Option D
  | some (.fr, d) => some d
  | some (.pl, d) => if isSh d then some d else none
  | some (.vw, d) => if isFlat d then some d else none
  | none => none
def XP.evV (x : XP W) (env : Py.Env) : Option D := toV (x.ev env)
def XP.evK (x : XP W) (env : Py.Env) : Option D := toK (x.ev env)
def XP.evF (x : XP W) (env : Py.Env) : Option D := toF (x.ev env)
def XP.evO (x : XP W) (env : Py.Env) : Option D := toO (x.ev env)
theorem XP.sV (x : XP W) (h : x.evV env = some d) : AE W x.t env (rV W d) := by
  unfold XP.evV at h
  match e : x.ev env, h with
  | some (k, d0), h =>
    cases h
    exact (x.snd e).imp fun F H H0 v s q => rK_view s q
theorem XP.sK (x : XP W) (h : x.evK env = some d) : AE W x.t env (rP W d) := by
  unfold XP.evK at h
  match e : x.ev env, h with
  | some (.fr, d0), h => cases h; exact (x.snd e).imp fun F H H0 v s ⟨L, o, _⟩ => ⟨L, o⟩
  | some (.pl, d0), h => cases h; exact x.snd e
  | some (.vw, d0), h =>
    have h : (if isFlat d0 = true then some d0 else none) = some d := h
    split at h
    · cases h; exact (x.snd e).imp fun F H H0 v s q => ⟨[], .sh (Shr.flat q (by assumption))⟩
    · cases h
theorem XP.sF (x : XP W) (h : x.evF env = some d) : AE W x.t env (rF W d) := by
  unfold XP.evF at h
  match e : x.ev env, h with
  | some (.fr, d0), h => cases h; exact (AE.frz (d := d0) (x.snd e))
  | some (.pl, d0), h =>
    have h : (if isSh d0 = true then some d0 else none) = some d := h
    split at h
    · cases h; exact (x.snd e).imp fun F H H0 v s ⟨L, o⟩ => o.shr (by assumption)
    · cases h
  | some (.vw, d0), h =>
    have h : (if isFlat d0 = true then some d0 else none) = some d := h
    split at h
    · cases h; exact (x.snd e).imp fun F H H0 v s q => (Shr.flat q (by assumption))
    · cases h
theorem XP.sO (x : XP W) (h : x.evO env = some d) : AE W x.t env (rO W d) := by
  unfold XP.evO at h
  match e : x.ev env, h with
  | some (.fr, d0), h => cases h; exact x.snd e
  | some (.pl, d0), h =>
    have h : (if isSh d0 = true then some d0 else none) = some d := h
    split at h
    · cases h; exact (x.snd e).imp fun F H H0 v s ⟨L, o⟩ => rO_sh (o.shr (by assumption))
    · cases h
  | some (.vw, d0), h =>
    have h : (if isFlat d0 = true then some d0 else none) = some d := h
    split at h
    · cases h; exact (x.snd e).imp fun F H H0 v s q => rO_sh (Shr.flat q (by assumption))
    · cases h
def getS (env : Py.Env) (i : Nat) : Option D := (env[i]?).join
theorem getS_some (h : getS env i = some d) : env[i]? = some (some d) := by
  unfold getS at h
  match e : env[i]?, h with
  | some (some x), h => cases h; rfl
def xVar {T : Tbl} (W : Wd T) (i : Nat) : XP W where
  t := tVar i
  ev env := (getS env i).map (Prod.mk .pl)
  snd := fun {env k d} h => by
    match e : getS env i, h with
    | some x, h =>
      cases h
      exact fun e' F σ H L Q r q => by
        obtain ⟨v, M, e1, o, _⟩ := slot_get r (getS_some e)
        exact ⟨v, e1, q v F H (.refl r.sF) ⟨M, o⟩⟩
def xC {T : Tbl} (W : Wd T) (v : V) (d : D) (h : ∀ F, Shr W F d v) : XP W where
  t := tC v
  ev _ := some (.fr, d)
  snd := fun e => by cases e; exact (ae_c h).own
def xInt {T : Tbl} (W : Wd T) (i : Int) : XP W := xC W (.int i) (.int i) fun _ => .int
def xBl {T : Tbl} (W : Wd T) (b : Bool) : XP W := xC W (.bl b) (.bl b) fun _ => .bl
def xNon {T : Tbl} (W : Wd T) : XP W := xC W .non .non fun _ => .non
def xOp (r : R2) (f : D -> D -> Option D) (h : ∀ {x y d}, f x y = some d -> Op2 W r x y d) (a b : XP W) : XP W where
  t := tOp r a.t b.t
  ev env := (a.evV env).bind fun x => (b.evV env).bind fun y => (f x y).map (Prod.mk .fr)
  snd := fun {env k d} e => by
    obtain ⟨x, e1, e⟩ := Option.bind_eq_some_iff.mp e
    obtain ⟨y, e2, e⟩ := Option.bind_eq_some_iff.mp e
    obtain ⟨z, e3, e⟩ := Option.map_eq_some_iff.mp e
    cases e
    exact ae_op2 (a.sV e1) (b.sV e2) (h e3)
def subD : D -> D -> Option D
  | .int i, .int j => some (.int (i - j))
  | _, _ => none
def xSub (a b : XP W) : XP W := xOp (rI0 fun i j => .int (i - j)) subD (fun {x y d} e => by
  cases x <;> cases y <;> first | (cases e; done) | (cases e; exact o2_i fun _ => .int)) a b
def b4000 : Nat := 2 ^ 4000
def mulOk (i j : Int) : Prop := (-18446744073709551616 < i /\ i < 18446744073709551616) \/ (-18446744073709551616 < j /\ j < 18446744073709551616) \/ (i.natAbs < b4000 /\ j.natAbs < b4000)
instance (i j : Int) : Decidable (mulOk i j) := by unfold mulOk; infer_instance
theorem mulOk_u {i j : Int} (h : mulOk i j) : CMulU i j := by
  rcases h with h | h | h
  · exact cmul_l h.1 h.2
  · exact cmul_r h.1 h.2
  · exact cmul_w h.1 h.2
def mulD : D -> D -> Option D
  | .int i, .int j => if mulOk i j then some (.int (i * j)) else none
  | _, _ => none
def xMul (a b : XP W) : XP W := xOp (rI CMulU fun i j => .int (i * j)) mulD (fun {x y d} e => by
  cases x <;> first | (cases e; done) | skip
  cases y <;> first | (cases e; done) | skip
  obtain ⟨hc, rfl⟩ := ite_some e
  exact o2_ic (mulOk_u hc) fun _ => .int) a b
def divOk (j : Int) : Prop := 0 < j /\ (j < 1073741824 \/ j.natAbs < b4000)
instance (j : Int) : Decidable (divOk j) := by unfold divOk; infer_instance
def divD : D -> D -> Option D
  | .int i, .int j => if divOk j then some (.int (i / j)) else none
  | _, _ => none
def xDiv (a b : XP W) : XP W := xOp (rI CDivU fun i j => .int (i / j)) divD (fun {x y d} e => by
  cases x <;> first | (cases e; done) | skip
  cases y <;> first | (cases e; done) | skip
  obtain ⟨⟨h0, h⟩, rfl⟩ := ite_some e
  refine o2_ic ?_ fun _ => .int
  rcases h with h | h
  · exact cdiv_s h0 h
  · exact cdiv_w h0 h) a b
def modD : D -> D -> Option D
  | .int i, .int j => if 0 < j then some (.int (i % j)) else none
  | _, _ => none
def xMod (a b : XP W) : XP W := xOp (rI (fun _ j => 0 < j) fun i j => .int (i % j)) modD (fun {x y d} e => by
  cases x <;> first | (cases e; done) | skip
  cases y <;> first | (cases e; done) | skip
  obtain ⟨hc, rfl⟩ := ite_some e
  exact o2_ic (hc) fun _ => .int) a b
def powOk (i j : Int) : Prop := 0 <= j /\ j <= 1000000 /\ i.natAbs < 18446744073709551616
instance (i j : Int) : Decidable (powOk i j) := by unfold powOk; infer_instance
def powD : D -> D -> Option D
  | .int i, .int j => if powOk i j then some (.int (i ^ j.toNat)) else none
  | _, _ => none
def xPow (a b : XP W) : XP W := xOp (rI CPow fun i j => .int (i ^ j.toNat)) powD (fun {x y d} e => by
  cases x <;> first | (cases e; done) | skip
  cases y <;> first | (cases e; done) | skip
  obtain ⟨hc, rfl⟩ := ite_some e
  exact o2_ic (⟨hc.1, hc.2.1, hc.2.2⟩) fun _ => .int) a b
def negD : D -> Option D
  | .int i => some (.int (-i))
  | _ => none
def xNeg (a : XP W) : XP W where
  t := tUn (rU fun i => .int (-i)) a.t
  ev env := match a.evV env with
    | some x => (negD x).map (Prod.mk .fr)
    | none => none
  snd := fun {env k d} e => by
    match e1 : a.evV env, e with
    | some x, e =>
      cases x <;> first | (cases e; done) | skip
      cases e
      exact (ae_u (g := fun i => .int (-i)) (a.sV e1) fun _ => .int).own
def seqOf : D -> Option (Bool × List D)
  | .lst xs => some (false, xs)
  | .olst xs => if xs.all isSh then some (false, xs) else none
  | .tup xs => some (true, xs)
  | .scr ns => some (false, ns.map .int)
  | _ => none
theorem shrs_ints {F : Hp} : ∀ ns : List Int, Shrs W F (ns.map D.int) (ns.map V.int)
  | [] => .nil
  | _ :: ns => .cons .int (shrs_ints ns)
theorem seqOf_ok {F H : Hp} {v : V} {L : List Addr} {b : Bool} {xs : List D} (s : Same F H) (o : Own W F H d v L) (h : seqOf d = some (b, xs)) :
    ∃ a vs, v = .ref a /\ Shrs W F xs vs /\ if b = true then SqT W.K H a vs else SqL W.K H a vs := by
  cases o with
  | sh y =>
    cases y <;> first | (cases h; done) | skip
    · cases h; exact ⟨_, _, rfl, shrs_ints _, s.seq (by assumption)⟩
    · cases h; exact ⟨_, _, rfl, by assumption, .of (s _ _ (by assumption))⟩
    · cases h; exact ⟨_, _, rfl, by assumption, .of (s _ _ (by assumption))⟩
  | olst ha hs =>
    obtain ⟨hc, e⟩ := ite_some h
    cases e
    exact ⟨_, _, rfl, hs.shrs hc, .of ha⟩
  | odic => cases h
  | odit => cases h
  | odig => cases h
  | olf => cases h
  | oins => cases h
def lstOf : D -> Option (List D)
  | .lst xs => some xs
  | .olst xs => if xs.all isSh then some xs else none
  | _ => none
theorem lstOf_ok {F H : Hp} {v : V} {L : List Addr} {xs : List D} (s : Same F H) (o : Own W F H d v L) (h : lstOf d = some xs) : ∃ a vs, v = .ref a /\ Shrs W F xs vs /\ H a = some (.lst vs) := by
  cases o with
  | sh y =>
    cases y <;> first | (cases h; done) | skip
    cases h; exact ⟨_, _, rfl, by assumption, s _ _ (by assumption)⟩
  | olst ha hs =>
    obtain ⟨hc, e⟩ := ite_some h
    cases e
    exact ⟨_, _, rfl, hs.shrs hc, ha⟩
  | odic => cases h
  | odit => cases h
  | odig => cases h
  | olf => cases h
  | oins => cases h
def addD (x y : D) : Option D := match x, y with
  | .int i, .int j => some (.int (i + j))
  | .tup xs, .tup ys => if xs ≠ [] /\ xs.length + ys.length <= 1000000 then some (.tup (xs ++ ys)) else none
  | x, y => match lstOf x, lstOf y with
    | some xs, some ys => if xs.length + ys.length <= 1000000 then some (.olst (xs ++ ys)) else none
    | _, _ => none
def xAdd (a b : XP W) : XP W where
  t := tOp (fun x y H Q => rI0 (fun i j => .int (i + j)) x y H Q \/ (fun x y H Q => rCat x y H Q \/ rCatT W.K x y H Q) x y H Q) a.t b.t
  ev env := (a.evK env).bind fun x => (b.evK env).bind fun y => (addD x y).map (Prod.mk .fr)
  snd := fun {env k d} e => by
    obtain ⟨x, e1, e⟩ := Option.bind_eq_some_iff.mp e
    obtain ⟨y, e2, e⟩ := Option.bind_eq_some_iff.mp e
    obtain ⟨z, e3, e⟩ := Option.map_eq_some_iff.mp e
    cases e
    intro e' F σ H L Q r q
    refine a.sK e1 e' F σ H L _ r fun v F1 H1 x1 ⟨L1, y1⟩ => b.sK e2 e' F1 σ H1 L _ (r.ext x1) fun u F2 H2 x2 ⟨L2, y2⟩ => ?_
    have y1 : Own W F2 H2 x v L1 := y1.frame x2.f fun a _ o q => x2.h _ _ q
    have lists : ∀ {xs ys}, lstOf x = some xs -> lstOf y = some ys -> xs.length + ys.length <= 1000000 -> d = .olst (xs ++ ys) -> (fun x y H Q => rI0 (fun i j => V.int (i + j)) x y H Q \/ (fun x y H Q => rCat x y H Q \/ rCatT W.K x y H Q) x y H Q) v u H2 Q := by
      intro xs ys h1 h2 hl hz
      obtain ⟨a, vs, rfl, sa, ha⟩ := lstOf_ok x2.s y1 h1
      obtain ⟨b, ws, rfl, sb, hb⟩ := lstOf_ok x2.s y2 h2
      subst hz
      exact .inr (.inl (o2L_cat hl F2 H2 a b vs ws Q x2.s ha sa hb sb fun w F3 H3 x3 y3 => q w F3 H3 ((x1.trans x2).trans x3) (rO_back (x1.h.trans x2.h) y3)))
    unfold addD at e3
    split at e3
    · cases e3
      cases y1.shr rfl; cases y2.shr rfl
      exact .inl ⟨_, _, rfl, rfl, q _ F2 H2 (x1.trans x2) (rO_sh .int)⟩
    · obtain ⟨⟨hn, hl⟩, rfl⟩ := ite_some e3
      cases y1.shr rfl with
      | tup ha sa =>
        cases y2.shr rfl with
        | tup hb sb =>
          have z1 := sa.length
          have z2 := sb.length
          refine .inr (.inr ⟨_, _, _, _, rfl, rfl, .of (x2.s _ _ ha), .of (x2.s _ _ hb), fun z => ?_, by rw [<- z1, <- z2]; exact Nat.le_trans hl (by decide), fun z => ?_, fun z p hp => ?_⟩)
          · subst z; exact hn (List.eq_nil_of_length_eq_zero z1)
          · subst z
            have z2 := List.eq_nil_of_length_eq_zero z2
            subst z2
            refine q _ F2 H2 (x1.trans x2) ?_
            rw [List.append_nil]
            exact rO_sh (.tup ha sa)
          · exact q _ _ _ ((x1.trans x2).trans (.new x2.s hp)) (rO_sh (.tup upd_same ((sa.append sb).mono (same_new (x2.s.free hp)))))
    · rename_i hx hy
      cases h1 : lstOf x with
      | none => rw [h1] at e3; cases e3
      | some xs =>
        cases h2 : lstOf y with
        | none => rw [h1, h2] at e3; cases e3
        | some ys =>
          rw [h1, h2] at e3
          obtain ⟨hl, rfl⟩ := ite_some e3
          exact lists h1 h2 hl rfl
mutual
def okD : Nat -> D -> Bool
  | _, .non | _, .bl _ | _, .int _ | _, .str _ => true
  | n + 1, .tup xs => okDs n xs
  | n + 1, .lst xs => okDs n xs
  | _, _ => false
def okDs : Nat -> List D -> Bool
  | _, [] => true
  | n, x :: xs => okD n x && okDs n xs
end
mutual
def eqB : D -> D -> Bool
  | .non, .non => true
  | .bl a, .bl b => decide (a = b)
  | .bl a, .int j => decide ((if a then 1 else 0) = j)
  | .int i, .bl b => decide (i = if b then 1 else 0)
  | .int i, .int j => decide (i = j)
  | .str x, .str y => decide (x = y)
  | .tup xs, .tup ys => eqBs xs ys
  | .lst xs, .lst ys => eqBs xs ys
  | _, _ => false
def eqBs : List D -> List D -> Bool
  | [], [] => true
  | x :: xs, y :: ys => eqB x y && eqBs xs ys
  | _, _ => false
end
theorem okDs_all (n : Nat) : ∀ xs : List D, okDs n xs = xs.all (okD n)
  | [] => by rw [okDs]; rfl
  | x :: xs => by rw [okDs, okDs_all n xs]; rfl
theorem strOk_so (x : String) : PyData.strOk (so x) = true := by
  unfold PyData.strOk so
  rw [Str.ofString_eq_toList]
  simp only [List.all_toArray, List.all_map, List.all_eq_true, Function.comp_apply, decide_eq_true_eq]
  intro c _
  have := c.valid
  rcases this with h | h
  · have : c.toNat < 55296 := h
    omega
  · exact h.2
mutual
theorem okD_pd : ∀ {n : Nat} {d : D}, okD n d = true -> ∃ p, pd d = some p /\ p.canLay0 = true /\ p.depth <= n
  | n, .non, _ => ⟨_, by rw [pd], by rw [PyData.canLay0], by simp [PyData.depth]⟩
  | n, .bl _, _ => ⟨_, by rw [pd], by rw [PyData.canLay0], by simp [PyData.depth]⟩
  | n, .int _, _ => ⟨_, by rw [pd], by rw [PyData.canLay0], by simp [PyData.depth]⟩
  | n, .str _, h => ⟨_, by rw [pd], by rw [PyData.canLay0]; exact strOk_so _, by simp [PyData.depth]⟩
  | n + 1, .tup xs, h => by
    rw [okD] at h
    obtain ⟨ps, h1, h2, h3⟩ := okDs_pd h
    exact ⟨.tuple ps, by rw [pd, h1]; rfl, by rw [PyData.canLay0]; exact h2, by rw [PyData.depth]; omega⟩
  | n + 1, .lst xs, h => by
    rw [okD] at h
    obtain ⟨ps, h1, h2, h3⟩ := okDs_pd h
    exact ⟨.list ps, by rw [pd, h1]; rfl, by rw [PyData.canLay0]; exact h2, by rw [PyData.depth]; omega⟩
  | _, .scr _, h => by simp [okD] at h
  | 0, .tup _, h => by simp [okD] at h
  | 0, .lst _, h => by simp [okD] at h
  | _, .cls _, h => by simp [okD] at h
  | _, .sei _, h => by simp [okD] at h
  | _, .dic _ _, h => by simp [okD] at h
  | _, .dit _ _, h => by simp [okD] at h
  | _, .dig _ _, h => by simp [okD] at h
  | _, .dlf _ _ _, h => by simp [okD] at h
  | _, .ins _ _ _, h => by simp [okD] at h
  | _, .olst _, h => by simp [okD] at h
  | _, .odic _ _, h => by simp [okD] at h
  | _, .odit _ _, h => by simp [okD] at h
  | _, .odig _ _, h => by simp [okD] at h
  | _, .olf _ _ _, h => by simp [okD] at h
  | _, .oins _ _ _, h => by simp [okD] at h
theorem okDs_pd : ∀ {n : Nat} {ds : List D}, okDs n ds = true -> ∃ ps, pds ds = some ps /\ PyData.canLayAll0 ps = true /\ PyData.depthAll ps <= n
  | n, [], _ => ⟨[], by rw [pds], by rw [PyData.canLayAll0], by simp [PyData.depthAll]⟩
  | n, d :: ds, h => by
    rw [okDs, Bool.and_eq_true] at h
    obtain ⟨p, h1, h2, h3⟩ := okD_pd h.1
    obtain ⟨ps, k1, k2, k3⟩ := okDs_pd h.2
    exact ⟨p :: ps, by rw [pds, h1, k1], by rw [PyData.canLayAll0, h2, k2]; rfl, by rw [PyData.depthAll]; omega⟩
end
theorem so_eq {x y : String} : (so x == so y) = decide (x = y) := by
  by_cases h : x = y
  · subst h; simp
  · rw [beq_eq_false_iff_ne.mpr fun z => h (so_inj z), decide_eq_false h]
mutual
theorem eqB_pd : ∀ (x : D) {y : D} {p q : PyData}, pd x = some p -> pd y = some q -> eqB x y = PyData.eqv p q
  | .tup xs, y, p, q, hx, hy => by
    rw [pd] at hx
    obtain ⟨ps, h1, rfl⟩ := Option.map_eq_some_iff.mp hx
    cases y <;> (simp only [pd, reduceCtorEq, Option.some.injEq, Option.map_eq_some_iff] at hy) <;> first | (obtain ⟨qs, h2, rfl⟩ := hy) | subst hy
    all_goals first | (simp only [eqB, PyData.eqv]; done) | (simp only [eqB, PyData.eqv]; exact eqBs_pd xs h1 h2)
  | .lst xs, y, p, q, hx, hy => by
    rw [pd] at hx
    obtain ⟨ps, h1, rfl⟩ := Option.map_eq_some_iff.mp hx
    cases y <;> (simp only [pd, reduceCtorEq, Option.some.injEq, Option.map_eq_some_iff] at hy) <;> first | (obtain ⟨qs, h2, rfl⟩ := hy) | subst hy
    all_goals first | (simp only [eqB, PyData.eqv]; done) | (simp only [eqB, PyData.eqv]; exact eqBs_pd xs h1 h2)
  | .non, y, p, q, hx, hy => by
    rw [pd] at hx; cases hx
    cases y <;> (simp only [pd, reduceCtorEq, Option.some.injEq, Option.map_eq_some_iff] at hy) <;> first | (obtain ⟨qs, h2, rfl⟩ := hy) | subst hy
    all_goals first | (simp only [eqB, PyData.eqv, so_eq]; done) | (simp only [eqB, PyData.eqv]; rw [Bool.eq_iff_iff]; simp; done)
  | .bl _, y, p, q, hx, hy => by
    rw [pd] at hx; cases hx
    cases y <;> (simp only [pd, reduceCtorEq, Option.some.injEq, Option.map_eq_some_iff] at hy) <;> first | (obtain ⟨qs, h2, rfl⟩ := hy) | subst hy
    all_goals first | (simp only [eqB, PyData.eqv, so_eq]; done) | (simp only [eqB, PyData.eqv]; rw [Bool.eq_iff_iff]; simp; done)
  | .int _, y, p, q, hx, hy => by
    rw [pd] at hx; cases hx
    cases y <;> (simp only [pd, reduceCtorEq, Option.some.injEq, Option.map_eq_some_iff] at hy) <;> first | (obtain ⟨qs, h2, rfl⟩ := hy) | subst hy
    all_goals first | (simp only [eqB, PyData.eqv, so_eq]; done) | (simp only [eqB, PyData.eqv]; rw [Bool.eq_iff_iff]; simp; done)
  | .str _, y, p, q, hx, hy => by
    rw [pd] at hx; cases hx
    cases y <;> (simp only [pd, reduceCtorEq, Option.some.injEq, Option.map_eq_some_iff] at hy) <;> first | (obtain ⟨qs, h2, rfl⟩ := hy) | subst hy
    all_goals first | (simp only [eqB, PyData.eqv, so_eq]; done) | (simp only [eqB, PyData.eqv]; rw [Bool.eq_iff_iff]; simp; done)
  | .cls _, y, p, q, hx, hy => by simp [pd] at hx
  | .sei _, y, p, q, hx, hy => by simp [pd] at hx
  | .scr _, y, p, q, hx, hy => by simp [pd] at hx
  | .dic _ _, y, p, q, hx, hy => by simp [pd] at hx
  | .dit _ _, y, p, q, hx, hy => by simp [pd] at hx
  | .dig _ _, y, p, q, hx, hy => by simp [pd] at hx
  | .dlf _ _ _, y, p, q, hx, hy => by simp [pd] at hx
  | .ins _ _ _, y, p, q, hx, hy => by simp [pd] at hx
  | .olst _, y, p, q, hx, hy => by simp [pd] at hx
  | .odic _ _, y, p, q, hx, hy => by simp [pd] at hx
  | .odit _ _, y, p, q, hx, hy => by simp [pd] at hx
  | .odig _ _, y, p, q, hx, hy => by simp [pd] at hx
  | .olf _ _ _, y, p, q, hx, hy => by simp [pd] at hx
  | .oins _ _ _, y, p, q, hx, hy => by simp [pd] at hx
theorem eqBs_pd : ∀ (xs : List D) {ys : List D} {ps qs : List PyData}, pds xs = some ps -> pds ys = some qs -> eqBs xs ys = PyData.eqvAll ps qs
  | [], ys, ps, qs, hx, hy => by
    rw [pds] at hx; cases hx
    cases ys with
    | nil => rw [pds] at hy; cases hy; simp [eqBs, PyData.eqvAll]
    | cons y ys =>
      rw [pds] at hy
      split at hy
      · cases hy; simp [eqBs, PyData.eqvAll]
      · cases hy
  | x :: xs, ys, ps, qs, hx, hy => by
    rw [pds] at hx
    split at hx
    · rename_i p ps' h1 h2
      cases hx
      cases ys with
      | nil => rw [pds] at hy; cases hy; simp [eqBs, PyData.eqvAll]
      | cons y ys =>
        rw [pds] at hy
        split at hy
        · rename_i q qs' k1 k2
          cases hy
          rw [eqBs, PyData.eqvAll, eqB_pd x h1 k1, eqBs_pd xs h2 k2]
        · cases hy
    · cases hx
end
def eqD (x y : D) : Option D := if okD 60 x = true /\ okD 60 y = true then some (.bl (eqB x y)) else none
def neD (x y : D) : Option D := if okD 60 x = true /\ okD 60 y = true then some (.bl (!eqB x y)) else none
theorem okD_sh {x : D} {p : PyData} (h1 : p.canLay0 = true) (h2 : p.depth <= 60) : SeqAt.shaped p = true := by
  unfold SeqAt.shaped
  rw [h1, decide_eq_true (by omega)]; rfl
def xEq (a b : XP W) : XP W := xOp (fun x y H Q => rEq x y H Q \/ rEqD W.K x y H Q) eqD (fun {x y d} e => by
  obtain ⟨⟨h1, h2⟩, rfl⟩ := ite_some e
  obtain ⟨p, p1, p2, p3⟩ := okD_pd h1
  obtain ⟨q, q1, q2, q3⟩ := okD_pd h2
  rw [eqB_pd x p1 q1]
  exact o2_r (o2_eqD p1 q1 (okD_sh (x := x) p2 p3) (okD_sh (x := y) q2 q3))) a b
def xNe (a b : XP W) : XP W := xOp (fun x y H Q => rNe x y H Q \/ rNeD W.K x y H Q) neD (fun {x y d} e => by
  obtain ⟨⟨h1, h2⟩, rfl⟩ := ite_some e
  obtain ⟨p, p1, p2, p3⟩ := okD_pd h1
  obtain ⟨q, q1, q2, q3⟩ := okD_pd h2
  rw [eqB_pd x p1 q1]
  exact o2_r (o2_neD p1 q1 (okD_sh (x := x) p2 p3) (okD_sh (x := y) q2 q3))) a b
def intsOf : List D -> Option (List Int)
  | [] => some []
  | .int i :: ds => (intsOf ds).map (i :: ·)
  | _ => none
theorem intsOf_map (ns : List Int) : intsOf (ns.map D.int) = some ns := by
  induction ns with
  | nil => rfl
  | cons n ns ih => rw [List.map_cons, intsOf, ih]; rfl
theorem intsOf_ok : ∀ {ds : List D} {ns : List Int}, intsOf ds = some ns -> ds = ns.map D.int
  | [], _, h => by cases h; rfl
  | .int i :: ds, ns, h => by
    obtain ⟨ms, h1, rfl⟩ := Option.map_eq_some_iff.mp h
    rw [intsOf_ok h1]; rfl
theorem shrs_int {F : Hp} : ∀ {ns : List Int} {vs : List V}, Shrs W F (ns.map D.int) vs -> vs = ns.map V.int
  | [], _, .nil => rfl
  | n :: ns, _, .cons h t => by cases h; rw [shrs_int t]; rfl
def cmpD (f : Int -> Int -> Bool) : D -> D -> Option D
  | .int i, .int j => some (.bl (f i j))
  | _, _ => none
def ltD : D -> D -> Option D
  | .int i, .int j => some (.bl (decide (i < j)))
  | .tup xs, .tup ys => (intsOf xs).bind fun ns => (intsOf ys).map fun ms => .bl (HT.lexLt ns ms)
  | _, _ => none
def xLt (a b : XP W) : XP W := xOp (fun x y H Q => rI0 (fun i j => .bl (decide (i < j))) x y H Q \/ rLtT W.K x y H Q) ltD (fun {x y d} e => by
  unfold ltD at e
  split at e
  · cases e; exact o2_l (o2_i fun _ => .bl)
  · obtain ⟨ns, h1, e⟩ := Option.bind_eq_some_iff.mp e
    obtain ⟨ms, h2, rfl⟩ := Option.map_eq_some_iff.mp e
    cases intsOf_ok h1
    cases intsOf_ok h2
    refine o2_r fun F H v1 v2 Q s a b q => ?_
    cases a with
    | tup ha sa =>
      cases b with
      | tup hb sb =>
        cases shrs_int sa
        cases shrs_int sb
        exact ⟨_, _, _, _, rfl, rfl, .of ha, .of hb, q _ F H (.refl s) (rO_sh .bl)⟩
  · cases e) a b
def xCmp (f : Int -> Int -> Bool) (a b : XP W) : XP W := xOp (rI0 fun i j => .bl (f i j)) (cmpD f) (fun {x y d} e => by
  unfold cmpD at e
  split at e
  · cases e; exact o2_i fun _ => .bl
  · cases e) a b
def xGt (a b : XP W) : XP W := xCmp (fun i j => decide (j < i)) a b
def xGe (a b : XP W) : XP W := xCmp (fun i j => decide (j <= i)) a b
def xIsN (a : XP W) : XP W where
  t := tOp (fun x y H Q => y = .non /\ Q (.bl (decide (x = .non))) H) a.t (tC .non)
  ev env := (a.evV env).map fun x => (.fr, .bl (isNon x))
  snd := fun {env k d} e => by
    obtain ⟨x, e1, e⟩ := Option.map_eq_some_iff.mp e
    cases e
    exact (ae_isN (a.sV e1)).own
def xNotN (a : XP W) : XP W where
  t := tOp (fun x y H Q => y = .non /\ Q (.bl (!decide (x = .non))) H) a.t (tC .non)
  ev env := (a.evV env).map fun x => (.fr, .bl (!isNon x))
  snd := fun {env k d} e => by
    obtain ⟨x, e1, e⟩ := Option.map_eq_some_iff.mp e
    cases e
    exact (ae_notN (a.sV e1)).own
def blD : D -> Option Bool
  | .bl b => some b
  | _ => none
theorem blD_ok {x : D} {b : Bool} (h : blD x = some b) : x = .bl b := by cases x <;> cases h; rfl
def XP.evB (a : XP W) (env : Py.Env) : Option Bool := (a.evV env).bind blD
theorem XP.sB (a : XP W) {b : Bool} (h : a.evB env = some b) : AE W a.t env (rV W (.bl b)) := by
  obtain ⟨x, e1, e⟩ := Option.bind_eq_some_iff.mp h
  cases blD_ok e
  exact a.sV e1
def andE (x : Option Bool) (y : Unit -> Option Bool) : Option Bool := match x with
  | some true => y ()
  | some false => some false
  | none => none
def orE (x : Option Bool) (y : Unit -> Option Bool) : Option Bool := match x with
  | some false => y ()
  | some true => some true
  | none => none
def xAnd (a b : XP W) : XP W where
  t := tAndV a.t b.t
  ev env := (andE (a.evB env) fun _ => b.evB env).map fun c => (.fr, .bl c)
  snd := fun {env k d} e => by
    obtain ⟨c, e1, e⟩ := Option.map_eq_some_iff.mp e
    cases e
    match ha : a.evB env, e1 with
    | some false, e1 => cases e1; exact (ae_andV (b := false) (a.sB ha) fun q => nomatch q).own
    | some true, e1 => exact (ae_andV (a.sB ha) fun q => b.sB e1).own
def xNot (a : XP W) : XP W where
  t := tNotV a.t
  ev env := (a.evB env).map fun c => (.fr, .bl (!c))
  snd := fun {env k d} e => by
    obtain ⟨c, e1, e⟩ := Option.map_eq_some_iff.mp e
    cases e
    exact (ae_notV (a.sB e1)).own
structure XT {T : Tbl} (W : Wd T) where
  t : TT
  ev : Py.Env -> Option Bool
  snd : ∀ {env b}, ev env = some b -> AT W t env b
def xtV (a : XP W) : XT W where
  t := tTest a.t
  ev env := a.evB env
  snd := fun e => at_test (a.sB e)
def truD : D -> Option Bool
  | .bl b => some b
  | .non => some false
  | .int i => some (decide (i ≠ 0))
  | .lst ds => some (!ds.isEmpty)
  | .tup ds => some (!ds.isEmpty)
  | _ => none
theorem isE {ds : List D} {vs : List V} {F : Hp} (b : Shrs W F ds vs) : (!ds.isEmpty) = !vs.isEmpty := by cases b <;> rfl
def xtTru (a : XP W) : XT W where
  t := fun σ H Q => a.t σ H fun x H' => ∃ k, TruV W.K x H' k /\ Q k H'
  ev env := (a.evV env).bind truD
  snd := fun {env b} e => by
    obtain ⟨x, e1, e⟩ := Option.bind_eq_some_iff.mp e
    intro e' F σ H L Q r q
    refine a.sV e1 e' F σ H L _ r fun v F1 H1 x1 y1 => ⟨b, ?_, q F1 H1 x1⟩
    cases y1 <;> first | (cases e; done) | (cases e; rfl) | skip
    · cases e
      show decide _ = (_ != 0)
      rw [Bool.eq_iff_iff]; simp
    · cases e; exact .inr (.inl ⟨_, .of (by assumption), isE (by assumption)⟩)
    · cases e; exact .inl ⟨_, .of (by assumption), isE (by assumption)⟩
def xtAnd (a b : XT W) : XT W where
  t := tAnd a.t b.t
  ev env := andE (a.ev env) fun _ => b.ev env
  snd := fun {env c} e => by
    match ha : a.ev env, e with
    | some false, e => cases e; exact at_and (b := false) (a.snd ha) fun q => nomatch q
    | some true, e => exact at_and (a.snd ha) fun q => b.snd e
def xtOr (a b : XT W) : XT W where
  t := tOr a.t b.t
  ev env := orE (a.ev env) fun _ => b.ev env
  snd := fun {env c} e => by
    match ha : a.ev env, e with
    | some true, e => cases e; exact at_or (b := false) (a.snd ha) fun q => nomatch q
    | some false, e => exact at_or (a.snd ha) fun q => b.snd e
def xtNot (a : XT W) : XT W where
  t := tNot a.t
  ev env := (a.ev env).map (!·)
  snd := fun {env c} e => by
    obtain ⟨b, e1, rfl⟩ := Option.map_eq_some_iff.mp e
    exact at_not (a.snd e1)
structure XA {T : Tbl} (W : Wd T) where
  t : TA
  evV : Py.Env -> Option (List D)
  evF : Py.Env -> Option (List D)
  sV : ∀ {env ds}, evV env = some ds -> AA W t env (rVs W ds)
  sF : ∀ {env ds}, evF env = some ds -> AA W t env (rFs W ds)
def xaNil {T : Tbl} (W : Wd T) : XA W where
  t := tNil
  evV _ := some []
  evF _ := some []
  sV := fun e => by cases e; exact aa_nilV
  sF := fun e => by cases e; exact aa_nil
def xaCons (a : XP W) (as : XA W) : XA W where
  t := tCons a.t as.t
  evV env := (a.evV env).bind fun x => (as.evV env).map (x :: ·)
  evF env := (a.evF env).bind fun x => (as.evF env).map (x :: ·)
  sV := fun {env ds} e => by
    obtain ⟨x, e1, e⟩ := Option.bind_eq_some_iff.mp e
    obtain ⟨xs, e2, rfl⟩ := Option.map_eq_some_iff.mp e
    exact aa_consV (a.sV e1) (as.sV e2)
  sF := fun {env ds} e => by
    obtain ⟨x, e1, e⟩ := Option.bind_eq_some_iff.mp e
    obtain ⟨xs, e2, rfl⟩ := Option.map_eq_some_iff.mp e
    exact aa_cons (a.sF e1) (as.sF e2)
def xTup (as : XA W) : XP W where
  t := tTup as.t
  ev env := (as.evF env).bind fun ds => if ds.length <= 1000000 then some (.fr, .tup ds) else none
  snd := fun {env k d} e => by
    obtain ⟨x, e1, e⟩ := Option.bind_eq_some_iff.mp e
    obtain ⟨h, e⟩ := ite_some e
    cases e
    exact (ae_tup (as.sF e1) h).own
def xLst (as : XA W) : XP W where
  t := tLst as.t
  ev env := (as.evF env).bind fun ds => if ds.length <= 1000000 then some (.fr, .olst ds) else none
  snd := fun {env k d} e => by
    obtain ⟨x, e1, e⟩ := Option.bind_eq_some_iff.mp e
    obtain ⟨h, e⟩ := ite_some e
    cases e
    exact ae_lst (as.sF e1) h
def xCb (r : List V -> Hp -> VK -> Prop) (f : List D -> Option D) (h : ∀ {ds d}, f ds = some d -> Cb W r ds d) (as : XA W) : XP W where
  t := tCB r as.t
  ev env := (as.evV env).bind fun ds => (f ds).map (Prod.mk .fr)
  snd := fun {env k d} e => by
    obtain ⟨x, e1, e⟩ := Option.bind_eq_some_iff.mp e
    obtain ⟨z, e2, e⟩ := Option.map_eq_some_iff.mp e
    cases e
    exact ae_cb (as.sV e1) (h e2)
def intD : List D -> Option D
  | [.int i] => some (.int i)
  | [.bl b] => some (.int (if b then 1 else 0))
  | _ => none
def xInt1 (as : XA W) : XP W := xCb (fun xs H Q => (∃ i, xs = [.int i] /\ Q (.int i) H) \/ ∃ k, xs = [.bl k] /\ Q (.int (if k then 1 else 0)) H) intD (fun {ds d} e => by
  unfold intD at e
  split at e
  · cases e; exact cb_int
  · cases e
    exact fun F H vs Q s a q => by
      cases a with
      | cons a b => cases b; cases a; exact .inr ⟨_, rfl, q _ F H (.refl s) (rO_sh .int)⟩
  · cases e) as
def absD : List D -> Option D
  | [.int i] => some (.int (if i < 0 then -i else i))
  | _ => none
def xAbs (as : XA W) : XP W := xCb (fun xs H Q => ∃ i, xs = [.int i] /\ Q (.int (if i < 0 then -i else i)) H) absD (fun {ds d} e => by
  unfold absD at e
  split at e
  · cases e; exact cb_abs
  · cases e) as
abbrev rLenA (K : PySem.W.Frag) : List V -> Hp -> VK -> Prop := fun xs H Q => (∃ p ys, xs = [.ref p] /\ (SqL K H p ys \/ SqT K H p ys) /\ Q (.int ys.length) H) \/ (∃ a kvs, xs = [V.ref a] /\ H a = some (.dK kvs) /\ Q (.int kvs.length) H)
def lenD : List D -> Option D
  | [.lst ds] => some (.int ds.length)
  | [.tup ds] => some (.int ds.length)
  | [.scr ns] => some (.int ns.length)
  | _ => none
theorem len_cb {ds : List D} {d : D} (e : lenD ds = some d) : Cb W (rLenA W.K) ds d := by
  unfold lenD at e
  split at e
  · cases e; exact cb_l cb_lenL
  · cases e; exact cb_l cb_lenT
  · cases e; exact cb_l cb_lenS
  · cases e
def itemsD : D -> Option (List D)
  | .lst xs => some xs
  | .olst xs => some xs
  | .tup xs => some xs
  | .scr ns => some (ns.map .int)
  | _ => none
def ixD (d y : D) : Option D := match y with
  | .int i => (itemsD d).bind fun xs => atI xs i
  | _ => none
theorem Owns.get {G H : Hp} : ∀ {ds : List D} {vs : List V} {L : List Addr} {i : Nat} {d : D}, Owns W G H ds vs L -> ds[i]? = some d -> ∃ v M, vs[i]? = some v /\ Own W G H d v M
  | _, _, _, _, _, .nil, e => by simp at e
  | _, _, _, 0, _, .cons h _, e => by simp at e; subst e; exact ⟨_, _, rfl, h⟩
  | _, _, _, i + 1, _, .cons _ t, e => Owns.get (i := i) t (by simpa using e)
theorem atI_own {G H : Hp} {ds : List D} {vs : List V} {L : List Addr} {i : Int} (h : Owns W G H ds vs L) (ha : atI ds i = some d) : ∃ v M, atI vs i = some v /\ Own W G H d v M := by
  unfold atI at ha ⊢
  rw [<- h.length]
  cases e : ixN ds.length i with
  | none => rw [e] at ha; cases ha
  | some j =>
    rw [e] at ha
    exact h.get ha
theorem ixD_ok {G H : Hp} {v : V} {L : List Addr} {i : Int} {x : D} (s : Same G H) (o : Own W G H d v L) (h : ixD d (.int i) = some x) : ∃ w M, Own W G H x w M /\ ∀ Q : VK, Q w H -> rIxU W.K v (.int i) H Q := by
  obtain ⟨xs, h1, h2⟩ := Option.bind_eq_some_iff.mp h
  cases o with
  | sh y =>
    cases y <;> first | (cases h1; done) | skip
    · cases h1
      obtain ⟨w, M, e1, e2⟩ := atI_own (Shrs.owns (H := H) (shrs_ints (W := W) (F := G) _)) h2
      exact ⟨w, M, e2, fun Q q => .inl ⟨_, _, i, w, rfl, rfl, s.seq (by assumption), e1, q⟩⟩
    · cases h1
      obtain ⟨w, M, e1, e2⟩ := atI_own (Shrs.owns (H := H) (by assumption)) h2
      exact ⟨w, M, e2, fun Q q => .inr ⟨_, _, i, w, rfl, rfl, .of (s _ _ (by assumption)), e1, q⟩⟩
    · cases h1
      obtain ⟨w, M, e1, e2⟩ := atI_own (Shrs.owns (H := H) (by assumption)) h2
      exact ⟨w, M, e2, fun Q q => .inl ⟨_, _, i, w, rfl, rfl, .of (s _ _ (by assumption)), e1, q⟩⟩
  | olst ha hs =>
    cases h1
    obtain ⟨w, M, e1, e2⟩ := atI_own hs h2
    exact ⟨w, M, e2, fun Q q => .inl ⟨_, _, i, w, rfl, rfl, .of ha, e1, q⟩⟩
  | odic => cases h1
  | odit => cases h1
  | odig => cases h1
  | olf => cases h1
  | oins => cases h1
def xIx (a b : XP W) : XP W where
  t := tOp (rIxU W.K) a.t b.t
  ev env := (a.ev env).bind fun p => (b.evV env).bind fun y => (ixD p.2 y).map p.1.of
  snd := fun {env k d} e => by
    obtain ⟨⟨k1, d1⟩, e1, e⟩ := Option.bind_eq_some_iff.mp e
    obtain ⟨y, e2, e⟩ := Option.bind_eq_some_iff.mp e
    obtain ⟨x, e3, e9⟩ := Option.map_eq_some_iff.mp e
    intro e' F σ H L Q r q
    refine a.snd e1 e' F σ H L _ r fun v F1 H1 x1 y1 => b.sV e2 e' F1 σ H1 L _ (r.ext x1) fun u F2 H2 x2 y2 => ?_
    obtain ⟨L1, o⟩ := rK_own y1
    have o2 := o.ext x2
    cases y <;> first | (cases e3; done) | skip
    cases y2
    obtain ⟨w, M, o3, c⟩ := ixD_ok (basis_same x2.s) o2 e3
    exact c _ (q w F2 H2 (x1.trans x2) (rK_of x2.s o3 e9))
def fldD (T : Tbl) (f : String) : D -> Option D
  | .ins c ns xs => if T.fOk c f = true then (pos f ns).bind fun j => xs[j]? else none
  | .oins c ns xs => if T.fOk c f = true then (pos f ns).bind fun j => xs[j]? else none
  | _ => none
theorem fldD_ok {G H : Hp} {v : V} {L : List Addr} {f : String} {x : D} (s : Same G H) (o : Own W G H d v L) (h : fldD T f d = some x) :
    ∃ a c dx fs w M, v = .ref a /\ H a = some (.ins (W.cA c) dx fs) /\ Cls W.K (W.cA c) /\ NoAttr W.K (W.cA c) (so f) /\ fs.lookup (so f) = some w /\ Own W G H x w M := by
  have gen : ∀ {c ns xs vs dx a M}, (if T.fOk c f = true then (pos f ns).bind fun j => xs[j]? else none) = some x -> H a = some (.ins (W.cA c) dx ((ns.map so).zip vs)) -> W.has c -> Owns W G H xs vs M ->
      ∃ a' c' dx fs w M, V.ref a = .ref a' /\ H a' = some (.ins (W.cA c') dx fs) /\ Cls W.K (W.cA c') /\ NoAttr W.K (W.cA c') (so f) /\ fs.lookup (so f) = some w /\ Own W G H x w M := by
    intro c ns xs vs dx a M e ha hc os
    split at e
    · rename_i hf
      obtain ⟨j, e1, e2⟩ := Option.bind_eq_some_iff.mp e
      obtain ⟨w, M', e3, o3⟩ := os.get e2
      exact ⟨a, c, dx, _, w, M', rfl, ha, W.cl c hc, W.na c f hc hf, (zip_lookup e1).trans e3, o3⟩
    · cases e
  cases o with
  | sh y =>
    cases y <;> first | (cases h; done) | skip
    exact gen h (s _ _ (by assumption)) (by assumption) (Shrs.owns (by assumption))
  | olst => cases h
  | odic => cases h
  | odit => cases h
  | odig => cases h
  | olf => cases h
  | oins ha hc hl hs => exact gen h ha hc hs
def xFld (a : XP W) (f : String) : XP W where
  t := tFld W.K a.t (so f)
  ev env := (a.ev env).bind fun p => (fldD T f p.2).map p.1.of
  snd := fun {env k d} e => by
    obtain ⟨⟨k1, d1⟩, e1, e⟩ := Option.bind_eq_some_iff.mp e
    obtain ⟨x, e3, e⟩ := Option.map_eq_some_iff.mp e
    intro e' F σ H L Q r q
    refine a.snd e1 e' F σ H L _ r fun v F1 H1 x1 y1 => ?_
    obtain ⟨L1, o⟩ := rK_own y1
    obtain ⟨a, c, dx, fs, w, M, rfl, h1, h2, h3, h4, h5⟩ := fldD_ok (basis_same x1.s) o e3
    exact ⟨a, _, dx, fs, w, rfl, h1, h2, h3, h4, q w F1 H1 x1 (rK_of x1.s h5 e)⟩
def xList (a : XP W) : XP W where
  t := tCB (fun xs H Q => ∃ p ys, xs = [.ref p] /\ (SqL W.K H p ys \/ SqT W.K H p ys) /\ ∀ l, H l = none -> Q (.ref l) (upd H l (.lst ys))) (tCons a.t tNil)
  ev env := (a.evK env).bind fun d => (seqOf d).map fun p => (.fr, .olst p.2)
  snd := fun {env k d} e => by
    obtain ⟨d1, e1, e⟩ := Option.bind_eq_some_iff.mp e
    obtain ⟨⟨b, xs⟩, e3, e⟩ := Option.map_eq_some_iff.mp e
    cases e
    intro e' F σ H L Q r q
    refine a.sK e1 e' F σ H L _ r fun v F1 H1 x1 ⟨L1, o⟩ => ?_
    obtain ⟨a, vs, rfl, sh, sq⟩ := seqOf_ok x1.s o e3
    refine ⟨a, vs, rfl, ?_, fun p hp => q _ F1 _ (x1.trans (.newH x1.s hp)) ⟨[p], .olst upd_same sh.owns, by simp, fun x m => by
      rw [List.mem_singleton.mp m]; exact ⟨x1.h.free hp, x1.s.free hp⟩⟩⟩
    cases b with
    | true => exact .inr sq
    | false => exact .inl sq
def tyD : D -> Option (Bool × String)
  | .non => some (false, "NoneType")
  | .bl _ => some (false, "bool")
  | .int _ => some (false, "int")
  | .str _ => some (false, "str")
  | .lst _ => some (false, "list")
  | .tup _ => some (false, "tuple")
  | .ins c _ _ => some (true, c)
  | _ => none
def isiB (a b : String) : Bool := a == b || (a == "bool" && b == "int")
def isi1 (T : Tbl) (t c : Bool × String) : Bool := match t, c with
  | (false, a), (false, b) => isiB a b
  | (false, _), (true, _) => false
  | (true, _), (false, _) => false
  | (true, c), (true, d) => T.sub c d
def clsOk (W : Wd T) (c : Bool × String) : Prop := if c.1 = true then W.has c.2 else c.2 ∈ ["int", "bool", "str", "list", "tuple", "dict"]
def clsT (W : Wd T) (c : Bool × String) : Value := if c.1 = true then .ref (W.cA c.2) else .type c.2
def clsV (W : Wd T) (c : Bool × String) : V := if c.1 = true then .ref (W.cA c.2) else .ty c.2
theorem clsV_ok (c : Bool × String) : ClsV (clsV W c) (clsT W c) := by
  obtain ⟨b, n⟩ := c
  cases b with
  | true => exact .own _
  | false => exact .ty _
theorem kitB_ok : ∀ a ∈ ["NoneType", "bool", "int", "str", "list", "tuple", "dict"], ∀ b ∈ ["int", "bool", "str", "list", "tuple", "dict"], kitB a b = some (isiB a b) := by decide +kernel
theorem tyD_ok {F H : Hp} {v : V} {t : Bool × String} (s : Same F H) (h : Shr W F d v) (e : tyD d = some t) : TyX W.K H v (clsT W t) /\ if t.1 = true then W.has t.2 else t.2 ∈ ["NoneType", "bool", "int", "str", "list", "tuple", "dict"] := by
  cases h with
  | non => cases e; exact ⟨.base .non, by simp⟩
  | bl => cases e; exact ⟨.base (.bl _), by simp⟩
  | int => cases e; exact ⟨.base (.int _), by simp⟩
  | str => cases e; exact ⟨.base (.str _), by simp⟩
  | lst h => cases e; exact ⟨.base (.lst (s _ _ h)), by simp⟩
  | tup h => cases e; exact ⟨.base (.tup (s _ _ h)), by simp⟩
  | dic => cases e
  | dit => cases e
  | ins h hc => cases e; exact ⟨.base (.ins (s _ _ h) (W.cl _ hc) (W.isT _ hc).1 (W.isT _ hc).2.1 (W.isT _ hc).2.2.1 (W.isT _ hc).2.2.2), hc⟩
  | scr => cases e
  | cls => cases e
  | sei => cases e
  | dig => cases e
  | dlf => cases e
theorem kit_isi {t c : Bool × String} (ht : if t.1 = true then W.has t.2 else t.2 ∈ ["NoneType", "bool", "int", "str", "list", "tuple", "dict"]) (hc : clsOk W c) : PySem.W.kitOne W.K (clsT W t) (clsT W c) = some (isi1 T t c) := by
  obtain ⟨b, n⟩ := t
  obtain ⟨b', n'⟩ := c
  cases b <;> cases b'
  · exact kit_ty (kitB_ok n ht n' hc)
  · exact W.isTO n n' ht hc
  · exact W.isOT n n' ht hc
  · exact W.isOO n n' ht hc
def xIsi (c : Bool × String) (a : XP W) : XP W where
  t := fun σ H Q => clsOk W c -> tCB (rIsi W.K) (tCons a.t (tCons (tC (clsV W c)) tNil)) σ H Q
  ev env := (a.evV env).bind fun x => (tyD x).map fun t => (.fr, .bl (isi1 T t c))
  snd := fun {env k d} e => by
    obtain ⟨x, e1, e⟩ := Option.bind_eq_some_iff.mp e
    obtain ⟨t, e2, e⟩ := Option.map_eq_some_iff.mp e
    cases e
    intro e' F σ H L Q r q hc
    refine a.sV e1 e' F σ H L _ r fun v F1 H1 x1 y1 => ?_
    obtain ⟨z1, z2⟩ := tyD_ok (Same.refl _) y1 e2
    exact ⟨_, _, _, _, _, rfl, clsV_ok c, z1, kit_isi z2 hc, q _ F1 H1 x1 (rO_sh .bl)⟩
def isiA (T : Tbl) (t : Bool × String) : List (Bool × String) -> Bool
  | [] => false
  | c :: cs => isi1 T t c || isiA T t cs
theorem kitAny_isi {t : Bool × String} (ht : if t.1 = true then W.has t.2 else t.2 ∈ ["NoneType", "bool", "int", "str", "list", "tuple", "dict"]) : ∀ {cs : List (Bool × String)}, (∀ c ∈ cs, clsOk W c) -> PySem.W.kitAny W.K (clsT W t) (cs.map (clsT W)) = some (isiA T t cs)
  | [], _ => rfl
  | c :: cs, h => by
    have h1 := kit_isi ht (h c (List.mem_cons_self ..))
    have h2 := kitAny_isi ht (cs := cs) fun x m => h x (List.mem_cons_of_mem _ m)
    exact kitAny_cons h1 (fun hb => by rw [h2, isiA, hb]; rfl) fun hb => by rw [isiA, hb]; rfl
theorem paired_cls : ∀ cs : List (Bool × String), Paired ClsV (cs.map (clsV W)) (cs.map (clsT W))
  | [] => .nil
  | c :: cs => .cons (clsV_ok c) (paired_cls cs)
def tCls {T : Tbl} (W : Wd T) : List (Bool × String) -> TA
  | [] => tNil
  | c :: cs => tCons (tC (clsV W c)) (tCls W cs)
theorem tCls_run : ∀ (cs : List (Bool × String)) (σ : St) (H : Hp) (Q : List V -> Hp -> Prop), Q (cs.map (clsV W)) H -> tCls W cs σ H Q
  | [], _, _, _, q => q
  | _ :: cs, σ, H, _, q => tCls_run cs σ H _ q
def xIsiT (cs : List (Bool × String)) (a : XP W) : XP W where
  t := fun σ H Q => (∀ c ∈ cs, clsOk W c) -> cs.length <= 100 -> tCB (rIsiT W.K) (tCons a.t (tCons (tTup (tCls W cs)) tNil)) σ H Q
  ev env := (a.evV env).bind fun x => (tyD x).map fun t => (.fr, .bl (isiA T t cs))
  snd := fun {env k d} e => by
    obtain ⟨x, e1, e⟩ := Option.bind_eq_some_iff.mp e
    obtain ⟨t, e2, e⟩ := Option.map_eq_some_iff.mp e
    cases e
    intro e' F σ H L Q r q hc hl
    refine a.sV e1 e' F σ H L _ r fun v F1 H1 x1 y1 => tCls_run cs σ H1 _ ⟨by rw [List.length_map]; exact Nat.le_trans hl (by decide), fun p hp => ?_⟩
    obtain ⟨z1, z2⟩ := tyD_ok (same_new hp) y1 e2
    exact ⟨_, _, _, _, _, _, rfl, upd_same, paired_cls cs, z1, kitAny_isi z2 hc, q _ F1 _ (x1.trans (.newH x1.s hp)) (rO_sh .bl)⟩
inductive Rz where
  | ok (d : D) (b : Option D) | exn (x : Exn) (b : Option D) | no
abbrev Sem := String -> List D -> Option Nat -> Rz
structure Post (F H : Hp) (L0 : List Addr) (F' H' : Hp) : Prop where
  f : Same F F'
  s : Same F' H'
  h : ∀ a o, a ∉ L0 -> H a = some o -> H' a = some o
  n : ∀ a o, F' a = some o -> F a = some o \/ H a = none \/ a ∈ L0
def bOwn {T : Tbl} (W : Wd T) (F H : Hp) (vs : List V) : Option Nat -> Option D -> List Addr -> Prop
  | some i, some d, M => ∃ v, vs[i]? = some v /\ Own W F H d v M
  | _, _, M => M = []
def spR {T : Tbl} (W : Wd T) (n : Nat) (φ : List D -> Option Nat -> Rz) (b : Option Nat) : Sp := fun vs H Q E => ∃ F args L0, Same F H /\ Owns W F H args vs L0 /\ L0.Nodup /\ (∀ a ∈ L0, F a = none) /\ args.length = n /\ φ args b ≠ .no /\
  (∀ d bd, φ args b = .ok d bd -> ∀ F' H' v M Mb, Post F H L0 F' H' -> Own W F' H' d v M -> bOwn W F' H' vs b bd Mb -> (M ++ Mb).Nodup -> (∀ a ∈ M ++ Mb, F' a = none /\ (a ∈ L0 \/ H a = none)) -> Q v H') /\
  (∀ x bd, φ args b = .exn x bd -> ∀ F' H' C dd Mb, Post F H L0 F' H' -> IsExn W F' x C dd -> bOwn W F' H' vs b bd Mb -> Mb.Nodup -> (∀ a ∈ Mb, F' a = none /\ (a ∈ L0 \/ H a = none)) -> E C dd H')
theorem spR_len {n : Nat} {φ : List D -> Option Nat -> Rz} {b : Option Nat} : ∀ vs H Q E, spR W n φ b vs H Q E -> vs.length = n := by
  rintro vs H Q E ⟨F, args, L0, _, hS, _, _, hl, _⟩
  rw [<- hS.length, hl]
theorem Post.ext {F H F' H' : Hp} (p : Post F H [] F' H') : Ext F H F' H' := ⟨p.f, p.s, fun a o h => p.h a o (by simp) h, fun a o h => (p.n a o h).elim .inl fun z => z.elim .inr fun q => nomatch q⟩
def Rz.toF : Rz -> Option (Kd × D)
  | .ok d _ => some (.fr, d)
  | _ => none
def Rz.toV : Rz -> Option (Kd × D)
  | .ok d _ => some (if isFlat d = true then (.fr, d) else (.vw, fz d))
  | _ => none
theorem Rz.toF_ok {r : Rz} {k : Kd} {d : D} (h : r.toF = some (k, d)) : k = .fr /\ ∃ b, r = .ok d b := by cases r <;> cases h; exact ⟨rfl, _, rfl⟩
theorem Rz.toV_ok {r : Rz} {k : Kd} {d : D} (h : r.toV = some (k, d)) : ∃ d0 b, r = .ok d0 b /\ ((isFlat d0 = true /\ k = .fr /\ d = d0) \/ (k = .vw /\ d = fz d0)) := by
  cases r with
  | exn => cases h
  | no => cases h
  | ok d0 b =>
    have e : some (if isFlat d0 = true then (Kd.fr, d0) else (.vw, fz d0)) = some (k, d) := h
    have e := Option.some.inj e
    split at e
    · cases e; exact ⟨_, _, rfl, .inl ⟨by assumption, rfl, rfl⟩⟩
    · cases e; exact ⟨_, _, rfl, .inr ⟨rfl, rfl⟩⟩
theorem callF {n : Nat} {φ : List D -> Option Nat -> Rz} {F H : Hp} {vs : List V} {args : List D} {Q : VK} {E : XK} {b : Option D} (s : Same F H) (h : Shrs W F args vs) (hl : args.length = n) (hφ : φ args none = .ok d b)
    (q : ∀ v F' H', Ext F H F' H' -> rO W d F' H' H v -> Q v H') : spR W n φ none vs H Q E := by
  refine ⟨F, args, [], s, h.owns, .nil, ?_, hl, ?_, fun d' bd e F' H' v M Mb p o ob nd k => ?_, fun x bd e => ?_⟩
  · exact fun a m => nomatch m
  · rw [hφ]; exact fun z => nomatch z
  rotate_left
  · rw [hφ] at e; cases e
  rw [hφ] at e; cases e
  have ob : Mb = [] := ob
  subst ob
  rw [List.append_nil] at nd k
  exact q v F' H' p.ext ⟨M, o, nd, fun a m => ⟨(k a m).2.elim (fun z => nomatch z) id, (k a m).1⟩⟩
theorem callV {n : Nat} {φ : List D -> Option Nat -> Rz} {F H : Hp} {vs : List V} {args : List D} {Q : VK} {E : XK} {b : Option D} (s : Same F H) (h : Shrs W H args vs) (hl : args.length = n) (hφ : φ args none = .ok d b)
    (q : ∀ v H', Ext F H F H' -> Shr W H' (fz d) v -> Q v H') : spR W n φ none vs H Q E :=
  callF (Same.refl H) h hl hφ fun v F' H' x ⟨L, o, _, _⟩ => q v H' ⟨Same.refl _, s.trans (x.f.trans x.s), x.h, fun _ _ z => .inl z⟩ (o.view x.s fun _ _ _ z => z)
def xCall (φ : List D -> Option Nat -> Rz) (n : Nat) (as : XA W) (dds : List D) (dvs : List V) (hd : ∀ F, Shrs W F dds dvs) : XP W where
  t := tCall (spR W n φ none) dvs E0 as.t
  ev env := match as.evF env with
    | some ds => if (ds ++ dds).length = n then (φ (ds ++ dds) none).toF else none
    | none => match as.evV env with
      | some ds => if (ds ++ dds).length = n then (φ (ds ++ dds) none).toV else none
      | none => none
  snd := fun {env k d} e => by
    match e1 : as.evF env, e with
    | some ds, e =>
      dsimp only at e
      split at e
      · rename_i hl
        obtain ⟨rfl, b, h⟩ := Rz.toF_ok e
        exact fun e' F σ H L Q r q => as.sF e1 e' F σ H L _ r fun vs F1 H1 x1 y1 => callF x1.s (y1.append (hd F1)) hl h fun v F2 H2 x2 y2 => q v F2 H2 (x1.trans x2) (rO_back x1.h y2)
      · cases e
    | none, e =>
      match e2 : as.evV env, e with
      | some ds, e =>
        dsimp only at e
        split at e
        · rename_i hl
          obtain ⟨d0, b, h, hk⟩ := Rz.toV_ok e
          refine fun e' F σ H L Q r q => as.sV e2 e' F σ H L _ r fun vs F1 H1 x1 y1 => callV x1.s (Shrs.append y1 (hd H1)) hl h fun v H2 x2 y2 => q v F1 H2 (x1.trans x2) ?_
          rcases hk with ⟨hf, rfl, rfl⟩ | ⟨rfl, rfl⟩
          · rw [fz_isSh (isSh_flat hf)] at y2
            exact rO_sh (y2.flat hf)
          · exact y2
        · cases e
structure XG {T : Tbl} (W : Wd T) where
  t : TG
  ev : List Nat -> D -> Py.Env -> Option Py.Env
  own : List Nat
  snd : ∀ {P d env env'}, ev P d env = some env' -> AG W P t d env (· = env')
  mono : ∀ {v : V} {σ : St} {H : Hp} {Q Q' : St -> Hp -> Prop}, (∀ σ H, Q σ H -> Q' σ H) -> t v σ H Q -> t v σ H Q'
  gw : ∀ {vs : List Nat}, (∀ i ∈ own, i ∈ vs) -> GW t vs
structure XGs {T : Tbl} (W : Wd T) where
  t : TGs
  ev : List Nat -> List D -> Py.Env -> Option Py.Env
  own : List Nat
  snd : ∀ {P d env env'}, ev P d env = some env' -> AGs W P t d env (· = env')
  mono : ∀ {v : List V} {σ : St} {H : Hp} {Q Q' : St -> Hp -> Prop}, (∀ σ H, Q σ H -> Q' σ H) -> t v σ H Q -> t v σ H Q'
  gw : ∀ {vs : List Nat}, (∀ i ∈ own, i ∈ vs) -> GWs t vs
def setS (P : List Nat) (i : Nat) (d : D) (env : Py.Env) : Option Py.Env := if i < env.length /\ i ∉ P then some (env.set i (some d)) else none
def xgN {T : Tbl} (W : Wd T) (i : Nat) : XG W where
  t := gName i
  ev P d env := setS P i d env
  own := [i]
  snd := fun {P d env env'} e => by
    obtain ⟨⟨h1, h2⟩, rfl⟩ := ite_some e
    exact ag_name (List.getElem?_eq_getElem h1) h2 rfl
  mono := fun h q => h _ _ q
  gw := fun h => gw_name (h i (List.mem_cons_self ..))
def xgsNil {T : Tbl} (W : Wd T) : XGs W where
  t := gNil
  ev P ds env := match ds with
    | [] => some env
    | _ :: _ => none
  own := []
  snd := fun {P ds env env'} e => by
    cases ds with
    | nil => cases e; exact ags_nil rfl
    | cons => cases e
  mono := fun h q => ⟨q.1, h _ _ q.2⟩
  gw := fun h => gws_nil
def xgsCons (g : XG W) (gs : XGs W) : XGs W where
  t := gCons g.t gs.t
  ev P ds env := match ds with
    | [] => none
    | d :: ds => (g.ev P d env).bind fun env => gs.ev P ds env
  own := g.own ++ gs.own
  snd := fun {P ds env env'} e => by
    cases ds with
    | nil => cases e
    | cons d ds =>
      obtain ⟨env1, e1, e2⟩ := Option.bind_eq_some_iff.mp e
      refine ags_cons fun e0 F σ H L v Q hP r s c => g.snd e1 e0 F σ H L v Q hP r s fun env2 σ2 L2 h r2 => ?_
      subst h
      exact c _ σ2 L2 (gs.snd e2) r2
  mono := fun h ⟨v, r, e, q⟩ => ⟨v, r, e, g.mono (fun _ _ q => gs.mono h q) q⟩
  gw := fun {vs} h v σ H Q ⟨x, r, e, q⟩ => ⟨x, r, e, g.mono (fun σ2 H2 ⟨w, q2⟩ => gs.mono (fun σ3 H3 ⟨w3, q3⟩ => ⟨w3.trans w, q3⟩) (gs.gw (fun i m => h i (List.mem_append_right _ m)) r σ2 H2 Q q2)) (g.gw (fun i m => h i (List.mem_append_left _ m)) x σ H _ q)⟩
def xgT (n : Nat) (gs : XGs W) : XG W where
  t := gTup W.K n gs.t
  ev P d env := match d with
    | .tup ds => if ds.length = n then gs.ev P ds env else none
    | _ => none
  own := gs.own
  snd := fun {P d env env'} e => by
    cases d <;> first | (cases e; done) | skip
    dsimp only at e
    split at e
    · exact ag_tup (by assumption) (gs.snd e)
    · cases e
  mono := fun h ⟨a, xs, e1, e2, e3, q⟩ => ⟨a, xs, e1, e2, e3, gs.mono h q⟩
  gw := fun h => gw_tup (gs.gw h)
structure XI {T : Tbl} (W : Wd T) where
  t : TI
  evF : Py.Env -> Option (List D)
  evP : Py.Env -> Option (List D)
  sF : ∀ {env ds}, evF env = some ds -> AIt W t env ds
  sP : ∀ {env ds}, evP env = some ds -> AIp W t env ds
theorem seq_sql {F0 : Hp} {a : Addr} {ds : List D} {vs : List V} (h : SqL W.K F0 a vs) (hs : Shrs W F0 ds vs) : Seq W (Itl W.K a) ds F0 where
  go := fun i d F H s1 s2 hd => by
    obtain ⟨v, hv, sv⟩ := hs.get hd
    refine ⟨⟨vs, v, (s1.trans s2).seq h, hv⟩, fun x H' y => ?_⟩
    obtain ⟨rfl, y⟩ := y
    have := y vs ((s1.trans s2).seq h)
    rw [hv] at this; cases this
    exact ⟨F, .refl s2, sv.mono s1⟩
  stop := fun F H s1 s2 => ⟨vs, (s1.trans s2).seq h, by rw [hs.length]; exact Nat.le_refl _⟩
theorem seqP_sql {F0 H0 : Hp} {a : Addr} {ds : List D} {vs : List V} (h : SqL W.K H0 a vs) (hs : Shrs W F0 ds vs) : SeqP W (Itl W.K a) ds F0 H0 where
  go := fun i d F H s1 s0 s2 hd => by
    obtain ⟨v, hv, sv⟩ := hs.get hd
    refine ⟨⟨vs, v, s0.seq h, hv⟩, fun x H' y => ?_⟩
    obtain ⟨rfl, y⟩ := y
    have := y vs (s0.seq h)
    rw [hv] at this; cases this
    exact ⟨F, .refl s2, sv.mono s1⟩
  stop := fun F H s1 s0 s2 => ⟨vs, s0.seq h, by rw [hs.length]; exact Nat.le_refl _⟩
theorem sameT {H H' : Hp} (e : Same H H') {a : Addr} {xs : List V} (h : SqT W.K H a xs) : SqT W.K H' a xs := by
  rcases h with (h | ⟨o, h⟩) | h
  · exact .inl (.inl (e _ _ h))
  · exact .inl (.inr ⟨o, e _ _ h⟩)
  · exact .inr h
theorem seqP_sqt {F0 H0 : Hp} {a : Addr} {ds : List D} {vs : List V} (h : SqT W.K H0 a vs) (hs : Shrs W F0 ds vs) : SeqP W (Itt W.K a) ds F0 H0 where
  go := fun i d F H s1 s0 s2 hd => by
    obtain ⟨v, hv, sv⟩ := hs.get hd
    refine ⟨⟨vs, v, sameT s0 h, hv⟩, fun x H' y => ?_⟩
    obtain ⟨rfl, y⟩ := y
    have := y vs (sameT s0 h)
    rw [hv] at this; cases this
    exact ⟨F, .refl s2, sv.mono s1⟩
  stop := fun F H s1 s0 s2 => ⟨vs, sameT s0 h, by rw [hs.length]; exact Nat.le_refl _⟩
def seqF : D -> Option (List D)
  | .lst xs => some xs
  | .tup xs => some xs
  | .scr ns => some (ns.map .int)
  | _ => none
def xiSeq (a : XP W) : XI W where
  t := iSeqU W.K a.t
  evF env := (a.evF env).bind seqF
  evP env := (a.evK env).bind fun d => (seqOf d).map (·.2)
  sF := fun {env ds} e => by
    obtain ⟨d, e1, e⟩ := Option.bind_eq_some_iff.mp e
    intro e' F σ H L R r q
    cases d <;> first | (cases e; done) | skip
    · cases e
      refine .inl (a.sF e1 e' F σ H L _ r fun v F1 H1 x1 y1 => ?_)
      cases y1 with
      | scr h => exact ⟨_, rfl, ⟨_, x1.s.seq h⟩, q _ F1 H1 x1 (seq_sql h (shrs_ints _))⟩
    · cases e; exact .inr (ait_tup (a.sF e1) e' F σ H L R r q)
    · cases e; exact .inl (ait_list (a.sF e1) e' F σ H L R r q)
  sP := fun {env ds} e => by
    obtain ⟨d, e1, e⟩ := Option.bind_eq_some_iff.mp e
    obtain ⟨⟨b, xs⟩, e2, rfl⟩ := Option.map_eq_some_iff.mp e
    intro e' F σ H L R r q
    cases b with
    | true =>
      refine .inr (a.sK e1 e' F σ H L _ r fun v F1 H1 x1 ⟨M, o⟩ => ?_)
      obtain ⟨a, vs, rfl, sh, sq⟩ := seqOf_ok x1.s o e2
      exact ⟨a, rfl, ⟨vs, sq⟩, q _ F1 H1 x1 (seqP_sqt sq sh)⟩
    | false =>
      refine .inl (a.sK e1 e' F σ H L _ r fun v F1 H1 x1 ⟨M, o⟩ => ?_)
      obtain ⟨a, vs, rfl, sh, sq⟩ := seqOf_ok x1.s o e2
      exact ⟨a, rfl, ⟨vs, sq⟩, q _ F1 H1 x1 (seqP_sql sq sh)⟩
def guardB {α : Type} (b : Bool) (x : Option α) : Option α := match b with
  | true => x
  | false => none
theorem guardB_some {α : Type} {b : Bool} {x : Option α} {y : α} (h : guardB b x = some y) : b = true /\ x = some y := by
  cases b with
  | true => exact ⟨rfl, h⟩
  | false => cases h
def rngOk (i : Int) : Bool := Nat.ble i.natAbs 1000000000000000000
theorem rngOk_ok {i : Int} (h : rngOk i = true) : -4611686018427387904 <= i /\ i < 4611686018427387904 := by
  have h : i.natAbs <= 1000000000000000000 := Nat.le_of_ble_eq_true h
  omega
def rng1D : List D -> Option (List D)
  | [.int n] => guardB (rngOk n) (some (rangeD 0 n.toNat))
  | _ => none
theorem rng1_ok {as : XA W} {env : Py.Env} {ds : List D} (e : (as.evV env).bind rng1D = some ds) : AIt W (iRng1 as.t) env ds := by
  obtain ⟨xs, e1, e⟩ := Option.bind_eq_some_iff.mp e
  unfold rng1D at e
  split at e
  · obtain ⟨h, e⟩ := guardB_some e
    cases e
    exact ait_range (as.sV e1) (rngOk_ok h)
  · cases e
def xiR1 (as : XA W) : XI W := ⟨iRng1 as.t, fun env => (as.evV env).bind rng1D, fun env => (as.evV env).bind rng1D, rng1_ok, fun e => (rng1_ok e).p⟩
def lstF : D -> Option (List D)
  | .lst xs => some xs
  | _ => none
theorem lstF_ok {d : D} {xs : List D} (h : lstF d = some xs) : d = .lst xs := by cases d <;> cases h; rfl
def xtYes {T : Tbl} (W : Wd T) : XT W := ⟨tYes, fun _ => some true, fun e => by cases e; exact at_yes⟩
def lc1 (g : XG W) (c : XT W) (x : XP W) (env : Py.Env) (d : D) : Option (List D) := (g.ev [] d env).bind fun e2 => (c.ev e2).bind fun b => if b = true then (x.evO e2).map fun y => [y] else some []
def lcL (f : D -> Option (List D)) : List D -> Option (List D)
  | [] => some []
  | d :: ds => (f d).bind fun y => (lcL f ds).map (y ++ ·)
theorem lcL_take {f : D -> Option (List D)} : ∀ {ds ys : List D}, lcL f ds = some ys -> ∃ rs : Nat -> List D, rs 0 = [] /\ rs ds.length = ys /\ (∀ (i : Nat) (d : D), ds[i]? = some d -> ∃ y, f d = some y /\ rs (i + 1) = rs i ++ y)
  | [], _, h => by cases h; exact ⟨fun _ => [], rfl, rfl, fun i d h => by simp at h⟩
  | d :: ds, ys, h => by
    obtain ⟨y, e1, h⟩ := Option.bind_eq_some_iff.mp h
    obtain ⟨zs, e2, rfl⟩ := Option.map_eq_some_iff.mp h
    obtain ⟨rs, r0, r1, r2⟩ := lcL_take e2
    refine ⟨fun i => match i with | 0 => [] | i + 1 => y ++ rs i, rfl, by rw [List.length_cons, <- r1], fun i d' hd => ?_⟩
    cases i with
    | zero =>
      simp at hd; subst hd
      exact ⟨y, e1, by simp [r0]⟩
    | succ i =>
      obtain ⟨z, h1, h2⟩ := r2 i d' (by simpa using hd)
      exact ⟨z, h1, by simp [h2]⟩
theorem lcL_pre {f : D -> Option (List D)} : ∀ {ds : List D} {rs : Nat -> List D}, (∀ d y, f d = some y -> y.length <= 1) -> rs 0 = [] -> (∀ (i : Nat) (d : D), ds[i]? = some d -> ∃ y, f d = some y /\ rs (i + 1) = rs i ++ y) -> ∀ i, i <= ds.length -> (rs i).length <= i
  | ds, rs, hf, r0, r2, 0, _ => by rw [r0]; exact Nat.le_refl _
  | ds, rs, hf, r0, r2, i + 1, h => by
    have ih := lcL_pre hf r0 r2 i (by omega)
    obtain ⟨y, e1, e2⟩ := r2 i ds[i] (List.getElem?_eq_getElem (by omega))
    have := hf _ _ e1
    rw [e2, List.length_append]
    omega
def xLc (it : XI W) (g : XG W) (c : XT W) (x : XP W) : XP W where
  t := tLc it.t g.t c.t x.t g.own
  ev env := (it.evP env).bind fun ds => if ds.length < 1000000 then (lcL (lc1 g c x (wipeE env g.own)) ds).map fun ys => (.fr, .olst ys) else none
  snd := fun {env k d} e => by
    obtain ⟨ds, e1, e⟩ := Option.bind_eq_some_iff.mp e
    split at e
    · rename_i hl
      obtain ⟨ys, e2, e⟩ := Option.map_eq_some_iff.mp e
      cases e
      obtain ⟨rs, r0, r1, r2⟩ := lcL_take e2
      have h1 : ∀ d y, lc1 g c x (wipeE env g.own) d = some y -> y.length <= 1 := fun d y h => by
        obtain ⟨e2, _, h⟩ := Option.bind_eq_some_iff.mp h
        obtain ⟨b, _, h⟩ := Option.bind_eq_some_iff.mp h
        split at h
        · obtain ⟨z, _, rfl⟩ := Option.map_eq_some_iff.mp h; simp
        · cases h; simp
      rw [<- r1]
      refine ae_lc (it.sP e1) (g.gw fun _ m => m) rs r0 (fun i d hd => ?_) fun i hi => ?_
      · obtain ⟨y, h, hr⟩ := r2 i d hd
        obtain ⟨env2, g1, h⟩ := Option.bind_eq_some_iff.mp h
        obtain ⟨b, c1, h⟩ := Option.bind_eq_some_iff.mp h
        intro e0 F σ H L v Q hP r s q
        refine g.snd g1 e0 F σ H L v Q hP r s fun env3 σ2 L2 z r3 => ?_
        subst z
        refine q _ σ2 L2 ⟨b, c.snd c1, fun hb => ?_, fun hb => ?_⟩ r3
        · subst hb
          obtain ⟨z, h8, rfl⟩ := Option.map_eq_some_iff.mp h
          exact ⟨z, x.sO h8, hr⟩
        · subst hb
          cases h
          rw [hr, List.append_nil]
      · have := lcL_pre h1 r0 r2 i hi
        omega
    · cases e
end
end Py
namespace Py
open PySem L2
section
variable {T : Tbl} {W : Wd T} {env : Py.Env} {d d0 d1 d2 : D} {P : List Nat} {E : WX} {A : AEnds}
theorem AS.weaken {t : TS} {A' : AEnds} (h : AS W P E t env A') (nx : ∀ e, A'.nx e -> A.nx e) (rt : ∀ d e, A'.rt d e -> A.rt d e) (bk : ∀ e, A'.bk e -> A.bk e) (ct : ∀ e, A'.ct e -> A.ct e) (ex : ∀ x e, A'.ex x e -> A.ex x e) : AS W P E t env A :=
  fun e F σ H L Dn hP r s => h e F σ H L Dn hP r ⟨fun _ _ _ _ _ a => s.nx _ _ _ _ _ (nx _ a), fun _ _ _ _ _ _ _ _ a => s.rt _ _ _ _ _ _ _ _ (rt _ _ a), fun _ _ _ _ _ a => s.bk _ _ _ _ _ (bk _ a), fun _ _ _ _ _ a => s.ct _ _ _ _ _ (ct _ a), fun _ _ _ _ _ _ _ _ a => s.ex _ _ _ _ _ _ _ _ (ex _ _ a)⟩
inductive RM where
  | ok (d : D) (env : Py.Env) | exn (x : Exn) (env : Py.Env) | no
def AMr {T : Tbl} (W : Wd T) (P : List Nat) (E : WX) (t : TE) (env : Py.Env) (r : RM) : Prop := r ≠ .no ->
  ∀ (e : Ent) (F : Hp) (σ : St) (H : Hp) (L : List Addr) (Q : VK), P = e.pins.map (·.1) -> Rel W e env F σ H L ->
    (∀ d env' v F' H' L' M, r = .ok d env' -> Rel W e env' F' σ H' L' -> Own W F' H' d v M -> (M ++ L').Nodup -> (∀ a ∈ M, F' a = none /\ (a ∈ e.L0 \/ e.H0 a = none)) -> Q v H') ->
    (∀ x env' F' H' L' C dd, r = .exn x env' -> Rel W e env' F' σ H' L' -> IsExn W F' x C dd -> E C dd σ H') -> t σ H Q
structure XM {T : Tbl} (W : Wd T) where
  t : WX -> TE
  ev : List Nat -> Py.Env -> RM
  snd : ∀ P E env, AMr W P E (t E) env (ev P env)
def RM.of (o : Option D) (env : Py.Env) : RM := match o with
  | some d => .ok d env
  | none => .no
theorem RM.of_ok {o : Option D} {env : Py.Env} (h : RM.of o env ≠ .no) : ∃ d, o = some d /\ RM.of o env = .ok d env := by
  cases o with
  | none => exact absurd rfl h
  | some d => exact ⟨d, rfl, rfl⟩
def xmP (p : XP W) : XM W where
  t _ := p.t
  ev _ env := RM.of (p.evO env) env
  snd := fun P E env hn e F σ H L Q hP r c _ => by
    obtain ⟨d, e1, e2⟩ := RM.of_ok hn
    exact p.sO e1 e F σ H L Q r fun v F' H' x ⟨M, o, nd, kk⟩ => c d env v F' H' L M e2 (r.ext x) o (nodup_new (H := H) r.nd nd r.slots.lives fun a m => (kk a m).1) fun a m => ⟨(kk a m).2, r.h0 (kk a m).1⟩
theorem Rel.freeze {e : Ent} {F H : Hp} {σ : St} {L : List Addr} {i : Nat} (r : Rel W e env F σ H L) (h : getS env i = some d) :
    ∃ v F' L', σ[i]? = some (some v) /\ Rel W e (env.set i (some (fz d))) F' σ H L' /\ Shr W F' (fz d) v := by
  obtain ⟨v, Li, Lr, e1, o, sl, nd, mem⟩ := r.slots.take r.nd (getS_some h)
  obtain ⟨F', s1, s2, nw, sh⟩ := Py.freeze r.sF o fun a ha => r.dj a ((mem a).mp (.inl ha))
  rw [List.nodup_append] at nd
  have hi : i < env.length := (List.getElem?_eq_some_iff.mp (getS_some h)).1
  have sl' := sl.frame (F' := F') (H' := H) s1 fun a _ o q => q
  obtain ⟨L', t1, t2, t3⟩ := sl'.put (i := i) (v := v) (Ld := []) (.sh sh) (by simpa using nd.2.1) (by simpa using hi)
  rw [List.set_set] at t1
  have hσ : σ.set i (some v) = σ := by
    apply List.ext_getElem?
    intro k
    by_cases hk : i = k
    · subst hk
      obtain ⟨hlt, _⟩ := List.getElem?_eq_some_iff.mp e1
      rw [List.getElem?_set_self hlt, e1]
    · rw [List.getElem?_set_ne hk]
  rw [hσ] at t1
  have inr : ∀ a ∈ L', a ∈ Lr := fun a ha => (t3 a ha).elim (fun z => nomatch z) id
  refine ⟨v, F', L', e1, ⟨s2, t1, t2, fun a ha => ?_, r.s0.trans s1, fun a o q => ?_, r.fr, fun a ha => r.ln a ((mem a).mp (.inr (inr a ha))), r.pin⟩, sh⟩
  · cases q : F' a with
    | none => rfl
    | some u =>
      rcases nw a u q with z | z
      · rw [r.dj a ((mem a).mp (.inr (inr a ha)))] at z; cases z
      · exact absurd rfl (nd.2.2 a z a (inr a ha))
  · rcases nw a o q with z | z
    · exact r.nw a o z
    · exact .inr ((r.ln a ((mem a).mp (.inl z))).elim .inr .inl)
def frzS (env : Py.Env) (i : Nat) : Py.Env := match getS env i with
  | some d => env.set i (some (fz d))
  | none => env
theorem Rel.frz1 {e : Ent} {F H : Hp} {σ : St} {L : List Addr} (r : Rel W e env F σ H L) (i : Nat) : ∃ F' L', Rel W e (frzS env i) F' σ H L' := by
  unfold frzS
  cases h : getS env i with
  | none => exact ⟨F, L, r⟩
  | some d =>
    obtain ⟨_, F', L', _, r', _⟩ := r.freeze h
    exact ⟨F', L', r'⟩
theorem Rel.frzs {e : Ent} {H : Hp} {σ : St} : ∀ (is : List Nat) (env : Py.Env) (F : Hp) (L : List Addr), Rel W e env F σ H L -> ∃ F' L', Rel W e (is.foldl frzS env) F' σ H L'
  | [], _, _, _, r => ⟨_, _, r⟩
  | i :: is, env, F, L, r => by
    obtain ⟨F', L', r'⟩ := r.frz1 i
    exact Rel.frzs is _ F' L' r'
def xmVar {T : Tbl} (W : Wd T) (i : Nat) : XM W where
  t _ := tVar i
  ev _ env := match getS env i with
    | some d => .ok (fz d) (if isSh d = true then env else env.set i (some (fz d)))
    | none => .no
  snd := fun P E env hn e F σ H L Q hP r c _ => by
    match h : getS env i, hn, c with
    | some d, hn, c =>
      by_cases hs : isSh d = true
      · obtain ⟨v, M, e1, o, _⟩ := slot_get r (getS_some h)
        have sh := o.shr hs
        refine ⟨v, e1, c (fz d) env v F H L [] (by dsimp only; rw [if_pos hs]) r (by rw [fz_isSh hs]; exact .sh sh) (by simpa using r.nd) fun a m => nomatch m⟩
      · obtain ⟨v, F', L', e1, r', sh⟩ := r.freeze h
        exact ⟨v, e1, c (fz d) _ v F' H L' [] (by dsimp only; rw [if_neg hs]) r' (.sh sh) (by simpa using r'.nd) fun a m => nomatch m⟩
def xmMove {T : Tbl} (W : Wd T) (i : Nat) : XM W where
  t _ := tVar i
  ev _ env := match getS env i with
    | some d => .ok d (env.set i none)
    | none => .no
  snd := fun P E env hn e F σ H L Q hP r c _ => by
    match h : getS env i, hn, c with
    | some d, hn, c =>
      obtain ⟨v, Li, Lr, e1, o, sl, nd, mem⟩ := r.slots.take r.nd (getS_some h)
      exact ⟨v, e1, c d _ v F H Lr Li rfl ⟨r.sF, sl, (List.nodup_append.mp nd).2.1, fun a ha => r.dj a ((mem a).mp (.inr ha)), r.s0, r.nw, r.fr, fun a ha => r.ln a ((mem a).mp (.inr ha)), r.pin⟩ o nd fun a ha => ⟨r.dj a ((mem a).mp (.inl ha)), r.ln a ((mem a).mp (.inl ha))⟩⟩
structure XPl {T : Tbl} (W : Wd T) where
  t : TE
  root : Nat
  ev : Py.Env -> Option (List Pst × D)
  at_ : ∀ {env st n}, ev env = some (st, n) -> ∃ d0, env[root]? = some (some d0) /\ d0.at st = some n
  loc : ∀ {env st n}, ev env = some (st, n) -> ALoc W t env root st
def plVar {T : Tbl} (W : Wd T) (i : Nat) : XPl W where
  t := tVar i
  root := i
  ev env := (getS env i).map fun d => ([], d)
  at_ := fun {env st n} e => by
    obtain ⟨d, e1, e2⟩ := Option.map_eq_some_iff.mp e
    cases e2
    exact ⟨_, getS_some e1, rfl⟩
  loc := fun {env st n} e => by
    obtain ⟨d, e1, e2⟩ := Option.map_eq_some_iff.mp e
    cases e2
    exact loc_var
def rOs {T : Tbl} (W : Wd T) (ds : List D) : ResL := fun F H H0 vs => ∃ L, Owns W F H ds vs L /\ L.Nodup /\ ∀ a ∈ L, H0 a = none /\ F a = none
structure XO {T : Tbl} (W : Wd T) where
  t : TA
  ev : Py.Env -> Option (List D)
  snd : ∀ {env ds}, ev env = some ds -> AA W t env (rOs W ds)
def xoNil {T : Tbl} (W : Wd T) : XO W where
  t := tNil
  ev _ := some []
  snd := fun e => by cases e; exact fun e F σ H L Q r q => q [] F H (.refl r.sF) ⟨[], .nil, .nil, fun _ m => nomatch m⟩
def xoCons (a : XP W) (as : XO W) : XO W where
  t := tCons a.t as.t
  ev env := (a.evO env).bind fun x => (as.ev env).map (x :: ·)
  snd := fun {env ds} e => by
    obtain ⟨x, e1, e⟩ := Option.bind_eq_some_iff.mp e
    obtain ⟨xs, e2, rfl⟩ := Option.map_eq_some_iff.mp e
    intro e F σ H L Q r q
    refine a.sO e1 e F σ H L _ r fun v F1 H1 x1 ⟨M1, o1, n1, k1⟩ => as.snd e2 e F1 σ H1 L _ (r.ext x1) fun vs F2 H2 x2 ⟨M2, o2, n2, k2⟩ => ?_
    have nn : ∀ a ∈ M1, F2 a = none := fun a ha => by
      obtain ⟨u, hu⟩ := o1.lives a ha
      cases z : F2 a with
      | none => rfl
      | some w =>
        rcases x2.n a w z with y | y
        · rw [(k1 a ha).2] at y; cases y
        · rw [hu] at y; cases y
    refine q _ F2 H2 (x1.trans x2) ⟨M1 ++ M2, .cons (o1.frame x2.f fun a _ o q => x2.h _ _ q) o2, ?_, fun a ha => ?_⟩
    · rw [List.nodup_append]
      refine ⟨n1, n2, fun a ha b hb z => ?_⟩
      subst z
      obtain ⟨u, hu⟩ := o1.lives a ha
      rw [(k2 a hb).1] at hu; cases hu
    · rcases List.mem_append.mp ha with z | z
      · exact ⟨(k1 a z).1, nn a z⟩
      · exact ⟨x1.h.free (k2 a z).1, (k2 a z).2⟩
def Mop {T : Tbl} (W : Wd T) (r : V -> List V -> Hp -> VK -> Prop) (f : D -> List D -> Option (D × D)) : Prop :=
  ∀ {n : D} {ds : List D} {n' d : D}, f n ds = some (n', d) -> ∀ (F H : Hp) (vn : V) (Ln : List Addr) (vs : List V) (Ms : List Addr) (Q : VK), Same F H -> Own W F H n vn Ln -> Owns W F H ds vs Ms -> (Ms ++ Ln).Nodup -> (∀ a ∈ Ms ++ Ln, F a = none) ->
    (∀ F' H' v' Ln' M', Same F F' -> Same F' H' -> (∀ a o, a ∉ Ln -> H a = some o -> H' a = some o) -> (∀ a o, F' a = some o -> F a = some o \/ H a = none) -> Own W F' H' n' vn Ln' -> Own W F' H' d v' M' -> (M' ++ Ln').Nodup ->
      (∀ a ∈ M' ++ Ln', F' a = none /\ (a ∈ Ln \/ a ∈ Ms \/ H a = none)) -> Q v' H') -> r vn vs H Q
theorem am_mop {r : V -> List V -> Hp -> VK -> Prop} {f : D -> List D -> Option (D × D)} (hf : Mop W r f) {e : Ent} {F H : Hp} {σ : St} {L : List Addr} {i : Nat} {st : List Pst} {n n' d d0 : D} {v0 vn : V} {vs : List V} {ds : List D} {Ms : List Addr} {Q : VK}
    (rl : Rel W e env F σ H L) (h0 : env[i]? = some (some d0)) (h1 : d0.at st = some n) (hs : σ[i]? = some (some v0)) (hp : VPath H v0 st vn) (hz : f n ds = some (n', d)) (os : Owns W F H ds vs Ms) (nM : Ms.Nodup) (kM : ∀ a ∈ Ms, a ∉ L /\ F a = none /\ (a ∈ e.L0 \/ e.H0 a = none))
    (c : ∀ v F' H' L' M, Rel W e (env.set i (some (d0.putAt st n'))) F' σ H' L' -> Own W F' H' d v M -> (M ++ L').Nodup -> (∀ a ∈ M, F' a = none /\ (a ∈ e.L0 \/ e.H0 a = none)) -> Q v H') : r vn vs H Q := by
  obtain ⟨v0', vn', Ln, Lr, e1, p2, o, nd, mem, put⟩ := rl.focus h0 h1
  rw [hs] at e1; cases e1
  cases hp.det p2
  rw [List.nodup_append] at nd
  obtain ⟨n1, n2, n3⟩ := nd
  refine hf hz F H vn Ln vs Ms Q rl.sF o os ?_ (fun a ha => ?_) fun F' H' v' Ln' M' s1 s2 fr nw on od nd' k' => ?_
  · rw [List.nodup_append]
    exact ⟨nM, n1, fun a ha b hb z => (kM a ha).1 ((mem a).mp (.inl (z ▸ hb)))⟩
  · rcases List.mem_append.mp ha with z | z
    · exact (kM a z).2.1
    · exact rl.dj a ((mem a).mp (.inl z))
  have org : ∀ a, (a ∈ Ln \/ a ∈ Ms \/ H a = none) -> a ∉ Lr /\ (a ∈ e.L0 \/ e.H0 a = none) := fun a h => by
    rcases h with z | z | z
    · exact ⟨fun y => n3 a z a y rfl, rl.ln a ((mem a).mp (.inl z))⟩
    · exact ⟨fun y => (kM a z).1 ((mem a).mp (.inr y)), (kM a z).2.2⟩
    · refine ⟨fun y => ?_, rl.h0 z⟩
      obtain ⟨o, ho⟩ := rl.slots.lives a ((mem a).mp (.inr y))
      rw [z] at ho; cases ho
  rw [List.nodup_append] at nd'
  obtain ⟨m1, m2, m3⟩ := nd'
  obtain ⟨L', r', inL⟩ := put F' H' n' Ln' s1 s2 fr (fun a o q => (nw a o q).elim .inl fun z => .inr (.inl (.inl z))) on (by
    rw [List.nodup_append]
    exact ⟨m2, n2, fun a ha b hb z => (org a (k' a (List.mem_append_right _ ha)).2).1 (z ▸ hb)⟩) (fun a ha => ⟨(k' a (List.mem_append_right _ ha)).1, .inr (org a (k' a (List.mem_append_right _ ha)).2).2⟩)
  refine c v' F' H' L' M' r' od ?_ fun a ha => ⟨(k' a (List.mem_append_left _ ha)).1, (org a (k' a (List.mem_append_left _ ha)).2).2⟩
  rw [List.nodup_append]
  refine ⟨m1, r'.nd, fun a ha b hb z => ?_⟩
  subst z
  rcases inL a hb with y | y
  · exact m3 a ha a y rfl
  · exact (org a (k' a (List.mem_append_left _ ha)).2).1 y
end
end Py
namespace Py
open PySem L2
section
variable {T : Tbl} {W : Wd T} {env : Py.Env} {d d0 d1 d2 : D} {P : List Nat} {E : WX} {A : AEnds}
theorem Owns.append {F H : Hp} : ∀ {xs ys : List D} {vs ws : List V} {L M : List Addr}, Owns W F H xs vs L -> Owns W F H ys ws M -> Owns W F H (xs ++ ys) (vs ++ ws) (L ++ M)
  | _, _, _, _, _, _, .nil, o => o
  | _, _, _, _, _, M, .cons (L := L1) (M := M1) h t, o => by
    have q := Owns.cons h (t.append o)
    rw [<- List.append_assoc] at q
    exact q
theorem Owns.one {F H : Hp} {x : D} {vs : List V} {L : List Addr} (h : Owns W F H [x] vs L) : ∃ v, vs = [v] /\ Own W F H x v L := by
  cases h with
  | cons a b => cases b; rw [List.append_nil]; exact ⟨_, rfl, a⟩
theorem Owns.two {F H : Hp} {x y : D} {vs : List V} {L : List Addr} (h : Owns W F H [x, y] vs L) : ∃ v w L1 L2, vs = [v, w] /\ Own W F H x v L1 /\ Own W F H y w L2 /\ L = L1 ++ L2 := by
  cases h with
  | cons a b =>
    obtain ⟨w, rfl, c⟩ := b.one
    exact ⟨_, _, _, _, rfl, a, c, rfl⟩
theorem own_upd {F H : Hp} {a : Addr} {o : HO} {L : List Addr} {v : V} (h : Own W F H d v L) (n : a ∉ L) : Own W F (upd H a o) d v L := h.frame (Same.refl _) fun b hb u hu => by
  rw [upd_ne (fun z => n (by rw [<- z]; exact hb))]; exact hu
theorem owns_upd {F H : Hp} {a : Addr} {o : HO} {L : List Addr} {ds : List D} {vs : List V} (h : Owns W F H ds vs L) (n : a ∉ L) : Owns W F (upd H a o) ds vs L := h.frame (Same.refl _) fun b hb u hu => by
  rw [upd_ne (fun z => n (by rw [<- z]; exact hb))]; exact hu
theorem same_upd {F H : Hp} {a : Addr} {o : HO} (s : Same F H) (n : F a = none) : Same F (upd H a o) := fun b u hb => by
  rw [upd_ne (fun z => by rw [z, n] at hb; cases hb)]; exact s _ _ hb
theorem mop_list {F H : Hp} {a : Addr} {L : List Addr} {Ms : List Addr} {ys : List D} {ws : List V} {o : HO} {M' L2 : List Addr} {v' : V} {Q : VK} (s : Same F H) (nd : (Ms ++ (a :: L)).Nodup) (kF : ∀ b ∈ Ms ++ (a :: L), F b = none)
    (hl : o = .lst ws) (hs : Owns W F H ys ws L2) (od : Own W F H d v' M') (n2 : (M' ++ L2).Nodup) (sub : ∀ b ∈ M' ++ L2, b ∈ L \/ b ∈ Ms)
    (q : ∀ F' H' v' Ln' M', Same F F' -> Same F' H' -> (∀ b o, b ∉ a :: L -> H b = some o -> H' b = some o) -> (∀ b o, F' b = some o -> F b = some o \/ H b = none) -> Own W F' H' (.olst ys) (.ref a) Ln' -> Own W F' H' d v' M' -> (M' ++ Ln').Nodup ->
      (∀ b ∈ M' ++ Ln', F' b = none /\ (b ∈ a :: L \/ b ∈ Ms \/ H b = none)) -> Q v' H') : Q v' (upd H a o) := by
  subst hl
  rw [List.nodup_append] at nd
  obtain ⟨n3, n4, n5⟩ := nd
  rw [List.nodup_cons] at n4
  have na : ∀ b ∈ M' ++ L2, b ≠ a := fun b hb z => by
    subst z
    rcases sub _ hb with y | y
    · exact n4.1 y
    · exact n5 _ y _ (List.mem_cons_self ..) rfl
  have Fa : F a = none := kF a (List.mem_append_right _ (List.mem_cons_self ..))
  refine q F (upd H a (.lst ws)) v' (a :: L2) M' (Same.refl _) (same_upd s Fa) (fun b u hb hu => ?_) (fun b u hu => .inl hu) (.olst upd_same (owns_upd hs fun z => na a (List.mem_append_right _ z) rfl)) (own_upd od fun z => na a (List.mem_append_left _ z) rfl) ?_ (fun b hb => ?_)
  · rw [upd_ne (fun z => hb (by rw [z]; exact List.mem_cons_self ..))]; exact hu
  · rw [List.nodup_append] at n2 ⊢
    refine ⟨n2.1, List.nodup_cons.mpr ⟨fun z => na a (List.mem_append_right _ z) rfl, n2.2.1⟩, fun b hb c hc => ?_⟩
    rcases List.mem_cons.mp hc with z | z
    · rw [z]; exact na b (List.mem_append_left _ hb)
    · exact n2.2.2 b hb c z
  · rcases List.mem_append.mp hb with z | z
    · have := sub b (List.mem_append_left _ z)
      refine ⟨kF b ?_, ?_⟩
      · rcases this with y | y
        · exact List.mem_append_right _ (List.mem_cons_of_mem _ y)
        · exact List.mem_append_left _ y
      · rcases this with y | y
        · exact .inl (List.mem_cons_of_mem _ y)
        · exact .inr (.inl y)
    · rcases List.mem_cons.mp z with z | z
      · subst z; exact ⟨Fa, .inl (List.mem_cons_self ..)⟩
      · have := sub b (List.mem_append_right _ z)
        refine ⟨kF b ?_, ?_⟩
        · rcases this with y | y
          · exact List.mem_append_right _ (List.mem_cons_of_mem _ y)
          · exact List.mem_append_left _ y
        · rcases this with y | y
          · exact .inl (List.mem_cons_of_mem _ y)
          · exact .inr (.inl y)
theorem nd_swap {L M : List Addr} (h : (M ++ L).Nodup) : (L ++ M).Nodup := by
  rw [List.nodup_append] at h ⊢
  exact ⟨h.2.1, h.1, fun a ha b hb z => h.2.2 b hb a ha z.symm⟩
theorem nd_tail {a : Addr} {L M : List Addr} (h : (M ++ (a :: L)).Nodup) : (M ++ L).Nodup := by
  rw [List.nodup_append] at h ⊢
  exact ⟨h.1, (List.nodup_cons.mp h.2.1).2, fun b hb c hc => h.2.2 b hb c (List.mem_cons_of_mem _ hc)⟩
def appendD : D -> List D -> Option (D × D)
  | .olst xs, [d] => if xs.length < 1000000 then some (.olst (xs ++ [d]), .non) else none
  | _, _ => none
theorem mop_append : Mop W rAppend appendD := by
  intro n ds n' d hf F H vn Ln vs Ms Q s o os nd kF q
  unfold appendD at hf
  split at hf
  · obtain ⟨hz, e⟩ := ite_some hf
    cases e
    obtain ⟨u, rfl, o2⟩ := os.one
    cases o with
    | sh y => cases y
    | @olst a xs vs L ha hs =>
      refine ⟨a, vs, u, rfl, rfl, ha, by rw [<- hs.length]; exact Nat.lt_of_lt_of_le hz (by decide), ?_⟩
      exact mop_list s nd kF rfl (hs.append (.cons o2 .nil)) (.sh .non) (by simpa using nd_swap (nd_tail nd)) (fun b hb => by simpa using hb) q
  · cases hf
def reverseD : D -> List D -> Option (D × D)
  | .olst xs, [] => if xs.all isSh = true then some (.olst xs.reverse, .non) else none
  | _, _ => none
theorem Shrs.reverse {F : Hp} : ∀ {ds : List D} {vs : List V}, Shrs W F ds vs -> Shrs W F ds.reverse vs.reverse
  | _, _, .nil => .nil
  | _, _, .cons h t => by rw [List.reverse_cons, List.reverse_cons]; exact t.reverse.append (.cons h .nil)
theorem mop_reverse : Mop W rReverse reverseD := by
  intro n ds n' d hf F H vn Ln vs Ms Q s o os nd kF q
  unfold reverseD at hf
  split at hf
  · obtain ⟨hz, e⟩ := ite_some hf
    cases e
    cases os
    cases o with
    | sh y => cases y
    | @olst a _ vs L ha hs =>
      exact ⟨a, vs, rfl, rfl, ha, mop_list s nd kF rfl (hs.shrs hz).reverse.owns (.sh .non) (by simp) (fun b hb => by simp at hb) q⟩
  · cases hf
theorem Shrs.take {F : Hp} : ∀ {ds : List D} {vs : List V} (k : Nat), Shrs W F ds vs -> Shrs W F (ds.take k) (vs.take k)
  | _, _, 0, _ => .nil
  | _, _, k + 1, .nil => .nil
  | _, _, k + 1, .cons h t => .cons h (t.take k)
theorem Shrs.drop {F : Hp} : ∀ {ds : List D} {vs : List V} (k : Nat), Shrs W F ds vs -> Shrs W F (ds.drop k) (vs.drop k)
  | _, _, 0, h => h
  | _, _, k + 1, .nil => .nil
  | _, _, k + 1, .cons h t => t.drop k
def RM.ofO : Option (D × Py.Env) -> RM
  | some (d, env) => .ok d env
  | none => .no
theorem RM.ofO_ok {o : Option (D × Py.Env)} (h : RM.ofO o ≠ .no) : ∃ d env, o = some (d, env) := by
  match o, h with
  | some (d, env), _ => exact ⟨d, env, rfl⟩
  | none, h => exact absurd rfl h
def xmBM (r : V -> List V -> Hp -> VK -> Prop) (f : D -> List D -> Option (D × D)) (hf : Mop W r f) (hl : ∀ {n ds z}, f n ds = some z -> ∃ xs, n = .olst xs) (p : XPl W) (as : XO W) : XM W where
  t _ := tBM W.K "list" r p.t as.t
  ev _ env := RM.ofO ((p.ev env).bind fun q => (as.ev env).bind fun ds => (f q.2 ds).bind fun z => (getS env p.root).map fun d0 => (z.2, env.set p.root (some (d0.putAt q.1 z.1))))
  snd := fun P E env hn e F σ H L Q hP r c _ => by
    obtain ⟨d, env', h⟩ := RM.ofO_ok hn
    rw [h] at c
    obtain ⟨⟨st, n⟩, e1, h⟩ := Option.bind_eq_some_iff.mp h
    obtain ⟨ds, e2, h⟩ := Option.bind_eq_some_iff.mp h
    obtain ⟨⟨n', d'⟩, e3, h⟩ := Option.bind_eq_some_iff.mp h
    obtain ⟨d0', e4, h⟩ := Option.map_eq_some_iff.mp h
    cases h
    obtain ⟨d0, h0, h1⟩ := p.at_ e1
    rw [getS_some e4] at h0
    cases h0
    obtain ⟨v0, _, _, _, hs, _⟩ := r.focus (getS_some e4) h1
    refine p.loc e1 e F σ H L v0 _ r hs fun v F1 H1 x1 p1 => ?_
    have r1 := r.ext x1
    refine ⟨?_, as.snd e2 e F1 σ H1 L _ r1 fun vs F2 H2 x2 ⟨M2, o2, nd2, k2⟩ => ?_⟩
    · obtain ⟨v0', vn, Ln, Lr, e5, p2, o, _⟩ := r1.focus (getS_some e4) h1
      rw [hs] at e5; cases e5
      cases p1.det p2
      obtain ⟨xs, rfl⟩ := hl e3
      cases o with
      | sh y => cases y
      | olst ha _ => exact .inl ⟨rfl, _, .of ha⟩
    · refine am_mop hf (r1.ext x2) (getS_some e4) h1 hs (p1.mono x2.h) e3 o2 nd2 (fun a ha => ⟨fun z => ?_, (k2 a ha).2, r1.h0 (k2 a ha).1⟩) fun v F' H' L' M r' o nd kk => c _ _ v F' H' L' M rfl r' o nd kk
      obtain ⟨w, hw⟩ := r1.slots.lives a z
      rw [(k2 a ha).1] at hw; cases hw
def xmBM0 (r : V -> List V -> Hp -> VK -> Prop) (f : D -> List D -> Option (D × D)) (hf : Mop W r f) (hl : ∀ {n ds z}, f n ds = some z -> ∃ xs, n = .olst xs) (p : XPl W) : XM W where
  t _ := tBM0 W.K "list" r p.t
  ev := (xmBM r f hf hl p (xoNil W)).ev
  snd := fun P E env hn e F σ H L Q hP rl c cx => (xmBM r f hf hl p (xoNil W)).snd P E env hn e F σ H L Q hP rl c cx
theorem lf_append {n : D} {ds : List D} {z : D × D} (h : appendD n ds = some z) : ∃ xs, n = .olst xs := by unfold appendD at h; split at h <;> first | exact ⟨_, rfl⟩ | cases h
theorem lf_reverse {n : D} {ds : List D} {z : D × D} (h : reverseD n ds = some z) : ∃ xs, n = .olst xs := by unfold reverseD at h; split at h <;> first | exact ⟨_, rfl⟩ | cases h
def xmAppend (p : XPl W) (a : XP W) : XM W := xmBM rAppend appendD mop_append lf_append p (xoCons a (xoNil W))
def xmReverse (p : XPl W) : XM W := xmBM0 rReverse reverseD mop_reverse lf_reverse p
end
end Py
namespace Py
open PySem L2
inductive RS where
  | nx (env : Py.Env) | rt (d : D) (env : Py.Env) | bk (env : Py.Env) | ct (env : Py.Env) | ex (x : Exn) (env : Py.Env) | no
def ends (r : RS) : AEnds where
  nx e := r = .nx e
  rt d e := r = .rt d e
  bk e := r = .bk e
  ct e := r = .ct e
  ex x e := r = .ex x e
section
variable {T : Tbl} {W : Wd T} {env : Py.Env} {d d0 d1 d2 : D} {P : List Nat} {E : WX} {A : AEnds}
structure XS {T : Tbl} (W : Wd T) where
  t : WX -> TS
  ev : List Nat -> Py.Env -> RS
  snd : ∀ P E env, ev P env ≠ .no -> AS W P E (t E) env (ends (ev P env))
def RS.then (r : RS) (f : Py.Env -> RS) : RS := match r with
  | .nx e => f e
  | r => r
def xsSeq (s u : XS W) : XS W where
  t E := tSeq (s.t E) (u.t E)
  ev P env := (s.ev P env).then fun e => u.ev P e
  snd := fun P E env hn => by
    have hs := s.snd P E env
    match h : s.ev P env, hn, hs with
    | .nx e1, hn, hs =>
      refine as_seq ((hs (by simp)).weaken (fun e h2 => ?_) (fun d e h2 => nomatch h2) (fun e h2 => nomatch h2) (fun e h2 => nomatch h2) fun x e h2 => nomatch h2)
      cases h2
      exact u.snd P E e1 hn
    | .rt d e1, hn, hs => exact as_seq ((hs (by simp)).weaken (fun e h2 => nomatch h2) (fun d e h2 => h2) (fun e h2 => nomatch h2) (fun e h2 => nomatch h2) fun x e h2 => nomatch h2)
    | .bk e1, hn, hs => exact as_seq ((hs (by simp)).weaken (fun e h2 => nomatch h2) (fun d e h2 => nomatch h2) (fun e h2 => h2) (fun e h2 => nomatch h2) fun x e h2 => nomatch h2)
    | .ct e1, hn, hs => exact as_seq ((hs (by simp)).weaken (fun e h2 => nomatch h2) (fun d e h2 => nomatch h2) (fun e h2 => nomatch h2) (fun e h2 => h2) fun x e h2 => nomatch h2)
    | .ex x e1, hn, hs => exact as_seq ((hs (by simp)).weaken (fun e h2 => nomatch h2) (fun d e h2 => nomatch h2) (fun e h2 => nomatch h2) (fun e h2 => nomatch h2) fun x e h2 => h2)
    | .no, hn, hs => exact absurd rfl hn
def xsNext {T : Tbl} (W : Wd T) : XS W := ⟨fun _ => tNext, fun _ env => .nx env, fun _ _ _ _ => as_next rfl⟩
def xsNever {T : Tbl} (W : Wd T) : XS W := ⟨fun _ => tNever, fun _ _ => .no, fun _ _ _ h => absurd rfl h⟩
def RM.thenS (r : RM) (f : D -> Py.Env -> RS) : RS := match r with
  | .ok d e => f d e
  | .exn x e => .ex x e
  | .no => .no
theorem AMr.run {t : TE} {r : RM} (h : AMr W P E t env r) (hn : r ≠ .no) {e : Ent} {F H : Hp} {σ : St} {L : List Addr} {Q : VK} {Dn : Ends} (hP : P = e.pins.map (·.1)) (rl : Rel W e env F σ H L) (s : Sat W e E A Dn) (hx : ∀ x e1, r = .exn x e1 -> A.ex x e1)
    (c : ∀ d env' v F' H' L' M, r = .ok d env' -> Rel W e env' F' σ H' L' -> Own W F' H' d v M -> (M ++ L').Nodup -> (∀ a ∈ M, F' a = none /\ (a ∈ e.L0 \/ e.H0 a = none)) -> Q v H') : t σ H Q :=
  h hn e F σ H L Q hP rl c fun x env' F' H' L' C dd hr r' ie => s.ex x env' F' σ H' L' C dd (hx _ _ hr) r' ie
def RS.ofO : Option Py.Env -> RS
  | some e => .nx e
  | none => .no
def xsAsg (i : Nat) (m : XM W) : XS W where
  t E := tAsg (m.t E) (gName i)
  ev P env := (m.ev P env).thenS fun d e => RS.ofO (setS P i d e)
  snd := fun P E env hn e F σ H L Dn hP r s => by
    have hm : m.ev P env ≠ .no := fun z => hn (by rw [z]; rfl)
    refine (m.snd P E env).run hm hP r s (fun x e1 h => by rw [h]; rfl) fun d env' v F' H' L' M h r' o nd kk => ?_
    rw [h] at hn s
    have hn : RS.ofO (setS P i d env') ≠ .no := hn
    cases h2 : setS P i d env' with
    | none => rw [h2] at hn; exact absurd rfl hn
    | some e2 =>
      obtain ⟨⟨h3, h4⟩, rfl⟩ := ite_some h2
      obtain ⟨L2, r2⟩ := r'.set (i := i) o nd kk h3 fun p hm z => h4 (by rw [hP]; exact List.mem_map.mpr ⟨p, hm, z⟩)
      exact s.nx _ _ _ _ _ (show RS.ofO (setS P i d env') = .nx _ by rw [h2]; rfl) r2
def xsExpr (m : XM W) : XS W where
  t E := tDrop (m.t E)
  ev P env := (m.ev P env).thenS fun _ e => .nx e
  snd := fun P E env hn e F σ H L Dn hP r s => by
    have hm : m.ev P env ≠ .no := fun z => hn (by rw [z]; rfl)
    refine (m.snd P E env).run hm hP r s (fun x e1 h => by rw [h]; rfl) fun d env' v F' H' L' M h r' o nd kk => ?_
    rw [h] at s
    exact s.nx _ _ _ _ _ rfl r'
def xsRet (m : XM W) : XS W where
  t E := tRet (m.t E)
  ev P env := (m.ev P env).thenS fun d e => .rt d e
  snd := fun P E env hn e F σ H L Dn hP r s => by
    have hm : m.ev P env ≠ .no := fun z => hn (by rw [z]; rfl)
    refine (m.snd P E env).run hm hP r s (fun x e1 h => by rw [h]; rfl) fun d env' v F' H' L' M h r' o nd kk => ?_
    rw [h] at s
    exact s.rt _ _ _ _ _ _ _ _ rfl r' o nd kk
def iteR (b : Option Bool) (s u : RS) : RS := match b with
  | some true => s
  | some false => u
  | none => .no
def xsIf (c : XT W) (s u : XS W) : XS W where
  t E := tIfS c.t (s.t E) (u.t E)
  ev P env := iteR (c.ev env) (s.ev P env) (u.ev P env)
  snd := fun P E env hn => by
    match h : c.ev env, hn with
    | some true, hn => exact as_if (c.snd h) (fun _ => s.snd P E env hn) fun z => nomatch z
    | some false, hn => exact as_if (c.snd h) (fun z => nomatch z) fun _ => u.snd P E env hn
    | none, hn => exact absurd rfl hn
def xsFrz (is : List Nat) (s : XS W) : XS W where
  t := s.t
  ev P env := s.ev P (is.foldl frzS env)
  snd := fun P E env hn e F σ H L Dn hP r h => by
    obtain ⟨F', L', r'⟩ := Rel.frzs is env F L r
    exact s.snd P E _ hn e F' σ H L' Dn hP r' h
def forL (f : D -> Py.Env -> RS) : List D -> Py.Env -> RS
  | [], env => .nx env
  | d :: ds, env => match f d env with
    | .nx e => forL f ds e
    | .ct e => forL f ds e
    | .bk e => .nx e
    | r => r
def xsFor (it : XI W) (g : XG W) (b : XS W) : XS W where
  t E := tFor it.t g.t (b.t E)
  ev P env := match it.evF env with
    | some ds => forL (fun d e => match g.ev P d e with | some e2 => b.ev P e2 | none => .no) ds env
    | none => .no
  snd := fun P E env hn => by
    match h : it.evF env, hn with
    | some ds, hn =>
      have hn : forL (fun d e => match g.ev P d e with | some e2 => b.ev P e2 | none => .no) ds env ≠ .no := hn
      show AS W P E _ env (ends (forL (fun d e => match g.ev P d e with | some e2 => b.ev P e2 | none => .no) ds env))
      generalize hr : forL (fun d e => match g.ev P d e with | some e2 => b.ev P e2 | none => .no) ds env = r at hn ⊢
      refine as_for (it.sF h) (fun i e => forL (fun d e => match g.ev P d e with | some e2 => b.ev P e2 | none => .no) (ds.drop i) e = r) (by rw [List.drop_zero]; exact hr) (fun i d e' hd hi => ?_) fun e' he => ?_
      · rw [List.drop_eq_getElem?_toList_append, hd] at hi
        have hi : forL (fun d e => match g.ev P d e with | some e2 => b.ev P e2 | none => .no) (d :: ds.drop (i + 1)) e' = r := hi
        unfold forL at hi
        cases h1 : g.ev P d e' with
        | none => rw [h1] at hi; exact absurd hi.symm hn
        | some e2 =>
          rw [h1] at hi
          intro e0 F σ H L v Q hP rl sh q
          refine g.snd h1 e0 F σ H L v Q hP rl sh fun env3 σ2 L2 z r3 => q env3 σ2 L2 ?_ r3
          subst z
          have hb := b.snd P E env3
          dsimp only at hi
          match h2 : b.ev P env3, hb, hi with
          | .nx e3, hb, hi => exact (hb (by simp)).weaken (fun e h => by cases h; exact hi) (fun d e h => nomatch h) (fun e h => nomatch h) (fun e h => nomatch h) fun x e h => nomatch h
          | .ct e3, hb, hi => exact (hb (by simp)).weaken (fun e h => nomatch h) (fun d e h => nomatch h) (fun e h => nomatch h) (fun e h => by cases h; exact hi) fun x e h => nomatch h
          | .bk e3, hb, hi => exact (hb (by simp)).weaken (fun e h => nomatch h) (fun d e h => nomatch h) (fun e h => by cases h; exact hi.symm) (fun e h => nomatch h) fun x e h => nomatch h
          | .rt d3 e3, hb, hi => exact (hb (by simp)).weaken (fun e h => nomatch h) (fun d e h => by cases h; exact hi.symm) (fun e h => nomatch h) (fun e h => nomatch h) fun x e h => nomatch h
          | .ex x3 e3, hb, hi => exact (hb (by simp)).weaken (fun e h => nomatch h) (fun d e h => nomatch h) (fun e h => nomatch h) (fun e h => nomatch h) fun x e h => by cases h; exact hi.symm
          | .no, hb, hi => exact absurd hi.symm hn
      · rw [List.drop_length] at he
        exact he.symm
    | none, hn => exact absurd rfl hn
def env0 (N : Nat) (args : List D) : Py.Env := args.map some ++ List.replicate (N - args.length) none
def bGet (b : Option Nat) (env : Py.Env) : Option (Option D) := match b with
  | none => some none
  | some i => (getS env i).map some
def runR (b : Option Nat) (r : RS) : Rz := match r with
  | .rt d env => match bGet b env with
    | some x => .ok d x
    | none => .no
  | .nx env => match bGet b env with
    | some x => .ok .non x
    | none => .no
  | .ex x env => match bGet b env with
    | some y => .exn x y
    | none => .no
  | _ => .no
def runFn (N : Nat) (s : XS W) (args : List D) (b : Option Nat) : Rz := runR b (s.ev b.toList (env0 N args))
theorem slots_startO {F H : Hp} : ∀ {ds : List D} {vs : List V} {L : List Addr} (k : Nat), Owns W F H ds vs L -> Slots W F H (ds.map some ++ List.replicate k none) (vs.map some ++ List.replicate k none) L
  | [], [], _, 0, .nil => .nil
  | [], [], _, k + 1, .nil => .no (slots_startO k .nil)
  | _ :: _, _ :: _, _, k, .cons h t => Slots.so h (slots_startO k t)
theorem fn_run {n : Nat} {N : List Str} {s : XS W} {b : Option Nat} (hb : ∀ i, b = some i -> i < n) {vs : List V} {H : Hp} {Q : VK} {E : XK} (hsp : spR W n (runFn N.length s) b vs H Q E) :
    s.t (fun c d _ H => E c d H) { nx := fun _ H' => Q .non H', rt := Q } (L2.start N vs) H := by
  obtain ⟨F, args, L0, sF, os, nd, kF, hl, hn, ok, exn⟩ := hsp
  have hlen : vs.length = args.length := os.length.symm
  obtain ⟨pins, hp1, hp2⟩ : ∃ pins : List (Nat × V), b.toList = pins.map (·.1) /\ ∀ p ∈ pins, vs[p.1]? = some p.2 := by
    cases b with
    | none => exact ⟨[], rfl, fun _ h => nomatch h⟩
    | some i =>
      have hi : i < vs.length := by have := hb i rfl; omega
      exact ⟨[(i, vs[i])], rfl, fun p h => by rw [List.mem_singleton.mp h]; exact List.getElem?_eq_getElem hi⟩
  have hr : Rel W ⟨F, H, L0, pins⟩ (env0 N.length args) F (L2.start N vs) H L0 := {
    sF := sF
    slots := by unfold L2.start env0; rw [hlen]; exact slots_startO _ os
    nd := nd
    dj := kF
    s0 := Same.refl _
    nw := fun _ _ h => .inl h
    fr := fun _ _ _ h => h
    ln := fun _ m => .inl m
    pin := fun p m => by
      have h := hp2 p m
      have hlt := (List.getElem?_eq_some_iff.mp h).1
      unfold L2.start
      rw [List.getElem?_append_left (by rw [List.length_map]; exact hlt), List.getElem?_map, h]; rfl }
  have hne : s.ev b.toList (env0 N.length args) ≠ .no := fun z => hn (by unfold runFn; rw [z]; rfl)
  have post : ∀ {env' : Py.Env} {F' : Hp} {σ' : St} {H' : Hp} {L' : List Addr}, Rel W ⟨F, H, L0, pins⟩ env' F' σ' H' L' -> Post F H L0 F' H' := fun r =>
    ⟨r.s0, r.sF, r.fr, r.nw⟩
  have bor : ∀ {env' : Py.Env} {F' : Hp} {σ' : St} {H' : Hp} {L' : List Addr} {x : Option D}, bGet b env' = some x -> Rel W ⟨F, H, L0, pins⟩ env' F' σ' H' L' -> ∃ Mb, bOwn W F' H' vs b x Mb /\ Mb.Nodup /\ ∀ a ∈ Mb, a ∈ L' := by
    intro env' F' σ' H' L' x hx r
    cases b with
    | none => exact ⟨[], by cases hx; rfl, .nil, fun _ h => nomatch h⟩
    | some i =>
      obtain ⟨d, e1, e2⟩ := Option.map_eq_some_iff.mp hx
      subst e2
      obtain ⟨v, Li, Lr, h1, o, _, nd', mem⟩ := r.slots.take r.nd (getS_some e1)
      obtain ⟨v', hm⟩ : ∃ v', (i, v') ∈ pins := by
        have : i ∈ pins.map (·.1) := by rw [<- hp1]; simp
        obtain ⟨⟨j, v'⟩, h2, h3⟩ := List.mem_map.mp this
        cases h3; exact ⟨v', h2⟩
      have h4 := r.pin _ hm
      rw [h1] at h4
      cases h4
      exact ⟨Li, ⟨_, hp2 _ hm, o⟩, (List.nodup_append.mp nd').1, fun a h => (mem a).mp (.inl h)⟩
  have run := s.snd b.toList (fun c d _ H => E c d H) (env0 N.length args) hne ⟨F, H, L0, pins⟩ F (L2.start N vs) H L0 { nx := fun _ H' => Q .non H', rt := Q } hp1 hr
  have hn' : runR b (s.ev b.toList (env0 N.length args)) ≠ .no := hn
  have ok' : ∀ d bd, runR b (s.ev b.toList (env0 N.length args)) = .ok d bd -> _ := ok
  have exn' : ∀ x bd, runR b (s.ev b.toList (env0 N.length args)) = .exn x bd -> _ := exn
  generalize s.ev b.toList (env0 N.length args) = res at run hn' ok' exn'
  refine run ⟨fun env' F' σ' H' L' a r => ?_, fun d env' F' σ' H' L' v M a r o nd2 kk => ?_, fun env' F' σ' H' L' a r => ?_, fun env' F' σ' H' L' a r => ?_, fun x env' F' σ' H' L' C dd a r ie => ?_⟩
  · cases a
    cases hbg : bGet b env' with
    | none => exact absurd (show runR b (.nx env') = .no by unfold runR; simp only [hbg]) hn'
    | some x =>
      obtain ⟨Mb, ob, nb, sb⟩ := bor hbg r
      exact ok' .non x (by unfold runR; simp only [hbg]) F' H' .non [] Mb (post r) (.sh .non) ob (by simpa using nb) fun a ha => ⟨r.dj a (sb a (by simpa using ha)), r.ln a (sb a (by simpa using ha))⟩
  · cases a
    cases hbg : bGet b env' with
    | none => exact absurd (show runR b (.rt d env') = .no by unfold runR; simp only [hbg]) hn'
    | some x =>
      obtain ⟨Mb, ob, nb, sb⟩ := bor hbg r
      rw [List.nodup_append] at nd2
      refine ok' d x (by unfold runR; simp only [hbg]) F' H' v M Mb (post r) o ob ?_ fun a ha => ?_
      · rw [List.nodup_append]
        exact ⟨nd2.1, nb, fun a ha c hc => nd2.2.2 a ha c (sb c hc)⟩
      · rcases List.mem_append.mp ha with z | z
        · exact kk a z
        · exact ⟨r.dj a (sb a z), r.ln a (sb a z)⟩
  · cases a; exact absurd rfl hn'
  · cases a; exact absurd rfl hn'
  · cases a
    cases hbg : bGet b env' with
    | none => exact absurd (show runR b (.ex x env') = .no by unfold runR; simp only [hbg]) hn'
    | some y =>
      obtain ⟨Mb, ob, nb, sb⟩ := bor hbg r
      exact exn' x y (by unfold runR; simp only [hbg]) F' H' C dd Mb (post r) ie ob nb fun a ha => ⟨r.dj a (sb a ha), r.ln a (sb a ha)⟩
end
end Py
namespace L2
open PySem PySem.SeqAt PySem.W PySem.Calls PyProof.Rows
section
variable {A : Around} {s : Shared}
theorem call_tuple_lt' {prog : Program} {w : World} {E : Value -> Shared -> Prop} {Q : Value -> Shared -> Prop} {l b : Addr} {items items2 : Array Value} {e r : Nat -> Bool} (hl : s.heap.IsTuple l items) (hb : s.heap.IsTuple b items2)
    (he : ∀ j (h1 : j < items.size) (h2 : j < items2.size), EqAt A.in1 s items[j] items2[j] (e j)) (hr : ∀ j (h1 : j < items.size) (h2 : j < items2.size), e j = false -> RcLt A.in1 s items[j] items2[j] (r j))
    (h : Q (.bool (firstLt e r (decide (items.size < items2.size)) (List.range (min items.size items2.size)))) s) : wpAny (model prog w) A (call (.builtin "tuple.__lt__") [.ref l, .ref b]) Q E s := by
  obtain ⟨⟨cls, dd, data, sl⟩, ho, hc, n, hd⟩ := id hl
  obtain ⟨⟨cls2, dd2, data2, sl2⟩, ho2, hc2, n2, hd2⟩ := id hb
  simp only at hc hd hc2 hd2
  subst hc hd hc2 hd2
  exact call_meets F.slot_tuple_lt ⟨_, ho, rfl⟩ F.entry_tuple_lt (F.args_tuple_lt_2 _ _) (tuple_ltAt l b items items2 n n2 dd dd2 sl sl2 e r) ⟨ho, ho2, he, hr, h⟩
end
section
variable {prog : Program} {w : World} {A : Around} {E : Value -> Shared -> Prop} {s : Shared}
theorem oneLt_tuples {xs ys : List PyData} {a b : Value} {as bs : List Addr} {Q : Bool -> Shared -> Prop} (ra : Reads s.heap a (.tuple xs) as) (rb : Reads s.heap b (.tuple ys) bs) (h : alike (.tuple xs) (.tuple ys) = true)
    (hu : A.units + min (PyData.tuple xs).depth (PyData.tuple ys).depth < cLine) (hq : Q (dataLt (.tuple xs) (.tuple ys)) s) : wpAny (model prog w) A (oneLt' true a b) Q E s := by
  have hal : alikeAll xs ys = true := by simpa [alike] using h
  cases ra with
  | @tuple l o vs n _ as₁ h1 h2 h3 h4 =>
    cases rb with
    | @tuple l' o' vs' n' _ bs₁ k1 k2 k3 k4 =>
      have n1 : vs.size = xs.length := by simpa using ReadsAll.length _ _ _ h4
      have n2 : vs'.size = ys.length := by simpa using ReadsAll.length _ _ _ k4
      rw [dataLt_tuple, <- firstLt_toks xs ys hal, <- n1, <- n2] at hq
      rw [oneLt'_eq]
      simp only [if_true]
      refine wpAny_bind (wpAny_cRoomFor (room_here hu) ?_)
      refine wpAny_bind (wpAny_callSpecialIfBound?_slot (T := "tuple") ⟨_, h1, h2⟩ F.slot_tuple_lt (call_tuple_lt' (e := pairEq xs ys) (r := fun j => dataLt (xs.getD j .none) (ys.getD j .none)) ⟨_, h1, h2, _, h3⟩ ⟨_, k1, k2, _, k3⟩ (fun j j1 j2 => ?_) (fun j j1 j2 hj => ?_) ?_))
      · have := eqAt_alikeAll xs ys A.in1 s vs.toList vs'.toList _ _ h4 k4 hal (room_in hu) j (by simpa using j1) (by simpa using j2)
        simpa using this
      · have := rcLt_alikeAll xs ys A.in1 s vs.toList vs'.toList _ _ h4 k4 hal (room_in hu) j (by simpa using j1) (by simpa using j2) hj
        simpa using this
      · exact wpAny_truthy_bool hq
end
def KatT (h : Heap) : List Value -> List (Option Value) -> Prop
  | [], [] => True
  | v :: vs, f :: fs => (∃ a o xs n, v = .ref a /\ h.get? a = some o /\ o.cls = .type "tuple" /\ o.data = .seq xs n /\ xs[0]? = f) /\ KatT h vs fs
  | _, _ => False
section
variable {M : Model} {A : Around} {E : Value -> Shared -> Prop} {s : Shared}
theorem kat_firsts2 : ∀ (vs : List Value) (fs : List (Option Value)) {Q : List (Option Value) -> Shared -> Prop}, KatT s.heap vs fs -> Q fs s -> wpAny M A (vs.mapM firstOfTuple') Q E s
  | [], [], _, _, h => by rw [List.mapM_nil]; exact wpAny_pure h
  | [], _ :: _, _, t, _ => t.elim
  | _ :: _, [], _, t, _ => t.elim
  | v :: vs, f :: fs, Q, t, h => by
    obtain ⟨⟨a, o, xs, n, rfl, ho, hc, hd, hf⟩, t⟩ := t
    rw [List.mapM_cons]
    refine wpAny_bind ?_
    rw [kas_first_eq]
    refine wpAny_bind (Looks.here (show Looks M s.heap (typeOf (.ref a)) o.cls from (Looks.ld ho).andThen .now) ?_)
    rw [hc, if_neg (by first | decide | simp)]
    refine wpAny_bind (listItems_at ho hd (wpAny_pure ?_))
    rw [hf]
    exact wpAny_bind (kat_firsts2 vs fs (Q := fun bs s' => wpAny M A (pure (f :: bs)) Q E s') t (wpAny_pure h))
theorem kind_mixed {vs : List Value} {fs : List (Option Value)} {Q : SortKind -> Shared -> Prop} (t : KatT s.heap vs fs) (hn : none ∈ fs) (hT : ∀ v ∈ vs, Looks M s.heap (typeOf v) (Value.type "tuple"))
    (h : Q (if (fs.head?.bind id).isSome = true then general' else oneType') s) : wpAny M A (keyKind' vs.toArray) Q E s := by
  obtain ⟨v₁, vr, rfl⟩ : ∃ v₁ vr, vs = v₁ :: vr := by
    match vs, fs, t, hn with
    | v₁ :: vr, _, _, _ => exact ⟨v₁, vr, rfl⟩
    | [], [], _, hn => exact absurd hn (by simp)
    | [], _ :: _, t, _ => exact t.elim
  rw [kat_kind_eq, List.mapM_toArray, map_eq_pure_bind]
  refine wpAny_bind (wpAny_bind (kat_firsts2 (v₁ :: vr) fs t (wpAny_pure ?_)))
  have hall : ¬ (fs.toArray.all fun x => x.isSome) = true := by
    simp only [List.all_toArray, List.all_eq_true]
    exact fun z => absurd (z none hn) (by simp)
  rw [if_neg hall]
  have h0 : (fs.toArray[0]?.bind id).isSome = (fs.head?.bind id).isSome := by
    rw [List.head?_eq_getElem?]; simp
  rw [h0]
  by_cases hs : (fs.head?.bind id).isSome = true
  · rw [if_pos hs] at h ⊢
    exact wpAny_pure h
  · rw [if_neg hs] at h ⊢
    rw [oneTypeOnly'_eq, List.mapM_toArray, map_eq_pure_bind]
    refine wpAny_bind (wpAny_bind (wpAny_bind (kas_mapM (r := Value.type "tuple") _ (fun v hv Q' hq => (hT v hv).here hq) (wpAny_pure ?_))))
    have hall2 : ((List.map (fun _ => Value.type "tuple") (v₁ :: vr)).toArray.all fun x => x == Value.type "tuple") = true := by
      simp only [List.all_toArray, List.all_map, List.all_eq_true]
      intro _ _
      exact beq_self_eq_true _
    have h1 : (List.map (fun _ => Value.type "tuple") (v₁ :: vr)).toArray[0]? = some (Value.type "tuple") := by simp
    rw [h1]
    simp only [hall2, if_true]
    exact wpAny_pure (wpAny_pure h)
end
def Sortable2 (ds : List PyData) : Prop := (∀ d, d ∈ ds -> ∃ xs, d = .tuple xs) \/ ∀ d, d ∈ ds -> d ≠ .none /\ ∀ xs, d ≠ .tuple xs
theorem each_katT {h : Heap} : ∀ {vs : List Value} {ds : List PyData}, EachIs (fun v d => ∃ as, Reads h v d as) vs ds -> (∀ d, d ∈ ds -> ∃ xs, d = .tuple xs) -> ∃ fs, KatT h vs fs /\ (.tuple [] ∈ ds -> none ∈ fs)
  | _, _, .nil, _ => ⟨[], trivial, fun h => absurd h (by simp)⟩
  | _, _, .cons (b := d) ⟨as, r⟩ t, ht => by
    obtain ⟨fs, h1, h2⟩ := each_katT t fun d hd => ht d (List.mem_cons_of_mem _ hd)
    obtain ⟨xs0, rfl⟩ := ht d (List.mem_cons_self ..)
    cases r with
    | @tuple a o xs n _ _ ho hc hd hr =>
      refine ⟨xs[0]? :: fs, ⟨⟨a, o, xs, n, rfl, ho, hc, hd, rfl⟩, h1⟩, fun hm => ?_⟩
      rcases List.mem_cons.mp hm with e | hm
      · obtain rfl := PyData.tuple.inj e
        have : xs.toList = [] := by cases q : xs.toList with
          | nil => rfl
          | cons y ys => rw [q] at hr; cases hr
        have e0 : xs[0]? = none := by rw [<- Array.getElem?_toList, this]; rfl
        rw [e0]
        exact List.mem_cons_self ..
      · exact List.mem_cons_of_mem _ (h2 hm)
section
variable {prog : Program} {w : World} {A : Around} {s : Shared}
theorem sortsAt_data2 {vs : List Value} {ds : List PyData} (e : EachIs (fun v d => ∃ as, Reads s.heap v d as) vs ds) (hal : AllAlike ds) (hk : Sortable2 ds) (hu : ∀ d, d ∈ ds -> A.units + d.depth < cLine) : SortsAt prog w A s (dataKind s.heap ds) vs := by
  rcases hk with ht | hn
  · by_cases hne : PyData.tuple [] ∈ ds
    · have room : ∀ {d d' : PyData}, d ∈ ds -> A.units + min d.depth d'.depth < cLine := fun {d d'} hd => Nat.lt_of_le_of_lt (Nat.add_le_add_left (Nat.min_le_left _ _) _) (hu d hd)
      refine ⟨fun v hv => ?_, ?_⟩
      · obtain ⟨d, hd, as, r⟩ := e.left v hv
        exact ⟨_, dataKind_some hal hd r⟩
      · obtain ⟨fs, t1, t2⟩ := each_katT e ht
        refine ⟨if (fs.head?.bind id).isSome = true then general' else oneType', ?_, fun h2 E Q hq => kind_mixed t1 (t2 hne) (fun v hv => ?_) hq⟩
        · intro E x y a b Q ha hb hq
          obtain ⟨d, as, hd, ra, rfl⟩ := dataKind_inv ha
          obtain ⟨d', as', hd', rb, rfl⟩ := dataKind_inv hb
          have hdd := hal d hd d' hd'
          have hroom := room (d' := d') hd
          obtain ⟨x1, rfl⟩ := ht d hd
          obtain ⟨x2, rfl⟩ := ht d' hd'
          split
          · exact oneLt_alike (f := false) (by simp) ra rb hdd (by simp) hroom hq
          · rw [keyLt'_oneType]
            exact oneLt_tuples ra rb hdd hroom hq
        · obtain ⟨d, hd, as, r⟩ := e.left v hv
          obtain ⟨xs, rfl⟩ := ht d hd
          exact looks_reads r
    · refine SortsAt.data e hal (.inl fun d hd => ?_) hu
      obtain ⟨xs, rfl⟩ := ht d hd
      cases xs with
      | nil => exact absurd hd hne
      | cons x r => exact ⟨x, r, rfl⟩
  · exact SortsAt.data e hal (.inr hn) hu
end
section
variable {prog : Program} {w : World} {A : Around} {E : Value -> Shared -> Prop} {s : Shared} {β : Type} {vs : List Value} {bs : List β} {enc : β -> PyData} {R : Value -> β -> Prop}
theorem sorted_data2 {l : Addr} {Q : Value -> Shared -> Prop} (hl : s.heap.IsList l vs.toArray) (e : EachIs R vs bs) (er : EachIs (fun v b => ∃ as, Reads s.heap v (enc b) as) vs bs) (hal : AllAlike (bs.map enc)) (hk : Sortable2 (bs.map enc)) (hL : bs.length <= sizeLine)
    (hu : ∀ b, b ∈ bs -> A.units + 2 + (enc b).depth < cLine) (h : ∀ out, out.length = bs.length -> EachIs R out (bs.mergeSort (dataLe false enc)) -> Q (.ref (s.heap.objs.size + 1)) { s with heap := sortedAll s.heap vs (List.toArray out) }) :
    wpAny (model prog w) A (call (.builtin "sorted") [.ref l]) Q E s := by
  have er' : EachIs (fun v b => ∃ as, Reads (sortingHeap (copyHeap s.heap vs) (s.heap.objs.size + 1) vs) v (enc b) as) vs bs := er.mono fun _ _ ⟨as, r⟩ => ⟨as, PyProof.Rows.Reads.keeps (fun _ _ => sorting_copy_old) r⟩
  exact sorted_vals hl (sortsAt_data2 (s := { s with heap := sortingHeap (copyHeap s.heap vs) (s.heap.objs.size + 1) vs }) (each_map (R := fun v d => ∃ as, Reads (sortingHeap (copyHeap s.heap vs) (s.heap.objs.size + 1) vs) v d as) enc er') hal hk (bound_map hu)) (by rw [e.length]; exact hL)
    (h _ (by rw [sortVals_length false rfl]; exact e.length) (sortVals_data false e er' hal))
end
end L2
namespace L2
open PySem PySem.Spec PyProof.Rows
def rSortD (K : PySem.W.Frag) : List V -> Hp -> VK -> Prop := fun vs H Q => ∃ (a : Addr) (xs : List V) (ds : List PyData), vs = [V.ref a] /\ SqL K H a xs /\ DpAll K H xs ds /\ PySem.W.AllAlike ds /\ Sortable2 ds /\ (∀ d ∈ ds, d.depth <= 60) /\
  ∀ p, H p = none -> Q (.ref p) (upd H p (.lst (((xs.zip ds).mergeSort (PySem.W.dataLe false Prod.snd)).map Prod.fst)))
theorem DpAll.len {K : PySem.W.Frag} {H : Hp} : ∀ {xs : List V} {ds : List PyData}, DpAll K H xs ds -> xs.length = ds.length
  | _, _, .nil => rfl
  | _, _, .cons _ t => by rw [List.length_cons, List.length_cons, DpAll.len t]
section
variable {X : Cx} {pins : List (Addr × Obj)} {σ : St} {H : Hp} {s : Shared}
theorem each_dp (I : Inv X pins σ H s) : ∀ {xs : List V} {ds : List PyData} {us : List Value}, DpAll X.K H xs ds -> Vals xs us -> PySem.W.EachIs (fun u (b : V × PyData) => RelV b.1 u /\ ∃ as, Reads s.heap u b.2 as) us (xs.zip ds)
  | _, _, _, .nil, .nil => .nil
  | _, _, _, .cons h t, .cons r rs => .cons ⟨r, Dp.reads I _ _ _ h r⟩ (each_dp I t rs)
theorem each_vals {R : Value -> V × PyData -> Prop} (hR : ∀ u b, R u b -> RelV b.1 u) : ∀ {us : List Value} {bs : List (V × PyData)}, PySem.W.EachIs R us bs -> Vals (bs.map Prod.fst) us
  | _, _, .nil => .nil
  | _, _, .cons h t => .cons (hR _ _ h) (each_vals hR t)
theorem zip_snd {xs : List V} {ds : List PyData} (h : xs.length = ds.length) : (xs.zip ds).map Prod.snd = ds := List.map_snd_zip (by omega)
theorem cr_sortedD (hu : X.A.units + 64 < cLine) : CallR X (.builtin "sorted") (rSortD X.K) := by
  intro pins s σ H vs us Q I r h
  obtain ⟨a, xs, ds, rfl, hs, hd, ha, hk, hn, q⟩ := h
  obtain ⟨its, rv, hl, hz⟩ := I.list hs
  rw [Vals.ref1 r]
  have hlen := hd.len
  have hm := zip_snd hlen
  have e1 := each_dp I hd rv
  have hzl : (xs.zip ds).length = xs.length := by rw [List.length_zip]; omega
  refine sorted_data2 (enc := Prod.snd) (bs := xs.zip ds) hl.isList e1 (e1.mono fun _ _ h => h.2) (by rw [hm]; exact ha) (by rw [hm]; exact hk) (by rw [hzl]; exact hz) (fun b hb => ?_) fun out ho eo => ?_
  · have : b.2 ∈ ds := by rw [<- hm]; exact List.mem_map.mpr ⟨b, hb, rfl⟩
    have := hn _ this
    omega
  · obtain ⟨ep, he'⟩ := PyProof.Rows.sortedAll_at s.heap its out.toArray
    have hv := each_vals (fun _ _ h => h.1) eo
    refine ⟨.ref _, upd H (s.heap.objs.size + 1) (.lst (((xs.zip ds).mergeSort (PySem.W.dataLe false Prod.snd)).map Prod.fst)), I.laid (t' := s.toks) (fun _ _ => PyProof.Rows.sortedAll_old) (Nat.le_succ _) ⟨?_, out, ep, hv, he'⟩, rfl, q _ (I.hok.fresh (Nat.le_succ _))⟩
    rw [List.length_map, List.length_mergeSort, hzl]
    exact hz
end
end L2
namespace Py
open PySem L2
section
variable {T : Tbl} {W : Wd T} {env : Py.Env} {β : Type} {enc : β -> D} {dat : β -> PyData}
def tupNE : PyData -> Bool
  | .tuple _ => true
  | _ => false
def notTN : PyData -> Bool
  | .tuple _ => false
  | .none => false
  | _ => true
def sortOk (ps : List PyData) : Bool := (ps.all fun p => ps.all fun q => PySem.W.alike p q) && (ps.all tupNE || ps.all notTN) && ps.all fun p => decide (p.depth <= 60)
def sortD (xs : List D) : Option (List D) := (pds xs).bind fun ps => if sortOk ps = true then some (((xs.zip ps).mergeSort (PySem.W.dataLe false Prod.snd)).map Prod.fst) else none
theorem sortOk_ok {ps : List PyData} (h : sortOk ps = true) : PySem.W.AllAlike ps /\ Sortable2 ps /\ ∀ d ∈ ps, d.depth <= 60 := by
  unfold sortOk at h
  simp only [Bool.and_eq_true, Bool.or_eq_true, List.all_eq_true, decide_eq_true_eq] at h
  obtain ⟨⟨h1, h2⟩, h3⟩ := h
  refine ⟨h1, ?_, h3⟩
  rcases h2 with h2 | h2
  · refine .inl fun d hd => ?_
    have := h2 d hd
    cases d <;> first | (cases this; done) | skip
    exact ⟨_, rfl⟩
  · refine .inr fun d hd => ?_
    have := h2 d hd
    refine ⟨fun z => ?_, fun xs z => ?_⟩ <;> (subst z; cases this)
theorem shrs_zipD {F : Hp} : ∀ {xs : List D} {vs : List V}, Shrs W F xs vs -> ∀ p ∈ vs.zip xs, Shr W F p.2 p.1
  | [], _, .nil, p, m => nomatch m
  | b :: bs, _, .cons (v := v) (vs := vs) h t, p, m => by
    rw [List.zip_cons_cons] at m
    rcases List.mem_cons.mp m with rfl | m
    · exact h
    · exact shrs_zipD t p m
theorem shrs_pairsD {F : Hp} : ∀ (T : List (V × D)), (∀ p ∈ T, Shr W F p.2 p.1) -> Shrs W F (T.map Prod.snd) (T.map Prod.fst)
  | [], _ => .nil
  | p :: T, h => .cons (h p (List.mem_cons_self ..)) (shrs_pairsD T fun q m => h q (List.mem_cons_of_mem _ m))
theorem sort_two {α β : Type} {vs : List α} {xs : List β} {ps : List PyData} (h1 : vs.length = ps.length) (h2 : xs.length = ps.length) :
    ∃ T : List (α × β), T.Perm (vs.zip xs) /\ ((vs.zip ps).mergeSort (PySem.W.dataLe false Prod.snd)).map Prod.fst = T.map Prod.fst /\ ((xs.zip ps).mergeSort (PySem.W.dataLe false Prod.snd)).map Prod.fst = T.map Prod.snd := by
  let Z : List ((α × β) × PyData) := (vs.zip xs).zip ps
  have e1 : Z.map (fun z => (z.1.1, z.2)) = vs.zip ps := by
    apply List.ext_getElem?
    intro i
    simp only [Z, List.getElem?_map, List.getElem?_zip_eq_some, List.zip_eq_zipWith, List.getElem?_zipWith]
    cases vs[i]? <;> cases hx : xs[i]? <;> cases hp : ps[i]? <;> simp
    · have := List.getElem?_eq_none_iff.mp hx
      have := (List.getElem?_eq_some_iff.mp hp).1
      omega
  have e2 : Z.map (fun z => (z.1.2, z.2)) = xs.zip ps := by
    apply List.ext_getElem?
    intro i
    simp only [Z, List.getElem?_map, List.zip_eq_zipWith, List.getElem?_zipWith]
    cases hv : vs[i]? <;> cases hx : xs[i]? <;> cases hp : ps[i]? <;> simp
    · have := List.getElem?_eq_none_iff.mp hv
      have := (List.getElem?_eq_some_iff.mp hp).1
      omega
  refine ⟨(Z.mergeSort (PySem.W.dataLe false Prod.snd)).map (·.1), ?_, ?_, ?_⟩
  · have := (List.mergeSort_perm Z (PySem.W.dataLe false Prod.snd)).map (·.1)
    refine this.trans ?_
    rw [List.map_fst_zip (by rw [List.length_zip]; omega)]
  · rw [<- e1, <- PySem.W.sort_maps (r := PySem.W.dataLe false fun z : (α × β) × PyData => z.2) (s := PySem.W.dataLe false Prod.snd) (fun z : (α × β) × PyData => (z.1.1, z.2)) (fun _ _ _ _ => rfl), List.map_map, List.map_map]
    rfl
  · rw [<- e2, <- PySem.W.sort_maps (r := PySem.W.dataLe false fun z : (α × β) × PyData => z.2) (s := PySem.W.dataLe false Prod.snd) (fun z : (α × β) × PyData => (z.1.2, z.2)) (fun _ _ _ _ => rfl), List.map_map, List.map_map]
    rfl
theorem pds_len : ∀ {xs : List D} {ps : List PyData}, pds xs = some ps -> xs.length = ps.length
  | [], _, h => by rw [pds] at h; cases h; rfl
  | x :: xs, ps, h => by
    rw [pds] at h
    split at h
    · rename_i h2; cases h; rw [List.length_cons, List.length_cons, pds_len h2]
    · cases h
def xSorted (a : XP W) : XP W where
  t := tCB (rSortD W.K) (tCons a.t tNil)
  ev env := (a.evK env).bind fun d => (seqOf d).bind fun p => if p.1 = false then (sortD p.2).map fun ys => (.fr, .olst ys) else none
  snd := fun {env k d} e => by
    obtain ⟨d1, e1, e⟩ := Option.bind_eq_some_iff.mp e
    obtain ⟨⟨b, xs⟩, e3, e⟩ := Option.bind_eq_some_iff.mp e
    cases b with
    | true => cases e
    | false =>
      obtain ⟨ys, e4, e⟩ := Option.map_eq_some_iff.mp e
      cases e
      obtain ⟨ps, e5, e6⟩ := Option.bind_eq_some_iff.mp e4
      obtain ⟨ho, rfl⟩ := ite_some e6
      obtain ⟨s1, s2, s3⟩ := sortOk_ok ho
      intro e' F σ H L Q r q
      refine a.sK e1 e' F σ H L _ r fun v F1 H1 x1 ⟨L1, o⟩ => ?_
      obtain ⟨a, vs, rfl, sh, sq⟩ := seqOf_ok x1.s o e3
      have hl := pds_len e5
      obtain ⟨TT, hT, t1, t2⟩ := sort_two (vs := vs) (xs := xs) (ps := ps) (by rw [<- sh.length, hl]) hl
      refine ⟨a, vs, ps, rfl, sq, Shrs.dp (sh.mono x1.s) e5, s1, s2, s3, fun p hp => q _ F1 _ (x1.trans (.newH x1.s hp)) ⟨[p], ?_, by simp, fun x m => by
        rw [List.mem_singleton.mp m]; exact ⟨x1.h.free hp, x1.s.free hp⟩⟩⟩
      rw [t1, t2]
      exact .olst upd_same (shrs_pairsD TT fun p m => shrs_zipD sh p (hT.mem_iff.mp m)).owns
theorem pds_mapD (hp : ∀ b, pd (enc b) = some (dat b)) : ∀ bs : List β, pds (bs.map enc) = some (bs.map dat)
  | [] => by rw [List.map_nil, pds]; rfl
  | b :: bs => by rw [List.map_cons, pds, hp b, pds_mapD hp bs]; rfl
theorem sortD_map (hp : ∀ b, pd (enc b) = some (dat b)) (bs : List β) (ho : sortOk (bs.map dat) = true) : sortD (bs.map enc) = some ((bs.mergeSort (PySem.W.dataLe false dat)).map enc) := by
  unfold sortD
  rw [pds_mapD hp]
  show (if sortOk (bs.map dat) = true then _ else none) = _
  rw [if_pos ho]
  congr 1
  have e : (bs.map enc).zip (bs.map dat) = bs.map fun b => (enc b, dat b) := by rw [List.zip_map']
  rw [e, <- PySem.W.sort_maps (r := PySem.W.dataLe false dat) (s := PySem.W.dataLe false Prod.snd) (fun b => (enc b, dat b)) (fun _ _ _ _ => rfl), List.map_map]
  rfl
end
end Py
namespace Py
open PySem L2
structure Blt (mg : Str -> Option Value) : Prop where
  len : mg "len" = none
  range : mg "range" = none
  abs : mg "abs" = none
  int : mg "int" = none
  bool : mg "bool" = none
  str : mg "str" = none
  list : mg "list" = none
  tuple : mg "tuple" = none
  isinstance : mg "isinstance" = none
  sorted : mg "sorted" = none
  enumerate : mg "enumerate" = none
  zip : mg "zip" = none
  sum : mg "sum" = none
  any : mg "any" = none
  all : mg "all" = none
  max : mg "max" = none
  min : mg "min" = none
  dict : mg "dict" = none
  set : mg "set" = none
  type : mg "type" = none
  iter : mg "iter" = none
  super : mg "super" = none
structure DefAt (K : PySem.W.Frag) (mg : Str -> Option Value) (x qual : Str) (st : Stmt) (dvs : List V) (kws : List (Str × V)) : Prop where
  ex : ∃ f fd, FunD K x qual (defArgs st) (defBody st) (defScope st) dvs kws f fd /\ mg x = some (.ref f)
def BindsP (x qual : Str) (st : Stmt) (ps : List Str) : Prop := ∀ (kV doc pm : Value) (an : Option Addr) (cdv ct : Value) (us : List Value), us.length = ps.length -> bindArgs (PySem.W.fnOf x qual (defArgs st) (defBody st) (defScope st) .none kV doc pm an cdv ct) ⟨us, []⟩ = pure (ps.zip us)
structure Df (P : Program) (w : World) (K : PySem.W.Frag) (mg : Str -> Option Value) (base : Heap) (CX : CXT) (k : Nat) (x : Str) (ps : List Str) (sp : Sp) : Prop where
  ex : ∃ f fd, FnOk P w K mg base CX k f fd ps sp /\ mg x = some (.ref f) /\ PySem.W.keepIn K (.ref f) = true /\ Binds K fd ps []
section
variable {P : Program} {w : World} {K : PySem.W.Frag} {mg : Str -> Option Value} {base : Heap}
theorem df_of {x qual : Str} {st : Stmt} {N ps : List Str} {k : Nat} {sp : Sp} (D : DefAt K mg x qual st [] []) (S : FnScope N ps (defScope st)) (bp : BindsP x qual st ps) (len : ∀ vs H Q E, sp vs H Q E -> vs.length = ps.length)
    (hbody : ∀ (f : Addr) (cdv : Value) (A : Around) (outer : List PySem.Env) (s : Shared) (H : Hp) (vs : List V) (Q : VK) (E : XK), Room k (A.deeper (PyProof.Rows.envOfC qual (defScope st) s.heap.objs.size f cdv)) -> sp vs H Q E ->
      ∃ t, PSs (cxOf (L2.CX P w) P w K mg base N qual (defScope st) f cdv A outer s H E) (defBody st) t /\ t { nx := fun _ H' => Q .non H', rt := Q } (L2.start N vs) H) : Df P w K mg base (L2.CX P w) (k + 1) x ps sp := by
  obtain ⟨f, fd, F, hm⟩ := D.ex
  refine ⟨f, fd, F.ok S len fun cdv A outer s H vs Q E hr h => ?_, hm, F.kp, F.bindsN bp⟩
  obtain ⟨t, q1, q2⟩ := hbody f cdv A outer s H vs Q E hr h
  exact ⟨t, q1, q2⟩
theorem lw_of {x qual : Str} {st : Stmt} {N ps : List Str} {k : Nat} {sp : Sp} {f : Addr} {fd : FuncData} (F : FunD K x qual (defArgs st) (defBody st) (defScope st) [] [] f fd) (S : FnScope N ps (defScope st)) (len : ∀ vs H Q E, sp vs H Q E -> vs.length = ps.length)
    (hbody : ∀ (f : Addr) (cdv : Value) (A : Around) (outer : List PySem.Env) (s : Shared) (H : Hp) (vs : List V) (Q : VK) (E : XK), Room k (A.deeper (PyProof.Rows.envOfC qual (defScope st) s.heap.objs.size f cdv)) -> sp vs H Q E ->
      ∃ t, PSs (cxOf CX0 P w K mg base N qual (defScope st) f cdv A outer s H E).nox (defBody st) t /\ t { nx := fun _ H' => Q .non H', rt := Q } (L2.start N vs) H) : FnOk P w K mg base CX0 (k + 1) f fd ps sp := by
  refine F.ok S len fun cdv A outer s H vs Q E hr h => ?_
  obtain ⟨t, q1, q2⟩ := hbody f cdv A outer s H vs Q E hr h
  exact ⟨t, q1.nox, q2⟩
theorem cx_no {P : Program} {w : World} {o : List PySem.Env} {H : Hp} {s s' : Shared} {e : Value} (h : L2.CX P w o H s E0 e s') : False := by
  obtain ⟨_, _, _, _, _, _, _, _, _, _, _, _, z⟩ := h
  exact z.elim
theorem passE0 {X : Cx} : Passes (L2.CX X.prog X.w) X E0 := fun _ _ _ _ _ _ _ h => by
  obtain ⟨_, _, _, _, _, _, _, _, _, _, _, _, z⟩ := h
  exact z.elim
theorem px_call {X : Cx} {k : Nat} {x : Str} {ps : List Str} {sp : Sp} {p pos : Pos} {e : Expr} {es : List Expr} {t : TA} (D : Df X.prog X.w X.K X.mg X.base (L2.CX X.prog X.w) k x ps sp) (hr : Room k X.A) (hg : Gl X x)
    (ha : PA X (e :: es) t) (hdb : (x == ("__debug__" : Str)) = false := by decide) (he : starEach (e :: es) X.env = (false, eval e X.env) :: starEach es X.env := by rfl) (hpl : (backTo pos (starEach es X.env)).any (·.1) = false := by rfl) :
    PE X (.Call (.Name x p) (e :: es) [] pos) (tCall sp [] E0 t) := by
  obtain ⟨f, fd, F, hm, hk, hb⟩ := D.ex
  exact pe_call F hr hg hm hk hb .nil passE0 ha hdb he hpl
def gK {α : Type} (n m : Nat) (us ws : List α) : List α := if us.length = n /\ ws.length = m then us ++ ws else []
structure DfK (P : Program) (w : World) (K : PySem.W.Frag) (mg : Str -> Option Value) (base : Heap) (CX : CXT) (k : Nat) (x : Str) (ps ks : List Str) (n : Nat) (sp : Sp) : Prop where
  ex : ∃ f fd, FnOk P w K mg base CX k f fd ps sp /\ mg x = some (.ref f) /\ PySem.W.keepIn K (.ref f) = true /\ KBinds K fd ps ks (gK n ks.length) (gK n ks.length)
end
section
variable {X : Cx} {T : Tbl} {W : Wd T}
theorem call_lenA : CallR X (.builtin "len") (rLenA X.K) := CallR.or call_lenU call_lenD
theorem pe_imp {e : Expr} {t : TE} {c : Prop} (hc : c) (h : PE X e t) : PE X e (fun σ H Q => c -> t σ H Q) := ⟨fun pins s σ H Q I q => h.run pins s σ H Q I (q hc)⟩
theorem px_isi {a : Expr} {ta : TE} {c : Str} {n : String} {p1 p2 pos : Pos} (hm : X.mg "isinstance" = none) (hmc : X.mg c = none) (ha : PE X a ta) (hk : n ∈ ["int", "bool", "str", "list", "tuple", "dict"] := by decide) (hg : Gl X "isinstance" := by rfl) (hgc : Gl X c := by rfl)
    (hb : bootBuiltins c = some (.type n) := by decide +kernel) (hn : c ≠ "__name__" := by decide) (hd : (c == ("__debug__" : Str)) = false := by decide)
    (hs : starEach [a, .Name c p2] X.env = (false, eval a X.env) :: starEach [.Name c p2] X.env := by rfl) (hs2 : starEach [.Name c p2] X.env = (false, eval (.Name c p2) X.env) :: starEach [] X.env := by rfl)
    (hpl : (backTo pos (starEach [.Name c p2] X.env)).any (·.1) = false := by rfl) :
    PE X (.Call (.Name "isinstance" p1) [a, .Name c p2] [] pos) (fun σ H Q => clsOk W (false, n) -> tCB (rIsi X.K) (tCons ta (tCons (tC (clsV W (false, n))) tNil)) σ H Q) :=
  pe_imp hk (pe_callB call_isi hg hm (by decide +kernel) (pa_cons ha (pa_cons (pe_bltn hgc hc' hb rfl hn hd) pa_nil hs2) hs) (he := hs) (hpl := hpl))
where hc' := hmc
end
theorem df_no {P : Program} {w : World} {K : PySem.W.Frag} {mg : Str -> Option Value} {base : Heap} {x qual : Str} {st : Stmt} {ps : List Str} {k : Nat} (D : DefAt K mg x qual st [] []) (bp : BindsP x qual st ps) {sp : Sp} (h : ∀ vs H Q E, ¬ sp vs H Q E) : Df P w K mg base (L2.CX P w) k x ps sp := by
  obtain ⟨f, fd, F, hm⟩ := D.ex
  exact ⟨f, fd, ⟨fun vs H Q E z => absurd z (h vs H Q E), fun A outer s H args us vs Q E _ _ _ _ z => absurd z (h vs H Q E)⟩, hm, F.kp, F.bindsN bp⟩
theorem spR_no {T : Tbl} {W : Wd T} {n : Nat} {b : Option Nat} : ∀ vs H Q E, ¬ spR W n (fun _ _ => .no) b vs H Q E := fun vs H Q E ⟨_, _, _, _, _, _, _, _, h, _⟩ => h rfl
def semT (tbl : String -> Option (Sem -> List D -> Option Nat -> Rz)) : Nat -> Sem
  | 0 => fun _ _ _ => .no
  | k + 1 => fun f args b => match tbl f with
    | some g => g (semT tbl k) args b
    | none => .no
def spL (K : PySem.W.Frag) : Sp := fun vs H Q _ => ∃ (a : Addr) (ns : List Int), vs = [.ref a] /\ SqL K H a (ns.map V.int) /\ ns.length <= 63 /\ ∀ H', Q (.bl true) H'
theorem spL_in {K : PySem.W.Frag} {H : Hp} {a : Addr} {ns : List Int} (hl : ns.length <= 63) (hS : SqL K H a (ns.map V.int)) : spL K [.ref a] H (fun v _ => v = .bl true) fun _ _ _ => False := ⟨a, ns, rfl, hS, hl, fun _ => rfl⟩
theorem spL_spR {T : Tbl} {W : Wd T} {φ : List D -> Option Nat -> Rz} (h : ∀ ns : List Int, ns.length <= 63 -> φ [.scr ns] none = .ok (.bl true) none) : ∀ vs H Q E, spL W.K vs H Q E -> spR W 1 φ none vs H Q E := by
  rintro vs H Q E ⟨a, ns, rfl, hS, hl, q⟩
  refine callF (Same.refl H) (.cons (.scr hS) .nil) rfl (h ns hl) fun v F' H' x ⟨L, o, _, _⟩ => ?_
  cases o.shr rfl
  exact q H'
section
variable {T : Tbl} {W : Wd T}
end
end Py
namespace Py
open PySem L2
theorem lookup_zip_none {m : String} : ∀ {ns : List String} {vs : List V}, pos m ns = none -> ((ns.map so).zip vs).lookup (so m) = none
  | [], _, _ => by simp
  | n :: ns, [], _ => by simp
  | n :: ns, v :: vs, h => by
    have h : (if n = m then some 0 else (pos m ns).map (· + 1)) = none := h
    by_cases e : n = m
    · rw [if_pos e] at h; cases h
    · rw [if_neg e] at h
      have h : pos m ns = none := Option.map_eq_none_iff.mp h
      show (match so m == so n with | true => some v | false => _) = none
      have : (so m == so n) = false := by
        rw [Bool.eq_false_iff]
        intro z
        exact e (so_inj (eq_of_beq z)).symm
      rw [this]
      exact lookup_zip_none h
section
variable {T : Tbl} {W : Wd T}
structure Mt (P : Program) (w : World) (K : PySem.W.Frag) (mg : Str -> Option Value) (base : Heap) {T : Tbl} (W : Wd T) (k : Nat) (m : String) (n : Nat) (φ : Sem) (b : Option Nat) : Prop where
  ex : ∀ c nm, W.has c -> T.res c m = some nm -> ∃ g fd ps, Meth K (W.cA c) (so m) g /\ FnOk P w K mg base (L2.CX P w) k g fd ps (spR W n (φ nm) b) /\ Binds K fd ps []
def tMethD {T : Tbl} (W : Wd T) (φ : Sem) (m : String) (n : Nat) (b : Option Nat) (E : XK) (ta : TE) (t : TA) : TE := fun σ H Q => ta σ H fun x H1 => ∃ a c nm dx fs, x = .ref a /\ H1 a = some (.ins (W.cA c) dx fs) /\ W.has c /\ T.res c m = some nm /\ fs.lookup (so m) = none /\
  t σ H1 fun vs H2 => spR W n (φ nm) b (x :: vs) H2 Q E
theorem passAt0 {X : Cx} (σ : St) : PassesAt (L2.CX X.prog X.w) X σ E0 := fun pins H s e s' I c => passE0 pins σ H s e s' I c
theorem px_meth0S {X : Cx} {E : St -> XK} {k n : Nat} {m : String} {φ : Sem} {b : Option Nat} {o : Expr} {ta : TE} {apos pos : Pos} {pl : PySem.Sem Bool} (M : Mt X.prog X.w X.K X.mg X.base W k m n φ b) (hx : ∀ σ, PassesAt (L2.CX X.prog X.w) X σ (E σ)) (hr : Room k X.A) (hK : W.K = X.K) (he : PE X o ta)
    (ht : eval (.Call (.Attribute o (so m) apos) [] [] pos) X.env = (do
      let ov <- eval o X.env
      standAt apos.atName
      let (f, first) <- holding [ov] (getMethod ov (so m) pl)
      callWith pos f first (backTo pos (starEach [] X.env)) (backToKw pos (keywordEach [] X.env))) := by rfl) :
    PE X (.Call (.Attribute o (so m) apos) [] [] pos) (fun σ H Q => tMethD W φ m n b (E σ) ta tNil σ H Q) := by
  refine ⟨fun pins s σ H Q I h => ?_⟩
  refine PySem.W.methodCall_KW (pl := pl) (thn (he.run pins s σ H _ I h) fun u s1 ⟨x, H1, I1, rx, a, c, nm, dx, fs, ex, ea, hc, hn, l, q⟩ => ?_) ht
  subst ex
  obtain rfl : u = Value.ref a := rx
  obtain ⟨g, fd, ps, hm, F, hb⟩ := M.ex c nm hc hn
  refine getmeth_ok I1 ea (hK ▸ W.cl c hc) hm l ?_
  exact PySem.W.callWith_K0 (first := [.ref a]) I1.kIn hm.kp (run_fnS (E := E) (us := [.ref a]) (vs := [.ref a]) F hr hb (hx σ) I1 (.cons rfl .nil) q)
theorem px_meth0 {X : Cx} {k n : Nat} {m : String} {φ : Sem} {b : Option Nat} {o : Expr} {ta : TE} {apos pos : Pos} {pl : PySem.Sem Bool} (M : Mt X.prog X.w X.K X.mg X.base W k m n φ b) (hr : Room k X.A) (hK : W.K = X.K) (he : PE X o ta)
    (ht : eval (.Call (.Attribute o (so m) apos) [] [] pos) X.env = (do
      let ov <- eval o X.env
      standAt apos.atName
      let (f, first) <- holding [ov] (getMethod ov (so m) pl)
      callWith pos f first (backTo pos (starEach [] X.env)) (backToKw pos (keywordEach [] X.env))) := by rfl) :
    PE X (.Call (.Attribute o (so m) apos) [] [] pos) (tMethD W φ m n b E0 ta tNil) := px_meth0S (E := fun _ => E0) M passAt0 hr hK he ht
def meth1 (T : Tbl) (φ : Sem) (m : String) (n : Nat) : List D -> Rz
  | .ins c ns xs :: ds => match T.res c m with
    | some nm => if pos m ns = none /\ ds.length + 1 = n then φ nm (.ins c ns xs :: ds) none else .no
    | none => .no
  | _ => .no
theorem meth1_ok {φ : Sem} {m : String} {n : Nat} {d : D} {ds : List D} (h : meth1 T φ m n (d :: ds) ≠ .no) : ∃ c ns xs nm, d = .ins c ns xs /\ T.res c m = some nm /\ pos m ns = none /\ (d :: ds).length = n /\ meth1 T φ m n (d :: ds) = φ nm (d :: ds) none := by
  cases d <;> first | (exact absurd rfl h) | skip
  rename_i c ns xs
  cases e : T.res c m with
  | none => exact absurd (by show (match T.res c m with | some nm => if pos m ns = none /\ ds.length + 1 = n then φ nm (.ins c ns xs :: ds) none else Rz.no | none => .no) = .no; rw [e]) h
  | some nm =>
    have e2 : meth1 T φ m n (.ins c ns xs :: ds) = if pos m ns = none /\ ds.length + 1 = n then φ nm (.ins c ns xs :: ds) none else Rz.no := by
      show (match T.res c m with | some nm => if pos m ns = none /\ ds.length + 1 = n then φ nm (.ins c ns xs :: ds) none else Rz.no | none => .no) = _
      rw [e]
    by_cases hh : pos m ns = none /\ ds.length + 1 = n
    · rw [if_pos hh] at e2
      exact ⟨c, ns, xs, nm, rfl, e, hh.1, hh.2, e2⟩
    · rw [if_neg hh] at e2
      exact absurd e2 h
theorem shr_ins {F : Hp} {c : String} {ns : List String} {xs : List D} {v : V} (h : Shr W F (.ins c ns xs) v) : ∃ a dx vs, v = .ref a /\ F a = some (.ins (W.cA c) dx ((ns.map so).zip vs)) /\ W.has c := by
  cases h with
  | ins ha hc _ _ => exact ⟨_, _, _, rfl, ha, hc⟩
def methE (T : Tbl) (φ : Sem) (m : String) (n : Nat) (f : Option D) (fs : Option (List D)) (v : Option D) (vs : Option (List D)) : Option (Kd × D) := match f, fs with
  | some d, some ds => (meth1 T φ m n (d :: ds)).toF
  | _, _ => match v, vs with
    | some d, some ds => (meth1 T φ m n (d :: ds)).toV
    | _, _ => none
def xMeth (φ : Sem) (m : String) (n : Nat) (a : XP W) (as : XA W) : XP W where
  t := tMethD W φ m n none E0 a.t as.t
  ev env := methE T φ m n (a.evF env) (as.evF env) (a.evV env) (as.evV env)
  snd := fun {env k d} e => by
    have viewed : ∀ {d0 ds}, a.evV env = some d0 -> as.evV env = some ds -> (meth1 T φ m n (d0 :: ds)).toV = some (k, d) -> AE W (tMethD W φ m n none E0 a.t as.t) env (rK W k d) := by
      intro d0 ds e1 e2 e
      obtain ⟨d2, b, h, hk⟩ := Rz.toV_ok e
      obtain ⟨c, ns, xs, nm, rfl, h1, h2, h3, h4⟩ := meth1_ok (T := T) (φ := φ) (m := m) (n := n) (d := d0) (ds := ds) (by rw [h]; exact fun z => nomatch z)
      rw [h4] at h
      refine fun e' F σ H L Q r q => a.sV e1 e' F σ H L _ r fun v F1 H1 x1 y1 => ?_
      obtain ⟨p, dx, vs, rfl, hp, hc⟩ := shr_ins y1
      refine ⟨p, c, nm, dx, _, rfl, hp, hc, h1, lookup_zip_none h2, as.sV e2 e' F1 σ H1 L _ (r.ext x1) fun ws F2 H2 x2 y2 => ?_⟩
      refine callV (x2.s) (.cons (y1.mono x2.h) y2) h3 h fun v H3 x3 y3 => q v F2 H3 ((x1.trans x2).trans x3) ?_
      rcases hk with ⟨hf, rfl, rfl⟩ | ⟨rfl, rfl⟩
      · rw [fz_isSh (isSh_flat hf)] at y3
        exact rO_sh (y3.flat hf)
      · exact y3
    unfold methE at e
    split at e
    · rename_i d0 ds e1 e2
      obtain ⟨rfl, b, h⟩ := Rz.toF_ok e
      obtain ⟨c, ns, xs, nm, rfl, h1, h2, h3, h4⟩ := meth1_ok (T := T) (φ := φ) (m := m) (n := n) (d := d0) (ds := ds) (by rw [h]; exact fun z => nomatch z)
      rw [h4] at h
      refine fun e' F σ H L Q r q => a.sF e1 e' F σ H L _ r fun v F1 H1 x1 y1 => ?_
      obtain ⟨p, dx, vs, rfl, hp, hc⟩ := shr_ins y1
      refine ⟨p, c, nm, dx, _, rfl, x1.s _ _ hp, hc, h1, lookup_zip_none h2, as.sF e2 e' F1 σ H1 L _ (r.ext x1) fun ws F2 H2 x2 y2 => ?_⟩
      exact callF x2.s (.cons (y1.mono x2.f) y2) h3 h fun v F3 H3 x3 y3 => q v F3 H3 ((x1.trans x2).trans x3) (rO_back (x1.trans x2).h y3)
    · split at e
      · exact viewed (by assumption) (by assumption) e
      · cases e
def mkR (r : Rz) : Option D := match r with
  | .ok .non (some d) => some d
  | _ => none
def mk1 (φ : Sem) (c ini : String) (n : Nat) (ds : List D) : Option D := if ds.length + 1 = n then mkR (φ ini (.oins c [] [] :: ds) (some 0)) else none
theorem mk1_ok {φ : Sem} {c ini : String} {n : Nat} {ds : List D} {d : D} (h : mk1 φ c ini n ds = some d) : (D.oins c [] [] :: ds).length = n /\ φ ini (.oins c [] [] :: ds) (some 0) = .ok .non (some d) := by
  obtain ⟨h1, h2⟩ : ds.length + 1 = n /\ mkR (φ ini (.oins c [] [] :: ds) (some 0)) = some d := by
    unfold mk1 at h
    split at h
    · exact ⟨by assumption, h⟩
    · cases h
  refine ⟨h1, ?_⟩
  unfold mkR at h2
  split at h2
  · cases h2; assumption
  · cases h2
theorem makeF {n : Nat} {φ : Sem} {c ini : String} {F H : Hp} {vs : List V} {ds : List D} {d : D} {Q : VK} {E : XK} (s : Same F H) (h : Shrs W F ds vs) (hc : W.has c) (hφ : mk1 φ c ini n ds = some d)
    (q : ∀ v F' H', Ext F H F' H' -> rO W d F' H' H v -> Q v H') (x dx : Addr) (hx : H x = none) (hd : H dx = none) (ne : dx ≠ x) :
    spR W n (φ ini) (some 0) (.ref x :: vs) (upd (upd H dx (.own x)) x (.ins (W.cA c) dx [])) (fun v H2 => v = .non /\ Q (.ref x) H2) E := by
  obtain ⟨hl, hφ⟩ := mk1_ok hφ
  have hs : Same H (upd (upd H dx (.own x)) x (.ins (W.cA c) dx [])) := (same_new hd).trans (same_new (by rw [upd_ne ne.symm]; exact hx))
  refine ⟨F, .oins c [] [] :: ds, [x] ++ [], s.trans hs, .cons (.oins (vs := []) (by rw [upd_same]; rfl) hc rfl .nil) h.owns, by simp, fun a m => ?_, hl, ?_, fun d' bd e F' H' v M Mb p o ob nd k => ?_, fun x' bd e => ?_⟩
  · obtain rfl : a = x := by simpa using m
    exact s.free hx
  · rw [hφ]; exact fun z => nomatch z
  · rw [hφ] at e; cases e
    have hv : v = .non := by cases o with | sh y => cases y; rfl
    have hM : M = [] := o.shNil rfl
    subst hM
    obtain ⟨w, hw, ow⟩ := ob
    cases hw
    refine ⟨hv, q _ F' H' ⟨p.f, p.s, fun a o ha => ?_, fun a o ha => ?_⟩ ⟨Mb, ow, by simpa using nd, fun a m => ⟨?_, (k a (by simpa using m)).1⟩⟩⟩
    · refine p.h a o (fun z => ?_) (hs _ _ ha)
      obtain rfl : a = x := by simpa using z
      rw [hx] at ha; cases ha
    · rcases p.n a o ha with z | z | z
      · exact .inl z
      · exact .inr (hs.free z)
      · obtain rfl : a = x := by simpa using z
        exact .inr hx
    · rcases (k a (by simpa using m)).2 with z | z
      · obtain rfl : a = x := by simpa using z
        exact hx
      · exact hs.free z
  · rw [hφ] at e; cases e
theorem makeV {n : Nat} {φ : Sem} {c ini : String} {F H : Hp} {vs : List V} {ds : List D} {d : D} {Q : VK} {E : XK} (s : Same F H) (h : Shrs W H ds vs) (hc : W.has c) (hφ : mk1 φ c ini n ds = some d)
    (q : ∀ v H', Ext F H F H' -> Shr W H' (fz d) v -> Q v H') (x dx : Addr) (hx : H x = none) (hd : H dx = none) (ne : dx ≠ x) :
    spR W n (φ ini) (some 0) (.ref x :: vs) (upd (upd H dx (.own x)) x (.ins (W.cA c) dx [])) (fun v H2 => v = .non /\ Q (.ref x) H2) E :=
  makeF (Same.refl H) h hc hφ (fun v F' H' x ⟨L, o, _, _⟩ => q v H' ⟨Same.refl _, s.trans (x.f.trans x.s), x.h, fun _ _ z => .inl z⟩ (o.view x.s fun _ _ _ z => z)) x dx hx hd ne
def makeE (φ : Sem) (c ini : String) (n : Nat) (dds : List D) (f v : Option (List D)) : Option (Kd × D) := match f with
  | some ds => (mk1 φ c ini n (ds ++ dds)).map (Prod.mk .fr)
  | none => match v with
    | some ds => (mk1 φ c ini n (ds ++ dds)).map fun d => (.vw, fz d)
    | none => none
def xMake (φ : Sem) (c ini : String) (n : Nat) (as : XA W) (dds : List D) (dvs : List V) (hd : ∀ F, Shrs W F dds dvs) : XP W where
  t := fun σ H Q => W.has c -> tMake (W.cA c) (spR W n (φ ini) (some 0)) dvs E0 as.t σ H Q
  ev env := makeE φ c ini n dds (as.evF env) (as.evV env)
  snd := fun {env k d} e e' F σ H L Q r q hc => by
    unfold makeE at e
    split at e
    · rename_i ds e1
      obtain ⟨d2, h, e⟩ := Option.map_eq_some_iff.mp e
      cases e
      exact as.sF e1 e' F σ H L _ r fun vs F1 H1 x1 y1 x dx hx hdx ne => makeF x1.s (y1.append (hd F1)) hc h (fun v F2 H2 x2 y2 => q v F2 H2 (x1.trans x2) (rO_back x1.h y2)) x dx hx hdx ne
    · split at e
      · rename_i ds e2
        obtain ⟨d2, h, e⟩ := Option.map_eq_some_iff.mp e
        cases e
        exact as.sV e2 e' F σ H L _ r fun vs F1 H1 x1 y1 x dx hx hdx ne => makeV x1.s (Shrs.append y1 (hd H1)) hc h (fun v H2 x2 y2 => q v F1 H2 (x1.trans x2) y2) x dx hx hdx ne
      · cases e
structure MkAt (P : Program) (w : World) (K : PySem.W.Frag) (mg : Str -> Option Value) (base : Heap) (k : Nat) (x : Str) (C : Addr) (n : Nat) (sp : Sp) : Prop where
  ex : ∃ f fd ps, Mk K C f /\ FnOk P w K mg base (L2.CX P w) k f fd ps sp /\ mg x = some (.ref C) /\ Binds K fd ps [] /\ ps.length = n
theorem px_make {X : Cx} {k n : Nat} {x : Str} {c : String} {sp : Sp} {e : Expr} {es : List Expr} {p pos : Pos} {t : TA} (M : MkAt X.prog X.w X.K X.mg X.base k x (W.cA c) n sp) (hc : W.has c) (hr : Room (k + 1) X.A) (hg : Gl X x)
    (ha : PA X (e :: es) t) (hdb : (x == ("__debug__" : Str)) = false := by decide) (he : starEach (e :: es) X.env = (false, eval e X.env) :: starEach es X.env := by rfl) (hpl : (backTo pos (starEach es X.env)).any (·.1) = false := by rfl) :
    PE X (.Call (.Name x p) (e :: es) [] pos) (fun σ H Q => W.has c -> tMake (W.cA c) sp [] E0 t σ H Q) := by
  obtain ⟨f, fd, ps, M, F, hm, hb, _⟩ := M.ex
  exact pe_imp hc (pe_make M F hr hg hm hb .nil passE0 ha hdb he hpl)
def setF (f : String) (d : D) : List String -> List D -> List String × List D
  | n :: ns, x :: xs => if n = f then (n :: ns, d :: xs) else ((n :: (setF f d ns xs).1), x :: (setF f d ns xs).2)
  | _, _ => ([f], [d])
def setFD (T : Tbl) (f : String) (n : D) (ds : List D) : Option (D × D) := match n, ds with
  | .oins c ns xs, [d] => if T.fOk c f = true /\ ns.length < 1000 then some (.oins c (setF f d ns xs).1 (setF f d ns xs).2, .non) else none
  | _, _ => none
def rSetF {T : Tbl} (W : Wd T) (f : Str) : V -> List V -> Hp -> VK -> Prop := fun x ys H Q => ∃ a C dx fs y, x = .ref a /\ ys = [y] /\ H a = some (.ins C dx fs) /\ Cls W.K C /\ NoAttr W.K C f /\ fs.length < 1000 /\ Q .non (upd H a (.ins C dx (putF f y fs)))
theorem mop_at {F H : Hp} {a : Addr} {L : List Addr} {Ms : List Addr} {n' d : D} {o : HO} {M' L2 : List Addr} {v' : V} {Q : VK} (s : Same F H) (nd : (Ms ++ (a :: L)).Nodup) (kF : ∀ b ∈ Ms ++ (a :: L), F b = none)
    (hn : a ∉ L2 -> Own W F (upd H a o) n' (.ref a) (a :: L2)) (od : Own W F H d v' M') (n2 : (M' ++ L2).Nodup) (sub : ∀ b ∈ M' ++ L2, b ∈ L \/ b ∈ Ms)
    (q : ∀ F' H' v' Ln' M', Same F F' -> Same F' H' -> (∀ b o, b ∉ a :: L -> H b = some o -> H' b = some o) -> (∀ b o, F' b = some o -> F b = some o \/ H b = none) -> Own W F' H' n' (.ref a) Ln' -> Own W F' H' d v' M' -> (M' ++ Ln').Nodup ->
      (∀ b ∈ M' ++ Ln', F' b = none /\ (b ∈ a :: L \/ b ∈ Ms \/ H b = none)) -> Q v' H') : Q v' (upd H a o) := by
  rw [List.nodup_append] at nd
  obtain ⟨n3, n4, n5⟩ := nd
  rw [List.nodup_cons] at n4
  have na : ∀ b ∈ M' ++ L2, b ≠ a := fun b hb z => by
    subst z
    rcases sub _ hb with y | y
    · exact n4.1 y
    · exact n5 _ y _ (List.mem_cons_self ..) rfl
  have Fa : F a = none := kF a (List.mem_append_right _ (List.mem_cons_self ..))
  have nL : a ∉ L2 := fun z => na a (List.mem_append_right _ z) rfl
  refine q F (upd H a o) v' (a :: L2) M' (Same.refl _) (same_upd s Fa) (fun b u hb hu => ?_) (fun b u hu => .inl hu) (hn nL) (own_upd od fun z => na a (List.mem_append_left _ z) rfl) ?_ (fun b hb => ?_)
  · rw [upd_ne (fun z => hb (by rw [z]; exact List.mem_cons_self ..))]; exact hu
  · rw [List.nodup_append] at n2 ⊢
    refine ⟨n2.1, List.nodup_cons.mpr ⟨fun z => na a (List.mem_append_right _ z) rfl, n2.2.1⟩, fun b hb c hc => ?_⟩
    rcases List.mem_cons.mp hc with z | z
    · rw [z]; exact na b (List.mem_append_left _ hb)
    · exact n2.2.2 b hb c z
  · rcases List.mem_append.mp hb with z | z
    · have := sub b (List.mem_append_left _ z)
      refine ⟨kF b ?_, ?_⟩
      · rcases this with y | y
        · exact List.mem_append_right _ (List.mem_cons_of_mem _ y)
        · exact List.mem_append_left _ y
      · rcases this with y | y
        · exact .inl (List.mem_cons_of_mem _ y)
        · exact .inr (.inl y)
    · rcases List.mem_cons.mp z with z | z
      · subst z; exact ⟨Fa, .inl (List.mem_cons_self ..)⟩
      · have := sub b (List.mem_append_right _ z)
        refine ⟨kF b ?_, ?_⟩
        · rcases this with y | y
          · exact List.mem_append_right _ (List.mem_cons_of_mem _ y)
          · exact List.mem_append_left _ y
        · rcases this with y | y
          · exact .inl (List.mem_cons_of_mem _ y)
          · exact .inr (.inl y)
theorem setF_owns {F H : Hp} {f : String} {d : D} {y : V} {M : List Addr} (o : Own W F H d y M) : ∀ {ns : List String} {xs : List D} {vs : List V} {L : List Addr}, Owns W F H xs vs L -> ns.length = vs.length -> (M ++ L).Nodup ->
    ∃ vs' L', putF (so f) y ((ns.map so).zip vs) = (((setF f d ns xs).1).map so).zip vs' /\ (setF f d ns xs).1.length = vs'.length /\ Owns W F H (setF f d ns xs).2 vs' L' /\ (∀ a ∈ L', a ∈ L \/ a ∈ M) /\ L'.Nodup
  | [], [], [], _, .nil, _, nd => ⟨[y], M ++ [], rfl, rfl, .cons o .nil, fun a m => .inr (by simpa using m), by simpa using nd⟩
  | n :: ns, x :: xs, v :: vs, _, .cons (L := L1) (M := L2) h t, hl, nd => by
    rw [List.nodup_append] at nd
    obtain ⟨n1, n2, n3⟩ := nd
    rw [List.nodup_append] at n2
    obtain ⟨p1, p2, p3⟩ := n2
    by_cases e : n = f
    · refine ⟨y :: vs, M ++ L2, ?_, ?_, ?_, fun a m => ?_, ?_⟩
      · subst e
        show (if so n = so n then (so n, y) :: (ns.map so).zip vs else _) = ((if n = n then (n :: ns, d :: xs) else ((n :: (setF n d ns xs).1), x :: (setF n d ns xs).2)).1.map so).zip (y :: vs)
        rw [if_pos rfl, if_pos rfl]; rfl
      · show ((if n = f then (n :: ns, d :: xs) else ((n :: (setF f d ns xs).1), x :: (setF f d ns xs).2)).1).length = _
        rw [if_pos e]; simpa using hl
      · show Owns W F H ((if n = f then (n :: ns, d :: xs) else ((n :: (setF f d ns xs).1), x :: (setF f d ns xs).2)).2) _ _
        rw [if_pos e]; exact .cons o t
      · rcases List.mem_append.mp m with m | m
        · exact .inr m
        · exact .inl (List.mem_append_right _ m)
      · rw [List.nodup_append]
        exact ⟨n1, p2, fun a ha b hb => n3 a ha b (List.mem_append_right _ hb)⟩
    · obtain ⟨vs', L', e1, e2, e3, e4, e5⟩ := setF_owns (f := f) o t (ns := ns) (by simpa using hl) (by
        rw [List.nodup_append]
        exact ⟨n1, p2, fun a ha b hb => n3 a ha b (List.mem_append_right _ hb)⟩)
      refine ⟨v :: vs', L1 ++ L', ?_, ?_, ?_, fun a m => ?_, ?_⟩
      · show (if so n = so f then (so n, y) :: (ns.map so).zip vs else (so n, v) :: putF (so f) y ((ns.map so).zip vs)) = ((if n = f then (n :: ns, d :: xs) else ((n :: (setF f d ns xs).1), x :: (setF f d ns xs).2)).1.map so).zip (v :: vs')
        rw [if_neg (fun z => e (so_inj z)), if_neg e, e1]; rfl
      · show ((if n = f then (n :: ns, d :: xs) else ((n :: (setF f d ns xs).1), x :: (setF f d ns xs).2)).1).length = _
        rw [if_neg e]; simpa using e2
      · show Owns W F H ((if n = f then (n :: ns, d :: xs) else ((n :: (setF f d ns xs).1), x :: (setF f d ns xs).2)).2) _ _
        rw [if_neg e]; exact .cons h e3
      · rcases List.mem_append.mp m with m | m
        · exact .inl (List.mem_append_left _ m)
        · exact (e4 a m).imp (List.mem_append_right _) id
      · rw [List.nodup_append]
        refine ⟨p1, e5, fun a ha b hb z => ?_⟩
        subst z
        rcases e4 a hb with q | q
        · exact p3 a ha a q rfl
        · exact n3 a q a (List.mem_append_left _ ha) rfl
  | [], _ :: _, _, _, .cons _ _, hl, _ => by simp at hl
  | _ :: _, [], _, _, .nil, hl, _ => by simp at hl
theorem mop_setF {f : String} : Mop W (rSetF W (so f)) (setFD T f) := by
  intro n ds n' d hf F H vn Ln vs Ms Q s o os nd kF q
  unfold setFD at hf
  split at hf
  · rename_i c ns xs d0
    obtain ⟨⟨hf1, hf2⟩, e⟩ := ite_some hf
    cases e
    obtain ⟨u, rfl, o2⟩ := os.one
    cases o with
    | sh y => cases y
    | @oins a c dx ns xs vs L ha hc hl hs =>
      obtain ⟨vs', L', e1, e2, e3, e4, e5⟩ := setF_owns (f := f) o2 hs hl (nd_tail nd)
      refine ⟨a, _, dx, _, u, rfl, rfl, ha, W.cl c hc, W.na c f hc hf1, by simp; omega, ?_⟩
      refine mop_at (L2 := L') (M' := []) (d := .non) s nd kF (fun na => .oins (by rw [upd_same, e1]) hc e2 (owns_upd e3 na)) (.sh .non) (by simpa using e5) (fun b hb => e4 b (by simpa using hb)) q
  · cases hf
def fldK (T : Tbl) {W : Wd T} (p : XPl W) (f : String) (d : D) (e : Py.Env) : RS := RS.ofO ((p.ev e).bind fun q => (setFD T f q.2 [d]).bind fun z => (getS e p.root).map fun d0 => e.set p.root (some (d0.putAt q.1 z.1)))
def xsFld (p : XPl W) (f : String) (m : XM W) : XS W where
  t E := sFld W.K p.t (m.t E) (so f)
  ev P env := (m.ev P env).thenS (fldK T p f)
  snd := fun P E env hn e F σ H L Dn hP r s => by
    have hm : m.ev P env ≠ .no := fun z => hn (by rw [z]; rfl)
    refine (m.snd P E env).run hm hP r s (fun x e1 h => by rw [h]; rfl) fun d env' v F' H' L' M h r' o nd kk => ?_
    rw [h] at hn s
    have hn : fldK T p f d env' ≠ .no := hn
    have s : Sat W e E (ends (fldK T p f d env')) Dn := s
    unfold fldK at hn s
    cases h2 : ((p.ev env').bind fun q => (setFD T f q.2 [d]).bind fun z => (getS env' p.root).map fun d0 => env'.set p.root (some (d0.putAt q.1 z.1))) with
    | none => rw [h2] at hn; exact absurd rfl hn
    | some e2 =>
      rw [h2] at s
      obtain ⟨⟨st, n⟩, e1, h3⟩ := Option.bind_eq_some_iff.mp h2
      obtain ⟨⟨n', d'⟩, e3, h4⟩ := Option.bind_eq_some_iff.mp h3
      obtain ⟨d0', e4, h5⟩ := Option.map_eq_some_iff.mp h4
      subst h5
      obtain ⟨d0, h0, h1⟩ := p.at_ e1
      rw [getS_some e4] at h0
      cases h0
      obtain ⟨v0, _, _, _, hs, _⟩ := r'.focus (getS_some e4) h1
      refine p.loc e1 e F' σ H' L' v0 _ r' hs fun vn F1 H1 x1 p1 => ?_
      rw [List.nodup_append] at nd
      obtain ⟨nd1, nd2, nd3⟩ := nd
      have go : rSetF W (so f) vn [v] H1 (fun _ H => Dn.nx σ H) := by
        refine am_mop mop_setF (r'.ext x1) (getS_some e4) h1 hs p1 e3 (Ms := M ++ []) (.cons (o.frame x1.f fun a _ o q => x1.h _ _ q) .nil) (by simpa using nd1) (fun a ha => ?_) fun v2 F2 H2 L2 M2 r2 o2 n2 k2 => s.nx _ _ _ _ _ rfl r2
        have ha : a ∈ M := by simpa using ha
        refine ⟨fun z => nd3 a ha a z rfl, ?_, (kk a ha).2⟩
        obtain ⟨u, hu⟩ := o.lives a ha
        cases z : F1 a with
        | none => rfl
        | some w =>
          rcases x1.n a w z with y | y
          · rw [(kk a ha).1] at y; cases y
          · rw [hu] at y; cases y
      obtain ⟨a, C, dx, fs, y, ex, ey, ha, c1, c2, c3, q⟩ := go
      cases ey
      exact ⟨a, C, dx, fs, ex, ha, c1, c2, c3, q⟩
structure MethAt (K : PySem.W.Frag) (C : Addr) (m : String) (x qual : Str) (st : Stmt) (dvs : List V) (kws : List (Str × V)) : Prop where
  ex : ∃ g fd, FunD K x qual (defArgs st) (defBody st) (defScope st) dvs kws g fd /\ Meth K C (so m) g
structure MdOk (P : Program) (w : World) (K : PySem.W.Frag) (mg : Str -> Option Value) (base : Heap) (k : Nat) (C : Addr) (m : String) (n : Nat) (sp : Sp) : Prop where
  ex : ∃ g fd ps, Meth K C (so m) g /\ FnOk P w K mg base (L2.CX P w) k g fd ps sp /\ Binds K fd ps [] /\ ps.length = n
section
variable {P : Program} {w : World} {K : PySem.W.Frag} {mg : Str -> Option Value} {base : Heap}
theorem md_of {C : Addr} {m : String} {x qual : Str} {st : Stmt} {N ps : List Str} {n k : Nat} {sp : Sp} (D : MethAt K C m x qual st [] []) (S : FnScope N ps (defScope st)) (bp : BindsP x qual st ps) (hn : ps.length = n) (len : ∀ vs H Q E, sp vs H Q E -> vs.length = ps.length)
    (hbody : ∀ (f : Addr) (cdv : Value) (A : Around) (outer : List PySem.Env) (s : Shared) (H : Hp) (vs : List V) (Q : VK) (E : XK), Room k (A.deeper (PyProof.Rows.envOfC qual (defScope st) s.heap.objs.size f cdv)) -> sp vs H Q E ->
      ∃ t, PSs (cxOf (L2.CX P w) P w K mg base N qual (defScope st) f cdv A outer s H E) (defBody st) t /\ t { nx := fun _ H' => Q .non H', rt := Q } (L2.start N vs) H) : MdOk P w K mg base (k + 1) C m n sp := by
  obtain ⟨f, fd, F, hm⟩ := D.ex
  refine ⟨f, fd, ps, hm, F.ok S len fun cdv A outer s H vs Q E hr h => ?_, F.bindsN bp, hn⟩
  obtain ⟨t, q1, q2⟩ := hbody f cdv A outer s H vs Q E hr h
  exact ⟨t, q1, q2⟩
theorem md_no {C : Addr} {m : String} {x qual : Str} {st : Stmt} {ps : List Str} {n k : Nat} (D : MethAt K C m x qual st [] []) (bp : BindsP x qual st ps) (hn : ps.length = n) {sp : Sp} (h : ∀ vs H Q E, ¬ sp vs H Q E) : MdOk P w K mg base k C m n sp := by
  obtain ⟨f, fd, F, hm⟩ := D.ex
  exact ⟨f, fd, ps, hm, ⟨fun vs H Q E z => absurd z (h vs H Q E), fun A outer s H args us vs Q E _ _ _ _ z => absurd z (h vs H Q E)⟩, F.bindsN bp, hn⟩
theorem mk_of {C : Addr} {x : Str} {f : Addr} {n k : Nat} {sp : Sp} (M : Mk K C f) (D : MdOk P w K mg base k C "__init__" n sp) (hm : mg x = some (.ref C)) : MkAt P w K mg base k x C n sp := by
  obtain ⟨g, fd, ps, hg, F, hb, hl⟩ := D.ex
  have e := M.init
  rw [hg.at_] at e
  cases e
  exact ⟨_, fd, ps, M, F, hm, hb, hl⟩
end
structure Pp (P : Program) (w : World) (K : PySem.W.Frag) (mg : Str -> Option Value) (base : Heap) {T : Tbl} (W : Wd T) (k : Nat) (m : String) (φ : Sem) : Prop where
  ex : ∀ c nm, W.has c -> T.res c m = some nm -> ∃ p g fd ps, PropOf K (W.cA c) (so m) p g /\ FnOk P w K mg base (L2.CX P w) k g fd ps (spR W 1 (φ nm) none) /\ Binds K fd ps []
def rLenI {T : Tbl} (W : Wd T) (φ : Sem) : List V -> Hp -> VK -> Prop := fun xs H Q => ∃ a c nm dx fs, xs = [.ref a] /\ H a = some (.ins (W.cA c) dx fs) /\ W.has c /\ T.res c "__len__" = some nm /\ spR W 1 (φ nm) none [.ref a] H (fun v H' => ∃ i, v = .int i /\ 0 <= i /\ i < 2 ^ 63 /\ Q (.int i) H') E0
theorem len_own {prog : Program} {w : World} {A : Around} {E : Value -> Shared -> Prop} {s : Shared} {K : PySem.W.Frag} {x C f : Addr} {ox : Obj} {od : Option Obj} {Q : Value -> Shared -> Prop} (X : K.In s.heap) (I : PySem.W.InstAt s.heap x ox C od) (hs : PySem.W.findIn K (.ref C) "__len__" = some (some (.ref f))) (hf : PySem.W.isFn K (.ref f) = true)
    (h : wpAny (model prog w) A.in1 (call (.ref f) [.ref x]) (PySem.W.LenBack Q) E s) : wpAny (model prog w) A (call (.builtin "len") [.ref x]) Q E s := by
  refine Calls.call_function_entry PySem.kind_len PySem.plain_len PySem.entry_len (PySem.args_len1 _) ?_
  unfold Builtin.«len»
  refine wpAny_bind (m := oneArg "len" _) (wpAny_pure ?_)
  refine wpAny_bind (m := callSpecial? (.ref x) (Str.ofString "__len__")) (PySem.W.special_fn X I hs (beq_iff_eq.mp hf) (wpAny_mono h (fun r s' hr => ?_) fun _ _ y => y))
  cases r <;> first | exact hr.elim | skip
  rename_i n u
  obtain ⟨⟨h0, h1⟩, hq⟩ := hr
  refine wpAny_bind (wpAny_holding (wpAny_pure ?_))
  refine wpAny_bind (wpAny_letGo ?_)
  show wpAny _ _ (if n < 0 then _ else _) _ _ _
  rw [if_neg (by omega)]
  show wpAny _ _ (if n ≥ 2 ^ 63 then _ else _) _ _ _
  rw [if_neg (by omega)]
  exact wpAny_bind (wpAny_mkInt (wpAny_pure ⟨_, rfl, hq⟩))
theorem call_lenI {X : Cx} {k : Nat} {φ : Sem} (M : Mt X.prog X.w X.K X.mg X.base W k "__len__" 1 φ none) (hr : Room (k + 1) X.A) (hK : W.K = X.K) : CallR X (.builtin "len") (rLenI W φ) := by
  rintro pins s σ H xs us Q I rv ⟨a, c, nm, dx, fs, rfl, ea, hc, hn, h⟩
  cases rv with
  | @cons _ u _ _ ru rt =>
  cases rt
  obtain rfl : u = Value.ref a := ru
  obtain ⟨g, fd, ps, hm, F, hb⟩ := M.ex c nm hc hn
  obtain ⟨mA, O, _, _, _, _⟩ := ins_get I.hok ea
  obtain ⟨od, J, _⟩ := O.look
  have hl : ([Value.ref a] ++ []).length = ps.length := by rw [<- F.len _ _ _ _ h]; rfl
  refine len_own I.kIn J hm.at_ hm.fn (wpAny_call ?_)
  refine codeAny_mono (F.run X.A.in1 X.stack s H ⟨[.ref a], []⟩ [.ref a] [.ref a] _ E0 hr.in1 I.env0.in1 (hb s [.ref a] I.kIn hl) (.cons rfl .nil) h) fun r s' hq => ?_
  cases r with
  | error er => exact passE0 pins σ H s er s' I hq
  | ok fl =>
    cases fl with
    | ret u =>
      obtain ⟨v, H', I3, rv, i, rfl, h0, h1, q3⟩ := I.after hq
      obtain ⟨t, rfl⟩ := (show ∃ t, u = Value.int i t from rv)
      exact ⟨⟨h0, h1⟩, .int i, H', I3.tok _, ⟨_, rfl⟩, q3⟩
    | next => exact False.elim hq
    | brk => exact False.elim hq
    | cont => exact False.elim hq
def lenI1 (T : Tbl) (φ : Sem) : List D -> Option D
  | [.ins c ns xs] => match T.res c "__len__" with
    | some nm => match φ nm [.ins c ns xs] none with
      | .ok (.int i) _ => if 0 <= i /\ i <= 1000000 then some (.int i) else none
      | _ => none
    | none => none
  | ds => lenD ds
theorem lenI1_ok {φ : Sem} {ds : List D} {d : D} (h : lenI1 T φ ds = some d) : lenD ds = some d \/ ∃ c ns xs nm i b, ds = [.ins c ns xs] /\ T.res c "__len__" = some nm /\ φ nm ds none = .ok (.int i) b /\ 0 <= i /\ i <= 1000000 /\ d = .int i := by
  unfold lenI1 at h
  split at h
  · split at h
    · split at h
      · obtain ⟨⟨h0, h1⟩, e⟩ := ite_some h
        exact .inr ⟨_, _, _, _, _, _, rfl, by assumption, by assumption, h0, h1, e.symm⟩
      · cases h
    · cases h
  · exact .inl h
theorem lenI_cb {φ : Sem} {ds : List D} {d : D} (h : lenI1 T φ ds = some d) : Cb W (fun xs H Q => rLenA W.K xs H Q \/ rLenI W φ xs H Q) ds d := by
  rcases lenI1_ok h with h | ⟨c, ns, xs, nm, i, b, rfl, h1, h2, h3, h4, rfl⟩
  · exact fun F H vs Q s y q => .inl (len_cb h F H vs Q s y q)
  · refine fun F H vs Q s y q => .inr ?_
    cases y with
    | cons y t =>
      cases t
      obtain ⟨a, dx, vs, rfl, ha, hc⟩ := shr_ins y
      refine ⟨a, c, nm, dx, _, rfl, ha, hc, h1, callV s (.cons y .nil) rfl h2 fun v H2 x2 y2 => ?_⟩
      rw [fz_isSh rfl] at y2
      cases y2
      exact ⟨i, rfl, h3, by omega, q _ F H2 x2 (rO_sh .int)⟩
def xLenU (φ : Sem) (as : XA W) : XP W := xCb (fun xs H Q => rLenA W.K xs H Q \/ rLenI W φ xs H Q) (lenI1 T φ) lenI_cb as
end
end Py
namespace Py
open PySem L2
section
variable {M : Model} {A : Around} {E : Value -> Shared -> Prop} {s : Shared} {pos : Pos} {f : Value} {first : List Value} {Q : Value -> Shared -> Prop}
end
section
variable {T : Tbl} {W : Wd T}
end
end Py
namespace L2
open PySem PySem.Spec PyProof.Rows
end L2
namespace Py
open PySem L2
section
variable {T : Tbl} {W : Wd T}
end
section
variable {T : Tbl} {W : Wd T} {env : Py.Env} {β : Type} {enc : β -> D} {dat : β -> PyData}
end
end Py
namespace Py
open PySem L2
section
variable {T : Tbl} {W : Wd T} {env env' : Py.Env} {P : List Nat} {E : WX}
theorem Rel.comp {e : Ent} {F F' H H' : Hp} {σ σ' : St} {L L' : List Addr} (r1 : Rel W e env F σ H L) (r2 : Rel W ⟨F, H, L, e.pins⟩ env' F' σ' H' L') : Rel W e env' F' σ' H' L' := by
  have up : ∀ a, (a ∈ L \/ H a = none) -> a ∈ e.L0 \/ e.H0 a = none := fun a h => h.elim (r1.ln a) r1.h0
  refine ⟨r2.sF, r2.slots, r2.nd, r2.dj, r1.s0.trans r2.s0, fun a o h => ?_, fun a o h1 h2 => r2.fr a o (fun z => ?_) (r1.fr a o h1 h2), fun a h => up a (r2.ln a h), r2.pin⟩
  · rcases r2.nw a o h with z | z | z
    · exact r1.nw a o z
    · rcases up a (.inr z) with y | y
      · exact .inr (.inr y)
      · exact .inr (.inl y)
    · rcases up a (.inl z) with y | y
      · exact .inr (.inr y)
      · exact .inr (.inl y)
  · rcases r1.ln a z with y | y
    · exact h1 y
    · rw [h2] at y; cases y
theorem Rel.base {e : Ent} {F H : Hp} {σ : St} {L : List Addr} (r : Rel W e env F σ H L) : Rel W ⟨F, H, L, e.pins⟩ env F σ H L :=
  ⟨r.sF, r.slots, r.nd, r.dj, Same.refl _, fun a o h => .inl h, fun a o _ h => h, fun a h => .inl h, r.pin⟩
inductive RL where
  | ok (ds : List D) (env : Py.Env) | exn (x : Exn) (env : Py.Env) | no
def ALr {T : Tbl} (W : Wd T) (P : List Nat) (E : WX) (t : TA) (env : Py.Env) (r : RL) : Prop := r ≠ .no ->
  ∀ (e : Ent) (F : Hp) (σ : St) (H : Hp) (L : List Addr) (Q : List V -> Hp -> Prop), P = e.pins.map (·.1) -> Rel W e env F σ H L ->
    (∀ ds env' vs F' H' L', r = .ok ds env' -> Rel W e env' F' σ H' L' -> Shrs W F' ds vs -> Q vs H') ->
    (∀ x env' F' H' L' C dd, r = .exn x env' -> Rel W e env' F' σ H' L' -> IsExn W F' x C dd -> E C dd σ H') -> t σ H Q
structure XMs {T : Tbl} (W : Wd T) where
  t : WX -> TA
  ev : List Nat -> Py.Env -> RL
  snd : ∀ P E env, ALr W P E (t E) env (ev P env)
inductive RT where
  | ok (b : Bool) (env : Py.Env) | exn (x : Exn) (env : Py.Env) | no
def ATr {T : Tbl} (W : Wd T) (P : List Nat) (E : WX) (t : TT) (env : Py.Env) (r : RT) : Prop := r ≠ .no ->
  ∀ (e : Ent) (F : Hp) (σ : St) (H : Hp) (L : List Addr) (Q : Bool -> Hp -> Prop), P = e.pins.map (·.1) -> Rel W e env F σ H L ->
    (∀ b env' F' H' L', r = .ok b env' -> Rel W e env' F' σ H' L' -> Q b H') ->
    (∀ x env' F' H' L' C dd, r = .exn x env' -> Rel W e env' F' σ H' L' -> IsExn W F' x C dd -> E C dd σ H') -> t σ H Q
structure XTM {T : Tbl} (W : Wd T) where
  t : WX -> TT
  ev : List Nat -> Py.Env -> RT
  snd : ∀ P E env, ATr W P E (t E) env (ev P env)
def RT.of (o : Option Bool) (e : Py.Env) : RT := match o with
  | some b => .ok b e
  | none => .no
def RT.then (r : RT) (f : Bool -> Py.Env -> RT) : RT := match r with
  | .ok d e => f d e
  | .exn x e => .exn x e
  | .no => .no
def RT.thenS (r : RT) (f : Bool -> Py.Env -> RS) : RS := match r with
  | .ok d e => f d e
  | .exn x e => .ex x e
  | .no => .no
theorem Sat.base {e : Ent} {F H : Hp} {σ : St} {L : List Addr} {A : AEnds} {Dn : Ends} (r : Rel W e env F σ H L) (s : Sat W e E A Dn) : Sat W ⟨F, H, L, e.pins⟩ E A Dn := by
  refine ⟨fun env' F' σ' H' L' a r' => s.nx _ _ _ _ _ a (r.comp r'), fun d env' F' σ' H' L' v M a r' o nd k => s.rt _ _ _ _ _ _ _ _ a (r.comp r') o nd fun b hb => ⟨(k b hb).1, ?_⟩, fun env' F' σ' H' L' a r' => s.bk _ _ _ _ _ a (r.comp r'), fun env' F' σ' H' L' a r' => s.ct _ _ _ _ _ a (r.comp r'), fun x env' F' σ' H' L' C dd a r' ie => s.ex _ _ _ _ _ _ _ _ a (r.comp r') ie⟩
  rcases (k b hb).2 with z | z
  · exact r.ln b z
  · exact r.h0 z
end
end Py
namespace Py
open PySem L2
section
variable {CX : CXT} {P : Program} {w : World} {K : PySem.W.Frag} {mg : Str -> Option Value} {base : Heap}
theorem fn_at {j : Nat} {g : Addr} {gd : FuncData} {nm qual : Str} {st : Stmt} {N ps : List Str} (G : FunD K nm qual (defArgs st) (defBody st) (defScope st) [] [] g gd) (S : FnScope N ps (defScope st))
    {A : Around} {out : List PySem.Env} {s0 : Shared} {H0 : Hp} {ar : Args} {ws : List Value} {xs : List V} {Q : VK} {E : XK} (room : Room (j + 1) A) (at0 : Env0 P w K mg base A out s0 H0) (bd : BindsTo s0 gd ar (ps.zip ws)) (rel : Vals xs ws) (len : xs.length = ps.length)
    (bdy : ∀ cdv : Value, ∃ t, PSs (cxOf CX P w K mg base N qual (defScope st) g cdv A out s0 H0 E) (defBody st) t /\ t { nx := fun _ h => Q .non h, rt := Q } (L2.start N xs) H0) :
    codeAny (model P w) A (.call (.ref g) ar) (CR CX out P w H0 s0 Q E) s0 := by
  obtain ⟨_, _, _, _, _, _, _, cdv, _, _, rfl, look, cod, _, _⟩ := G.ex
  have inK : K.In s0.heap := at0.mod.kin.keeps fun b o q => (at0.bs b o q).1
  have nl : s0.heap.NoLimit := at0.mod.nolimit.keeps fun b o q => (at0.bs b o q).1
  have kinds : ∀ z ∈ ps.zip ws, (defScope st).names.lookup z.1 = some .local \/ ((defScope st).names.lookup z.1 = some .cell /\ ((cellsFrom (s0.heap.objs.size + 1) (defScope st).names []).lookup z.1).isSome = true) := by
    rintro ⟨n, v⟩ hz
    refine (S.par n (List.of_mem_zip hz).1).imp id fun q => ⟨q, ?_⟩
    exact PySem.W.cellsFrom_some _ _ _ (.inl q)
  refine codeAny_call_function room.depth (inK _ _ look) rfl S.co S.gen rfl (PySem.W.codeRec_of inK cod) (bd _ _ _ _ ?_)
  refine wpAny_newFunctionEnv_cells S.kind kinds fun env1 e1 s1 ic => ?_
  subst e1
  refine ⟨nl.keeps ic.toInCall.keep, codeAny_func ?_⟩
  obtain ⟨t, hp, hq⟩ := bdy cdv
  have I := inv_start (CX := CX) (E := E) S room.hd at0 len rel ic
  refine wpAny_mono (hp.run [] s1 (L2.start N xs) H0 _ I hq) (fun fl s2 q => ?_) fun e s2 q => q
  have fin : ∀ {σ2 : St} {H2 : Hp} {v : V} {u : Value}, Inv (cxOf CX P w K mg base N qual (defScope st) g cdv A out s0 H0 E) [] σ2 H2 s2 -> RelV v u -> Q v H2 -> CE out P w H0 s0 Q u s2 := fun J rv q => ⟨_, _, J.os, J.bare, J.base, J.hok, rv, q⟩
  cases fl with
  | ret u => obtain ⟨v, _, _, J, rv, q⟩ := q; exact fin J rv q
  | next => obtain ⟨_, _, J, q⟩ := q; exact fin (v := .non) (u := .none) J rfl q
  | brk => obtain ⟨_, _, _, q⟩ := q; exact False.elim q
  | cont => obtain ⟨_, _, _, q⟩ := q; exact False.elim q
structure ItAt (P : Program) (w : World) (K : PySem.W.Frag) (mg : Str -> Option Value) (base : Heap) (C : Addr) (f : String) : Prop where
  ex : ∃ g, Meth K C "__iter__" g /\ ∀ (A : Around) (out : List PySem.Env) (s : Shared) (H : Hp) (a dx l : Addr) (fs : List (Str × V)) (zs : List V), Room 1 A -> Env0 P w K mg base A out s H -> H a = some (.ins C dx fs) -> fs.lookup (so f) = some (.ref l) -> SqL K H l zs ->
    codeAny (model P w) A (.call (.ref g) ⟨[.ref a], []⟩) (CR CX0 out P w H s (fun v H' => ∃ it, v = .ref it /\ H it = none /\ s.heap.objs.size <= it /\ H' = upd H it (ItO l it 0)) E0) s
theorem it_of {C : Addr} {f : String} {nm qual : Str} {st : Stmt} {N ps : List Str} (D : ∃ g fd, FunD K nm qual (defArgs st) (defBody st) (defScope st) [] [] g fd /\ Meth K C "__iter__" g) (S : FnScope N ps (defScope st)) (bp : BindsP nm qual st ps) (one : ps.length = 1) (hN : 0 < N.length) (hc : Cls K C) (hn : NoAttr K C (so f))
    (bdy : ∀ (g : Addr) (cdv : Value) (A : Around) (out : List PySem.Env) (s : Shared) (H : Hp), PSs (cxOf CX0 P w K mg base N qual (defScope st) g cdv A out s H E0) (defBody st) (tRet (tCB (ItX.rIterN K s.heap.objs.size) (tCons (tFld K (tVar 0) (so f)) tNil)))) : ItAt P w K mg base C f := by
  obtain ⟨g, fd, F, M⟩ := D
  refine ⟨g, M, fun A out s H a dx l fs zs room e0 ha hl hz => ?_⟩
  have b := F.bindsN bp s [.ref a] (e0.mod.kin.keeps fun b o q => (e0.bs b o q).1) (by simp [one])
  refine fn_at (j := 0) (xs := [V.ref a]) (ws := [Value.ref a]) F S room e0 (by simpa using b) (.cons (show RelV (V.ref a) (Value.ref a) from rfl) .nil) (by simp [one]) fun cdv => ⟨_, bdy g cdv A out s H, ?_⟩
  have h0 : (L2.start N [V.ref a])[0]? = some (some (.ref a)) := rfl
  exact ⟨_, h0, a, C, dx, fs, _, rfl, ha, hc, hn, hl, l, zs, rfl, hz, fun it h1 h2 => ⟨it, rfl, h1, h2, rfl⟩⟩
end
section
variable {X : Cx} {pins : List (Addr × Obj)} {σ : St} {H : Hp} {s : Shared}
theorem own_iter {A : Around} {a dx l C : Addr} {f : String} {fs : List (Str × V)} {zs : List V} {Q : Value -> Shared -> Prop} (M : ItAt X.prog X.w X.K X.mg X.base C f) (sb : Sub X 1 A) (I : Inv X pins σ H s) (ha : H a = some (.ins C dx fs)) (hl : fs.lookup (so f) = some (.ref l)) (hz : SqL X.K H l zs)
    (q : ∀ s' it, Inv X pins σ H s' -> s.heap.objs.size <= it -> s'.heap.get? it = some (GNX.itObj l 0) -> FpOk X pins H it -> Q (.ref it) s') : wpAny (model X.prog X.w) A (pyIter (.ref a)) Q X.xe s := by
  obtain ⟨g, mg, run⟩ := M.ex
  obtain ⟨mA, J, _⟩ := ins_get I.hok ha
  obtain ⟨od, J, _⟩ := J.look
  obtain ⟨m, hF⟩ := I.fr
  refine PySem.W.owit_iter hF I.ok.mod.kin J mg.at_ mg.fn ?_
  have e := I.env0
  have e0 : Env0 X.prog X.w X.K X.mg X.base A X.stack s H := ⟨by rw [sb.fr]; exact e.frames, e.mod, e.bs, e.bsz, e.funs, e.frf, e.hok, e.bare⟩
  refine wpAny_call (codeAny_mono (run A X.stack s H a dx l fs zs sb.room e0 ha hl hz) fun r s' hq => ?_)
  cases r with
  | error er => exact (fun _ _ _ _ _ _ _ h => h.elim : Passes CX0 X E0) pins σ H s er s' I hq
  | ok fl =>
    cases fl with
    | next => exact False.elim hq
    | brk => exact False.elim hq
    | cont => exact False.elim hq
    | ret u =>
      obtain ⟨v, H', I', rv, it, rfl, hn, hs, rfl⟩ := I.after hq
      obtain rfl : u = Value.ref it := rv
      have hg := itO_get I' upd_same
      have I2 := ItX.inv_drop I' (φ := _) upd_same
      rw [ItX.dropH_upd hn] at I2
      have hT : s'.TypeIs (.ref it) "list_iterator" := ⟨_, hg, rfl⟩
      unfold PySem.W.OwitIt
      refine wpAny_specialOf (name := Str.ofString "__next__") hT slot_listiter_next.lookup ?_
      refine q s' it I2 hs hg ?_
      have fp := ItX.inv_fp I' upd_same (Nat.le_trans I.sz hs)
      rw [ItX.dropH_upd hn] at fp
      exact fp
end
section
variable {prog : Program} {w : World}
theorem new_en (x : Value) : MeetsIn prog w (Builtin.«enumerate.__new__» ⟨[.type "enumerate", x], []⟩) (fun A R s => wpAny (model prog w) A.in1 (pyIter x)
    (fun itv s1 => R (.ok (.ret (.ref s1.heap.objs.size))) { s1 with heap := s1.heap.push { cls := .type "enumerate", data := .fields #[.none, .bool false, itv, rawInt 0, .none, .none] } }) (fun e s1 => R (.error e) s1) s) :=
  .of_wp fun A R s h => by
    have hsub := sub_enumerate
    have hi : ∀ {Q : Value -> Shared -> Prop} {E : Value -> Shared -> Prop}, (∀ itv s1, R (.ok (.ret (.ref s1.heap.objs.size))) { s1 with heap := s1.heap.push { cls := .type "enumerate", data := .fields #[.none, .bool false, itv, rawInt 0, .none, .none] } } -> Q itv s1) ->
        (∀ e s1, R (.error e) s1 -> E e s1) -> wpAny (model prog w) A.in1 (pyIter x) Q E s := fun q e => wpAny_mono h q e
    wp_walk using hi
    refine wpAny_stack_any fun st => wpAny_pure ?_
    split
    · rename_i c _ _ _ _ _
      cases (c == Value.type "enumerate")
      · wp_walk using hi
        all_goals first
          | exact fun _ _ q => q
          | (intro itv s1 hR; wp_walk; exact ⟨_, rfl, hR⟩)
      · wp_walk using hi
        all_goals first
          | exact fun _ _ q => q
          | (intro itv s1 hR; wp_walk; exact ⟨_, rfl, hR⟩)
    · wp_walk using hi
      all_goals first
        | exact fun _ _ q => q
        | (intro itv s1 hR; wp_walk; exact ⟨_, rfl, hR⟩)
theorem call_en {A : Around} {E : Value -> Shared -> Prop} {s : Shared} {x : Value} {Q : Value -> Shared -> Prop}
    (hr : wpAny (model prog w) A.in1.in1 (pyIter x) (fun itv s1 => ∃ it, itv = .ref it /\ ∀ h', IsEnum h' s1.heap.objs.size it 0 .none -> h'.objs.size = s1.heap.objs.size + 1 -> (∀ c o, s1.heap.get? c = some o -> h'.get? c = some o) -> Q (.ref s1.heap.objs.size) { s1 with heap := h' }) E s) :
    wpAny (model prog w) A (call (.type "enumerate") [x]) Q E s := by
  refine callType_newIn F.called_enumerate (by decide) (F.typeCall_enumerate_1 _) (F.newCall_enumerate_1 _) (fun obj => F.args_object_init_2 obj _) F.entry_enumerate_new (new_en x) ?_
  show wpAny (model prog w) A.in1.in1 (pyIter x) _ _ _
  refine wpAny_mono hr (fun itv s1 h => ?_) fun _ _ z => z
  obtain ⟨it, rfl, h⟩ := h
  have z : (s1.heap.push { cls := .type "enumerate", data := .fields #[.none, .bool false, .ref it, rawInt 0, .none, .none] }).objs.size = s1.heap.objs.size + 1 := Heap.size_push ..
  have g : IsEnum (s1.heap.push { cls := .type "enumerate", data := .fields #[.none, .bool false, .ref it, rawInt 0, .none, .none] }) s1.heap.objs.size it 0 .none := Heap.get?_push_size _ rfl
  show _ /\ _
  exact ⟨⟨_, g, rfl⟩, h _ g z fun c o e => Heap.get?_push_of_some _ e⟩
end
section
variable {T : Tbl} {W : Wd T}
structure Its (P : Program) (w : World) (K : PySem.W.Frag) (mg : Str -> Option Value) (base : Heap) {T : Tbl} (W : Wd T) : Prop where
  at_ : ∀ c f, W.has c -> T.it c = some f -> ItAt P w K mg base (W.cA c) f
def InsL {T : Tbl} (W : Wd T) (H : Hp) (a l : Addr) (zs : List V) : Prop := ∃ c f dx fs, W.has c /\ T.it c = some f /\ H a = some (.ins (W.cA c) dx fs) /\ fs.lookup (so f) = some (.ref l) /\ SqL W.K H l zs
def iOwn {T : Tbl} (W : Wd T) (tl : TE) : TI := fun σ H R => tl σ H fun x H1 => ∃ a l zs, x = .ref a /\ InsL W H1 a l zs /\ R (Itl W.K l) H1
theorem pi_own {X : Cx} {tg l : Expr} {tl : TE} (M : Its X.prog X.w X.K X.mg X.base W) (hr : Room 1 X.A) (hK : W.K = X.K) (hl : PE X l tl) : PI X tg l (iOwn W tl) := by
  refine ⟨fun pins s σ H R I h => ?_⟩
  refine thn (hl.run pins s σ H _ I h) fun v s1 ⟨x, H1, I1, r1, a, l, zs, e, ⟨c, f, dx, fs, hc, hf, ha, hlk, hz⟩, q⟩ => ?_
  subst e
  cases r1
  refine own_iter (M.at_ c f hc hf) ⟨hr, rfl⟩ I1 ha hlk (hK ▸ hz) fun s2 it I2 hs hg fp => ?_
  refine ⟨it, [it], _, _, H1, rfl, I2, turn_list l it, ⟨_, hg, rfl, rfl⟩, fun b hb => ?_, hK ▸ q⟩
  obtain rfl : b = it := by simpa using hb
  exact fp
def iEnumOwn {T : Tbl} (W : Wd T) (ta : TA) : TI := fun σ H R => ta σ H fun vs H1 => ∃ a l zs, vs = [.ref a] /\ InsL W H1 a l zs /\ R (Ite W.K l) H1
theorem pi_enumOwn {X : Cx} {e : Expr} {ta : TA} {p pos tpos : Pos} {elts : List Expr} {kk : Nat} (M : Its X.prog X.w X.K X.mg X.base W) (hr : Room 3 X.A) (hK : W.K = X.K) (hg : Gl X "enumerate") (hm : X.mg "enumerate" = none) (ha : PA X [e] ta) (hs : starEach [e] X.env = [(false, eval e X.env)] := by rfl) :
    PI X (.Tuple elts kk tpos) (.Call (.Name "enumerate" p) [e] [] pos) (iEnumOwn W ta) := by
  refine ⟨fun pins s σ H R I h => ?_⟩
  refine PyProof.Rows.Call_ (ld_blt I hg hm PyProof.Rows.boot_enumerate (PyProof.Rows.callWith_type1 (thn (ha.run pos pins s σ H _ I h) fun us s1 ⟨vs, H1, I1, r1, q1⟩ => ?_) hs rfl))
  obtain ⟨a, l, zs, ex, ⟨c, f, dx, fs, hc, hf, ha, hlk, hz⟩, q⟩ := q1
  subst ex
  cases r1 with
  | cons r rr =>
    cases rr
    cases r
    have go : wpAny (model X.prog X.w) X.A.in1.in1 (pyIter (.ref a)) (fun itv s2 => ∃ it, itv = .ref it /\ ∀ h', IsEnum h' s2.heap.objs.size it 0 .none -> h'.objs.size = s2.heap.objs.size + 1 -> (∀ b o, s2.heap.get? b = some o -> h'.get? b = some o) ->
        wpAny (model X.prog X.w) X.A (pyIter (.ref s2.heap.objs.size)) (PIE X pins σ (.Tuple elts kk tpos) R) X.xe { s2 with heap := h' }) X.xe s1 := by
      refine own_iter (M.at_ c f hc hf) (Sub.in1 (Sub.in1 ⟨hr, rfl⟩)) I1 ha hlk (hK ▸ hz) fun s2 it I2 hs hg fp => ⟨it, rfl, fun h' he hsz hk => wpAny_pyIter_enum he ?_⟩
      have I3 : Inv X pins σ H1 { s2 with heap := h' } := I2.kept (t' := s2.toks) hk
      have hlt : it < s2.heap.objs.size := Heap.lt_size hg
      refine ⟨s2.heap.objs.size, [s2.heap.objs.size, it], _, _, H1, rfl, I3, turn_enum l s2.heap.objs.size it, ⟨⟨.none, he⟩, ⟨_, hk _ _ hg, rfl, rfl⟩, Nat.ne_of_gt hlt⟩, fun b hb => ?_, hK ▸ q⟩
      have e' : b = s2.heap.objs.size \/ b = it := by simpa using hb
      rcases e' with z | z
      · subst z; exact I2.fpOk (Nat.le_refl _) (I2.hok.fresh (Nat.le_refl _))
      · subst z; exact fp
    exact call_en go
end
end Py
namespace Py
open PySem L2
section
variable {T : Tbl} {W : Wd T} {X : Cx} {pins : List (Addr × Obj)} {σ : St} {H : Hp} {s : Shared}
theorem sub_env {A : Around} {n : Nat} (sb : Sub X n A) (I : Inv X pins σ H s) : Env0 X.prog X.w X.K X.mg X.base A X.stack s H :=
  have e := I.env0
  ⟨by rw [sb.fr]; exact e.frames, e.mod, e.bs, e.bsz, e.funs, e.frf, e.hok, e.bare⟩
theorem own_len {A : Around} {k : Nat} {φ : Sem} {a dx : Addr} {c nm : String} {fs : List (Str × V)} {Q : Int -> Hp -> Prop} {E : Value -> Shared -> Prop} (M : Mt X.prog X.w X.K X.mg X.base W k "__len__" 1 φ none) (sb : Sub X (k + 1) A) (hK : W.K = X.K) (I : Inv X pins σ H s) (ea : H a = some (.ins (W.cA c) dx fs))
    (hc : W.has c) (hn : T.res c "__len__" = some nm) (h : spR W 1 (φ nm) none [.ref a] H (fun v H' => ∃ i, v = .int i /\ 0 <= i /\ i < 2 ^ 63 /\ Q i H') E0) :
    wpAny (model X.prog X.w) A (call (.builtin "len") [.ref a]) (fun u s' => ∃ i t H', u = .int i t /\ 0 <= i /\ i < 2 ^ 63 /\ Inv X pins σ H' s' /\ Q i H') E s := by
  obtain ⟨g, fd, ps, hm, F, hb⟩ := M.ex c nm hc hn
  obtain ⟨mA, O, _, _, _, _⟩ := ins_get I.hok ea
  obtain ⟨od, J, _⟩ := O.look
  have hl : ([Value.ref a] ++ []).length = ps.length := by rw [<- F.len _ _ _ _ h]; rfl
  have sb1 := Sub.in1 sb
  refine len_own I.kIn J hm.at_ hm.fn (wpAny_call ?_)
  refine codeAny_mono (F.run A.in1 X.stack s H ⟨[.ref a], []⟩ [.ref a] [.ref a] _ E0 sb1.room (sub_env sb1 I) (hb s [.ref a] I.kIn hl) (.cons rfl .nil) h) fun r s' hq => ?_
  cases r with
  | error er => exact (cx_no hq).elim
  | ok fl =>
    cases fl with
    | ret u =>
      obtain ⟨v, H', I3, rv, i, rfl, h0, h1, q3⟩ := I.after hq
      obtain ⟨t, rfl⟩ := (show ∃ t, u = Value.int i t from rv)
      exact ⟨⟨h0, h1⟩, i, _, H', rfl, h0, h1, I3.tok _, q3⟩
    | next => exact False.elim hq
    | brk => exact False.elim hq
    | cont => exact False.elim hq
theorem ext_loop {A : Around} {q it l : Addr} {zs : List V} {Rs : Result -> Shared -> Prop} (hh : A.in1.handled = none) (hz : zs.length <= sizeLine) (hne : it ≠ q) (hs : ∀ xs, SqL X.K (upd H q (.lst xs)) l zs) (hf : ∀ xs, FpOk X pins (upd H q (.lst xs)) it)
    (done : ∀ s', Inv X pins σ (upd H q (.lst zs)) s' -> Rs (.ok (.ret .none)) s') :
    ∀ (n i : Nat) (s : Shared), zs.length - i = n -> i <= zs.length -> Inv X pins σ (upd H q (.lst (zs.take i))) s -> s.heap.IsListIter it l i -> codeAny (model X.prog X.w) A (.builtin "list.extend.loop" ⟨[.ref q, .ref it, .none], []⟩) Rs s := by
  intro n
  induction n with
  | zero =>
    intro i s hn hi I st
    obtain rfl : i = zs.length := by omega
    obtain ⟨its, rv, p, hz'⟩ := I.list (hs _)
    have hl := rv.length
    obtain ⟨f0, f1, f2, f3, f4, f5⟩ := hf (zs.take zs.length)
    refine codeAny_builtin PySem.F.entry_extend_loop ?_
    rw [Around.under_plainId PySem.F.plain_extend_loop _]
    show wpAny _ A.in1 (pyNext (.ref it) >>= _) _ _ s
    refine wpAny_bind (wpAny_pyNext_list_end hh st p.isList (by simp; omega) fun h' eb => ?_)
    have I1 := I.turned (t' := s.toks) (fun b o hb e => eb b o hb e) f0 f1 f3 f4 f5
    rw [List.take_length] at I1
    exact wpAny_pure (done _ I1)
  | succ n ih =>
    intro i s hn hi I st
    obtain ⟨its, rv, p, hz'⟩ := I.list (hs _)
    have hx : zs[i]? = some (zs[i]'(by omega)) := List.getElem?_eq_getElem (by omega)
    obtain ⟨u, hu, ru⟩ := rv.get hx
    obtain ⟨f0, f1, f2, f3, f4, f5⟩ := hf (zs.take i)
    refine codeAny_builtin PySem.F.entry_extend_loop ?_
    rw [Around.under_plainId PySem.F.plain_extend_loop _]
    show wpAny _ A.in1 (pyNext (.ref it) >>= _) _ _ s
    refine wpAny_bind (wpAny_pyNext_list_item st p.isList (x := u) (by simpa using hu) fun h' st' sb => ?_)
    have I1 : Inv X pins σ (upd H q (.lst (zs.take i))) { s with heap := h' } := I.turned (t' := s.toks) (fun b o hb e => (sb.2 b hb).trans e) f0 f1 f3 f4 f5
    show wpAny _ A.in1 (updateSeq q (·.push u) >>= _) _ _ _
    obtain ⟨z, its2, k, r2, hl, e⟩ := I1.lstM upd_same
    have hlen : (zs.take i).length = i := by rw [List.length_take]; omega
    have ht : zs.take (i + 1) = zs.take i ++ [zs[i]'(by omega)] := by rw [List.take_add_one, hx]; rfl
    refine wpAny_bind (wpAny_updateSeq e rfl (wpAny_pure ⟨plainId_quiet PySem.F.plain_extend_loop _, ?_⟩) (by rw [List.size_toArray]; omega) (by show (its2.toArray.push u).size <= sizeLine + 1; rw [Array.size_push, List.size_toArray]; omega))
    have I2 := I1.lset (f := (·.push u)) (its' := its2 ++ [u]) (ys := zs.take (i + 1)) (t' := s.toks) upd_same e (by simp) (by rw [ht]; exact r2.append (.cons ru .nil)) (by rw [List.length_take]; omega)
    rw [upd_upd] at I2
    exact ih (i + 1) _ (by omega) (by omega) I2 (st'.at fun o e => (Heap.get?_update_other _ _ (Ne.symm hne)).trans e)
theorem own_hint {A : Around} {k : Nat} {φ : Sem} {a dx : Addr} {c nm : String} {fs : List (Str × V)} {Q : Hp -> Prop} {R : Bool -> Shared -> Prop} (M : Mt X.prog X.w X.K X.mg X.base W k "__len__" 1 φ none) (sb : Sub X (k + 1) A) (hK : W.K = X.K) (I : Inv X pins σ H s) (ea : H a = some (.ins (W.cA c) dx fs))
    (hc : W.has c) (hn : T.res c "__len__" = some nm) (h : spR W 1 (φ nm) none [.ref a] H (fun v H' => ∃ i, v = .int i /\ 0 <= i /\ i <= 1000000 /\ Q H') E0) (q : ∀ b s' H', Inv X pins σ H' s' -> Q H' -> R b s') :
    wpAny (model X.prog X.w) A (Builtin.List.listLengthHint (.ref a)) R X.xe s := by
  obtain ⟨g, fd, ps, hm, F, hb⟩ := M.ex c nm hc hn
  obtain ⟨mA, O, _, _, _, _⟩ := ins_get I.hok ea
  obtain ⟨od, J, _⟩ := O.look
  unfold Builtin.List.listLengthHint
  refine wpAny_bind (wpAny_bind (J.type.here ((PySem.W.looks_findIn I.kIn hm.at_).here ?_)))
  refine PySem.W.KFB.if_not rfl ?_
  show wpAny _ _ (rule "list.length-hint.len" >>= _) _ _ _
  refine wpAny_bind (wpAny_rule ?_)
  refine wpAny_bind (wpAny_attempt (wpAny_mono (own_len (E := fun _ _ => False) (Q := fun i H' => i <= 1000000 /\ Q H') M sb hK I ea hc hn ?_) (fun u s' hu => ?_) fun e s' he => (show False from he).elim))
  · obtain ⟨F', args, L0, h1, h2, h3, h4, h5, h6, h7, h8⟩ := h
    refine ⟨F', args, L0, h1, h2, h3, h4, h5, h6, fun d bd e F2 H2 v M Mb p o ob nd kk => ?_, h8⟩
    obtain ⟨i, rfl, z0, z1, z2⟩ := h7 d bd e F2 H2 v M Mb p o ob nd kk
    exact ⟨i, rfl, z0, by omega, z1, z2⟩
  · obtain ⟨i, t, H', rfl, h0, h1, I', hle, hq⟩ := hu
    show wpAny _ _ (if Builtin.List.listTooLong i.toNat = true then _ else _) _ _ _
    rw [if_neg (by rw [notLongL (Nat.le_trans (show i.toNat <= 1000000 by omega) (by decide))]; decide)]
    exact wpAny_pure (q _ s' H' I' hq)
def rLstO {T : Tbl} (W : Wd T) (φ : Sem) : List V -> Hp -> VK -> Prop := fun xs H Q => ∃ a c f l dx fs zs nm, xs = [.ref a] /\ W.has c /\ T.it c = some f /\ T.res c "__len__" = some nm /\ H a = some (.ins (W.cA c) dx fs) /\ fs.lookup (so f) = some (.ref l) /\ SqL W.K H l zs /\ zs.length <= 1000000 /\
  ∀ q, H q = none -> spR W 1 (φ nm) none [.ref a] (upd H q (.lst [])) (fun v H' => ∃ i, v = .int i /\ 0 <= i /\ i <= 1000000 /\ H' q = some (.lst []) /\ SqL W.K H' l zs /\ (∀ xs, SqL W.K (upd H' q (.lst xs)) l zs) /\ Q (.ref q) (upd H' q (.lst zs))) E0
theorem call_listI {k : Nat} {φ : Sem} (M : Mt X.prog X.w X.K X.mg X.base W k "__len__" 1 φ none) (N : Its X.prog X.w X.K X.mg X.base W) (hr : Room (k + 3) X.A) (hK : W.K = X.K) : CallR X (.type "list") (rLstO W φ) := by
  rintro pins s σ H xs us Q I rv ⟨a, c, f, l, dx, fs, zs, nm, rfl, hc, hf, hn, ea, hlk, hz, hzl, hq⟩
  cases rv with
  | @cons _ u _ _ ru rt =>
  cases rt
  obtain rfl : u = Value.ref a := ru
  have sb : Sub X (k + 1) X.A.in1.in1 := Sub.in1 (Sub.in1 (⟨hr, rfl⟩ : Sub X (k + 3) X.A))
  refine callType_codes (Q₁ := fun obj s₁ => obj = .ref s.heap.objs.size /\ s₁ = { s with heap := s.heap.push { cls := .type "list", data := .seq #[] } }) PySem.F.called_list (PySem.F.typeCall_list_1 _) PySem.F.entry_list_init
    (code_list_new _ ⟨rfl, rfl⟩) fun obj s₁ h₁ => ?_
  obtain ⟨rfl, rfl⟩ := h₁
  have hS : (s.heap.push { cls := .type "list", data := .seq #[] }).get? s.heap.objs.size = some { cls := .type "list", data := .seq #[] } := Heap.get?_push_size _ rfl
  refine ⟨⟨_, hS, rfl⟩, PySem.F.args_list_init_2 _ _, ?_⟩
  have fr : H s.heap.objs.size = none := I.hok.fresh (Nat.le_refl _)
  have hsp := hq _ fr
  generalize hqq : s.heap.objs.size = q at *
  have I1 : Inv X pins σ (upd H q (.lst [])) { s with heap := s.heap.push { cls := .type "list", data := .seq #[] } } := by rw [<- hqq]; exact I.lnew (its := []) (t' := s.toks) .nil (Nat.zero_le _)
  show wpAny _ _ (do let old <- Builtin.List.listItems (.ref q); Builtin.List.listUpdate (.ref q) (fun _ => #[]); letGo old.toList.reverse; Builtin.List.listExtendWith (.ref q) (.ref a) .none) _ _ _
  refine wpAny_bind ?_
  unfold Builtin.List.listItems
  refine wpAny_bind (wpAny_seqItems hS rfl (wpAny_pure ?_))
  show wpAny _ _ (updateSeq q (fun _ => #[]) >>= fun _ => letGo (#[] : Array Value).toList.reverse >>= fun _ => Builtin.List.listExtendWith (.ref q) (.ref a) .none) _ _ _
  refine wpAny_bind (wpAny_updateSeq hS rfl ?_)
  have I2 := I1.lset (f := fun _ => #[]) (its := []) (its' := []) (ys := []) (t' := s.toks) upd_same hS rfl .nil (Nat.zero_le _)
  rw [upd_upd] at I2
  refine wpAny_bind (wpAny_letGo ?_)
  have ea2 : upd H q (.lst []) a = some (.ins (W.cA c) dx fs) := by rw [upd_ne (ne_of_none ea fr)]; exact ea
  have hne : q ≠ a := fun z => by rw [z, ea] at fr; cases fr
  obtain ⟨mA, J, _⟩ := ins_get I2.hok ea2
  obtain ⟨od, J, _⟩ := J.look
  unfold Builtin.List.listExtendWith
  refine wpAny_bind (J.type.here ?_)
  have h1 : Builtin.List.listSameRef (.ref q) (.ref a) = false := by simp [Builtin.List.listSameRef, hne]
  have h2 : (Value.ref (W.cA c) == Value.type "list") = false := rfl
  have h3 : (Value.ref (W.cA c) == Value.type "tuple") = false := rfl
  simp only [h1, h2, h3, Bool.or_false, Bool.false_eq_true, if_false]
  have hz2 : SqL X.K (upd H q (.lst [])) l zs := hK ▸ (same_new fr).seq hz
  refine wpAny_bind (wpAny_mono (own_iter (N.at_ c f hc hf) (sb.mono (by omega)) I2 ea2 hlk hz2 fun s2 it I3 hs hg fp => ?_) (fun _ _ z => z) fun e s' he => he)
  have p1 : ∀ b ∈ [it], FpOk X pins (upd H q (.lst [])) b := fun b hb => by
    obtain rfl : b = it := by simpa using hb
    exact fp
  have p2 : ∀ b ∈ [it], ∃ o, s2.heap.get? b = some o /\ ∀ v, o.data ≠ .cell v := fun b hb => by
    obtain rfl : b = it := by simpa using hb
    exact ⟨_, hg, fun v z => nomatch z⟩
  have I3' := I3.pinned p1 p2
  have hpin : pinsAt [it] s2.heap = [(it, GNX.itObj l 0)] := by simp [pinsAt, hg]
  rw [hpin] at I3'
  have niq : it ≠ q := fun z => by
    have := fp.1
    rw [z, upd_same] at this
    cases this
  have hand : X.A.in1.in1.handled = none := sb.room.hd
  have go : ∀ (H' : Hp) (s' : Shared), Inv X (pins ++ [(it, GNX.itObj l 0)]) σ H' s' -> H' q = some (.lst []) -> (∀ xs, SqL W.K (upd H' q (.lst xs)) l zs) -> Q (.ref q) (upd H' q (.lst zs)) ->
      codeAny (model X.prog X.w) X.A.in1 (.builtin "list.extend.loop" ⟨[.ref q, .ref it, .none], []⟩) (wants (fun r s₂ => r = .none /\ EP X pins σ Q (.ref q) s₂) X.xe) s' := by
    intro H' s' I' e1 e2 e3
    have pn := I'.pin (it, GNX.itObj l 0) (List.mem_append_right _ (List.mem_append_right _ (by simp)))
    have hu : upd H' q (.lst (zs.take 0)) = H' := by
      funext b
      by_cases hb : b = q
      · subst hb; rw [upd_same, e1]; rfl
      · rw [upd_ne hb]
    refine ext_loop hand (Nat.le_trans hzl (by decide)) niq (hK ▸ e2) (fun xs => ⟨by rw [upd_ne niq]; exact pn.2.1, fp.2⟩) (fun s3 J3 => ⟨rfl, .ref q, _, J3, rfl, e3⟩) _ 0 s' rfl (Nat.zero_le _) (by rw [hu]; exact I'.unpinned) ⟨_, pn.1, rfl, rfl⟩
  refine wpAny_bind (wpAny_holding (wpAny_mono (own_hint M sb hK I3' ea2 hc hn hsp (R := fun b s' => ∃ H', Inv X (pins ++ [(it, GNX.itObj l 0)]) σ H' s' /\ H' q = some (.lst []) /\ SqL W.K H' l zs /\ (∀ xs, SqL W.K (upd H' q (.lst xs)) l zs) /\ Q (.ref q) (upd H' q (.lst zs))) fun b s' H' I' h => ⟨H', I', h⟩) (fun b s' h => ?_) fun e s' he => he))
  obtain ⟨H', I', e1, _, e2, e3⟩ := h
  refine wpAny_ite_split (fun _ => ?_) (fun _ => wpAny_pure ⟨plainId_quiet PySem.F.plain_extend_loop _, go H' s' I' e1 e2 e3⟩)
  refine wpAny_bind (wpAny_rule ?_)
  refine wpAny_bind ?_
  show wpAny _ _ (updateSeq q (·.push .none) >>= fun _ => updateSeq q (·.pop)) _ _ _
  obtain ⟨z4, its4, k4, r4, hl4, e4⟩ := I'.lstM e1
  cases r4
  refine wpAny_bind (wpAny_updateSeq e4 rfl ?_)
  have I5 := I'.lset (f := (·.push Value.none)) (its' := [Value.none]) (ys := [.non]) (t' := s'.toks) e1 e4 (by simp) (.cons rfl .nil) (by decide)
  obtain ⟨z6, its6, k6, r6, hl6, e6⟩ := I5.lstM upd_same
  obtain ⟨u6, rfl, ru6⟩ := r6.one
  refine wpAny_updateSeq e6 rfl ?_ (by show 1 <= sizeLine; decide) (by show 0 <= sizeLine + 1; exact Nat.zero_le _)
  have I7 := I5.lset (f := (·.pop)) (its := [u6]) (its' := []) (ys := []) (t' := s'.toks) upd_same e6 (by rfl) .nil (Nat.zero_le _)
  rw [upd_upd] at I7
  have hu : upd H' q (.lst []) = H' := by
    funext b
    by_cases hb : b = q
    · subst hb; rw [upd_same, e1]
    · rw [upd_ne hb]
  rw [hu] at I7
  exact wpAny_pure ⟨plainId_quiet PySem.F.plain_extend_loop _, go H' _ I7 e1 e2 e3⟩
end
end Py
namespace Py
open PySem L2
section
variable {T : Tbl} {W : Wd T} {env : Py.Env} {d : D}
def itOf (T : Tbl) : D -> Option (List D)
  | .ins c ns xs => (T.it c).bind fun f => (pos f ns).bind fun j => (xs[j]?).bind lstOf
  | .oins c ns xs => (T.it c).bind fun f => (pos f ns).bind fun j => (xs[j]?).bind lstOf
  | _ => none
theorem itOf_ok {F H : Hp} {v : V} {L : List Addr} {zs : List D} (s : Same F H) (o : Own W F H d v L) (h : itOf T d = some zs) :
    ∃ a c f l dx fs vs, v = .ref a /\ W.has c /\ T.it c = some f /\ H a = some (.ins (W.cA c) dx fs) /\ fs.lookup (so f) = some (.ref l) /\ H l = some (.lst vs) /\ Shrs W F zs vs /\ (∃ ns xs, fz d = .ins c ns xs) := by
  have gen : ∀ {c ns xs us dx a M}, ((T.it c).bind fun f => (pos f ns).bind fun j => (xs[j]?).bind lstOf) = some zs -> H a = some (.ins (W.cA c) dx ((ns.map so).zip us)) -> W.has c -> Owns W F H xs us M -> (∃ ns xs, fz d = .ins c ns xs) ->
      ∃ a' c f l dx fs vs, V.ref a = .ref a' /\ W.has c /\ T.it c = some f /\ H a' = some (.ins (W.cA c) dx fs) /\ fs.lookup (so f) = some (.ref l) /\ H l = some (.lst vs) /\ Shrs W F zs vs /\ (∃ ns xs, fz d = .ins c ns xs) := by
    intro c ns xs us dx a M e ha hc os hz
    obtain ⟨f, e1, e⟩ := Option.bind_eq_some_iff.mp e
    obtain ⟨j, e2, e⟩ := Option.bind_eq_some_iff.mp e
    obtain ⟨x, e3, e⟩ := Option.bind_eq_some_iff.mp e
    obtain ⟨u, M', e4, o'⟩ := os.get e3
    obtain ⟨l, vs, rfl, sh, hl⟩ := lstOf_ok s o' e
    exact ⟨a, c, f, l, dx, _, vs, rfl, hc, e1, ha, (zip_lookup e2).trans e4, hl, sh, hz⟩
  cases o with
  | sh y =>
    cases y <;> first | (cases h; done) | skip
    exact gen h (s _ _ (by assumption)) (by assumption) (Shrs.owns (by assumption)) ⟨_, _, by rw [fz_isSh rfl]⟩
  | olst => cases h
  | odic => cases h
  | odit => cases h
  | odig => cases h
  | olf => cases h
  | oins ha hc hl hs => exact gen h ha hc hs ⟨_, _, by rw [fz]⟩
def lstE (T : Tbl) (φ : Sem) (d : D) : Option (Kd × D) := match seqOf d with
  | some p => some (.fr, .olst p.2)
  | none => (itOf T d).bind fun zs => (lenI1 T φ [fz d]).bind fun _ => if zs.length <= 1000000 then some (.fr, .olst zs) else none
def xListU (φ : Sem) (a : XP W) : XP W where
  t := tCB (fun xs H Q => (∃ p ys, xs = [.ref p] /\ (SqL W.K H p ys \/ SqT W.K H p ys) /\ ∀ l, H l = none -> Q (.ref l) (upd H l (.lst ys))) \/ rLstO W φ xs H Q) (tCons a.t tNil)
  ev env := (a.evK env).bind (lstE T φ)
  snd := fun {env k d} e => by
    obtain ⟨d1, e1, e⟩ := Option.bind_eq_some_iff.mp e
    unfold lstE at e
    split at e
    · rename_i p e3
      have h := (xList a).snd (show (xList a).ev env = some (k, d) by show (a.evK env).bind _ = _; rw [e1, Option.bind_some, e3]; exact e)
      exact fun e' F σ H L Q r q => a.sK e1 e' F σ H L _ r fun v F1 H1 x1 y1 => by
        obtain ⟨L1, o⟩ := y1
        cases e
        obtain ⟨b, xs⟩ := p
        obtain ⟨a', vs, rfl, sh, sq⟩ := seqOf_ok x1.s o e3
        refine .inl ⟨a', vs, rfl, ?_, fun p hp => q _ F1 _ (x1.trans (.newH x1.s hp)) ⟨[p], .olst upd_same sh.owns, by simp, fun x m => by
          rw [List.mem_singleton.mp m]; exact ⟨x1.h.free hp, x1.s.free hp⟩⟩⟩
        cases b with
        | true => exact .inr sq
        | false => exact .inl sq
    · obtain ⟨zs, e2, e⟩ := Option.bind_eq_some_iff.mp e
      obtain ⟨n, e3, e⟩ := Option.bind_eq_some_iff.mp e
      obtain ⟨hz, e⟩ := ite_some e
      cases e
      refine fun e' F σ H L Q r q => a.sK e1 e' F σ H L _ r fun v F1 H1 x1 y1 => ?_
      obtain ⟨L1, o⟩ := y1
      obtain ⟨a', c, f, l, dx, fs, vs, rfl, hc, hf, ha, hlk, hl, sh, ns, xs, hfz⟩ := itOf_ok x1.s o e2
      rw [hfz] at e3
      rcases lenI1_ok e3 with e3 | ⟨c', ns', xs', nm, i, b, e4, h1, h2, h3, h4, rfl⟩
      · cases e3
      cases e4
      refine .inr ⟨a', c, f, l, dx, fs, vs, nm, rfl, hc, hf, h1, ha, hlk, .of hl, by rw [<- sh.length]; exact hz, fun p hp => ?_⟩
      have nF : F1 p = none := x1.s.free hp
      have sv : Shr W (upd H1 p (.lst [])) (.ins c ns xs) (.ref a') := by
        rw [<- hfz]
        exact (o.view x1.s fun _ _ _ z => z).mono (same_new hp)
      have lp : l ≠ p := fun z => by rw [z, hp] at hl; cases hl
      refine callV (F := F1) (x1.s.trans (same_new hp)) (.cons sv .nil) rfl h2 fun u H2 x2 y2 => ?_
      rw [fz_isSh rfl] at y2
      cases y2
      have hl2 : H2 l = some (.lst vs) := x2.h _ _ (by rw [upd_ne lp]; exact hl)
      refine ⟨i, rfl, h3, h4, x2.h _ _ upd_same, .of hl2, fun ys => .of (by rw [upd_ne lp]; exact hl2), ?_⟩
      refine q _ F1 _ (x1.trans ⟨Same.refl _, same_upd x2.s nF, fun b u hb => ?_, fun _ _ z => .inl z⟩) ⟨[p], .olst upd_same sh.owns, by simp, fun x m => by
        rw [List.mem_singleton.mp m]; exact ⟨x1.h.free hp, nF⟩⟩
      have hb' : b ≠ p := fun z => by rw [z, hp] at hb; cases hb
      rw [upd_ne hb']
      exact x2.h _ _ (by rw [upd_ne hb']; exact hb)
theorem InsL.mono {H H' : Hp} (e : Same H H') {a l : Addr} {zs : List V} (h : InsL W H a l zs) : InsL W H' a l zs := by
  obtain ⟨c, f, dx, fs, h1, h2, h3, h4, h5⟩ := h
  exact ⟨c, f, dx, fs, h1, h2, e _ _ h3, h4, e.seq h5⟩
def seqFI (T : Tbl) (d : D) : Option (List D) := match seqF d with
  | some ds => some ds
  | none => guardB (isSh d) (itOf T d)
def seqKI (T : Tbl) (d : D) : Option (List D) := match seqOf d with
  | some p => some p.2
  | none => itOf T d
def xiSeqU (a : XP W) : XI W where
  t := fun σ H R => iSeqU W.K a.t σ H R \/ iOwn W a.t σ H R
  evF env := (a.evF env).bind (seqFI T)
  evP env := (a.evK env).bind (seqKI T)
  sF := fun {env ds} e => by
    obtain ⟨d, e1, e⟩ := Option.bind_eq_some_iff.mp e
    unfold seqFI at e
    split at e
    · rename_i ds' e2
      cases e
      exact fun e' F σ H L R r q => .inl ((xiSeq a).sF (show (xiSeq a).evF env = some ds by show (a.evF env).bind _ = _; rw [e1]; exact e2) e' F σ H L R r q)
    · obtain ⟨hs, e⟩ := guardB_some e
      refine fun e' F σ H L R r q => .inr (a.sF e1 e' F σ H L _ r fun v F1 H1 x1 y1 => ?_)
      obtain ⟨a', c, f, l, dx, fs, vs, rfl, hc, hf, ha, hlk, hl, sh, _⟩ := itOf_ok (H := F1) (Same.refl F1) (.sh y1) e
      exact ⟨a', l, vs, rfl, InsL.mono x1.s ⟨c, f, dx, fs, hc, hf, ha, hlk, .of hl⟩, q _ F1 H1 x1 (seq_list hl sh)⟩
  sP := fun {env ds} e => by
    obtain ⟨d, e1, e⟩ := Option.bind_eq_some_iff.mp e
    unfold seqKI at e
    split at e
    · rename_i p e2
      cases e
      exact fun e' F σ H L R r q => .inl ((xiSeq a).sP (show (xiSeq a).evP env = some p.2 by show (a.evK env).bind _ = _; rw [e1, Option.bind_some, e2]; rfl) e' F σ H L R r q)
    · refine fun e' F σ H L R r q => .inr (a.sK e1 e' F σ H L _ r fun v F1 H1 x1 ⟨M, o⟩ => ?_)
      obtain ⟨a', c, f, l, dx, fs, vs, rfl, hc, hf, ha, hlk, hl, sh, _⟩ := itOf_ok x1.s o e
      exact ⟨a', l, vs, rfl, ⟨c, f, dx, fs, hc, hf, ha, hlk, .of hl⟩, q _ F1 H1 x1 (seqP_sql (.of hl) sh)⟩
theorem seqP_enum {F0 H0 : Hp} {a : Addr} {ds : List D} {vs : List V} (h : SqL W.K H0 a vs) (hs : Shrs W F0 ds vs) : SeqP W (Ite W.K a) (enumD ds) F0 H0 where
  go := fun i d F H s1 s0 s2 hd => by
    obtain ⟨y, hy, rfl⟩ := enumD_get hd
    obtain ⟨w, hw, sw⟩ := hs.get hy
    refine ⟨⟨vs, w, s0.seq h, hw⟩, fun x H' yl => ?_⟩
    obtain ⟨T, y', rfl, hT, rfl, hy'⟩ := yl
    have := hy' vs (s0.seq h)
    rw [hw] at this; cases this
    exact ⟨_, .new s2 hT, .tup upd_same (.cons .int (.cons ((sw.mono s1).mono (same_new (s2.free hT))) .nil))⟩
  stop := fun F H s1 s0 s2 => ⟨vs, s0.seq h, by rw [enumD_length, hs.length]; exact Nat.le_refl _⟩
theorem seq_enum {F0 : Hp} {a : Addr} {ds : List D} {vs : List V} (h : SqL W.K F0 a vs) (hs : Shrs W F0 ds vs) : Seq W (Ite W.K a) (enumD ds) F0 where
  go := fun i d F H s1 s2 hd => (seqP_enum (H0 := F0) h hs).go i d F H s1 (s1.trans s2) s2 hd
  stop := fun F H s1 s2 => (seqP_enum (H0 := F0) h hs).stop F H s1 (s1.trans s2) s2
def enFI (T : Tbl) (d : D) : Option (List D) := match lstF d with
  | some ds => some (enumD ds)
  | none => guardB (isSh d) ((itOf T d).map enumD)
def enKI (T : Tbl) (d : D) : Option (List D) := match lstOf d with
  | some ds => some (enumD ds)
  | none => (itOf T d).map enumD
def xiEnumU (a : XP W) : XI W where
  t := fun σ H R => iEnum W.K (tCons a.t tNil) σ H R \/ iEnumOwn W (tCons a.t tNil) σ H R
  evF env := (a.evF env).bind (enFI T)
  evP env := (a.evK env).bind (enKI T)
  sF := fun {env ds} e => by
    obtain ⟨d, e1, e⟩ := Option.bind_eq_some_iff.mp e
    unfold enFI at e
    split at e
    · rename_i ds' e2
      cases e
      cases lstF_ok e2
      exact fun e' F σ H L R r q => .inl (ait_enum (a.sF e1) e' F σ H L R r q)
    · obtain ⟨hs, e⟩ := guardB_some e
      obtain ⟨zs, e9, rfl⟩ := Option.map_eq_some_iff.mp e
      refine fun e' F σ H L R r q => .inr (a.sF e1 e' F σ H L _ r fun v F1 H1 x1 y1 => ?_)
      obtain ⟨a', c, f, l, dx, fs, vs, rfl, hc, hf, ha, hlk, hl, sh, _⟩ := itOf_ok (H := F1) (Same.refl F1) (.sh y1) e9
      exact ⟨a', l, vs, rfl, InsL.mono x1.s ⟨c, f, dx, fs, hc, hf, ha, hlk, .of hl⟩, q _ F1 H1 x1 (seq_enum (.of hl) sh)⟩
  sP := fun {env ds} e => by
    obtain ⟨d, e1, e⟩ := Option.bind_eq_some_iff.mp e
    unfold enKI at e
    split at e
    · rename_i xs e2
      cases e
      refine fun e' F σ H L R r q => .inl (a.sK e1 e' F σ H L _ r fun v F1 H1 x1 ⟨M, o⟩ => ?_)
      obtain ⟨a', vs, rfl, sh, hl⟩ := lstOf_ok x1.s o e2
      exact ⟨a', vs, rfl, .of hl, q _ F1 H1 x1 (seqP_enum (.of hl) sh)⟩
    · obtain ⟨zs, e9, rfl⟩ := Option.map_eq_some_iff.mp e
      refine fun e' F σ H L R r q => .inr (a.sK e1 e' F σ H L _ r fun v F1 H1 x1 ⟨M, o⟩ => ?_)
      obtain ⟨a', c, f, l, dx, fs, vs, rfl, hc, hf, ha, hlk, hl, sh, _⟩ := itOf_ok x1.s o e9
      exact ⟨a', l, vs, rfl, ⟨c, f, dx, fs, hc, hf, ha, hlk, .of hl⟩, q _ F1 H1 x1 (seqP_enum (.of hl) sh)⟩
end
theorem pi_or {X : Cx} {tg e : Expr} {w1 w2 : TI} (h1 : PI X tg e w1) (h2 : PI X tg e w2) : PI X tg e (fun σ H R => w1 σ H R \/ w2 σ H R) :=
  ⟨fun pins s σ H R I h => h.elim (h1.run pins s σ H R I) (h2.run pins s σ H R I)⟩
theorem ro0 {k : Nat} {A : Around} (r : Room (k + 3) A) : Room k A := r.mono (by omega)
theorem ro1 {k : Nat} {A : Around} (r : Room (k + 3) A) : Room (k + 1) A := r.mono (by omega)
section
variable {T : Tbl} {W : Wd T} {X : Cx}
theorem px_ty {c : Str} {n : String} {p : Pos} (hm : X.mg c = none) (hg : Gl X c := by rfl) (hb : bootBuiltins c = some (.type n) := by decide +kernel) (hn : c ≠ "__name__" := by decide) (hd : (c == ("__debug__" : Str)) = false := by decide) :
    PE X (.Name c p) (tC (clsV W (false, n))) := pe_bltn hg hm hb rfl hn hd
theorem px_isiT {cs : List (Bool × String)} {a : Expr} {ta : TE} {es : List Expr} {kk : Nat} {p1 p2 pos : Pos} (hm : X.mg "isinstance" = none) (hk : ∀ c ∈ cs, c.1 = false /\ c.2 ∈ ["int", "bool", "str", "list", "tuple", "dict"]) (hl : cs.length <= 100) (ha : PE X a ta) (hc : PA X es (tCls W cs)) (hg : Gl X "isinstance" := by rfl)
    (hs : starEach [a, .Tuple es kk p2] X.env = (false, eval a X.env) :: starEach [.Tuple es kk p2] X.env := by rfl) (hs2 : starEach [.Tuple es kk p2] X.env = (false, eval (.Tuple es kk p2) X.env) :: starEach [] X.env := by rfl)
    (hpl : (backTo pos (starEach [.Tuple es kk p2] X.env)).any (·.1) = false := by rfl) (hplE : (starEach es X.env).any (·.1) = false := by rfl) :
    PE X (.Call (.Name "isinstance" p1) [a, .Tuple es kk p2] [] pos) (fun σ H Q => (∀ c ∈ cs, clsOk W c) -> cs.length <= 100 -> tCB (rIsiT X.K) (tCons ta (tCons (tTup (tCls W cs)) tNil)) σ H Q) :=
  pe_imp (fun c hc => by unfold clsOk; rw [if_neg (by rw [(hk c hc).1]; decide)]; exact (hk c hc).2) (pe_imp hl (pe_callB call_isiT hg hm (by decide +kernel) (pa_cons ha (pa_cons (pe_tup hc) pa_nil hs2) hs) (he := hs) (hpl := hpl)))
end
end Py
namespace Py
open PySem L2
structure Dun {T : Tbl} (W : Wd T) : Prop where
  sf : ∀ c, W.has c -> PySem.W.selfFirst W.K (W.cA c) = true
  nt : ∀ c t, W.has c -> t ∈ ["NoneType", "bool", "int", "str", "list", "tuple", "dict"] -> PySem.W.notFirst W.K (W.cA c) (.type t) = true
  gi : ∀ c g, W.has c -> PySem.W.findIn W.K (.ref (W.cA c)) (so "__getitem__") = some (some (.ref g)) -> PySem.W.fnIn W.K g = true
section
variable {T : Tbl} {W : Wd T}
section
variable {X : Cx} {pins : List (Addr × Obj)} {σ : St} {H : Hp} {s : Shared}
end
end
end Py
namespace L2
open PySem PySem.Spec PyProof.Rows
section
variable {prog : Program} {w : World} {A : Around} {E : Value -> Shared -> Prop} {s : Shared}
end
section
variable {X : Cx} {pins : List (Addr × Obj)} {σ : St} {H : Hp} {s : Shared}
end
section
variable {prog : Program} {w : World} {A : Around} {E : Value -> Shared -> Prop} {s : Shared} {l : Addr} {its : List Value} {ns : List Int} {Q : Value -> Shared -> Prop}
theorem sumT_raw (hh : A.handled = none) (hl : s.heap.IsTuple l its.toArray) (hi : IntsAre its ns)
    (h : ∀ h' tk t', (∀ b o, s.heap.get? b = some o -> h'.get? b = some o) -> Q (.int ns.sum t') { s with heap := h', toks := tk }) : wpAny (model prog w) A (call (.builtin "sum") [.ref l]) Q E s := by
  obtain ⟨xs, e⟩ := hi.allInts.items
  have hn : numsOf (intItems xs).toList = ns := by rw [<- e]; exact hi.numsOf
  rw [nums_intItems] at hn
  rw [e] at hl
  refine PySem.W.ktm_sumG hh hl fun h' tk t' hk => ?_
  have := h h' tk t' hk
  rw [preSum_eq, List.take_of_length_le (by simp), hn]; exact this
end
section
variable {X : Cx}
def rSum2 (K : PySem.W.Frag) : List V -> Hp -> VK -> Prop := fun vs H Q => ∃ (a : Addr) (ns : List Int), vs = [V.ref a] /\ (SqL K H a (ns.map V.int) \/ SqT K H a (ns.map V.int)) /\ Q (.int ns.sum) H
theorem cr_sum2 (hc : X.calm = true) : CallR X (.builtin "sum") (rSum2 X.K) := by
  intro pins s σ H vs us Q I r h
  obtain ⟨a, ns, rfl, hs | hs, q⟩ := h
  · obtain ⟨its, rv, hl, _⟩ := I.list hs
    rw [Vals.ref1 r]
    exact sum_raw (I.ok.hd hc) hl.isList rv.ints fun h' tk t' hk => ⟨.int _, H, I.kept hk, ⟨_, rfl⟩, q⟩
  · obtain ⟨its, rv, hl, _⟩ := I.tuple hs
    rw [Vals.ref1 r]
    exact sumT_raw (I.ok.hd hc) hl rv.ints fun h' tk t' hk => ⟨.int _, H, I.kept hk, ⟨_, rfl⟩, q⟩
end
end L2
namespace Py
open PySem L2
section
variable {T : Tbl} {W : Wd T} {env : Py.Env}
def sumI (xs : List D) : Option D := (intsOf xs).map fun ns => .int ns.sum
def xSum (a : XP W) : XP W where
  t := tCB (rSum2 W.K) (tCons a.t tNil)
  ev env := (a.evK env).bind fun d => (seqOf d).bind fun p => (sumI p.2).map (Prod.mk .fr)
  snd := fun {env k d} e => by
    obtain ⟨d1, e1, e⟩ := Option.bind_eq_some_iff.mp e
    obtain ⟨⟨b, xs⟩, e3, e⟩ := Option.bind_eq_some_iff.mp e
    obtain ⟨y, e4, e⟩ := Option.map_eq_some_iff.mp e
    cases e
    obtain ⟨ns, e5, rfl⟩ := Option.map_eq_some_iff.mp e4
    intro e' F σ H L Q r q
    refine a.sK e1 e' F σ H L _ r fun v F1 H1 x1 ⟨L1, o⟩ => ?_
    obtain ⟨a, vs, rfl, sh, sq⟩ := seqOf_ok x1.s o e3
    cases intsOf_ok e5
    cases shrs_int sh
    refine ⟨a, ns, rfl, ?_, q _ F1 _ x1 (rO_sh .int)⟩
    cases b with
    | true => exact .inr sq
    | false => exact .inl sq
end
end Py
namespace Py
open PySem L2
section
variable {T : Tbl} {W : Wd T} {env : Py.Env} {d : D}
theorem set_split {α : Type} {xs : List α} {j : Nat} (h : j < xs.length) (d : α) : xs.set j d = xs.take j ++ [d] ++ xs.drop (j + 1) := by
  rw [List.set_eq_take_append_cons_drop, if_pos h, List.append_assoc]; rfl
end
end Py
namespace Py
open PySem L2
section
variable {T : Tbl} {W : Wd T}
end
structure DfD (P : Program) (w : World) (K : PySem.W.Frag) (mg : Str -> Option Value) (base : Heap) (k : Nat) (x qual : Str) (st : Stmt) (kws : List (Str × V)) (ps : List Str) (sp : Sp) : Prop where
  ex : ∃ f fd, FnOk P w K mg base (L2.CX P w) k f fd ps sp /\ mg x = some (.ref f) /\ PySem.W.keepIn K (.ref f) = true /\ FunD K x qual (defArgs st) (defBody st) (defScope st) [] kws f fd
structure MkD (P : Program) (w : World) (K : PySem.W.Frag) (mg : Str -> Option Value) (base : Heap) (k : Nat) (x : Str) (C : Addr) (qual : Str) (st : Stmt) (kws : List (Str × V)) (ps : List Str) (sp : Sp) : Prop where
  ex : ∃ f fd, Mk K C f /\ FnOk P w K mg base (L2.CX P w) k f fd ps sp /\ mg x = some (.ref C) /\ FunD K "__init__" qual (defArgs st) (defBody st) (defScope st) [] kws f fd
section
variable {P : Program} {w : World} {K : PySem.W.Frag} {mg : Str -> Option Value} {base : Heap}
end
section
variable {X : Cx} {k n : Nat} {x qual : Str} {st : Stmt} {kws0 : List (Str × V)} {ps ks : List Str} {bs : List Bool} {dvs : List V} {sp : Sp} {p pos : Pos} {e : Expr} {es : List Expr} {kws : List Keyword} {t tk : TA}
end
section
variable {P : Program} {w : World} {K : PySem.W.Frag} {mg : Str -> Option Value} {base : Heap}
end
section
variable {T : Tbl} {W : Wd T}
end
end Py
namespace Py
open PySem L2
def keyD : D -> Option Key
  | .int i => some (.inl i)
  | .str x => some (.inr (so x))
  | _ => none
section
variable {T : Tbl} {W : Wd T} {env : Py.Env} {d : D}
section
variable {X : Cx} {pins : List (Addr × Obj)} {σ : St} {H : Hp} {s : Shared} {A : Around} {E : Value -> Shared -> Prop} {kvs : List (Key × V)} {a : Addr}
end
theorem rK_back {F H H0 H1 : Hp} {k : Kd} {v : V} {d : D} (e : Same H0 H1) (h : rK W k d F H H1 v) : rK W k d F H H0 v := by
  cases k with
  | fr => exact rO_back e h
  | pl => exact h
  | vw => exact h
theorem PSet.or {X : Cx} {r r' : TSet} (h : PSet X r) (h' : PSet X r') : PSet X (fun o i v H Q => r o i v H Q \/ r' o i v H Q) :=
  fun pins s σ H o i v ov iv u Q I ro ri rv q => q.elim (h pins s σ H o i v ov iv u Q I ro ri rv) (h' pins s σ H o i v ov iv u Q I ro ri rv)
def fls : List D -> Option (List V)
  | [] => some []
  | d :: ds => (fl d).bind fun v => (fls ds).map (v :: ·)
theorem fl_flat {v : V} (h : fl d = some v) : flatV v = true := by
  cases d <;> first | (cases h; done) | (cases h; rfl)
theorem fls_ok {F : Hp} : ∀ {ds : List D} {vs ws : List V}, Shrs W F ds vs -> fls ds = some ws -> vs = ws /\ ws.all flatV = true
  | [], _, _, .nil, e => by cases e; exact ⟨rfl, rfl⟩
  | d :: ds, _, _, .cons h t, e => by
    obtain ⟨v, e1, e⟩ := Option.bind_eq_some_iff.mp e
    obtain ⟨ws, e2, rfl⟩ := Option.map_eq_some_iff.mp e
    obtain ⟨h1, h2⟩ := fls_ok t e2
    rw [h.fl e1, h1]
    exact ⟨rfl, by rw [List.all_cons, fl_flat e1, h2]; rfl⟩
def inL (neg : Bool) (x : D) (ys : List D) : Option D := (fl x).bind fun v => (fls ys).map fun vs => .bl (if neg then !inV v vs else inV v vs)
def xIn (neg : Bool) (a b : XP W) : XP W where
  t := tOp (rIn W.K neg) a.t b.t
  ev env := (a.evV env).bind fun x => (b.evV env).bind fun y => (seqOf y).bind fun p => (inL neg x p.2).map (Prod.mk .fr)
  snd := fun {env k d} e => by
    obtain ⟨x, e1, e⟩ := Option.bind_eq_some_iff.mp e
    obtain ⟨y, e2, e⟩ := Option.bind_eq_some_iff.mp e
    obtain ⟨⟨b1, ys⟩, e3, e⟩ := Option.bind_eq_some_iff.mp e
    obtain ⟨z, e4, e⟩ := Option.map_eq_some_iff.mp e
    cases e
    obtain ⟨v, e5, e⟩ := Option.bind_eq_some_iff.mp e4
    obtain ⟨ws, e6, rfl⟩ := Option.map_eq_some_iff.mp e
    intro e' F σ H L Q r q
    refine a.sV e1 e' F σ H L _ r fun u F1 H1 x1 y1 => b.sV e2 e' F1 σ H1 L _ (r.ext x1) fun w F2 H2 x2 y2 => ?_
    have y1 : Shr W H1 x u := y1
    have y2 : Shr W H2 y w := y2
    obtain ⟨a, vs, rfl, sh, sq⟩ := seqOf_ok (W := W) (Same.refl H2) (.sh y2) e3
    obtain ⟨rfl, hf⟩ := fls_ok sh e6
    rw [y1.fl e5]
    refine ⟨a, _, rfl, ?_, fl_flat e5, hf, q _ F2 H2 (x1.trans x2) (rO_sh .bl)⟩
    cases b1 with
    | true => exact .inr sq
    | false => exact .inl sq
def hasK (ks : List Key) (k : Key) : Bool := ks.any fun j => decide (j = k)
def inK (neg : Bool) (ks : List Key) (y : D) : Option D := match y with
  | .non => some (.bl neg)
  | y => (keyD y).map fun k => .bl (if neg then !hasK ks k else hasK ks k)
end
end Py
namespace Py
open PySem L2
section
variable {T : Tbl} {W : Wd T} {env : Py.Env} {d : D} {P : List Nat} {E : WX} {A : AEnds}
def SameL (F F' : Hp) : Prop := ∀ a o, F a = some o -> F' a = some o \/ (∃ kvs od, o = .dK kvs /\ F' a = some (.frz od (.dK kvs))) \/ ∃ kvs od, o = .frz od (.dK kvs) /\ F' a = some (.dK kvs)
theorem SameL.eq {F F' : Hp} (e : SameL F F') {a : Addr} {o : HO} (h : F a = some o) (h1 : ∀ kvs, o ≠ .dK kvs) (h2 : ∀ od kvs, o ≠ .frz od (.dK kvs)) : F' a = some o := by
  rcases e a o h with q | ⟨kvs, od, q, _⟩ | ⟨kvs, od, q, _⟩
  · exact q
  · exact absurd q (h1 kvs)
  · exact absurd q (h2 od kvs)
theorem SameL.seq {F F' : Hp} (e : SameL F F') {K : PySem.W.Frag} {a : Addr} {vs : List V} (h : SqL K F a vs) : SqL K F' a vs := by
  rcases h with (h | ⟨o, h⟩) | h
  · exact .inl (.inl (e.eq h (fun _ z => nomatch z) fun _ _ z => nomatch z))
  · exact .inl (.inr ⟨o, e.eq h (fun _ z => nomatch z) fun _ _ z => nomatch z⟩)
  · exact .inr h
end
end Py
namespace Py
open PySem L2
section
variable {T : Tbl} {W : Wd T} {env : Py.Env} {d : D} {P : List Nat} {E : WX} {A : AEnds}
end
end Py
namespace Py
open PySem L2
section
variable {T : Tbl} {W : Wd T} {env : Py.Env} {P : List Nat} {E : WX} {A : AEnds}
end
end Py
namespace Py
open PySem L2
section
variable {T : Tbl} {W : Wd T} {env : Py.Env}
end
end Py
namespace Py
open PySem L2
section
variable {T : Tbl} {W : Wd T}
end
end Py
namespace Py
open PySem L2 PyProof.Rows
section
variable {P : Program} {w : World} {A : Around} {E : Value -> Shared -> Prop} {s : Shared}
end
end Py
namespace Py
open PySem L2
section
variable {X : Cx} {k n : Nat} {f C : Addr} {fd : FuncData} {ps ks : List Str} {sp : Sp} {E : WX} {x : Str} {p pos : Pos} {e : Expr} {es : List Expr} {kws : List Keyword} {t tkw : TA} {g : List Value -> List Value -> List Value} {gV : List V -> List V -> List V} {dvs : List V} {ds : List Value}
end
section
variable {T : Tbl} {W : Wd T} {env : Py.Env} {P : List Nat} {E : WX} {A : AEnds} {d : D}
theorem zip_snd {fs : List String} {ds : List D} (h : ds.length = fs.length) : (fs.zip ds).map (·.2) = ds := List.map_snd_zip (by omega)
end
end Py
namespace Py
open PySem L2
section
variable {T : Tbl} {W : Wd T} {env : Py.Env} {P : List Nat} {E : WX} {A : AEnds} {d : D} {i : Nat}
theorem IsExn.mono {F F' : Hp} {x : Exn} {C : Value} {dd : Option Addr} (e : Same F F') (h : IsExn W F x C dd) : IsExn W F' x C dd := by
  obtain ⟨h1, h2, h3⟩ := h
  refine ⟨h1, h2, h3.imp id ?_⟩
  rintro ⟨a, vs, h4, h5, h6⟩
  exact ⟨a, vs, h4, e _ _ h5, h6.mono e⟩
def AQ {T : Tbl} (W : Wd T) (i : Nat) (x : Exn) (a : Addr) (cls : Value) (dd : Option Addr) (t : TE) (env : Py.Env) (R : Res) : Prop :=
  ∀ (e : Ent) (F : Hp) (σ : St) (H : Hp) (L : List Addr) (Q : VK), Rel W e env F σ H L -> IsExn W F x cls dd -> σ[i]? = some (some (.ref a)) -> (∀ v F' H', Ext F H F' H' -> R F' H' H v -> Q v H') -> t σ H Q
structure XQ {T : Tbl} (W : Wd T) (i : Nat) where
  t : Addr -> Value -> Option Addr -> TE
  ev : Exn -> Py.Env -> Option (Kd × D)
  snd : ∀ {x env k d}, ev x env = some (k, d) -> ∀ a cls dd, AQ W i x a cls dd (t a cls dd) env (rK W k d)
def XQ.evB (m : XQ W i) (x : Exn) (env : Py.Env) : Option Bool := (toV (m.ev x env)).bind blD
theorem XQ.sB (m : XQ W i) {x : Exn} {b : Bool} (h : m.evB x env = some b) (a : Addr) (cls : Value) (dd : Option Addr) : AQ W i x a cls dd (m.t a cls dd) env (rV W (.bl b)) := by
  obtain ⟨y, e1, e⟩ := Option.bind_eq_some_iff.mp h
  cases blD_ok e
  match e2 : m.ev x env, e1 with
  | some (k, d0), e1 =>
    have e1 : some (fz d0) = some (.bl b) := e1
    exact fun e F σ H L Q r ie hs q => m.snd e2 a cls dd e F σ H L Q r ie hs fun v F' H' x' y => q v F' H' x' (by
      have := rK_view x'.s y
      rwa [Option.some.inj e1] at this)
def toQ (o : Option (Kd × D)) : Option D := match o with
  | some (.fr, d) => if isSh d = true then some d else none
  | some (.pl, d) => if isSh d = true then some d else none
  | some (.vw, d) => if isFlat d = true then some d else none
  | none => none
def XQ.evF (m : XQ W i) (x : Exn) (env : Py.Env) : Option D := toQ (m.ev x env)
theorem XQ.sF (m : XQ W i) {x : Exn} (h : m.evF x env = some d) (a : Addr) (cls : Value) (dd : Option Addr) : AQ W i x a cls dd (m.t a cls dd) env (rF W d) := by
  unfold XQ.evF toQ at h
  intro e F σ H L Q r ie hs q
  split at h
  · rename_i d0 e2
    obtain ⟨h1, rfl⟩ := ite_some h
    exact m.snd e2 a cls dd e F σ H L Q r ie hs fun v F' H' x' ⟨M, o, _, _⟩ => q v F' H' x' (o.shr h1)
  · rename_i d0 e2
    obtain ⟨h1, rfl⟩ := ite_some h
    exact m.snd e2 a cls dd e F σ H L Q r ie hs fun v F' H' x' ⟨M, o⟩ => q v F' H' x' (o.shr h1)
  · rename_i d0 e2
    obtain ⟨h1, rfl⟩ := ite_some h
    exact m.snd e2 a cls dd e F σ H L Q r ie hs fun v F' H' x' y => q v F' H' x' (Shr.flat y h1)
  · cases h
structure XQs {T : Tbl} (W : Wd T) (i : Nat) where
  t : Addr -> Value -> Option Addr -> TA
  ev : Exn -> Py.Env -> Option (List D)
  snd : ∀ {x env ds}, ev x env = some ds -> ∀ a cls dd (e : Ent) (F : Hp) (σ : St) (H : Hp) (L : List Addr) (Q : List V -> Hp -> Prop), Rel W e env F σ H L -> IsExn W F x cls dd -> σ[i]? = some (some (.ref a)) -> (∀ vs F' H', Ext F H F' H' -> Shrs W F' ds vs -> Q vs H') -> t a cls dd σ H Q
structure XH {T : Tbl} (W : Wd T) (i : Nat) where
  t : Addr -> Value -> Option Addr -> TS
  ev : Exn -> List Nat -> Py.Env -> RS
  snd : ∀ {x P env} (a : Addr) (cls : Value) (dd : Option Addr), ev x P env ≠ .no -> ∀ (e : Ent) (F : Hp) (σ : St) (H : Hp) (L : List Addr) (E : WX) (Dn : Ends), P = e.pins.map (·.1) -> Rel W e env F σ H L -> IsExn W F x cls dd -> σ[i]? = some (some (.ref a)) -> Sat W e E (ends (ev x P env)) Dn -> t a cls dd Dn σ H
def XQ.evO (m : XQ W i) (x : Exn) (env : Py.Env) : Option D := toO (m.ev x env)
theorem XQ.sO (m : XQ W i) {x : Exn} (h : m.evO x env = some d) (a : Addr) (cls : Value) (dd : Option Addr) : AQ W i x a cls dd (m.t a cls dd) env (rO W d) := by
  unfold XQ.evO at h
  intro e F σ H L Q r ie hs q
  match e2 : m.ev x env, h with
  | some (.fr, d0), h => cases h; exact m.snd e2 a cls dd e F σ H L Q r ie hs q
  | some (.pl, d0), h =>
    obtain ⟨h1, rfl⟩ := ite_some h
    exact m.snd e2 a cls dd e F σ H L Q r ie hs fun v F' H' x' ⟨M, o⟩ => q v F' H' x' (rO_sh (o.shr h1))
  | some (.vw, d0), h =>
    obtain ⟨h1, rfl⟩ := ite_some h
    exact m.snd e2 a cls dd e F σ H L Q r ie hs fun v F' H' x' y => q v F' H' x' (rO_sh (Shr.flat y h1))
theorem Slots.len {F H : Hp} {env : Py.Env} {σ : St} {L : List Addr} (h : Slots W F H env σ L) : env.length = σ.length := h.length
end
section
variable {X : Cx} {T : Tbl} {W : Wd T} {E : WX}
theorem cx_po {P : Program} {w : World} {K : PySem.W.Frag} {mg : Str -> Option Value} {base : Heap} {N : List Str} {qual : Str} {sc : Scope} {f : Addr} {cdv : Value} {A : Around} {outer : List PySem.Env} {s : Shared} {H : Hp} {E : XK} :
    PassesOwn (model P w) (cxOf (L2.CX P w) P w K mg base N qual sc f cdv A outer s H E).A (cxOf (L2.CX P w) P w K mg base N qual sc f cdv A outer s H E).env (cxOf (L2.CX P w) P w K mg base N qual sc f cdv A outer s H E).xe := passes_of (X := cxOf (L2.CX P w) P w K mg base N qual sc f cdv A outer s H E) rfl
theorem spL_len {K : PySem.W.Frag} : ∀ vs H Q E, spL K vs H Q E -> vs.length = 1 := fun vs H Q E h => by
  obtain ⟨_, _, rfl, _⟩ := h
  rfl
end
end Py
namespace Py
open PySem L2
section
variable {T : Tbl} {W : Wd T}
end
end Py
namespace Py
open PySem L2
section
variable {T : Tbl} {W : Wd T}
end
end Py
namespace Py
open PySem L2
section
variable {T : Tbl} {W : Wd T}
end
end Py
namespace Py
open PySem L2 PyProof.Rows
def insU (i : Int) : List Int -> List Int
  | [] => [i]
  | x :: xs => if i < x then i :: x :: xs else if i = x then x :: xs else x :: insU i xs
def ssI : List Int -> List Int
  | [] => []
  | x :: xs => insU x (ssI xs)
theorem insU_mem {i : Int} : ∀ {xs : List Int} {k : Int}, k ∈ insU i xs ↔ k = i \/ k ∈ xs
  | [], k => by simp [insU]
  | x :: xs, k => by
    unfold insU
    split
    · simp
    · split
      · rename_i h; subst h; simp
      · rw [List.mem_cons, insU_mem, List.mem_cons]
        constructor
        · rintro (h | h | h) <;> simp [h]
        · rintro (h | h | h) <;> simp [h]
theorem insU_sorted {i : Int} : ∀ {xs : List Int}, xs.Pairwise (· < ·) -> (insU i xs).Pairwise (· < ·)
  | [], _ => by simp [insU]
  | x :: xs, h => by
    have h1 := List.pairwise_cons.mp h
    unfold insU
    split
    · rename_i hi
      refine List.pairwise_cons.mpr ⟨fun k hk => ?_, h⟩
      rcases List.mem_cons.mp hk with rfl | hk
      · exact hi
      · have := h1.1 k hk; omega
    · split
      · exact h
      · refine List.pairwise_cons.mpr ⟨fun k hk => ?_, insU_sorted h1.2⟩
        rcases insU_mem.mp hk with rfl | hk
        · omega
        · exact h1.1 k hk
theorem ssI_mem : ∀ {xs : List Int} {k : Int}, k ∈ ssI xs ↔ k ∈ xs
  | [], k => by simp [ssI]
  | x :: xs, k => by rw [ssI, insU_mem, ssI_mem, List.mem_cons]
theorem ssI_sorted : ∀ xs : List Int, (ssI xs).Pairwise (· < ·)
  | [] => .nil
  | x :: xs => insU_sorted (ssI_sorted xs)
theorem sorted_uniq : ∀ {xs ys : List Int}, xs.Pairwise (· < ·) -> ys.Pairwise (· < ·) -> (∀ k, k ∈ xs ↔ k ∈ ys) -> xs = ys
  | [], [], _, _, _ => rfl
  | [], y :: ys, _, _, h => by have := (h y).mpr (by simp); simp at this
  | x :: xs, [], _, _, h => by have := (h x).mp (by simp); simp at this
  | x :: xs, y :: ys, hx, hy, h => by
    have hx1 := List.pairwise_cons.mp hx
    have hy1 := List.pairwise_cons.mp hy
    have e : x = y := by
      rcases List.mem_cons.mp ((h x).mp (by simp)) with e | m
      · exact e
      · rcases List.mem_cons.mp ((h y).mpr (by simp)) with e | m2
        · exact e.symm
        · have a := hy1.1 x m
          have b := hx1.1 y m2
          omega
    subst e
    rw [sorted_uniq hx1.2 hy1.2 fun k => ?_]
    constructor
    · intro m
      rcases List.mem_cons.mp ((h k).mp (List.mem_cons_of_mem _ m)) with e | m2
      · have := hx1.1 k m; omega
      · exact m2
    · intro m
      rcases List.mem_cons.mp ((h k).mpr (List.mem_cons_of_mem _ m)) with e | m2
      · have := hy1.1 k m; omega
      · exact m2
section
variable {T : Tbl} {W : Wd T}
end
end Py
namespace Py
open PySem L2 PyProof.Rows
section
variable {T : Tbl} {W : Wd T}
end
end Py
namespace Py
open PySem L2
section
variable {T : Tbl} {W : Wd T}
def onL (As : List Addr) (H F : Hp) : Hp := fun b => if b ∈ As then H b else F b
theorem onL_in {As : List Addr} {H F : Hp} {b : Addr} (h : b ∈ As) : onL As H F b = H b := if_pos h
theorem onL_out {As : List Addr} {H F : Hp} {b : Addr} (h : b ∉ As) : onL As H F b = F b := if_neg h
theorem onL_same {As : List Addr} {F H : Hp} (s : Same F H) : Same F (onL As H F) /\ Same (onL As H F) H := by
  constructor
  · intro b o h
    by_cases e : b ∈ As
    · rw [onL_in e]; exact s _ _ h
    · rw [onL_out e]; exact h
  · intro b o h
    by_cases e : b ∈ As
    · rw [onL_in e] at h; exact h
    · rw [onL_out e] at h; exact s _ _ h
inductive Lents {T : Tbl} (W : Wd T) (F H : Hp) : List D -> List V -> List Addr -> Prop
  | nil : Lents W F H [] [] []
  | sh {d v ds vs As} : Shr W F d v -> Lents W F H ds vs As -> Lents W F H (d :: ds) (v :: vs) As
  | le {a xs ws ds vs As} : H a = some (.lst ws) -> Shrs W F xs ws -> Lents W F H ds vs As -> Lents W F H (.lst xs :: ds) (.ref a :: vs) (a :: As)
theorem Lents.ext {F H F' H' : Hp} (x : Ext F H F' H') : ∀ {ds : List D} {vs : List V} {As : List Addr}, Lents W F H ds vs As -> Lents W F' H' ds vs As
  | _, _, _, .nil => .nil
  | _, _, _, .sh h t => .sh (h.mono x.f) (t.ext x)
  | _, _, _, .le h s t => .le (x.h _ _ h) (s.mono x.f) (t.ext x)
theorem Lents.lists {F H : Hp} : ∀ {ds : List D} {vs : List V} {As : List Addr}, Lents W F H ds vs As -> ∀ b ∈ As, ∃ ws, H b = some (.lst ws)
  | _, _, _, .nil, b, m => nomatch m
  | _, _, _, .sh h t, b, m => t.lists b m
  | _, _, _, .le h s t, b, m => by
    rcases List.mem_cons.mp m with rfl | m
    · exact ⟨_, h⟩
    · exact t.lists b m
theorem Lents.shrs {F H : Hp} {Bs : List Addr} (s : Same F H) : ∀ {ds : List D} {vs : List V} {As : List Addr}, Lents W F H ds vs As -> (∀ b ∈ As, b ∈ Bs) -> Shrs W (onL Bs H F) ds vs
  | _, _, _, .nil, _ => .nil
  | _, _, _, .sh h t, k => .cons (h.mono (onL_same s).1) (t.shrs s k)
  | _, _, _, .le h u t, k => .cons (.lst (by rw [onL_in (k _ (List.mem_cons_self ..))]; exact h) (u.mono (onL_same s).1)) (t.shrs s fun b m => k b (List.mem_cons_of_mem _ m))
structure XB {T : Tbl} (W : Wd T) where
  t : TA
  ev : Py.Env -> Option (List D)
  snd : ∀ {env ds}, ev env = some ds -> ∀ (e : Ent) (F : Hp) (σ : St) (H : Hp) (L : List Addr) (Q : List V -> Hp -> Prop), Rel W e env F σ H L -> (∀ vs F' H' As, Ext F H F' H' -> Lents W F' H' ds vs As -> Q vs H') -> t σ H Q
end
end Py
namespace Py
open PySem L2
section
variable {T : Tbl} {W : Wd T} {P : Program} {w : World}
def DKeys (P : Program) (w : World) (H : Hp) (ks : List NestedKey) (kas : List Addr) : Prop := ∀ h, HOk P w H h -> ∀ (i : Nat) (k : NestedKey) (ka : Addr), ks[i]? = some k -> kas[i]? = some ka -> (nestedKind P w).is h k ka
def GD (P : Program) (w : World) (H : Hp) (a : Addr) (ks : List NestedKey) (kas : List Addr) (vs : List V) : Prop := H a = some (.ext (digP P w a ks kas vs)) /\ DKeys P w H ks kas
theorem zip3_get {α β γ : Type} {as : List α} {bs : List β} {cs : List γ} {i : Nat} {x : α × β × γ} (h : (as.zip (bs.zip cs))[i]? = some x) : as[i]? = some x.1 /\ bs[i]? = some x.2.1 /\ cs[i]? = some x.2.2 := by
  rw [List.getElem?_zip_eq_some, List.getElem?_zip_eq_some] at h
  exact ⟨h.1, h.2.1, h.2.2⟩
theorem zip3_mk {α β γ : Type} {as : List α} {bs : List β} {cs : List γ} {i : Nat} {x : α} {y : β} {z : γ} (h1 : as[i]? = some x) (h2 : bs[i]? = some y) (h3 : cs[i]? = some z) : (as.zip (bs.zip cs))[i]? = some (x, y, z) := by
  rw [List.getElem?_zip_eq_some, List.getElem?_zip_eq_some]
  exact ⟨h1, h2, h3⟩
theorem zip3_fst {α β γ : Type} {as : List α} {bs : List β} {cs : List γ} (h1 : as.length = bs.length) (h2 : as.length = cs.length) : (as.zip (bs.zip cs)).map (·.1) = as := by
  rw [List.map_fst_zip]
  rw [List.length_zip]; omega
structure GOk (P : Program) (w : World) (h : Heap) (a : Addr) (ks : List NestedKey) (kas : List Addr) (vs : List V) (us : List Value) : Prop where
  ns : (a == sysModules) = false
  rv : Vals vs us
  l1 : ks.length = kas.length
  l2 : ks.length = us.length
  sz : us.length <= sizeLine
  at' : h.DictOfH (nestedKind P w) a (ks.zip (kas.zip us))
  nd : ks.Nodup
theorem GD.ok {H : Hp} {h : Heap} {a : Addr} {ks : List NestedKey} {kas : List Addr} {vs : List V} (g : GD P w H a ks kas vs) (ok : HOk P w H h) : ∃ us, GOk P w h a ks kas vs us := by
  obtain ⟨⟨ns, us, rv, l1, l2, sz, o, es, ep, ho, hx, hd, he, hn⟩, _⟩ := ok _ _ g.1
  refine ⟨us, ns, rv, l1, l2, sz, ⟨o, es, ep, ho, hx, hd, he, fun x hx => ?_, ?_⟩, hn⟩
  · obtain ⟨i, hi⟩ := List.mem_iff_getElem?.mp hx
    obtain ⟨h1, h2, _⟩ := zip3_get hi
    exact g.2 h ok i _ _ h1 h2
  · rw [zip3_fst l1 l2]; exact hn
theorem GOk.dig {h : Heap} {a : Addr} {ks : List NestedKey} {kas : List Addr} {vs : List V} {us : List Value} (g : GOk P w h a ks kas vs us) : digP P w a ks kas vs h := by
  obtain ⟨o, es, ep, ho, hx, hd, he, _, _⟩ := g.at'
  exact ⟨g.ns, us, g.rv, g.l1, g.l2, g.sz, o, es, ep, ho, hx, hd, he, g.nd⟩
theorem GOk.new {H : Hp} {h : Heap} {a : Addr} {ks : List NestedKey} {kas : List Addr} {vs : List V} {us : List Value} (g : GOk P w h a ks kas vs us) : ObjOk P w H h a (.ext (digP P w a ks kas vs)) := by
  have ⟨o, _, _, ho, _⟩ := g.at'
  refine ⟨g.dig, ⟨o, ho⟩, fun h1 h2 p k => ?_⟩
  obtain ⟨ns, us, rv, l1, l2, sz, o, es, ep, ho, r⟩ := p
  exact ⟨ns, us, rv, l1, l2, sz, o, es, ep, k o ho, r⟩
theorem GOk.atKey_s {h : Heap} {a : Addr} {ks : List NestedKey} {kas : List Addr} {vs : List V} {us : List Value} (g : GOk P w h a ks kas vs us) {k : NestedKey} {j : Nat} (hp : pos k ks = some j) : ∃ ka u v, kas[j]? = some ka /\ us[j]? = some u /\ vs[j]? = some v /\ RelV v u /\ (ks.zip (kas.zip us))[j]? = some (k, ka, u) /\ atKey (ks.zip (kas.zip us)) k = some (ka, u) := by
  have hk := pos_get hp
  have hj := (List.getElem?_eq_some_iff.mp hk).1
  have l1 := g.l1
  have l2 := g.l2
  have l3 := g.rv.length
  have h1 : kas[j]? = some kas[j] := List.getElem?_eq_getElem (by omega)
  have h2 : us[j]? = some us[j] := List.getElem?_eq_getElem (by omega)
  have h3 : vs[j]? = some vs[j] := List.getElem?_eq_getElem (by omega)
  obtain ⟨u, hu, ru⟩ := g.rv.get h3
  rw [h2] at hu
  cases hu
  have hz := zip3_mk hk h1 h2
  exact ⟨_, _, _, h1, h2, h3, ru, hz, atKey_of_get (by rw [zip3_fst l1 l2]; exact g.nd) hz⟩
theorem pos_noneG {k : NestedKey} : ∀ {ks : List NestedKey}, pos k ks = none -> k ∉ ks
  | [], _, m => nomatch m
  | x :: ks, h, m => by
    have h : (if x = k then some 0 else (pos k ks).map (· + 1)) = none := h
    split at h
    · cases h
    · rename_i e
      rcases List.mem_cons.mp m with rfl | m
      · exact e rfl
      · exact pos_noneG (Option.map_eq_none_iff.mp h) m
theorem GOk.atKey_n {h : Heap} {a : Addr} {ks : List NestedKey} {kas : List Addr} {vs : List V} {us : List Value} (g : GOk P w h a ks kas vs us) {k : NestedKey} (hp : pos k ks = none) : atKey (ks.zip (kas.zip us)) k = none := by
  refine atKey_none_of_get fun j p hj => ?_
  obtain ⟨h1, _, _⟩ := zip3_get hj
  exact pos_noneG hp (List.mem_of_getElem? h1)
theorem vals_set {vs : List V} {us : List Value} {v : V} {u : Value} : ∀ {j : Nat}, Vals vs us -> RelV v u -> Vals (vs.set j v) (us.set j u) := by
  intro j h r
  induction h generalizing j with
  | nil => exact .nil
  | cons a b ih =>
    cases j with
    | zero => exact .cons r b
    | succ j => exact .cons a ih
theorem vals_snoc {vs : List V} {us : List Value} {v : V} {u : Value} (h : Vals vs us) (r : RelV v u) : Vals (vs ++ [v]) (us ++ [u]) := by
  induction h with
  | nil => exact .cons r .nil
  | cons a b ih => exact .cons a ih
section
variable {X : Cx} {pins : List (Addr × Obj)} {σ : St} {H : Hp} {s : Shared} {A : Around} {E : Value -> Shared -> Prop} {a : Addr} {ks : List NestedKey} {kas : List Addr} {vs : List V} {k : NestedKey} {ka : Addr} {y v : V} {u r : Value}
end
section
variable {X : Cx} {o e f i : Expr} {apos cpos pos' : Pos} {td ty tx : TE}
end
end
end Py
namespace Py
open PySem L2
section
variable {X : Cx} {o e f i : Expr} {apos cpos pos' : Pos} {td ty tx : TE}
theorem vals2 {x y : V} {us : List Value} (h : Vals [x, y] us) : ∃ u v, us = [u, v] /\ RelV x u /\ RelV y v := by
  cases h with
  | cons a b =>
    obtain ⟨v, rfl, r⟩ := vals1 b
    exact ⟨_, _, rfl, a, r⟩
end
section
variable {T : Tbl} {W : Wd T} {env : Py.Env} {d : D}
theorem GD.mono {P : Program} {w : World} {H H' : Hp} {a : Addr} {ks : List NestedKey} {kas : List Addr} {vs : List V} (g : GD P w H a ks kas vs) (e : Same H H') (k : DKeys P w H' ks kas) : GD P w H' a ks kas vs := ⟨e _ _ g.1, k⟩
theorem owns_get {F H : Hp} : ∀ {xs : List D} {vs : List V} {L : List Addr} {j : Nat} {x : D}, Owns W F H xs vs L -> xs[j]? = some x -> ∃ v M, vs[j]? = some v /\ Own W F H x v M
  | _, _, _, _, _, .nil, e => by simp at e
  | _, _, _, 0, _, .cons h _, e => by simp at e; subst e; exact ⟨_, _, rfl, h⟩
  | _, _, _, j + 1, _, .cons _ t, e => owns_get (j := j) t (by simpa using e)
theorem mop_atG {G : D} {F H : Hp} {a : Addr} {L : List Addr} {Ms : List Addr} {ys : List D} {ws : List V} {o : HO} {M' L2 : List Addr} {v' : V} {Q : VK} (s : Same F H) (nd : (Ms ++ (a :: L)).Nodup) (kF : ∀ b ∈ Ms ++ (a :: L), F b = none)
    (hG : ∀ (H' : Hp) (L' : List Addr), H' a = some o -> Owns W F H' ys ws L' -> Own W F H' G (.ref a) (a :: L')) (hs : Owns W F H ys ws L2) (od : Own W F H d v' M') (n2 : (M' ++ L2).Nodup) (sub : ∀ b ∈ M' ++ L2, b ∈ L \/ b ∈ Ms)
    (q : ∀ F' H' v' Ln' M', Same F F' -> Same F' H' -> (∀ b o, b ∉ a :: L -> H b = some o -> H' b = some o) -> (∀ b o, F' b = some o -> F b = some o \/ H b = none) -> Own W F' H' G (.ref a) Ln' -> Own W F' H' d v' M' -> (M' ++ Ln').Nodup ->
      (∀ b ∈ M' ++ Ln', F' b = none /\ (b ∈ a :: L \/ b ∈ Ms \/ H b = none)) -> Q v' H') : Q v' (upd H a o) := by
  rw [List.nodup_append] at nd
  obtain ⟨n3, n4, n5⟩ := nd
  rw [List.nodup_cons] at n4
  have na : ∀ b ∈ M' ++ L2, b ≠ a := fun b hb z => by
    subst z
    rcases sub _ hb with y | y
    · exact n4.1 y
    · exact n5 _ y _ (List.mem_cons_self ..) rfl
  have Fa : F a = none := kF a (List.mem_append_right _ (List.mem_cons_self ..))
  refine q F (upd H a o) v' (a :: L2) M' (Same.refl _) (same_upd s Fa) (fun b u hb hu => ?_) (fun b u hu => .inl hu) (hG _ _ upd_same (owns_upd hs fun z => na a (List.mem_append_right _ z) rfl)) (own_upd od fun z => na a (List.mem_append_left _ z) rfl) ?_ (fun b hb => ?_)
  · rw [upd_ne (fun z => hb (by rw [z]; exact List.mem_cons_self ..))]; exact hu
  · rw [List.nodup_append] at n2 ⊢
    refine ⟨n2.1, List.nodup_cons.mpr ⟨fun z => na a (List.mem_append_right _ z) rfl, n2.2.1⟩, fun b hb c hc => ?_⟩
    rcases List.mem_cons.mp hc with z | z
    · rw [z]; exact na b (List.mem_append_left _ hb)
    · exact n2.2.2 b hb c z
  · rcases List.mem_append.mp hb with z | z
    · have := sub b (List.mem_append_left _ z)
      refine ⟨kF b ?_, ?_⟩
      · rcases this with y | y
        · exact List.mem_append_right _ (List.mem_cons_of_mem _ y)
        · exact List.mem_append_left _ y
      · rcases this with y | y
        · exact .inl (List.mem_cons_of_mem _ y)
        · exact .inr (.inl y)
    · rcases List.mem_cons.mp z with z | z
      · subst z; exact ⟨Fa, .inl (List.mem_cons_self ..)⟩
      · have := sub b (List.mem_append_right _ z)
        refine ⟨kF b ?_, ?_⟩
        · rcases this with y | y
          · exact List.mem_append_right _ (List.mem_cons_of_mem _ y)
          · exact List.mem_append_left _ y
        · rcases this with y | y
          · exact .inl (List.mem_cons_of_mem _ y)
          · exact .inr (.inl y)
end
end Py
namespace Py
open PySem L2
section
variable {T : Tbl} {W : Wd T} {env : Py.Env} {d : D}
end
end Py
namespace Py
open PySem L2
section
variable {T : Tbl} {W : Wd T} {env : Py.Env} {d : D}
end
end Py
namespace Py
open PySem L2
def spEn : Sp := fun vs H Q _ => ∃ x, vs = [x] /\ Q x H
def spEx (P : Program) (w : World) (K : PySem.W.Frag) (f : String) : Sp := fun vs H Q _ => ∃ a C dx fs d ks kas ws, vs = [.ref a, .non, .non, .non] /\ H a = some (.ins C dx fs) /\ Cls K C /\ NoAttr K C (so f) /\ fs.lookup (so f) = some (.ref d) /\ GD P w H d ks kas ws /\ Q .non (upd H d (.ext (digP P w d [] [] [])))
structure WiOk (P : Program) (w : World) (K : PySem.W.Frag) (mg : Str -> Option Value) (base : Heap) (k : Nat) (C : Addr) (f : String) : Prop where
  en : MdOk P w K mg base k C "__enter__" 1 spEn
  ex : MdOk P w K mg base k C "__exit__" 4 (spEx P w K f)
section
variable {T : Tbl} {W : Wd T} {env : Py.Env} {d : D}
theorem Rel.back {e : Ent} {F H : Hp} {σ : St} {L : List Addr} {i j : Nat} {v : V} (r : Rel W e env F σ H L) (h : env[i]? = some (some d)) (hv : σ[i]? = some (some v)) (hj : j < env.length) (hw : σ[j]? = some (some v)) :
    ∃ L', Rel W e ((env.set i none).set j (some d)) F σ H L' := by
  obtain ⟨v', Li, Lr, e1, o, sl, nd, m⟩ := r.slots.take r.nd h
  rw [hv] at e1
  cases e1
  obtain ⟨L', s, nd', m'⟩ := sl.put (i := j) o nd (by simpa using hj)
  have hσ : σ.set j (some v) = σ := by
    apply List.ext_getElem?
    intro k
    by_cases hk : j = k
    · subst hk
      obtain ⟨hlt, _⟩ := List.getElem?_eq_some_iff.mp hw
      rw [List.getElem?_set_self hlt, hw]
    · rw [List.getElem?_set_ne hk]
  rw [hσ] at s
  have inL : ∀ a ∈ L', a ∈ L := fun a ha => (m a).mp (m' a ha)
  exact ⟨L', r.sF, s, nd', fun a ha => r.dj a (inL a ha), r.s0, r.nw, r.fr, fun a ha => r.ln a (inL a ha), r.pin⟩
theorem Rel.pinned {e : Ent} {F H : Hp} {σ : St} {L : List Addr} {j : Nat} {v : V} (r : Rel W e env F σ H L) (h : σ[j]? = some (some v)) : Rel W { e with pins := (j, v) :: e.pins } env F σ H L :=
  ⟨r.sF, r.slots, r.nd, r.dj, r.s0, r.nw, r.fr, r.ln, fun p hp => by
    rcases List.mem_cons.mp hp with rfl | hp
    · exact h
    · exact r.pin p hp⟩
theorem Rel.unpinned {e : Ent} {F H : Hp} {σ : St} {L : List Addr} {j : Nat} {v : V} (r : Rel W { e with pins := (j, v) :: e.pins } env F σ H L) : Rel W e env F σ H L :=
  ⟨r.sF, r.slots, r.nd, r.dj, r.s0, r.nw, r.fr, r.ln, fun p hp => r.pin p (List.mem_cons_of_mem _ hp)⟩
end
end Py
namespace Py
open PySem L2 PyProof.Rows GenW
section
variable {M : Model} {A : Around} {R : GenEnd} {Y : Protocol} {n : Nat} {s₀ : Shared} {c : Code} {fs : List Frame} {s : Shared} {env : PySem.Env} {K : Flow -> PySem.Sem PySem.Fin} {H : Value -> PySem.Sem PySem.Fin} {gd : Bool -> Bool} {lv : List Value -> List Value}
end
section
variable {prog : Program} {w : World} {A : Around} {R : GenEnd} {Y : Protocol} {n : Nat} {s₀ : Shared} {fs : List Frame} {s : Shared} {env : PySem.Env}
end
section
variable {X : Cx}
end
end Py
namespace Py
open PySem L2 PyProof.Rows GenW
inductive RY where
  | nx (ys : List D) (env : Py.Env) | bk (ys : List D) (env : Py.Env) | ct (ys : List D) (env : Py.Env) | ex (x : Exn) (env : Py.Env) | no
structure YEnds where
  nx : List D -> Py.Env -> Prop
  bk : List D -> Py.Env -> Prop := fun _ _ => False
  ct : List D -> Py.Env -> Prop := fun _ _ => False
  ex : Exn -> Py.Env -> Prop := fun _ _ => False
def endsY (r : RY) : YEnds where
  nx ys e := r = .nx ys e
  bk ys e := r = .bk ys e
  ct ys e := r = .ct ys e
  ex x e := r = .ex x e
section
variable {T : Tbl} {W : Wd T} {env : Py.Env} {P : List Nat} {E : WX} {A : YEnds} {ys : List D}
structure SatY {T : Tbl} (W : Wd T) (e : Ent) (E : WX) (A : YEnds) (Dn : GEnds) : Prop where
  nx : ∀ ys env F σ H L vs, A.nx ys env -> Rel W e env F σ H L -> Shrs W F ys vs -> Dn.nx vs σ H
  bk : ∀ ys env F σ H L vs, A.bk ys env -> Rel W e env F σ H L -> Shrs W F ys vs -> Dn.bk vs σ H
  ct : ∀ ys env F σ H L vs, A.ct ys env -> Rel W e env F σ H L -> Shrs W F ys vs -> Dn.ct vs σ H
  ex : ∀ x env F σ H L C d, A.ex x env -> Rel W e env F σ H L -> IsExn W F x C d -> E C d σ H
def AY {T : Tbl} (W : Wd T) (P : List Nat) (E : WX) (t : TGn) (ys : List D) (env : Py.Env) (A : YEnds) : Prop :=
  ∀ (e : Ent) (F : Hp) (σ : L2.St) (H : Hp) (L : List Addr) (vs : List V) (Dn : GEnds), P = e.pins.map (·.1) -> Rel W e env F σ H L -> Shrs W F ys vs -> SatY W e E A Dn -> t Dn vs σ H
theorem SatY.weaken {A' : YEnds} {e : Ent} {Dn : GEnds} (s : SatY W e E A Dn) (nx : ∀ ys e, A'.nx ys e -> A.nx ys e) (bk : ∀ ys e, A'.bk ys e -> A.bk ys e) (ct : ∀ ys e, A'.ct ys e -> A.ct ys e) (ex : ∀ x e, A'.ex x e -> A.ex x e) : SatY W e E A' Dn :=
  ⟨fun _ _ _ _ _ _ _ a => s.nx _ _ _ _ _ _ _ (nx _ _ a), fun _ _ _ _ _ _ _ a => s.bk _ _ _ _ _ _ _ (bk _ _ a), fun _ _ _ _ _ _ _ a => s.ct _ _ _ _ _ _ _ (ct _ _ a), fun _ _ _ _ _ _ _ _ a => s.ex _ _ _ _ _ _ _ _ (ex _ _ a)⟩
theorem AY.weaken {t : TGn} {A' : YEnds} (h : AY W P E t ys env A') (nx : ∀ ys e, A'.nx ys e -> A.nx ys e) (bk : ∀ ys e, A'.bk ys e -> A.bk ys e) (ct : ∀ ys e, A'.ct ys e -> A.ct ys e) (ex : ∀ x e, A'.ex x e -> A.ex x e) : AY W P E t ys env A :=
  fun e F σ H L vs Dn hP r sh s => h e F σ H L vs Dn hP r sh (s.weaken nx bk ct ex)
structure XY {T : Tbl} (W : Wd T) where
  t : WX -> TGn
  ev : List Nat -> List D -> Py.Env -> RY
  snd : ∀ P E ys env, ev P ys env ≠ .no -> AY W P E (t E) ys env (endsY (ev P ys env))
def RY.then (r : RY) (f : List D -> Py.Env -> RY) : RY := match r with
  | .nx ys e => f ys e
  | r => r
end
end Py
namespace Py
open PySem L2 PyProof.Rows GenW
section
variable {T : Tbl} {W : Wd T}
end
structure MgOk (P : Program) (w : World) (K : PySem.W.Frag) (mg : Str -> Option Value) (base : Heap) (k : Nat) (C : Addr) (m : String) (n : Nat) (sp : SpG) : Prop where
  ex : ∃ g fd ps, Meth K C (so m) g /\ GFn P w K mg base k g fd ps sp /\ Binds K fd ps [] /\ ps.length = n
section
variable {P : Program} {w : World} {K : PySem.W.Frag} {mg : Str -> Option Value} {base : Heap}
end
section
variable {T : Tbl} {W : Wd T} {X : Cx}
end
end Py
namespace Py
open PySem L2
section
variable {T : Tbl} {W : Wd T}
end
end Py
namespace Py
open PySem L2
section
variable {T : Tbl} {W : Wd T}
end
end Py
namespace Py
open PySem L2
section
variable {T : Tbl} {W : Wd T}
end
end Py
namespace Py
open PySem L2
section
variable {T : Tbl} {W : Wd T}
end
end Py
namespace Py
open PySem L2 PyProof.Rows GenW
end Py
namespace Py
open PySem L2
section
variable {T : Tbl} {W : Wd T} {env : Py.Env}
end
end Py
namespace Py
open PySem L2
section
variable {T : Tbl} {W : Wd T}
end
end Py
namespace Py
open PySem L2
section
variable {T : Tbl} {W : Wd T}
end
end Py
namespace Py
open PySem L2
structure CmAt (K : PySem.W.Frag) (C : Addr) (m : String) (x qual : Str) (st : Stmt) : Prop where
  ex : ∃ p g fd mc, FunD K x qual (defArgs st) (defBody st) (defScope st) [] [] g fd /\ ClX.CRead K C mc /\ ClX.CMet K C mc (so m) p g
structure CmOk (P : Program) (w : World) (K : PySem.W.Frag) (mg : Str -> Option Value) (base : Heap) (k : Nat) (C : Addr) (m : String) (n : Nat) (sp : Sp) : Prop where
  ex : ∃ p g fd ps mc, ClX.CRead K C mc /\ ClX.CMet K C mc (so m) p g /\ FnOk P w K mg base (L2.CX P w) k g fd ps sp /\ Binds K fd ps [] /\ ps.length = n
section
variable {P : Program} {w : World} {K : PySem.W.Frag} {mg : Str -> Option Value} {base : Heap}
end
section
variable {X : Cx} {T : Tbl} {W : Wd T}
end
end Py
namespace Py
open PySem L2
section
variable {T : Tbl} {W : Wd T}
end
end Py
namespace Py
open PySem L2 NdefX
structure SupT (P : Program) (K : PySem.W.Frag) (D g : Addr) (fd : FuncData) (cda cc : Addr) : Prop where
  look : ∃ oc od osl, K.lookup g = some ⟨oc, od, .func fd, osl⟩
  head : ∃ ar : Arg, (fd.params.posonlyargs ++ fd.params.args).head? = some ar /\ ar.arg = ("self" : Str)
  code : ∃ ccl cdd vs ccs file tf, K.lookup cda = some ⟨ccl, cdd, .fields vs, ccs⟩ /\ vs[2]? = some (.str file tf) /\ ((P.main.file : Str) == file) = true
  cell : ∃ cl cld csl, K.lookup cc = some ⟨cl, cld, .cell (some (.ref D)), csl⟩
  dcl : ∃ cd, PySem.W.clsIn K D = some cd
  top : (P.main.scope.names.lookup ("super" : Str)).isSome = false
section
variable {M : Model} {A : Around} {E : Value -> Shared -> Prop} {s : Shared} {env : PySem.Env} {c0 : Code}
end
structure SupM (P : Program) (w : World) (K : PySem.W.Frag) (mg : Str -> Option Value) (base : Heap) {T : Tbl} (W : Wd T) (k : Nat) (φ : Sem) (D : Addr) (m : Str) (r : String -> Option String) : Prop where
  at_ : ∀ c nm, W.has c -> r c = some nm -> ∃ g2 fd2 ps2, PySem.W.ks_superIn K (W.cA c) D m = some (some (.ref g2)) /\ PySem.W.typeIn K (.ref g2) = some (.type "function") /\ PySem.W.mroIn K (W.cA c) (.ref D) = some true /\ PySem.W.fnIn K g2 = true /\
    FnOk P w K mg base (L2.CX P w) k g2 fd2 ps2 (spR W 2 (φ nm) none) /\ Binds K fd2 ps2 []
end Py
namespace Py
open PySem L2
structure Mk0 (K : PySem.W.Frag) (C : Addr) : Prop where
  makes : PySem.W.makesIn K C = true
  init : PySem.W.findIn K (.ref C) "__init__" = some (some (.builtin "object.__init__"))
  top : PySem.W.mroIn K C (.type "object") = some true
  kp : PySem.W.keepIn K (.ref C) = true
section
variable {X : Cx} {C : Addr} {pins : List (Addr × Obj)} {σ : L2.St} {H : Hp} {s : Shared} {Q : VK}
end
section
variable {T : Tbl} {W : Wd T}
end
end Py
namespace Py
open PySem L2 NdefX
section
variable {T : Tbl} {W : Wd T}
end
open PySem.W in
structure SupAt (P : Program) (K : Frag) (C : Addr) (m : String) (qual : Str) (st : Stmt) (D : Addr) : Prop where
  ex : ∃ (g cda cc : Addr) (doc pm ct : Value) (an : Option Addr), Meth K C (so m) g /\ codeIn K (.ref cda) qual = true /\ SupT P K D g (ksFn (so m) qual (defArgs st) (defBody st) (defScope st) .none .none doc pm an (.ref cda) ct cc) cda cc
open PySem.W in
structure SupC (K : Frag) (C D : Addr) (m : String) (E : Addr) : Prop where
  ex : ∃ g2, ks_superIn K C D (so m) = some (some (.ref g2)) /\ findIn K (.ref E) (so m) = some (some (.ref g2)) /\ typeIn K (.ref g2) = some (.type "function") /\ mroIn K C (.ref D) = some true /\ fnIn K g2 = true
section
variable {P : Program} {w : World} {K : PySem.W.Frag} {mg : Str -> Option Value} {base : Heap} {T : Tbl} {W : Wd T}
end
end Py
namespace Py
open PySem L2 PyProof.Rows
end Py
namespace Py
open PySem L2 PyProof.Rows
section
variable {P : Program} {w : World} {A : Around} {E : Value -> Shared -> Prop} {s : Shared} {a b : Addr}
end
end Py
namespace Py
open PySem L2 PyProof.Rows
section
variable {P : Program} {w : World} {A : Around} {E : Value -> Shared -> Prop} {s : Shared} {a b : Addr}
end
end Py
namespace Py
open PySem L2 PyProof.Rows
section
variable {T : Tbl} {W : Wd T}
end
end Py
namespace Py
open PySem L2
theorem nr {α : Type} {a b : α} (h : a = b) : a = b := h
theorem atI_litN {α : Type} {xs : List α} (n : Nat) : atI xs (n : Int) = xs[n]? := by
  unfold atI ixN
  rw [if_pos (by omega)]
  by_cases h : (n : Int) < xs.length
  · rw [if_pos h]; rfl
  · rw [if_neg h, List.getElem?_eq_none (by omega)]; rfl
theorem atI_last {α : Type} {xs : List α} : atI xs (-1) = xs.getLast? := by
  unfold atI ixN
  rw [if_neg (by omega)]
  cases xs with
  | nil => rfl
  | cons x xs =>
    rw [if_pos (by simp; omega), List.getLast?_eq_getElem?]
    show (x :: xs)[_]? = _
    congr 1
    simp
    omega
def callE (φ : List D -> Option Nat -> Rz) (n : Nat) (dds : List D) (f v : Option (List D)) : Option (Kd × D) := match f with
  | some ds => if (ds ++ dds).length = n then (φ (ds ++ dds) none).toF else none
  | none => match v with
    | some ds => if (ds ++ dds).length = n then (φ (ds ++ dds) none).toV else none
    | none => none
def turnE (o : Option Py.Env) (f : Py.Env -> RS) : RS := match o with
  | some e => f e
  | none => .no
def forE (f : D -> Py.Env -> RS) (o : Option (List D)) (env : Py.Env) : RS := match o with
  | some ds => forL f ds env
  | none => .no
def frzO (env : Py.Env) (i : Nat) : Option D -> Py.Env
  | some d => env.set i (some (fz d))
  | none => env
def resE (o : Option String) (f : String -> Rz) : Rz := match o with
  | some nm => f nm
  | none => .no
def lenQ (o : Option String) (f : String -> Option D) : Option D := match o with
  | some nm => f nm
  | none => none
def lenR : Rz -> Option D
  | .ok (.int i) _ => if 0 <= i /\ i <= 1000000 then some (.int i) else none
  | _ => none
def itQ (o : Option (List D)) (f : List D -> Option (Kd × D)) : Option (Kd × D) := match o with
  | some zs => f zs
  | none => none
def setO (xs : List D) (o : Option Nat) (y : D) : List D := match o with
  | some j => xs.set j y
  | none => xs
def putE (d : D) (s : Pst) (st : List Pst) (n : D) (o : Option D) : D := match o with
  | some x => d.put s (x.putAt st n)
  | none => d
def retZ (o : Option (Option D)) (d : D) : Rz := match o with
  | some x => .ok d x
  | none => .no
def retX (o : Option (Option D)) (x : Exn) : Rz := match o with
  | some y => .exn x y
  | none => .no
def forT (f : D -> Py.Env -> RS) (ds : List D) : RS -> RS
  | .nx e => forL f ds e
  | .ct e => forL f ds e
  | .bk e => .nx e
  | r => r
def asgK (P : List Nat) (i : Nat) (d : D) (e : Py.Env) : RS := RS.ofO (setS P i d e)
def iteF (b : Option Bool) (s u : Py.Env -> RS) (e : Py.Env) : RS := match b with
  | some true => s e
  | some false => u e
  | none => .no
def andF (b : Option Bool) (f : Py.Env -> Option Bool) (e : Py.Env) : Option Bool := match b with
  | some true => f e
  | some false => some false
  | none => none
def orF (b : Option Bool) (f : Py.Env -> Option Bool) (e : Py.Env) : Option Bool := match b with
  | some false => f e
  | some true => some true
  | none => none
def forK {T : Tbl} {W : Wd T} (g : XG W) (b : XS W) (P : List Nat) (d : D) (e : Py.Env) : RS := turnE (g.ev P d e) (b.ev P)
def lcJ {T : Tbl} {W : Wd T} (x : XP W) (b : Option Bool) (e : Py.Env) : Option (List D) := b.bind fun k => if k = true then (x.evO e).map fun y => [y] else some []
def lcK {T : Tbl} {W : Wd T} (c : XT W) (x : XP W) (o : Option Py.Env) : Option (List D) := o.bind fun e => lcJ x (c.ev e) e
theorem e_xsSeq {T : Tbl} {W : Wd T} {s u : XS W} {P env} : (xsSeq s u).ev P env = (s.ev P env).then (u.ev P) := nr rfl
theorem e_xsNext {T : Tbl} {W : Wd T} {P env} : (xsNext W).ev P env = .nx env := nr rfl
theorem e_xsNever {T : Tbl} {W : Wd T} {P env} : (xsNever W).ev P env = .no := nr rfl
theorem e_xsAsg {T : Tbl} {W : Wd T} {i} {m : XM W} {P env} : (xsAsg i m).ev P env = (m.ev P env).thenS (asgK P i) := nr rfl
theorem e_xsExpr {T : Tbl} {W : Wd T} {m : XM W} {P env} : (xsExpr m).ev P env = (m.ev P env).thenS fun _ => RS.nx := nr rfl
theorem e_xsRet {T : Tbl} {W : Wd T} {m : XM W} {P env} : (xsRet m).ev P env = (m.ev P env).thenS RS.rt := nr rfl
theorem e_xsIf {T : Tbl} {W : Wd T} {c : XT W} {s u : XS W} {P env} : (xsIf c s u).ev P env = iteF (c.ev env) (s.ev P) (u.ev P) env := nr rfl
theorem e_xsFrz {T : Tbl} {W : Wd T} {is} {s : XS W} {P env} : (xsFrz is s).ev P env = s.ev P (is.foldl frzS env) := nr rfl
theorem e_xmP {T : Tbl} {W : Wd T} {p : XP W} {P env} : (xmP p).ev P env = RM.of (p.evO env) env := nr rfl
theorem e_xVar_V {T : Tbl} {W : Wd T} {i env} : (xVar W i).evV env = (getS env i).map fz := by show toV ((getS env i).map _) = _; cases getS env i <;> rfl
theorem e_xtV {T : Tbl} {W : Wd T} {a : XP W} {env} : (xtV a).ev env = (a.evV env).bind blD := nr rfl
theorem e_xtTru {T : Tbl} {W : Wd T} {a : XP W} {env} : (xtTru a).ev env = (a.evV env).bind truD := nr rfl
theorem e_xtAnd {T : Tbl} {W : Wd T} {a b : XT W} {env} : (xtAnd a b).ev env = andF (a.ev env) b.ev env := nr rfl
theorem e_xtOr {T : Tbl} {W : Wd T} {a b : XT W} {env} : (xtOr a b).ev env = orF (a.ev env) b.ev env := nr rfl
theorem e_xtNot {T : Tbl} {W : Wd T} {a : XT W} {env} : (xtNot a).ev env = (a.ev env).map (!·) := nr rfl
theorem e_xtYes {T : Tbl} {W : Wd T} {env} : (xtYes W).ev env = some true := nr rfl
theorem e_xVar {T : Tbl} {W : Wd T} {i env} : (xVar W i).ev env = (getS env i).map (Prod.mk .pl) := nr rfl
theorem e_xInt {T : Tbl} {W : Wd T} {i env} : (xInt W i).ev env = some (.fr, .int i) := nr rfl
theorem e_xBl {T : Tbl} {W : Wd T} {b env} : (xBl W b).ev env = some (.fr, .bl b) := nr rfl
theorem e_xNon {T : Tbl} {W : Wd T} {env} : (xNon W).ev env = some (.fr, .non) := nr rfl
theorem e_xSub {T : Tbl} {W : Wd T} {a b : XP W} {env} : (xSub a b).ev env = (a.evV env).bind fun x => (b.evV env).bind fun y => (subD x y).map (Prod.mk .fr) := nr rfl
theorem e_xMul {T : Tbl} {W : Wd T} {a b : XP W} {env} : (xMul a b).ev env = (a.evV env).bind fun x => (b.evV env).bind fun y => (mulD x y).map (Prod.mk .fr) := nr rfl
theorem e_xDiv {T : Tbl} {W : Wd T} {a b : XP W} {env} : (xDiv a b).ev env = (a.evV env).bind fun x => (b.evV env).bind fun y => (divD x y).map (Prod.mk .fr) := nr rfl
theorem e_xMod {T : Tbl} {W : Wd T} {a b : XP W} {env} : (xMod a b).ev env = (a.evV env).bind fun x => (b.evV env).bind fun y => (modD x y).map (Prod.mk .fr) := nr rfl
theorem e_xPow {T : Tbl} {W : Wd T} {a b : XP W} {env} : (xPow a b).ev env = (a.evV env).bind fun x => (b.evV env).bind fun y => (powD x y).map (Prod.mk .fr) := nr rfl
theorem e_xNeg {T : Tbl} {W : Wd T} {a : XP W} {env} : (xNeg a).ev env = (a.evV env).bind fun x => (negD x).map (Prod.mk .fr) := by show (match a.evV env with | some x => _ | none => _) = _; cases a.evV env <;> rfl
theorem e_xAdd {T : Tbl} {W : Wd T} {a b : XP W} {env} : (xAdd a b).ev env = (a.evK env).bind fun x => (b.evK env).bind fun y => (addD x y).map (Prod.mk .fr) := nr rfl
theorem e_xEq {T : Tbl} {W : Wd T} {a b : XP W} {env} : (xEq a b).ev env = (a.evV env).bind fun x => (b.evV env).bind fun y => (eqD x y).map (Prod.mk .fr) := nr rfl
theorem e_xNe {T : Tbl} {W : Wd T} {a b : XP W} {env} : (xNe a b).ev env = (a.evV env).bind fun x => (b.evV env).bind fun y => (neD x y).map (Prod.mk .fr) := nr rfl
theorem e_xLt {T : Tbl} {W : Wd T} {a b : XP W} {env} : (xLt a b).ev env = (a.evV env).bind fun x => (b.evV env).bind fun y => (ltD x y).map (Prod.mk .fr) := nr rfl
theorem e_xGt {T : Tbl} {W : Wd T} {a b : XP W} {env} : (xGt a b).ev env = (a.evV env).bind fun x => (b.evV env).bind fun y => (cmpD (fun i j => decide (j < i)) x y).map (Prod.mk .fr) := nr rfl
theorem e_xGe {T : Tbl} {W : Wd T} {a b : XP W} {env} : (xGe a b).ev env = (a.evV env).bind fun x => (b.evV env).bind fun y => (cmpD (fun i j => decide (j <= i)) x y).map (Prod.mk .fr) := nr rfl
theorem e_xIsN {T : Tbl} {W : Wd T} {a : XP W} {env} : (xIsN a).ev env = (a.evV env).map fun x => (.fr, .bl (isNon x)) := nr rfl
theorem e_xNotN {T : Tbl} {W : Wd T} {a : XP W} {env} : (xNotN a).ev env = (a.evV env).map fun x => (.fr, .bl (!isNon x)) := nr rfl
theorem e_xAnd {T : Tbl} {W : Wd T} {a b : XP W} {env} : (xAnd a b).ev env = (andF (a.evB env) b.evB env).map fun c => (.fr, .bl c) := nr rfl
theorem e_xNot {T : Tbl} {W : Wd T} {a : XP W} {env} : (xNot a).ev env = (a.evB env).map fun c => (.fr, .bl (!c)) := nr rfl
theorem e_xTup {T : Tbl} {W : Wd T} {as : XA W} {env} : (xTup as).ev env = (as.evF env).bind fun ds => if ds.length <= 1000000 then some (.fr, .tup ds) else none := nr rfl
theorem e_xLst {T : Tbl} {W : Wd T} {as : XA W} {env} : (xLst as).ev env = (as.evF env).bind fun ds => if ds.length <= 1000000 then some (.fr, .olst ds) else none := nr rfl
theorem e_xInt1 {T : Tbl} {W : Wd T} {as : XA W} {env} : (xInt1 as).ev env = (as.evV env).bind fun ds => (intD ds).map (Prod.mk .fr) := nr rfl
theorem e_xAbs {T : Tbl} {W : Wd T} {as : XA W} {env} : (xAbs as).ev env = (as.evV env).bind fun ds => (absD ds).map (Prod.mk .fr) := nr rfl
theorem e_xIx {T : Tbl} {W : Wd T} {a b : XP W} {env} : (xIx a b).ev env = (a.ev env).bind fun p => (b.evV env).bind fun y => (ixD p.2 y).map p.1.of := nr rfl
theorem e_xFld {T : Tbl} {W : Wd T} {a : XP W} {f env} : (xFld a f).ev env = (a.ev env).bind fun p => (fldD T f p.2).map p.1.of := nr rfl
theorem e_xList {T : Tbl} {W : Wd T} {a : XP W} {env} : (xList a).ev env = (a.evK env).bind fun d => (seqOf d).map fun p => (.fr, .olst p.2) := nr rfl
theorem e_xIsi {T : Tbl} {W : Wd T} {c} {a : XP W} {env} : (xIsi c a).ev env = (a.evV env).bind fun x => (tyD x).map fun t => (.fr, .bl (isi1 T t c)) := nr rfl
theorem e_xIsiT {T : Tbl} {W : Wd T} {cs} {a : XP W} {env} : (xIsiT cs a).ev env = (a.evV env).bind fun x => (tyD x).map fun t => (.fr, .bl (isiA T t cs)) := nr rfl
theorem e_xCall {T : Tbl} {W : Wd T} {φ n} {as : XA W} {dds dvs hd env} : (xCall φ n as dds dvs hd).ev env = callE φ n dds (as.evF env) (as.evV env) := by show (match as.evF env with | some ds => _ | none => _) = _; unfold callE; cases as.evF env <;> first | rfl | (cases as.evV env <;> rfl)
theorem e_xLc {T : Tbl} {W : Wd T} {it : XI W} {g : XG W} {c x env} : (xLc it g c x).ev env = (it.evP env).bind fun ds => if ds.length < 1000000 then (lcL (lc1 g c x (wipeE env g.own)) ds).map fun ys => (.fr, .olst ys) else none := nr rfl
theorem e_xSorted {T : Tbl} {W : Wd T} {a : XP W} {env} : (xSorted a).ev env = (a.evK env).bind fun d => (seqOf d).bind fun p => if p.1 = false then (sortD p.2).map fun ys => (.fr, .olst ys) else none := nr rfl
theorem e_xmVar {T : Tbl} {W : Wd T} {i P env} : (xmVar W i).ev P env = RM.ofO ((getS env i).map fun d => (fz d, if isSh d = true then env else env.set i (some (fz d)))) := by show (match getS env i with | some d => _ | none => _) = _; cases getS env i <;> rfl
theorem e_xmMove {T : Tbl} {W : Wd T} {i P env} : (xmMove W i).ev P env = RM.ofO ((getS env i).map fun d => (d, env.set i none)) := by show (match getS env i with | some d => _ | none => _) = _; cases getS env i <;> rfl
theorem e_xmAppend {T : Tbl} {W : Wd T} {p : XPl W} {a : XP W} {P env} : (xmAppend p a).ev P env = RM.ofO ((p.ev env).bind fun q => ((xoCons a (xoNil W)).ev env).bind fun ds => (appendD q.2 ds).bind fun z => (getS env p.root).map fun d0 => (z.2, env.set p.root (some (d0.putAt q.1 z.1)))) := nr rfl
theorem e_xmReverse {T : Tbl} {W : Wd T} {p : XPl W} {P env} : (xmReverse p).ev P env = RM.ofO ((p.ev env).bind fun q => ((xoNil W).ev env).bind fun ds => (reverseD q.2 ds).bind fun z => (getS env p.root).map fun d0 => (z.2, env.set p.root (some (d0.putAt q.1 z.1)))) := nr rfl
theorem e_xoNil {T : Tbl} {W : Wd T} {env} : (xoNil W).ev env = some [] := nr rfl
theorem e_xoCons {T : Tbl} {W : Wd T} {a : XP W} {as : XO W} {env} : (xoCons a as).ev env = (a.evO env).bind fun x => (as.ev env).map (x :: ·) := nr rfl
theorem e_plVar {T : Tbl} {W : Wd T} {i env} : (plVar W i).ev env = (getS env i).map fun d => ([], d) := nr rfl
theorem r_plVar {T : Tbl} {W : Wd T} {i} : (plVar W i).root = i := nr rfl
theorem e_xaNilV {T : Tbl} {W : Wd T} {env} : (xaNil W).evV env = some [] := nr rfl
theorem e_xaNilF {T : Tbl} {W : Wd T} {env} : (xaNil W).evF env = some [] := nr rfl
theorem e_xaConsV {T : Tbl} {W : Wd T} {a : XP W} {as : XA W} {env} : (xaCons a as).evV env = (a.evV env).bind fun x => (as.evV env).map (x :: ·) := nr rfl
theorem e_xaConsF {T : Tbl} {W : Wd T} {a : XP W} {as : XA W} {env} : (xaCons a as).evF env = (a.evF env).bind fun x => (as.evF env).map (x :: ·) := nr rfl
theorem e_xgN {T : Tbl} {W : Wd T} {i P d env} : (xgN W i).ev P d env = setS P i d env := nr rfl
theorem e_xgsNil {T : Tbl} {W : Wd T} {P env} : (xgsNil W).ev P [] env = some env := nr rfl
theorem e_xgsCons {T : Tbl} {W : Wd T} {g : XG W} {gs : XGs W} {P d ds env} : (xgsCons g gs).ev P (d :: ds) env = (g.ev P d env).bind (gs.ev P ds) := nr rfl
theorem e_xgT {T : Tbl} {W : Wd T} {n} {gs : XGs W} {P ds env} : (xgT n gs).ev P (.tup ds) env = if ds.length = n then gs.ev P ds env else none := nr rfl
theorem o_xgN {T : Tbl} {W : Wd T} {i} : (xgN W i).own = [i] := nr rfl
theorem o_xgT {T : Tbl} {W : Wd T} {n} {gs : XGs W} : (xgT n gs).own = gs.own := nr rfl
theorem o_xgsNil {T : Tbl} {W : Wd T}  : (xgsNil W).own = [] := nr rfl
theorem o_xgsCons {T : Tbl} {W : Wd T} {g : XG W} {gs : XGs W} : (xgsCons g gs).own = g.own ++ gs.own := nr rfl
theorem e_xiSeqF {T : Tbl} {W : Wd T} {a : XP W} {env} : (xiSeq a).evF env = (a.evF env).bind seqF := nr rfl
theorem e_xiSeqP {T : Tbl} {W : Wd T} {a : XP W} {env} : (xiSeq a).evP env = (a.evK env).bind fun d => (seqOf d).map (·.2) := nr rfl
theorem e_xiR1F {T : Tbl} {W : Wd T} {as : XA W} {env} : (xiR1 as).evF env = (as.evV env).bind rng1D := nr rfl
theorem e_xiR1P {T : Tbl} {W : Wd T} {as : XA W} {env} : (xiR1 as).evP env = (as.evV env).bind rng1D := nr rfl
theorem e_xsFor {T : Tbl} {W : Wd T} {it : XI W} {g : XG W} {b : XS W} {P env} : (xsFor it g b).ev P env = forE (forK g b P) (it.evF env) env := by show (match it.evF env with | some ds => _ | none => _) = _; unfold forE forK turnE; cases it.evF env <;> rfl
theorem e_evV {T : Tbl} {W : Wd T} {x : XP W} {env} : x.evV env = toV (x.ev env) := nr rfl
theorem e_evK {T : Tbl} {W : Wd T} {x : XP W} {env} : x.evK env = toK (x.ev env) := nr rfl
theorem e_evF {T : Tbl} {W : Wd T} {x : XP W} {env} : x.evF env = toF (x.ev env) := nr rfl
theorem e_evO {T : Tbl} {W : Wd T} {x : XP W} {env} : x.evO env = toO (x.ev env) := nr rfl
theorem e_evB {T : Tbl} {W : Wd T} {x : XP W} {env} : x.evB env = (x.evV env).bind blD := nr rfl
theorem h_getS0 {d e} : getS (some d :: e) 0 = some d := nr rfl
theorem h_getS0n {e} : getS (none :: e) 0 = none := nr rfl
theorem h_getSs {x e} {n : Nat} : getS (x :: e) (n + 1) = getS e n := nr rfl
theorem h_toV {k d} : toV (some (k, d)) = some (fz d) := nr rfl
theorem h_toVn  : toV none = none := nr rfl
theorem h_toKf {d} : toK (some (.fr, d)) = some d := nr rfl
theorem h_toKp {d} : toK (some (.pl, d)) = some d := nr rfl
theorem h_toKv {d} : toK (some (.vw, d)) = if isFlat d = true then some d else none := nr rfl
theorem h_toKn  : toK none = none := nr rfl
theorem h_toFf {d} : toF (some (.fr, d)) = some (fz d) := nr rfl
theorem h_toFp {d} : toF (some (.pl, d)) = if isSh d = true then some d else none := nr rfl
theorem h_toFv {d} : toF (some (.vw, d)) = if isFlat d = true then some d else none := nr rfl
theorem h_toFn  : toF none = none := nr rfl
theorem h_toOf {d} : toO (some (.fr, d)) = some d := nr rfl
theorem h_toOp {d} : toO (some (.pl, d)) = if isSh d = true then some d else none := nr rfl
theorem h_toOv {d} : toO (some (.vw, d)) = if isFlat d = true then some d else none := nr rfl
theorem h_toOn  : toO none = none := nr rfl
theorem h_of_f {d} : Kd.of .fr d = (.pl, d) := nr rfl
theorem h_of_p {d} : Kd.of .pl d = (.pl, d) := nr rfl
theorem h_of_v {d} : Kd.of .vw d = (.vw, fz d) := nr rfl
theorem h_then_nx {e f} : RS.then (.nx e) f = f e := nr rfl
theorem h_then_rt {d e f} : RS.then (.rt d e) f = .rt d e := nr rfl
theorem h_then_bk {e f} : RS.then (.bk e) f = .bk e := nr rfl
theorem h_then_ct {e f} : RS.then (.ct e) f = .ct e := nr rfl
theorem h_then_ex {x e f} : RS.then (.ex x e) f = .ex x e := nr rfl
theorem h_then_no {f} : RS.then .no f = .no := nr rfl
theorem h_thenS_ok {d e f} : RM.thenS (.ok d e) f = f d e := nr rfl
theorem h_thenS_exn {x e f} : RM.thenS (.exn x e) f = .ex x e := nr rfl
theorem h_thenS_no {f} : RM.thenS .no f = .no := nr rfl
theorem h_ofO {e} : RS.ofO (some e) = .nx e := nr rfl
theorem h_ofOn  : RS.ofO none = .no := nr rfl
theorem h_of {d e} : RM.of (some d) e = .ok d e := nr rfl
theorem h_ofn {e} : RM.of none e = .no := nr rfl
theorem h_mofO {d e} : RM.ofO (some (d, e)) = .ok d e := nr rfl
theorem h_mofOn  : RM.ofO none = .no := nr rfl
theorem h_iteF1 {s u e} : iteF (some true) s u e = s e := nr rfl
theorem h_iteF0 {s u e} : iteF (some false) s u e = u e := nr rfl
theorem h_iteFn {s u e} : iteF none s u e = .no := nr rfl
theorem h_asgK {P i d e} : asgK P i d e = RS.ofO (setS P i d e) := nr rfl
theorem h_forK {T : Tbl} {W : Wd T} {g : XG W} {b : XS W} {P d e} : forK g b P d e = turnE (g.ev P d e) (b.ev P) := nr rfl
theorem h_andF1 {f e} : andF (some true) f e = f e := nr rfl
theorem h_andF0 {f e} : andF (some false) f e = some false := nr rfl
theorem h_orF1 {f e} : orF (some true) f e = some true := nr rfl
theorem h_orF0 {f e} : orF (some false) f e = f e := nr rfl
theorem h_blD {b} : blD (.bl b) = some b := nr rfl
theorem h_turn {e f} : turnE (some e) f = f e := nr rfl
theorem h_turnn {f} : turnE none f = .no := nr rfl
theorem h_forE {f ds env} : forE f (some ds) env = forL f ds env := nr rfl
theorem h_forEn {f env} : forE f none env = .no := nr rfl
theorem h_callF {φ : List D -> Option Nat -> Rz} {n dds ds v} : callE φ n dds (some ds) v = if (ds ++ dds).length = n then (φ (ds ++ dds) none).toF else none := nr rfl
theorem h_callV {φ : List D -> Option Nat -> Rz} {n dds ds} : callE φ n dds none (some ds) = if (ds ++ dds).length = n then (φ (ds ++ dds) none).toV else none := nr rfl
theorem h_rzF {d b} : (Rz.ok d b).toF = some (.fr, d) := nr rfl
theorem h_rzV {d b} : (Rz.ok d b).toV = some (if isFlat d = true then (.fr, d) else (.vw, fz d)) := nr rfl
theorem h_fz_non  : fz (.non) = .non := by simp [fz]
theorem h_sh_non  : isSh (.non) = true := nr rfl
theorem h_fl_non  : isFlat (.non) = true := nr rfl
theorem h_isN_non  : isNon (.non) = true := nr rfl
theorem h_fz_bl {b} : fz (.bl b) = .bl b := by simp [fz]
theorem h_sh_bl {b} : isSh (.bl b) = true := nr rfl
theorem h_fl_bl {b} : isFlat (.bl b) = true := nr rfl
theorem h_fz_int {i} : fz (.int i) = .int i := by simp [fz]
theorem h_sh_int {i} : isSh (.int i) = true := nr rfl
theorem h_fl_int {i} : isFlat (.int i) = true := nr rfl
theorem h_isN_int {i} : isNon (.int i) = false := nr rfl
theorem h_fz_str {x} : fz (.str x) = .str x := by simp [fz]
theorem h_sh_str {x} : isSh (.str x) = true := nr rfl
theorem h_fl_str {x} : isFlat (.str x) = true := nr rfl
theorem h_isN_str {x} : isNon (.str x) = false := nr rfl
theorem h_fz_cls {c} : fz (.cls c) = .cls c := by simp [fz]
theorem h_sh_cls {c} : isSh (.cls c) = true := nr rfl
theorem h_fl_cls {c} : isFlat (.cls c) = true := nr rfl
theorem h_isN_cls {c} : isNon (.cls c) = false := nr rfl
theorem h_fz_sei {xs} : fz (.sei xs) = .sei xs := by simp [fz]
theorem h_sh_sei {xs} : isSh (.sei xs) = true := nr rfl
theorem h_fl_sei {xs} : isFlat (.sei xs) = false := nr rfl
theorem h_isN_sei {xs} : isNon (.sei xs) = false := nr rfl
theorem h_fz_scr {ns} : fz (.scr ns) = .scr ns := by simp [fz]
theorem h_sh_scr {ns} : isSh (.scr ns) = true := nr rfl
theorem h_fl_scr {ns} : isFlat (.scr ns) = false := nr rfl
theorem h_isN_scr {ns} : isNon (.scr ns) = false := nr rfl
theorem h_fz_tup {xs} : fz (.tup xs) = .tup xs := by simp [fz]
theorem h_sh_tup {xs} : isSh (.tup xs) = true := nr rfl
theorem h_fl_tup {xs} : isFlat (.tup xs) = false := nr rfl
theorem h_isN_tup {xs} : isNon (.tup xs) = false := nr rfl
theorem h_fz_lst {xs} : fz (.lst xs) = .lst xs := by simp [fz]
theorem h_sh_lst {xs} : isSh (.lst xs) = true := nr rfl
theorem h_fl_lst {xs} : isFlat (.lst xs) = false := nr rfl
theorem h_isN_lst {xs} : isNon (.lst xs) = false := nr rfl
theorem h_fz_dic {ks xs} : fz (.dic ks xs) = .dic ks xs := by simp [fz]
theorem h_sh_dic {ks xs} : isSh (.dic ks xs) = true := nr rfl
theorem h_fl_dic {ks xs} : isFlat (.dic ks xs) = false := nr rfl
theorem h_isN_dic {ks xs} : isNon (.dic ks xs) = false := nr rfl
theorem h_fz_dit {ks xs} : fz (.dit ks xs) = .dit ks xs := by simp [fz]
theorem h_sh_dit {ks xs} : isSh (.dit ks xs) = true := nr rfl
theorem h_fl_dit {ks xs} : isFlat (.dit ks xs) = false := nr rfl
theorem h_isN_dit {ks xs} : isNon (.dit ks xs) = false := nr rfl
theorem h_fz_dig {ks xs} : fz (.dig ks xs) = .dig ks xs := by simp [fz]
theorem h_sh_dig {ks xs} : isSh (.dig ks xs) = true := nr rfl
theorem h_fl_dig {ks xs} : isFlat (.dig ks xs) = false := nr rfl
theorem h_isN_dig {ks xs} : isNon (.dig ks xs) = false := nr rfl
theorem h_fz_dlf {m ks xs} : fz (.dlf m ks xs) = .dlf m ks xs := by simp [fz]
theorem h_sh_dlf {m ks xs} : isSh (.dlf m ks xs) = true := nr rfl
theorem h_fl_dlf {m ks xs} : isFlat (.dlf m ks xs) = false := nr rfl
theorem h_isN_dlf {m ks xs} : isNon (.dlf m ks xs) = false := nr rfl
theorem h_fz_ins {c ns xs} : fz (.ins c ns xs) = .ins c ns xs := by simp [fz]
theorem h_sh_ins {c ns xs} : isSh (.ins c ns xs) = true := nr rfl
theorem h_fl_ins {c ns xs} : isFlat (.ins c ns xs) = false := nr rfl
theorem h_isN_ins {c ns xs} : isNon (.ins c ns xs) = false := nr rfl
theorem h_isN_bl {b} : isNon (.bl b) = false := nr rfl
theorem h_fz_olst {xs} : fz (.olst xs) = .lst (fzs xs) := by rw [fz]
theorem h_sh_olst {xs} : isSh (.olst xs) = false := nr rfl
theorem h_fl_olst {xs} : isFlat (.olst xs) = false := nr rfl
theorem h_fz_odic {ks xs} : fz (.odic ks xs) = .dic ks (fzs xs) := by rw [fz]
theorem h_sh_odic {ks xs} : isSh (.odic ks xs) = false := nr rfl
theorem h_fl_odic {ks xs} : isFlat (.odic ks xs) = false := nr rfl
theorem h_fz_odit {ks xs} : fz (.odit ks xs) = .dit ks (fzs xs) := by rw [fz]
theorem h_sh_odit {ks xs} : isSh (.odit ks xs) = false := nr rfl
theorem h_fl_odit {ks xs} : isFlat (.odit ks xs) = false := nr rfl
theorem h_fz_odig {ks xs} : fz (.odig ks xs) = .dig ks (fzs xs) := by rw [fz]
theorem h_sh_odig {ks xs} : isSh (.odig ks xs) = false := nr rfl
theorem h_fl_odig {ks xs} : isFlat (.odig ks xs) = false := nr rfl
theorem h_fz_olf {m ks xs} : fz (.olf m ks xs) = .dlf m ks (fzs xs) := by rw [fz]
theorem h_sh_olf {m ks xs} : isSh (.olf m ks xs) = false := nr rfl
theorem h_fl_olf {m ks xs} : isFlat (.olf m ks xs) = false := nr rfl
theorem h_fz_oins {c ns xs} : fz (.oins c ns xs) = .ins c ns (fzs xs) := by rw [fz]
theorem h_sh_oins {c ns xs} : isSh (.oins c ns xs) = false := nr rfl
theorem h_fl_oins {c ns xs} : isFlat (.oins c ns xs) = false := nr rfl
theorem h_fzs_nil  : fzs [] = [] := by rw [fzs]
theorem h_fzs_cons {x xs} : fzs (x :: xs) = fz x :: fzs xs := by rw [fzs]
theorem h_fzs_app {xs ys} : fzs (xs ++ ys) = fzs xs ++ fzs ys := by rw [fzs_eq, fzs_eq, fzs_eq, List.map_append]
theorem h_tru_bl {b} : truD (.bl b) = some b := nr rfl
theorem h_tru_non  : truD .non = some false := nr rfl
theorem h_tru_int {i} : truD (.int i) = some (decide (i ≠ 0)) := nr rfl
theorem h_tru_lst {ds} : truD (.lst ds) = some (!ds.isEmpty) := nr rfl
theorem h_tru_tup {ds} : truD (.tup ds) = some (!ds.isEmpty) := nr rfl
theorem h_sub {i j} : subD (.int i) (.int j) = some (.int (i - j)) := nr rfl
theorem h_neg {i} : negD (.int i) = some (.int (-i)) := nr rfl
theorem h_addI {i j} : addD (.int i) (.int j) = some (.int (i + j)) := nr rfl
theorem h_addT {xs ys} : addD (.tup xs) (.tup ys) = if xs ≠ [] /\ xs.length + ys.length <= 1000000 then some (.tup (xs ++ ys)) else none := nr rfl
theorem h_addL {xs ys} : addD (.lst xs) (.lst ys) = if xs.length + ys.length <= 1000000 then some (.olst (xs ++ ys)) else none := nr rfl
theorem h_addLo {xs ys} : addD (.lst xs) (.olst ys) = if ys.all isSh = true then (if xs.length + ys.length <= 1000000 then some (.olst (xs ++ ys)) else none) else none := by by_cases h1 : xs.all isSh = true <;> by_cases h2 : ys.all isSh = true <;> simp only [addD, lstOf, h1, h2, if_true, if_false, and_self, and_true, true_and, and_false, false_and, Bool.false_eq_true]
theorem h_addoL {xs ys} : addD (.olst xs) (.lst ys) = if xs.all isSh = true then (if xs.length + ys.length <= 1000000 then some (.olst (xs ++ ys)) else none) else none := by by_cases h1 : xs.all isSh = true <;> by_cases h2 : ys.all isSh = true <;> simp only [addD, lstOf, h1, h2, if_true, if_false, and_self, and_true, true_and, and_false, false_and, Bool.false_eq_true]
theorem h_addoo {xs ys} : addD (.olst xs) (.olst ys) = if xs.all isSh = true /\ ys.all isSh = true then (if xs.length + ys.length <= 1000000 then some (.olst (xs ++ ys)) else none) else none := by by_cases h1 : xs.all isSh = true <;> by_cases h2 : ys.all isSh = true <;> simp only [addD, lstOf, h1, h2, if_true, if_false, and_self, and_true, true_and, and_false, false_and, Bool.false_eq_true]
theorem h_mulL {i j} (h1 : -18446744073709551616 < i) (h2 : i < 18446744073709551616) : mulD (.int i) (.int j) = some (.int (i * j)) := if_pos (.inl ⟨h1, h2⟩)
theorem h_mulR {i j} (h1 : -18446744073709551616 < j) (h2 : j < 18446744073709551616) : mulD (.int i) (.int j) = some (.int (i * j)) := if_pos (.inr (.inl ⟨h1, h2⟩))
theorem h_div {i j} (h1 : 0 < j) (h2 : j < 1073741824) : divD (.int i) (.int j) = some (.int (i / j)) := if_pos ⟨h1, .inl h2⟩
theorem h_mod {i j} (h1 : 0 < j) : modD (.int i) (.int j) = some (.int (i % j)) := if_pos h1
theorem h_eqD {x y} : eqD x y = if okD 60 x = true /\ okD 60 y = true then some (.bl (eqB x y)) else none := nr rfl
theorem h_neD {x y} : neD x y = if okD 60 x = true /\ okD 60 y = true then some (.bl (!eqB x y)) else none := nr rfl
theorem h_ok_non {n} : okD n (.non) = true := by cases n <;> simp [okD]
theorem h_ok_bl {n}{b} : okD n (.bl b) = true := by cases n <;> simp [okD]
theorem h_ok_int {n}{i} : okD n (.int i) = true := by cases n <;> simp [okD]
theorem h_ok_str {n}{x} : okD n (.str x) = true := by cases n <;> simp [okD]
theorem h_ok_tup {n xs} : okD (n + 1) (.tup xs) = okDs n xs := by rw [okD]
theorem h_ok_lst {n xs} : okD (n + 1) (.lst xs) = okDs n xs := by rw [okD]
theorem h_oks_nil {n} : okDs n [] = true := by rw [okDs]
theorem h_oks_cons {n x xs} : okDs n (x :: xs) = (okD n x && okDs n xs) := by rw [okDs]
theorem h_eqB_ii {i j} : eqB (.int i) (.int j) = decide (i = j) := by rw [eqB]
theorem h_eqB_ss {x y} : eqB (.str x) (.str y) = decide (x = y) := by rw [eqB]
theorem h_eqB_bb {a b} : eqB (.bl a) (.bl b) = decide (a = b) := by rw [eqB]
theorem h_eqB_nn  : eqB .non .non = true := by rw [eqB]
theorem h_eqB_ni {i} : eqB .non (.int i) = false := by simp [eqB]
theorem h_eqB_in {i} : eqB (.int i) .non = false := by simp [eqB]
theorem h_eqB_nt {xs} : eqB .non (.tup xs) = false := by simp [eqB]
theorem h_eqB_tn {xs} : eqB (.tup xs) .non = false := by simp [eqB]
theorem h_eqB_tt {xs ys} : eqB (.tup xs) (.tup ys) = eqBs xs ys := by rw [eqB]
theorem h_eqB_ll {xs ys} : eqB (.lst xs) (.lst ys) = eqBs xs ys := by rw [eqB]
theorem h_eqBs_nn  : eqBs [] [] = true := by rw [eqBs]
theorem h_eqBs_cc {x xs y ys} : eqBs (x :: xs) (y :: ys) = (eqB x y && eqBs xs ys) := by rw [eqBs]
theorem h_eqBs_nc {y ys} : eqBs [] (y :: ys) = false := by simp [eqBs]
theorem h_eqBs_cn {y ys} : eqBs (y :: ys) [] = false := by simp [eqBs]
theorem h_cmp {f i j} : cmpD f (.int i) (.int j) = some (.bl (f i j)) := nr rfl
theorem h_ltI {i j} : ltD (.int i) (.int j) = some (.bl (decide (i < j))) := nr rfl
theorem h_ltT {xs ys} : ltD (.tup xs) (.tup ys) = (intsOf xs).bind fun ns => (intsOf ys).map fun ms => .bl (HT.lexLt ns ms) := nr rfl
theorem h_ints_nil  : intsOf [] = some [] := nr rfl
theorem h_ints_cons {i ds} : intsOf (.int i :: ds) = (intsOf ds).map (i :: ·) := nr rfl
theorem h_intI {i} : intD [.int i] = some (.int i) := nr rfl
theorem h_intB {b} : intD [.bl b] = some (.int (if b = true then 1 else 0)) := nr rfl
theorem h_abs {i} : absD [.int i] = some (.int (if i < 0 then -i else i)) := nr rfl
theorem h_lenL {ds} : lenD [.lst ds] = some (.int ds.length) := nr rfl
theorem h_lenT {ds} : lenD [.tup ds] = some (.int ds.length) := nr rfl
theorem h_lenS {ns} : lenD [.scr ns] = some (.int ns.length) := nr rfl
theorem h_ix {d i} : ixD d (.int i) = (itemsD d).bind fun xs => atI xs i := nr rfl
theorem h_it_lst {xs} : itemsD (.lst xs) = some xs := nr rfl
theorem h_it_olst {xs} : itemsD (.olst xs) = some xs := nr rfl
theorem h_it_tup {xs} : itemsD (.tup xs) = some xs := nr rfl
theorem h_it_scr {ns} : itemsD (.scr ns) = some (ns.map .int) := nr rfl
theorem h_at0 {α : Type} {x : α} {xs} : atI (x :: xs) 0 = some x := by simp [atI, ixN]
theorem h_at1 {α : Type} {xs : List α} : atI xs 1 = xs[1]? := atI_litN 1
theorem h_at2 {α : Type} {xs : List α} : atI xs 2 = xs[2]? := atI_litN 2
theorem h_at3 {α : Type} {xs : List α} : atI xs 3 = xs[3]? := atI_litN 3
theorem h_at4 {α : Type} {xs : List α} : atI xs 4 = xs[4]? := atI_litN 4
theorem h_at5 {α : Type} {xs : List α} : atI xs 5 = xs[5]? := atI_litN 5
theorem h_at6 {α : Type} {xs : List α} : atI xs 6 = xs[6]? := atI_litN 6
theorem h_at7 {α : Type} {xs : List α} : atI xs 7 = xs[7]? := atI_litN 7
theorem h_at8 {α : Type} {xs : List α} : atI xs 8 = xs[8]? := atI_litN 8
theorem h_at9 {α : Type} {xs : List α} : atI xs 9 = xs[9]? := atI_litN 9
theorem h_at10 {α : Type} {xs : List α} : atI xs 10 = xs[10]? := atI_litN 10
theorem h_at11 {α : Type} {xs : List α} : atI xs 11 = xs[11]? := atI_litN 11
theorem h_at12 {α : Type} {xs : List α} : atI xs 12 = xs[12]? := atI_litN 12
theorem h_atm1 {α : Type} {xs : List α} : atI xs (-1) = xs.getLast? := atI_last
theorem h_seq_lst {xs} : seqOf (.lst xs) = some (false, xs) := nr rfl
theorem h_seq_tup {xs} : seqOf (.tup xs) = some (true, xs) := nr rfl
theorem h_seq_olst {xs} : seqOf (.olst xs) = if xs.all isSh = true then some (false, xs) else none := nr rfl
theorem h_seq_scr {ns} : seqOf (.scr ns) = some (false, ns.map .int) := nr rfl
theorem h_sF_lst {xs} : seqF (.lst xs) = some xs := nr rfl
theorem h_sF_tup {xs} : seqF (.tup xs) = some xs := nr rfl
theorem h_sF_scr {ns} : seqF (.scr ns) = some (ns.map .int) := nr rfl
theorem h_lF_lst {xs} : lstF (.lst xs) = some xs := nr rfl
theorem h_ty_non  : tyD (.non) = some (false, "NoneType") := nr rfl
theorem h_ty_bl {b} : tyD (.bl b) = some (false, "bool") := nr rfl
theorem h_ty_int {i} : tyD (.int i) = some (false, "int") := nr rfl
theorem h_ty_str {x} : tyD (.str x) = some (false, "str") := nr rfl
theorem h_ty_lst {xs} : tyD (.lst xs) = some (false, "list") := nr rfl
theorem h_ty_tup {xs} : tyD (.tup xs) = some (false, "tuple") := nr rfl
theorem h_ty_ins {c ns xs} : tyD (.ins c ns xs) = some (true, c) := nr rfl
theorem h_isi_bb {T : Tbl} {a b} : isi1 T (false, a) (false, b) = isiB a b := nr rfl
theorem h_isi_bo {T : Tbl} {a b} : isi1 T (false, a) (true, b) = false := nr rfl
theorem h_isi_ob {T : Tbl} {a b} : isi1 T (true, a) (false, b) = false := nr rfl
theorem h_isi_oo {T : Tbl} {a b} : isi1 T (true, a) (true, b) = T.sub a b := nr rfl
theorem h_isiA_n {T : Tbl} {t} : isiA T t [] = false := nr rfl
theorem h_isiA_c {T : Tbl} {t c cs} : isiA T t (c :: cs) = (isi1 T t c || isiA T t cs) := nr rfl
theorem h_isiB_NoneType_bool  : isiB "NoneType" "bool" = false := by decide
theorem h_isiB_NoneType_int  : isiB "NoneType" "int" = false := by decide
theorem h_isiB_NoneType_str  : isiB "NoneType" "str" = false := by decide
theorem h_isiB_NoneType_list  : isiB "NoneType" "list" = false := by decide
theorem h_isiB_NoneType_tuple  : isiB "NoneType" "tuple" = false := by decide
theorem h_isiB_NoneType_dict  : isiB "NoneType" "dict" = false := by decide
theorem h_isiB_bool_bool  : isiB "bool" "bool" = true := by decide
theorem h_isiB_bool_int  : isiB "bool" "int" = true := by decide
theorem h_isiB_bool_str  : isiB "bool" "str" = false := by decide
theorem h_isiB_bool_list  : isiB "bool" "list" = false := by decide
theorem h_isiB_bool_tuple  : isiB "bool" "tuple" = false := by decide
theorem h_isiB_bool_dict  : isiB "bool" "dict" = false := by decide
theorem h_isiB_int_bool  : isiB "int" "bool" = false := by decide
theorem h_isiB_int_int  : isiB "int" "int" = true := by decide
theorem h_isiB_int_str  : isiB "int" "str" = false := by decide
theorem h_isiB_int_list  : isiB "int" "list" = false := by decide
theorem h_isiB_int_tuple  : isiB "int" "tuple" = false := by decide
theorem h_isiB_int_dict  : isiB "int" "dict" = false := by decide
theorem h_isiB_str_bool  : isiB "str" "bool" = false := by decide
theorem h_isiB_str_int  : isiB "str" "int" = false := by decide
theorem h_isiB_str_str  : isiB "str" "str" = true := by decide
theorem h_isiB_str_list  : isiB "str" "list" = false := by decide
theorem h_isiB_str_tuple  : isiB "str" "tuple" = false := by decide
theorem h_isiB_str_dict  : isiB "str" "dict" = false := by decide
theorem h_isiB_list_bool  : isiB "list" "bool" = false := by decide
theorem h_isiB_list_int  : isiB "list" "int" = false := by decide
theorem h_isiB_list_str  : isiB "list" "str" = false := by decide
theorem h_isiB_list_list  : isiB "list" "list" = true := by decide
theorem h_isiB_list_tuple  : isiB "list" "tuple" = false := by decide
theorem h_isiB_list_dict  : isiB "list" "dict" = false := by decide
theorem h_isiB_tuple_bool  : isiB "tuple" "bool" = false := by decide
theorem h_isiB_tuple_int  : isiB "tuple" "int" = false := by decide
theorem h_isiB_tuple_str  : isiB "tuple" "str" = false := by decide
theorem h_isiB_tuple_list  : isiB "tuple" "list" = false := by decide
theorem h_isiB_tuple_tuple  : isiB "tuple" "tuple" = true := by decide
theorem h_isiB_tuple_dict  : isiB "tuple" "dict" = false := by decide
theorem h_isiB_dict_bool  : isiB "dict" "bool" = false := by decide
theorem h_isiB_dict_int  : isiB "dict" "int" = false := by decide
theorem h_isiB_dict_str  : isiB "dict" "str" = false := by decide
theorem h_isiB_dict_list  : isiB "dict" "list" = false := by decide
theorem h_isiB_dict_tuple  : isiB "dict" "tuple" = false := by decide
theorem h_isiB_dict_dict  : isiB "dict" "dict" = true := by decide
theorem h_append {xs d} : appendD (.olst xs) [d] = if xs.length < 1000000 then some (.olst (xs ++ [d]), .non) else none := nr rfl
theorem h_rev {xs} : reverseD (.olst xs) [] = if xs.all isSh = true then some (.olst xs.reverse, .non) else none := nr rfl
theorem h_put0 {d n : D} : D.putAt d [] n = n := nr rfl
theorem h_rng1 {n} : rng1D [.int n] = guardB (rngOk n) (some (rangeD 0 n.toNat)) := nr rfl
theorem h_guard1 {α : Type} {x : Option α} : guardB true x = x := nr rfl
theorem h_guard0 {α : Type} {x : Option α} : guardB false x = none := nr rfl
theorem h_rngOk {i : Int} (h1 : -1000000000000000000 <= i) (h2 : i <= 1000000000000000000) : rngOk i = true := Nat.ble_eq_true_of_le (by omega)
theorem h_forLn {f env} : forL f [] env = .nx env := nr rfl
theorem h_forLc {f d ds env} : forL f (d :: ds) env = forT f ds (f d env) := by show (match f d env with | .nx e => _ | .ct e => _ | .bk e => _ | r => r) = _; cases f d env <;> rfl
theorem h_forT_nx {f ds e} : forT f ds (.nx e) = forL f ds e := nr rfl
theorem h_forT_ct {f ds e} : forT f ds (.ct e) = forL f ds e := nr rfl
theorem h_forT_bk {f ds e} : forT f ds (.bk e) = .nx e := nr rfl
theorem h_forT_rt {f ds d e} : forT f ds (.rt d e) = .rt d e := nr rfl
theorem h_forT_ex {f ds x e} : forT f ds (.ex x e) = .ex x e := nr rfl
theorem h_lc1 {T : Tbl} {W : Wd T} {g : XG W} {c : XT W} {x : XP W} {env d} : lc1 g c x env d = lcK c x (g.ev [] d env) := by show (g.ev [] d env).bind _ = _; cases g.ev [] d env <;> rfl
theorem h_lcK {T : Tbl} {W : Wd T} {c : XT W} {x : XP W} {e} : lcK c x (some e) = lcJ x (c.ev e) e := nr rfl
theorem h_lcJ1 {T : Tbl} {W : Wd T} {x : XP W} {e} : lcJ x (some true) e = (x.evO e).map fun y => [y] := nr rfl
theorem h_lcJ0 {T : Tbl} {W : Wd T} {x : XP W} {e} : lcJ x (some false) e = some [] := nr rfl
theorem h_wipe0 {env} : wipeE env [] = env := nr rfl
theorem h_wipes {env v vs} : wipeE env (v :: vs) = (wipeE env vs).set v none := nr rfl
theorem h_frz {env i} : frzS env i = frzO env i (getS env i) := by unfold frzS frzO; cases getS env i <;> rfl
theorem h_frzO {env i d} : frzO env i (some d) = env.set i (some (fz d)) := nr rfl
theorem h_frzOn {env i} : frzO env i none = env := nr rfl
theorem h_runR_rt {b d env} : runR b (.rt d env) = retZ (bGet b env) d := by cases hb : bGet b env <;> simp [runR, retZ, hb]
theorem h_runR_nx {b env} : runR b (.nx env) = retZ (bGet b env) .non := by cases hb : bGet b env <;> simp [runR, retZ, hb]
theorem h_retZ {x d} : retZ (some x) d = .ok d x := nr rfl
theorem h_bGetn {env} : bGet none env = some none := nr rfl
theorem h_bGets {i env} : bGet (some i) env = (getS env i).map some := nr rfl
theorem h_setS {P i d env} : setS P i d env = if i < env.length /\ i ∉ P then some (env.set i (some d)) else none := nr rfl
theorem h_fldI {T : Tbl} {f c ns xs} : fldD T f (.ins c ns xs) = if T.fOk c f = true then (pos f ns).bind fun j => xs[j]? else none := nr rfl
theorem h_fldO {T : Tbl} {f c ns xs} : fldD T f (.oins c ns xs) = if T.fOk c f = true then (pos f ns).bind fun j => xs[j]? else none := nr rfl
theorem h_iteFd1 {p : Prop} [Decidable p] {s u e} (h : p) : iteF (some (decide p)) s u e = s e := by rw [decide_eq_true h]; rfl
theorem h_iteFd0 {p : Prop} [Decidable p] {s u e} (h : ¬ p) : iteF (some (decide p)) s u e = u e := by rw [decide_eq_false h]; rfl
theorem h_iteFe1 {p : Prop} [Decidable p] {s u e} (h : ¬ p) : iteF (some (!decide p)) s u e = s e := by rw [decide_eq_false h]; rfl
theorem h_iteFe0 {p : Prop} [Decidable p] {s u e} (h : p) : iteF (some (!decide p)) s u e = u e := by rw [decide_eq_true h]; rfl
theorem h_andFd1 {p : Prop} [Decidable p] {s e} (h : p) : andF (some (decide p)) s e = s e := by rw [decide_eq_true h]; rfl
theorem h_andFd0 {p : Prop} [Decidable p] {s e} (h : ¬ p) : andF (some (decide p)) s e = some false := by rw [decide_eq_false h]; rfl
theorem h_andFe1 {p : Prop} [Decidable p] {s e} (h : ¬ p) : andF (some (!decide p)) s e = s e := by rw [decide_eq_false h]; rfl
theorem h_andFe0 {p : Prop} [Decidable p] {s e} (h : p) : andF (some (!decide p)) s e = some false := by rw [decide_eq_true h]; rfl
theorem h_orFd1 {p : Prop} [Decidable p] {s e} (h : p) : orF (some (decide p)) s e = some true := by rw [decide_eq_true h]; rfl
theorem h_orFd0 {p : Prop} [Decidable p] {s e} (h : ¬ p) : orF (some (decide p)) s e = s e := by rw [decide_eq_false h]; rfl
theorem h_orFe1 {p : Prop} [Decidable p] {s e} (h : ¬ p) : orF (some (!decide p)) s e = some true := by rw [decide_eq_false h]; rfl
theorem h_orFe0 {p : Prop} [Decidable p] {s e} (h : p) : orF (some (!decide p)) s e = s e := by rw [decide_eq_true h]; rfl
theorem h_lcJd1 {T : Tbl} {W : Wd T} {x : XP W} {e} {p : Prop} [Decidable p] (h : p) : lcJ x (some (decide p)) e = (x.evO e).map fun y => [y] := by rw [decide_eq_true h]; rfl
theorem h_lcJd0 {T : Tbl} {W : Wd T} {x : XP W} {e} {p : Prop} [Decidable p] (h : ¬ p) : lcJ x (some (decide p)) e = some [] := by rw [decide_eq_false h]; rfl
theorem h_lcJe1 {T : Tbl} {W : Wd T} {x : XP W} {e} {p : Prop} [Decidable p] (h : ¬ p) : lcJ x (some (!decide p)) e = (x.evO e).map fun y => [y] := by rw [decide_eq_false h]; rfl
theorem h_lcJe0 {T : Tbl} {W : Wd T} {x : XP W} {e} {p : Prop} [Decidable p] (h : p) : lcJ x (some (!decide p)) e = some [] := by rw [decide_eq_true h]; rfl
theorem h_eMeth {T : Tbl} {W : Wd T} {φ : Sem} {m n} {a : XP W} {as : XA W} {env} : (xMeth φ m n a as).ev env = methE T φ m n (a.evF env) (as.evF env) (a.evV env) (as.evV env) := nr rfl
theorem h_methF {T : Tbl} {φ : Sem} {m n d ds v vs} : methE T φ m n (some d) (some ds) v vs = (meth1 T φ m n (d :: ds)).toF := nr rfl
theorem h_methV {T : Tbl} {φ : Sem} {m n fs d ds} : methE T φ m n none fs (some d) (some ds) = (meth1 T φ m n (d :: ds)).toV := nr rfl
theorem h_methW {T : Tbl} {φ : Sem} {m n f d ds} : methE T φ m n (some f) none (some d) (some ds) = (meth1 T φ m n (d :: ds)).toV := nr rfl
theorem h_meth1 {T : Tbl} {φ : Sem} {m n c ns xs ds} : meth1 T φ m n (.ins c ns xs :: ds) = resE (T.res c m) fun nm => if pos m ns = none /\ ds.length + 1 = n then φ nm (.ins c ns xs :: ds) none else .no := by show (match T.res c m with | some nm => _ | none => _) = _; cases T.res c m <;> rfl
theorem h_resE {nm f} : resE (some nm) f = f nm := nr rfl
theorem h_resEn {f} : resE none f = .no := nr rfl
theorem h_posn {m : String} : pos m [] = none := nr rfl
theorem h_posc {m n : String} {ns} : pos m (n :: ns) = if n = m then some 0 else (pos m ns).map (· + 1) := nr rfl
theorem h_putc {d : D} {s st n} : D.putAt d (s :: st) n = putE d s st n (d.sub s) := by show (match d.sub s with | some x => _ | none => _) = _; cases d.sub s <;> rfl
theorem h_putE {d : D} {s st n x} : putE d s st n (some x) = d.put s (x.putAt st n) := nr rfl
theorem h_subF {c ns xs f} : D.sub (.oins c ns xs) (.fld f) = (pos f ns).bind fun j => xs[j]? := nr rfl
theorem h_subI {xs k} : D.sub (.olst xs) (.idx k) = xs[k]? := nr rfl
theorem h_putF {c ns xs f y} : D.put (.oins c ns xs) (.fld f) y = .oins c ns (setO xs (pos f ns) y) := by show (match pos f ns with | some j => _ | none => _) = _; cases pos f ns <;> rfl
theorem h_putI {xs k y} : D.put (.olst xs) (.idx k) y = .olst (xs.set k y) := nr rfl
theorem h_setOs {xs : List D} {j y} : setO xs (some j) y = xs.set j y := nr rfl
theorem h_eSfld {T : Tbl} {W : Wd T} {p : XPl W} {f} {m : XM W} {P env} : (xsFld p f m).ev P env = (m.ev P env).thenS (fldK T p f) := nr rfl
theorem h_fldK {T : Tbl} {W : Wd T} {p : XPl W} {f d e} : fldK T p f d e = RS.ofO ((p.ev e).bind fun q => (setFD T f q.2 [d]).bind fun z => (getS e p.root).map fun d0 => e.set p.root (some (d0.putAt q.1 z.1))) := nr rfl
theorem h_setFD {T : Tbl} {f c ns xs d} : setFD T f (.oins c ns xs) [d] = if T.fOk c f = true /\ ns.length < 1000 then some (.oins c (setF f d ns xs).1 (setF f d ns xs).2, .non) else none := nr rfl
theorem h_setFn {f d} : setF f d [] [] = ([f], [d]) := nr rfl
theorem h_setFc {f d n ns x xs} : setF f d (n :: ns) (x :: xs) = if n = f then (n :: ns, d :: xs) else ((n :: (setF f d ns xs).1), x :: (setF f d ns xs).2) := nr rfl
theorem h_eMake {T : Tbl} {W : Wd T} {φ : Sem} {c ini n} {as : XA W} {dds dvs hd env} : (xMake φ c ini n as dds dvs hd).ev env = makeE φ c ini n dds (as.evF env) (as.evV env) := nr rfl
theorem h_makeF {φ : Sem} {c ini n dds ds v} : makeE φ c ini n dds (some ds) v = (mk1 φ c ini n (ds ++ dds)).map (Prod.mk .fr) := nr rfl
theorem h_makeV {φ : Sem} {c ini n dds ds} : makeE φ c ini n dds none (some ds) = (mk1 φ c ini n (ds ++ dds)).map fun d => (.vw, fz d) := nr rfl
theorem h_mk1 {φ : Sem} {c ini n ds} : mk1 φ c ini n ds = if ds.length + 1 = n then mkR (φ ini (.oins c [] [] :: ds) (some 0)) else none := nr rfl
theorem h_mkR {d} : mkR (.ok .non (some d)) = some d := nr rfl
theorem h_eLenU {T : Tbl} {W : Wd T} {φ : Sem} {as : XA W} {env} : (xLenU φ as).ev env = (as.evV env).bind fun ds => (lenI1 T φ ds).map (Prod.mk .fr) := nr rfl
theorem h_lenI_lst {T : Tbl} {φ : Sem} {xs} : lenI1 T φ [.lst xs] = lenD [.lst xs] := nr rfl
theorem h_lenI_tup {T : Tbl} {φ : Sem} {xs} : lenI1 T φ [.tup xs] = lenD [.tup xs] := nr rfl
theorem h_lenI_scr {T : Tbl} {φ : Sem} {xs} : lenI1 T φ [.scr xs] = lenD [.scr xs] := nr rfl
theorem h_lenI_ins {T : Tbl} {φ : Sem} {c ns xs} : lenI1 T φ [.ins c ns xs] = lenQ (T.res c "__len__") fun nm => lenR (φ nm [.ins c ns xs] none) := by show (match T.res c "__len__" with | some nm => _ | none => _) = _; cases T.res c "__len__" <;> rfl
theorem h_lenQ {nm f} : lenQ (some nm) f = f nm := nr rfl
theorem h_lenR {i b} : lenR (.ok (.int i) b) = if 0 <= i /\ i <= 1000000 then some (.int i) else none := nr rfl
theorem h_RTthen_ok {d e f} : RT.then (.ok d e) f = f d e := nr rfl
theorem h_RTthenS_ok {d e f} : RT.thenS (.ok d e) f = f d e := nr rfl
theorem h_RTthen_exn {x e f} : RT.then (.exn x e) f = .exn x e := nr rfl
theorem h_RTthenS_exn {x e f} : RT.thenS (.exn x e) f = .ex x e := nr rfl
theorem h_RTof {b e} : RT.of (some b) e = .ok b e := nr rfl
theorem h_eListU {T : Tbl} {W : Wd T} {φ : Sem} {a : XP W} {env} : (xListU φ a).ev env = (a.evK env).bind (lstE T φ) := nr rfl
theorem h_lstE_lst {T : Tbl} {φ : Sem} {xs} : lstE T φ (.lst xs) = some (.fr, .olst xs) := nr rfl
theorem h_lstE_tup {T : Tbl} {φ : Sem} {xs} : lstE T φ (.tup xs) = some (.fr, .olst xs) := nr rfl
theorem h_lstE_scr {T : Tbl} {φ : Sem} {ns} : lstE T φ (.scr ns) = some (.fr, .olst (ns.map .int)) := nr rfl
theorem h_lstE_olst {T : Tbl} {φ : Sem} {xs} : lstE T φ (.olst xs) = if xs.all isSh = true then some (.fr, .olst xs) else none := by by_cases h : xs.all isSh = true <;> simp only [lstE, seqOf, itOf, h, if_true, if_false, Option.bind_none, Bool.false_eq_true]
theorem h_lstE_ins {T : Tbl} {φ : Sem} {c ns xs} : lstE T φ (.ins c ns xs) = itQ (itOf T (.ins c ns xs)) fun zs => (lenI1 T φ [.ins c ns xs]).bind fun _ => if zs.length <= 1000000 then some (.fr, .olst zs) else none := by unfold lstE; show (itOf T (.ins c ns xs)).bind _ = _; rw [fz_isSh rfl]; cases itOf T (.ins c ns xs) <;> rfl
theorem h_itQ {zs f} : itQ (some zs) f = f zs := nr rfl
theorem h_it_ins {T : Tbl} {c ns xs} : itOf T (.ins c ns xs) = (T.it c).bind fun f => (pos f ns).bind fun j => (xs[j]?).bind lstOf := nr rfl
theorem h_lo_lst {xs} : lstOf (.lst xs) = some xs := nr rfl
theorem h_lo_olst {xs} : lstOf (.olst xs) = if xs.all isSh = true then some xs else none := nr rfl
theorem h_eiSeqUF {T : Tbl} {W : Wd T} {a : XP W} {env} : (xiSeqU a).evF env = (a.evF env).bind (seqFI T) := nr rfl
theorem h_eiSeqUP {T : Tbl} {W : Wd T} {a : XP W} {env} : (xiSeqU a).evP env = (a.evK env).bind (seqKI T) := nr rfl
theorem h_eiEnumUF {T : Tbl} {W : Wd T} {a : XP W} {env} : (xiEnumU a).evF env = (a.evF env).bind (enFI T) := nr rfl
theorem h_eiEnumUP {T : Tbl} {W : Wd T} {a : XP W} {env} : (xiEnumU a).evP env = (a.evK env).bind (enKI T) := nr rfl
theorem h_seqFI_lst {T : Tbl} {xs} : seqFI T (.lst xs) = some xs := nr rfl
theorem h_seqFI_tup {T : Tbl} {xs} : seqFI T (.tup xs) = some xs := nr rfl
theorem h_seqFI_scr {T : Tbl} {ns} : seqFI T (.scr ns) = some (ns.map .int) := nr rfl
theorem h_seqFI_ins {T : Tbl} {c ns xs} : seqFI T (.ins c ns xs) = itOf T (.ins c ns xs) := nr rfl
theorem h_seqKI_lst {T : Tbl} {xs} : seqKI T (.lst xs) = some xs := nr rfl
theorem h_seqKI_tup {T : Tbl} {xs} : seqKI T (.tup xs) = some xs := nr rfl
theorem h_seqKI_scr {T : Tbl} {ns} : seqKI T (.scr ns) = some (ns.map .int) := nr rfl
theorem h_seqKI_ins {T : Tbl} {c ns xs} : seqKI T (.ins c ns xs) = itOf T (.ins c ns xs) := nr rfl
theorem h_seqKI_olst {T : Tbl} {xs} : seqKI T (.olst xs) = if xs.all isSh = true then some xs else none := by by_cases h : xs.all isSh = true <;> simp only [seqKI, seqOf, itOf, h, if_true, if_false, Bool.false_eq_true]
theorem h_enFI_lst {T : Tbl} {xs} : enFI T (.lst xs) = some (enumD xs) := nr rfl
theorem h_enFI_ins {T : Tbl} {c ns xs} : enFI T (.ins c ns xs) = (itOf T (.ins c ns xs)).map enumD := nr rfl
theorem h_enKI_lst {T : Tbl} {xs} : enKI T (.lst xs) = some (enumD xs) := nr rfl
theorem h_enKI_ins {T : Tbl} {c ns xs} : enKI T (.ins c ns xs) = (itOf T (.ins c ns xs)).map enumD := nr rfl
theorem h_enKI_olst {T : Tbl} {xs} : enKI T (.olst xs) = if xs.all isSh = true then some (enumD xs) else none := by by_cases h : xs.all isSh = true <;> simp only [enKI, lstOf, itOf, h, if_true, if_false, Option.map_none, Bool.false_eq_true]
theorem h_ixD_ins {c ns xs i} : ixD (.ins c ns xs) (.int i) = none := nr rfl
theorem h_okD_ins {n c ns xs} : okD n (.ins c ns xs) = false := by cases n <;> simp [okD]
theorem h_eqD_ins {c ns xs y} : eqD (.ins c ns xs) y = none := by show (if okD 60 (.ins c ns xs) = true /\ okD 60 y = true then _ else _) = _; rw [if_neg (fun z => nomatch z.1)]
theorem h_addD_ins {c ns xs y} : addD (.ins c ns xs) y = none := nr rfl
theorem h_addD_oins {c ns xs y} : addD (.oins c ns xs) y = none := nr rfl
theorem h_eSum {T : Tbl} {W : Wd T} {a : XP W} {env} : (xSum a).ev env = (a.evK env).bind fun d => (seqOf d).bind fun p => (sumI p.2).map (Prod.mk .fr) := nr rfl
theorem h_sumI {ns : List Int} : sumI (ns.map .int) = some (.int ns.sum) := by unfold sumI; rw [intsOf_map]; rfl
theorem h_eIn {T : Tbl} {W : Wd T} {neg} {a b : XP W} {env} : (xIn neg a b).ev env = (a.evV env).bind fun x => (b.evV env).bind fun y => (seqOf y).bind fun p => (inL neg x p.2).map (Prod.mk .fr) := nr rfl
theorem h_inK_non {neg ks} : inK neg ks .non = some (.bl neg) := nr rfl
theorem h_inK_int {neg ks i} : inK neg ks (.int i) = some (.bl (if neg = true then !hasK ks (.inl i) else hasK ks (.inl i))) := nr rfl
theorem h_inK_str {neg ks x} : inK neg ks (.str x) = some (.bl (if neg = true then !hasK ks (.inr (so x)) else hasK ks (.inr (so x)))) := nr rfl
theorem h_guardB_t {α : Type} {x : Option α} : guardB true x = x := nr rfl
theorem h_keyD_i {i} : keyD (.int i) = some (.inl i) := nr rfl
theorem h_keyD_s {x} : keyD (.str x) = some (.inr (so x)) := nr rfl
theorem h_qevO {T : Tbl} {W : Wd T} {i} {m : XQ W i} {x env} : m.evO x env = toO (m.ev x env) := nr rfl
theorem h_qevB {T : Tbl} {W : Wd T} {i} {m : XQ W i} {x env} : m.evB x env = (toV (m.ev x env)).bind blD := nr rfl
theorem h_qevF {T : Tbl} {W : Wd T} {i} {m : XQ W i} {x env} : m.evF x env = toQ (m.ev x env) := nr rfl
theorem h_toQf {d} : toQ (some (.fr, d)) = if isSh d = true then some d else none := nr rfl
theorem h_toQp {d} : toQ (some (.pl, d)) = if isSh d = true then some d else none := nr rfl
theorem h_toQv {d} : toQ (some (.vw, d)) = if isFlat d = true then some d else none := nr rfl
theorem h_toQn  : toQ none = none := nr rfl
theorem h_runR_ex {b x env} : runR b (.ex x env) = retX (bGet b env) x := by cases hb : bGet b env <;> simp [runR, retX, hb]
theorem h_retX {o x} : retX (some o) x = .exn x o := nr rfl
theorem h_thenY1 {ys e f} : (RY.nx ys e).then f = f ys e := nr rfl
theorem h_thenY2 {ys e f} : (RY.ct ys e).then f = .ct ys e := nr rfl
theorem h_thenY3 {ys e f} : (RY.bk ys e).then f = .bk ys e := nr rfl
theorem h_look1 {k : String} {d : D} {r} : List.lookup k ((k, d) :: r) = some d := by simp
theorem h_look2 {k f : String} {d : D} {r} (h : ¬ f = k) : List.lookup f ((k, d) :: r) = List.lookup f r := by rw [List.lookup_cons, beq_eq_false_iff_ne.mpr h]
end Py
namespace Py
open PySem L2
section
variable {T : Tbl} {W : Wd T} {env : Py.Env}
end
end Py
namespace Py
open PySem L2
section
variable {T : Tbl} {W : Wd T} {env : Py.Env} {P : List Nat} {E : WX}
end
end Py
namespace Py
open PySem L2
section
variable {T : Tbl} {W : Wd T}
end
end Py
namespace Py
open PySem L2
section
variable {T : Tbl} {W : Wd T}
end
end Py
namespace Py
open PySem L2
section
variable {X : Cx} {T : Tbl} {W : Wd T} {E : WX}
end
end Py
namespace Py
open PySem L2
section
variable {T : Tbl} {W : Wd T} {env : Py.Env} {P : List Nat} {E : WX}
end
end Py
namespace Py
open PySem L2
section
variable {T : Tbl} {W : Wd T} {env : Py.Env} {P : List Nat} {E : WX}
end
end Py
namespace Py
open PySem L2
section
variable {T : Tbl} {W : Wd T} {env : Py.Env} {ds : List D}
structure Acc2 {T : Tbl} (W : Wd T) (F H F1 H1 : Hp) (Dl : Addr) (acc : List D) (F' H' : Hp) : Prop where
  x : Ext F H F' H'
  s1 : Same F1 F'
  s2 : Same H1 H'
  nl : F' Dl = none
  at_ : ∃ ws M, H' Dl = some (.lst ws) /\ Owns W F' H' acc ws M /\ (Dl :: M).Nodup /\ ∀ a ∈ M, H a = none /\ F' a = none
theorem Acc2.ext {F H F1 H1 F' H' F2 H2 : Hp} {Dl : Addr} {acc : List D} (c : Acc2 W F H F1 H1 Dl acc F' H') (x3 : Ext F' H' F2 H2) : Acc2 W F H F1 H1 Dl acc F2 H2 := by
  obtain ⟨ws, M, hl, os, nd, hM⟩ := c.at_
  have nn : ∀ a, (∃ o, H' a = some o) -> F' a = none -> F2 a = none := fun a ⟨o, ho⟩ hf => by
    cases z : F2 a with
    | none => rfl
    | some u =>
      rcases x3.n a u z with w | w
      · rw [hf] at w; cases w
      · rw [ho] at w; cases w
  exact ⟨c.x.trans x3, c.s1.trans x3.f, c.s2.trans x3.h, nn Dl ⟨_, hl⟩ c.nl, ws, M, x3.h _ _ hl, os.frame x3.f fun a _ o ho => x3.h _ _ ho, nd, fun a ha => ⟨(hM a ha).1, nn a (os.lives a ha) (hM a ha).2⟩⟩
theorem Acc2.push {F H F1 H1 F3 H3 F4 H4 : Hp} {Dl : Addr} {acc : List D} {y : D} {w : V} {My : List Addr} (c : Acc2 W F H F1 H1 Dl acc F3 H3) (x4 : Ext F3 H3 F4 H4) (hD : H1 Dl = none) (hH : H Dl = none) (oy : Own W F4 H4 y w My) (ndy : My.Nodup) (ky : ∀ a ∈ My, H3 a = none /\ F4 a = none) :
    ∃ ws, H4 Dl = some (.lst ws) /\ ws.length = acc.length /\ Acc2 W F H F1 H1 Dl (acc ++ [y]) F4 (upd H4 Dl (.lst (ws ++ [w]))) := by
  have c4 := c.ext x4
  obtain ⟨ws3, M3, hl3, os3, nd3, hM3⟩ := c.at_
  obtain ⟨ws, M, hl, os, nd, hM⟩ := c4.at_
  have e3 : ws = ws3 := by
    have := x4.h _ _ hl3
    rw [hl] at this
    cases this; rfl
  subst e3
  have nD : ∀ b ∈ My, b ≠ Dl := fun b hb z => by rw [<- z, (ky b hb).1] at hl3; cases hl3
  have os3' : Owns W F4 H4 acc ws M3 := os3.frame x4.f fun a _ o ho => x4.h _ _ ho
  refine ⟨ws, hl, os.length.symm, ⟨?_, c4.s1, fun b u hb => by rw [upd_ne (fun z => by rw [z, hD] at hb; cases hb)]; exact c4.s2 _ _ hb, c4.nl, ws ++ [w], M3 ++ My, upd_same, ?_, ?_, ?_⟩⟩
  · exact ⟨c4.x.f, fun b u hb => by rw [upd_ne (fun z => by rw [z, c4.nl] at hb; cases hb)]; exact c4.x.s _ _ hb, fun b u hb => by rw [upd_ne (fun z => by rw [z, hH] at hb; cases hb)]; exact c4.x.h _ _ hb, c4.x.n⟩
  · refine Owns.snoc (os3'.frame (Same.refl _) fun b hb u hu => ?_) (oy.frame (Same.refl _) fun b hb u hu => ?_)
    · rw [upd_ne (fun z => (List.nodup_cons.mp nd3).1 (by rw [<- z]; exact hb))]; exact hu
    · rw [upd_ne (nD b hb)]; exact hu
  · have fr : ∀ b ∈ My, b ∉ Dl :: M3 := fun b hb z => by
      have : ∃ o, H3 b = some o := by
        rcases List.mem_cons.mp z with z | z
        · exact ⟨_, by rw [z]; exact hl3⟩
        · exact os3.lives b z
      obtain ⟨o, ho⟩ := this
      rw [(ky b hb).1] at ho; cases ho
    have : ((Dl :: M3) ++ My).Nodup := by
      rw [List.nodup_append]
      exact ⟨nd3, ndy, fun b hb c hc z => fr c hc (by rw [<- z]; exact hb)⟩
    exact this
  · intro b hb
    rcases List.mem_append.mp hb with z | z
    · refine ⟨(hM3 b z).1, ?_⟩
      cases q : F4 b with
      | none => rfl
      | some u =>
        obtain ⟨o, ho⟩ := os3.lives b z
        rcases x4.n b u q with v | v
        · rw [(hM3 b z).2] at v; cases v
        · rw [ho] at v; cases v
    · exact ⟨c.x.h.free (ky b z).1, (ky b z).2⟩
end
end Py
namespace Py
open PySem PySem.Spec PyProof.Rows L2
structure ZAp (z TI TO i1 i2 : Addr) (f1 f2 : List Addr) : Prop where
  TIz : TI ≠ z
  TOz : TO ≠ z
  i1z : i1 ≠ z
  i2z : i2 ≠ z
  TITO : TI ≠ TO
  TIi1 : TI ≠ i1
  TIi2 : TI ≠ i2
  TOi1 : TO ≠ i1
  TOi2 : TO ≠ i2
  i12 : i1 ≠ i2
  zf1 : z ∉ f1
  TOf1 : TO ∉ f1
  i2f1 : i2 ∉ f1
  zf2 : z ∉ f2
  TOf2 : TO ∉ f2
  i1f2 : i1 ∉ f2
section
variable {prog : Program} {w : World} {A : Around} {E : Value -> Shared -> Prop} {s : Shared} {z TI TO i1 i2 : Addr} {f1 f2 : List Addr} {n1 n2 k1 k2 : Nat} {P1 P2 : Nat -> Value -> Prop} {S1 S2 : Nat -> Heap -> Prop} {a b : Value}
end
section
variable {prog : Program} {w : World} {A : Around} {E : Value -> Shared -> Prop} {s : Shared}
end
theorem ZAp.of {z TI TO i1 i2 a b : Addr} (D : ZipApart z TI TO i1 i2 a b) : ZAp z TI TO i1 i2 [i1, a] [i2, b] where
  TIz := D.TIz
  TOz := D.TOz
  i1z := D.i1z
  i2z := D.i2z
  TITO := D.TITO
  TIi1 := D.TIi1
  TIi2 := D.TIi2
  TOi1 := D.TOi1
  TOi2 := D.TOi2
  i12 := D.i12
  zf1 := by simp [D.i1z.symm, D.l1z.symm]
  TOf1 := by simp [D.TOi1, D.l1TO.symm]
  i2f1 := by simp [D.i12.symm, D.l1i2.symm]
  zf2 := by simp [D.i2z.symm, D.l2z.symm]
  TOf2 := by simp [D.TOi2, D.l2TO.symm]
  i1f2 := by simp [D.i12, D.l2i1.symm]
section
variable {T : Tbl} {W : Wd T} {env : Py.Env} {ta tb : TE} {ds es : List D}
end
end Py
namespace Py
open PySem L2
section
variable {T : Tbl} {W : Wd T} {X : Cx} {pins : List (Addr × Obj)} {σ : St} {H : Hp} {s : Shared}
end
section
variable {T : Tbl} {W : Wd T}
end
end Py
namespace Py
open PySem L2
section
variable {T : Tbl} {W : Wd T}
end
end Py
namespace L2
open PySem PySem.Spec PyProof.Rows
inductive HdsA (X : Cx) (n : Str) : List ExceptHandler -> List (Value × (Addr -> Value -> Option Addr -> TS)) -> Prop
  | nil : HdsA X n [] []
  | cons {x : Str} {c : Value} {ts : Addr -> Value -> Option Addr -> TS} {b₀ : Stmt} {suite : List Stmt} {np pos' : Pos} {hds : List ExceptHandler} {l : List (Value × (Addr -> Value -> Option Addr -> TS))} (hc : Names X x c)
      (hsu : ∀ (a : Addr) (oe : Obj) (cls : Value) (d : Option Addr) (pn : List (Addr × Obj)), Zc cls d oe -> (∃ vs, oe.data = .fields vs) -> PSs (X.suite a ((a, oe) :: pn)) (b₀ :: suite) (ts a cls d)) (r : HdsA X n hds l) :
      HdsA X n (.ExceptHandler (some (.Name x np)) (some n) (b₀ :: suite) pos' :: hds) ((c, ts) :: l)
section
variable {X : Cx} {n : Str} {i : Nat} {body : List Stmt} {h₀ : ExceptHandler} {hds : List ExceptHandler} {l : List (Value × (Addr -> Value -> Option Addr -> TS))} {pos : Pos} {tb : WX -> TS} {Wout : WX}
end
end L2
namespace Py
open PySem L2
section
variable {T : Tbl} {W : Wd T}
section
variable {X : Cx} {pins : List (Addr × Obj)} {σ : St} {H : Hp} {s : Shared}
end
def q2 (r : R2) (Q : VK) : List V -> Hp -> Prop := fun vs H => match vs with
  | [x, y] => r x y H Q
  | _ => False
end
end Py
namespace L2
open PySem PySem.Spec PyProof.Rows
section
variable {M : Model} {A : Around} {E : Value -> Shared -> Prop} {s : Shared} {Z : Obj -> Prop} {base : Heap} {env : Env} {outer l : List Env} {L e : Addr}
end
section
variable {X : Cx}
end
end L2
namespace Py
open PySem L2
structure XEl {T : Tbl} (W : Wd T) where
  t : WX -> TE
  ev : Py.Env -> Rz
  snd : ∀ (E : WX) (env : Py.Env) (e : Ent) (F : Hp) (σ : St) (H : Hp) (L : List Addr) (Q : VK), ev env ≠ .no -> Rel W e env F σ H L ->
    (∀ d b v F' H', ev env = .ok d b -> Ext F H F' H' -> rO W d F' H' H v -> Q v H') -> (∀ x b F' H' C dd, ev env = .exn x b -> Ext F H F' H' -> IsExn W F' x C dd -> E C dd σ H') -> t E σ H Q
section
variable {T : Tbl} {W : Wd T} {env : Py.Env} {E : WX}
end
end Py
namespace L2
open PySem PySem.Spec PyProof.Rows
def napped : GenState -> GenState
  | .suspended _ l c p fs cl => .suspended (fun _ => .unsupported "asleep") l c p fs cl
  | x => x
def sleeps : GenState -> Bool
  | .suspended .. => true
  | _ => false
def isRet : Frame -> Bool
  | .ret .. => true
  | .gen .. => false
theorem napped_seen (x : GenState) : (napped x).seen = x.seen := by cases x <;> rfl
theorem napped_bare (x : GenState) : (napped x).bare = x.bare := by cases x <;> rfl
structure Nap (rl : Nat -> Option GenState) (v s : Shared) : Prop where
  hp : s.heap = v.heap
  dr : s.drawn = v.drawn
  tk : s.toks = v.toks
  os : s.os = v.os
  sz : s.gens.size = v.gens.size
  sl : ∀ i st, rl i = some st -> sleeps st = true
  at' : ∀ i st, rl i = some st -> s.gens[i]? = some st /\ v.gens[i]? = some (napped st)
  ot : ∀ i, rl i = none -> s.gens[i]? = v.gens[i]?
  ng : ∀ i k l c p fs cl, rl i = none -> v.gens[i]? = some (.suspended k l c p fs cl) -> fs.all isRet = true
section
variable {M : Model} {rl : Nat -> Option GenState} {v s v' : Shared} {Γ : PySem.Ctx} {p : Pos} {fs : List Frame} {e : End}
theorem Nap.heap (n : Nap rl v s) (h : Heap) : Nap rl { v with heap := h } { s with heap := h } := ⟨rfl, n.dr, n.tk, n.os, n.sz, n.sl, n.at', n.ot, n.ng⟩
theorem Nap.toks (n : Nap rl v s) (h : Nat) : Nap rl { v with toks := h } { s with toks := h } := ⟨n.hp, n.dr, rfl, n.os, n.sz, n.sl, n.at', n.ot, n.ng⟩
theorem Nap.drawn (n : Nap rl v s) (h : Drawn) : Nap rl { v with drawn := h } { s with drawn := h } := ⟨n.hp, rfl, n.tk, n.os, n.sz, n.sl, n.at', n.ot, n.ng⟩
theorem Nap.set (n : Nap rl v s) {g : Nat} {x : GenState} (hg : rl g = none) (hx : ∀ k l c p fs cl, x = .suspended k l c p fs cl -> fs.all isRet = true) : Nap rl (v.setGen g x) (s.setGen g x) := by
  have nx : ∀ i st, rl i = some st -> i ≠ g := fun i st h z => by rw [z, hg] at h; cases h
  have o : ∀ (u : Shared) i, i ≠ g -> (u.setGen g x).gens[i]? = u.gens[i]? := fun u i h => by
    show (u.gens.setIfInBounds g x)[i]? = _
    rw [Array.getElem?_setIfInBounds_ne (Ne.symm h)]
  have self : ∀ (u : Shared), g < u.gens.size -> (u.setGen g x).gens[g]? = some x := fun u h => by
    show (u.gens.setIfInBounds g x)[g]? = _
    simp [h]
  have out : ∀ (u : Shared), ¬ g < u.gens.size -> (u.setGen g x).gens[g]? = none := fun u h => by
    show (u.gens.setIfInBounds g x)[g]? = _
    rw [Array.getElem?_eq_none (by rw [Array.size_setIfInBounds]; omega)]
  refine ⟨n.hp, n.dr, n.tk, n.os, ?_, n.sl, fun i st h => ?_, fun i h => ?_, fun i k l c p fs cl h hv => ?_⟩
  · show (s.gens.setIfInBounds g x).size = (v.gens.setIfInBounds g x).size
    rw [Array.size_setIfInBounds, Array.size_setIfInBounds, n.sz]
  · rw [o _ _ (nx i st h), o _ _ (nx i st h)]
    exact n.at' i st h
  · by_cases z : i = g
    · subst z
      by_cases hb : i < v.gens.size
      · rw [self _ hb, self _ (by rw [n.sz]; exact hb)]
      · rw [out _ hb, out _ (by rw [n.sz]; exact hb)]
    · rw [o _ _ z, o _ _ z]
      exact n.ot i h
  · by_cases z : i = g
    · subst z
      by_cases hb : i < v.gens.size
      · rw [self _ hb] at hv
        exact hx k l c p fs cl (Option.some.inj hv)
      · rw [out _ hb] at hv; cases hv
    · rw [o _ _ z] at hv
      exact n.ng i k l c p fs cl h hv
theorem Nap.push (n : Nap rl v s) (c : Code) : Nap rl { v with gens := v.gens.push (.fresh c) } { s with gens := s.gens.push (.fresh c) } := by
  have lt : ∀ i st, rl i = some st -> i < v.gens.size := fun i st h => (Array.getElem?_eq_some_iff.mp (n.at' i st h).2).1
  have pu : ∀ (a : Array GenState) i, i < a.size -> (a.push (.fresh c))[i]? = a[i]? := fun a i h => by
    rw [Array.getElem?_push, if_neg (by omega)]
  refine ⟨n.hp, n.dr, n.tk, n.os, by show (s.gens.push _).size = (v.gens.push _).size; rw [Array.size_push, Array.size_push, n.sz], n.sl, fun i st h => ?_, fun i h => ?_, fun i k l c' p fs cl h hv => ?_⟩
  · show (s.gens.push _)[i]? = _ /\ (v.gens.push _)[i]? = _
    rw [pu _ _ (lt i st h), pu _ _ (by rw [n.sz]; exact lt i st h)]
    exact n.at' i st h
  · show (s.gens.push _)[i]? = (v.gens.push _)[i]?
    rw [Array.getElem?_push, Array.getElem?_push, n.sz, n.ot i h]
  · have hv : (v.gens.push (.fresh c))[i]? = some (.suspended k l c' p fs cl) := hv
    rw [Array.getElem?_push] at hv
    by_cases z : i = v.gens.size
    · rw [if_pos z] at hv
      have := Option.some.inj hv
      cases this
    · rw [if_neg z] at hv
      exact n.ng i k l c' p fs cl h hv
theorem Nap.awake (n : Nap rl v s) {g : Nat} {x : GenState} (h : v.gens[g]? = some x) (hx : sleeps x = false) : rl g = none := by
  cases e : rl g with
  | none => rfl
  | some st =>
    have := (n.at' g st e).2
    rw [h] at this
    have z := n.sl g st e
    rw [Option.some.inj this] at hx
    cases st <;> first | exact Bool.noConfusion (show false = true from z) | exact Bool.noConfusion (show true = false from hx)
theorem Nap.get (n : Nap rl v s) {g : Nat} {x : GenState} (h : v.gens[g]? = some x) (hx : sleeps x = false) : s.gens[g]? = some x := by
  rw [n.ot g (n.awake h hx)]; exact h
theorem Nap.look (n : Nap rl v s) {g : Nat} {x : GenState} (h : v.gens[g]? = some x) : ∃ x', s.gens[g]? = some x' /\ x'.seen = x.seen := by
  cases e : rl g with
  | none => exact ⟨x, by rw [n.ot g e]; exact h, rfl⟩
  | some st0 =>
    obtain ⟨a, b⟩ := n.at' g st0 e
    rw [h] at b
    exact ⟨st0, a, by rw [Option.some.inj b, napped_seen]⟩
end
theorem Nap.bare {rl : Nat -> Option GenState} {v s : Shared} (n : Nap rl v s) (h : AllBare v.gens) : AllBare s.gens := fun y hy => by
  obtain ⟨i, hi, e⟩ := Array.mem_iff_getElem.mp hy
  have e1 : s.gens[i]? = some y := by rw [Array.getElem?_eq_getElem hi, e]
  cases q : rl i with
  | none =>
    rw [n.ot i q] at e1
    exact h y (Array.mem_of_getElem? e1)
  | some st =>
    obtain ⟨a, b⟩ := n.at' i st q
    rw [e1] at a
    cases a
    have := h _ (Array.mem_of_getElem? b)
    rw [napped_bare] at this
    exact this
end L2
namespace L2
open PySem PySem.Spec PyProof.Rows
def Sg (M : Model) (A : Around) (Φ : End -> Shared -> Prop) (c : Code) (t : Sem PySem.Fin) (fs : List Frame) (s : Shared) : Prop :=
  ∀ (Γ : PySem.Ctx) (p : PySem.Pos), Γ.code = c -> Γ.Woken A -> ∃ e s', Runs M Γ p t fs s e s' /\ Φ e s'
section
variable {M : Model} {A : Around} {Φ Φ' : End -> Shared -> Prop} {c : Code} {fs : List Frame} {s : Shared}
theorem Sg.mono {t : Sem PySem.Fin} (h : Sg M A Φ c t fs s) (k : ∀ e s', Φ e s' -> Φ' e s') : Sg M A Φ' c t fs s := fun Γ p hc hΓ =>
  let ⟨e, s', r, q⟩ := h Γ p hc hΓ
  ⟨e, s', r, k e s' q⟩
end
section
variable {M : Model} {A : Around} {Φ : End -> Shared -> Prop} {c : Code} {fs : List Frame} {s : Shared} {env : PySem.Env} {K : Flow -> Sem PySem.Fin} {J : Value -> Sem PySem.Fin} {gd : Bool -> Bool} {lv : List Value -> List Value}
end
section
variable {prog : Program} {w : World} {A : Around} {Φ : End -> Shared -> Prop} {fs : List Frame} {s : Shared} {env : PySem.Env}
end
end L2
namespace L2
open PySem PySem.Spec PyProof.Rows GenW
def upTo (s : Shared) (n : Nat) : Shared := { s with heap := { s.heap with objs := s.heap.objs.extract 0 n } }
structure Gx where
  prog : Program
  w : World
  K : PySem.W.Frag
  mg : Str -> Option Value
  base : Heap
  N : List Str
  qual : Str
  scope : Scope
  f : Addr
  cd : Value
  A : Around
  outer : List PySem.Env
  n0 : Nat
  a : Addr
  go : Obj
  g : Nat
abbrev Gx.env (X : Gx) : PySem.Env := envOfC X.qual X.scope X.n0 X.f X.cd
def Gx.cx (X : Gx) (s : Shared) (H : Hp) : Cx where
  prog := X.prog
  w := X.w
  K := X.K
  mg := X.mg
  base := X.base
  A := X.A.deeper X.env
  N := X.N
  s_0 := s
  H_0 := H
  env := X.env
  outer := X.outer
  stack := X.env :: X.outer
  ex := []
  calm := true
  fn := fun _ => true
  pn := [(X.a, X.go)]
  xe := fun _ _ => False
structure Gx.Ok (X : Gx) : Prop where
  go : ∃ nm qn, X.go.cls = .type "generator" /\ X.go.data = .fields #[.int X.g 0, nm, qn] /\ X.go.slots = #[]
  young : X.n0 <= X.a
  frl : ∀ L ∈ frs X.outer, L < X.n0
  bsz : X.base.objs.size <= X.n0
structure Woke (X : Gx) (H : Hp) (s : Shared) (H' : Hp) (s' : Shared) : Prop where
  env : Env0 X.prog X.w X.K X.mg X.base X.A X.outer s' H'
  os : s'.os = s.os
  keep : ∀ b o, X.n0 <= b -> H b = none -> s.heap.get? b = some o -> s'.heap.get? b = some o /\ H' b = none
section
variable {X : Gx} {ip : List (Addr × Obj)} {σ : St} {H H' Hs : Hp} {s s' ss : Shared}
theorem Woke.size (k : Woke X H s H' s') {b : Nat} (hb : X.n0 <= b) {o : Obj} (hn : H b = none) (e : s.heap.get? b = some o) : X.n0 <= s'.heap.objs.size :=
  Nat.le_trans hb (Nat.le_of_lt (Heap.lt_size (k.keep b o hb hn e).1))
structure Moved (X : Gx) (Hs : Hp) (ss : Shared) (H : Hp) (s : Shared) : Prop where
  os : s.os = ss.os
  bare : AllBare s.gens
  hok : HOk X.prog X.w H s.heap
  lim : s.heap.NoLimit
  gen : s.heap.IsGen X.a X.g
  gn : H X.a = none
  un : Un (frs X.outer) ((List.range ss.heap.objs.size).filter fun b => decide (X.n0 <= b)) Hs H ss.heap s.heap
end
end L2
namespace L2
open PySem PySem.Spec PyProof.Rows GenW
def GP : Nat -> Type
  | 0 => Hp -> Prop
  | n + 1 => (V -> Hp -> (GP n -> Hp -> Prop) -> Prop) × (Hp -> Prop)
def GP.en : {n : Nat} -> GP n -> Hp -> Prop
  | 0, G => G
  | _ + 1, G => G.2
def GP.yl {n : Nat} (G : GP (n + 1)) : V -> Hp -> (GP n -> Hp -> Prop) -> Prop := G.1
def Phi (X : Gx) : (n : Nat) -> GP n -> Hp -> Shared -> End -> Shared -> Prop
  | 0, G, Hs, ss, .ret r, s' => (r = .ok (.ret .none) \/ r = .ok .next) /\ ∃ H', Moved X Hs ss H' s' /\ GP.en G H'
  | 0, _, _, _, .susp .., _ => False
  | _ + 1, G, Hs, ss, .ret r, s' => (r = .ok (.ret .none) \/ r = .ok .next) /\ ∃ H', Moved X Hs ss H' s' /\ GP.en G H'
  | n + 1, G, Hs, ss, .susp v g l k c p fs, s' => (End.susp v g l k c p fs).quiet = true /\ ∃ x H' fut, RelV x v /\ Moved X Hs ss H' s' /\ GP.yl G x H' fut /\
      ∀ s'' H'', Woke X H' s' H'' s'' -> ∀ G' : GP n, fut G' H'' -> Sg (model X.prog X.w) X.A (Phi X n G' H'' s'') c (k (.send .none)) fs s''
structure TEnds where
  nx : (n : Nat) -> GP n -> St -> Hp -> Prop
  rt : (n : Nat) -> GP n -> V -> Hp -> Prop
  bk : (n : Nat) -> GP n -> St -> Hp -> Prop := fun _ _ _ _ => False
  ct : (n : Nat) -> GP n -> St -> Hp -> Prop := fun _ _ _ _ => False
abbrev TGt := TEnds -> (n : Nat) -> GP n -> St -> Hp -> Prop
def TEnds.at (D : TEnds) (n : Nat) (G : GP n) : Ends := { nx := D.nx n G, rt := D.rt n G, bk := D.bk n G, ct := D.ct n G }
structure GCt (X : Gx) (c : Code) (fs : List Frame) (gd : Bool -> Bool) : Prop where
  over : X.A.over c fs = X.A.deeper X.env
  split : splitAtGen fs = none
  guard : fs.any Frame.guarded = false
  gd : gd false = false
def SPt (X : Gx) (ip : List (Addr × Obj)) (D : TEnds) (n : Nat) (G : GP n) (Hs : Hp) (ss : Shared) (f : Flow) (s : Shared) : Prop := SP (X.cx (upTo ss X.n0) Hs) ip (D.at n G) f s
def GKt (X : Gx) (ip : List (Addr × Obj)) (c : Code) (fs : List Frame) (K : Flow -> Sem PySem.Fin) (D : TEnds) : Prop :=
  ∀ (n : Nat) (G : GP n) (Hs : Hp) (ss s : Shared) (f : Flow), X.n0 <= ss.heap.objs.size -> SPt X ip D n G Hs ss f s -> Sg (model X.prog X.w) X.A (Phi X n G Hs ss) c (K f) fs s
structure GT (X : Gx) (st : Stmt) (t : TGt) : Prop where
  run : ∀ (ip : List (Addr × Obj)) (c : Code) (fs : List Frame) (K : Flow -> Sem PySem.Fin) (J : Value -> Sem PySem.Fin) (gd : Bool -> Bool) (lv : List Value -> List Value) (D : TEnds) (n : Nat) (G : GP n) (Hs : Hp) (ss s : Shared) (σ : St) (H : Hp),
    GCt X c fs gd -> GKt X ip c fs K D -> X.n0 <= ss.heap.objs.size -> (∀ p ∈ ip, X.n0 <= p.1) -> Inv (X.cx (upTo ss X.n0) Hs) ip σ H s -> t D n G σ H -> Sg (model X.prog X.w) X.A (Phi X n G Hs ss) c ((exec st X.env).wrap K J gd lv) fs s
structure GTs (X : Gx) (st : List Stmt) (t : TGt) : Prop where
  run : ∀ (ip : List (Addr × Obj)) (c : Code) (fs : List Frame) (K : Flow -> Sem PySem.Fin) (J : Value -> Sem PySem.Fin) (gd : Bool -> Bool) (lv : List Value -> List Value) (D : TEnds) (n : Nat) (G : GP n) (Hs : Hp) (ss s : Shared) (σ : St) (H : Hp),
    GCt X c fs gd -> GKt X ip c fs K D -> X.n0 <= ss.heap.objs.size -> (∀ p ∈ ip, X.n0 <= p.1) -> Inv (X.cx (upTo ss X.n0) Hs) ip σ H s -> t D n G σ H -> Sg (model X.prog X.w) X.A (Phi X n G Hs ss) c ((execs st X.env).wrap K J gd lv) fs s
section
variable {X : Gx} {st : Stmt} {rest : List Stmt}
end
end L2
namespace L2
open PySem PySem.Spec PyProof.Rows GenW
abbrev Fut := (n : Nat) -> GP n -> Hp -> Prop
def GMadeT (P : Program) (w : World) (K : PySem.W.Frag) (mg : Str -> Option Value) (base : Heap) (k : Nat) (outer : List PySem.Env) (H : Hp) (s : Shared) (fu : Fut) (u : Value) (s' : Shared) : Prop :=
  ∃ (Y : Gx) (c : Code), u = .ref Y.a /\ Y.prog = P /\ Y.w = w /\ Y.K = K /\ Y.mg = mg /\ Y.base = base /\ Y.outer = outer /\ Y.n0 = s.heap.objs.size /\ (∀ A, ({ Y with A := A } : Gx).Ok) /\ s'.heap.IsGen Y.a Y.g /\ s'.gens[Y.g]? = some (.fresh c) /\
    s'.os = s.os /\ AllBare s'.gens /\ s'.heap.NoLimit /\ (∀ b o, s.heap.get? b = some o -> s'.heap.get? b = some o) /\
    ∀ (A : Around) (n : Nat) (G : GP n) (H2 : Hp) (s2 : Shared), Room k A -> Woke { Y with A := A } H s' H2 s2 -> fu n G H2 -> Sg (model P w) A (Phi { Y with A := A } n G H2 s2) c ((model P w).den c) [] s2
structure GFnT (P : Program) (w : World) (K : PySem.W.Frag) (mg : Str -> Option Value) (base : Heap) (k : Nat) (f : Addr) (fd : FuncData) (ps : List Str) (fu : List V -> Fut) : Prop where
  run : ∀ (A : Around) (outer : List PySem.Env) (s : Shared) (H : Hp) (args : Args) (us : List Value) (vs : List V), vs.length = ps.length -> Room k A -> Env0 P w K mg base A outer s H -> BindsTo s fd args (ps.zip us) -> Vals vs us ->
    codeAny (model P w) A (.call (.ref f) args) (fun r s' => match r with | .ok (.ret u) => GMadeT P w K mg base k outer H s (fu vs) u s' | _ => False) s
end L2
namespace L2
open PySem PySem.Spec PyProof.Rows GenW
abbrev anyHO : HO := .ext fun _ => True
structure PlusF (H Hc : Hp) : Prop where
  old : ∀ b o, H b = some o -> Hc b = some o
  new : ∀ b o, H b = none -> Hc b = some o -> ∃ ob, o = .frz ob anyHO
section
variable {X : Cx} {pins : List (Addr × Obj)} {σ : St} {H Hc H' : Hp} {s : Shared} {n0 : Nat}
structure OldC (X : Cx) (pins : List (Addr × Obj)) (n0 : Nat) : Prop where
  loc : X.env.locals < n0
  cells : ∀ x c, X.env.cells.lookup x = some c -> c < n0
  pins : ∀ p ∈ X.pn ++ pins, p.1 < n0
  s0 : X.s_0.heap.objs.size <= n0
end
abbrev TGenT := St -> Hp -> (Fut -> Hp -> Prop) -> Prop
structure PGenT (X : Cx) (k : Nat) (e : Expr) (tg : TGenT) : Prop where
  run : ∀ (pins : List (Addr × Obj)) (s : Shared) (σ : St) (H : Hp) (R : Fut -> Hp -> Prop), Inv X pins σ H s -> tg σ H R ->
    wpAny (model X.prog X.w) X.A (eval e X.env) (fun u s' => ∃ fu H1 sc, Inv X pins σ H1 sc /\ GMadeT X.prog X.w X.K X.mg X.base k X.stack H1 sc fu u s' /\ R fu H1) X.xe s
end L2
namespace Py
open PySem L2 PyProof.Rows GenW
section
variable {T : Tbl} {W : Wd T}
def Drive {T : Tbl} (W : Wd T) : List D -> (n : Nat) -> GP n -> Hp -> Hp -> List Addr -> Prop
  | [], _, G, F, H, Lg => ∀ F' H', Post F H Lg F' H' -> GP.en G H'
  | _ :: _, 0, _, _, _, _ => False
  | y :: ys, n + 1, G, F, H, Lg => ∀ F' H' Lg' x (fut : GP n -> Hp -> Prop), Post F H Lg F' H' -> Shr W F' y x -> (∀ a ∈ Lg', F' a = none /\ (a ∈ Lg \/ H a = none) /\ ∃ o, H' a = some o) ->
      (∀ (G' : GP n) F2 H2, Same F' F2 -> Same F2 H2 -> (∀ a ∈ Lg', H2 a = H' a /\ F2 a = none) -> Drive W ys n G' F2 H2 Lg' -> fut G' H2) -> GP.yl G x H' fut
inductive RZ where
  | nx (ys : List D) (env : Py.Env) | bk (ys : List D) (env : Py.Env) | ct (ys : List D) (env : Py.Env) | no
def RZ.ys : RZ -> List D
  | .nx ys _ => ys
  | .bk ys _ => ys
  | .ct ys _ => ys
  | .no => []
def RZ.pre (ds : List D) : RZ -> RZ
  | .nx ys e => .nx (ds ++ ys) e
  | .bk ys e => .bk (ds ++ ys) e
  | .ct ys e => .ct (ds ++ ys) e
  | .no => .no
def RZ.then (r : RZ) (f : Py.Env -> RZ) : RZ := match r with
  | .nx ys e => (f e).pre ys
  | r => r
def GAt {T : Tbl} (W : Wd T) (Fb : Hp) (zs : List D) (env : Py.Env) (K : (n : Nat) -> GP n -> L2.St -> Hp -> Prop) : Prop :=
  ∀ (n : Nat) (G : GP n) (e : Ent) (F : Hp) (σ : L2.St) (H : Hp) (L : List Addr), e.pins = [] -> Same Fb F -> Rel W e env F σ H L -> Drive W zs n G e.F0 e.H0 e.L0 -> K n G σ H
structure SatZ {T : Tbl} (W : Wd T) (Fb : Hp) (zs : List D) (r : RZ) (Dn : TEnds) : Prop where
  nx : ∀ ys env, r = .nx ys env -> GAt W Fb zs env Dn.nx
  bk : ∀ ys env, r = .bk ys env -> GAt W Fb zs env Dn.bk
  ct : ∀ ys env, r = .ct ys env -> GAt W Fb zs env Dn.ct
def AZ {T : Tbl} (W : Wd T) (t : TGt) (env : Py.Env) (r : RZ) : Prop :=
  ∀ (Fb : Hp) (zs : List D) (Dn : TEnds), SatZ W Fb zs r Dn -> GAt W Fb (r.ys ++ zs) env (t Dn)
structure XZ {T : Tbl} (W : Wd T) where
  t : TGt
  ev : Py.Env -> RZ
  snd : ∀ env, ev env ≠ .no -> AZ W t env (ev env)
end
end Py
namespace Py
open PySem L2 PyProof.Rows GenW
section
variable {T : Tbl} {W : Wd T} {env : Py.Env} {E : WX}
structure XGn {T : Tbl} (W : Wd T) where
  t : TGenT
  ev : Py.Env -> Option (List D)
  snd : ∀ {env ys}, ev env = some ys -> ∀ (e : Ent) (F : Hp) (σ : L2.St) (H : Hp) (L : List Addr) (R : Fut -> Hp -> Prop), Rel W e env F σ H L ->
    (∀ F' H' fu, Ext F H F' H' -> (∀ m G, Drive W ys m G F' H' [] -> fu m G H') -> R fu H') -> t σ H R
theorem Rel.post {e : Ent} {F H F' H' : Hp} {σ : L2.St} {L Lg : List Addr} (r : Rel W e env F σ H L) (p : Post F H Lg F' H') (k : ∀ a ∈ Lg, (a ∈ e.L0 \/ e.H0 a = none) /\ a ∉ L) : Rel W e env F' σ H' L where
  sF := p.s
  slots := r.slots.frame p.f fun a m o q => p.h a o (fun z => (k a z).2 m) q
  nd := r.nd
  dj := fun a m => by
    obtain ⟨o, ho⟩ := r.slots.lives a m
    cases q : F' a with
    | none => rfl
    | some u =>
      rcases p.n a u q with z | z | z
      · rw [r.dj a m] at z; cases z
      · rw [ho] at z; cases z
      · exact absurd m (k a z).2
  s0 := r.s0.trans p.f
  nw := fun a o q => by
    rcases p.n a o q with z | z | z
    · exact r.nw a o z
    · exact (r.h0 z).elim (fun q => .inr (.inr q)) fun q => .inr (.inl q)
    · exact (k a z).1.elim (fun q => .inr (.inr q)) fun q => .inr (.inl q)
  fr := fun a o m q => p.h a o (fun z => (k a z).1.elim m fun z => by rw [q] at z; cases z) (r.fr a o m q)
  ln := r.ln
  pin := r.pin
def turnN (e : Ent) (F Hc : Hp) (L : List Addr) : Ent := ⟨F, Hc, L, e.pins⟩
section
variable {e : Ent} {F H Hc F3 H7 : Hp} {σ σ3 : L2.St} {L L3 : List Addr} {env3 : Py.Env}
theorem Rel.turn (r : Rel W e env F σ H L) (p : PlusF H Hc) : Rel W (turnN e F Hc L) env F σ Hc L :=
  ⟨fun a o q => p.old a o (r.sF a o q), r.slots.frame (Same.refl _) fun a m o q => p.old a o q, r.nd, r.dj, Same.refl _, fun _ _ q => .inl q, fun _ _ _ q => q, fun _ m => .inl m, r.pin⟩
end
end
structure GfD (P : Program) (w : World) (K : PySem.W.Frag) (mg : Str -> Option Value) (base : Heap) (k : Nat) (x qual : Str) (st : Stmt) (ps : List Str) (fu : List V -> Fut) : Prop where
  ex : ∃ f fd, GFnT P w K mg base k f fd ps fu /\ mg x = some (.ref f) /\ PySem.W.keepIn K (.ref f) = true /\ FunD K x qual (defArgs st) (defBody st) (defScope st) [] [] f fd
section
variable {P : Program} {w : World} {K : PySem.W.Frag} {mg : Str -> Option Value} {base : Heap}
end
section
variable {X : Cx} {k n : Nat} {x qual : Str} {st : Stmt} {ps ks : List Str} {fu : List V -> Fut} {p pos' : Pos}
end
end Py
namespace Py
open PySem L2 PyProof.Rows GenW
section
variable {T : Tbl} {W : Wd T} {env : Py.Env} {P : List Nat}
end
end Py
namespace L2
open PySem PySem.Spec PyProof.Rows
section
variable {X : Cx} {tg : Expr}
end
end L2
namespace Py
open PySem L2
section
variable {T : Tbl} {W : Wd T} {env : Py.Env}
end
end Py
namespace L2
open PySem PySem.Spec PyProof.Rows
section
variable {X : Cx} {e st : Expr} {te ts : TE} {p2 pos : Pos}
end
end L2
namespace Py
open PySem L2
section
variable {T : Tbl} {W : Wd T} {env : Py.Env}
end
end Py
namespace L2
open PySem PySem.Spec PyProof.Rows
section
variable {X : Cx}
end
end L2
namespace Py
open PySem L2
section
variable {T : Tbl} {W : Wd T} {env : Py.Env}
end
end Py
namespace Py
open PySem L2
section
variable {T : Tbl} {W : Wd T} {env : Py.Env}
end
end Py
namespace L2
open PySem PySem.Spec PyProof.Rows GenW
section
variable {M : Model} {A : Around} {Φ : End -> Shared -> Prop} {c : Code} {fs : List Frame} {s : Shared} {env : PySem.Env} {K : Flow -> Sem PySem.Fin} {J : Value -> Sem PySem.Fin} {gd : Bool -> Bool} {lv : List Value -> List Value}
end
section
variable {X : Gx}
end
end L2
namespace Py
open PySem L2
section
variable {T : Tbl} {W : Wd T} {env : Py.Env}
end
end Py
namespace L2
open PySem PySem.Spec PyProof.Rows GenW
section
variable {M : Model} {A : Around} {Φ : End -> Shared -> Prop} {c : Code} {fs : List Frame} {s : Shared} {env : PySem.Env} {K : Flow -> Sem PySem.Fin} {J : Value -> Sem PySem.Fin} {gd : Bool -> Bool} {lv : List Value -> List Value}
end
section
variable {prog : Program} {w : World} {A : Around} {Φ : End -> Shared -> Prop} {fs : List Frame} {s : Shared} {env : PySem.Env}
end
section
variable {X : Gx}
end
end L2
namespace Py
open PySem L2
section
variable {T : Tbl} {W : Wd T} {env : Py.Env}
end
end Py
namespace L2
open PySem PySem.Spec PyProof.Rows PySem.W
structure SpecIs (sp : PySem.Str) (w : Nat) (r : Bool) : Prop where
  ne : (sp.length == 0) = false
  asc : ((sp.cps.toList.drop 1).any (· ≥ 128) || (sp.cps.getD 0 0 ≥ 128 && !([60, 62, 61, 94] : List Nat).contains (sp.cps.getD 1 0))) = false
  ps : ∀ name, Builtin.Float.parseFormatSpec sp.cps.toList name 60 = .ok { align := if r = true then 62 else 60, width := some w }
  pi : Builtin.Float.parseFormatSpec sp.cps.toList "int" 62 = .ok { align := if r = true then 62 else 60, width := some w }
  bk : (sp.cps.back? == some 0) = false
  sz : sp.length <= sizeLine
  wd : w <= 1000
section
variable {X : Cx} {e st : Expr} {te ts : TE} {pos : Pos}
end
end L2
namespace Py
open PySem L2
section
end
section
variable {T : Tbl} {W : Wd T} {env : Py.Env}
structure XJ {T : Tbl} (W : Wd T) where
  ts : List TE
  ev : Py.Env -> Option String
  snd : ∀ {env y}, ev env = some y -> ∀ (acc : String) (e' : Ent) (F : Hp) (σ : St) (H : Hp) (L : List Addr) (Q : VK), acc.length + y.length <= 100000 -> Rel W e' env F σ H L -> (∀ F' H', Ext F H F' H' -> Q (.str (so (acc ++ y))) H') -> tJs ts (so acc) σ H (fun out H1 => Q (.str out) H1)
end
end Py
namespace Py
open PySem L2
section
variable {T : Tbl} {W : Wd T}
end
end Py
namespace Py
open PySem L2
def hasG (ks : List NestedKey) (k : NestedKey) : Bool := (pos k ks).isSome
section
variable {X : Cx}
theorem GOk.has {P : Program} {w : World} {h : Heap} {a : Addr} {ks : List NestedKey} {kas : List Addr} {vs : List V} {us : List Value} (g : GOk P w h a ks kas vs us) (k : NestedKey) : (atKey (ks.zip (kas.zip us)) k).isSome = hasG ks k := by
  unfold hasG
  cases hp : pos k ks with
  | none => rw [g.atKey_n hp]; rfl
  | some j =>
    obtain ⟨_, _, _, _, _, _, _, _, hat⟩ := g.atKey_s hp
    rw [hat]; rfl
end
section
variable {T : Tbl} {W : Wd T}
end
end Py
namespace Py
open PySem L2
section
variable {X : Cx} {e f : Expr} {pos' : Pos} {tk tv : TE}
end
section
variable {T : Tbl} {W : Wd T}
end
end Py
namespace Py
open PySem PySem.Spec PyProof.Rows L2
section
variable {prog : Program} {w : World} {A : Around} {E : Value -> Shared -> Prop} {s : Shared}
end
section
variable {T : Tbl} {W : Wd T} {env : Py.Env} {ta tb : TE} {ds es : List D}
end
end Py
namespace L2
open PySem PySem.Spec PyProof.Rows
section
variable {X : Cx} {n : Str} {i : Nat} {body : List Stmt} {pos : Pos} {tb : WX -> TS} {Wout : WX}
end
end L2
namespace Py
open PySem L2
section
variable {T : Tbl} {W : Wd T}
end
end Py
namespace Py
open PySem L2
section
variable {K : Type} [DecidableEq K]
theorem lz_at {k : K} : ∀ {ks : List K} {us : List Value}, ks.length = us.length -> valueAt (ks.zip us) k = (pos k ks).bind fun j => us[j]?
  | [], [], _ => rfl
  | x :: ks, u :: us, hl => by
    have ih := lz_at (k := k) (ks := ks) (us := us) (by simpa using hl)
    rw [List.zip_cons_cons]
    show valueAt ((x, u) :: ks.zip us) k = (if x = k then some 0 else (pos k ks).map (· + 1)).bind fun j => (u :: us)[j]?
    by_cases e : x = k
    · rw [if_pos e]; simp [valueAt, List.find?_cons, e]
    · rw [if_neg e]
      have : valueAt ((x, u) :: ks.zip us) k = valueAt (ks.zip us) k := by simp [valueAt, List.find?_cons, e]
      rw [this, ih]
      cases pos k ks <;> simp
theorem lz_any {k : K} : ∀ {ks : List K} {us : List Value}, ks.length = us.length -> ((ks.zip us).any fun kv => decide (kv.1 = k)) = (pos k ks).isSome
  | [], [], _ => rfl
  | x :: ks, u :: us, hl => by
    have ih := lz_any (k := k) (ks := ks) (us := us) (by simpa using hl)
    rw [List.zip_cons_cons, List.any_cons, ih]
    show (decide (x = k) || _) = (if x = k then some 0 else (pos k ks).map (· + 1)).isSome
    by_cases e : x = k
    · rw [if_pos e, decide_eq_true e]; rfl
    · rw [if_neg e, decide_eq_false e, Option.isSome_map, Bool.false_or]
theorem lz_map {k : K} {u : Value} : ∀ {ks : List K} {us : List Value} {j : Nat}, ks.length = us.length -> ks.Nodup -> pos k ks = some j -> (ks.zip us).map (fun kv => if kv.1 = k then (kv.1, u) else kv) = ks.zip (us.set j u)
  | [], _, _, _, _, h => by cases h
  | _ :: _, [], _, h, _, _ => by simp at h
  | x :: ks, v :: us, j, hl, hn, h => by
    have h : (if x = k then some 0 else (pos k ks).map (· + 1)) = some j := h
    rw [List.nodup_cons] at hn
    rw [List.zip_cons_cons, List.map_cons]
    split at h
    · rename_i e
      cases h
      rw [if_pos e, List.set_cons_zero, List.zip_cons_cons]
      congr 1
      have : ∀ kv ∈ ks.zip us, (if kv.1 = k then (kv.1, u) else kv) = kv := fun kv m => by
        rw [if_neg]
        intro z
        have := (List.of_mem_zip (a := kv.1) (b := kv.2) m).1
        rw [z, <- e] at this
        exact hn.1 this
      rw [List.map_congr_left this, List.map_id']
    · rename_i e
      obtain ⟨i, h1, rfl⟩ := Option.map_eq_some_iff.mp h
      rw [if_neg e, lz_map (by simpa using hl) hn.2 h1, List.set_cons_succ, List.zip_cons_cons]
theorem lz_stored {k : K} {u : Value} {ks : List K} {us : List Value} (hl : ks.length = us.length) (hn : ks.Nodup) : stored (ks.zip us) k u = match pos k ks with
    | some j => ks.zip (us.set j u)
    | none => (ks ++ [k]).zip (us ++ [u]) := by
  unfold stored
  rw [lz_any hl]
  cases h : pos k ks with
  | some j => exact (if_pos rfl).trans (lz_map hl hn h)
  | none =>
    refine (if_neg (by decide)).trans ?_
    show _ = (ks ++ [k]).zip (us ++ [u])
    rw [List.zip_append hl]; rfl
theorem lz_not {k : K} : ∀ {ks : List K}, pos k ks = none -> k ∉ ks
  | [], _, m => nomatch m
  | x :: ks, h, m => by
    have h : (if x = k then some 0 else (pos k ks).map (· + 1)) = none := h
    split at h
    · cases h
    · rename_i e
      rcases List.mem_cons.mp m with rfl | m
      · exact e rfl
      · exact lz_not (Option.map_eq_none_iff.mp h) m
end
def lkV : LK -> V
  | .non => .non
  | .bl b => .bl b
  | .num i => .int i
  | .txt x => .str (so x)
def lkD : LK -> D
  | .non => .non
  | .bl b => .bl b
  | .num i => .int i
  | .txt x => .str x
def LKey (m : Bool) (y : V) (k : LK) : Prop := ∀ u, RelV y u -> LK.is m k u = true
theorem lk_back {m : Bool} : ∀ {k : LK} {u : Value}, LK.is m k u = true -> RelV (lkV k) u
  | .non, u, e => by cases u <;> first | rfl | exact absurd e Bool.false_ne_true
  | .bl b, u, e => by
    cases u with
    | bool c =>
      have e' : (m && decide (c = b)) = true := e
      rw [Bool.and_eq_true, decide_eq_true_eq] at e'
      rw [e'.2]; rfl
    | _ => exact absurd e Bool.false_ne_true
  | .num i, u, e => by
    cases u with
    | int j t =>
      have e' : (decide (j = i) && (!m || (decide (i ≠ 0) && decide (i ≠ 1)))) = true := e
      rw [Bool.and_eq_true, decide_eq_true_eq] at e'
      rw [e'.1]; exact ⟨t, rfl⟩
    | _ => exact absurd e Bool.false_ne_true
  | .txt x, u, e => by
    obtain ⟨t, rfl⟩ := Value.isStrOf_shape (show Value.isStrOf (so x) u = true from e)
    exact ⟨t, rfl⟩
def keyL (m : Bool) : D -> Option LK
  | .non => some .non
  | .bl b => if m = true then some (.bl b) else none
  | .int i => if m = true then (if i = 0 \/ i = 1 then none else some (.num i)) else some (.num i)
  | .str x => some (.txt x)
  | _ => none
section
variable {T : Tbl} {W : Wd T}
theorem keyL_ok {m : Bool} {F : Hp} {d : D} {v : V} {k : LK} (h : Shr W F d v) (e : keyL m d = some k) : LKey m v k := by
  intro u ru
  cases h <;> first | (cases e; done) | skip
  · cases e; obtain rfl : u = Value.none := ru; rfl
  · rename_i b
    unfold keyL at e
    dsimp only at e
    obtain ⟨hm, e⟩ := ite_some e
    cases e
    obtain rfl : u = Value.bool b := ru
    subst hm
    show (true && decide (b = b)) = true
    simp
  · rename_i i
    obtain ⟨t, rfl⟩ := (show ∃ t, u = Value.int i t from ru)
    have go : ∀ k, (m = true -> i ≠ 0 /\ i ≠ 1) -> k = LK.num i -> LK.is m k (.int i t) = true := by
      rintro _ hm rfl
      show (decide (i = i) && (!m || (decide (i ≠ 0) && decide (i ≠ 1)))) = true
      cases m with
      | false => simp
      | true => obtain ⟨h1, h2⟩ := hm rfl; simp [h1, h2]
    unfold keyL at e
    dsimp only at e
    by_cases hm : m = true
    · rw [if_pos hm] at e
      by_cases hi : i = 0 \/ i = 1
      · rw [if_pos hi] at e; cases e
      · rw [if_neg hi] at e
        exact go k (fun _ => ⟨fun z => hi (.inl z), fun z => hi (.inr z)⟩) (by cases e; rfl)
    · rw [if_neg hm] at e
      exact go k (fun z => absurd z hm) (by cases e; rfl)
  · rename_i x
    cases e
    obtain ⟨t, rfl⟩ := (show ∃ t, u = Value.str (so x) t from ru)
    show Value.isStrOf (so x) (.str (so x) t) = true
    show (so x == so x) = true
    simp
theorem keyL_sh {m : Bool} {d : D} {k : LK} (e : keyL m d = some k) : isSh d = true := by
  cases d <;> first | rfl | cases e
theorem shr_lk {F : Hp} {k : LK} : Shr W F (lkD k) (lkV k) := by
  cases k
  · exact .non
  · exact .bl
  · exact .int
  · exact .str
abbrev LD (P : Program) (w : World) (m : Bool) (H : Hp) (a : Addr) (ep : Nat) (ks : List LK) (vs : List V) : Prop := H a = some (.ext (lfP P w m a ep ks vs))
theorem lf_new {P : Program} {w : World} {m : Bool} {H : Hp} {h : Heap} {a : Addr} {ep : Nat} {ks : List LK} {vs : List V} (g : lfP P w m a ep ks vs h) : ObjOk P w H h a (.ext (lfP P w m a ep ks vs)) := by
  have g0 := g
  obtain ⟨_, _, _, _, _, o, es, ho, _⟩ := g0
  refine ⟨g, ⟨o, ho⟩, fun h1 h2 p k => ?_⟩
  obtain ⟨ns, sz, us, rv, l, o, es, ho, r⟩ := p
  exact ⟨ns, sz, us, rv, l, o, es, k o ho, r⟩
theorem LD.ok {P : Program} {w : World} {m : Bool} {H : Hp} {h : Heap} {a : Addr} {ep : Nat} {ks : List LK} {vs : List V} (g : LD P w m H a ep ks vs) (ok : HOk P w H h) : lfP P w m a ep ks vs h := (ok _ _ g).1
def lput (ks : List LK) (vs : List V) (k : LK) (v : V) : List LK × List V := match pos k ks with
  | some j => (ks, vs.set j v)
  | none => (ks ++ [k], vs ++ [v])
end
section
variable {X : Cx} {pins : List (Addr × Obj)} {σ : St} {H : Hp} {s : Shared} {A : Around} {E : Value -> Shared -> Prop} {a : Addr} {m : Bool} {ep : Nat} {ks : List LK} {vs : List V} {k : LK} {y v : V} {u r : Value}
theorem lf_get {h : Heap} {us : List Value} {z : V} {w : Value} (rv : Vals vs us) (l : ks.length = us.length) (rz : RelV z w) : RelV (((pos k ks).bind fun j => vs[j]?).getD z) ((valueAt (ks.zip us) k).getD w) := by
  rw [lz_at l]
  cases hp : pos k ks with
  | none => exact rz
  | some j =>
    have hj := (List.getElem?_eq_some_iff.mp (pos_get hp)).1
    have l3 := rv.length
    have h3 : vs[j]? = some vs[j] := List.getElem?_eq_getElem (by omega)
    obtain ⟨u, hu, ru⟩ := rv.get h3
    rw [Option.bind_some, Option.bind_some, h3, hu]
    exact ru
theorem l_setItem {Q : Unit -> Shared -> Prop} (I : Inv X pins σ H s) (g : LD X.prog X.w m H a ep ks vs) (hk : LKey m y k) (hn : ks.Nodup) (ry : RelV y u) (rv : RelV v r) (hl : vs.length < sizeLine)
    (h : ∀ ep' s', Inv X pins σ (upd H a (.ext (lfP X.prog X.w m a ep' (lput ks vs k v).1 (lput ks vs k v).2))) s' -> Q () s') : wpAny (model X.prog X.w) A (setItem (.ref a) u r) Q E s := by
  obtain ⟨ns, sz, us, rvs, l, dd⟩ := g.ok I.hok
  have l3 := rvs.length
  refine wpAny_setItem_pairs (hsz := by rw [List.length_zip]; omega) (hk u ry) dd.dictOf fun h' dd' hs => ?_
  obtain ⟨ep', da⟩ := dd'.dictAt
  refine h ep' _ ?_
  have he : ∃ q, h'.get? a = some q := let ⟨q, _, hq, _⟩ := da; ⟨q, hq⟩
  refine d_write I (by rw [g]; exact True.intro) hs he (lf_new ?_)
  rw [lz_stored l hn] at da
  unfold lput
  cases hp : pos k ks with
  | some j =>
    rw [hp] at da
    exact ⟨ns, by rw [List.length_set]; exact sz, us.set j r, vals_set rvs rv, by rw [List.length_set]; exact l, da⟩
  | none =>
    rw [hp] at da
    exact ⟨ns, by rw [List.length_append, List.length_singleton]; omega, us ++ [r], vals_snoc rvs rv, by simp [l], da⟩
theorem l_getItem {Q : Value -> Shared -> Prop} {j : Nat} (I : Inv X pins σ H s) (g : LD X.prog X.w m H a ep ks vs) (hk : LKey m y k) (ry : RelV y u) (hp : pos k ks = some j) (hv : vs[j]? = some v)
    (h : ∀ w' s', Inv X pins σ H s' -> RelV v w' -> Q w' s') : wpAny (model X.prog X.w) A (getItem (.ref a) u) Q E s := by
  obtain ⟨ns, sz, us, rvs, l, dd⟩ := g.ok I.hok
  obtain ⟨w, hw, rw'⟩ := rvs.get hv
  exact wpAny_getItem_of (hk u ry) dd.dictOf.mapOf (by rw [lz_at l, hp]; exact hw) (h _ _ (I.tok _) rw')
theorem l_get2 {Q : Value -> Shared -> Prop} {z : V} (I : Inv X pins σ H s) (g : LD X.prog X.w m H a ep ks vs) (hk : LKey m y k) (ry : RelV y u) (rz : RelV z r)
    (h : ∀ w' s', Inv X pins σ H s' -> RelV (((pos k ks).bind fun j => vs[j]?).getD z) w' -> Q w' s') : wpAny (model X.prog X.w) A (call (.builtin "dict.get") [.ref a, u, r]) Q E s := by
  obtain ⟨ns, sz, us, rvs, l, dd⟩ := g.ok I.hok
  exact call_meetsIn PySem.F.slot_dict_get dd.dictOf.typeIs PySem.F.entry_dict_get (PySem.F.args_dict_get_3 _ _ _) (meets_dict_get_default (lfK X.prog X.w m) a (hk u ry) ns r) ⟨_, dd.dictOf.mapOf, h _ _ (I.tok _) (lf_get (h := s.heap) rvs l rz)⟩
theorem l_in {Q : Value -> Shared -> Prop} (I : Inv X pins σ H s) (g : LD X.prog X.w m H a ep ks vs) (hk : LKey m y k) (ry : RelV y u)
    (h : ∀ s', Inv X pins σ H s' -> Q (.bool (pos k ks).isSome) s') : wpAny (model X.prog X.w) A (compareOp .In u (.ref a)) Q E s := by
  obtain ⟨ns, sz, us, rvs, l, dd⟩ := g.ok I.hok
  refine wpAny_in_of (hk u ry) ns dd.dictOf.mapOf ?_
  have e : (valueAt (ks.zip us) k).isSome = (pos k ks).isSome := by
    rw [lz_at l]
    cases hp : pos k ks with
    | none => rfl
    | some j =>
      have hj := (List.getElem?_eq_some_iff.mp (pos_get hp)).1
      rw [Option.bind_some, List.getElem?_eq_getElem (by omega)]
      rfl
  rw [e]
  exact h _ (I.tok _)
end
def Itlf (P : Program) (w : World) (m : Bool) (d : Addr) (ep : Nat) (ks : List LK) (vs : List V) : It :=
  ⟨fun i H => LD P w m H d ep ks vs /\ i < ks.length, fun i H x H' => H' = H /\ ∃ k, ks[i]? = some k /\ x = lkV k, fun i H => LD P w m H d ep ks vs /\ ks.length <= i⟩
theorem turn_lf {P : Program} {w : World} {K : PySem.W.Frag} {tg : Expr} {m : Bool} {d : Addr} {ep : Nat} {ks : List LK} {vs : List V} (it : Addr) : Turn P w K tg (Itlf P w m d ep ks vs) [it] it (fun i h => h.IsKeyIter it d i ks.length ep) where
  mem := by simp
  obj := fun i h st b hb => by
    have e : b = it := by simpa using hb
    subst e
    obtain ⟨oi, e, c, dd⟩ := st
    exact ⟨oi, e, fun v z => by rw [dd] at z; cases z⟩
  keep := fun i h h' st k => st.at fun oi e => k it (by simp) oi e
  item := by
    intro X hP hw hK hc i pins s σ H E I hf st hg
    subst hP hw hK
    obtain ⟨hd, hi⟩ := hg
    obtain ⟨f0, f1, f2, f3, f4, f5⟩ := hf it (by simp)
    obtain ⟨ns, sz, us, rvs, l, dd⟩ := LD.ok hd I.hok
    have hz : (ks.zip us).length = ks.length := by rw [List.length_zip, <- l, Nat.min_self]
    rw [<- hz] at st
    have h1 : ks[i]? = some ks[i] := List.getElem?_eq_getElem hi
    have h2 : us[i]? = some (us[i]'(by omega)) := List.getElem?_eq_getElem (by omega)
    have hx : (ks.zip us)[i]? = some (ks[i], us[i]'(by omega)) := List.getElem?_zip_eq_some.mpr ⟨h1, h2⟩
    refine wpAny_pyNext_dict_item st dd hx fun key h' hkey st' sb => ?_
    have I1 : Inv X pins σ H { s with heap := h' } := I.turned (t' := s.toks) (fun b ob hb e => (sb.2 b hb).trans e) f0 f1 f3 f4 f5
    obtain ⟨oi, e, c, dd'⟩ := id st'
    refine ⟨key, rfl, go_of (s := { s with heap := h' }) e c dd' (by decide) ⟨lkV ks[i], H, I1, lk_back (show LK.is m ks[i] key = true from hkey), ⟨rfl, ks[i], h1, rfl⟩, ?_, fun b hb => (hf b hb).1⟩⟩
    show h'.IsKeyIter it d (i + 1) ks.length _
    rw [<- hz]
    exact st'
  done := by
    intro X hP hw hK hc i pins s σ H E I hf st hg
    subst hP hw hK
    obtain ⟨hd, hi⟩ := hg
    obtain ⟨f0, f1, f2, f3, f4, f5⟩ := hf it (by simp)
    obtain ⟨ns, sz, us, rvs, l, dd⟩ := LD.ok hd I.hok
    obtain ⟨od, es, hod, hcd, hdd, hk, hp, hn⟩ := dd
    have hz : es.size = ks.length := by
      have := hp.length
      rw [List.length_zip, <- l, Nat.min_self] at this
      simpa using this
    exact next_key_end (I.ok.hd hc) st hod hdd hz hi fun h' eb => ⟨rfl, I.turned (t' := s.toks) (fun b ob hb e => eb b ob hb e) f0 f1 f3 f4 f5⟩
  self := fun A i s Q E st h => wpAny_pyIter_keyiter st h
def iLf (P : Program) (w : World) (td : TE) : TI := fun σ H R => td σ H fun x H1 => ∃ m d ep ks vs, x = .ref d /\ LD P w m H1 d ep ks vs /\ R (Itlf P w m d ep ks vs) H1
theorem pi_lf {X : Cx} {tg e : Expr} {td : TE} (he : PE X e td) : PI X tg e (iLf X.prog X.w td) := by
  refine ⟨fun pins s σ H R I h => ?_⟩
  refine thn (he.run pins s σ H _ I h) fun u s1 ⟨x, H1, I1, rx, m, d, ep, ks, vs, ex, g, q⟩ => ?_
  subst ex
  obtain rfl : u = Value.ref d := rx
  obtain ⟨ns, sz, us, rvs, l, dd⟩ := g.ok I1.hok
  obtain ⟨od, es, hod, hcd, hdd, hk, hp, hn⟩ := dd
  have hz : es.size = ks.length := by
    have := hp.length
    rw [List.length_zip, <- l, Nat.min_self] at this
    simpa using this
  refine iter_keys ns hod hcd hdd (pi_one (tk := s1.toks) I1 _ (turn_lf _) ⟨_, Heap.get?_push_size _ rfl, rfl, ?_⟩ q)
  rw [hz] <;> rfl
def tLNew (P : Program) (w : World) (m : Bool) : TE := fun _ H Q => ∀ p, H p = none -> Q (.ref p) (upd H p (.ext (lfP P w m p 0 [] [])))
def tLGet (P : Program) (w : World) (td ty : TE) : TE := fun σ H Q => td σ H fun x H1 => ty σ H1 fun y H2 => ∃ m a ep ks vs k j v, x = .ref a /\ LD P w m H2 a ep ks vs /\ LKey m y k /\ pos k ks = some j /\ vs[j]? = some v /\ Q v H2
def tBLf (P : Program) (w : World) (r : V -> List V -> Hp -> VK -> Prop) (to : TE) (ta : TA) : TE := fun σ H Q => to σ H fun x H1 => (∃ m a ep ks vs, x = .ref a /\ LD P w m H1 a ep ks vs) /\ ta σ H1 fun xs H2 => r x xs H2 Q
def rLget2 (P : Program) (w : World) : V -> List V -> Hp -> VK -> Prop := fun x ys H Q => ∃ m a y z ep ks vs k, x = .ref a /\ ys = [y, z] /\ LD P w m H a ep ks vs /\ LKey m y k /\ Q (((pos k ks).bind fun j => vs[j]?).getD z) H
def rLSet (P : Program) (w : World) : TSet := fun o i v H Q => ∃ m a ep ks vs k, o = .ref a /\ LD P w m H a ep ks vs /\ LKey m i k /\ ks.Nodup /\ vs.length < sizeLine /\ ∀ ep', Q (upd H a (.ext (lfP P w m a ep' (lput ks vs k v).1 (lput ks vs k v).2)))
def rLin (P : Program) (w : World) : R2 := fun x y H Q => ∃ m a ep ks vs k, y = .ref a /\ LD P w m H a ep ks vs /\ LKey m x k /\ Q (.bl (pos k ks).isSome) H
section
variable {X : Cx} {o e f i : Expr} {apos cpos pos' : Pos} {td ty tx to : TE}
theorem pe_lnew {m : Bool} : PE X (.Dict [] [] pos') (tLNew X.prog X.w m) := ⟨fun pins s σ H Q I h => by
  refine wpAny_Dict_empty ⟨.ref s.heap.objs.size, _, I.laid (a := s.heap.objs.size) (o := .ext (lfP X.prog X.w m s.heap.objs.size 0 [] [])) (t' := s.toks) (fun _ _ q => Heap.get?_push_of_some _ q) (Nat.le_refl _)
    (lf_new ⟨beq_eq_false_iff_ne.mpr (Ne.symm (Nat.ne_of_lt I.big)), Nat.zero_le _, [], .nil, rfl, ⟨_, #[], Heap.get?_push_size _ rfl, ⟨rfl, rfl, rfl⟩, rfl, fun _ he => by simp at he, Pairs.nil, List.nodup_nil⟩⟩), rfl, h _ (I.hok.fresh (Nat.le_refl _))⟩⟩
theorem pe_lget (ho : PE X o td) (hi : PE X i ty) (hs : NoSl i) : PE X (.Subscript o i pos') (tLGet X.prog X.w td ty) := by
  refine ⟨fun pins s σ H Q I h => ?_⟩
  refine subD_of PySem.F.slot_dict_getitem.lookup hs (thn (ho.run pins s σ H _ I h) fun u s1 ⟨x, H1, I1, rx, q1⟩ => thn (hi.run pins s1 σ H1 _ I1 q1) fun iv s2 ⟨y, H2, I2, ry, m, a, ep, ks, vs, k, j, v, ex, g, hk, hp, hv, q2⟩ => ?_)
  subst ex
  obtain rfl : u = Value.ref a := rx
  obtain ⟨ns, sz, us, rvs, l, dd⟩ := g.ok I2.hok
  exact ⟨dd.dictOf.typeIs, l_getItem I2 g hk ry hp hv fun w' s3 I3 rw' => ⟨v, H2, I3, rw', q2⟩⟩
theorem pe_blf {r : V -> List V -> Hp -> VK -> Prop} {t : TA} {es : List Expr} {name : Str} {id : String} (pa : PlainAttrs "dict") (slot : Slot "dict" name id) (hty : typeOf (.builtin id) = pure (.type "method_descriptor")) (hm : MtR X id r) (ho : PE X o to) (ha : PA X (e :: es) t)
    (hbase : attributeBase o name X.env (eval o X.env) = eval o X.env := by rfl)
    (hfew : ((backTo cpos (starEach (e :: es) X.env)).all (fun x => !x.1) && (backToKw cpos (keywordEach [] X.env)).all (fun x => x.1.isSome)
      && decide ((e :: es).length + ([] : List Keyword).length + (if ([] : List Keyword).isEmpty then 0 else 1) < 30)) = true := by rfl)
    (hline : (apos.endLine == cpos.line) = true := by rfl) (hs : starEach (e :: es) X.env = (false, eval e X.env) :: starEach es X.env := by rfl) (hplain : (backTo cpos (starEach es X.env)).any (·.1) = false := by rfl) :
    PE X (.Call (.Attribute o name apos) (e :: es) [] cpos) (tBLf X.prog X.w r to t) := by
  refine ⟨fun pins s σ H Q I h => ?_⟩
  refine wpAny_Call_method_late hbase hfew hline rfl (thn (ho.run pins s σ H _ I h) fun v s1 ⟨x, H1, I1, r1, ⟨m, a, ep, ks, us, ex, g⟩, q1⟩ => ?_)
  subst ex
  obtain rfl : v = Value.ref a := r1
  obtain ⟨ns, sz, us, rvs, l, dd⟩ := g.ok I1.hok
  refine ⟨"dict", id, pa, slot, hty, dd.dictOf.typeIs, dd.dictOf.mapOf.noDict, ?_⟩
  have hA := ha.run cpos pins s1 σ H1 _ I1 q1
  rw [hs] at hA ⊢
  refine Calls.callWith_builtin (by show (false || (backTo cpos (starEach es X.env)).any (·.1)) = false; rw [hplain] <;> rfl) (Calls.evalArgs_plain ?_)
  exact thn hA fun us s2 ⟨vs, H2, I2, r2, q2⟩ => hm pins s2 σ H2 (V.ref a) vs _ us Q I2 rfl r2 q2
theorem mt_lget2 : MtR X "dict.get" (rLget2 X.prog X.w) := by
  intro pins s σ H x ys v us Q I rx rys h
  obtain ⟨m, a, y, z, ep, ks, vs, k, rfl, rfl, g, hk, q⟩ := h
  obtain ⟨u, r, rfl, ry, rz⟩ := vals2 rys
  cases rx
  exact l_get2 I g hk ry rz fun w' s3 I3 rw' => ⟨_, H, I3, rw', q⟩
theorem set_ld : PSet X (rLSet X.prog X.w) := by
  intro pins s σ H o i v ov iv u Q I ro ri rv h
  obtain ⟨m, a, ep, ks, vs, k, rfl, g, hk, hn, hl, q⟩ := h
  cases ro
  exact l_setItem I g hk hn ri rv hl fun ep' s' I' => ⟨_, I', q ep'⟩
theorem op_lin : OpR X (compareOp .In) (rLin X.prog X.w) := by
  intro pins s σ H x y v u Q I rx ry h
  obtain ⟨m, a, ep, ks, vs, k, rfl, g, hk, q⟩ := h
  cases ry
  exact l_in I g hk rx fun s' I' => ⟨.bl _, H, I', rfl, q⟩
end
def dicL : D -> Option (Bool × List LK × List D)
  | .dlf m ks xs => some (m, ks, xs)
  | .olf m ks xs => some (m, ks, xs)
  | _ => none
section
variable {T : Tbl} {W : Wd T} {env : Py.Env} {d : D}
theorem dicL_ok {F H : Hp} {v : V} {L : List Addr} {m : Bool} {ks : List LK} {xs : List D} (s : Same F H) (o : Own W F H d v L) (h : dicL d = some (m, ks, xs)) : ∃ a ep vs M, v = .ref a /\ LD W.P W.w m H a ep ks vs /\ ks.length = vs.length /\ ks.Nodup /\ Owns W F H xs vs M := by
  cases o with
  | sh y =>
    cases y <;> first | (cases h; done) | skip
    cases h
    exact ⟨_, _, _, _, rfl, s _ _ (by assumption), by assumption, by assumption, Shrs.owns (by assumption)⟩
  | olf ha hl hn hs => cases h; exact ⟨_, _, _, _, rfl, ha, hl, hn, hs⟩
  | olst => cases h
  | odic => cases h
  | odit => cases h
  | odig => cases h
  | oins => cases h
def xLnew (W : Wd T) (m : Bool) : XP W where
  t := tLNew W.P W.w m
  ev _ := some (.fr, .olf m [] [])
  snd := fun e => by
    cases e
    exact fun e' F σ H L Q r q p hp => q _ F _ (.newH r.sF hp) ⟨[p], .olf (vs := []) upd_same rfl .nil .nil, by simp, fun x m => by rw [List.mem_singleton.mp m]; exact ⟨hp, r.sF.free hp⟩⟩
def xLix (a b : XP W) : XP W where
  t := tLGet W.P W.w a.t b.t
  ev env := (a.ev env).bind fun p => (dicL p.2).bind fun q => (b.evV env).bind fun y => (keyL q.1 y).bind fun k => (pos k q.2.1).bind fun j => (q.2.2[j]?).map p.1.of
  snd := fun {env k d} e => by
    obtain ⟨⟨kp, dp⟩, e1, e⟩ := Option.bind_eq_some_iff.mp e
    obtain ⟨⟨m, ks, xs⟩, e2, e⟩ := Option.bind_eq_some_iff.mp e
    obtain ⟨y, e3, e⟩ := Option.bind_eq_some_iff.mp e
    obtain ⟨ky, hk, e⟩ := Option.bind_eq_some_iff.mp e
    obtain ⟨j, hj, e⟩ := Option.bind_eq_some_iff.mp e
    obtain ⟨x, hx, e⟩ := Option.map_eq_some_iff.mp e
    intro e' F σ H L Q r q
    refine a.snd e1 e' F σ H L _ r fun v F1 H1 x1 y1 => b.sV e3 e' F1 σ H1 L _ (r.ext x1) fun u F2 H2 x2 y2 => ?_
    obtain ⟨M, o⟩ := rK_own y1
    have o2 : Own W (basis kp F2 H2) H2 dp v M := o.frame x2.basis fun a _ o q => x2.h _ _ q
    obtain ⟨da, ep, vs, M1, rfl, g, hl, hn, os⟩ := dicL_ok (basis_same x2.s) o2 e2
    have y2 : Shr W H2 y u := y2
    obtain ⟨v', M', hv', ov⟩ := owns_get os hx
    exact ⟨m, da, ep, ks, vs, ky, j, v', rfl, g, keyL_ok y2 hk, hj, hv', q _ F2 H2 (x1.trans x2) (rK_of x2.s ov e)⟩
def xLget2 (a b c : XP W) : XP W where
  t := tBLf W.P W.w (rLget2 W.P W.w) a.t (tCons b.t (tCons c.t tNil))
  ev env := (a.ev env).bind fun p => (dicL p.2).bind fun q => (b.evV env).bind fun y => (c.ev env).bind fun z => (keyL q.1 y).bind fun k => match pos k q.2.1 with
    | some j => (q.2.2[j]?).map p.1.of
    | none => some z
  snd := fun {env k d} e => by
    obtain ⟨⟨kp, dp⟩, e1, e⟩ := Option.bind_eq_some_iff.mp e
    obtain ⟨⟨m, ks, xs⟩, e2, e⟩ := Option.bind_eq_some_iff.mp e
    obtain ⟨y, e3, e⟩ := Option.bind_eq_some_iff.mp e
    obtain ⟨⟨kz, dz⟩, e4, e⟩ := Option.bind_eq_some_iff.mp e
    obtain ⟨ky, hk, e⟩ := Option.bind_eq_some_iff.mp e
    intro e' F σ H L Q r q
    refine a.snd e1 e' F σ H L _ r fun v F1 H1 x1 y1 => ?_
    obtain ⟨M, o⟩ := rK_own y1
    obtain ⟨da, ep, vs, M1, rfl, g, hl, hn, os⟩ := dicL_ok (basis_same x1.s) o e2
    refine ⟨⟨_, _, _, _, _, rfl, g⟩, b.sV e3 e' F1 σ H1 L _ (r.ext x1) fun u F2 H2 x2 y2 => c.snd e4 e' F2 σ H2 L _ ((r.ext x1).ext x2) fun w F3 H3 x3 y3 => ?_⟩
    have x12 := x2.trans x3
    have o2 : Own W (basis kp F3 H3) H3 dp (.ref da) M := o.frame x12.basis fun a _ o q => x12.h _ _ q
    obtain ⟨db, ep, vs, M1, ev, g, hl, hn, os⟩ := dicL_ok (basis_same x12.s) o2 e2
    cases ev
    have y2 : Shr W H2 y u := y2
    refine ⟨m, da, u, w, ep, ks, vs, ky, rfl, rfl, g, keyL_ok y2 hk, ?_⟩
    have back : ∀ {k d v}, rK W k d F3 H3 H2 v -> rK W k d F3 H3 H v := fun h => rK_back (x1.h.trans x2.h) h
    dsimp only at e
    cases hj : pos ky ks with
    | none => rw [hj] at e; cases e; exact q _ F3 H3 (x1.trans x12) (back y3)
    | some j =>
      rw [hj] at e
      obtain ⟨x, hx, e⟩ := Option.map_eq_some_iff.mp e
      obtain ⟨v', M', hv', ov⟩ := owns_get os hx
      rw [Option.bind_some, hv']
      exact q v' F3 H3 (x1.trans x12) (rK_of x3.s ov e)
def xLin (a b : XP W) : XP W where
  t := tOp (rLin W.P W.w) a.t b.t
  ev env := (a.evV env).bind fun y => (b.ev env).bind fun p => (dicL p.2).bind fun q => (keyL q.1 y).map fun k => (.fr, .bl (pos k q.2.1).isSome)
  snd := fun {env k d} e => by
    obtain ⟨y, e3, e⟩ := Option.bind_eq_some_iff.mp e
    obtain ⟨⟨kp, dp⟩, e1, e⟩ := Option.bind_eq_some_iff.mp e
    obtain ⟨⟨m, ks, xs⟩, e2, e⟩ := Option.bind_eq_some_iff.mp e
    obtain ⟨ky, hk, e⟩ := Option.map_eq_some_iff.mp e
    cases e
    intro e' F σ H L Q r q
    refine a.sV e3 e' F σ H L _ r fun u F1 H1 x1 y1 => b.snd e1 e' F1 σ H1 L _ (r.ext x1) fun v F2 H2 x2 y2 => ?_
    obtain ⟨M, o⟩ := rK_own y2
    obtain ⟨da, ep, vs, M1, rfl, g, hl, hn, os⟩ := dicL_ok (basis_same x2.s) o e2
    have y1 : Shr W H1 y u := y1
    exact ⟨m, da, ep, ks, vs, ky, rfl, g, keyL_ok y1 hk, q _ F2 H2 (x1.trans x2) (rO_sh .bl)⟩
def lputP (ks : List LK) (xs : List D) (k : LK) (y : D) : Option (List LK × List D) := match pos k ks with
  | none => some (ks ++ [k], xs ++ [y])
  | some j => if xs.all isSh = true then some (ks, xs.set j y) else none
def lputD (n : D) (ds : List D) : Option (D × D) := match n, ds with
  | .olf m ks xs, [i, d] => if xs.length < 1000000 then (keyL m i).bind fun k => (lputP ks xs k d).map fun q => (.olf m q.1 q.2, .non) else none
  | _, _ => none
def rLput (P : Program) (w : World) : V -> List V -> Hp -> VK -> Prop := fun x ys H Q => ∃ m a y v ep ks vs k, x = .ref a /\ ys = [y, v] /\ LD P w m H a ep ks vs /\ LKey m y k /\ ks.Nodup /\ vs.length < sizeLine /\ ∀ ep', Q .non (upd H a (.ext (lfP P w m a ep' (lput ks vs k v).1 (lput ks vs k v).2)))
theorem mop_lput : Mop W (rLput W.P W.w) lputD := by
  intro n ds n' d hf F H vn Ln vs Ms Q s o os nd kF q
  unfold lputD at hf
  split at hf
  · rename_i m ks xs i d2
    have hz : xs.length < 1000000 := by
      by_cases h : xs.length < 1000000
      · exact h
      · rw [if_neg h] at hf; cases hf
    rw [if_pos hz] at hf
    obtain ⟨k, hk, hf⟩ := Option.bind_eq_some_iff.mp hf
    obtain ⟨⟨ks', xs'⟩, hp, e⟩ := Option.map_eq_some_iff.mp hf
    cases e
    obtain ⟨v1, v2, L1, L2, rfl, o1, o2, rfl⟩ := os.two
    have hi := keyL_sh hk
    have sk := o1.shr hi
    cases o1.shNil hi
    cases o with
    | sh y => cases y
    | @olf a _ ep _ _ vs L ha hl hn hs =>
      have l3 := hs.length
      refine ⟨m, a, v1, v2, ep, ks, vs, k, rfl, rfl, ha, keyL_ok sk hk, hn, by rw [<- l3]; exact Nat.lt_of_lt_of_le hz (by decide), fun ep' => ?_⟩
      unfold lputP at hp
      unfold lput
      cases hpos : pos k ks with
      | none =>
        rw [hpos] at hp
        cases hp
        dsimp only
        refine mop_atG (ys := xs ++ [d2]) (ws := vs ++ [v2]) s nd kF (fun H' L' h1 h2 => .olf h1 (by simp [hl]) ?_ h2) (hs.append (.cons o2 .nil)) (.sh .non) ?_ (fun b hb => ?_) q
        · rw [List.nodup_append]
          exact ⟨hn, by simp, fun x hx y hy z => lz_not hpos (by have : y = k := by simpa using hy
                                                                 rw [<- this, <- z]; exact hx)⟩
        · have := nd_swap (nd_tail nd)
          simpa using this
        · simpa using hb
      | some j =>
        rw [hpos] at hp
        obtain ⟨hall, e⟩ := ite_some hp
        cases e
        dsimp only
        have sh := hs.shrs hall
        have hj : j < ks.length := (List.getElem?_eq_some_iff.mp (pos_get hpos)).1
        have hjx : j < xs.length := by omega
        refine mop_atG (ys := xs.set j d2) (ws := vs.set j v2) (L2 := L2 ++ []) s nd kF (fun H' L' h1 h2 => .olf h1 (by simp [hl]) hn h2) ?_ (.sh .non) ?_ (fun b hb => ?_) q
        · rw [set_split hjx, set_split (by rw [<- l3]; exact hjx)]
          have h3 := ((sh.take j).owns (H := H)).append (.cons o2 ((sh.drop (j + 1)).owns))
          rw [List.nil_append] at h3
          rw [List.append_assoc, List.append_assoc]
          exact h3
        · have := (List.nodup_append.mp nd).1
          simpa using this
        · exact .inr (by simpa using hb)
  · cases hf
def lputK (p : XPl W) (k : XP W) (d : D) (e : Py.Env) : RS := RS.ofO ((p.ev e).bind fun q => (k.evF e).bind fun i => (lputD q.2 [i, d]).bind fun z => (getS e p.root).map fun d0 => e.set p.root (some (d0.putAt q.1 z.1)))
def xsLput (p : XPl W) (k : XP W) (m : XM W) : XS W where
  t E := tAsg (m.t E) (gSub p.t k.t (rLSet W.P W.w))
  ev P env := (m.ev P env).thenS (lputK p k)
  snd := fun P E env hn e F σ H L Dn hP r s => by
    have hm : m.ev P env ≠ .no := fun z => hn (by rw [z]; rfl)
    refine (m.snd P E env).run hm hP r s (fun x e1 h => by rw [h]; rfl) fun d env' v F' H' L' M h r' o nd kk => ?_
    rw [h] at hn s
    have hn : lputK p k d env' ≠ .no := hn
    have s : Sat W e E (ends (lputK p k d env')) Dn := s
    unfold lputK at hn s
    cases h2 : ((p.ev env').bind fun q => (k.evF env').bind fun i => (lputD q.2 [i, d]).bind fun z => (getS env' p.root).map fun d0 => env'.set p.root (some (d0.putAt q.1 z.1))) with
    | none => rw [h2] at hn; exact absurd rfl hn
    | some e2 =>
      rw [h2] at s
      obtain ⟨⟨st, n⟩, e1, h3⟩ := Option.bind_eq_some_iff.mp h2
      obtain ⟨i, ei, h3⟩ := Option.bind_eq_some_iff.mp h3
      obtain ⟨⟨n', d'⟩, e3, h4⟩ := Option.bind_eq_some_iff.mp h3
      obtain ⟨d0', e4, h5⟩ := Option.map_eq_some_iff.mp h4
      subst h5
      obtain ⟨d0, h0, h1⟩ := p.at_ e1
      rw [getS_some e4] at h0
      cases h0
      obtain ⟨v0, _, _, _, hs, _⟩ := r'.focus (getS_some e4) h1
      refine p.loc e1 e F' σ H' L' v0 _ r' hs fun vn F1 H1 x1 p1 => ?_
      refine k.sF ei e F1 σ H1 L' _ (r'.ext x1) fun u F2 H2 x2 y2 => ?_
      rw [List.nodup_append] at nd
      obtain ⟨nd1, nd2, nd3⟩ := nd
      have x12 := x1.trans x2
      have go : rLput W.P W.w vn [u, v] H2 (fun _ H => Dn.nx σ H) := by
        refine am_mop mop_lput ((r'.ext x1).ext x2) (getS_some e4) h1 hs (p1.mono x2.h) e3 (Ms := [] ++ (M ++ [])) (.cons (.sh y2) (.cons (o.frame x12.f fun a _ o q => x12.h _ _ q) .nil)) (by simpa using nd1) (fun a ha => ?_) fun v2 F2 H2 L2 M2 r2 o2 n2 k2 => s.nx _ _ _ _ _ rfl r2
        have ha : a ∈ M := by simpa using ha
        refine ⟨fun z => nd3 a ha a z rfl, ?_, (kk a ha).2⟩
        obtain ⟨u, hu⟩ := o.lives a ha
        cases z : F2 a with
        | none => rfl
        | some w =>
          rcases x12.n a w z with y | y
          · rw [(kk a ha).1] at y; cases y
          · rw [hu] at y; cases y
      obtain ⟨m', a, y', v', ep, ks, vs, k', ex, ey, g, hk, hnd, hl, q⟩ := go
      cases ey
      exact ⟨m', a, ep, ks, vs, k', ex, g, hk, hnd, hl, q⟩
theorem seqP_lf {F0 H0 : Hp} {m : Bool} {a : Addr} {ep : Nat} {ks : List LK} {vs : List V} (h : LD W.P W.w m H0 a ep ks vs) : SeqP W (Itlf W.P W.w m a ep ks vs) (ks.map lkD) F0 H0 where
  go := fun i d F H s1 s0 s2 hd => by
    rw [List.getElem?_map] at hd
    obtain ⟨k, hk, rfl⟩ := Option.map_eq_some_iff.mp hd
    refine ⟨⟨s0 _ _ h, (List.getElem?_eq_some_iff.mp hk).1⟩, fun x H' y => ?_⟩
    obtain ⟨rfl, k', hk', rfl⟩ := y
    rw [hk] at hk'
    cases hk'
    exact ⟨F, .refl s2, shr_lk⟩
  stop := fun F H s1 s0 s2 => ⟨s0 _ _ h, by rw [List.length_map]; exact Nat.le_refl _⟩
theorem seq_lf {F0 : Hp} {m : Bool} {a : Addr} {ep : Nat} {ks : List LK} {vs : List V} (h : LD W.P W.w m F0 a ep ks vs) : Seq W (Itlf W.P W.w m a ep ks vs) (ks.map lkD) F0 where
  go := fun i d F H s1 s2 hd => (seqP_lf (H0 := F0) (F0 := F0) h).go i d F H s1 (s1.trans s2) s2 hd
  stop := fun F H s1 s2 => (seqP_lf (H0 := F0) (F0 := F0) h).stop F H s1 (s1.trans s2) s2
def ksL (d : D) : Option (List D) := (dicL d).map fun q => q.2.1.map lkD
def xiLf (a : XP W) : XI W where
  t := iLf W.P W.w a.t
  evF env := (a.evF env).bind fun d => guardB (isSh d) (ksL d)
  evP env := (a.evK env).bind ksL
  sF := fun {env ds} e => by
    obtain ⟨d, e1, e⟩ := Option.bind_eq_some_iff.mp e
    obtain ⟨hg, e⟩ := guardB_some e
    obtain ⟨⟨m, ks, xs⟩, e2, rfl⟩ := Option.map_eq_some_iff.mp e
    refine fun e' F σ H L R r q => a.sF e1 e' F σ H L _ r fun v F1 H1 x1 y1 => ?_
    obtain ⟨da, ep, vs, M1, rfl, g, hl, hn, os⟩ := dicL_ok (H := F1) (Same.refl F1) (.sh y1) e2
    exact ⟨m, da, ep, ks, vs, rfl, x1.s _ _ g, q _ F1 H1 x1 (seq_lf g)⟩
  sP := fun {env ds} e => by
    obtain ⟨d, e1, e⟩ := Option.bind_eq_some_iff.mp e
    obtain ⟨⟨m, ks, xs⟩, e2, rfl⟩ := Option.map_eq_some_iff.mp e
    refine fun e' F σ H L R r q => a.sK e1 e' F σ H L _ r fun v F1 H1 x1 ⟨M, o⟩ => ?_
    obtain ⟨da, ep, vs, M1, rfl, g, hl, hn, os⟩ := dicL_ok x1.s o e2
    exact ⟨m, da, ep, ks, vs, rfl, g, q _ F1 H1 x1 (seqP_lf g)⟩
theorem e_xLnew {m : Bool} {env} : (xLnew W m).ev env = some (.fr, .olf m [] []) := rfl
theorem e_xLix {a b : XP W} {env} : (xLix a b).ev env = (a.ev env).bind fun p => (dicL p.2).bind fun q => (b.evV env).bind fun y => (keyL q.1 y).bind fun k => (pos k q.2.1).bind fun j => (q.2.2[j]?).map p.1.of := rfl
theorem e_xLget2 {a b c : XP W} {env} : (xLget2 a b c).ev env = (a.ev env).bind fun p => (dicL p.2).bind fun q => (b.evV env).bind fun y => (c.ev env).bind fun z => (keyL q.1 y).bind fun k => match pos k q.2.1 with
    | some j => (q.2.2[j]?).map p.1.of
    | none => some z := rfl
theorem e_xLin {a b : XP W} {env} : (xLin a b).ev env = (a.evV env).bind fun y => (b.ev env).bind fun p => (dicL p.2).bind fun q => (keyL q.1 y).map fun k => (.fr, .bl (pos k q.2.1).isSome) := rfl
theorem e_xsLput {p : XPl W} {k : XP W} {m : XM W} {P env} : (xsLput p k m).ev P env = (m.ev P env).thenS (lputK p k) := rfl
theorem h_lputK {p : XPl W} {k : XP W} {d : D} {e : Py.Env} : lputK p k d e = RS.ofO ((p.ev e).bind fun q => (k.evF e).bind fun i => (lputD q.2 [i, d]).bind fun z => (getS e p.root).map fun d0 => e.set p.root (some (d0.putAt q.1 z.1))) := rfl
theorem h_xiLfF {a : XP W} {env} : (xiLf a).evF env = (a.evF env).bind fun d => guardB (isSh d) (ksL d) := rfl
theorem h_xiLfP {a : XP W} {env} : (xiLf a).evP env = (a.evK env).bind ksL := rfl
end
end Py
namespace L2
open PySem PySem.Spec PyProof.Rows
section
variable {X : Cx}
def tSc (w : World) (wi : TI) (g : TG) (tk : TE) (vs : List Nat) : TE := fun σ H Q => wi σ H fun J H1 => ∀ D, H1 D = none -> ∃ Wt : Nat -> Nat -> Hp -> Prop, (∃ m, Wt 0 m (upd H1 D (SetO w D (fun _ => false) 0))) /\ ∀ i m H, Wt i m H ->
  (J.stop i H /\ Q (.ref D) H) \/ (J.go i H /\ ∃ Nx : Hp -> Prop, (∀ H', Nx H' -> ∃ m', m' < m /\ Wt (i + 1) m' H') /\ ∀ x H', J.yld i H x H' -> g x (wipe σ vs) H' fun σ2 H2 => wipe σ2 vs = wipe σ vs /\
    tk σ2 H2 fun y H4 => ∃ S n k, y = .int k /\ H4 D = some (SetO w D S n) /\ n + 1 < scanBound /\ Nx (upd H4 D (SetO w D (fun j => S j || decide (j = k)) (if S k = true then n else n + 1))))
theorem sc_core {pins : List (Addr × Obj)} {s : Shared} {σ : St} {H : Hp} {Q : VK} {elt tg iter : Expr} {scope : Scope} {own : List (Str × Nat)} {pos pos' : Pos} {wi : TI} {g : TG} {tk : TE} {use : Option (Value -> Sem Unit)} {Qf : Value -> Shared -> Prop}
    (cm : X.calm = true) (nd : X.N.Nodup) (I : Inv X pins σ H s) (pit : PI X tg iter wi) (bok : BlkOk X.N X.env.scope scope own)
    (gT : ∀ (s0 : Shared) (H0 : Hp) (C : Addr) (cl : List (Str × Addr)) (fp : List Addr), PG (X.blk s0 H0 scope (compEnvC scope cl C X.env) fp) tg g)
    (gK : ∀ (s0 : Shared) (H0 : Hp) (C : Addr) (cl : List (Str × Addr)) (fp : List Addr), PE (X.blk s0 H0 scope (compEnvC scope cl C X.env) fp) elt tk) (fold : ∀ x, foldedSetIterable iter X.env x = pure x)
    (h : tSc X.w wi g tk (own.map (·.2)) σ H Q)
    (out : ∀ D C s' m H', Inv X pins σ H' s' -> Q (.ref D) H' -> s'.heap.Ns C m -> FpOk X pins H' C -> compPost (model X.prog X.w) X.A X.xe use Qf (.ref D) C (.ok .next) s') :
    wpAny (model X.prog X.w) X.A (comprehension (.SetComp elt [⟨tg, iter, [], 0⟩] scope pos) scope X.env pos' (newSet (.type "set")) false (eval iter X.env) use) Qf X.xe s := by
  have closed : ∀ y ∈ scope.names, y.2 = .free -> ∃ c, X.env.cells.lookup y.1 = some c := fun y hy e =>
    (bok.free y hy e).elim (fun k => I.ok.has _ (.inl k)) fun k => I.ok.has _ (.inr k)
  refine wpAny_comprehension_free (use := use) rfl fold (closure_ok closed) bok.kind (fun y hy e => by rw [bok.uniq y hy, e])
    (thn (pit.run pins s σ H _ I h) fun xv s1 hx => thn hx fun itv s2 h2 => ?_)
  obtain ⟨it, fp, tn, J, H2, e, I2, Tn, tn2, fp2, q⟩ := h2
  subst e
  refine wpAny_newSet_raw fun led hled => newEnv_comp ?_
  subst hled
  generalize hD : s2.heap.objs.size = D
  have D0 : H2 D = none := I2.hok.fresh (Nat.le_of_eq hD)
  obtain ⟨Wt, ⟨m0, w0⟩, turn⟩ := q D D0
  generalize hs3 : ({ s2 with heap := s2.heap.push { cls := .type "set", dict := none, data := .set #[] 0 (.fresh 0 0 (!X.w.params.followText "set-order")) } } : Shared) = s3
  have I3 : Inv X pins σ (upd H2 D (SetO X.w D (fun _ => false) 0)) s3 := by
    rw [<- hs3]
    refine I2.laid (t' := s2.toks) (fun b u eb => Heap.get?_push_of_some _ eb) (Nat.le_of_eq hD) ?_
    rw [<- hD]
    exact setO_new (setR_fresh X.w)
  have hp3 : s3.heap = s2.heap.push { cls := .type "set", dict := none, data := .set #[] 0 (.fresh 0 0 (!X.w.params.followText "set-order")) } := by rw [<- hs3]
  have below : ∀ b ∈ fp, b < s2.heap.objs.size := fun b hb => Heap.lt_size (Tn.obj _ _ tn2 b hb).choose_spec.1
  have fp3 : ∀ b ∈ fp, FpOk X pins (upd H2 D (SetO X.w D (fun _ => false) 0)) b /\ b < s3.heap.objs.size := fun b hb => by
    have lt := below b hb
    refine ⟨⟨?_, (fp2 b hb).2⟩, by rw [hp3, Heap.size_push]; exact Nat.lt_succ_of_lt lt⟩
    rw [upd_ne (by rw [<- hD]; exact Nat.ne_of_lt lt)]
    exact (fp2 b hb).1
  have tn3 : tn 0 s3.heap := Tn.keep _ _ _ tn2 fun b _ u eb => by rw [hp3]; exact Heap.get?_push_of_some _ eb
  have I4 := block_start I3 bok nd fp3
  have pg := gT s3 (upd H2 D (SetO X.w D (fun _ => false) 0)) s3.heap.objs.size (cellsFrom (s3.heap.objs.size + 1) scope.names (cloFrom X.env.cells scope.names [])) fp
  have pk := gK s3 (upd H2 D (SetO X.w D (fun _ => false) 0)) s3.heap.objs.size (cellsFrom (s3.heap.objs.size + 1) scope.names (cloFrom X.env.cells scope.names [])) fp
  have nfp : ∀ b ∈ fp, (upd H2 D (SetO X.w D (fun _ => false) 0)) b = none := fun b hb => (fp3 b hb).1.1
  show codeAny _ _ (.compStart (.SetComp elt [⟨tg, iter, [], 0⟩] scope pos) 0 (.ref it) (.ref D) (compEnvC scope (cellsFrom (s3.heap.objs.size + 1) scope.names (cloFrom X.env.cells scope.names [])) s3.heap.objs.size X.env)) (compPost (model X.prog X.w) X.A X.xe use Qf (.ref D) s3.heap.objs.size)
    { s3 with heap := pushCells (s3.heap.push { cls := .type "dict", data := .dict #[] }) scope.names }
  generalize hce : compEnvC scope (cellsFrom (s3.heap.objs.size + 1) scope.names (cloFrom X.env.cells scope.names [])) s3.heap.objs.size X.env = ce at I4 pg pk ⊢
  have cl : ce.locals = s3.heap.objs.size := by subst hce; rfl
  generalize upd H2 D (SetO X.w D (fun _ => false) 0) = H3 at I3 I4 pg pk w0 nfp fp3
  generalize hs4 : ({ s3 with heap := pushCells (s3.heap.push { cls := .type "dict", data := .dict #[] }) scope.names } : Shared) = s4 at I4 ⊢
  have tn4 : tn 0 s4.heap := Tn.keep _ _ _ tn3 fun b _ u eb => by rw [<- hs4]; exact pushCells_keeps _ _ _ _ (Heap.get?_push_of_some _ eb)
  have still : ∀ {σ' : St} {H' : Hp} {s' : Shared}, Inv (X.blk s3 H3 scope ce fp) [] σ' H' s' -> (∀ b ∈ fp, H' b = none) -> ∀ b ∈ fp, FpOk (X.blk s3 H3 scope ce fp) [] H' b := fun {σ' H' s'} J' nn b hb =>
    ⟨nn b hb, (J'.ok.exf b hb).1, J'.ok.exfs b hb, .inl hb, fun x c eb => (J'.ok.exf b hb).2 x c eb, fun p hp => absurd (show p ∈ ([] : List (Addr × Obj)) ++ [] from hp) (by simp)⟩
  have loop : codeAny (model X.prog X.w) X.A (.compLoop (.SetComp elt [⟨tg, iter, [], 0⟩] scope pos) 0 (.ref it) (.ref D) ce) (compPost (model X.prog X.w) X.A X.xe use Qf (.ref D) s3.heap.objs.size) s4 := by
    refine compLoop_set_any (fun n s' => ∃ i H', Inv (X.blk s3 H3 scope ce fp) [] (wipe σ (own.map (·.2))) H' s' /\ tn i s'.heap /\ (∀ b ∈ fp, H' b = none) /\ Wt i n H') ?_ m0 ⟨0, H3, I4, tn4, nfp, w0⟩
    rintro n s5 ⟨i, H5, I5, tn5, n5, w5⟩
    rcases turn i n H5 w5 with ⟨stop, qq⟩ | ⟨go, Nx, nx, step⟩
    · refine thnF (Tn.done (X.blk s3 H3 scope ce fp) rfl rfl rfl cm i [] s5 _ H5 (fun _ _ => False) I5 (still I5 n5) tn5 stop) fun r s6 ⟨er, I6⟩ => ?_
      subst er
      have I7 : Inv X pins σ H5 s6 := I3.call' (ch := fp) I6.os I6.base I6.hok I6.bare fun b hb => ⟨(fp3 b hb).1.2.2.2.1, (fp3 b hb).1.2.1, (fp3 b hb).1.2.2.2.2.1, (fp3 b hb).1.2.2.2.2.2⟩
      have noC : H5 s3.heap.objs.size = none := by
        have z : H5 ce.locals = none := I6.free
        rwa [cl] at z
      obtain ⟨m, hn, _⟩ := I6.loc
      have hn : s6.heap.Ns ce.locals m := hn
      rw [cl] at hn
      exact out D s3.heap.objs.size s6 m H5 I7 qq hn (I3.fpOk (Nat.le_refl _) noC)
    · refine thnF (Tn.item (X.blk s3 H3 scope ce fp) rfl rfl rfl cm i [] s5 _ H5 (fun _ _ => False) I5 (still I5 n5) tn5 go) fun r s6 ⟨u, er, h6⟩ => ?_
      subst er
      refine thnF h6 fun _ s7 ⟨x, H7, I7, r7, y7, tn7, n7⟩ => ?_
      have I7' := I7.pinned (still I7 n7) (Tn.obj _ _ tn7)
      refine thnF (pg.run _ s7 _ H7 x u _ I7' r7 (step x H7 y7)) fun _ s8 ⟨σ8, H8, I8, w8, q8⟩ => ?_
      have fin : ∀ {s' : Shared} {H' : Hp}, Inv (X.blk s3 H3 scope ce fp) ([] ++ pinsAt fp s7.heap) σ8 H' s' -> Nx H' -> ∃ m, m < n /\ ∃ i H', Inv (X.blk s3 H3 scope ce fp) [] (wipe σ (own.map (·.2))) H' s' /\ tn i s'.heap /\ (∀ b ∈ fp, H' b = none) /\ Wt i m H' := fun {s' H'} J' nn => by
        obtain ⟨m', lt, w'⟩ := nx H' nn
        have pp : ∀ b ∈ fp, ∀ u, s7.heap.get? b = some u -> s'.heap.get? b = some u /\ H' b = none := fun b hb u eb =>
          let z := J'.pin (b, u) (List.mem_append_right _ (List.mem_append_right _ (mem_pinsAt hb eb)))
          ⟨z.1, z.2.1⟩
        have ll : (wipe σ (own.map (·.2))).length = σ8.length := by rw [<- w8, wipe_length]
        refine ⟨m', lt, i + 1, H', (J'.unpinned (pins := [])).weak ll (fun j v ej => ?_), Tn.keep _ _ _ tn7 fun b hb u eb => (pp b hb u eb).1, fun b hb => ?_, w'⟩
        · rw [<- w8] at ej
          exact (wipe_some ej).1
        · obtain ⟨u, eb, _⟩ := Tn.obj _ _ tn7 b hb
          exact (pp b hb u eb).2
      refine wpAny_pure ?_
      rw [if_pos rfl]
      refine thnF (pk.run _ s8 σ8 H8 _ I8 q8) fun z s10 ⟨y, H10, I10, r10, S, c, k, ey, hS, room, nn⟩ => ?_
      subst ey
      exact thnF (mt_sadd (X := X.blk s3 H3 scope ce fp) _ s10 σ8 H10 (.ref D) [.int k] (.ref D) [z] (fun _ H => Nx H) I10 rfl (.cons r10 .nil) ⟨D, k, S, c, rfl, rfl, hS, room, nn⟩) fun _ s12 ⟨_, H12, I12, _, nn2⟩ => fin I12 nn2
  exact codeAny_compStart_set loop (Tn.self X.A 0 _ _ _ tn4 loop)
theorem pe_sc {elt tg iter : Expr} {scope : Scope} {own : List (Str × Nat)} {pos : Pos} {wi : TI} {g : TG} {tk : TE} (cm : X.calm = true) (nd : X.N.Nodup) (pit : PI X tg iter wi) (bok : BlkOk X.N X.env.scope scope own)
    (gT : ∀ (s0 : Shared) (H0 : Hp) (C : Addr) (cl : List (Str × Addr)) (fp : List Addr), PG (X.blk s0 H0 scope (compEnvC scope cl C X.env) fp) tg g)
    (gK : ∀ (s0 : Shared) (H0 : Hp) (C : Addr) (cl : List (Str × Addr)) (fp : List Addr), PE (X.blk s0 H0 scope (compEnvC scope cl C X.env) fp) elt tk) (fold : ∀ x, foldedSetIterable iter X.env x = pure x := by intro _; rfl) :
    PE X (.SetComp elt [⟨tg, iter, [], 0⟩] scope pos) (tSc X.w wi g tk (own.map (·.2))) := by
  refine ⟨fun pins s σ H Q I h => ?_⟩
  rw [arm_eval_SetComp]
  refine sc_core cm nd I pit bok gT gK fold h fun D C s' m H' I' q hn f => ⟨m, hn, fun h'' sb => ?_⟩
  obtain ⟨f0, f1, f2, f3, f4, f5⟩ := f
  exact ⟨.ref D, H', I'.turned (t' := s'.toks) (fun b u hb eb => (sb.2 b hb).trans eb) f0 f1 f3 f4 f5, rfl, q⟩
end
end L2
namespace Py
open PySem L2 PyProof.Rows
section
variable {T : Tbl} {W : Wd T} {env : Py.Env}
theorem ae_sc {wi : TI} {g : TG} {tk : TE} {vs : List Nat} {ds : List D} (h : AIp W wi env ds) (hg : GW g vs) (ns : List Int) (hln : ns.length = ds.length)
    (hs : ∀ (i : Nat) (d : D) (k : Int), ds[i]? = some d -> ns[i]? = some k -> AG W [] g d (wipeE env vs) fun e2 => AE W tk e2 (rF W (.int k)))
    (hz : ds.length < 64) : AE W (tCB (rSortedSet W.w) (tCons (tSc W.w wi g tk vs) tNil)) env (rO W (.olst ((ssI ns).map .int))) := fun e F σ H L Q r q =>
  h e F σ H L _ r fun J F1 H1 x1 sq => by
    intro Dl hD
    have r1 := (r.ext x1).nopin
    obtain ⟨Lw, rw', mw⟩ := r1.wipe rfl vs
    have hF1 : F1 Dl = none := x1.s.free hD
    have hH : H Dl = none := x1.h.free hD
    let Iv : Nat -> Hp -> Prop := fun i H' => ∃ F' S n, Ext F H F' H' /\ (Same F1 F' /\ Same H1 H') /\ Rel W { e with pins := [] } (wipeE env vs) F' (wipe σ vs) H' Lw /\ H' Dl = some (SetO W.w Dl S n) /\ F' Dl = none /\ (∀ k, S k = true ↔ k ∈ ns.take i) /\ n <= i
    refine ⟨fun i m H' => m = ds.length - i /\ i <= ds.length /\ Iv i H', ⟨ds.length, rfl, Nat.zero_le _, F1, fun _ => false, 0, x1.trans (.newH x1.s hD), ⟨Same.refl _, same_new hD⟩, rw'.ext (.newH x1.s hD), upd_same, hF1, fun k => by simp, Nat.le_refl _⟩, ?_⟩
    rintro i m H' ⟨rfl, hi, F', S, n, xE, s1, rr, hl, hFD, hS, hle⟩
    have hDL : Dl ∉ Lw := fun z => by
      obtain ⟨o, ho⟩ := rw'.slots.lives Dl z
      rw [hD] at ho; cases ho
    by_cases hlt : i < ds.length
    · have hd' : ds[i]? = some ds[i] := List.getElem?_eq_getElem hlt
      have hk' : ns[i]? = some (ns[i]'(by omega)) := List.getElem?_eq_getElem (by omega)
      obtain ⟨g1, g2⟩ := sq.go i _ F' H' s1.1 s1.2 rr.sF hd'
      refine .inr ⟨g1, Iv (i + 1), fun H'' p' => ⟨ds.length - (i + 1), by omega, rfl, hlt, p'⟩, fun x H2 y => ?_⟩
      obtain ⟨F2, x2, sx⟩ := g2 x H2 y
      have rr2 := rr.ext x2
      have step := hg x (wipe σ vs) H2 _ (hs i _ _ hd' hk' { e with pins := [] } F2 (wipe σ vs) H2 Lw x (fun σ2 H2 => tk σ2 H2 fun y H4 => ∃ S n k, y = .int k /\ H4 Dl = some (SetO W.w Dl S n) /\ n + 1 < scanBound /\ Iv (i + 1) (upd H4 Dl (SetO W.w Dl (fun j => S j || decide (j = k)) (if S k = true then n else n + 1)))) rfl rr2 sx fun env2 σ2 L2 k2 q2 => ?_)
      · rw [wipe_wipe] at step
        exact step
      refine k2 _ F2 σ2 H2 L2 _ q2 fun w F3 H3 x3 sy => ?_
      have sy : Shr W F3 (.int (ns[i]'(by omega))) w := sy
      cases sy
      have x4 := x2.trans x3
      have hD3 : F3 Dl = none := by
        cases z : F3 Dl with
        | none => rfl
        | some u =>
          rcases x4.n Dl u z with w | w
          · rw [hFD] at w; cases w
          · rw [hl] at w; cases w
      have a1 := xE.trans x4
      have a2 : Same F1 F3 /\ Same H1 H3 := ⟨s1.1.trans x4.f, s1.2.trans x4.h⟩
      refine ⟨S, n, _, rfl, x4.h _ _ hl, by unfold scanBound; omega, F3, _, _, ⟨a1.f, fun b u hb => by rw [upd_ne (fun z => by rw [z, hD3] at hb; cases hb)]; exact a1.s _ _ hb, fun b u hb => by rw [upd_ne (fun z => by rw [z, hH] at hb; cases hb)]; exact a1.h _ _ hb, a1.n⟩,
        ⟨a2.1, fun b u hb => by rw [upd_ne (fun z => by rw [z, hD] at hb; cases hb)]; exact a2.2 _ _ hb⟩, (rr.ext x4).free hDL hD3 (rw'.h0 hD), upd_same, hD3, fun k => ?_, ?_⟩
      · rw [List.take_succ, hk']
        simp only [Option.toList, List.mem_append, List.mem_singleton, Bool.or_eq_true, decide_eq_true_eq]
        rw [hS k]
      · split <;> omega
    · have e0 : i = ds.length := by omega
      subst e0
      refine .inl ⟨sq.stop F' H' s1.1 s1.2 rr.sF, ?_⟩
      show rSortedSet W.w [V.ref Dl] H' Q
      refine ⟨Dl, S, n, rfl, hl, by omega, fun ms p hpw hmem hlen hp => ?_⟩
      have e4 : ms = ssI ns := sorted_uniq hpw (ssI_sorted ns) fun k => by
        rw [hmem, hS, ssI_mem, List.take_of_length_le (by omega)]
      subst e4
      refine q _ F' _ (xE.trans (.newH rr.sF hp)) ⟨[p], .olst upd_same (shrs_ints (ssI ns)).owns, by simp, fun a ha => ?_⟩
      rw [List.mem_singleton.mp ha]
      exact ⟨xE.h.free hp, xE.s.free hp⟩
def scL (f : D -> Option D) : List D -> Option (List Int)
  | [] => some []
  | d :: ds => (f d).bind fun y => match y with
    | .int k => (scL f ds).map (k :: ·)
    | _ => none
theorem scL_ok {f : D -> Option D} : ∀ {ds : List D} {ns : List Int}, scL f ds = some ns -> ns.length = ds.length /\ ∀ (i : Nat) (d : D) (k : Int), ds[i]? = some d -> ns[i]? = some k -> f d = some (.int k)
  | [], ns, h => by cases h; exact ⟨rfl, fun i d k h => by simp at h⟩
  | d :: ds, ns, h => by
    obtain ⟨y, e1, h⟩ := Option.bind_eq_some_iff.mp h
    cases y <;> first | (cases h; done) | skip
    obtain ⟨ms, e2, rfl⟩ := Option.map_eq_some_iff.mp h
    obtain ⟨h1, h2⟩ := scL_ok e2
    refine ⟨by simp [h1], fun i d' k hd hk => ?_⟩
    cases i with
    | zero => simp at hd hk; subst hd hk; exact e1
    | succ i => exact h2 i d' k (by simpa using hd) (by simpa using hk)
def xSortSc (it : XI W) (g : XG W) (x : XP W) : XP W where
  t := tCB (rSortedSet W.w) (tCons (tSc W.w it.t g.t x.t g.own) tNil)
  ev env := (it.evP env).bind fun ds => if ds.length < 64 then (scL (fun d => (g.ev [] d (wipeE env g.own)).bind x.evF) ds).map fun ns => (.fr, .olst ((ssI ns).map .int)) else none
  snd := fun {env k d} e => by
    obtain ⟨ds, e1, e⟩ := Option.bind_eq_some_iff.mp e
    split at e
    · rename_i hl
      obtain ⟨ns, e2, e⟩ := Option.map_eq_some_iff.mp e
      cases e
      obtain ⟨h1, h2⟩ := scL_ok e2
      refine ae_sc (it.sP e1) (g.gw fun _ m => m) ns h1 (fun i d k hd hk => ?_) hl
      obtain ⟨env2, g1, h⟩ := Option.bind_eq_some_iff.mp (h2 i d k hd hk)
      intro e0 F σ H L v Q hP r s q
      refine g.snd g1 e0 F σ H L v Q hP r s fun env3 σ2 L2 z r3 => ?_
      subst z
      exact q _ σ2 L2 (x.sF h) r3
    · cases e
theorem e_xSortSc {it : XI W} {g : XG W} {x : XP W} {env} : (xSortSc it g x).ev env = (it.evP env).bind fun ds => if ds.length < 64 then (scL (fun d => (g.ev [] d (wipeE env g.own)).bind x.evF) ds).map fun ns => (.fr, .olst ((ssI ns).map .int)) else none := rfl
end
end Py
namespace Py
open PySem L2
theorem forL_gen {f : D -> Py.Env -> RS} {r : RS} : ∀ {ds : List D} {env : Py.Env} (I : Nat -> Py.Env -> Prop), forL f ds env = r -> I 0 env -> (∀ i d e, ds[i]? = some d -> I i e -> ∃ e', (f d e = .nx e' \/ f d e = .ct e') /\ I (i + 1) e') -> ∃ e', r = .nx e' /\ I ds.length e'
  | [], env, I, h, h0, _ => ⟨env, h.symm, h0⟩
  | d :: ds, env, I, h, h0, hs => by
    obtain ⟨e', h1, h2⟩ := hs 0 d env rfl h0
    have h : (match f d env with | .nx e => forL f ds e | .ct e => forL f ds e | .bk e => .nx e | r => r) = r := h
    have h3 : forL f ds e' = r := by rcases h1 with h1 | h1 <;> (rw [h1] at h; exact h)
    exact forL_gen (fun i e => I (i + 1) e) h3 h2 fun i d e hd hi => hs (i + 1) d e (by simpa using hd) hi
theorem atI_map {α β : Type} (f : α -> β) (xs : List α) (i : Int) : atI (xs.map f) i = (atI xs i).map f := by
  unfold atI
  rw [List.length_map]
  cases ixN xs.length i with
  | none => rfl
  | some j => show (xs.map f)[j]? = _; rw [List.getElem?_map]; rfl
theorem atI_of {α : Type} {xs : List α} {j : Nat} {x : α} (h : xs[j]? = some x) : atI xs (j : Int) = some x := by rw [atI_litN, h]
theorem atI_get {α : Type} {xs : List α} {i : Int} (h0 : 0 <= i) (h : i < xs.length) : ∃ x, atI xs i = some x /\ xs[i.toNat]? = some x := by
  obtain ⟨j, rfl⟩ := Int.eq_ofNat_of_zero_le h0
  have : xs[j]? = some (xs[j]'(by omega)) := List.getElem?_eq_getElem (by omega)
  exact ⟨_, atI_of this, this⟩
theorem get_map {α β : Type} {f : α -> β} {xs : List α} {i : Nat} {y : β} (h : (xs.map f)[i]? = some y) : ∃ x, xs[i]? = some x /\ y = f x := by
  rw [List.getElem?_map] at h
  cases e : xs[i]? with
  | none => rw [e] at h; cases h
  | some x => rw [e] at h; exact ⟨x, rfl, (Option.some.inj h).symm⟩
theorem sh_map {α : Type} {enc : α -> D} (h : ∀ a, isSh (enc a) = true) (xs : List α) : (xs.map enc).all isSh = true := by
  rw [List.all_eq_true]
  intro d hd
  obtain ⟨a, _, rfl⟩ := List.mem_map.mp hd
  exact h a
theorem fzs_map {α : Type} {enc : α -> D} (h : ∀ a, isSh (enc a) = true) (xs : List α) : fzs (xs.map enc) = xs.map enc := by
  rw [fzs_eq, List.map_map]
  exact List.map_congr_left fun a _ => fz_isSh (h a)
theorem okDs_map {α : Type} {enc : α -> D} {n : Nat} (h : ∀ a, okD n (enc a) = true) (xs : List α) : okDs n (xs.map enc) = true := by
  rw [okDs_all, List.all_eq_true]
  intro d hd
  obtain ⟨a, _, rfl⟩ := List.mem_map.mp hd
  exact h a
theorem eqBs_map {α : Type} [DecidableEq α] {enc : α -> D} (h : ∀ a b, eqB (enc a) (enc b) = decide (a = b)) : ∀ xs ys : List α, eqBs (xs.map enc) (ys.map enc) = decide (xs = ys)
  | [], [] => by rw [List.map_nil, eqBs]; rfl
  | [], y :: ys => by rw [List.map_nil, List.map_cons, h_eqBs_nc]; rfl
  | x :: xs, [] => by rw [List.map_nil, List.map_cons, h_eqBs_cn]; rfl
  | x :: xs, y :: ys => by
    rw [List.map_cons, List.map_cons, eqBs, h, eqBs_map h xs ys]
    by_cases h1 : x = y <;> by_cases h2 : xs = ys <;> simp [h1, h2]
theorem lcL_map {α : Type} {enc : α -> D} {f : D -> Option (List D)} {g : α -> List D} (xs : List α) (h : ∀ a ∈ xs, f (enc a) = some (g a)) : lcL f (xs.map enc) = some (xs.flatMap g) := by
  induction xs with
  | nil => rfl
  | cons x xs ih =>
    show (f (enc x)).bind _ = _
    rw [h x (List.mem_cons_self ..), Option.bind_some, ih fun a m => h a (List.mem_cons_of_mem _ m)]
    rfl
theorem flatMap_one {α β : Type} (f : α -> β) (xs : List α) : (xs.flatMap fun a => [f a]) = xs.map f := by
  induction xs with
  | nil => rfl
  | cons x xs ih => rw [List.flatMap_cons, ih]; rfl
theorem lcL_mapE {α β : Type} {enc : α -> D} {enc2 : β -> D} {f : D -> Option (List D)} (g : α -> β) (xs : List α) (h : ∀ a ∈ xs, f (enc a) = some [enc2 (g a)]) : lcL f (xs.map enc) = some ((xs.map g).map enc2) := by
  rw [lcL_map (g := fun a => [enc2 (g a)]) xs h, flatMap_one, List.map_map]; rfl
end Py
namespace Py
open PySem L2
local macro_rules | `(tactic| walk_at "ev") => `(tactic| try simp (maxSteps := 1000000) (disch := first | omega | decide) only [e_xsSeq, e_xsNext, e_xsNever, e_xsAsg, e_xsExpr, e_xsRet, e_xsIf, e_xsFrz, e_xmP, e_xVar_V, e_xtV, e_xtTru, e_xtAnd, e_xtOr, e_xtNot, e_xtYes, e_xVar, e_xInt, e_xBl, e_xNon, e_xSub, e_xMul, e_xDiv, e_xMod, e_xPow, e_xNeg, e_xAdd, e_xEq, e_xNe, e_xLt, e_xGt, e_xGe, e_xIsN, e_xNotN, e_xAnd, e_xNot, e_xTup, e_xLst, e_xInt1, e_xAbs, e_xIx, e_xFld, e_xList, e_xIsi, e_xIsiT, e_xCall, e_xLc, e_xSorted, e_xmVar, e_xmMove, e_xmAppend, e_xmReverse, e_xoNil, e_xoCons, e_plVar, r_plVar, e_xaNilV, e_xaNilF, e_xaConsV, e_xaConsF, e_xgN, e_xgsNil, e_xgsCons, e_xgT, o_xgN, o_xgT, o_xgsNil, o_xgsCons, e_xiSeqF, e_xiSeqP, e_xiR1F, e_xiR1P, e_xsFor, e_evV, e_evK, e_evF, e_evO, e_evB, h_getS0, h_getS0n, h_getSs, h_toV, h_toVn, h_toKf, h_toKp, h_toKv, h_toKn, h_toFf, h_toFp, h_toFv, h_toFn, h_toOf, h_toOp, h_toOv, h_toOn, h_of_f, h_of_p, h_of_v, h_then_nx, h_then_rt, h_then_bk, h_then_ct, h_then_ex, h_then_no, h_thenS_ok, h_thenS_exn, h_thenS_no, h_ofO, h_ofOn, h_of, h_ofn, h_mofO, h_mofOn, h_iteF1, h_iteF0, h_iteFn, h_asgK, h_forK, h_andF1, h_andF0, h_orF1, h_orF0, h_blD, h_turn, h_turnn, h_forE, h_forEn, h_callF, h_callV, h_rzF, h_rzV, h_fz_non, h_sh_non, h_fl_non, h_isN_non, h_fz_bl, h_sh_bl, h_fl_bl, h_fz_int, h_sh_int, h_fl_int, h_isN_int, h_fz_str, h_sh_str, h_fl_str, h_isN_str, h_fz_cls, h_sh_cls, h_fl_cls, h_isN_cls, h_fz_sei, h_sh_sei, h_fl_sei, h_isN_sei, h_fz_scr, h_sh_scr, h_fl_scr, h_isN_scr, h_fz_tup, h_sh_tup, h_fl_tup, h_isN_tup, h_fz_lst, h_sh_lst, h_fl_lst, h_isN_lst, h_fz_dic, h_sh_dic, h_fl_dic, h_isN_dic, h_fz_dit, h_sh_dit, h_fl_dit, h_isN_dit, h_fz_dig, h_sh_dig, h_fl_dig, h_isN_dig, h_fz_dlf, h_sh_dlf, h_fl_dlf, h_isN_dlf, h_fz_ins, h_sh_ins, h_fl_ins, h_isN_ins, h_isN_bl, h_fz_olst, h_sh_olst, h_fl_olst, h_fz_odic, h_sh_odic, h_fl_odic, h_fz_odit, h_sh_odit, h_fl_odit, h_fz_odig, h_sh_odig, h_fl_odig, h_fz_olf, h_sh_olf, h_fl_olf, h_fz_oins, h_sh_oins, h_fl_oins, h_fzs_nil, h_fzs_cons, h_fzs_app, h_tru_bl, h_tru_non, h_tru_int, h_tru_lst, h_tru_tup, h_sub, h_neg, h_addI, h_addT, h_addL, h_addLo, h_addoL, h_addoo, h_eqD, h_neD, h_ok_non, h_ok_bl, h_ok_int, h_ok_str, h_ok_tup, h_ok_lst, h_oks_nil, h_oks_cons, h_eqB_ii, h_eqB_ss, h_eqB_bb, h_eqB_nn, h_eqB_ni, h_eqB_in, h_eqB_nt, h_eqB_tn, h_eqB_tt, h_eqB_ll, h_eqBs_nn, h_eqBs_cc, h_eqBs_nc, h_eqBs_cn, h_cmp, h_ltI, h_ltT, h_ints_nil, h_ints_cons, h_intI, h_intB, h_abs, h_lenL, h_lenT, h_lenS, h_ix, h_it_lst, h_it_olst, h_it_tup, h_it_scr, h_at0, h_at1, h_at2, h_at3, h_at4, h_at5, h_at6, h_at7, h_at8, h_at9, h_at10, h_at11, h_at12, h_atm1, h_seq_lst, h_seq_tup, h_seq_olst, h_seq_scr, h_sF_lst, h_sF_tup, h_sF_scr, h_lF_lst, h_ty_non, h_ty_bl, h_ty_int, h_ty_str, h_ty_lst, h_ty_tup, h_ty_ins, h_isi_bb, h_isi_bo, h_isi_ob, h_isi_oo, h_isiA_n, h_isiA_c, h_isiB_NoneType_bool, h_isiB_NoneType_int, h_isiB_NoneType_str, h_isiB_NoneType_list, h_isiB_NoneType_tuple, h_isiB_NoneType_dict, h_isiB_bool_bool, h_isiB_bool_int, h_isiB_bool_str, h_isiB_bool_list, h_isiB_bool_tuple, h_isiB_bool_dict, h_isiB_int_bool, h_isiB_int_int, h_isiB_int_str, h_isiB_int_list, h_isiB_int_tuple, h_isiB_int_dict, h_isiB_str_bool, h_isiB_str_int, h_isiB_str_str, h_isiB_str_list, h_isiB_str_tuple, h_isiB_str_dict, h_isiB_list_bool, h_isiB_list_int, h_isiB_list_str, h_isiB_list_list, h_isiB_list_tuple, h_isiB_list_dict, h_isiB_tuple_bool, h_isiB_tuple_int, h_isiB_tuple_str, h_isiB_tuple_list, h_isiB_tuple_tuple, h_isiB_tuple_dict, h_isiB_dict_bool, h_isiB_dict_int, h_isiB_dict_str, h_isiB_dict_list, h_isiB_dict_tuple, h_isiB_dict_dict, h_append, h_rev, h_put0, h_rng1, h_guard1, h_guard0, h_forLn, h_forLc, h_forT_nx, h_forT_ct, h_forT_bk, h_forT_rt, h_forT_ex, h_lc1, h_lcK, h_lcJ1, h_lcJ0, h_wipe0, h_wipes, h_frz, h_frzO, h_frzOn, h_runR_rt, h_runR_nx, h_retZ, h_bGetn, h_bGets, h_setS, h_fldI, h_fldO, h_iteFd1, h_iteFd0, h_iteFe1, h_iteFe0, h_andFd1, h_andFd0, h_andFe1, h_andFe0, h_orFd1, h_orFd0, h_orFe1, h_orFe0, h_lcJd1, h_lcJd0, h_lcJe1, h_lcJe0, h_eMeth, h_methF, h_methV, h_methW, h_meth1, h_resE, h_resEn, h_posn, h_posc, h_putc, h_putE, h_subF, h_subI, h_putF, h_putI, h_setOs, h_eSfld, h_fldK, h_setFD, h_setFn, h_setFc, h_eMake, h_makeF, h_makeV, h_mk1, h_mkR, h_eLenU, h_lenI_lst, h_lenI_tup, h_lenI_scr, h_lenI_ins, h_lenQ, h_lenR, h_RTthen_ok, h_RTthenS_ok, h_RTthen_exn, h_RTthenS_exn, h_RTof, h_eListU, h_lstE_lst, h_lstE_tup, h_lstE_scr, h_lstE_olst, h_lstE_ins, h_itQ, h_it_ins, h_lo_lst, h_lo_olst, h_eiSeqUF, h_eiSeqUP, h_eiEnumUF, h_eiEnumUP, h_seqFI_lst, h_seqFI_tup, h_seqFI_scr, h_seqFI_ins, h_seqKI_lst, h_seqKI_tup, h_seqKI_scr, h_seqKI_ins, h_seqKI_olst, h_enFI_lst, h_enFI_ins, h_enKI_lst, h_enKI_ins, h_enKI_olst, h_ixD_ins, h_okD_ins, h_eqD_ins, h_addD_ins, h_addD_oins, h_eSum, h_sumI, h_eIn, h_inK_non, h_inK_int, h_inK_str, h_guardB_t, h_keyD_i, h_keyD_s, h_qevO, h_qevB, h_qevF, h_toQf, h_toQp, h_toQv, h_toQn, h_runR_ex, h_retX, h_thenY1, h_thenY2, h_thenY3, h_look1, h_look2, h_div, h_mod, h_mulL, h_mulR, h_rngOk, List.zip_cons_cons, List.zip_nil_left, if_pos, if_neg, List.getElem?_cons_zero, List.getElem?_cons_succ, List.getElem?_nil, List.getLast?_append, List.getLast?_singleton, List.getLast?_cons_cons, runFn, env0, Option.toList, List.map_cons, List.map_nil, List.length_cons, List.length_nil, List.length_append, List.length_map, List.length_set, List.replicate, List.cons_append, List.nil_append, List.append_nil, Nat.reduceSub, Nat.reduceAdd, Nat.reduceLT, Nat.reduceLeDiff, Nat.reduceEqDiff, Nat.zero_add, Nat.add_zero, List.set_cons_zero, List.set_cons_succ, List.set_nil, Option.bind_some, Option.bind_none, Option.map_some, Option.map_none, List.foldl_cons, List.foldl_nil, not_false_eq_true, not_true_eq_false, and_true, true_and, and_self, and_false, false_and, if_true, if_false, ite_true, ite_false, reduceIte, List.not_mem_nil, reduceCtorEq, List.mem_cons, or_false, false_or, or_self, ne_eq, Bool.not_true, Bool.not_false, Bool.and_true, Bool.and_false, Bool.true_and, Bool.false_and, Bool.or_true, Bool.or_false, Bool.true_or, Bool.false_or, Bool.and_self, Bool.or_self, List.all_cons, List.all_nil, decide_true, decide_false, decide_not, decide_eq_true_eq, decide_eq_false_iff_not, Bool.not_not, Int.reduceLT, Int.reduceLE, Int.reduceEq, Int.reduceNe, Int.reduceAdd, Int.reduceMul, Int.reduceSub, Int.reduceNeg, List.isEmpty_cons, List.isEmpty_nil, Bool.false_eq_true, Bool.true_eq_false, String.reduceEq, Function.comp_apply, Option.isNone_none, Option.some_or, Option.isNone_some, List.getLast?_concat, List.dropLast_concat, List.all_append])
abbrev Pr := Int × Int
def eR (p : Pr) : D := .tup [.int p.1, .int p.2]
def ltR (p q : Pr) : Bool := HT.lexLt [p.1, p.2] [q.1, q.2]
def dR (p : Pr) : PyData := .tuple [.int p.1, .int p.2]
theorem pd_eR (p : Pr) : pd (eR p) = some (dR p) := by unfold eR dR; simp [pd, pds]
theorem sortOk_dR (ps : List Pr) : sortOk (ps.map dR) = true := by
  unfold sortOk
  simp only [Bool.and_eq_true, List.all_eq_true, Bool.or_eq_true]
  refine ⟨⟨?_, .inl ?_⟩, ?_⟩
  · intro a ha b hb
    obtain ⟨x, _, rfl⟩ := List.mem_map.mp ha
    obtain ⟨y, _, rfl⟩ := List.mem_map.mp hb
    simp [dR, PySem.W.alike, PySem.W.alikeAll]
  · intro a ha
    obtain ⟨x, _, rfl⟩ := List.mem_map.mp ha
    rfl
  · intro a ha
    obtain ⟨x, _, rfl⟩ := List.mem_map.mp ha
    simp [dR, PyData.depth, PyData.depthAll]
theorem ltR_iff (p q : Pr) : ltR p q = true ↔ p.1 < q.1 \/ p.1 = q.1 /\ p.2 < q.2 := by
  unfold ltR
  rw [HT.lexLt_cons, HT.lexLt_cons, HT.lexLt_nil_nil]
  by_cases h : p.1 = q.1 <;> by_cases h2 : p.2 = q.2 <;> simp [h, h2]
def leR (p q : Pr) : Bool := !ltR q p
theorem le_dR : PySem.W.dataLe false dR = leR := by
  funext p q
  rw [PySem.W.dataLe_eq]
  show (!PySem.W.dataLt (dR q) (dR p)) = _
  unfold dR leR
  rw [PySem.W.dataLt_ii, Bool.eq_iff_iff]
  simp [<- ltR_iff]
def srtR (ps : List Pr) : List Pr := ps.mergeSort leR
theorem srtR_perm (ps : List Pr) : (srtR ps).Perm ps := List.mergeSort_perm _ _
theorem srtR_len (ps : List Pr) : (srtR ps).length = ps.length := (srtR_perm ps).length_eq
theorem srt_eR (ps : List Pr) : sortD (ps.map eR) = some ((srtR ps).map eR) := by
  rw [sortD_map pd_eR ps (sortOk_dR ps), le_dR]; rfl
end Py
namespace Py
open PySem L2
local macro_rules | `(tactic| walk_at "ev") => `(tactic| try simp (maxSteps := 1000000) (disch := first | omega | decide) only [e_xsSeq, e_xsNext, e_xsNever, e_xsAsg, e_xsExpr, e_xsRet, e_xsIf, e_xsFrz, e_xmP, e_xVar_V, e_xtV, e_xtTru, e_xtAnd, e_xtOr, e_xtNot, e_xtYes, e_xVar, e_xInt, e_xBl, e_xNon, e_xSub, e_xMul, e_xDiv, e_xMod, e_xPow, e_xNeg, e_xAdd, e_xEq, e_xNe, e_xLt, e_xGt, e_xGe, e_xIsN, e_xNotN, e_xAnd, e_xNot, e_xTup, e_xLst, e_xInt1, e_xAbs, e_xIx, e_xFld, e_xList, e_xIsi, e_xIsiT, e_xCall, e_xLc, e_xSorted, e_xmVar, e_xmMove, e_xmAppend, e_xmReverse, e_xoNil, e_xoCons, e_plVar, r_plVar, e_xaNilV, e_xaNilF, e_xaConsV, e_xaConsF, e_xgN, e_xgsNil, e_xgsCons, e_xgT, o_xgN, o_xgT, o_xgsNil, o_xgsCons, e_xiSeqF, e_xiSeqP, e_xiR1F, e_xiR1P, e_xsFor, e_evV, e_evK, e_evF, e_evO, e_evB, h_getS0, h_getS0n, h_getSs, h_toV, h_toVn, h_toKf, h_toKp, h_toKv, h_toKn, h_toFf, h_toFp, h_toFv, h_toFn, h_toOf, h_toOp, h_toOv, h_toOn, h_of_f, h_of_p, h_of_v, h_then_nx, h_then_rt, h_then_bk, h_then_ct, h_then_ex, h_then_no, h_thenS_ok, h_thenS_exn, h_thenS_no, h_ofO, h_ofOn, h_of, h_ofn, h_mofO, h_mofOn, h_iteF1, h_iteF0, h_iteFn, h_asgK, h_forK, h_andF1, h_andF0, h_orF1, h_orF0, h_blD, h_turn, h_turnn, h_forE, h_forEn, h_callF, h_callV, h_rzF, h_rzV, h_fz_non, h_sh_non, h_fl_non, h_isN_non, h_fz_bl, h_sh_bl, h_fl_bl, h_fz_int, h_sh_int, h_fl_int, h_isN_int, h_fz_str, h_sh_str, h_fl_str, h_isN_str, h_fz_cls, h_sh_cls, h_fl_cls, h_isN_cls, h_fz_sei, h_sh_sei, h_fl_sei, h_isN_sei, h_fz_scr, h_sh_scr, h_fl_scr, h_isN_scr, h_fz_tup, h_sh_tup, h_fl_tup, h_isN_tup, h_fz_lst, h_sh_lst, h_fl_lst, h_isN_lst, h_fz_dic, h_sh_dic, h_fl_dic, h_isN_dic, h_fz_dit, h_sh_dit, h_fl_dit, h_isN_dit, h_fz_dig, h_sh_dig, h_fl_dig, h_isN_dig, h_fz_dlf, h_sh_dlf, h_fl_dlf, h_isN_dlf, h_fz_ins, h_sh_ins, h_fl_ins, h_isN_ins, h_isN_bl, h_fz_olst, h_sh_olst, h_fl_olst, h_fz_odic, h_sh_odic, h_fl_odic, h_fz_odit, h_sh_odit, h_fl_odit, h_fz_odig, h_sh_odig, h_fl_odig, h_fz_olf, h_sh_olf, h_fl_olf, h_fz_oins, h_sh_oins, h_fl_oins, h_fzs_nil, h_fzs_cons, h_fzs_app, h_tru_bl, h_tru_non, h_tru_int, h_tru_lst, h_tru_tup, h_sub, h_neg, h_addI, h_addT, h_addL, h_addLo, h_addoL, h_addoo, h_eqD, h_neD, h_ok_non, h_ok_bl, h_ok_int, h_ok_str, h_ok_tup, h_ok_lst, h_oks_nil, h_oks_cons, h_eqB_ii, h_eqB_ss, h_eqB_bb, h_eqB_nn, h_eqB_ni, h_eqB_in, h_eqB_nt, h_eqB_tn, h_eqB_tt, h_eqB_ll, h_eqBs_nn, h_eqBs_cc, h_eqBs_nc, h_eqBs_cn, h_cmp, h_ltI, h_ltT, h_ints_nil, h_ints_cons, h_intI, h_intB, h_abs, h_lenL, h_lenT, h_lenS, h_ix, h_it_lst, h_it_olst, h_it_tup, h_it_scr, h_at0, h_at1, h_at2, h_at3, h_at4, h_at5, h_at6, h_at7, h_at8, h_at9, h_at10, h_at11, h_at12, h_atm1, h_seq_lst, h_seq_tup, h_seq_olst, h_seq_scr, h_sF_lst, h_sF_tup, h_sF_scr, h_lF_lst, h_ty_non, h_ty_bl, h_ty_int, h_ty_str, h_ty_lst, h_ty_tup, h_ty_ins, h_isi_bb, h_isi_bo, h_isi_ob, h_isi_oo, h_isiA_n, h_isiA_c, h_isiB_NoneType_bool, h_isiB_NoneType_int, h_isiB_NoneType_str, h_isiB_NoneType_list, h_isiB_NoneType_tuple, h_isiB_NoneType_dict, h_isiB_bool_bool, h_isiB_bool_int, h_isiB_bool_str, h_isiB_bool_list, h_isiB_bool_tuple, h_isiB_bool_dict, h_isiB_int_bool, h_isiB_int_int, h_isiB_int_str, h_isiB_int_list, h_isiB_int_tuple, h_isiB_int_dict, h_isiB_str_bool, h_isiB_str_int, h_isiB_str_str, h_isiB_str_list, h_isiB_str_tuple, h_isiB_str_dict, h_isiB_list_bool, h_isiB_list_int, h_isiB_list_str, h_isiB_list_list, h_isiB_list_tuple, h_isiB_list_dict, h_isiB_tuple_bool, h_isiB_tuple_int, h_isiB_tuple_str, h_isiB_tuple_list, h_isiB_tuple_tuple, h_isiB_tuple_dict, h_isiB_dict_bool, h_isiB_dict_int, h_isiB_dict_str, h_isiB_dict_list, h_isiB_dict_tuple, h_isiB_dict_dict, h_append, h_rev, h_put0, h_rng1, h_guard1, h_guard0, h_forLn, h_forLc, h_forT_nx, h_forT_ct, h_forT_bk, h_forT_rt, h_forT_ex, h_lc1, h_lcK, h_lcJ1, h_lcJ0, h_wipe0, h_wipes, h_frz, h_frzO, h_frzOn, h_runR_rt, h_runR_nx, h_retZ, h_bGetn, h_bGets, h_setS, h_fldI, h_fldO, h_iteFd1, h_iteFd0, h_iteFe1, h_iteFe0, h_andFd1, h_andFd0, h_andFe1, h_andFe0, h_orFd1, h_orFd0, h_orFe1, h_orFe0, h_lcJd1, h_lcJd0, h_lcJe1, h_lcJe0, h_eMeth, h_methF, h_methV, h_methW, h_meth1, h_resE, h_resEn, h_posn, h_posc, h_putc, h_putE, h_subF, h_subI, h_putF, h_putI, h_setOs, h_eSfld, h_fldK, h_setFD, h_setFn, h_setFc, h_eMake, h_makeF, h_makeV, h_mk1, h_mkR, h_eLenU, h_lenI_lst, h_lenI_tup, h_lenI_scr, h_lenI_ins, h_lenQ, h_lenR, h_RTthen_ok, h_RTthenS_ok, h_RTthen_exn, h_RTthenS_exn, h_RTof, h_eListU, h_lstE_lst, h_lstE_tup, h_lstE_scr, h_lstE_olst, h_lstE_ins, h_itQ, h_it_ins, h_lo_lst, h_lo_olst, h_eiSeqUF, h_eiSeqUP, h_eiEnumUF, h_eiEnumUP, h_seqFI_lst, h_seqFI_tup, h_seqFI_scr, h_seqFI_ins, h_seqKI_lst, h_seqKI_tup, h_seqKI_scr, h_seqKI_ins, h_seqKI_olst, h_enFI_lst, h_enFI_ins, h_enKI_lst, h_enKI_ins, h_enKI_olst, h_ixD_ins, h_okD_ins, h_eqD_ins, h_addD_ins, h_addD_oins, h_eSum, h_sumI, h_eIn, h_inK_non, h_inK_int, h_inK_str, h_guardB_t, h_keyD_i, h_keyD_s, h_qevO, h_qevB, h_qevF, h_toQf, h_toQp, h_toQv, h_toQn, h_runR_ex, h_retX, h_thenY1, h_thenY2, h_thenY3, h_look1, h_look2, h_div, h_mod, h_mulL, h_mulR, h_rngOk, List.zip_cons_cons, List.zip_nil_left, if_pos, if_neg, List.getElem?_cons_zero, List.getElem?_cons_succ, List.getElem?_nil, List.getLast?_append, List.getLast?_singleton, List.getLast?_cons_cons, runFn, env0, Option.toList, List.map_cons, List.map_nil, List.length_cons, List.length_nil, List.length_append, List.length_map, List.length_set, List.replicate, List.cons_append, List.nil_append, List.append_nil, Nat.reduceSub, Nat.reduceAdd, Nat.reduceLT, Nat.reduceLeDiff, Nat.reduceEqDiff, Nat.zero_add, Nat.add_zero, List.set_cons_zero, List.set_cons_succ, List.set_nil, Option.bind_some, Option.bind_none, Option.map_some, Option.map_none, List.foldl_cons, List.foldl_nil, not_false_eq_true, not_true_eq_false, and_true, true_and, and_self, and_false, false_and, if_true, if_false, ite_true, ite_false, reduceIte, List.not_mem_nil, reduceCtorEq, List.mem_cons, or_false, false_or, or_self, ne_eq, Bool.not_true, Bool.not_false, Bool.and_true, Bool.and_false, Bool.true_and, Bool.false_and, Bool.or_true, Bool.or_false, Bool.true_or, Bool.false_or, Bool.and_self, Bool.or_self, List.all_cons, List.all_nil, decide_true, decide_false, decide_not, decide_eq_true_eq, decide_eq_false_iff_not, Bool.not_not, Int.reduceLT, Int.reduceLE, Int.reduceEq, Int.reduceNe, Int.reduceAdd, Int.reduceMul, Int.reduceSub, Int.reduceNeg, List.isEmpty_cons, List.isEmpty_nil, Bool.false_eq_true, Bool.true_eq_false, String.reduceEq, Function.comp_apply, Option.isNone_none, Option.some_or, Option.isNone_some, List.getLast?_concat, List.dropLast_concat, List.all_append])
class Enc (α : Type) [DecidableEq α] where
  enc : α -> D
  sh : ∀ a, isSh (enc a) = true
  dp : Nat
  ok : ∀ n a, okD (n + dp) (enc a) = true
  eq : ∀ a b, eqB (enc a) (enc b) = decide (a = b)
open Enc (enc)
class EncN (α : Type) [DecidableEq α] [Enc α] : Prop where
  nn : ∀ a : α, isNon (enc a) = false
  en : ∀ a : α, eqB (enc a) .non = false
  ne : ∀ a : α, eqB .non (enc a) = false
class EncF (α : Type) [DecidableEq α] [Enc α] : Prop where
  fl : ∀ a : α, isFlat (enc a) = true
section
variable {α β γ : Type} [DecidableEq α] [DecidableEq β] [DecidableEq γ] [Enc α] [Enc β] [Enc γ]
theorem sh_enc (a : α) : isSh (enc a) = true := Enc.sh a
theorem fz_enc (a : α) : fz (enc a) = enc a := fz_isSh (Enc.sh a)
theorem shl_enc (xs : List α) : (xs.map enc).all isSh = true := sh_map Enc.sh xs
theorem fzl_enc (xs : List α) : fzs (xs.map enc) = xs.map enc := fzs_map Enc.sh xs
theorem fl_enc [EncF α] (a : α) : isFlat (enc a) = true := EncF.fl a
theorem nn_enc [EncN α] (a : α) : isNon (enc a) = false := EncN.nn a
theorem ok_enc {n : Nat} (a : α) (h : Enc.dp α <= n) : okD n (enc a) = true := by
  have := Enc.ok (n - Enc.dp α) a
  rwa [show n - Enc.dp α + Enc.dp α = n by omega] at this
theorem okl_enc {n : Nat} (xs : List α) (h : Enc.dp α <= n) : okDs n (xs.map enc) = true := okDs_map (fun a => ok_enc a h) xs
theorem eq_enc (a b : α) : eqB (enc a) (enc b) = decide (a = b) := Enc.eq a b
theorem eql_enc (xs ys : List α) : eqBs (xs.map enc) (ys.map enc) = decide (xs = ys) := eqBs_map Enc.eq xs ys
theorem en_enc [EncN α] (a : α) : eqB (enc a) .non = false := EncN.en a
theorem ne_enc [EncN α] (a : α) : eqB .non (enc a) = false := EncN.ne a
end
instance : Enc Int := ⟨.int, fun _ => rfl, 0, fun n a => by walk_at "ev", fun a b => by walk_at "ev"⟩
instance : EncN Int := ⟨fun _ => rfl, fun a => by show eqB (.int a) .non = _; walk_at "ev", fun a => by show eqB .non (.int a) = _; walk_at "ev"⟩
instance : EncF Int := ⟨fun _ => rfl⟩
theorem enc_int (i : Int) : enc i = .int i := rfl
instance : Enc Bool := ⟨.bl, fun _ => rfl, 0, fun n a => by walk_at "ev", fun a b => by walk_at "ev"⟩
instance : EncN Bool := ⟨fun _ => rfl, fun a => by show eqB (.bl a) .non = _; simp [eqB], fun a => by show eqB .non (.bl a) = _; simp [eqB]⟩
instance : EncF Bool := ⟨fun _ => rfl⟩
instance : Enc String := ⟨.str, fun _ => rfl, 0, fun n a => by walk_at "ev", fun a b => by walk_at "ev"⟩
instance : EncN String := ⟨fun _ => rfl, fun a => by show eqB (.str a) .non = _; simp [eqB], fun a => by show eqB .non (.str a) = _; simp [eqB]⟩
instance : EncF String := ⟨fun _ => rfl⟩
section
variable {α β γ : Type} [DecidableEq α] [DecidableEq β] [DecidableEq γ] [Enc α] [Enc β] [Enc γ]
def encO : Option α -> D
  | none => .non
  | some a => enc a
instance [EncN α] : Enc (Option α) where
  enc := encO
  sh a := by cases a; rfl; exact Enc.sh _
  dp := Enc.dp α
  ok n a := by
    cases a with
    | none => show okD _ .non = true; walk_at "ev"
    | some a => exact Enc.ok n a
  eq a b := by
    cases a <;> cases b
    · show eqB .non .non = _; walk_at "ev"
    · rename_i b; show eqB .non (enc b) = _; rw [ne_enc]; simp
    · rename_i b; show eqB (enc b) .non = _; rw [en_enc]; simp
    · rename_i a b; show eqB (enc a) (enc b) = _; rw [eq_enc]; simp
instance [EncN α] [EncF α] : EncF (Option α) := ⟨fun a => by cases a; rfl; exact EncF.fl (α := α) _⟩
theorem enc_some [EncN α] (a : α) : enc (some a) = enc a := rfl
theorem isN_opt [EncN α] (o : Option α) : isNon (enc o) = o.isNone := by
  cases o with
  | none => rfl
  | some a => exact nn_enc a
def enc2 (p : α × β) : D := .tup [enc p.1, enc p.2]
instance : Enc (α × β) where
  enc := enc2
  sh _ := rfl
  dp := max (Enc.dp α) (Enc.dp β) + 1
  ok n a := by
    show okD (n + (max (Enc.dp α) (Enc.dp β) + 1)) (.tup [enc a.1, enc a.2]) = true
    rw [<- Nat.add_assoc, h_ok_tup, h_oks_cons, h_oks_cons, h_oks_nil, ok_enc _ (by omega), ok_enc _ (by omega)]; rfl
  eq a b := by
    show eqB (.tup [enc a.1, enc a.2]) (.tup [enc b.1, enc b.2]) = _
    rw [h_eqB_tt, h_eqBs_cc, h_eqBs_cc, h_eqBs_nn, eq_enc, eq_enc, Bool.eq_iff_iff]
    simp [Prod.ext_iff]
instance : EncN (α × β) := ⟨fun _ => rfl, fun a => by show eqB (.tup _) .non = _; walk_at "ev", fun a => by show eqB .non (.tup _) = _; walk_at "ev"⟩
theorem it_pair (p : α × β) : itemsD (enc p) = some [enc p.1, enc p.2] := rfl
theorem sF_pair (p : α × β) : seqF (enc p) = some [enc p.1, enc p.2] := rfl
theorem so_pair (p : α × β) : seqOf (enc p) = some (true, [enc p.1, enc p.2]) := rfl
theorem ty_pair (p : α × β) : tyD (enc p) = some (false, "tuple") := rfl
theorem len_pair (p : α × β) : lenD [enc p] = some (.int 2) := rfl
theorem lenI_pair {T : Tbl} {φ : Sem} (p : α × β) : lenI1 T φ [enc p] = some (.int 2) := rfl
theorem fl_pair (p : α × β) : isFlat (enc p) = false := rfl
theorem xg_pair {W : Wd T} {gs : XGs W} {P : List Nat} {env : Py.Env} (p : α × β) : (xgT 2 gs).ev P (enc p) env = gs.ev P [enc p.1, enc p.2] env := by show (xgT 2 gs).ev P (.tup [enc p.1, enc p.2]) env = _; rw [e_xgT]; exact if_pos rfl
structure T3 (α β γ : Type) where
  a : α
  b : β
  c : γ
deriving DecidableEq
instance : Enc (T3 α β γ) where
  enc p := .tup [enc p.a, enc p.b, enc p.c]
  sh _ := rfl
  dp := max (Enc.dp α) (max (Enc.dp β) (Enc.dp γ)) + 1
  ok n a := by
    show okD (n + (max (Enc.dp α) (max (Enc.dp β) (Enc.dp γ)) + 1)) (.tup [enc a.a, enc a.b, enc a.c]) = true
    rw [<- Nat.add_assoc, h_ok_tup, h_oks_cons, h_oks_cons, h_oks_cons, h_oks_nil, ok_enc _ (by omega), ok_enc _ (by omega), ok_enc _ (by omega)]; rfl
  eq a b := by
    show eqB (.tup [enc a.a, enc a.b, enc a.c]) (.tup [enc b.a, enc b.b, enc b.c]) = _
    rw [h_eqB_tt, h_eqBs_cc, h_eqBs_cc, h_eqBs_cc, h_eqBs_nn, eq_enc, eq_enc, eq_enc, Bool.eq_iff_iff]
    cases a; cases b
    simp
instance : EncN (T3 α β γ) := ⟨fun _ => rfl, fun a => by show eqB (.tup _) .non = _; walk_at "ev", fun a => by show eqB .non (.tup _) = _; walk_at "ev"⟩
theorem it_t3 (p : T3 α β γ) : itemsD (enc p) = some [enc p.a, enc p.b, enc p.c] := rfl
theorem sF_t3 (p : T3 α β γ) : seqF (enc p) = some [enc p.a, enc p.b, enc p.c] := rfl
theorem sFI_t3 {T : Tbl} (p : T3 α β γ) : seqFI T (enc p) = some [enc p.a, enc p.b, enc p.c] := rfl
theorem ty_t3 (p : T3 α β γ) : tyD (enc p) = some (false, "tuple") := rfl
theorem len_t3 (p : T3 α β γ) : lenD [enc p] = some (.int 3) := rfl
theorem lenI_t3 {T : Tbl} {φ : Sem} (p : T3 α β γ) : lenI1 T φ [enc p] = some (.int 3) := rfl
theorem fl_t3 (p : T3 α β γ) : isFlat (enc p) = false := rfl
theorem xg_t3 {W : Wd T} {gs : XGs W} {P : List Nat} {env : Py.Env} (p : T3 α β γ) : (xgT 3 gs).ev P (enc p) env = gs.ev P [enc p.a, enc p.b, enc p.c] env := by show (xgT 3 gs).ev P (.tup [enc p.a, enc p.b, enc p.c]) env = _; rw [e_xgT]; exact if_pos rfl
instance : Enc (List α) where
  enc xs := .lst (xs.map enc)
  sh _ := rfl
  dp := Enc.dp α + 1
  ok n a := by
    show okD (n + (Enc.dp α + 1)) (.lst _) = true
    rw [<- Nat.add_assoc, h_ok_lst]; exact okl_enc a (by omega)
  eq a b := by
    show eqB (.lst _) (.lst _) = _
    rw [h_eqB_ll, eql_enc]
instance : EncN (List α) := ⟨fun _ => rfl, fun a => by show eqB (.lst _) .non = _; simp [eqB], fun a => by show eqB .non (.lst _) = _; simp [eqB]⟩
structure Tp (α : Type) where
  l : List α
deriving DecidableEq
instance : Enc (Tp α) where
  enc xs := .tup (xs.l.map enc)
  sh _ := rfl
  dp := Enc.dp α + 1
  ok n a := by
    show okD (n + (Enc.dp α + 1)) (.tup _) = true
    rw [<- Nat.add_assoc, h_ok_tup]; exact okl_enc a.l (by omega)
  eq a b := by
    show eqB (.tup _) (.tup _) = _
    rw [h_eqB_tt, eql_enc]
    cases a; cases b; simp
instance : EncN (Tp α) := ⟨fun _ => rfl, fun a => by show eqB (.tup _) .non = _; simp [eqB], fun a => by show eqB .non (.tup _) = _; simp [eqB]⟩
end
def withIx {α : Type} : Nat -> List α -> List (Int × α)
  | _, [] => []
  | k, x :: xs => ((k : Int), x) :: withIx (k + 1) xs
theorem withIx_length {α : Type} : ∀ (k : Nat) (xs : List α), (withIx k xs).length = xs.length
  | _, [] => rfl
  | k, _ :: xs => congrArg (· + 1) (withIx_length (k + 1) xs)
theorem withIx_get {α : Type} : ∀ (k : Nat) (xs : List α) (i : Nat), (withIx k xs)[i]? = (xs[i]?).map fun x => (((k + i : Nat) : Int), x)
  | _, [], _ => by simp [withIx]
  | k, x :: xs, 0 => by simp [withIx]
  | k, x :: xs, i + 1 => by
    show (withIx (k + 1) xs)[i]? = _
    rw [withIx_get (k + 1) xs i, List.getElem?_cons_succ, show k + 1 + i = k + (i + 1) by omega]
theorem enumD_enc {α : Type} [DecidableEq α] [Enc α] (xs : List α) : enumD (xs.map enc) = (withIx 0 xs).map enc := by
  apply List.ext_getElem?
  intro i
  unfold enumD
  rw [List.getElem?_mapIdx, List.getElem?_map, List.getElem?_map, withIx_get]
  cases xs[i]? with
  | none => rfl
  | some x => simp only [Option.map_some, Nat.zero_add]; rfl
theorem withIx_app {α : Type} : ∀ (k : Nat) (xs ys : List α), withIx k (xs ++ ys) = withIx k xs ++ withIx (k + xs.length) ys
  | _, [], _ => rfl
  | k, x :: xs, ys => by
    show _ :: withIx (k + 1) (xs ++ ys) = _
    rw [withIx_app (k + 1) xs ys]
    show _ = _ :: (withIx (k + 1) xs ++ withIx (k + (xs.length + 1)) ys)
    rw [show k + 1 + xs.length = k + (xs.length + 1) by omega]
theorem lcL_range {f : D -> Option (List D)} {g : Nat -> List D} (n : Nat) (h : ∀ k, k < n -> f (.int (0 + (k : Int))) = some (g k)) : lcL f (rangeD 0 n) = some ((List.range n).flatMap g) :=
  lcL_map (enc := fun k : Nat => D.int (0 + (k : Int))) (List.range n) fun k m => h k (List.mem_range.mp m)
theorem forL_enc {α : Type} {g : α -> D} {f : D -> Py.Env -> RS} {r : RS} : ∀ {xs : List α} {env : Py.Env} (I : List α -> Py.Env -> Prop), forL f (xs.map g) env = r -> I [] env ->
    (∀ ys x zs e, xs = ys ++ x :: zs -> I ys e -> ∃ e', (f (g x) e = .nx e' \/ f (g x) e = .ct e') /\ I (ys ++ [x]) e') -> ∃ e', r = .nx e' /\ I xs e'
  | [], env, I, h, h0, _ => ⟨env, h.symm, h0⟩
  | x :: xs, env, I, h, h0, hs => by
    obtain ⟨e', h1, h2⟩ := hs [] x xs env rfl h0
    have h : (match f (g x) env with | .nx e => forL f (xs.map g) e | .ct e => forL f (xs.map g) e | .bk e => .nx e | r => r) = r := h
    have h3 : forL f (xs.map g) e' = r := by rcases h1 with h1 | h1 <;> (rw [h1] at h; exact h)
    exact forL_enc (fun ys e => I (x :: ys) e) h3 h2 fun ys y zs e hy hi => hs (x :: ys) y zs e (by rw [hy]; rfl) hi
end Py
namespace Py
open PySem L2
open Enc (enc)
section
variable {α β : Type} [DecidableEq α] [Enc α]
def kI (m : List (Int × β)) : List Key := m.map fun p => Sum.inl p.1
def alP (m : List (Int × β)) (k : Int) (a : β) : List (Int × β) := if (m.any fun p => decide (p.1 = k)) = true then m.map (fun p => if p.1 = k then (k, a) else p) else m ++ [(k, a)]
theorem inl_eq (i j : Int) : ((Sum.inl i : Key) = Sum.inl j) = (i = j) := by
  apply propext; exact ⟨fun h => Sum.inl.inj h, fun h => by rw [h]⟩
theorem pos_al (k : Int) : ∀ m : List (Int × β), (pos (Sum.inl k : Key) (kI m) = none /\ (m.any fun p => decide (p.1 = k)) = false) \/ ∃ j p, pos (Sum.inl k : Key) (kI m) = some j /\ m[j]? = some p /\ p.1 = k /\ (m.any fun p => decide (p.1 = k)) = true /\ m.find? (fun p => decide (p.1 = k)) = some p
  | [] => .inl ⟨rfl, rfl⟩
  | p :: m => by
    show ((if (Sum.inl p.1 : Key) = Sum.inl k then some 0 else (pos (Sum.inl k : Key) (kI m)).map (· + 1)) = none /\ _) \/ ∃ j q, (if (Sum.inl p.1 : Key) = Sum.inl k then some 0 else (pos (Sum.inl k : Key) (kI m)).map (· + 1)) = some j /\ _
    by_cases h : p.1 = k
    · rw [if_pos (by rw [h])]
      exact .inr ⟨0, p, rfl, rfl, h, by rw [List.any_cons, decide_eq_true h]; rfl, List.find?_cons_of_pos (by simpa using h)⟩
    · rw [if_neg (by rw [inl_eq]; exact h)]
      rcases pos_al k m with ⟨h1, h2⟩ | ⟨j, q, h1, h2, h3, h4, h5⟩
      · exact .inl ⟨by rw [h1]; rfl, by rw [List.any_cons, h2, decide_eq_false h]; rfl⟩
      · exact .inr ⟨j + 1, q, by rw [h1]; rfl, by simpa using h2, h3, by rw [List.any_cons, h4, Bool.or_true], by rw [List.find?_cons_of_neg (by simpa using h)]; exact h5⟩
def Nk (m : List (Int × β)) : Prop := (m.map (·.1)).Nodup
theorem alP_map {k : Int} {a : β} : ∀ {m : List (Int × β)} {j : Nat}, Nk m -> pos (Sum.inl k : Key) (kI m) = some j -> m.map (fun p => if p.1 = k then (k, a) else p) = m.set j (k, a)
  | [], _, _, h => by cases h
  | p :: m, j, hn, h => by
    have h : (if (Sum.inl p.1 : Key) = Sum.inl k then some 0 else (pos (Sum.inl k : Key) (kI m)).map (· + 1)) = some j := h
    unfold Nk at hn
    rw [List.map_cons, List.nodup_cons] at hn
    rw [List.map_cons]
    by_cases e : p.1 = k
    · rw [if_pos (by rw [e])] at h
      cases h
      rw [if_pos e, List.set_cons_zero]
      congr 1
      have : ∀ q ∈ m, (if q.1 = k then (k, a) else q) = q := fun q hq => by
        rw [if_neg]
        intro z
        exact hn.1 (by rw [e, <- z]; exact List.mem_map.mpr ⟨q, hq, rfl⟩)
      exact (List.map_congr_left this).trans (List.map_id _)
    · rw [if_neg (by rw [inl_eq]; exact e)] at h
      obtain ⟨i, h1, rfl⟩ := Option.map_eq_some_iff.mp h
      rw [if_neg e, List.set_cons_succ, alP_map hn.2 h1]
theorem Nk.put {k : Int} {a : β} {m : List (Int × β)} (hn : Nk m) : Nk (alP m k a) := by
  unfold Nk
  unfold alP
  rcases pos_al k m with ⟨h1, h2⟩ | ⟨j, q, h1, h2, h3, h4, _⟩
  · rw [if_neg (by rw [h2]; decide), List.map_append, List.nodup_append]
    refine ⟨hn, by simp, fun x hx y hy z => ?_⟩
    have hy : y = k := by simpa using hy
    subst z hy
    obtain ⟨p, hp, e⟩ := List.mem_map.mp hx
    have : (m.any fun p => decide (p.1 = x)) = true := List.any_eq_true.mpr ⟨p, hp, decide_eq_true e⟩
    rw [h2] at this; cases this
  · rw [if_pos h4, alP_map hn h1, List.map_set]
    have hj := (List.getElem?_eq_some_iff.mp h2).1
    have : (m.map (·.1)).set j k = m.map (·.1) := by
      apply List.ext_getElem?
      intro i
      by_cases e : j = i
      · subst e
        rw [List.getElem?_set_self (by simpa using hj), List.getElem?_map, h2, Option.map_some, h3]
      · rw [List.getElem?_set_ne e]
    show ((m.map (·.1)).set j k).Nodup
    rw [this]
    exact hn
end
theorem inL_int (neg : Bool) (i : Int) (xs : List Int) : inL neg (.int i) (xs.map enc) = some (.bl (if neg = true then !decide (i ∈ xs) else decide (i ∈ xs))) := by
  have h1 : fls (xs.map enc) = some (xs.map V.int) := by
    induction xs with
    | nil => rfl
    | cons x xs ih =>
      show (fl (D.int x)).bind (fun v => (fls (xs.map enc)).map (v :: ·)) = _
      rw [ih]; rfl
  have h2 : inV (.int i) (xs.map V.int) = decide (i ∈ xs) := by
    unfold inV
    rw [List.any_map]
    induction xs with
    | nil => rfl
    | cons x xs ih =>
      rw [List.any_cons, ih (by
        show fls (xs.map enc) = _
        have : (fl (D.int x)).bind (fun v => (fls (xs.map enc)).map (v :: ·)) = some (V.int x :: xs.map V.int) := h1
        cases e : fls (xs.map enc) with
        | none => rw [e] at this; cases this
        | some l => rw [e] at this; have := Option.some.inj this; injection this with _ h; rw [h])]
      show (decide (x = i) || _) = _
      by_cases e : x = i
      · subst e; simp
      · simp [e]
        exact fun y => absurd y.symm e
  unfold inL
  rw [h1]
  show some (D.bl (if neg = true then !inV (.int i) _ else inV (.int i) _)) = _
  rw [h2]
end Py
namespace Py
open PySem L2
theorem DefX.funD {K : PySem.W.Frag} {d : DefX} (hcl : d.cl = false) (e : fnXd K d = d.val) (c : d.ok K = true) : ∃ fd, FunD K d.name d.qual (defArgs d.st) (defBody d.st) (defScope d.st) (d.dvs K) (d.kws K) (d.ad K) fd := by
  obtain ⟨kp, c2⟩ := He.ba c
  unfold fnXd DefX.val at e
  rw [hcl] at e
  dsimp only at e
  unfold fnX at e
  cases q : K.lookup (d.ad K) with
  | none =>
    rw [q] at c2
    cases c2
  | some o =>
    obtain ⟨oc, od, dt, osl⟩ := o
    rw [q] at c2 e
    cases dt with
    | func fd =>
      obtain ⟨n1, n2, n3, n4, n5, n6, n7, n8, n9, n10, n11, n12, n13, n14, n15⟩ := fd
      have e2 : (some (n1, n2, n3, n4, n5, n6, n7, n15) : He.FnW) = some (d.name, d.qual, defArgs d.st, .stmts (defBody d.st), defScope d.st, mainGlobals, [], builtinsNs) := e
      simp only [Option.some.injEq, Prod.mk.injEq] at e2
      obtain ⟨h1, h2, h3, h4, h5, h6, h7, h8⟩ := e2
      subst h1 h2 h6 h7 h8
      have c3 : (PySem.W.codeIn K n13 d.qual && (He.dflB K n8 (d.dvs K) && He.kwdB K n9 (d.kws K))) = true := c2
      obtain ⟨k1, k2⟩ := He.ba c3
      obtain ⟨k3, k4⟩ := He.ba k2
      rw [h3, h4, h5] at q
      exact ⟨_, ⟨oc, od, n8, n9, n10, n11, n12, n13, n14, osl, rfl, q, k1, He.dflB_ok k3, He.kwdB_ok k4⟩, kp⟩
    | _ => cases c2
section
variable {fa : List FB} {fn : List DefX} {K : PySem.W.Frag}
theorem SaysX.fact (c : SaysX fa fn K) (i : Nat) {f : FB} (h : fa[i]? = some f := by rfl) : f K = true := by
  have c1 := (He.ba (show ((fa.all fun f => f K) && fn.all fun d => d.ok K) = true from congrArg (fun z : He.AlD => z.1) c)).1
  exact List.all_eq_true.mp c1 f (List.mem_of_getElem? h)
theorem SaysX.def_ (c : SaysX fa fn K) (i : Nat) {d : DefX} (h : fn[i]? = some d := by rfl) (hcl : d.cl = false := by rfl) : ∃ fd, FunD K d.name d.qual (defArgs d.st) (defBody d.st) (defScope d.st) (d.dvs K) (d.kws K) (d.ad K) fd := by
  have c2 := (He.ba (show ((fa.all fun f => f K) && fn.all fun d => d.ok K) = true from congrArg (fun z : He.AlD => z.1) c)).2
  have e : fn.map (fun d => fnXd K d) = fn.map DefX.val := congrArg (fun z : He.AlD => z.2) c
  have e2 : (fn.map fun d => fnXd K d)[i]? = (fn.map DefX.val)[i]? := by rw [e]
  rw [List.getElem?_map, List.getElem?_map, h] at e2
  exact DefX.funD hcl (Option.some.inj e2) (List.all_eq_true.mp c2 d (List.mem_of_getElem? h))
theorem SaysX.cld (c : SaysX fa fn K) (i : Nat) {d : DefX} (h : fn[i]? = some d := by rfl) (hcl : d.cl = true := by rfl) : fnXc K (d.ad K) = some (d.name, d.qual, defArgs d.st, .stmts (defBody d.st), defScope d.st, mainGlobals, [(("__class__" : Str), 0)], builtinsNs) := by
  have e : fn.map (fun d => fnXd K d) = fn.map DefX.val := congrArg (fun z : He.AlD => z.2) c
  have e2 : (fn.map fun d => fnXd K d)[i]? = (fn.map DefX.val)[i]? := by rw [e]
  rw [List.getElem?_map, List.getElem?_map, h] at e2
  have e3 : fnXd K d = d.val := Option.some.inj e2
  obtain ⟨q1, q2, q3, q4, q5, q6, q7⟩ := d
  have hcl : q7 = true := hcl
  subst hcl
  exact e3
end
def fLaw (T : Tbl) (P : Program) (w : World) (K : PySem.W.Frag) (cs : List String) (fl : String -> List String) (hT : ∀ c f, c ∈ cs -> T.fOk c f = true -> f ∈ fl c) (sub : String -> String -> Bool) (hs : ∀ c d, T.sub c d = sub c d)
    (xs : List String) (xsub : String -> String -> Bool) (hx : ∀ c d, T.xsub c d = xsub c d) (x1 : fXm xs xsub K = true) (x2 : fXv xs K = true) (x3 : fXc xs K = true)
    (h1 : fCls cs K = true) (h2 : fNoat cs fl K = true) (h3 : fIsT cs K = true) (h4 : fTO cs K = true) (h5 : fOT cs K = true) (h6 : fOO cs sub K = true) : Wd T where
  K := K
  P := P
  w := w
  cA := ga K
  has c := c ∈ cs
  cl c hc := by
    obtain ⟨a, b, c', d⟩ := He.cls_ok (List.all_eq_true.mp h1 c hc)
    exact ⟨a, b, c', d⟩
  na c f hc hf := He.noat_ok (List.all_eq_true.mp (List.all_eq_true.mp h2 c hc) f (hT c f hc hf))
  isT c hc := by
    obtain ⟨a, b⟩ := He.ba (List.all_eq_true.mp h3 c hc)
    obtain ⟨b, d⟩ := He.ba b
    obtain ⟨d, e⟩ := He.ba d
    exact ⟨of_decide_eq_true a, of_decide_eq_true b, of_decide_eq_true d, of_decide_eq_true e⟩
  isTO t c ht hc := of_decide_eq_true (List.all_eq_true.mp (List.all_eq_true.mp h4 t ht) c hc)
  isOT c t hc ht := of_decide_eq_true (List.all_eq_true.mp (List.all_eq_true.mp h5 c hc) t ht)
  hasX c := c ∈ xs
  xm c d hc hd := by
    rw [hx]
    exact of_decide_eq_true (He.ba (List.all_eq_true.mp (List.all_eq_true.mp x1 c hc) d hd)).1
  xk c d hc hd := by
    rw [hx]
    exact of_decide_eq_true (He.ba (List.all_eq_true.mp (List.all_eq_true.mp x1 c hc) d hd)).2
  xv c hc := of_decide_eq_true (List.all_eq_true.mp x2 c hc)
  xc c hc := by
    obtain ⟨h1, h⟩ := He.ba (List.all_eq_true.mp x3 c hc)
    obtain ⟨h2, h⟩ := He.ba h
    obtain ⟨h3, h⟩ := He.ba h
    obtain ⟨h4, h⟩ := He.ba h
    obtain ⟨h5, h⟩ := He.ba h
    obtain ⟨h6, h⟩ := He.ba h
    obtain ⟨h7, h8⟩ := He.ba h
    exact ⟨of_decide_eq_true h1, of_decide_eq_true h2, of_decide_eq_true h3, h4, of_decide_eq_true h5, of_decide_eq_true h6, of_decide_eq_true h7, of_decide_eq_true h8⟩
  isOO c d hc hd := by rw [hs]; exact of_decide_eq_true (List.all_eq_true.mp (List.all_eq_true.mp h6 c hc) d hd)
theorem fDun_ok {T : Tbl} {W : Wd T} {cs : List String} (hh : ∀ c, W.has c -> c ∈ cs) (hc : ∀ c, W.cA c = ga W.K c) (h : fDun cs W.K = true) : Dun W := by
  have g := fun c hc' => He.ba (List.all_eq_true.mp h c (hh c hc'))
  refine ⟨fun c z => hc c ▸ (g c z).1, fun c t z m => hc c ▸ List.all_eq_true.mp (He.ba (g c z).2).1 t m, fun c f z m => ?_⟩
  have := (He.ba (g c z).2).2
  rw [hc c] at m
  rw [m] at this
  exact this
end Py
namespace Py
open PySem L2 NdefX
end Py
namespace Py
open PySem L2
end Py
namespace Py
open PySem L2
def l1_plain_groups {T : Tbl} (W : Wd T) (φ : Sem) : XS W :=
  (xsSeq (xsAsg 4 (xmP (xLget2 (xVar W 1) (xVar W 2) (xTup (xaCons (xInt W 0) (xaCons (xInt W 0) (xaNil W)))))))
  (xsLput (plVar W 1) (xVar W 2) (xmP (xTup (xaCons (xAdd (xIx (xVar W 4) (xInt W 0)) (xInt W 1)) (xaCons (xAdd (xIx (xVar W 4) (xInt W 1)) (xVar W 3)) (xaNil W)))))))
def b_plain_groups {T : Tbl} (W : Wd T) (φ : Sem) : XS W :=
  (xsSeq (xsAsg 1 (xmP (xLnew W false)))
  (xsSeq (xsFrz [0] (xsFor (xiSeqU (xVar W 0)) (xgT 2 (xgsCons (xgN W 2) (xgsCons (xgN W 3) (xgsNil W)))) (l1_plain_groups W φ)))
  (xsSeq (xsAsg 5 (xmP (xSorted (xLc (xiLf (xVar W 1)) (xgN W 2) (xtV (xNotN (xVar W 2))) (xVar W 2)))))
  (xsSeq (xsIf (xtV (xLin (xNon W) (xVar W 1))) (xsExpr (xmAppend (plVar W 5) (xNon W))) (xsNext W))
  (xsRet (xmP (xLc (xiSeqU (xVar W 5)) (xgN W 2) (xtYes W) (xTup (xaCons (xVar W 2) (xaCons (xIx (xLix (xVar W 1) (xVar W 2)) (xInt W 0)) (xaCons (xIx (xLix (xVar W 1) (xVar W 2)) (xInt W 1)) (xaNil W))))))))))))
def b_group_depth_bounds {T : Tbl} (W : Wd T) (φ : Sem) : XS W :=
  (xsSeq (xsAsg 4 (xmP (xSortSc (xiSeqU (xMeth φ "entries" 1 (xVar W 0) (xaNil W))) (xgT 2 (xgsCons (xgN W 2) (xgsCons (xgN W 3) (xgsNil W)))) (xVar W 2))))
  (xsRet (xmP (xLc (xiEnumU (xVar W 4)) (xgT 2 (xgsCons (xgN W 5) (xgsCons (xgN W 2) (xgsNil W)))) (xtYes W) (xTup (xaCons (xVar W 2) (xaCons (xDiv (xVar W 5) (xVar W 1)) (xaNil W))))))))
def b_is_integer {T : Tbl} (W : Wd T) (φ : Sem) : XS W :=
  (xsRet (xmP (xAnd (xIsi (false, "int") (xVar W 0)) (xNot (xIsi (false, "bool") (xVar W 0))))))
def b_is_row {T : Tbl} (W : Wd T) (φ : Sem) : XS W :=
  (xsSeq (xsIf (xtOr (xtNot (xtTru (xIsiT [(false, "list"), (false, "tuple")] (xVar W 0)))) (xtV (xNe (xLenU φ (xaCons (xVar W 0) (xaNil W))) (xInt W 2)))) (xsRet (xmP (xBl W false))) (xsNext W))
  (xsSeq (xsIf (xtAnd (xtV (xNotN (xIx (xVar W 0) (xInt W 0)))) (xtNot (xtTru (xCall (φ "is_integer") 1 (xaCons (xIx (xVar W 0) (xInt W 0)) (xaNil W)) [] [] (fun _ => .nil))))) (xsRet (xmP (xBl W false))) (xsNext W))
  (xsRet (xmP (xCall (φ "is_integer") 1 (xaCons (xIx (xVar W 0) (xInt W 1)) (xaNil W)) [] [] (fun _ => .nil))))))
def l1_Table___init__ {T : Tbl} (W : Wd T) (φ : Sem) : XS W :=
  (xsSeq (xsIf (xtNot (xtTru (xCall (φ "is_row") 1 (xaCons (xVar W 4) (xaNil W)) [] [] (fun _ => .nil)))) (xsNever W) (xsNext W))
  (xsExpr (xmAppend (plVar W 2) (xTup (xaCons (xIx (xVar W 4) (xInt W 0)) (xaCons (xIx (xVar W 4) (xInt W 1)) (xaNil W)))))))
def b_Table___init__ {T : Tbl} (W : Wd T) (φ : Sem) : XS W :=
  (xsSeq (xsAsg 2 (xmP (xLst (xaNil W))))
  (xsSeq (xsFrz [1] (xsFor (xiEnumU (xVar W 1)) (xgT 2 (xgsCons (xgN W 3) (xgsCons (xgN W 4) (xgsNil W)))) (l1_Table___init__ W φ)))
  (xsFld (plVar W 0) "_rows" (xmVar W 2))))
def b_Table___len__ {T : Tbl} (W : Wd T) (φ : Sem) : XS W :=
  (xsRet (xmP (xLenU φ (xaCons (xFld (xVar W 0) "_rows") (xaNil W)))))
def l1_Table_entries {T : Tbl} (W : Wd T) (φ : Sem) : XS W :=
  (xsIf (xtV (xNotN (xIx (xVar W 3) (xInt W 0)))) (xsExpr (xmAppend (plVar W 1) (xTup (xaCons (xIx (xVar W 3) (xInt W 0)) (xaCons (xVar W 2) (xaNil W)))))) (xsNext W))
def b_Table_entries {T : Tbl} (W : Wd T) (φ : Sem) : XS W :=
  (xsSeq (xsAsg 1 (xmP (xLst (xaNil W))))
  (xsSeq (xsFor (xiEnumU (xFld (xVar W 0) "_rows")) (xgT 2 (xgsCons (xgN W 2) (xgsCons (xgN W 3) (xgsNil W)))) (l1_Table_entries W φ))
  (xsRet (xmP (xSorted (xVar W 1))))))
def l1_law_draws {T : Tbl} (W : Wd T) (φ : Sem) : XS W :=
  (xsSeq (xsAsg 7 (xmP (xInt W 0)))
  (xsSeq (xsIf (xtTru (xVar W 4)) (xsSeq (xsAsg 7 (xmP (xMod (xInt1 (xaCons (xVar W 3) (xaNil W))) (xInt W 1000))))
  (xsAsg 3 (xmP (xDiv (xVar W 3) (xInt W 1000))))) (xsIf (xtV (xGt (xVar W 3) (xInt W 0))) (xsSeq (xsAsg 8 (xmP (xMod (xInt1 (xaCons (xAdd (xMul (xVar W 3) (xAdd (xInt W 48271) (xMul (xInt W 6) (xVar W 6)))) (xMul (xInt W 69621) (xVar W 6))) (xaNil W))) (xInt W 2147483647))))
  (xsSeq (xsAsg 8 (xmP (xMod (xInt1 (xaCons (xAdd (xAdd (xMul (xVar W 8) (xVar W 8)) (xMul (xInt W 40692) (xVar W 6))) (xInt W 1)) (xaNil W))) (xInt W 2147483629))))
  (xsAsg 7 (xmP (xMod (xInt1 (xaCons (xVar W 8) (xaNil W))) (xInt W 1000)))))) (xsNext W)))
  (xsExpr (xmAppend (plVar W 5) (xVar W 7)))))
def b_law_draws {T : Tbl} (W : Wd T) (φ : Sem) : XS W :=
  (xsSeq (xsAsg 3 (xmP (xInt W 0)))
  (xsSeq (xsIf (xtV (xLt (xVar W 1) (xLenU φ (xaCons (xVar W 0) (xaNil W))))) (xsAsg 3 (xmP (xAbs (xaCons (xIx (xVar W 0) (xVar W 1)) (xaNil W))))) (xsNext W))
  (xsSeq (xsAsg 4 (xmP (xGe (xVar W 3) (xPow (xInt W 10) (xInt W 18)))))
  (xsSeq (xsAsg 5 (xmP (xLst (xaNil W))))
  (xsSeq (xsFor (xiR1 (xaCons (xVar W 2) (xaNil W))) (xgN W 6) (l1_law_draws W φ))
  (xsRet (xmMove W 5)))))))
def l1_law_rows {T : Tbl} (W : Wd T) (φ : Sem) : XS W :=
  (xsSeq (xsFrz [0] (xsAsg 7 (xmP (xCall (φ "_law_draws") 3 (xaCons (xVar W 0) (xaCons (xAdd (xVar W 1) (xVar W 6)) (xaCons (xInt W 3) (xaNil W)))) [] [] (fun _ => .nil)))))
  (xsSeq (xsAsg 8 (xmP (xMul (xSub (xMod (xInt1 (xaCons (xIx (xVar W 7) (xInt W 1)) (xaNil W))) (xVar W 3)) (xDiv (xVar W 3) (xInt W 3))) (xVar W 4))))
  (xsSeq (xsIf (xtV (xEq (xMod (xInt1 (xaCons (xIx (xVar W 7) (xInt W 0)) (xaNil W))) (xInt W 8)) (xInt W 7))) (xsAsg 8 (xmP (xNon W))) (xsNext W))
  (xsExpr (xmAppend (plVar W 5) (xTup (xaCons (xVar W 8) (xaCons (xSub (xIx (xVar W 7) (xInt W 2)) (xInt W 400)) (xaNil W)))))))))
def b_law_rows {T : Tbl} (W : Wd T) (φ : Sem) : XS W :=
  (xsSeq (xsAsg 5 (xmP (xLst (xaNil W))))
  (xsSeq (xsFor (xiR1 (xaCons (xVar W 2) (xaNil W))) (xgN W 6) (l1_law_rows W φ))
  (xsRet (xmMove W 5))))
def l2_law_is_tuples {T : Tbl} (W : Wd T) (φ : Sem) : XS W :=
  (xsSeq (xsAsg 4 (xmP (xIx (xIx (xVar W 0) (xVar W 2)) (xVar W 3))))
  (xsIf (xtAnd (xtV (xNotN (xVar W 4))) (xtOr (xtNot (xtTru (xIsi (false, "int") (xVar W 4)))) (xtTru (xIsi (false, "bool") (xVar W 4))))) (xsRet (xmP (xBl W false))) (xsNext W)))
def l1_law_is_tuples {T : Tbl} (W : Wd T) (φ : Sem) : XS W :=
  (xsSeq (xsIf (xtOr (xtNot (xtTru (xIsi (false, "tuple") (xIx (xVar W 0) (xVar W 2))))) (xtV (xNe (xLenU φ (xaCons (xIx (xVar W 0) (xVar W 2)) (xaNil W))) (xLenU φ (xaCons (xIx (xVar W 1) (xVar W 2)) (xaNil W)))))) (xsRet (xmP (xBl W false))) (xsNext W))
  (xsFor (xiR1 (xaCons (xLenU φ (xaCons (xIx (xVar W 1) (xVar W 2)) (xaNil W))) (xaNil W))) (xgN W 3) (l2_law_is_tuples W φ)))
def b_law_is_tuples {T : Tbl} (W : Wd T) (φ : Sem) : XS W :=
  (xsSeq (xsIf (xtOr (xtNot (xtTru (xIsi (false, "list") (xVar W 0)))) (xtV (xNe (xLenU φ (xaCons (xVar W 0) (xaNil W))) (xLenU φ (xaCons (xVar W 1) (xaNil W)))))) (xsRet (xmP (xBl W false))) (xsNext W))
  (xsSeq (xsFor (xiR1 (xaCons (xLenU φ (xaCons (xVar W 1) (xaNil W))) (xaNil W))) (xgN W 2) (l1_law_is_tuples W φ))
  (xsRet (xmP (xEq (xVar W 0) (xVar W 1))))))
def l1_law {T : Tbl} (W : Wd T) (φ : Sem) : XS W :=
  (xsIf (xtAnd (xtV (xNotN (xIx (xVar W 5) (xInt W 0)))) (xtV (xIn true (xIx (xVar W 5) (xInt W 0)) (xVar W 7)))) (xsExpr (xmAppend (plVar W 7) (xIx (xVar W 5) (xInt W 0)))) (xsNext W))
def l2_law {T : Tbl} (W : Wd T) (φ : Sem) : XS W :=
  (xsSeq (xsAsg 10 (xmP (xLc (xiSeqU (xVar W 4)) (xgN W 5) (xtAnd (xtV (xNotN (xIx (xVar W 5) (xInt W 0)))) (xtV (xEq (xIx (xVar W 5) (xInt W 0)) (xVar W 9)))) (xIx (xVar W 5) (xInt W 1)))))
  (xsExpr (xmAppend (plVar W 8) (xTup (xaCons (xVar W 9) (xaCons (xLenU φ (xaCons (xVar W 10) (xaNil W))) (xaCons (xSum (xVar W 10)) (xaNil W))))))))
def b_law {T : Tbl} (W : Wd T) (φ : Sem) : XS W :=
  (xsSeq (xsFrz [0] (xsAsg 1 (xmP (xCall (φ "_law_draws") 3 (xaCons (xVar W 0) (xaCons (xInt W 0) (xaCons (xInt W 5) (xaNil W)))) [] [] (fun _ => .nil)))))
  (xsSeq (xsAsg 2 (xmP (xAdd (xInt W 1) (xMod (xInt1 (xaCons (xIx (xVar W 1) (xInt W 1)) (xaNil W))) (xInt W 12)))))
  (xsSeq (xsAsg 3 (xmP (xIx (xLst (xaCons (xInt W 1) (xaCons (xInt W 1000000007) (xaCons (xNeg (xInt W 1)) (xaNil W))))) (xMod (xInt1 (xaCons (xIx (xVar W 1) (xInt W 2)) (xaNil W))) (xInt W 3)))))
  (xsSeq (xsFrz [0, 2, 3] (xsAsg 4 (xmP (xCall (φ "_law_rows") 5 (xaCons (xVar W 0) (xaCons (xInt W 1) (xaCons (xMod (xInt1 (xaCons (xIx (xVar W 1) (xInt W 0)) (xaNil W))) (xInt W 41)) (xaCons (xVar W 2) (xaCons (xVar W 3) (xaNil W)))))) [] [] (fun _ => .nil)))))
  (xsSeq (xsIf (xtV (xEq (xMod (xInt1 (xaCons (xIx (xVar W 1) (xInt W 3)) (xaNil W))) (xInt W 3)) (xInt W 1))) (xsAsg 4 (xmP (xLc (xiSeqU (xVar W 4)) (xgN W 5) (xtYes W) (xTup (xaCons (xIx (xVar W 5) (xInt W 0)) (xaCons (xMul (xIx (xVar W 5) (xInt W 1)) (xPow (xInt W 10) (xInt W 20))) (xaNil W))))))) (xsNext W))
  (xsSeq (xsAsg 6 (xmP (xAdd (xInt W 1) (xMod (xInt1 (xaCons (xIx (xVar W 1) (xInt W 4)) (xaNil W))) (xInt W 9)))))
  (xsSeq (xsAsg 7 (xmP (xLst (xaNil W))))
  (xsSeq (xsFrz [4] (xsFor (xiSeqU (xVar W 4)) (xgN W 5) (l1_law W φ)))
  (xsSeq (xsAsg 7 (xmP (xSorted (xVar W 7))))
  (xsSeq (xsAsg 8 (xmP (xLst (xaNil W))))
  (xsSeq (xsFrz [7] (xsFor (xiSeqU (xVar W 7)) (xgN W 9) (l2_law W φ)))
  (xsSeq (xsAsg 11 (xmP (xLc (xiSeqU (xVar W 4)) (xgN W 5) (xtV (xIsN (xIx (xVar W 5) (xInt W 0)))) (xIx (xVar W 5) (xInt W 1)))))
  (xsSeq (xsIf (xtV (xGt (xLenU φ (xaCons (xVar W 11) (xaNil W))) (xInt W 0))) (xsExpr (xmAppend (plVar W 8) (xTup (xaCons (xNon W) (xaCons (xLenU φ (xaCons (xVar W 11) (xaNil W))) (xaCons (xSum (xVar W 11)) (xaNil W))))))) (xsNext W))
  (xsSeq (xsAsg 12 (xmP (xMake φ "Table" "Table.__init__" 2 (xaCons (xListU φ (xVar W 4)) (xaNil W)) [] [] (fun _ => .nil))))
  (xsSeq (xsFrz [12] (xsFrz [12] (xsAsg 13 (xmP (xCall (φ "plain_groups") 1 (xaCons (xVar W 12) (xaNil W)) [] [] (fun _ => .nil))))))
  (xsSeq (xsIf (xtNot (xtTru (xCall (φ "_law_is_tuples") 2 (xaCons (xVar W 13) (xaCons (xVar W 8) (xaNil W))) [] [] (fun _ => .nil)))) (xsRet (xmP (xBl W false))) (xsNext W))
  (xsSeq (xsExpr (xmAppend (plVar W 13) (xTup (xaCons (xInt W 0) (xaCons (xInt W 0) (xaCons (xInt W 0) (xaNil W)))))))
  (xsSeq (xsAsg 15 (xmP (xLc (xiR1 (xaCons (xLenU φ (xaCons (xVar W 7) (xaNil W))) (xaNil W))) (xgN W 14) (xtYes W) (xTup (xaCons (xIx (xVar W 7) (xVar W 14)) (xaCons (xDiv (xVar W 14) (xVar W 6)) (xaNil W)))))))
  (xsSeq (xsFrz [12, 6] (xsAsg 16 (xmP (xCall (φ "group_depth_bounds") 2 (xaCons (xVar W 12) (xaCons (xVar W 6) (xaNil W))) [] [] (fun _ => .nil)))))
  (xsSeq (xsIf (xtNot (xtTru (xCall (φ "_law_is_tuples") 2 (xaCons (xVar W 16) (xaCons (xVar W 15) (xaNil W))) [] [] (fun _ => .nil)))) (xsRet (xmP (xBl W false))) (xsNext W))
  (xsSeq (xsExpr (xmReverse (plVar W 16)))
  (xsRet (xmP (xAnd (xCall (φ "_law_is_tuples") 2 (xaCons (xCall (φ "plain_groups") 1 (xaCons (xVar W 12) (xaNil W)) [] [] (fun _ => .nil)) (xaCons (xVar W 8) (xaNil W))) [] [] (fun _ => .nil)) (xEq (xListU φ (xVar W 12)) (xVar W 4))))))))))))))))))))))))))
def itT (c : String) : Option String := if c = "Table" then some "_rows" else none
def TT : Tbl := ⟨fun c f => (fldL c).contains f, fun _ _ => none, subT, resT, itT, xsubT⟩
theorem ik_Table : TT.it "Table" = some "_rows" := by simp [TT, itT]
theorem fk_Table__rows : TT.fOk "Table" "_rows" = true := by simp [TT, fldL]
theorem rs_Table___len__ : TT.res "Table" "__len__" = some "Table.__len__" := by simp [TT, resT]
theorem rs_Table_entries : TT.res "Table" "entries" = some "Table.entries" := by simp [TT, resT]
theorem sb_Table_Table : TT.sub "Table" "Table" = true := by simp [TT, subT]
def tbl {T : Tbl} (W : Wd T) : String -> Option (Sem -> List D -> Option Nat -> Rz)
  | "plain_groups" => some fun φ => runFn 6 (b_plain_groups W φ)
  | "group_depth_bounds" => some fun φ => runFn 6 (b_group_depth_bounds W φ)
  | "is_integer" => some fun φ => runFn 1 (b_is_integer W φ)
  | "is_row" => some fun φ => runFn 1 (b_is_row W φ)
  | "Table.__init__" => some fun φ => runFn 5 (b_Table___init__ W φ)
  | "Table.__len__" => some fun φ => runFn 1 (b_Table___len__ W φ)
  | "Table.entries" => some fun φ => runFn 4 (b_Table_entries W φ)
  | "_law_draws" => some fun φ => runFn 9 (b_law_draws W φ)
  | "_law_rows" => some fun φ => runFn 9 (b_law_rows W φ)
  | "_law_is_tuples" => some fun φ => runFn 5 (b_law_is_tuples W φ)
  | _ => none
theorem sem_plain_groups {T : Tbl} (W : Wd T) (k : Nat) (args : List D) (b : Option Nat) : semT (tbl W) (k + 1) "plain_groups" args b = runFn 6 (b_plain_groups W (semT (tbl W) k)) args b := rfl
theorem sem_group_depth_bounds {T : Tbl} (W : Wd T) (k : Nat) (args : List D) (b : Option Nat) : semT (tbl W) (k + 1) "group_depth_bounds" args b = runFn 6 (b_group_depth_bounds W (semT (tbl W) k)) args b := rfl
theorem sem_is_integer {T : Tbl} (W : Wd T) (k : Nat) (args : List D) (b : Option Nat) : semT (tbl W) (k + 1) "is_integer" args b = runFn 1 (b_is_integer W (semT (tbl W) k)) args b := rfl
theorem sem_is_row {T : Tbl} (W : Wd T) (k : Nat) (args : List D) (b : Option Nat) : semT (tbl W) (k + 1) "is_row" args b = runFn 1 (b_is_row W (semT (tbl W) k)) args b := rfl
theorem sem_Table___init__ {T : Tbl} (W : Wd T) (k : Nat) (args : List D) (b : Option Nat) : semT (tbl W) (k + 1) "Table.__init__" args b = runFn 5 (b_Table___init__ W (semT (tbl W) k)) args b := rfl
theorem sem_Table___len__ {T : Tbl} (W : Wd T) (k : Nat) (args : List D) (b : Option Nat) : semT (tbl W) (k + 1) "Table.__len__" args b = runFn 1 (b_Table___len__ W (semT (tbl W) k)) args b := rfl
theorem sem_Table_entries {T : Tbl} (W : Wd T) (k : Nat) (args : List D) (b : Option Nat) : semT (tbl W) (k + 1) "Table.entries" args b = runFn 4 (b_Table_entries W (semT (tbl W) k)) args b := rfl
theorem sem_law_draws {T : Tbl} (W : Wd T) (k : Nat) (args : List D) (b : Option Nat) : semT (tbl W) (k + 1) "_law_draws" args b = runFn 9 (b_law_draws W (semT (tbl W) k)) args b := rfl
theorem sem_law_rows {T : Tbl} (W : Wd T) (k : Nat) (args : List D) (b : Option Nat) : semT (tbl W) (k + 1) "_law_rows" args b = runFn 9 (b_law_rows W (semT (tbl W) k)) args b := rfl
theorem sem_law_is_tuples {T : Tbl} (W : Wd T) (k : Nat) (args : List D) (b : Option Nat) : semT (tbl W) (k + 1) "_law_is_tuples" args b = runFn 5 (b_law_is_tuples W (semT (tbl W) k)) args b := rfl
end Py
namespace Py
open PySem L2
local macro_rules | `(tactic| dsimp? only [$xs,*]) => `(tactic| dsimp only [$xs,*, xLnew, xLix, xLget2, xLin, xsLput, xiLf, xSortSc, xsSeq, xsNext, xsNever, xsAsg, xsExpr, xsRet, xsIf, xsFrz, xsFor, xmP, xmVar, xmMove, xmBM, xmBM0, xmAppend, xmReverse, plVar, xoNil, xoCons, xVar, xC, xInt, xBl, xNon, xOp, xSub, xMul, xDiv, xMod, xPow, xNeg, xAdd, xEq, xNe, xLt, xCmp, xGt, xGe, xIsN, xNotN, xAnd, xNot, xtV, xtTru, xtAnd, xtOr, xtNot, xtYes, xaNil, xaCons, xTup, xLst, xCb, xInt1, xAbs, xIx, xFld, xList, xIsi, xIsiT, xCall, xgN, xgsNil, xgsCons, xgT, xiSeq, xiR1, xLc, xSorted, xMeth, xMake, xLenU, xsFld, xListU, xiSeqU, xiEnumU, tCls, xSum, xIn, xiSeq, xVar, List.map_cons, List.map_nil])
abbrev N_plain_groups : List Str := ["table", "sums", "key", "worth", "before", "keys"]
abbrev A_plain_groups : List Str := ["table"]
theorem sc_plain_groups : FnScope N_plain_groups A_plain_groups (defScope s_plain_groups) := ⟨rfl, rfl, rfl, by decide +kernel, rfl, by decide +kernel, by decide +kernel⟩
theorem bp_plain_groups : BindsP "plain_groups" "plain_groups" s_plain_groups A_plain_groups := fun _ _ _ _ _ _ us hl => match us, hl with | [_], _ => rfl
abbrev N_group_depth_bounds : List Str := ["table", "room", "key", "_", "keys", "rank"]
abbrev A_group_depth_bounds : List Str := ["table", "room"]
theorem sc_group_depth_bounds : FnScope N_group_depth_bounds A_group_depth_bounds (defScope s_group_depth_bounds) := ⟨rfl, rfl, rfl, by decide +kernel, rfl, by decide +kernel, by decide +kernel⟩
theorem bp_group_depth_bounds : BindsP "group_depth_bounds" "group_depth_bounds" s_group_depth_bounds A_group_depth_bounds := fun _ _ _ _ _ _ us hl => match us, hl with | [_, _], _ => rfl
abbrev N_is_integer : List Str := ["thing"]
abbrev A_is_integer : List Str := ["thing"]
theorem sc_is_integer : FnScope N_is_integer A_is_integer (defScope s_is_integer) := ⟨rfl, rfl, rfl, by decide +kernel, rfl, by decide +kernel, by decide +kernel⟩
theorem bp_is_integer : BindsP "is_integer" "is_integer" s_is_integer A_is_integer := fun _ _ _ _ _ _ us hl => match us, hl with | [_], _ => rfl
abbrev N_is_row : List Str := ["thing"]
abbrev A_is_row : List Str := ["thing"]
theorem sc_is_row : FnScope N_is_row A_is_row (defScope s_is_row) := ⟨rfl, rfl, rfl, by decide +kernel, rfl, by decide +kernel, by decide +kernel⟩
theorem bp_is_row : BindsP "is_row" "is_row" s_is_row A_is_row := fun _ _ _ _ _ _ us hl => match us, hl with | [_], _ => rfl
abbrev N_law_draws : List Str := ["_law_script", "_law_at", "_law_many", "_law_number", "_law_big", "_law_found", "_law_k", "_law_draw", "_law_mixed"]
abbrev A_law_draws : List Str := ["_law_script", "_law_at", "_law_many"]
theorem sc_law_draws : FnScope N_law_draws A_law_draws (defScope s_law_draws) := ⟨rfl, rfl, rfl, by decide +kernel, rfl, by decide +kernel, by decide +kernel⟩
theorem bp_law_draws : BindsP "_law_draws" "_law_draws" s_law_draws A_law_draws := fun _ _ _ _ _ _ us hl => match us, hl with | [_, _, _], _ => rfl
abbrev N_law_rows : List Str := ["_law_script", "_law_first", "_law_many", "_law_spread", "_law_step", "_law_rows_here", "_law_k", "_law_draws_here", "_law_key"]
abbrev A_law_rows : List Str := ["_law_script", "_law_first", "_law_many", "_law_spread", "_law_step"]
theorem sc_law_rows : FnScope N_law_rows A_law_rows (defScope s_law_rows) := ⟨rfl, rfl, rfl, by decide +kernel, rfl, by decide +kernel, by decide +kernel⟩
theorem bp_law_rows : BindsP "_law_rows" "_law_rows" s_law_rows A_law_rows := fun _ _ _ _ _ _ us hl => match us, hl with | [_, _, _, _, _], _ => rfl
abbrev N_law_is_tuples : List Str := ["_law_told", "_law_due", "_law_k", "_law_place", "_law_number"]
abbrev A_law_is_tuples : List Str := ["_law_told", "_law_due"]
theorem sc_law_is_tuples : FnScope N_law_is_tuples A_law_is_tuples (defScope s_law_is_tuples) := ⟨rfl, rfl, rfl, by decide +kernel, rfl, by decide +kernel, by decide +kernel⟩
theorem bp_law_is_tuples : BindsP "_law_is_tuples" "_law_is_tuples" s_law_is_tuples A_law_is_tuples := fun _ _ _ _ _ _ us hl => match us, hl with | [_, _], _ => rfl
abbrev N_Table___init__ : List Str := ["self", "rows", "found", "number", "row"]
abbrev A_Table___init__ : List Str := ["self", "rows"]
theorem sc_Table___init__ : FnScope N_Table___init__ A_Table___init__ (defScope s_Table___init__) := ⟨rfl, rfl, rfl, by decide +kernel, rfl, by decide +kernel, by decide +kernel⟩
theorem bp_Table___init__ : BindsP "__init__" "Table.__init__" s_Table___init__ A_Table___init__ := fun _ _ _ _ _ _ us hl => match us, hl with | [_, _], _ => rfl
abbrev N_Table___len__ : List Str := ["self"]
abbrev A_Table___len__ : List Str := ["self"]
theorem sc_Table___len__ : FnScope N_Table___len__ A_Table___len__ (defScope s_Table___len__) := ⟨rfl, rfl, rfl, by decide +kernel, rfl, by decide +kernel, by decide +kernel⟩
theorem bp_Table___len__ : BindsP "__len__" "Table.__len__" s_Table___len__ A_Table___len__ := fun _ _ _ _ _ _ us hl => match us, hl with | [_], _ => rfl
abbrev N_Table_entries : List Str := ["self", "found", "number", "row"]
abbrev A_Table_entries : List Str := ["self"]
theorem sc_Table_entries : FnScope N_Table_entries A_Table_entries (defScope s_Table_entries) := ⟨rfl, rfl, rfl, by decide +kernel, rfl, by decide +kernel, by decide +kernel⟩
theorem bp_Table_entries : BindsP "entries" "Table.entries" s_Table_entries A_Table_entries := fun _ _ _ _ _ _ us hl => match us, hl with | [_], _ => rfl
abbrev N_Table___iter__ : List Str := ["self"]
abbrev A_Table___iter__ : List Str := ["self"]
theorem sc_Table___iter__ : FnScope N_Table___iter__ A_Table___iter__ (defScope s_Table___iter__) := ⟨rfl, rfl, rfl, by decide +kernel, rfl, by decide +kernel, by decide +kernel⟩
theorem bp_Table___iter__ : BindsP "__iter__" "Table.__iter__" s_Table___iter__ A_Table___iter__ := fun _ _ _ _ _ _ us hl => match us, hl with | [_], _ => rfl
abbrev N_law : List Str := ["_law_script", "_law_shape", "_law_spread", "_law_step", "_law_rows_here", "_law_row", "_law_room", "_law_keys", "_law_due", "_law_key", "_law_worths", "_law_lone", "_law_table", "_law_told", "_law_k", "_law_bounds", "_law_depths"]
abbrev A_law : List Str := ["_law_script"]
theorem sc_law : FnScope N_law A_law (defScope s_law) := ⟨rfl, rfl, rfl, by decide +kernel, rfl, by decide +kernel, by decide +kernel⟩
theorem bp_law : BindsP "law" "law" s_law A_law := fun _ _ _ _ _ _ us hl => match us, hl with | [_], _ => rfl
section
variable {W : Wd TT} {mg : Str -> Option Value} {base : Heap}
structure Cs (W : Wd TT) (mg : Str -> Option Value) : Prop where
  hasL : ∀ c, W.has c -> c ∈ clsL
  dun : Dun W
  has_Table : W.has "Table"
  g_Table : mg "Table" = some (.ref (W.cA "Table"))
  a_Table___init__ : MethAt W.K (W.cA "Table") "__init__" "__init__" "Table.__init__" s_Table___init__ [] []
  a_Table___len__ : MethAt W.K (W.cA "Table") "__len__" "__len__" "Table.__len__" s_Table___len__ [] []
  a_Table___iter__ : MethAt W.K (W.cA "Table") "__iter__" "__iter__" "Table.__iter__" s_Table___iter__ [] []
  a_Table_entries : MethAt W.K (W.cA "Table") "entries" "entries" "Table.entries" s_Table_entries [] []
  k_Table : ∃ f, Mk W.K (W.cA "Table") f
structure Ds (W : Wd TT) (mg : Str -> Option Value) (base : Heap) (φ : Sem) (k : Nat) : Prop where
  its : Its W.P W.w W.K mg base W
  d_plain_groups : ∀ b, (∀ i, b = some i -> i < 1) -> Df W.P W.w W.K mg base (L2.CX W.P W.w) k "plain_groups" A_plain_groups (spR W 1 (φ "plain_groups") b)
  d_group_depth_bounds : ∀ b, (∀ i, b = some i -> i < 2) -> Df W.P W.w W.K mg base (L2.CX W.P W.w) k "group_depth_bounds" A_group_depth_bounds (spR W 2 (φ "group_depth_bounds") b)
  d_is_integer : ∀ b, (∀ i, b = some i -> i < 1) -> Df W.P W.w W.K mg base (L2.CX W.P W.w) k "is_integer" A_is_integer (spR W 1 (φ "is_integer") b)
  d_is_row : ∀ b, (∀ i, b = some i -> i < 1) -> Df W.P W.w W.K mg base (L2.CX W.P W.w) k "is_row" A_is_row (spR W 1 (φ "is_row") b)
  d_law_draws : ∀ b, (∀ i, b = some i -> i < 3) -> Df W.P W.w W.K mg base (L2.CX W.P W.w) k "_law_draws" A_law_draws (spR W 3 (φ "_law_draws") b)
  d_law_rows : ∀ b, (∀ i, b = some i -> i < 5) -> Df W.P W.w W.K mg base (L2.CX W.P W.w) k "_law_rows" A_law_rows (spR W 5 (φ "_law_rows") b)
  d_law_is_tuples : ∀ b, (∀ i, b = some i -> i < 2) -> Df W.P W.w W.K mg base (L2.CX W.P W.w) k "_law_is_tuples" A_law_is_tuples (spR W 2 (φ "_law_is_tuples") b)
  m___len__ : ∀ b, (∀ i, b = some i -> i < 1) -> Mt W.P W.w W.K mg base W k "__len__" 1 φ b
  m_entries : ∀ b, (∀ i, b = some i -> i < 1) -> Mt W.P W.w W.K mg base W k "entries" 1 φ b
  mk_Table : MkAt W.P W.w W.K mg base k "Table" (W.cA "Table") 2 (spR W 2 (φ "Table.__init__") (some 0))
theorem it_all (C : Cs W mg) (B : Blt mg) : Its W.P W.w W.K mg base W := by
  refine ⟨fun c f hc hf => ?_⟩
  have hm := C.hasL c hc
  simp only [clsL, List.mem_cons, List.not_mem_nil, or_false] at hm
  rcases hm with rfl
  · rw [ik_Table] at hf; cases hf
    exact it_of C.a_Table___iter__.ex sc_Table___iter__ bp_Table___iter__ rfl (by decide) (W.cl _ hc) (W.na _ _ hc fk_Table__rows) fun g cdv A out s H => pss_one (ps_ret (pe_callB ItX.call_iterN (by rfl) B.iter (by decide +kernel) (pa_cons (pe_fld (pv 0) rfl) pa_nil)))
theorem ok_plain_groups {φ : Sem} {k : Nat} (D : Ds W mg base φ k) (C : Cs W mg) (D' : DefAt W.K mg "plain_groups" "plain_groups" s_plain_groups [] []) (B : Blt mg) : ∀ b, (∀ i, b = some i -> i < 1) -> Df W.P W.w W.K mg base (L2.CX W.P W.w) (k + 4) "plain_groups" A_plain_groups (spR W 1 (runFn 6 (b_plain_groups W φ)) b) := by
  intro b hb
  refine df_of D' sc_plain_groups bp_plain_groups spR_len fun f cdv A outer s H vs Q E hr hsp => ⟨(b_plain_groups W φ).t (fun c d _ H => E c d H), ?_, fn_run (N := N_plain_groups) hb hsp⟩
  dsimp? only [b_plain_groups, l1_plain_groups]
  exact (pss_cons (ps_set (i := 1) sc_plain_groups.nd rfl (Or.inr rfl) pe_lnew)
      (pss_cons (ps_for cx_po rfl (pi_or (pi_seqU (pv 0)) (pi_own D.its (hr.mono (by omega)) rfl (pv 0))) (pg_tup rfl (pgs_cons (pg_name (i := 2) sc_plain_groups.nd rfl (Or.inl rfl)) (pgs_cons (pg_name (i := 3) sc_plain_groups.nd rfl (Or.inl rfl)) pgs_nil))) (pss_cons (ps_set (i := 4) sc_plain_groups.nd rfl (Or.inl rfl) (pe_blf PySem.F.plainAttrs_dict PySem.F.slot_dict_get PySem.F.type_dict_get mt_lget2 (pv 1) (pa_cons (pv 2) (pa_cons (pe_tup (pa_cons pe_int (pa_cons pe_int pa_nil))) pa_nil))))
      (pss_one (ps_asg (pe_tup (pa_cons (pe_op opAdd (pe_ix ixU (pv 4) pe_int (fun _ _ => rfl)) pe_int) (pa_cons (pe_op opAdd (pe_ix ixU (pv 4) pe_int (fun _ _ => rfl)) (pv 3)) pa_nil))) (pg_sub (pv 1) (pv 2) set_ld)))))
      (pss_cons (ps_set (i := 5) sc_plain_groups.nd rfl (Or.inl rfl) (pe_callB (cr_sortedD hr.units) (by rfl) B.sorted (by decide +kernel) (pa_cons (pe_lc (own := [("key", 2)]) rfl sc_plain_groups.nd (pi_lf (pv 1)) (blkOk_by (own := [("key", 2)]) (N := N_plain_groups) (sc := defScope s_plain_groups) (by decide +kernel)) (fun _ _ _ _ _ => (pg_name (i := 2) sc_plain_groups.nd rfl (Or.inl rfl))) (fun _ _ _ _ _ => (pts_one (pt_cmpR op_notN (pv 2) pe_non (nomark _)))) (fun _ _ _ _ _ => (pv 2))) pa_nil)))
      (pss_cons (ps_if (pt_cmpR op_lin pe_non (pv 1) (by first | exact nomark _ | rfl)) (pss_one (ps_expr (pe_bm PySem.F.plainAttrs_list PySem.F.slot_list_append PySem.F.type_list_append mt_append (pv 5) (pa_cons pe_non pa_nil)))) pss_nil)
      (pss_one (ps_ret (pe_lc (own := [("key", 2)]) rfl sc_plain_groups.nd (pi_or (pi_seqU (pv 5)) (pi_own D.its (hr.mono (by omega)) rfl (pv 5))) (blkOk_by (own := [("key", 2)]) (N := N_plain_groups) (sc := defScope s_plain_groups) (by decide +kernel)) (fun _ _ _ _ _ => (pg_name (i := 2) sc_plain_groups.nd rfl (Or.inl rfl))) (fun _ _ _ _ _ => pts_nil) (fun _ _ _ _ _ => (pe_tup (pa_cons (pv 2) (pa_cons (pe_ix ixU (pe_lget (pv 1) (pv 2) (fun _ _ => rfl)) pe_int (fun _ _ => rfl)) (pa_cons (pe_ix ixU (pe_lget (pv 1) (pv 2) (fun _ _ => rfl)) pe_int (fun _ _ => rfl)) pa_nil))))))))))))
theorem ok_group_depth_bounds {φ : Sem} {k : Nat} (D : Ds W mg base φ k) (C : Cs W mg) (D' : DefAt W.K mg "group_depth_bounds" "group_depth_bounds" s_group_depth_bounds [] []) (B : Blt mg) : ∀ b, (∀ i, b = some i -> i < 2) -> Df W.P W.w W.K mg base (L2.CX W.P W.w) (k + 4) "group_depth_bounds" A_group_depth_bounds (spR W 2 (runFn 6 (b_group_depth_bounds W φ)) b) := by
  intro b hb
  refine df_of D' sc_group_depth_bounds bp_group_depth_bounds spR_len fun f cdv A outer s H vs Q E hr hsp => ⟨(b_group_depth_bounds W φ).t (fun c d _ H => E c d H), ?_, fn_run (N := N_group_depth_bounds) hb hsp⟩
  dsimp? only [b_group_depth_bounds]
  exact (pss_cons (ps_set (i := 4) sc_group_depth_bounds.nd rfl (Or.inl rfl) (pe_callB (cr_sortedSet rfl) (by rfl) B.sorted (by decide +kernel) (pa_cons (pe_sc (own := [("key", 2), ("_", 3)]) rfl sc_group_depth_bounds.nd (pi_or (pi_seqU (px_meth0 (D.m_entries none (by nofun)) (ro0 hr) rfl (pv 0))) (pi_own D.its (hr.mono (by omega)) rfl (px_meth0 (D.m_entries none (by nofun)) (ro0 hr) rfl (pv 0)))) (blkOk_by (own := [("key", 2), ("_", 3)]) (N := N_group_depth_bounds) (sc := defScope s_group_depth_bounds) (by decide +kernel)) (fun _ _ _ _ _ => (pg_tup rfl (pgs_cons (pg_name (i := 2) sc_group_depth_bounds.nd rfl (Or.inl rfl)) (pgs_cons (pg_name (i := 3) sc_group_depth_bounds.nd rfl (Or.inl rfl)) pgs_nil)))) (fun _ _ _ _ _ => (pv 2))) pa_nil)))
      (pss_one (ps_ret (pe_lc (own := [("rank", 5), ("key", 2)]) rfl sc_group_depth_bounds.nd (pi_or (pi_enum (by rfl) B.enumerate (pa_cons (pv 4) pa_nil)) (pi_enumOwn D.its (hr.mono (by omega)) rfl (by rfl) B.enumerate (pa_cons (pv 4) pa_nil))) (blkOk_by (own := [("rank", 5), ("key", 2)]) (N := N_group_depth_bounds) (sc := defScope s_group_depth_bounds) (by decide +kernel)) (fun _ _ _ _ _ => (pg_tup rfl (pgs_cons (pg_name (i := 5) sc_group_depth_bounds.nd rfl (Or.inl rfl)) (pgs_cons (pg_name (i := 2) sc_group_depth_bounds.nd rfl (Or.inl rfl)) pgs_nil)))) (fun _ _ _ _ _ => pts_nil) (fun _ _ _ _ _ => (pe_tup (pa_cons (pv 2) (pa_cons (pe_op opDiv (pv 5) (pv 1)) pa_nil))))))))
theorem ok_is_integer {φ : Sem} {k : Nat} (D : Ds W mg base φ k) (C : Cs W mg) (D' : DefAt W.K mg "is_integer" "is_integer" s_is_integer [] []) (B : Blt mg) : ∀ b, (∀ i, b = some i -> i < 1) -> Df W.P W.w W.K mg base (L2.CX W.P W.w) (k + 4) "is_integer" A_is_integer (spR W 1 (runFn 1 (b_is_integer W φ)) b) := by
  intro b hb
  refine df_of D' sc_is_integer bp_is_integer spR_len fun f cdv A outer s H vs Q E hr hsp => ⟨(b_is_integer W φ).t (fun c d _ H => E c d H), ?_, fn_run (N := N_is_integer) hb hsp⟩
  dsimp? only [b_is_integer]
  exact (pss_one (ps_ret (pe_and (px_isi (n := "int") B.isinstance B.int (pv 0)) (pe_one (pe_not (px_isi (n := "bool") B.isinstance B.bool (pv 0)))))))
theorem ok_is_row {φ : Sem} {k : Nat} (D : Ds W mg base φ k) (C : Cs W mg) (D' : DefAt W.K mg "is_row" "is_row" s_is_row [] []) (B : Blt mg) : ∀ b, (∀ i, b = some i -> i < 1) -> Df W.P W.w W.K mg base (L2.CX W.P W.w) (k + 4) "is_row" A_is_row (spR W 1 (runFn 1 (b_is_row W φ)) b) := by
  intro b hb
  refine df_of D' sc_is_row bp_is_row spR_len fun f cdv A outer s H vs Q E hr hsp => ⟨(b_is_row W φ).t (fun c d _ H => E c d H), ?_, fn_run (N := N_is_row) hb hsp⟩
  dsimp? only [b_is_row]
  exact (pss_cons (ps_if (PW.pt (pw_or (pt_not (pt_truU (px_isiT (cs := [(false, "list"), (false, "tuple")]) B.isinstance (by decide) (by decide) (pv 0) (pa_cons (px_ty (n := "list") B.list) (pa_cons (px_ty (n := "tuple") B.tuple) pa_nil))))) (pw_or1 (pt_cmpR (opNe hr.units) (pe_callB (CallR.or call_lenA (call_lenI (D.m___len__ none (by nofun)) (ro1 hr) rfl)) (by rfl) B.len (by decide +kernel) (pa_cons (pv 0) pa_nil)) pe_int (nomark _))))) (pss_one (ps_ret pe_bl)) pss_nil)
      (pss_cons (ps_if (PW.pt (pw_and (pt_cmpR op_notN (pe_ix ixU (pv 0) pe_int (fun _ _ => rfl)) pe_non (nomark _)) (pw_and1 (pt_not (pt_truU (px_call (D.d_is_integer none (by nofun)) (ro0 hr) rfl (pa_cons (pe_ix ixU (pv 0) pe_int (fun _ _ => rfl)) pa_nil))))))) (pss_one (ps_ret pe_bl)) pss_nil)
      (pss_one (ps_ret (px_call (D.d_is_integer none (by nofun)) (ro0 hr) rfl (pa_cons (pe_ix ixU (pv 0) pe_int (fun _ _ => rfl)) pa_nil))))))
theorem ok_law_draws {φ : Sem} {k : Nat} (D : Ds W mg base φ k) (C : Cs W mg) (D' : DefAt W.K mg "_law_draws" "_law_draws" s_law_draws [] []) (B : Blt mg) : ∀ b, (∀ i, b = some i -> i < 3) -> Df W.P W.w W.K mg base (L2.CX W.P W.w) (k + 4) "_law_draws" A_law_draws (spR W 3 (runFn 9 (b_law_draws W φ)) b) := by
  intro b hb
  refine df_of D' sc_law_draws bp_law_draws spR_len fun f cdv A outer s H vs Q E hr hsp => ⟨(b_law_draws W φ).t (fun c d _ H => E c d H), ?_, fn_run (N := N_law_draws) hb hsp⟩
  dsimp? only [b_law_draws, l1_law_draws]
  exact (pss_cons (ps_set (i := 3) sc_law_draws.nd rfl (Or.inl rfl) pe_int)
      (pss_cons (ps_if (pt_cmpR (opLt hr.units0) (pv 1) (pe_callB (CallR.or call_lenA (call_lenI (D.m___len__ none (by nofun)) (ro1 hr) rfl)) (by rfl) B.len (by decide +kernel) (pa_cons (pv 0) pa_nil)) (nomark _)) (pss_one (ps_set (i := 3) sc_law_draws.nd rfl (Or.inl rfl) (pe_callB call_absU (by rfl) B.abs (by decide +kernel) (pa_cons (pe_ix ixU (pv 0) (pv 1) (fun _ _ => rfl)) pa_nil)))) pss_nil)
      (pss_cons (ps_set (i := 4) sc_law_draws.nd rfl (Or.inl rfl) (pe_cmpR op_ge (pv 3) (pe_op op_pow pe_int pe_int) (nomark _)))
      (pss_cons (ps_set (i := 5) sc_law_draws.nd rfl (Or.inl rfl) (pe_lst pa_nil))
      (pss_cons (ps_for cx_po rfl (pi_range1 rfl B.range (pa_cons (pv 2) pa_nil)) (pg_name (i := 6) sc_law_draws.nd rfl (Or.inl rfl)) (pss_cons (ps_set (i := 7) sc_law_draws.nd rfl (Or.inl rfl) pe_int)
      (pss_cons (ps_if (pt_truU (pv 4)) (pss_cons (ps_set (i := 7) sc_law_draws.nd rfl (Or.inl rfl) (pe_op op_mod (pe_callTy call_intU (by rfl) B.int (by decide +kernel) (pa_cons (pv 3) pa_nil)) pe_int))
      (pss_one (ps_set (i := 3) sc_law_draws.nd rfl (Or.inl rfl) (pe_op opDiv (pv 3) pe_int)))) (pss_one (ps_if (pt_cmpR op_gt (pv 3) pe_int (nomark _)) (pss_cons (ps_set (i := 8) sc_law_draws.nd rfl (Or.inl rfl) (pe_op op_mod (pe_callTy call_intU (by rfl) B.int (by decide +kernel) (pa_cons (pe_op opAdd (pe_op opMul (pv 3) (pe_op opAdd pe_int (pe_op opMul pe_int (pv 6)))) (pe_op opMul pe_int (pv 6))) pa_nil)) pe_int))
      (pss_cons (ps_set (i := 8) sc_law_draws.nd rfl (Or.inl rfl) (pe_op op_mod (pe_callTy call_intU (by rfl) B.int (by decide +kernel) (pa_cons (pe_op opAdd (pe_op opAdd (pe_op opMul (pv 8) (pv 8)) (pe_op opMul pe_int (pv 6))) pe_int) pa_nil)) pe_int))
      (pss_one (ps_set (i := 7) sc_law_draws.nd rfl (Or.inl rfl) (pe_op op_mod (pe_callTy call_intU (by rfl) B.int (by decide +kernel) (pa_cons (pv 8) pa_nil)) pe_int))))) pss_nil)))
      (pss_one (ps_expr (pe_bm PySem.F.plainAttrs_list PySem.F.slot_list_append PySem.F.type_list_append mt_append (pv 5) (pa_cons (pv 7) pa_nil)))))))
      (pss_one (ps_ret (pv 5))))))))
theorem ok_law_rows {φ : Sem} {k : Nat} (D : Ds W mg base φ k) (C : Cs W mg) (D' : DefAt W.K mg "_law_rows" "_law_rows" s_law_rows [] []) (B : Blt mg) : ∀ b, (∀ i, b = some i -> i < 5) -> Df W.P W.w W.K mg base (L2.CX W.P W.w) (k + 4) "_law_rows" A_law_rows (spR W 5 (runFn 9 (b_law_rows W φ)) b) := by
  intro b hb
  refine df_of D' sc_law_rows bp_law_rows spR_len fun f cdv A outer s H vs Q E hr hsp => ⟨(b_law_rows W φ).t (fun c d _ H => E c d H), ?_, fn_run (N := N_law_rows) hb hsp⟩
  dsimp? only [b_law_rows, l1_law_rows]
  exact (pss_cons (ps_set (i := 5) sc_law_rows.nd rfl (Or.inl rfl) (pe_lst pa_nil))
      (pss_cons (ps_for cx_po rfl (pi_range1 rfl B.range (pa_cons (pv 2) pa_nil)) (pg_name (i := 6) sc_law_rows.nd rfl (Or.inl rfl)) (pss_cons (ps_set (i := 7) sc_law_rows.nd rfl (Or.inl rfl) (px_call (D.d_law_draws none (by nofun)) (ro0 hr) rfl (pa_cons (pv 0) (pa_cons (pe_op opAdd (pv 1) (pv 6)) (pa_cons pe_int pa_nil)))))
      (pss_cons (ps_set (i := 8) sc_law_rows.nd rfl (Or.inl rfl) (pe_op opMul (pe_op op_sub (pe_op op_mod (pe_callTy call_intU (by rfl) B.int (by decide +kernel) (pa_cons (pe_ix ixU (pv 7) pe_int (fun _ _ => rfl)) pa_nil)) (pv 3)) (pe_op opDiv (pv 3) pe_int)) (pv 4)))
      (pss_cons (ps_if (pt_cmpR (opEq hr.units) (pe_op op_mod (pe_callTy call_intU (by rfl) B.int (by decide +kernel) (pa_cons (pe_ix ixU (pv 7) pe_int (fun _ _ => rfl)) pa_nil)) pe_int) pe_int (nomark _)) (pss_one (ps_set (i := 8) sc_law_rows.nd rfl (Or.inl rfl) pe_non)) pss_nil)
      (pss_one (ps_expr (pe_bm PySem.F.plainAttrs_list PySem.F.slot_list_append PySem.F.type_list_append mt_append (pv 5) (pa_cons (pe_tup (pa_cons (pv 8) (pa_cons (pe_op op_sub (pe_ix ixU (pv 7) pe_int (fun _ _ => rfl)) pe_int) pa_nil))) pa_nil))))))))
      (pss_one (ps_ret (pv 5)))))
theorem ok_law_is_tuples {φ : Sem} {k : Nat} (D : Ds W mg base φ k) (C : Cs W mg) (D' : DefAt W.K mg "_law_is_tuples" "_law_is_tuples" s_law_is_tuples [] []) (B : Blt mg) : ∀ b, (∀ i, b = some i -> i < 2) -> Df W.P W.w W.K mg base (L2.CX W.P W.w) (k + 4) "_law_is_tuples" A_law_is_tuples (spR W 2 (runFn 5 (b_law_is_tuples W φ)) b) := by
  intro b hb
  refine df_of D' sc_law_is_tuples bp_law_is_tuples spR_len fun f cdv A outer s H vs Q E hr hsp => ⟨(b_law_is_tuples W φ).t (fun c d _ H => E c d H), ?_, fn_run (N := N_law_is_tuples) hb hsp⟩
  dsimp? only [b_law_is_tuples, l1_law_is_tuples, l2_law_is_tuples]
  exact (pss_cons (ps_if (PW.pt (pw_or (pt_not (pt_truU (px_isi (n := "list") B.isinstance B.list (pv 0)))) (pw_or1 (pt_cmpR (opNe hr.units) (pe_callB (CallR.or call_lenA (call_lenI (D.m___len__ none (by nofun)) (ro1 hr) rfl)) (by rfl) B.len (by decide +kernel) (pa_cons (pv 0) pa_nil)) (pe_callB (CallR.or call_lenA (call_lenI (D.m___len__ none (by nofun)) (ro1 hr) rfl)) (by rfl) B.len (by decide +kernel) (pa_cons (pv 1) pa_nil)) (nomark _))))) (pss_one (ps_ret pe_bl)) pss_nil)
      (pss_cons (ps_for cx_po rfl (pi_range1 rfl B.range (pa_cons (pe_callB (CallR.or call_lenA (call_lenI (D.m___len__ none (by nofun)) (ro1 hr) rfl)) (by rfl) B.len (by decide +kernel) (pa_cons (pv 1) pa_nil)) pa_nil)) (pg_name (i := 2) sc_law_is_tuples.nd rfl (Or.inl rfl)) (pss_cons (ps_if (PW.pt (pw_or (pt_not (pt_truU (px_isi (n := "tuple") B.isinstance B.tuple (pe_ix ixU (pv 0) (pv 2) (fun _ _ => rfl))))) (pw_or1 (pt_cmpR (opNe hr.units) (pe_callB (CallR.or call_lenA (call_lenI (D.m___len__ none (by nofun)) (ro1 hr) rfl)) (by rfl) B.len (by decide +kernel) (pa_cons (pe_ix ixU (pv 0) (pv 2) (fun _ _ => rfl)) pa_nil)) (pe_callB (CallR.or call_lenA (call_lenI (D.m___len__ none (by nofun)) (ro1 hr) rfl)) (by rfl) B.len (by decide +kernel) (pa_cons (pe_ix ixU (pv 1) (pv 2) (fun _ _ => rfl)) pa_nil)) (nomark _))))) (pss_one (ps_ret pe_bl)) pss_nil)
      (pss_one (ps_for cx_po rfl (pi_range1 rfl B.range (pa_cons (pe_callB (CallR.or call_lenA (call_lenI (D.m___len__ none (by nofun)) (ro1 hr) rfl)) (by rfl) B.len (by decide +kernel) (pa_cons (pe_ix ixU (pv 1) (pv 2) (fun _ _ => rfl)) pa_nil)) pa_nil)) (pg_name (i := 3) sc_law_is_tuples.nd rfl (Or.inl rfl)) (pss_cons (ps_set (i := 4) sc_law_is_tuples.nd rfl (Or.inl rfl) (pe_ix ixU (pe_ix ixU (pv 0) (pv 2) (fun _ _ => rfl)) (pv 3) (fun _ _ => rfl)))
      (pss_one (ps_if (PW.pt (pw_and (pt_cmpR op_notN (pv 4) pe_non (nomark _)) (pw_and1 (PW.pt (pw_or (pt_not (pt_truU (px_isi (n := "int") B.isinstance B.int (pv 4)))) (pw_or1 (pt_truU (px_isi (n := "bool") B.isinstance B.bool (pv 4))))))))) (pss_one (ps_ret pe_bl)) pss_nil)))))))
      (pss_one (ps_ret (pe_cmpR (opEq hr.units) (pv 0) (pv 1) (nomark _))))))
theorem ok_Table___init__ {φ : Sem} {k : Nat} (D : Ds W mg base φ k) (C : Cs W mg) {C0 : Addr} (D' : MethAt W.K C0 "__init__" "__init__" "Table.__init__" s_Table___init__ [] []) (B : Blt mg) : ∀ b, (∀ i, b = some i -> i < 2) -> MdOk W.P W.w W.K mg base (k + 4) C0 "__init__" 2 (spR W 2 (runFn 5 (b_Table___init__ W φ)) b) := by
  intro b hb
  refine md_of D' sc_Table___init__ bp_Table___init__ rfl spR_len fun f cdv A outer s H vs Q E hr hsp => ⟨(b_Table___init__ W φ).t (fun c d _ H => E c d H), ?_, fn_run (N := N_Table___init__) hb hsp⟩
  dsimp? only [b_Table___init__, l1_Table___init__]
  exact (pss_cons (ps_set (i := 2) sc_Table___init__.nd rfl (Or.inl rfl) (pe_lst pa_nil))
      (pss_cons (ps_for cx_po rfl (pi_or (pi_enum (by rfl) B.enumerate (pa_cons (pv 1) pa_nil)) (pi_enumOwn D.its (hr.mono (by omega)) rfl (by rfl) B.enumerate (pa_cons (pv 1) pa_nil))) (pg_tup rfl (pgs_cons (pg_name (i := 3) sc_Table___init__.nd rfl (Or.inl rfl)) (pgs_cons (pg_name (i := 4) sc_Table___init__.nd rfl (Or.inl rfl)) pgs_nil))) (pss_cons (ps_if (pt_not (pt_truU (px_call (D.d_is_row none (by nofun)) (ro0 hr) rfl (pa_cons (pv 4) pa_nil)))) (pss_one ps_never) pss_nil)
      (pss_one (ps_expr (pe_bm PySem.F.plainAttrs_list PySem.F.slot_list_append PySem.F.type_list_append mt_append (pv 2) (pa_cons (pe_tup (pa_cons (pe_ix ixU (pv 4) pe_int (fun _ _ => rfl)) (pa_cons (pe_ix ixU (pv 4) pe_int (fun _ _ => rfl)) pa_nil))) pa_nil))))))
      (pss_one (ps_fld (pv 0) (pv 2) rfl))))
theorem ok_Table___len__ {φ : Sem} {k : Nat} (D : Ds W mg base φ k) (C : Cs W mg) {C0 : Addr} (D' : MethAt W.K C0 "__len__" "__len__" "Table.__len__" s_Table___len__ [] []) (B : Blt mg) : ∀ b, (∀ i, b = some i -> i < 1) -> MdOk W.P W.w W.K mg base (k + 4) C0 "__len__" 1 (spR W 1 (runFn 1 (b_Table___len__ W φ)) b) := by
  intro b hb
  refine md_of D' sc_Table___len__ bp_Table___len__ rfl spR_len fun f cdv A outer s H vs Q E hr hsp => ⟨(b_Table___len__ W φ).t (fun c d _ H => E c d H), ?_, fn_run (N := N_Table___len__) hb hsp⟩
  dsimp? only [b_Table___len__]
  exact (pss_one (ps_ret (pe_callB (CallR.or call_lenA (call_lenI (D.m___len__ none (by nofun)) (ro1 hr) rfl)) (by rfl) B.len (by decide +kernel) (pa_cons (pe_fld (pv 0) rfl) pa_nil))))
theorem ok_Table_entries {φ : Sem} {k : Nat} (D : Ds W mg base φ k) (C : Cs W mg) {C0 : Addr} (D' : MethAt W.K C0 "entries" "entries" "Table.entries" s_Table_entries [] []) (B : Blt mg) : ∀ b, (∀ i, b = some i -> i < 1) -> MdOk W.P W.w W.K mg base (k + 4) C0 "entries" 1 (spR W 1 (runFn 4 (b_Table_entries W φ)) b) := by
  intro b hb
  refine md_of D' sc_Table_entries bp_Table_entries rfl spR_len fun f cdv A outer s H vs Q E hr hsp => ⟨(b_Table_entries W φ).t (fun c d _ H => E c d H), ?_, fn_run (N := N_Table_entries) hb hsp⟩
  dsimp? only [b_Table_entries, l1_Table_entries]
  exact (pss_cons (ps_set (i := 1) sc_Table_entries.nd rfl (Or.inl rfl) (pe_lst pa_nil))
      (pss_cons (ps_for cx_po rfl (pi_or (pi_enum (by rfl) B.enumerate (pa_cons (pe_fld (pv 0) rfl) pa_nil)) (pi_enumOwn D.its (hr.mono (by omega)) rfl (by rfl) B.enumerate (pa_cons (pe_fld (pv 0) rfl) pa_nil))) (pg_tup rfl (pgs_cons (pg_name (i := 2) sc_Table_entries.nd rfl (Or.inl rfl)) (pgs_cons (pg_name (i := 3) sc_Table_entries.nd rfl (Or.inl rfl)) pgs_nil))) (pss_one (ps_if (pt_cmpR op_notN (pe_ix ixU (pv 3) pe_int (fun _ _ => rfl)) pe_non (nomark _)) (pss_one (ps_expr (pe_bm PySem.F.plainAttrs_list PySem.F.slot_list_append PySem.F.type_list_append mt_append (pv 1) (pa_cons (pe_tup (pa_cons (pe_ix ixU (pv 3) pe_int (fun _ _ => rfl)) (pa_cons (pv 2) pa_nil))) pa_nil)))) pss_nil)))
      (pss_one (ps_ret (pe_callB (cr_sortedD hr.units) (by rfl) B.sorted (by decide +kernel) (pa_cons (pv 1) pa_nil))))))
theorem ok_law {φ : Sem} {k : Nat} (D : Ds W mg base φ k) (C : Cs W mg) {f0 : Addr} {fd0 : FuncData} (F0 : FunD W.K "law" "law" (defArgs s_law) (defBody s_law) (defScope s_law) [] [] f0 fd0) (B : Blt mg) (hL : ∀ vs H Q E, spL W.K vs H Q E -> spR W 1 (runFn 17 (b_law W φ)) none vs H Q E) : FnOk W.P W.w W.K mg base CX0 (k + 4) f0 fd0 A_law (spL W.K) := by
  refine lw_of F0 sc_law spL_len fun f cdv A outer s H vs Q E hr hsp => ⟨(b_law W φ).t (fun c d _ H => E0 c d H), ?_, fn_run (N := N_law) (by intro i h; cases h) (hL vs H Q E0 hsp)⟩
  dsimp? only [b_law, l1_law, l2_law]
  exact (pss_cons (ps_set (i := 1) sc_law.nd rfl (Or.inl rfl) (px_call (D.d_law_draws none (by nofun)) (ro0 hr) rfl (pa_cons (pv 0) (pa_cons pe_int (pa_cons pe_int pa_nil)))))
      (pss_cons (ps_set (i := 2) sc_law.nd rfl (Or.inl rfl) (pe_op opAdd pe_int (pe_op op_mod (pe_callTy call_intU (by rfl) B.int (by decide +kernel) (pa_cons (pe_ix ixU (pv 1) pe_int (fun _ _ => rfl)) pa_nil)) pe_int)))
      (pss_cons (ps_set (i := 3) sc_law.nd rfl (Or.inl rfl) (pe_ix ixU (pe_lst (pa_cons pe_int (pa_cons pe_int (pa_cons (pe_un un_neg pe_int) pa_nil)))) (pe_op op_mod (pe_callTy call_intU (by rfl) B.int (by decide +kernel) (pa_cons (pe_ix ixU (pv 1) pe_int (fun _ _ => rfl)) pa_nil)) pe_int) (fun _ _ => rfl)))
      (pss_cons (ps_set (i := 4) sc_law.nd rfl (Or.inl rfl) (px_call (D.d_law_rows none (by nofun)) (ro0 hr) rfl (pa_cons (pv 0) (pa_cons pe_int (pa_cons (pe_op op_mod (pe_callTy call_intU (by rfl) B.int (by decide +kernel) (pa_cons (pe_ix ixU (pv 1) pe_int (fun _ _ => rfl)) pa_nil)) pe_int) (pa_cons (pv 2) (pa_cons (pv 3) pa_nil)))))))
      (pss_cons (ps_if (pt_cmpR (opEq hr.units) (pe_op op_mod (pe_callTy call_intU (by rfl) B.int (by decide +kernel) (pa_cons (pe_ix ixU (pv 1) pe_int (fun _ _ => rfl)) pa_nil)) pe_int) pe_int (nomark _)) (pss_one (ps_setLc (i := 4) (own := [("_law_row", 5)]) rfl sc_law.nd rfl rfl (sw_true rfl rfl rfl (by decide +kernel)) (pi_or (pi_seqU (pv 4)) (pi_own D.its (hr.mono (by omega)) rfl (pv 4))) (blkOk_by (own := [("_law_row", 5)]) (N := N_law) (sc := defScope s_law) (by decide +kernel)) (fun _ _ _ _ _ => (pg_name (i := 5) sc_law.nd rfl (Or.inl rfl))) (fun _ _ _ _ _ => pts_nil) (fun _ _ _ _ _ => (pe_tup (pa_cons (pe_ix ixU (pv 5) pe_int (fun _ _ => rfl)) (pa_cons (pe_op opMul (pe_ix ixU (pv 5) pe_int (fun _ _ => rfl)) (pe_op op_pow pe_int pe_int)) pa_nil)))))) pss_nil)
      (pss_cons (ps_set (i := 6) sc_law.nd rfl (Or.inr rfl) (pe_op opAdd pe_int (pe_op op_mod (pe_callTy call_intU (by rfl) B.int (by decide +kernel) (pa_cons (pe_ix ixU (pv 1) pe_int (fun _ _ => rfl)) pa_nil)) pe_int)))
      (pss_cons (ps_set (i := 7) sc_law.nd rfl (Or.inr rfl) (pe_lst pa_nil))
      (pss_cons (ps_for PassesOwn.never rfl (pi_or (pi_seqU (pv 4)) (pi_own D.its (hr.mono (by omega)) rfl (pv 4))) (pg_name (i := 5) sc_law.nd rfl (Or.inl rfl)) (pss_one (ps_if (PW.pt (pw_and (pt_cmpR op_notN (pe_ix ixU (pv 5) pe_int (fun _ _ => rfl)) pe_non (nomark _)) (pw_and1 (pt_cmpR op_notIn_seq (pe_ix ixU (pv 5) pe_int (fun _ _ => rfl)) (pv 7) (by first | exact nomark _ | rfl))))) (pss_one (ps_expr (pe_bm PySem.F.plainAttrs_list PySem.F.slot_list_append PySem.F.type_list_append mt_append (pv 7) (pa_cons (pe_ix ixU (pv 5) pe_int (fun _ _ => rfl)) pa_nil)))) pss_nil)))
      (pss_cons (ps_set (i := 7) sc_law.nd rfl (Or.inr rfl) (pe_callB (cr_sortedD hr.units) (by rfl) B.sorted (by decide +kernel) (pa_cons (pv 7) pa_nil)))
      (pss_cons (ps_set (i := 8) sc_law.nd rfl (Or.inl rfl) (pe_lst pa_nil))
      (pss_cons (ps_for PassesOwn.never rfl (pi_or (pi_seqU (pv 7)) (pi_own D.its (hr.mono (by omega)) rfl (pv 7))) (pg_name (i := 9) sc_law.nd rfl (Or.inr rfl)) (pss_cons (ps_setLc (i := 10) (own := [("_law_row", 5)]) rfl sc_law.nd rfl rfl (sw_true rfl rfl rfl (by decide +kernel)) (pi_or (pi_seqU (pv 4)) (pi_own D.its (hr.mono (by omega)) rfl (pv 4))) (blkOk_by (own := [("_law_row", 5)]) (N := N_law) (sc := defScope s_law) (by decide +kernel)) (fun _ _ _ _ _ => (pg_name (i := 5) sc_law.nd rfl (Or.inl rfl))) (fun _ _ _ _ _ => (pts_one (PW.pt (pw_and (pt_cmpR op_notN (pe_ix ixU (pv 5) pe_int (fun _ _ => rfl)) pe_non (nomark _)) (pw_and1 (pt_cmpR (opEq hr.units) (pe_ix ixU (pv 5) pe_int (fun _ _ => rfl)) (pv 9) (nomark _))))))) (fun _ _ _ _ _ => (pe_ix ixU (pv 5) pe_int (fun _ _ => rfl))))
      (pss_one (ps_expr (pe_bm PySem.F.plainAttrs_list PySem.F.slot_list_append PySem.F.type_list_append mt_append (pv 8) (pa_cons (pe_tup (pa_cons (pv 9) (pa_cons (pe_callB (CallR.or call_lenA (call_lenI (D.m___len__ none (by nofun)) (ro1 hr) rfl)) (by rfl) B.len (by decide +kernel) (pa_cons (pv 10) pa_nil)) (pa_cons (pe_callB (cr_sum2 rfl) (by rfl) B.sum (by decide +kernel) (pa_cons (pv 10) pa_nil)) pa_nil)))) pa_nil))))))
      (pss_cons (ps_setLc (i := 11) (own := [("_law_row", 5)]) rfl sc_law.nd rfl rfl (sw_true rfl rfl rfl (by decide +kernel)) (pi_or (pi_seqU (pv 4)) (pi_own D.its (hr.mono (by omega)) rfl (pv 4))) (blkOk_by (own := [("_law_row", 5)]) (N := N_law) (sc := defScope s_law) (by decide +kernel)) (fun _ _ _ _ _ => (pg_name (i := 5) sc_law.nd rfl (Or.inl rfl))) (fun _ _ _ _ _ => (pts_one (pt_cmpR op_isN (pe_ix ixU (pv 5) pe_int (fun _ _ => rfl)) pe_non (nomark _)))) (fun _ _ _ _ _ => (pe_ix ixU (pv 5) pe_int (fun _ _ => rfl))))
      (pss_cons (ps_if (pt_cmpR op_gt (pe_callB (CallR.or call_lenA (call_lenI (D.m___len__ none (by nofun)) (ro1 hr) rfl)) (by rfl) B.len (by decide +kernel) (pa_cons (pv 11) pa_nil)) pe_int (nomark _)) (pss_one (ps_expr (pe_bm PySem.F.plainAttrs_list PySem.F.slot_list_append PySem.F.type_list_append mt_append (pv 8) (pa_cons (pe_tup (pa_cons pe_non (pa_cons (pe_callB (CallR.or call_lenA (call_lenI (D.m___len__ none (by nofun)) (ro1 hr) rfl)) (by rfl) B.len (by decide +kernel) (pa_cons (pv 11) pa_nil)) (pa_cons (pe_callB (cr_sum2 rfl) (by rfl) B.sum (by decide +kernel) (pa_cons (pv 11) pa_nil)) pa_nil)))) pa_nil)))) pss_nil)
      (pss_cons (ps_set (i := 12) sc_law.nd rfl (Or.inl rfl) (px_make D.mk_Table C.has_Table (ro1 hr) rfl (pa_cons (pe_callTy (CallR.or call_listU (call_listI (D.m___len__ none (by nofun)) D.its hr rfl)) (by rfl) B.list (by decide +kernel) (pa_cons (pv 4) pa_nil)) pa_nil)))
      (pss_cons (ps_set (i := 13) sc_law.nd rfl (Or.inl rfl) (px_call (D.d_plain_groups none (by nofun)) (ro0 hr) rfl (pa_cons (pv 12) pa_nil)))
      (pss_cons (ps_if (pt_not (pt_truU (px_call (D.d_law_is_tuples none (by nofun)) (ro0 hr) rfl (pa_cons (pv 13) (pa_cons (pv 8) pa_nil))))) (pss_one (ps_ret pe_bl)) pss_nil)
      (pss_cons (ps_expr (pe_bm PySem.F.plainAttrs_list PySem.F.slot_list_append PySem.F.type_list_append mt_append (pv 13) (pa_cons (pe_tup (pa_cons pe_int (pa_cons pe_int (pa_cons pe_int pa_nil)))) pa_nil)))
      (pss_cons (ps_setLc (i := 15) (own := [("_law_k", 14)]) rfl sc_law.nd rfl rfl (sw_true rfl rfl rfl (by decide +kernel)) (pi_range1 rfl B.range (pa_cons (pe_callB (CallR.or call_lenA (call_lenI (D.m___len__ none (by nofun)) (ro1 hr) rfl)) (by rfl) B.len (by decide +kernel) (pa_cons (pv 7) pa_nil)) pa_nil)) (blkOk_by (own := [("_law_k", 14)]) (N := N_law) (sc := defScope s_law) (by decide +kernel)) (fun _ _ _ _ _ => (pg_name (i := 14) sc_law.nd rfl (Or.inl rfl))) (fun _ _ _ _ _ => pts_nil) (fun _ _ _ _ _ => (pe_tup (pa_cons (pe_ix ixU (pv 7) (pv 14) (fun _ _ => rfl)) (pa_cons (pe_op opDiv (pv 14) (pv 6)) pa_nil)))))
      (pss_cons (ps_set (i := 16) sc_law.nd rfl (Or.inl rfl) (px_call (D.d_group_depth_bounds none (by nofun)) (ro0 hr) rfl (pa_cons (pv 12) (pa_cons (pv 6) pa_nil))))
      (pss_cons (ps_if (pt_not (pt_truU (px_call (D.d_law_is_tuples none (by nofun)) (ro0 hr) rfl (pa_cons (pv 16) (pa_cons (pv 15) pa_nil))))) (pss_one (ps_ret pe_bl)) pss_nil)
      (pss_cons (ps_expr (pe_bm0 PySem.F.plainAttrs_list PySem.F.slot_list_reverse PySem.F.type_list_reverse mt_reverse (pv 16)))
      (pss_one (ps_ret (pe_and (px_call (D.d_law_is_tuples none (by nofun)) (ro0 hr) rfl (pa_cons (px_call (D.d_plain_groups none (by nofun)) (ro0 hr) rfl (pa_cons (pv 12) pa_nil)) (pa_cons (pv 8) pa_nil))) (pe_one (pe_cmpR (opEq hr.units) (pe_callTy (CallR.or call_listU (call_listI (D.m___len__ none (by nofun)) D.its hr rfl)) (by rfl) B.list (by decide +kernel) (pa_cons (pv 12) pa_nil)) (pv 4) (nomark _)))))))))))))))))))))))))))
theorem mt___len__ {φ : Sem} {k : Nat} {b : Option Nat} (C : Cs W mg) (h_Table : MdOk W.P W.w W.K mg base k (W.cA "Table") "__len__" 1 (spR W 1 (φ "Table.__len__") b)) : Mt W.P W.w W.K mg base W k "__len__" 1 φ b := by
  refine ⟨fun c nm hc hr => ?_⟩
  have hm := C.hasL c hc
  simp only [clsL, List.mem_cons, List.not_mem_nil, or_false] at hm
  rcases hm with rfl
  · rw [rs_Table___len__] at hr; cases hr; obtain ⟨g, fd, ps, x1, x2, x3, _⟩ := h_Table.ex; exact ⟨g, fd, ps, x1, x2, x3⟩
theorem mt_entries {φ : Sem} {k : Nat} {b : Option Nat} (C : Cs W mg) (h_Table : MdOk W.P W.w W.K mg base k (W.cA "Table") "entries" 1 (spR W 1 (φ "Table.entries") b)) : Mt W.P W.w W.K mg base W k "entries" 1 φ b := by
  refine ⟨fun c nm hc hr => ?_⟩
  have hm := C.hasL c hc
  simp only [clsL, List.mem_cons, List.not_mem_nil, or_false] at hm
  rcases hm with rfl
  · rw [rs_Table_entries] at hr; cases hr; obtain ⟨g, fd, ps, x1, x2, x3, _⟩ := h_Table.ex; exact ⟨g, fd, ps, x1, x2, x3⟩
theorem ds_all (D0 : DefAt W.K mg "plain_groups" "plain_groups" s_plain_groups [] []) (D1 : DefAt W.K mg "group_depth_bounds" "group_depth_bounds" s_group_depth_bounds [] []) (D2 : DefAt W.K mg "is_integer" "is_integer" s_is_integer [] []) (D3 : DefAt W.K mg "is_row" "is_row" s_is_row [] []) (D4 : DefAt W.K mg "_law_draws" "_law_draws" s_law_draws [] []) (D5 : DefAt W.K mg "_law_rows" "_law_rows" s_law_rows [] []) (D6 : DefAt W.K mg "_law_is_tuples" "_law_is_tuples" s_law_is_tuples [] []) (C : Cs W mg) (B : Blt mg) : ∀ n, Ds W mg base (semT (tbl W) n) (4 * n)
  | 0 => ⟨it_all C B,
    fun b _ => df_no D0 bp_plain_groups spR_no,
    fun b _ => df_no D1 bp_group_depth_bounds spR_no,
    fun b _ => df_no D2 bp_is_integer spR_no,
    fun b _ => df_no D3 bp_is_row spR_no,
    fun b _ => df_no D4 bp_law_draws spR_no,
    fun b _ => df_no D5 bp_law_rows spR_no,
    fun b _ => df_no D6 bp_law_is_tuples spR_no,
    fun b _ => mt___len__ C (md_no C.a_Table___len__ bp_Table___len__ rfl spR_no),
    fun b _ => mt_entries C (md_no C.a_Table_entries bp_Table_entries rfl spR_no),
    (let ⟨_, M⟩ := C.k_Table; mk_of M (md_no C.a_Table___init__ bp_Table___init__ rfl spR_no) C.g_Table)⟩
  | n + 1 => ⟨it_all C B,
    ok_plain_groups (ds_all D0 D1 D2 D3 D4 D5 D6 C B n) C D0 B,
    ok_group_depth_bounds (ds_all D0 D1 D2 D3 D4 D5 D6 C B n) C D1 B,
    ok_is_integer (ds_all D0 D1 D2 D3 D4 D5 D6 C B n) C D2 B,
    ok_is_row (ds_all D0 D1 D2 D3 D4 D5 D6 C B n) C D3 B,
    ok_law_draws (ds_all D0 D1 D2 D3 D4 D5 D6 C B n) C D4 B,
    ok_law_rows (ds_all D0 D1 D2 D3 D4 D5 D6 C B n) C D5 B,
    ok_law_is_tuples (ds_all D0 D1 D2 D3 D4 D5 D6 C B n) C D6 B,
    fun b hb => mt___len__ C (ok_Table___len__ (ds_all D0 D1 D2 D3 D4 D5 D6 C B n) C C.a_Table___len__ B b hb),
    fun b hb => mt_entries C (ok_Table_entries (ds_all D0 D1 D2 D3 D4 D5 D6 C B n) C C.a_Table_entries B b hb),
    (let ⟨_, M⟩ := C.k_Table; mk_of M (ok_Table___init__ (ds_all D0 D1 D2 D3 D4 D5 D6 C B n) C C.a_Table___init__ B (some 0) (fun i h => by cases h; decide)) C.g_Table)⟩
end
end Py
namespace Py
open PySem L2
theorem fldL_ok (c f : String) (_ : c ∈ clsL) (h : TT.fOk c f = true) : f ∈ fldL c := List.contains_iff_mem.mp h
def HFt : Prop := ∀ {P : Program} {w : World} {K : PySem.W.Frag} {h : Heap} {mg : Str -> Option Value} {f : Addr} (X : K.In h) (G : h.Ns mainGlobals mg) (hfa : mg ("law" : Str) = some (.ref f)) (c : SaysX faL fnL K) (hPf : ((P.main.file : Str) == fileL) = true) (hPs : (P.main.scope.names.lookup ("super" : Str)).isSome = false), ∃ fd : FuncData, (∀ (s : Shared) (v : Value), BindsTo s fd ⟨[v], []⟩ [("_law_script", v)]) /\ ∀ base : Heap, K.In base -> base.Ns mainGlobals mg -> FnOk P w K mg base CX0 36 f fd A_law (spL K)
end Py
section
open PySem PySem.W PySem.Calls PyProof.Rows
theorem Py.headL (HF : Py.HFt) : PySem.Challenge.rw_anyhashes_k77_plain_groups.Holds := by
  unfold Py.HFt at HF
  w_on; o_law
  refine HandSHeadRun.head_any (r := OpenLaw.row PySem.Challenge.rw_anyhashes_k77_plain_groups) (q := view (OpenLaw.row PySem.Challenge.rw_anyhashes_k77_plain_groups).prog [Py.lawAt]) (H := Py.hkL) (ob := Py.obL) (M := 12000) (loose := Py.nmL) (d := HandSHeadRun.topDef (OpenLaw.row PySem.Challenge.rw_anyhashes_k77_plain_groups).prog Py.lawAt) (kwd := []) Py.obL_eq
    (by kernel_rfl) (fun s => by kernel_rfl) Py.runL (by kernel_rfl) (by kernel_rfl) (by kernel_rfl) (by rfl) (by first | assumption | decide +kernel) (by decide +kernel) ⟨rfl, rfl, rfl, rfl, rfl, by decide +kernel⟩ ?hw ?hc
  case hw => w_witness2
  case hc =>
    refine L2.walk_ofE (l := PySem.Challenge.rw_anyhashes_k77_plain_groups) (n := 63) (k := 36) (x := "_law_script") (CX := L2.CX0) rfl (by decide) (by kernel_rfl) ⟨rfl, by decide, by decide⟩ ?F (fun _ _ _ _ z => z)
    intro w mg fa h Y G hmg0
    obtain ⟨K, KX, c⟩ := Y
    have hmg : mg ("law" : PySem.Str) = some (.ref fa) := by
      have e : (HandSHeadRun.topDef (OpenLaw.row PySem.Challenge.rw_anyhashes_k77_plain_groups).prog Py.lawAt).name = ("law" : PySem.Str) := by kernel_rfl
      rw [<- e]
      exact hmg0
    obtain ⟨fd, hb, hF⟩ := HF (P := (PySem.Challenge.rw_anyhashes_k77_plain_groups).prog) (w := w) KX G hmg c (by kernel_rfl) (by kernel_rfl)
    exact ⟨K, fd, Py.spL K, KX, hb, fun H a ns hl _ hS => Py.spL_in hl hS, hF⟩
end
namespace Py
open PySem L2
open Enc (enc)
local macro_rules | `(tactic| simp? only [$xs,*]) => `(tactic| try simp (maxSteps := 1000000) (disch := first | omega | decide) only [e_xsSeq, e_xsNext, e_xsNever, e_xsAsg, e_xsExpr, e_xsRet, e_xsIf, e_xsFrz, e_xmP, e_xVar_V, e_xtV, e_xtTru, e_xtAnd, e_xtOr, e_xtNot, e_xtYes, e_xVar, e_xInt, e_xBl, e_xNon, e_xSub, e_xMul, e_xDiv, e_xMod, e_xPow, e_xNeg, e_xAdd, e_xEq, e_xNe, e_xLt, e_xGt, e_xGe, e_xIsN, e_xNotN, e_xAnd, e_xNot, e_xTup, e_xLst, e_xInt1, e_xAbs, e_xIx, e_xFld, e_xList, e_xIsi, e_xIsiT, e_xCall, e_xLc, e_xSorted, e_xmVar, e_xmMove, e_xmAppend, e_xmReverse, e_xoNil, e_xoCons, e_plVar, r_plVar, e_xaNilV, e_xaNilF, e_xaConsV, e_xaConsF, e_xgN, e_xgsNil, e_xgsCons, e_xgT, o_xgN, o_xgT, o_xgsNil, o_xgsCons, e_xiSeqF, e_xiSeqP, e_xiR1F, e_xiR1P, e_xsFor, e_evV, e_evK, e_evF, e_evO, e_evB, h_getS0, h_getS0n, h_getSs, h_toV, h_toVn, h_toKf, h_toKp, h_toKv, h_toKn, h_toFf, h_toFp, h_toFv, h_toFn, h_toOf, h_toOp, h_toOv, h_toOn, h_of_f, h_of_p, h_of_v, h_then_nx, h_then_rt, h_then_bk, h_then_ct, h_then_ex, h_then_no, h_thenS_ok, h_thenS_exn, h_thenS_no, h_ofO, h_ofOn, h_of, h_ofn, h_mofO, h_mofOn, h_iteF1, h_iteF0, h_iteFn, h_asgK, h_forK, h_andF1, h_andF0, h_orF1, h_orF0, h_blD, h_turn, h_turnn, h_forE, h_forEn, h_callF, h_callV, h_rzF, h_rzV, h_fz_non, h_sh_non, h_fl_non, h_isN_non, h_fz_bl, h_sh_bl, h_fl_bl, h_fz_int, h_sh_int, h_fl_int, h_isN_int, h_fz_str, h_sh_str, h_fl_str, h_isN_str, h_fz_cls, h_sh_cls, h_fl_cls, h_isN_cls, h_fz_sei, h_sh_sei, h_fl_sei, h_isN_sei, h_fz_scr, h_sh_scr, h_fl_scr, h_isN_scr, h_fz_tup, h_sh_tup, h_fl_tup, h_isN_tup, h_fz_lst, h_sh_lst, h_fl_lst, h_isN_lst, h_fz_dic, h_sh_dic, h_fl_dic, h_isN_dic, h_fz_dit, h_sh_dit, h_fl_dit, h_isN_dit, h_fz_dig, h_sh_dig, h_fl_dig, h_isN_dig, h_fz_dlf, h_sh_dlf, h_fl_dlf, h_isN_dlf, h_fz_ins, h_sh_ins, h_fl_ins, h_isN_ins, h_isN_bl, h_fz_olst, h_sh_olst, h_fl_olst, h_fz_odic, h_sh_odic, h_fl_odic, h_fz_odit, h_sh_odit, h_fl_odit, h_fz_odig, h_sh_odig, h_fl_odig, h_fz_olf, h_sh_olf, h_fl_olf, h_fz_oins, h_sh_oins, h_fl_oins, h_fzs_nil, h_fzs_cons, h_fzs_app, h_tru_bl, h_tru_non, h_tru_int, h_tru_lst, h_tru_tup, h_sub, h_neg, h_addI, h_addT, h_addL, h_addLo, h_addoL, h_addoo, h_eqD, h_neD, h_ok_non, h_ok_bl, h_ok_int, h_ok_str, h_ok_tup, h_ok_lst, h_oks_nil, h_oks_cons, h_eqB_ii, h_eqB_ss, h_eqB_bb, h_eqB_nn, h_eqB_ni, h_eqB_in, h_eqB_nt, h_eqB_tn, h_eqB_tt, h_eqB_ll, h_eqBs_nn, h_eqBs_cc, h_eqBs_nc, h_eqBs_cn, h_cmp, h_ltI, h_ltT, h_ints_nil, h_ints_cons, h_intI, h_intB, h_abs, h_lenL, h_lenT, h_lenS, h_ix, h_it_lst, h_it_olst, h_it_tup, h_it_scr, h_at0, h_at1, h_at2, h_at3, h_at4, h_at5, h_at6, h_at7, h_at8, h_at9, h_at10, h_at11, h_at12, h_atm1, h_seq_lst, h_seq_tup, h_seq_olst, h_seq_scr, h_sF_lst, h_sF_tup, h_sF_scr, h_lF_lst, h_ty_non, h_ty_bl, h_ty_int, h_ty_str, h_ty_lst, h_ty_tup, h_ty_ins, h_isi_bb, h_isi_bo, h_isi_ob, h_isi_oo, h_isiA_n, h_isiA_c, h_isiB_NoneType_bool, h_isiB_NoneType_int, h_isiB_NoneType_str, h_isiB_NoneType_list, h_isiB_NoneType_tuple, h_isiB_NoneType_dict, h_isiB_bool_bool, h_isiB_bool_int, h_isiB_bool_str, h_isiB_bool_list, h_isiB_bool_tuple, h_isiB_bool_dict, h_isiB_int_bool, h_isiB_int_int, h_isiB_int_str, h_isiB_int_list, h_isiB_int_tuple, h_isiB_int_dict, h_isiB_str_bool, h_isiB_str_int, h_isiB_str_str, h_isiB_str_list, h_isiB_str_tuple, h_isiB_str_dict, h_isiB_list_bool, h_isiB_list_int, h_isiB_list_str, h_isiB_list_list, h_isiB_list_tuple, h_isiB_list_dict, h_isiB_tuple_bool, h_isiB_tuple_int, h_isiB_tuple_str, h_isiB_tuple_list, h_isiB_tuple_tuple, h_isiB_tuple_dict, h_isiB_dict_bool, h_isiB_dict_int, h_isiB_dict_str, h_isiB_dict_list, h_isiB_dict_tuple, h_isiB_dict_dict, h_append, h_rev, h_put0, h_rng1, h_guard1, h_guard0, h_forLn, h_forLc, h_forT_nx, h_forT_ct, h_forT_bk, h_forT_rt, h_forT_ex, h_lc1, h_lcK, h_lcJ1, h_lcJ0, h_wipe0, h_wipes, h_frz, h_frzO, h_frzOn, h_runR_rt, h_runR_nx, h_retZ, h_bGetn, h_bGets, h_setS, h_fldI, h_fldO, h_iteFd1, h_iteFd0, h_iteFe1, h_iteFe0, h_andFd1, h_andFd0, h_andFe1, h_andFe0, h_orFd1, h_orFd0, h_orFe1, h_orFe0, h_lcJd1, h_lcJd0, h_lcJe1, h_lcJe0, h_eMeth, h_methF, h_methV, h_methW, h_meth1, h_resE, h_resEn, h_posn, h_posc, h_putc, h_putE, h_subF, h_subI, h_putF, h_putI, h_setOs, h_eSfld, h_fldK, h_setFD, h_setFn, h_setFc, h_eMake, h_makeF, h_makeV, h_mk1, h_mkR, h_eLenU, h_lenI_lst, h_lenI_tup, h_lenI_scr, h_lenI_ins, h_lenQ, h_lenR, h_RTthen_ok, h_RTthenS_ok, h_RTthen_exn, h_RTthenS_exn, h_RTof, h_eListU, h_lstE_lst, h_lstE_tup, h_lstE_scr, h_lstE_olst, h_lstE_ins, h_itQ, h_it_ins, h_lo_lst, h_lo_olst, h_eiSeqUF, h_eiSeqUP, h_eiEnumUF, h_eiEnumUP, h_seqFI_lst, h_seqFI_tup, h_seqFI_scr, h_seqFI_ins, h_seqKI_lst, h_seqKI_tup, h_seqKI_scr, h_seqKI_ins, h_seqKI_olst, h_enFI_lst, h_enFI_ins, h_enKI_lst, h_enKI_ins, h_enKI_olst, h_ixD_ins, h_okD_ins, h_eqD_ins, h_addD_ins, h_addD_oins, h_eSum, h_sumI, h_eIn, h_inK_non, h_inK_int, h_inK_str, h_guardB_t, h_keyD_i, h_keyD_s, h_qevO, h_qevB, h_qevF, h_toQf, h_toQp, h_toQv, h_toQn, h_runR_ex, h_retX, h_thenY1, h_thenY2, h_thenY3, h_look1, h_look2, h_div, h_mod, h_mulL, h_mulR, h_rngOk, List.zip_cons_cons, List.zip_nil_left, if_pos, if_neg, List.getElem?_cons_zero, List.getElem?_cons_succ, List.getElem?_nil, List.getLast?_append, List.getLast?_singleton, List.getLast?_cons_cons, runFn, env0, Option.toList, List.map_cons, List.map_nil, List.length_cons, List.length_nil, List.length_append, List.length_map, List.length_set, List.replicate, List.cons_append, List.nil_append, List.append_nil, Nat.reduceSub, Nat.reduceAdd, Nat.reduceLT, Nat.reduceLeDiff, Nat.reduceEqDiff, Nat.zero_add, Nat.add_zero, List.set_cons_zero, List.set_cons_succ, List.set_nil, Option.bind_some, Option.bind_none, Option.map_some, Option.map_none, List.foldl_cons, List.foldl_nil, not_false_eq_true, not_true_eq_false, and_true, true_and, and_self, and_false, false_and, if_true, if_false, ite_true, ite_false, reduceIte, List.not_mem_nil, reduceCtorEq, List.mem_cons, or_false, false_or, or_self, ne_eq, Bool.not_true, Bool.not_false, Bool.and_true, Bool.and_false, Bool.true_and, Bool.false_and, Bool.or_true, Bool.or_false, Bool.true_or, Bool.false_or, Bool.and_self, Bool.or_self, List.all_cons, List.all_nil, decide_true, decide_false, decide_not, decide_eq_true_eq, decide_eq_false_iff_not, Bool.not_not, Int.reduceLT, Int.reduceLE, Int.reduceEq, Int.reduceNe, Int.reduceAdd, Int.reduceMul, Int.reduceSub, Int.reduceNeg, List.isEmpty_cons, List.isEmpty_nil, Bool.false_eq_true, Bool.true_eq_false, String.reduceEq, Function.comp_apply, Option.isNone_none, Option.some_or, Option.isNone_some, List.getLast?_concat, List.dropLast_concat, List.all_append, $xs,*])
local macro_rules | `(tactic| dsimp? only [$xs,*]) => `(tactic| simp? only [ik_Table, fk_Table__rows, rs_Table___len__, rs_Table_entries, sb_Table_Table, $xs,*])
local macro_rules | `(tactic| walk_at "ev") => `(tactic| simp? only [])
section
variable {W : Wd TT}
def drawStep (big : Bool) (k : Int) (n : Int) : Int × Int :=
  if big = true then (n % 1000, n / 1000)
  else if 0 < n then
    ((((n * (48271 + 6 * k) + 69621 * k) % 2147483647 * ((n * (48271 + 6 * k) + 69621 * k) % 2147483647) + 40692 * k + 1) % 2147483629) % 1000, n)
  else (0, n)
def drawsGo (big : Bool) (n : Int) : Nat -> List Int × Int
  | 0 => ([], n)
  | i + 1 => ((drawsGo big n i).1 ++ [(drawStep big (0 + i) (drawsGo big n i).2).1], (drawStep big (0 + i) (drawsGo big n i).2).2)
def drawNum (ns : List Int) (at' : Int) : Int := if h : 0 <= at' /\ at' < ns.length then (if ns[at'.toNat]'(by omega) < 0 then -(ns[at'.toNat]'(by omega)) else ns[at'.toNat]'(by omega)) else 0
def draws (ns : List Int) (at' many : Int) : List Int := (drawsGo (decide (10 ^ 18 <= drawNum ns at')) (drawNum ns at') many.toNat).1
theorem drawStep_ok {big : Bool} {k n : Int} (h : 0 <= n) : 0 <= (drawStep big k n).1 /\ (drawStep big k n).1 < 1000 /\ 0 <= (drawStep big k n).2 /\ (drawStep big k n).2 <= n := by
  unfold drawStep
  split
  · simp only; omega
  · split
    · simp only; omega
    · simp only; omega
theorem drawsGo_ok {big : Bool} {n : Int} (h : 0 <= n) : ∀ i, (drawsGo big n i).1.length = i /\ (∀ d ∈ (drawsGo big n i).1, 0 <= d /\ d < 1000) /\ 0 <= (drawsGo big n i).2 /\ (drawsGo big n i).2 <= n
  | 0 => ⟨rfl, (fun _ m => nomatch m), h, Int.le_refl _⟩
  | i + 1 => by
    obtain ⟨h1, h2, h3, h4⟩ := drawsGo_ok (big := big) h i
    obtain ⟨q1, q2, q3, q4⟩ := drawStep_ok (big := big) (k := 0 + i) h3
    refine ⟨by rw [drawsGo]; simp [h1], fun d m => ?_, q3, Int.le_trans q4 h4⟩
    rw [drawsGo] at m
    rcases List.mem_append.mp m with m | m
    · exact h2 d m
    · rw [List.mem_singleton.mp m]; exact ⟨q1, q2⟩
theorem drawNum_nn (ns : List Int) (at' : Int) : 0 <= drawNum ns at' := by
  unfold drawNum
  split
  · split <;> omega
  · omega
theorem draws_length (ns : List Int) (at' many : Int) : (draws ns at' many).length = many.toNat := (drawsGo_ok (drawNum_nn ns at') _).1
theorem draws_ok (ns : List Int) (at' many : Int) : ∀ d ∈ draws ns at' many, 0 <= d /\ d < 1000 := (drawsGo_ok (drawNum_nn ns at') _).2.1
theorem f_law_draws (k : Nat) {ns : List Int} {i n : Int} (h0 : 0 <= i) (h1 : 0 <= n) (h2 : n <= 1000) : semT (tbl W) (k + 1) "_law_draws" [.scr ns, .int i, .int n] none = .ok (.olst ((draws ns i n).map .int)) none := by
  rw [sem_law_draws]
  unfold b_law_draws
  have loop : ∀ (b : Bool) (m : Int), 0 <= m -> ∀ e0, e0 = [some (.scr ns), some (.int i), some (.int n), some (.int m), some (.bl b), some (.olst []), none, none, none] -> ∀ r, forL (forK (xgN W 6) (l1_law_draws W (semT (tbl W) k)) []) (rangeD 0 n.toNat) e0 = r ->
      ∃ e', r = .nx e' /\ getS e' 5 = some (.olst ((drawsGo b m n.toNat).1.map .int)) /\ e'.length = 9 := by
    intro b m hm e0 he r hF
    obtain ⟨e', rfl, o6, o7, o8, h⟩ := forL_gen (fun j e => ∃ o6 o7 o8, e = [some (.scr ns), some (.int i), some (.int n), some (.int (drawsGo b m j).2), some (.bl b), some (.olst ((drawsGo b m j).1.map .int)), o6, o7, o8]) hF ⟨none, none, none, he⟩ (by
      rintro j d _ hd ⟨o6, o7, o8, rfl⟩
      obtain ⟨hj, rfl⟩ := rangeD_get hd
      obtain ⟨q1, q2, q3, q4⟩ := drawsGo_ok (big := b) hm j
      generalize hg : drawsGo b m j = g at q1 q2 q3 q4
      have hs : drawsGo b m (j + 1) = (g.1 ++ [(drawStep b (0 + j) g.2).1], (drawStep b (0 + j) g.2).2) := by rw [drawsGo, hg]
      rw [hs]
      have hj2 : (0 : Int) + (j : Int) < 1000 := by omega
      generalize hx : (0 : Int) + (j : Int) = x at hj2
      have hx0 : 0 <= x := by omega
      have hl : g.1.length < 1000000 := by omega
      clear hx hj hd hs hg q4 hF q2
      unfold drawStep l1_law_draws
      cases b with
      | true =>
        refine ⟨_, .inl (by walk_at "ev"; rfl), ?_⟩
        rw [List.map_append]
        exact ⟨_, _, _, rfl⟩
      | false =>
        by_cases hp : 0 < g.2
        · generalize hy : g.2 * (48271 + 6 * x) + 69621 * x = y
          have e1 : 0 <= y % 2147483647 := by omega
          have e2 : y % 2147483647 < 2147483647 := by omega
          generalize hz : y % 2147483647 = z at e1 e2
          refine ⟨_, .inl (by walk_at "ev"; rw [hy, hz]), ?_⟩
          rw [if_neg (by decide), if_pos hp, List.map_append]
          exact ⟨_, _, _, rfl⟩
        · refine ⟨_, .inl (by walk_at "ev"; rfl), ?_⟩
          rw [if_neg (by decide), if_neg hp, List.map_append]
          exact ⟨_, _, _, rfl⟩)
    rw [rangeD_length] at h
    exact ⟨e', rfl, by rw [h]; rfl, by rw [h]; rfl⟩
  have fin : ∀ e' : Py.Env, getS e' 5 = some (.olst ((draws ns i n).map .int)) -> runR none (RS.then (.nx e') ((xsRet (xmMove W 5)).ev [])) = .ok (.olst ((draws ns i n).map .int)) none := fun e' he => by
    walk_at "ev"
    rw [he]
    walk_at "ev"
  have hp : powD (.int 10) (.int 18) = some (.int 1000000000000000000) := rfl
  by_cases hi : i < ns.length
  · obtain ⟨x, hx1, hx2⟩ := atI_get h0 hi
    have en : drawNum ns i = if x < 0 then -x else x := by
      have : x = ns[i.toNat]'(by omega) := by rw [List.getElem?_eq_getElem (by omega)] at hx2; exact (Option.some.inj hx2).symm
      unfold drawNum
      rw [dif_pos ⟨h0, hi⟩, this]
    walk_at "ev"
    rw [atI_map, hx1]
    walk_at "ev"
    rw [hp]
    walk_at "ev"
    rw [<- en]
    have hn := drawNum_nn ns i
    have e0 : drawsGo (decide (1000000000000000000 <= drawNum ns i)) (drawNum ns i) n.toNat = drawsGo (decide (10 ^ 18 <= drawNum ns i)) (drawNum ns i) n.toNat := rfl
    generalize hF : forL _ _ _ = r
    obtain ⟨e', rfl, h5, _⟩ := loop _ _ hn _ rfl _ hF
    exact fin e' (by rw [h5, e0]; rfl)
  · have en : drawNum ns i = 0 := by
      unfold drawNum
      rw [dif_neg (by omega)]
    walk_at "ev"
    rw [hp]
    walk_at "ev"
    generalize hF : forL _ _ _ = r
    obtain ⟨e', rfl, h5, _⟩ := loop false 0 (Int.le_refl _) _ rfl _ hF
    exact fin e' (by rw [h5]; unfold draws; rw [en]; rfl)
abbrev Row := Option Int × Int
def lawRow (ns : List Int) (i spread step : Int) : Row := match draws ns i 3 with
  | [a, b, c] => (if a % 8 = 7 then none else some ((b % spread - spread / 3) * step), c - 400)
  | _ => (none, 0)
def lawRows (ns : List Int) (i : Int) (n : Nat) (spread step : Int) : List Row := (List.range n).map fun k : Nat => lawRow ns (i + (0 + (k : Nat))) spread step
theorem lawRows_length (ns : List Int) (i : Int) (n : Nat) (spread step : Int) : (lawRows ns i n spread step).length = n := by simp [lawRows]
theorem lawRows_succ (ns : List Int) (i : Int) (n : Nat) (spread step : Int) : lawRows ns i (n + 1) spread step = lawRows ns i n spread step ++ [lawRow ns (i + (0 + (n : Nat))) spread step] := by
  unfold lawRows; rw [List.range_succ, List.map_append]; rfl
local macro_rules | `(tactic| walk_at "evr") => `(tactic| dsimp? only [enc_int])
theorem f_law_rows (k : Nat) {ns : List Int} {i spread step : Int} {n : Nat} (h0 : 0 <= i) (h1 : n <= 100) (h2 : 0 < spread) (h3 : spread <= 100) :
    semT (tbl W) (k + 2) "_law_rows" [.scr ns, .int i, .int n, .int spread, .int step] none = .ok (.olst ((lawRows ns i n spread step).map enc)) none := by
  rw [sem_law_rows]
  unfold b_law_rows
  walk_at "evr"
  generalize hF : forL _ _ _ = r
  obtain ⟨e', rfl, o6, o7, o8, rfl⟩ := forL_gen (fun j e => ∃ o6 o7 o8, e = [some (.scr ns), some (.int i), some (.int n), some (.int spread), some (.int step), some (.olst ((lawRows ns i j spread step).map enc)), o6, o7, o8]) hF ⟨none, none, none, rfl⟩ (by
    rintro j d _ hd ⟨o6, o7, o8, rfl⟩
    obtain ⟨hj, rfl⟩ := rangeD_get hd
    have h := f_law_draws (W := W) k (ns := ns) (i := i + (0 + (j : Int))) (n := 3) (by omega) (by omega) (by omega)
    have hlen := draws_length ns (i + (0 + (j : Int))) 3
    have ho := draws_ok ns (i + (0 + (j : Int))) 3
    have hl := lawRows_length ns i j spread step
    have hs := lawRows_succ ns i j spread step
    match hd : draws ns (i + (0 + (j : Int))) 3, hlen with
    | [a, b, c], _ =>
    rw [hd] at h ho
    have hb := ho b (by simp)
    have hr : lawRow ns (i + (0 + (j : Int))) spread step = (if a % 8 = 7 then none else some ((b % spread - spread / 3) * step), c - 400) := by unfold lawRow; rw [hd]
    have m1 := Int.emod_nonneg b (show spread ≠ 0 by omega)
    have m2 := Int.emod_lt_of_pos b h2
    have m3 : spread / 3 <= 100 := by omega
    have m4 : 0 <= spread / 3 := by omega
    by_cases h8 : a % 8 = 7
    · refine ⟨_, .inl (by
        unfold l1_law_rows
        walk_at "evr"
        rw [h]
        walk_at "evr"
        rfl), _, _, _, by rw [hs, hr, if_pos h8, List.map_append]; rfl⟩
    · refine ⟨_, .inl (by
        unfold l1_law_rows
        walk_at "evr"
        rw [h]
        walk_at "evr"
        rfl), _, _, _, by rw [hs, hr, if_neg h8, List.map_append]; rfl⟩)
  rw [rangeD_length]
  walk_at "evr"
  rfl
abbrev tD (rs : List Row) : D := .oins "Table" ["_rows"] [.lst (rs.map enc)]
abbrev tS (rs : List Row) : D := .ins "Table" ["_rows"] [.lst (rs.map enc)]
theorem it_tS (rs : List Row) : itOf TT (tS rs) = some (rs.map enc) := by
  walk_at "evr"
theorem u_is_integer (k : Nat) (i : Int) : semT (tbl W) (k + 1) "is_integer" [.int i] none = .ok (.bl true) none := by
  rw [sem_is_integer]; unfold b_is_integer; walk_at "ev"
local macro_rules | `(tactic| walk_at "evt") => `(tactic| dsimp? only [it_tS, u_is_integer, it_pair, sF_pair, so_pair, ty_pair, len_pair, lenI_pair, fl_pair, xg_pair, enc_int, isN_opt, sh_enc, fz_enc, shl_enc, fzl_enc, fl_enc, ok_enc, okl_enc, eq_enc, eql_enc, en_enc, ne_enc, nn_enc, decide_true, enumD_enc])
theorem u_is_row (k : Nat) (r : Row) : semT (tbl W) (k + 2) "is_row" [enc r] none = .ok (.bl true) none := by
  obtain ⟨a, b⟩ := r
  rw [sem_is_row]
  unfold b_is_row
  cases a with
  | none => walk_at "evt"
  | some a =>
    walk_at "evt"
    rw [enc_some]
    walk_at "evt"
theorem f_table_init (k : Nat) (rs : List Row) (h : rs.length <= 1000) : semT (tbl W) (k + 3) "Table.__init__" [.oins "Table" [] [], .lst (rs.map enc)] (some 0) = .ok .non (some (tD rs)) := by
  rw [sem_Table___init__]
  unfold b_Table___init__
  walk_at "evt"
  generalize hF : forL _ _ _ = r
  obtain ⟨e', rfl, o3, o4, rfl⟩ := forL_gen (fun j e => ∃ o3 o4, e = [some (.oins "Table" [] []), some (.lst (rs.map enc)), some (.olst ((rs.take j).map enc)), o3, o4]) hF ⟨none, none, rfl⟩ (by
    rintro j d _ hd ⟨o3, o4, rfl⟩
    obtain ⟨q, hq, rfl⟩ := get_map hd
    rw [withIx_get] at hq
    obtain ⟨x, hx, rfl⟩ := Option.map_eq_some_iff.mp hq
    have hj := (List.getElem?_eq_some_iff.mp hx).1
    have ht : rs.take (j + 1) = rs.take j ++ [x] := by rw [List.take_add_one, hx]; rfl
    have hl : (rs.take j).length = j := by rw [List.length_take]; omega
    have hr := u_is_row (W := W) k x
    refine ⟨_, .inl (by
      unfold l1_Table___init__
      walk_at "evt"
      rw [hr]
      walk_at "evt"
      rfl), _, _, by rw [ht, List.map_append]; rfl⟩)
  rw [List.length_map, withIx_length, List.take_length]
  walk_at "evt"
theorem u_table_len (k : Nat) (rs : List Row) : semT (tbl W) (k + 1) "Table.__len__" [tS rs] none = .ok (.int rs.length) none := by
  rw [sem_Table___len__]
  unfold b_Table___len__
  walk_at "evt"
def ents (rs : List Row) : List Pr := (withIx 0 rs).filterMap fun p => p.2.1.map fun k => (k, p.1)
theorem ents_snoc (rs : List Row) (x : Row) : ents (rs ++ [x]) = ents rs ++ (match x.1 with | none => [] | some k => [(k, (rs.length : Int))]) := by
  unfold ents
  rw [withIx_app, List.filterMap_append]
  cases h : x.1 <;> simp [withIx, h]
theorem srt_enc (ps : List Pr) : sortD (ps.map enc) = some ((srtR ps).map enc) := srt_eR ps
theorem f_entries (k : Nat) (rs : List Row) (h : rs.length <= 1000) : semT (tbl W) (k + 1) "Table.entries" [tS rs] none = .ok (.olst ((srtR (ents rs)).map enc)) none := by
  rw [sem_Table_entries]
  unfold b_Table_entries
  walk_at "evt"
  generalize hF : forL _ _ _ = r
  obtain ⟨e', rfl, o2, o3, rfl⟩ := forL_gen (fun j e => ∃ o2 o3, e = [some (tS rs), some (.olst ((ents (rs.take j)).map enc)), o2, o3]) hF ⟨none, none, rfl⟩ (by
    rintro j d _ hd ⟨o2, o3, rfl⟩
    obtain ⟨q, hq, rfl⟩ := get_map hd
    rw [withIx_get] at hq
    obtain ⟨x, hx, rfl⟩ := Option.map_eq_some_iff.mp hq
    have hj := (List.getElem?_eq_some_iff.mp hx).1
    have ht : rs.take (j + 1) = rs.take j ++ [x] := by rw [List.take_add_one, hx]; rfl
    have hl : (rs.take j).length = j := by rw [List.length_take]; omega
    have hle : (ents (rs.take j)).length <= 1000 := by
      have := List.length_filterMap_le (fun p : Int × Row => p.2.1.map fun k => (k, p.1)) (withIx 0 (rs.take j))
      rw [withIx_length] at this
      unfold ents
      omega
    rw [ht, ents_snoc, hl, Nat.zero_add]
    obtain ⟨a, b⟩ := x
    cases a with
    | none =>
      refine ⟨_, .inl (by
        unfold l1_Table_entries
        walk_at "evt"
        try rfl), _, _, by rw [List.append_nil]⟩
    | some a =>
      refine ⟨_, .inl (by
        unfold l1_Table_entries
        walk_at "evt"
        try rfl), _, _, by rw [List.map_append]; rfl⟩)
  rw [List.length_map, withIx_length, List.take_length]
  walk_at "evt"
  rw [srt_enc]
  walk_at "evt"
def leI (a b : Int) : Bool := decide (a <= b)
def srtI (xs : List Int) : List Int := xs.mergeSort leI
theorem srtI_perm (xs : List Int) : (srtI xs).Perm xs := List.mergeSort_perm _ _
theorem srtI_len (xs : List Int) : (srtI xs).length = xs.length := (srtI_perm xs).length_eq
abbrev AscI (xs : List Int) : Prop := xs.Pairwise fun a b => a <= b
theorem srtI_asc (xs : List Int) : AscI (srtI xs) := by
  have h := List.pairwise_mergeSort (le := leI) (fun a b c h1 h2 => by unfold leI at *; simp only [decide_eq_true_eq] at *; omega) (fun a b => by unfold leI; rw [Bool.or_eq_true]; simp only [decide_eq_true_eq]; omega) xs
  exact h.imp fun {a b} e => of_decide_eq_true e
theorem srt_int (xs : List Int) : sortD (xs.map (enc : Int -> D)) = some ((srtI xs).map enc) := by
  have h := sortD_map (enc := (enc : Int -> D)) (dat := fun i : Int => PyData.int i) (fun b => rfl) xs (by
    unfold sortOk
    simp only [Bool.and_eq_true, List.all_eq_true, Bool.or_eq_true]
    refine ⟨⟨?_, .inr ?_⟩, ?_⟩
    · intro a ha b hb
      obtain ⟨x, _, rfl⟩ := List.mem_map.mp ha
      obtain ⟨y, _, rfl⟩ := List.mem_map.mp hb
      simp [PySem.W.alike]
    · intro a ha
      obtain ⟨x, _, rfl⟩ := List.mem_map.mp ha
      rfl
    · intro a ha
      obtain ⟨x, _, rfl⟩ := List.mem_map.mp ha
      simp [PyData.depth])
  rw [h]
  have : PySem.W.dataLe false (fun i : Int => PyData.int i) = leI := by rw [PySem.W.dataLe_int]; rfl
  rw [this]; rfl
abbrev GK := Option Int
def lkO : GK -> LK
  | none => .non
  | some i => .num i
theorem lkO_inj {a b : GK} (h : lkO a = lkO b) : a = b := by
  cases a with
  | none => cases b with
    | none => rfl
    | some j => exact nomatch (show LK.non = LK.num j from h)
  | some i => cases b with
    | none => exact nomatch (show LK.num i = LK.non from h)
    | some j =>
      have h' : LK.num i = LK.num j := h
      injection h' with h'
      rw [h']
theorem lkD_opt (k : GK) : lkD (lkO k) = enc k := by cases k <;> rfl
theorem keyL_opt (k : GK) : keyL false (enc k) = some (lkO k) := by cases k <;> rfl
theorem keyL_non : keyL false .non = some (lkO none) := rfl
theorem keyL_int (i : Int) : keyL false (.int i) = some (lkO (some i)) := rfl
def ofK (k : GK) (rs : List Row) : List Int := (rs.filter fun r => decide (r.1 = k)).map (·.2)
def cnG (k : GK) (rs : List Row) : Int := (ofK k rs).length
def smG (k : GK) (rs : List Row) : Int := (ofK k rs).sum
theorem ofK_snoc (k : GK) (rs : List Row) (x : Row) : ofK k (rs ++ [x]) = if x.1 = k then ofK k rs ++ [x.2] else ofK k rs := by
  unfold ofK
  rw [List.filter_append, List.map_append]
  by_cases h : x.1 = k <;> simp [h]
theorem cnG_snoc (k : GK) (rs : List Row) (x : Row) : cnG k (rs ++ [x]) = if x.1 = k then cnG k rs + 1 else cnG k rs := by
  unfold cnG
  rw [ofK_snoc]
  by_cases h : x.1 = k
  · rw [if_pos h, if_pos h, List.length_append, List.length_singleton]; rfl
  · rw [if_neg h, if_neg h]
theorem smG_snoc (k : GK) (rs : List Row) (x : Row) : smG k (rs ++ [x]) = if x.1 = k then smG k rs + x.2 else smG k rs := by
  unfold smG
  rw [ofK_snoc]
  by_cases h : x.1 = k
  · rw [if_pos h, if_pos h, List.sum_append, List.sum_singleton]
  · rw [if_neg h, if_neg h]
def kuA (acc : List GK) (r : Row) : List GK := if r.1 ∈ acc then acc else acc ++ [r.1]
def kuG (rs : List Row) : List GK := rs.foldl kuA []
theorem kuG_snoc (rs : List Row) (x : Row) : kuG (rs ++ [x]) = if x.1 ∈ kuG rs then kuG rs else kuG rs ++ [x.1] := by
  unfold kuG
  rw [List.foldl_append]; rfl
theorem snoc_ind {α : Type} {P : List α -> Prop} (h0 : P []) (hs : ∀ xs x, P xs -> P (xs ++ [x])) : ∀ xs, P xs := fun xs => by
  have : ∀ ys : List α, P ys.reverse := fun ys => by
    induction ys with
    | nil => exact h0
    | cons y ys ih => rw [List.reverse_cons]; exact hs _ _ ih
  have := this xs.reverse
  rwa [List.reverse_reverse] at this
theorem kuG_mem (rs : List Row) : ∀ k, k ∈ kuG rs ↔ ∃ r ∈ rs, r.1 = k := by
  induction rs using snoc_ind with
  | h0 => intro k; simp [kuG]
  | hs rs x ih =>
    intro k
    rw [kuG_snoc]
    constructor
    · intro m
      by_cases h : x.1 ∈ kuG rs
      · rw [if_pos h] at m
        obtain ⟨r, h1, h2⟩ := (ih k).mp m
        exact ⟨r, List.mem_append_left _ h1, h2⟩
      · rw [if_neg h] at m
        rcases List.mem_append.mp m with m | m
        · obtain ⟨r, h1, h2⟩ := (ih k).mp m
          exact ⟨r, List.mem_append_left _ h1, h2⟩
        · exact ⟨x, by simp, (List.mem_singleton.mp m).symm⟩
    · rintro ⟨r, h1, rfl⟩
      rcases List.mem_append.mp h1 with h1 | h1
      · have := (ih r.1).mpr ⟨r, h1, rfl⟩
        by_cases h : x.1 ∈ kuG rs
        · rw [if_pos h]; exact this
        · rw [if_neg h]; exact List.mem_append_left _ this
      · rw [List.mem_singleton.mp h1]
        by_cases h : x.1 ∈ kuG rs
        · rw [if_pos h]; exact h
        · rw [if_neg h]; simp
theorem kuG_nodup (rs : List Row) : (kuG rs).Nodup := by
  induction rs using snoc_ind with
  | h0 => exact .nil
  | hs rs x ih =>
    rw [kuG_snoc]
    by_cases h : x.1 ∈ kuG rs
    · rw [if_pos h]; exact ih
    · rw [if_neg h, List.nodup_append]
      exact ⟨ih, by simp, fun a ha b hb z => h (by rw [<- List.mem_singleton.mp hb, <- z]; exact ha)⟩
theorem kuG_len (rs : List Row) : (kuG rs).length <= rs.length := by
  induction rs using snoc_ind with
  | h0 => exact Nat.le_refl _
  | hs rs x ih =>
    rw [kuG_snoc, List.length_append, List.length_singleton]
    split
    · omega
    · rw [List.length_append, List.length_singleton]; omega
theorem ofK_none {k : GK} {rs : List Row} (h : k ∉ kuG rs) : ofK k rs = [] := by
  unfold ofK
  rw [List.map_eq_nil_iff, List.filter_eq_nil_iff]
  intro r m e
  exact h ((kuG_mem rs k).mpr ⟨r, m, of_decide_eq_true e⟩)
def grE (rs : List Row) (k : GK) : D := .tup [.int (cnG k rs), .int (smG k rs)]
abbrev grK (rs : List Row) : List LK := (kuG rs).map lkO
abbrev grX (rs : List Row) : List D := (kuG rs).map (grE rs)
abbrev grD (rs : List Row) : D := .olf false (grK rs) (grX rs)
theorem pos_lk {k : GK} : ∀ {ks : List GK}, (k ∈ ks -> ∃ j, pos (lkO k) (ks.map lkO) = some j /\ ks[j]? = some k) /\ (k ∉ ks -> pos (lkO k) (ks.map lkO) = none)
  | [] => ⟨fun m => (nomatch m), fun _ => rfl⟩
  | x :: ks => by
    obtain ⟨i1, i2⟩ := pos_lk (k := k) (ks := ks)
    have e : pos (lkO k) ((x :: ks).map lkO) = if lkO x = lkO k then some 0 else (pos (lkO k) (ks.map lkO)).map (· + 1) := rfl
    rw [e]
    by_cases h : x = k
    · subst h
      rw [if_pos rfl]
      exact ⟨fun _ => ⟨0, rfl, rfl⟩, fun z => absurd (List.mem_cons_self (a := x) (l := ks)) z⟩
    · rw [if_neg fun z => h (lkO_inj z)]
      refine ⟨fun m => ?_, fun m => ?_⟩
      · rcases List.mem_cons.mp m with e | m
        · exact absurd e.symm h
        · obtain ⟨j, h1, h2⟩ := i1 m
          exact ⟨j + 1, by rw [h1]; rfl, by simpa using h2⟩
      · rw [i2 fun z => m (List.mem_cons_of_mem _ z)]; rfl
theorem grX_get {rs : List Row} {k : GK} {j : Nat} (h : (kuG rs)[j]? = some k) : (grX rs)[j]? = some (grE rs k) := by
  rw [List.getElem?_map, h]; rfl
theorem grE_other {rs : List Row} {x : Row} {k : GK} (h : x.1 ≠ k) : grE (rs ++ [x]) k = grE rs k := by
  unfold grE; rw [cnG_snoc, smG_snoc, if_neg h, if_neg h]
theorem gr_step (rs : List Row) (x : Row) : (∃ j, pos (lkO x.1) (grK rs) = some j /\ (grX rs)[j]? = some (grE rs x.1) /\ grK (rs ++ [x]) = grK rs /\ grX (rs ++ [x]) = (grX rs).set j (.tup [.int (cnG x.1 rs + 1), .int (smG x.1 rs + x.2)])) \/
    (pos (lkO x.1) (grK rs) = none /\ grK (rs ++ [x]) = grK rs ++ [lkO x.1] /\ grX (rs ++ [x]) = grX rs ++ [.tup [.int 1, .int x.2]]) := by
  have hE : grE (rs ++ [x]) x.1 = .tup [.int (cnG x.1 rs + 1), .int (smG x.1 rs + x.2)] := by
    unfold grE; rw [cnG_snoc, smG_snoc, if_pos rfl, if_pos rfl]
  by_cases h : x.1 ∈ kuG rs
  · obtain ⟨j, h1, h2⟩ := pos_lk.1 h
    have hk : kuG (rs ++ [x]) = kuG rs := by rw [kuG_snoc, if_pos h]
    refine .inl ⟨j, h1, grX_get h2, by unfold grK; rw [hk], ?_⟩
    unfold grX
    rw [hk]
    refine List.ext_getElem? fun i => ?_
    rw [List.getElem?_set]
    have hj := (List.getElem?_eq_some_iff.mp h2).1
    by_cases e : j = i
    · subst e
      rw [if_pos rfl, if_pos (by simpa using hj), List.getElem?_map, h2, Option.map_some, hE]
    · rw [if_neg e, List.getElem?_map, List.getElem?_map]
      cases hi : (kuG rs)[i]? with
      | none => rfl
      | some k =>
        rw [Option.map_some, Option.map_some, grE_other]
        intro z
        subst z
        exact e ((List.getElem?_inj hj (kuG_nodup rs)).mp (h2.trans hi.symm))
  · have hk : kuG (rs ++ [x]) = kuG rs ++ [x.1] := by rw [kuG_snoc, if_neg h]
    refine .inr ⟨pos_lk.2 h, by unfold grK; rw [hk, List.map_append]; rfl, ?_⟩
    unfold grX
    rw [hk, List.map_append]
    have h0 : cnG x.1 rs = 0 /\ smG x.1 rs = 0 := by unfold cnG smG; rw [ofK_none h]; exact ⟨rfl, rfl⟩
    congr 1
    · refine List.map_congr_left fun k m => grE_other fun z => h (by rw [z]; exact m)
    · rw [List.map_cons, List.map_nil, hE, h0.1, h0.2, Int.zero_add, Int.zero_add]
theorem grX_sh (rs : List Row) : (grX rs).all isSh = true := by
  rw [List.all_eq_true]
  intro d m
  obtain ⟨k, _, rfl⟩ := List.mem_map.mp m
  rfl
def knG (rs : List Row) : List Int := srtI ((kuG rs).filterMap id)
def grO (rs : List Row) (k : GK) : T3 GK Int Int := ⟨k, cnG k rs, smG k rs⟩
def groupsG (rs : List Row) : List (T3 GK Int Int) := ((knG rs).map some ++ (if none ∈ kuG rs then [none] else [])).map (grO rs)
theorem h_lputP {ks : List LK} {xs : List D} {k : LK} {y : D} : lputP ks xs k y = match pos k ks with
  | none => some (ks ++ [k], xs ++ [y])
  | some j => if xs.all isSh = true then some (ks, xs.set j y) else none := rfl
theorem h_lputD {m : Bool} {ks : List LK} {xs : List D} {i d : D} : lputD (.olf m ks xs) [i, d] = if xs.length < 1000000 then (keyL m i).bind fun k => (lputP ks xs k d).map fun q => (.olf m q.1 q.2, .non) else none := rfl
theorem h_dicLo {m : Bool} {ks : List LK} {xs : List D} : dicL (.olf m ks xs) = some (m, ks, xs) := rfl
theorem h_ksLo {m : Bool} {ks : List LK} {xs : List D} : ksL (.olf m ks xs) = some (ks.map lkD) := rfl
theorem grK_lkD (rs : List Row) : (grK rs).map lkD = (kuG rs).map enc := by
  rw [List.map_map]; exact List.map_congr_left fun k _ => lkD_opt k
theorem grX_len (rs : List Row) : (grX rs).length <= rs.length := by rw [List.length_map]; exact kuG_len rs
theorem h_sumE {ns : List Int} : sumI (ns.map (enc : Int -> D)) = some (.int ns.sum) := h_sumI
local macro_rules | `(tactic| walk_at "evg") => `(tactic| dsimp? only [h_sumE, h_dicLo, h_ksLo, h_lputD, h_lputP, e_xLnew, e_xLix, e_xLget2, e_xLin, e_xsLput, h_lputK, h_xiLfF, h_xiLfP, e_xSortSc, keyL_opt, keyL_non, keyL_int, it_t3, sF_t3, sFI_t3, ty_t3, len_t3, lenI_t3, fl_t3, xg_t3, it_tS, u_is_integer, it_pair, sF_pair, so_pair, ty_pair, len_pair, lenI_pair, fl_pair, xg_pair, enc_int, isN_opt, sh_enc, fz_enc, shl_enc, fzl_enc, fl_enc, ok_enc, okl_enc, eq_enc, eql_enc, en_enc, ne_enc, nn_enc, decide_true, enumD_enc])
theorem gr_turn (φ : Sem) (ys : List Row) (x : Row) (t o2 o3 o4 o5 : Option D) (hl : ys.length <= 1000) : ∃ o2' o3' o4', forK (xgT 2 (xgsCons (xgN W 2) (xgsCons (xgN W 3) (xgsNil W)))) (l1_plain_groups W φ) [] (enc x) [t, some (grD ys), o2, o3, o4, o5] = .nx [t, some (grD (ys ++ [x])), o2', o3', o4', o5] := by
  obtain ⟨k, w⟩ := x
  have hx := grX_len ys
  have hs := grX_sh ys
  have e0 : grD ys = .olf false (grK ys) (grX ys) := rfl
  have e1 : grD (ys ++ [(k, w)]) = .olf false (grK (ys ++ [(k, w)])) (grX (ys ++ [(k, w)])) := rfl
  rw [e0, e1]
  rcases gr_step ys (k, w) with ⟨j, h1, h2, h3, h4⟩ | ⟨h1, h3, h4⟩
  · rw [h3, h4]
    dsimp only at h1 h2 h3 h4 ⊢
    unfold grE at h2
    generalize grK ys = ks at *
    generalize grX ys = xs at *
    generalize cnG k ys = c at *
    generalize smG k ys = s at *
    refine ⟨some (enc k), some (.int w), some (.tup [.int c, .int s]), ?_⟩
    unfold l1_plain_groups
    walk_at "evg"
    rw [h1]
    walk_at "evg"
    rw [h2]
    walk_at "evg"
    rw [h1]
    walk_at "evg"
  · rw [h3, h4]
    dsimp only at h1 h3 h4 ⊢
    generalize grK ys = ks at *
    generalize grX ys = xs at *
    refine ⟨some (enc k), some (.int w), some (.tup [.int 0, .int 0]), ?_⟩
    unfold l1_plain_groups
    walk_at "evg"
    rw [h1]
    walk_at "evg"
    rw [h1]
    walk_at "evg"
    rw [Int.zero_add]
theorem ku_some (ks : List GK) : (ks.flatMap fun k => match k with | none => ([] : List D) | some i => [enc i]) = (ks.filterMap id).map enc := by
  induction ks with
  | nil => rfl
  | cons k ks ih =>
    rw [List.flatMap_cons, ih]
    cases k <;> rfl
theorem knG_mem {rs : List Row} {i : Int} : i ∈ knG rs ↔ some i ∈ kuG rs := by
  unfold knG
  rw [(srtI_perm _).mem_iff, List.mem_filterMap]
  constructor
  · rintro ⟨a, h1, h2⟩
    have h2 : a = some i := h2
    rw [<- h2]; exact h1
  · intro h
    exact ⟨_, h, rfl⟩
theorem enc_someI (l : List Int) : l.map (enc : Int -> D) = (l.map some).map (enc : GK -> D) := by
  rw [List.map_map]; rfl
theorem f_plain_groups (k : Nat) (rs : List Row) (hl : rs.length <= 1000) : semT (tbl W) (k + 1) "plain_groups" [tS rs] none = .ok (.olst ((groupsG rs).map enc)) none := by
  rw [sem_plain_groups]
  unfold b_plain_groups
  walk_at "evg"
  generalize hF : forL _ _ _ = r
  obtain ⟨e', rfl, o2, o3, o4, rfl⟩ := forL_enc (fun ys e => ∃ o2 o3 o4, e = [some (tS rs), some (grD ys), o2, o3, o4, none]) hF ⟨none, none, none, rfl⟩ (by
    rintro ys x zs _ hx ⟨o2, o3, o4, rfl⟩
    obtain ⟨a, b, c, h⟩ := gr_turn (W := W) (semT (tbl W) k) ys x (some (tS rs)) o2 o3 o4 none (by rw [hx] at hl; simp at hl; omega)
    exact ⟨_, .inl h, a, b, c, rfl⟩)
  clear hF
  have hg : grD rs = .olf false (grK rs) (grX rs) := rfl
  have hk := grK_lkD rs
  have hkl : (kuG rs).length <= 1000 := Nat.le_trans (kuG_len rs) hl
  have hp : ∀ q : GK, q ∈ kuG rs -> ∃ j, pos (lkO q) (grK rs) = some j /\ (grX rs)[j]? = some (grE rs q) := fun q m => by
    obtain ⟨j, h1, h2⟩ := pos_lk.1 m
    exact ⟨j, h1, grX_get h2⟩
  have hn : none ∉ kuG rs -> pos (lkO none) (grK rs) = none := fun m => pos_lk.2 m
  have hfl := List.length_filterMap_le id (kuG rs)
  have hkn : (knG rs).length <= 1000 := by unfold knG; rw [srtI_len]; omega
  have hkl2 : (grK rs).length <= 1000 := by rw [List.length_map]; exact hkl
  have hG : groupsG rs = ((knG rs).map some ++ (if none ∈ kuG rs then [none] else [])).map (grO rs) := rfl
  rw [hg, hG]
  have hm : ∀ q ∈ (knG rs).map some ++ (if none ∈ kuG rs then [none] else []), q ∈ kuG rs := fun q m => by
    rcases List.mem_append.mp m with m | m
    · obtain ⟨i, h1, rfl⟩ := List.mem_map.mp m
      exact knG_mem.mp h1
    · by_cases h : none ∈ kuG rs
      · rw [if_pos h] at m
        rw [List.mem_singleton.mp m]; exact h
      · rw [if_neg h] at m; cases m
  generalize hgk : grK rs = ks at *
  generalize hgx : grX rs = xs at *
  walk_at "evg"
  rw [hk]
  rw [lcL_map (enc := (enc : GK -> D)) (g := fun k => match k with | none => ([] : List D) | some i => [enc i]) (kuG rs) (by
    intro q m
    cases q with
    | none => unfold lc1; walk_at "evg"
    | some i => unfold lc1; walk_at "evg"; rfl), ku_some]
  walk_at "evg"
  rw [srt_int, <- show knG rs = srtI ((kuG rs).filterMap id) from rfl]
  generalize knG rs = ms at *
  walk_at "evg"
  have fin : ∀ L : List GK, (∀ q ∈ L, q ∈ kuG rs) -> lcL (lc1 (xgN W 2) (xtYes W) (xTup (xaCons (xVar W 2) (xaCons (xIx (xLix (xVar W 1) (xVar W 2)) (xInt W 0)) (xaCons (xIx (xLix (xVar W 1) (xVar W 2)) (xInt W 1)) (xaNil W)))))
      [some (tS rs), some (.olf false ks xs), none, o3, o4, some (.olst (L.map enc))]) (L.map enc) = some ((L.map (grO rs)).map enc) := by
    intro L hq
    refine lcL_mapE (enc := (enc : GK -> D)) (enc2 := (enc : T3 GK Int Int -> D)) (grO rs) L fun q m => ?_
    obtain ⟨j, h1, h2⟩ := hp q (hq q m)
    unfold grE at h2
    unfold lc1
    walk_at "evg"
    rw [h1]
    walk_at "evg"
    rw [h2]
    walk_at "evg"
    rfl
  by_cases h : none ∈ kuG rs
  · obtain ⟨j, h1, _⟩ := hp none h
    rw [if_pos h] at hm ⊢
    rw [h1, enc_someI, show (some j).isSome = true from rfl]
    walk_at "evg"
    have e : (ms.map some).map (enc : GK -> D) ++ [.non] = (ms.map some ++ [none]).map enc := by rw [List.map_append]; rfl
    rw [e, fin _ hm]
    walk_at "evg"
  · rw [if_neg h] at hm ⊢
    rw [hn h, enc_someI, show (none : Option Nat).isSome = false from rfl]
    rw [List.append_nil] at hm ⊢
    walk_at "evg"
    rw [fin _ hm]
    walk_at "evg"
theorem scL_mapE {α : Type} {g : α -> D} {f : D -> Option D} (h : α -> Int) (xs : List α) (hf : ∀ a ∈ xs, f (g a) = some (.int (h a))) : scL f (xs.map g) = some (xs.map h) := by
  induction xs with
  | nil => rfl
  | cons x xs ih =>
    show (f (g x)).bind _ = _
    rw [hf x (List.mem_cons_self ..), Option.bind_some]
    show (scL f (xs.map g)).map _ = _
    rw [ih fun a m => hf a (List.mem_cons_of_mem _ m)]
    rfl
def boundsG (rs : List Row) (R : Int) : List Pr := (withIx 0 (knG rs)).map fun p => (p.2, p.1 / R)
theorem srtI_strict {l : List Int} (h : l.Nodup) : (srtI l).Pairwise (· < ·) := by
  have h1 := srtI_asc l
  have h2 : (srtI l).Nodup := (srtI_perm l).nodup_iff.mpr h
  exact (List.pairwise_and_iff.mpr ⟨h1, h2⟩).imp fun ⟨a, b⟩ => by omega
theorem nodup_filterMap_id {l : List GK} (h : l.Nodup) : (l.filterMap id).Nodup := by
  induction l with
  | nil => exact .nil
  | cons x l ih =>
    rw [List.nodup_cons] at h
    cases x with
    | none => exact ih h.2
    | some i =>
      show (i :: l.filterMap id).Nodup
      rw [List.nodup_cons]
      refine ⟨fun m => h.1 ?_, ih h.2⟩
      obtain ⟨a, h1, h2⟩ := List.mem_filterMap.mp m
      have h2 : a = some i := h2
      rw [<- h2]; exact h1
theorem kn_ents (rs : List Row) : ssI ((srtR (ents rs)).map (·.1)) = knG rs := by
  refine sorted_uniq (ssI_sorted _) (srtI_strict (nodup_filterMap_id (kuG_nodup rs))) fun k => ?_
  rw [ssI_mem]
  refine Iff.trans ?_ (knG_mem (rs := rs) (i := k)).symm
  rw [kuG_mem, List.mem_map]
  constructor
  · rintro ⟨p, h1, rfl⟩
    have h1 := (srtR_perm (ents rs)).mem_iff.mp h1
    unfold ents at h1
    obtain ⟨q, h2, h3⟩ := List.mem_filterMap.mp h1
    obtain ⟨j, h2⟩ := List.mem_iff_getElem?.mp h2
    rw [withIx_get] at h2
    obtain ⟨r, h4, rfl⟩ := Option.map_eq_some_iff.mp h2
    obtain ⟨i, h5, rfl⟩ := Option.map_eq_some_iff.mp h3
    exact ⟨r, List.mem_of_getElem? h4, h5⟩
  · rintro ⟨r, h1, h2⟩
    obtain ⟨j, h1⟩ := List.mem_iff_getElem?.mp h1
    refine ⟨(k, 0 + (j : Int)), (srtR_perm (ents rs)).mem_iff.mpr ?_, rfl⟩
    unfold ents
    refine List.mem_filterMap.mpr ⟨(0 + (j : Int), r), List.mem_of_getElem? (i := j) ?_, ?_⟩
    · rw [withIx_get, h1]; rfl
    · rw [h2]; rfl
theorem f_group_depth_bounds (k : Nat) (rs : List Row) (R : Int) (hl : rs.length < 64) (hR : 0 < R) (hR2 : R <= 1000) : semT (tbl W) (k + 2) "group_depth_bounds" [tS rs, .int R] none = .ok (.olst ((boundsG rs R).map enc)) none := by
  rw [sem_group_depth_bounds]
  unfold b_group_depth_bounds
  have te := f_entries (W := W) k rs (by omega)
  have hse := srtR_len (ents rs)
  have hle : (ents rs).length <= rs.length := by
    have := List.length_filterMap_le (fun p : Int × Row => p.2.1.map fun k => (k, p.1)) (withIx 0 rs)
    rw [withIx_length] at this
    exact this
  have hkn := kn_ents rs
  have hwl := withIx_length 0 (knG rs)
  have hkl : (knG rs).length <= rs.length := by
    have h1 := List.length_filterMap_le id (kuG rs)
    have h2 := kuG_len rs
    unfold knG
    rw [srtI_len]; omega
  walk_at "evg"
  rw [te]
  walk_at "evg"
  rw [scL_mapE (g := (enc : Pr -> D)) (fun p => p.1) (srtR (ents rs)) (by
    intro p m
    walk_at "evg")]
  walk_at "evg"
  rw [hkn, show (knG rs).map D.int = (knG rs).map enc from rfl]
  walk_at "evg"
  rw [lcL_mapE (enc := (enc : Int × Int -> D)) (enc2 := (enc : Pr -> D)) (fun p => (p.2, p.1 / R)) (withIx 0 (knG rs)) (by
    intro p m
    unfold lc1
    walk_at "evg"
    rfl)]
  walk_at "evg"
  rfl
def NumT (d : D) : Prop := ∃ xs, d = .tup xs /\ xs.length <= 10 /\ ∀ x ∈ xs, x = .non \/ ∃ i, x = .int i
theorem atI_nat {xs : List D} {j : Nat} {x : D} (h : xs[j]? = some x) : atI xs (0 + (j : Int)) = some x := by
  have hj := (List.getElem?_eq_some_iff.mp h).1
  obtain ⟨y, h1, h2⟩ := atI_get (xs := xs) (i := 0 + (j : Int)) (by omega) (by omega)
  have e : (0 + (j : Int)).toNat = j := by omega
  rw [e, h] at h2
  rw [h1, <- h2]
theorem it_turn2 (φ : Sem) {ds xs : List D} {q z : Int} {y : D} (ha : atI ds q = some (.tup xs)) (hb : atI xs z = some y) (hy : y = .non \/ ∃ i, y = .int i) (p4 p5 : Option D) :
    ∃ p4' p5', forK (xgN W 3) (l2_law_is_tuples W φ) [] (.int z) [some (.lst ds), some (.lst ds), some (.int q), p4, p5] = .nx [some (.lst ds), some (.lst ds), some (.int q), p4', p5'] := by
  unfold l2_law_is_tuples
  refine ⟨some (.int z), some y, ?_⟩
  rcases hy with rfl | ⟨v, rfl⟩
  · walk_at "evg"
    rw [ha]
    walk_at "evg"
    rw [hb]
    walk_at "evg"
  · walk_at "evg"
    rw [ha]
    walk_at "evg"
    rw [hb]
    walk_at "evg"
theorem it_turn1 (φ : Sem) {ds xs : List D} {q : Int} (ha : atI ds q = some (.tup xs)) (hl : xs.length <= 10) (hn : ∀ x ∈ xs, x = .non \/ ∃ i, x = .int i) (o3 o4 o5 : Option D) :
    ∃ p4 p5, forK (xgN W 2) (l1_law_is_tuples W φ) [] (.int q) [some (.lst ds), some (.lst ds), o3, o4, o5] = .nx [some (.lst ds), some (.lst ds), some (.int q), p4, p5] := by
  have loop : ∀ r2, forL (forK (xgN W 3) (l2_law_is_tuples W φ) []) (rangeD 0 (xs.length : Int).toNat) [some (.lst ds), some (.lst ds), some (.int q), o4, o5] = r2 -> ∃ p4 p5, r2 = .nx [some (.lst ds), some (.lst ds), some (.int q), p4, p5] := by
    intro r2 hF2
    obtain ⟨e2, rfl, p4, p5, rfl⟩ := forL_gen (fun j e => ∃ p4 p5, e = [some (.lst ds), some (.lst ds), some (.int q), p4, p5]) hF2 ⟨o4, o5, rfl⟩ (by
      rintro i d _ hd ⟨p4, p5, rfl⟩
      obtain ⟨hi, rfl⟩ := rangeD_get hd
      have hi : i < xs.length := by simpa using hi
      have hy : xs[i]? = some xs[i] := List.getElem?_eq_getElem hi
      obtain ⟨p4', p5', h⟩ := it_turn2 (W := W) φ ha (atI_nat hy) (hn _ (List.mem_of_getElem? hy)) p4 p5
      exact ⟨_, .inl h, _, _, rfl⟩)
    exact ⟨_, _, rfl⟩
  generalize hr : forK _ _ _ _ _ = r
  unfold l1_law_is_tuples at hr
  revert hr
  walk_at "evg"
  rw [ha]
  walk_at "evg"
  rw [ha]
  walk_at "evg"
  rw [ha]
  walk_at "evg"
  exact loop r
theorem u_is_tuples (k : Nat) (ds : List D) (hn : ∀ d ∈ ds, NumT d) (hl : ds.length <= 1000) (ho : okDs 59 ds = true) (he : eqBs ds ds = true) : semT (tbl W) (k + 1) "_law_is_tuples" [.lst ds, .lst ds] none = .ok (.bl true) none := by
  rw [sem_law_is_tuples]
  unfold b_law_is_tuples
  walk_at "evg"
  generalize hF : forL _ _ _ = r
  obtain ⟨e', rfl, o3, o4, o5, rfl⟩ := forL_gen (fun j e => ∃ o3 o4 o5, e = [some (.lst ds), some (.lst ds), o3, o4, o5]) hF ⟨none, none, none, rfl⟩ (by
    rintro j d _ hd ⟨o3, o4, o5, rfl⟩
    obtain ⟨hj, rfl⟩ := rangeD_get hd
    have hj : j < ds.length := by simpa using hj
    have hx : ds[j]? = some ds[j] := List.getElem?_eq_getElem hj
    obtain ⟨xs, hxs, hxl, hxn⟩ := hn _ (List.mem_of_getElem? hx)
    rw [hxs] at hx
    obtain ⟨p4, p5, h⟩ := it_turn1 (W := W) (semT (tbl W) k) (atI_nat hx) hxl hxn o3 o4 o5
    exact ⟨_, .inl h, _, _, _, rfl⟩)
  walk_at "evg"
  rw [he]
end
local macro_rules | `(tactic| walk_at "ev") => `(tactic| simp? only [])
section
variable {W : Wd TT}
local macro_rules | `(tactic| walk_at "evg") => `(tactic| dsimp? only [h_sumE, h_dicLo, h_ksLo, h_lputD, h_lputP, e_xLnew, e_xLix, e_xLget2, e_xLin, e_xsLput, h_lputK, h_xiLfF, h_xiLfP, e_xSortSc, keyL_opt, keyL_non, keyL_int, it_t3, sF_t3, sFI_t3, ty_t3, len_t3, lenI_t3, fl_t3, xg_t3, it_tS, u_is_integer, it_pair, sF_pair, so_pair, ty_pair, len_pair, lenI_pair, fl_pair, xg_pair, enc_int, isN_opt, sh_enc, fz_enc, shl_enc, fzl_enc, fl_enc, ok_enc, okl_enc, eq_enc, eql_enc, en_enc, ne_enc, nn_enc, decide_true, enumD_enc])
theorem numT_t3 (ps : List (T3 GK Int Int)) : ∀ d ∈ ps.map (enc : T3 GK Int Int -> D), NumT d := fun d m => by
  obtain ⟨p, _, rfl⟩ := List.mem_map.mp m
  obtain ⟨a, b, c⟩ := p
  refine ⟨[enc a, .int b, .int c], rfl, by simp, fun x m => ?_⟩
  rcases List.mem_cons.mp m with rfl | m
  · cases a with
    | none => exact .inl rfl
    | some i => exact .inr ⟨i, rfl⟩
  · rcases List.mem_cons.mp m with rfl | m
    · exact .inr ⟨_, rfl⟩
    · rw [List.mem_singleton.mp m]; exact .inr ⟨_, rfl⟩
theorem numT_pr (ps : List Pr) : ∀ d ∈ ps.map (enc : Pr -> D), NumT d := fun d m => by
  obtain ⟨p, _, rfl⟩ := List.mem_map.mp m
  refine ⟨[.int p.1, .int p.2], rfl, by simp, fun x m => ?_⟩
  rcases List.mem_cons.mp m with rfl | m
  · exact .inr ⟨_, rfl⟩
  · rw [List.mem_singleton.mp m]; exact .inr ⟨_, rfl⟩
theorem u_tup3 (k : Nat) (ps : List (T3 GK Int Int)) (hl : ps.length <= 1000) : semT (tbl W) (k + 1) "_law_is_tuples" [.lst (ps.map enc), .lst (ps.map enc)] none = .ok (.bl true) none :=
  u_is_tuples k _ (numT_t3 ps) (by rw [List.length_map]; exact hl) (okl_enc ps (by decide)) (by rw [eql_enc, decide_eq_true rfl])
theorem u_tup2 (k : Nat) (ps : List Pr) (hl : ps.length <= 1000) : semT (tbl W) (k + 1) "_law_is_tuples" [.lst (ps.map enc), .lst (ps.map enc)] none = .ok (.bl true) none :=
  u_is_tuples k _ (numT_pr ps) (by rw [List.length_map]; exact hl) (okl_enc ps (by decide)) (by rw [eql_enc, decide_eq_true rfl])
theorem pow_20 : powD (.int 10) (.int 20) = some (.int 100000000000000000000) := rfl
theorem mul_b20 {i : Int} (h : i.natAbs < 1000) : mulD (.int i) (.int 100000000000000000000) = some (.int (i * 100000000000000000000)) :=
  if_pos (.inr (.inr ⟨Nat.lt_of_lt_of_le h (by decide +kernel), Nat.lt_of_lt_of_le (show (100000000000000000000 : Int).natAbs < 100000000000000000001 by decide +kernel) (by decide +kernel)⟩))
theorem lawRow_val (ns : List Int) (i spread step : Int) : (lawRow ns i spread step).2.natAbs < 1000 := by
  have h1 := draws_ok ns i 3
  have h2 := draws_length ns i 3
  unfold lawRow
  match hd : draws ns i 3, h2 with
  | [a, b, c], _ =>
    have := h1 c (by rw [hd]; simp)
    dsimp only
    omega
theorem lawRows_val {ns : List Int} {i spread step : Int} {n : Nat} : ∀ r ∈ lawRows ns i n spread step, r.2.natAbs < 1000 := fun r m => by
  obtain ⟨k, _, rfl⟩ := List.mem_map.mp m
  exact lawRow_val _ _ _ _
def bigR (rs : List Row) : List Row := rs.map fun r => (r.1, r.2 * 100000000000000000000)
theorem kn_snoc (ys : List Row) (x : Row) : (kuG (ys ++ [x])).filterMap id = match x.1 with
    | none => (kuG ys).filterMap id
    | some i => if i ∈ (kuG ys).filterMap id then (kuG ys).filterMap id else (kuG ys).filterMap id ++ [i] := by
  rw [kuG_snoc]
  cases h : x.1 with
  | none => dsimp only; split <;> simp
  | some i =>
    dsimp only
    have e : i ∈ (kuG ys).filterMap id ↔ some i ∈ kuG ys := by
      rw [List.mem_filterMap]
      constructor
      · rintro ⟨a, h1, h2⟩
        have h2 : a = some i := h2
        rw [<- h2]; exact h1
      · exact fun h => ⟨_, h, rfl⟩
    by_cases m : some i ∈ kuG ys
    · rw [if_pos m, if_pos (e.mpr m)]
    · rw [if_neg m, if_neg fun z => m (e.mp z)]; simp
theorem l1_turn (φ : Sem) (x : Row) (ks : List Int) (hk : ks.length <= 1000) (s0 s1 s2 s3 s4 s5 s6 s8 s9 s10 s11 s12 s13 s14 s15 s16 : Option D) :
    forK (xgN W 5) (l1_law W φ) [] (enc x) [s0, s1, s2, s3, s4, s5, s6, some (.olst (ks.map enc)), s8, s9, s10, s11, s12, s13, s14, s15, s16] =
      .nx [s0, s1, s2, s3, s4, some (enc x), s6, some (.olst ((match x.1 with | none => ks | some i => if i ∈ ks then ks else ks ++ [i]).map enc)), s8, s9, s10, s11, s12, s13, s14, s15, s16] := by
  obtain ⟨k, w⟩ := x
  unfold l1_law
  cases k with
  | none => walk_at "evg"
  | some i =>
    walk_at "evg"
    rw [show (enc (some i) : D) = .int i from rfl, inL_int]
    by_cases h : i ∈ ks
    · rw [if_pos h, if_pos rfl, decide_eq_true h]
      walk_at "evg"
    · rw [if_neg h, if_pos rfl, decide_eq_false h, List.map_append]
      walk_at "evg"
      rfl
theorem ofK_flat (k : GK) (rs : List Row) : (rs.flatMap fun r => if r.1 = k then [(.int r.2 : D)] else []) = (ofK k rs).map enc := by
  induction rs with
  | nil => rfl
  | cons r rs ih =>
    rw [List.flatMap_cons, ih]
    unfold ofK
    by_cases h : r.1 = k
    · rw [if_pos h, List.filter_cons_of_pos (by exact decide_eq_true h)]; rfl
    · rw [if_neg h, List.filter_cons_of_neg (by rw [decide_eq_false h]; decide)]; rfl
theorem lc_worths (x : Int) (rs : List Row) (s0 s1 s2 s3 s4 s6 s7 s8 s10 s11 s12 s13 s14 s15 s16 : Option D) :
    lcL (lc1 (xgN W 5) (xtAnd (xtV (xNotN (xIx (xVar W 5) (xInt W 0)))) (xtV (xEq (xIx (xVar W 5) (xInt W 0)) (xVar W 9)))) (xIx (xVar W 5) (xInt W 1)) [s0, s1, s2, s3, s4, none, s6, s7, s8, some (.int x), s10, s11, s12, s13, s14, s15, s16]) (rs.map enc) = some ((ofK (some x) rs).map enc) := by
  rw [lcL_map (enc := (enc : Row -> D)) (g := fun r => if r.1 = some x then [(.int r.2 : D)] else []) rs, ofK_flat]
  intro r m
  obtain ⟨k, w⟩ := r
  unfold lc1
  cases k with
  | none => walk_at "evg"
  | some i =>
    walk_at "evg"
    rw [show (enc (some i) : D) = .int i from rfl]
    walk_at "evg"
    by_cases h : i = x
    · subst h
      walk_at "evg"
    · have h' : ¬ some i = some x := fun z => h (Option.some.inj z)
      rw [if_neg h', if_neg h]
theorem lc_lone (rs : List Row) (s0 s1 s2 s3 s4 s6 s7 s8 s9 s10 s11 s12 s13 s14 s15 s16 : Option D) :
    lcL (lc1 (xgN W 5) (xtV (xIsN (xIx (xVar W 5) (xInt W 0)))) (xIx (xVar W 5) (xInt W 1)) [s0, s1, s2, s3, s4, none, s6, s7, s8, s9, s10, s11, s12, s13, s14, s15, s16]) (rs.map enc) = some ((ofK none rs).map enc) := by
  rw [lcL_map (enc := (enc : Row -> D)) (g := fun r => if r.1 = none then [(.int r.2 : D)] else []) rs, ofK_flat]
  intro r m
  obtain ⟨k, w⟩ := r
  unfold lc1
  cases k with
  | none => walk_at "evg"
  | some i => walk_at "evg"
theorem ofK_len (k : GK) (rs : List Row) : (ofK k rs).length <= rs.length := by
  unfold ofK
  rw [List.length_map]
  exact List.length_filter_le _ _
theorem l2_turn (φ : Sem) (x : Int) (rs : List Row) (hl : rs.length <= 1000) (ps : List (T3 GK Int Int)) (hp : ps.length <= 1000) (s0 s1 s2 s3 s5 s6 s7 s9 s10 s11 s12 s13 s14 s15 s16 : Option D) :
    forK (xgN W 9) (l2_law W φ) [] (.int x) [s0, s1, s2, s3, some (.lst (rs.map enc)), s5, s6, s7, some (.olst (ps.map enc)), s9, s10, s11, s12, s13, s14, s15, s16] =
      .nx [s0, s1, s2, s3, some (.lst (rs.map enc)), s5, s6, s7, some (.olst ((ps ++ [grO rs (some x)]).map enc)), some (.int x), some (.olst ((ofK (some x) rs).map enc)), s11, s12, s13, s14, s15, s16] := by
  have h1 := ofK_len (some x) rs
  have h2 : grO rs (some x) = ⟨some x, ((ofK (some x) rs).length : Int), (ofK (some x) rs).sum⟩ := rfl
  rw [h2, List.map_append]
  unfold l2_law
  walk_at "evg"
  rw [lc_worths]
  generalize ofK (some x) rs = ws at *
  walk_at "evg"
  rfl
theorem lc_bounds (rs : List Row) (R : Int) (h0 : 0 < R) (h1 : R <= 1000) (hl : (knG rs).length <= 1000) (s0 s1 s2 s3 s4 s5 s8 s9 s10 s11 s12 s13 s15 s16 : Option D) :
    lcL (lc1 (xgN W 14) (xtYes W) (xTup (xaCons (xIx (xVar W 7) (xVar W 14)) (xaCons (xDiv (xVar W 14) (xVar W 6)) (xaNil W)))) [s0, s1, s2, s3, s4, s5, some (.int R), some (.lst ((knG rs).map enc)), s8, s9, s10, s11, s12, s13, none, s15, s16]) (rangeD 0 ((knG rs).length : Int).toNat) = some ((boundsG rs R).map enc) := by
  unfold boundsG
  generalize knG rs = ms at *
  rw [Int.toNat_natCast, lcL_range (g := fun k => [(enc ((ms.getD k 0, (0 + (k : Int)) / R) : Pr) : D)]) ms.length]
  · congr 1
    rw [flatMap_one, List.map_map]
    refine List.ext_getElem? fun i => ?_
    rw [List.getElem?_map, List.getElem?_map, withIx_get]
    by_cases hi : i < ms.length
    · rw [List.getElem?_range hi, List.getElem?_eq_getElem hi, Option.map_some, Option.map_some, Option.map_some]
      simp [List.getD, hi]
    · rw [List.getElem?_eq_none (by simpa using hi), List.getElem?_eq_none (l := ms) (by omega)]; rfl
  · intro k hk
    have hm : ms[k]? = some ms[k] := List.getElem?_eq_getElem hk
    have hx : atI (ms.map (enc : Int -> D)) (0 + (k : Int)) = some (.int ms[k]) := atI_nat (by rw [List.getElem?_map, hm]; rfl)
    have hg : ms.getD k 0 = ms[k] := by simp [List.getD, hk]
    rw [hg]
    generalize (0 + (k : Int)) = q at *
    unfold lc1
    walk_at "evg"
    rw [hx]
    walk_at "evg"
    rfl
theorem none_ofK {rs : List Row} : none ∈ kuG rs ↔ 0 < (ofK none rs).length := by
  rw [kuG_mem]
  unfold ofK
  rw [List.length_map]
  constructor
  · rintro ⟨r, h1, h2⟩
    exact List.length_pos_of_mem (List.mem_filter.mpr ⟨h1, decide_eq_true h2⟩)
  · intro h
    obtain ⟨r, m⟩ := List.exists_mem_of_length_pos h
    obtain ⟨h1, h2⟩ := List.mem_filter.mp m
    exact ⟨r, h1, of_decide_eq_true h2⟩
theorem law_true (W : Wd TT) (ns : List Int) (hns : ns.length <= 63) : runFn 17 (b_law W (semT (tbl W) 8)) [.scr ns] none = .ok (.bl true) none := by
  unfold b_law
  walk_at "evg"
  rw [f_law_draws 7 (by decide) (by decide) (by decide)]
  have hl := draws_length ns 0 5
  have ho := draws_ok ns 0 5
  match hd : draws ns 0 5, hl with
  | [a, b, c, d, e], _ =>
  rw [hd] at ho
  walk_at "evg"
  obtain ⟨s, hs⟩ : ∃ s : Int, atI [D.int 1, D.int 1000000007, D.int (-1)] (c % 3) = some (.int s) := by
    have : c % 3 = 0 \/ c % 3 = 1 \/ c % 3 = 2 := by omega
    rcases this with h | h | h <;> rw [h] <;> exact ⟨_, rfl⟩
  rw [hs]
  walk_at "evg"
  obtain ⟨n, hn⟩ : ∃ n : Nat, a % 41 = (n : Int) := ⟨(a % 41).toNat, by omega⟩
  rw [hn]
  rw [f_law_rows 6 (by omega) (by omega) (by omega) (by omega)]
  have hl := lawRows_length ns 1 n (1 + b % 12) s
  have hv := lawRows_val (ns := ns) (i := 1) (spread := 1 + b % 12) (step := s) (n := n)
  generalize lawRows ns 1 n (1 + b % 12) s = rs0 at *
  walk_at "evg"
  generalize hI : iteF _ _ _ _ = ri
  obtain ⟨rs, hrs, rfl⟩ : ∃ rs : List Row, rs.length = n /\ ri = .nx [some (.scr ns), some (.olst [.int a, .int b, .int c, .int d, .int e]), some (.int (1 + b % 12)), some (.int s), some (.olst (rs.map enc)), none, none, none, none, none, none, none, none, none, none, none, none] := by
    rw [<- hI]
    by_cases h3 : d % 3 = 1
    · refine ⟨bigR rs0, by unfold bigR; rw [List.length_map]; exact hl, ?_⟩
      rw [decide_eq_true h3]
      walk_at "evg"
      rw [lcL_mapE (enc := (enc : Row -> D)) (enc2 := (enc : Row -> D)) (fun r => (r.1, r.2 * 100000000000000000000)) rs0 (by
        intro r m
        unfold lc1
        walk_at "evg"
        rw [pow_20]
        walk_at "evg"
        rw [mul_b20 (hv r m)]
        walk_at "evg"
        rfl)]
      walk_at "evg"
      rfl
    · exact ⟨rs0, hl, by rw [decide_eq_false h3]; walk_at "evg"⟩
  clear hI hv hl
  have hl : rs.length <= 1000 := by omega
  have hl2 : rs.length < 64 := by omega
  walk_at "evg"
  generalize hF : forL _ _ _ = r
  obtain ⟨e', rfl, o5, rfl⟩ := forL_enc (fun ys e' => ∃ o5, e' = [some (.scr ns), some (.olst [.int a, .int b, .int c, .int d, .int e]), some (.int (1 + b % 12)), some (.int s), some (.lst (rs.map enc)), o5, some (.int (1 + e % 9)), some (.olst (((kuG ys).filterMap id).map enc)), none, none, none, none, none, none, none, none, none]) hF ⟨none, rfl⟩ (by
    rintro ys x zs _ hx ⟨o5, rfl⟩
    have h1 := List.length_filterMap_le id (kuG ys)
    have h2 := kuG_len ys
    have h3 : ys.length <= rs.length := by rw [hx]; simp
    exact ⟨_, .inl (l1_turn _ x _ (by omega) _ _ _ _ _ _ _ _ _ _ _ _ _ _ _ _), _, by rw [kn_snoc]⟩)
  clear hF
  walk_at "evg"
  rw [srt_int, <- show knG rs = srtI ((kuG rs).filterMap id) from rfl]
  walk_at "evg"
  have hkl : (knG rs).length <= rs.length := by
    have h1 := List.length_filterMap_le id (kuG rs)
    have h2 := kuG_len rs
    unfold knG
    rw [srtI_len]; omega
  generalize hF : forL _ _ _ = r
  obtain ⟨e', rfl, o9, o10, rfl⟩ := forL_enc (fun ys e' => ∃ o9 o10, e' = [some (.scr ns), some (.olst [.int a, .int b, .int c, .int d, .int e]), some (.int (1 + b % 12)), some (.int s), some (.lst (rs.map enc)), o5, some (.int (1 + e % 9)), some (.lst ((knG rs).map enc)), some (.olst ((ys.map fun i => grO rs (some i)).map enc)), o9, o10, none, none, none, none, none, none]) hF ⟨none, none, rfl⟩ (by
    rintro ys x zs _ hx ⟨o9, o10, rfl⟩
    have h3 : ys.length <= (knG rs).length := by rw [hx]; simp
    exact ⟨_, .inl (l2_turn _ x rs hl _ (by rw [List.length_map]; omega) _ _ _ _ _ _ _ _ _ _ _ _ _ _ _), _, _, by rw [List.map_append, List.map_append, List.map_append]; rfl⟩)
  clear hF
  walk_at "evg"
  rw [lc_lone]
  have hol := ofK_len none rs
  walk_at "evg"
  generalize hI : iteF _ _ _ _ = ri
  obtain rfl : ri = .nx [some (.scr ns), some (.olst [.int a, .int b, .int c, .int d, .int e]), some (.int (1 + b % 12)), some (.int s), some (.lst (rs.map enc)), o5, some (.int (1 + e % 9)), some (.lst ((knG rs).map enc)), some (.olst ((groupsG rs).map enc)), o9, o10, some (.olst ((ofK none rs).map enc)), none, none, none, none, none] := by
    rw [<- hI]
    have e1 : (knG rs).map (fun i => grO rs (some i)) = ((knG rs).map some).map (grO rs) := by rw [List.map_map]; rfl
    rw [e1]
    unfold groupsG
    by_cases h : none ∈ kuG rs
    · have h0 := none_ofK.mp h
      rw [if_pos h, decide_eq_true (by omega : (0 : Int) < ((ofK none rs).length : Int)), List.map_append, List.map_append]
      have h2 : grO rs none = ⟨none, ((ofK none rs).length : Int), (ofK none rs).sum⟩ := rfl
      rw [List.map_cons, List.map_nil, h2]
      generalize ofK none rs = ws at *
      walk_at "evg"
      rfl
    · have h0 : ¬ 0 < (ofK none rs).length := fun z => h (none_ofK.mpr z)
      rw [if_neg h, decide_eq_false (by omega : ¬ (0 : Int) < ((ofK none rs).length : Int)), List.append_nil]
      walk_at "evg"
  clear hI
  have ti := f_table_init (W := W) 5 rs hl
  have hgl : (groupsG rs).length <= 1000 := by
    unfold groupsG
    rw [List.length_map, List.length_append, List.length_map]
    split <;> simp <;> omega
  have tg := f_plain_groups (W := W) 7 rs hl
  have u3 := u_tup3 (W := W) 7 (groupsG rs) hgl
  generalize groupsG rs = gs at *
  walk_at "evg"
  rw [ti]
  walk_at "evg"
  rw [tg]
  walk_at "evg"
  rw [u3]
  walk_at "evg"
  have hR1 : 0 < 1 + e % 9 := by omega
  have hR2 : 1 + e % 9 <= 1000 := by omega
  generalize 1 + e % 9 = R at *
  rw [lc_bounds rs R hR1 hR2 (by omega), rangeD_length, Int.toNat_natCast]
  have tb := f_group_depth_bounds (W := W) 6 rs R hl2 hR1 hR2
  have hbl : (boundsG rs R).length <= 1000 := by
    unfold boundsG
    rw [List.length_map, withIx_length]; omega
  have u2 := u_tup2 (W := W) 7 (boundsG rs R) hbl
  generalize boundsG rs R = bs at *
  walk_at "evg"
  rw [tb]
  walk_at "evg"
  rw [u2]
  walk_at "evg"
  rw [tg]
  walk_at "evg"
  rw [u3]
  walk_at "evg"
  rw [u_table_len (W := W) 7 rs]
  walk_at "evg"
end
end Py
namespace Py
open PySem L2
theorem factsL {P : Program} {w : World} {K : PySem.W.Frag} {h : Heap} {mg : Str -> Option Value} {f : Addr} (X : K.In h) (G : h.Ns mainGlobals mg) (hfa : mg ("law" : Str) = some (.ref f)) (c : SaysX faL fnL K) (hPf : ((P.main.file : Str) == fileL) = true) (hPs : (P.main.scope.names.lookup ("super" : Str)).isSome = false) :
    ∃ fd : FuncData, (∀ (s : Shared) (v : Value), BindsTo s fd ⟨[v], []⟩ [("_law_script", v)]) /\ ∀ base : Heap, K.In base -> base.Ns mainGlobals mg -> FnOk P w K mg base CX0 36 f fd A_law (spL K) := by
  let W : Wd TT := fLaw TT P w K clsL fldL fldL_ok subT (fun _ _ => rfl) xL xsubT (fun _ _ => rfl) (c.fact 37 (f := fXm xL xsubT) rfl) (c.fact 38 (f := fXv xL) rfl) (c.fact 39 (f := fXc xL) rfl) (c.fact 30 (f := fCls clsL) rfl) (c.fact 31 (f := fNoat clsL fldL) rfl) (c.fact 32 (f := fIsT clsL) rfl) (c.fact 33 (f := fTO clsL) rfl) (c.fact 34 (f := fOT clsL) rfl) (c.fact 35 (f := fOO clsL subT) rfl)
  have D_plain_groups : DefAt K mg "plain_groups" "plain_groups" s_plain_groups [] [] := by
    obtain ⟨fd, F⟩ := c.def_ 0 (d := dd_plain_groups) rfl
    exact ⟨_, fd, F, He.glo_ok X G (c.fact 0 (f := fGlo "plain_groups") rfl)⟩
  have D_group_depth_bounds : DefAt K mg "group_depth_bounds" "group_depth_bounds" s_group_depth_bounds [] [] := by
    obtain ⟨fd, F⟩ := c.def_ 1 (d := dd_group_depth_bounds) rfl
    exact ⟨_, fd, F, He.glo_ok X G (c.fact 1 (f := fGlo "group_depth_bounds") rfl)⟩
  have D_is_integer : DefAt K mg "is_integer" "is_integer" s_is_integer [] [] := by
    obtain ⟨fd, F⟩ := c.def_ 2 (d := dd_is_integer) rfl
    exact ⟨_, fd, F, He.glo_ok X G (c.fact 2 (f := fGlo "is_integer") rfl)⟩
  have D_is_row : DefAt K mg "is_row" "is_row" s_is_row [] [] := by
    obtain ⟨fd, F⟩ := c.def_ 3 (d := dd_is_row) rfl
    exact ⟨_, fd, F, He.glo_ok X G (c.fact 3 (f := fGlo "is_row") rfl)⟩
  have D_law_draws : DefAt K mg "_law_draws" "_law_draws" s_law_draws [] [] := by
    obtain ⟨fd, F⟩ := c.def_ 4 (d := dd_law_draws) rfl
    exact ⟨_, fd, F, He.glo_ok X G (c.fact 4 (f := fGlo "_law_draws") rfl)⟩
  have D_law_rows : DefAt K mg "_law_rows" "_law_rows" s_law_rows [] [] := by
    obtain ⟨fd, F⟩ := c.def_ 5 (d := dd_law_rows) rfl
    exact ⟨_, fd, F, He.glo_ok X G (c.fact 5 (f := fGlo "_law_rows") rfl)⟩
  have D_law_is_tuples : DefAt K mg "_law_is_tuples" "_law_is_tuples" s_law_is_tuples [] [] := by
    obtain ⟨fd, F⟩ := c.def_ 6 (d := dd_law_is_tuples) rfl
    exact ⟨_, fd, F, He.glo_ok X G (c.fact 6 (f := fGlo "_law_is_tuples") rfl)⟩
  have B : Blt mg := ⟨He.free_ok X G (c.fact 8 (f := fFree "len") rfl), He.free_ok X G (c.fact 9 (f := fFree "range") rfl), He.free_ok X G (c.fact 10 (f := fFree "abs") rfl), He.free_ok X G (c.fact 11 (f := fFree "int") rfl), He.free_ok X G (c.fact 12 (f := fFree "bool") rfl), He.free_ok X G (c.fact 13 (f := fFree "str") rfl), He.free_ok X G (c.fact 14 (f := fFree "list") rfl), He.free_ok X G (c.fact 15 (f := fFree "tuple") rfl), He.free_ok X G (c.fact 16 (f := fFree "isinstance") rfl), He.free_ok X G (c.fact 17 (f := fFree "sorted") rfl), He.free_ok X G (c.fact 18 (f := fFree "enumerate") rfl), He.free_ok X G (c.fact 19 (f := fFree "zip") rfl), He.free_ok X G (c.fact 20 (f := fFree "sum") rfl), He.free_ok X G (c.fact 21 (f := fFree "any") rfl), He.free_ok X G (c.fact 22 (f := fFree "all") rfl), He.free_ok X G (c.fact 23 (f := fFree "max") rfl), He.free_ok X G (c.fact 24 (f := fFree "min") rfl), He.free_ok X G (c.fact 25 (f := fFree "dict") rfl), He.free_ok X G (c.fact 26 (f := fFree "set") rfl), He.free_ok X G (c.fact 27 (f := fFree "type") rfl), He.free_ok X G (c.fact 28 (f := fFree "iter") rfl), He.free_ok X G (c.fact 29 (f := fFree "super") rfl)⟩
  have C : Cs W mg := ⟨fun c h => h,
    fDun_ok (fun c h => h) (fun c => rfl) (c.fact 36 (f := fDun clsL) rfl),
    (by simp [W, fLaw, clsL]),
    He.glo_ok X G (c.fact 40 (f := fGlo "Table") rfl),
    (let ⟨fd, F⟩ := c.def_ 8 (d := de_Table___init__) rfl; ⟨_, fd, F, He.meth_ok (c.fact 41 (f := fMeth "Table" "__init__") rfl)⟩),
    (let ⟨fd, F⟩ := c.def_ 9 (d := de_Table___len__) rfl; ⟨_, fd, F, He.meth_ok (c.fact 42 (f := fMeth "Table" "__len__") rfl)⟩),
    (let ⟨fd, F⟩ := c.def_ 10 (d := de_Table___iter__) rfl; ⟨_, fd, F, He.meth_ok (c.fact 43 (f := fMeth "Table" "__iter__") rfl)⟩),
    (let ⟨fd, F⟩ := c.def_ 11 (d := de_Table_entries) rfl; ⟨_, fd, F, He.meth_ok (c.fact 44 (f := fMeth "Table" "entries") rfl)⟩),
    ⟨_, He.mkr_ok (c.fact 45 (f := fMkr "Table") rfl)⟩⟩
  obtain ⟨fdL, FL⟩ := c.def_ 7 (d := dd_law) rfl
  have e := hfa.symm.trans (He.glo_ok X G (c.fact 7 (f := fGlo "law") rfl))
  cases e
  have b := FunD.bindsA (ps := A_law) FL bp_law
  refine ⟨fdL, fun s v => b s [v] rfl, fun base _ _ => ?_⟩
  exact ok_law (W := W) (ds_all (W := W) (base := base) D_plain_groups D_group_depth_bounds D_is_integer D_is_row D_law_draws D_law_rows D_law_is_tuples C B 8) C FL B (spL_spR (W := W) (law_true W))
end Py
open PySem PySem.W PySem.Calls PyProof.Rows
theorem PySem.Challenge.cw_anyhashes_k77_plain_groups_holds : PySem.Challenge.rw_anyhashes_k77_plain_groups.Holds :=
  Py.headL Py.factsL
