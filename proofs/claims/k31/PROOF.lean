import PyProof.Rows.All
import HandS.HeadHook2
import HandS.Head0
import HandS.Head1
import HandS.Head2
import HandS.HeadEnd
import HandS.HeadHook1
import HandS.HeadNt
import Wide.All
import OpenK.AllK
import Wide.FinOn
import KE.KFromBytes
import KE.KSuper
import KE.KExcSuper
import KE.KExcIs
import HandS.ForMost
import HandS.Exc
import HandS.ExcOwn
import HandS.ExcSuper
import HandS.TryOnly
import HandS.TryMany
import HandS.CallSlots
import KE.KDictCopyH
import PyProof.DictIter
import HandS.ExcIs
import KE.KDictKeyed
import HandS.IsInst
import HandS.Wide
import HandS.Defaults
import HandS.Zip
import HandS.More
import KE.SortData
import HandS.Property
import HandS.MakeKwOnly
import HandS.SortKw
import HandS.IterVal
import HandS.OwnIter
import HandS.OwnEq
import KE.DataMinMax
import KE.KTupSum
import HandS.Deep
import HandS.Dict
import HandS.DictComp
import HandS.NoneIn
import HandS.SetKeys
import HandS.Iter
import HandS.SetFor
import HandS.Strs
import PyProof.Rows.SetFrom
import HandS.ExcField
import KE.GoesMore
import PyProof.Draws
import HandS.Conv
import HandS.TupLen
import KE.KWithOwn
import HandS.GenList
import HandS.GenYield
import HandS.TupAny
import HandS.Style
import HandS.ClsMeth
import HandS.Nested
import HandS.New0
import KE.GoesComp
import KE.GoesRaise
import HandS.GenOver
import PyProof.GenRules
import PyProof.Rows.Range3
import KE.KxField
import HandS.FStr
import HandS.Text
import PyProof.StrOps2
import PyProof.Rows.TupTab
import KE.KDictDisplayH
import KE.GoesSet
import HandS.TupSets
import PySem.Challenge.RW_anyhashes_k31_pass_any_record_order
set_option Elab.async false
set_option linter.all false
set_option maxRecDepth 100000
set_option maxHeartbeats 8000000
namespace Py
open PySem L2
inductive LK where
  | non | bl (b : Bool) | num (i : Int) | txt (x : String)
  deriving DecidableEq
abbrev XPred := Program -> World -> Nat -> Addr -> List V -> List V -> Heap -> Prop
inductive D where
  | non | bl (b : Bool) | int (i : Int) | str (x : String) | cls (c : String) | sei (xs : List Int)
  | scr (ns : List Int) | tup (xs : List D) | lst (xs : List D) | dic (ks : List Key) (xs : List D) | dit (ks : List (List Key)) (xs : List D) | dig (ks : List NestedKey) (xs : List D) | dlf (m : Bool) (ks : List LK) (xs : List D) | xt (t : String) (φ : XPred) (ks xs : List D) | len (xs : List D) | ins (c : String) (ns : List String) (xs : List D)
  | olst (xs : List D) | odic (ks : List Key) (xs : List D) | odit (ks : List (List Key)) (xs : List D) | odig (ks : List NestedKey) (xs : List D) | olf (m : Bool) (ks : List LK) (xs : List D) | oxt (t : String) (φ : XPred) (ks xs : List D) | otup (xs : List D) | oins (c : String) (ns : List String) (xs : List D)
abbrev so : String -> Str := Str.ofString
abbrev FB := PySem.W.Frag -> Bool
abbrev ga (K : PySem.W.Frag) (c : String) : Addr := He.ga K (so c)
abbrev ma (K : PySem.W.Frag) (c m : String) : Addr := He.ma K (ga K c) (so m)
structure DefX where
  ad : PySem.W.Frag -> Addr
  name : Str
  qual : Str
  st : Stmt
  dfl : List He.Dv := []
  kwd : List (Str × He.Dv) := []
  /-- an __init__ that says super() -/
  cl : Bool := false
def fnX (K : PySem.W.Frag) (a : Addr) : He.FnW := match K.lookup a with
  | some ⟨_, _, .func fd, _⟩ => some (fd.name, fd.qualname, fd.params, fd.body, fd.scope, fd.globals, fd.closure, fd.builtins)
  | _ => none
def fnXc (K : PySem.W.Frag) (a : Addr) : He.FnW := match K.lookup a with
  | some ⟨_, _, .func fd, _⟩ => some (fd.name, fd.qualname, fd.params, fd.body, fd.scope, fd.globals, fd.closure.map fun p => (p.1, 0), fd.builtins)
  | _ => none
def fnXd (K : PySem.W.Frag) (d : DefX) : He.FnW := match d.cl with
  | true => fnXc K (d.ad K)
  | false => fnX K (d.ad K)
def DefX.val (d : DefX) : He.FnW := some (d.name, d.qual, defArgs d.st, .stmts (defBody d.st), defScope d.st, mainGlobals, (match d.cl with | true => [(("__class__" : Str), 0)] | false => []), builtinsNs)
def DefX.dvs (K : PySem.W.Frag) (d : DefX) : List V := d.dfl.map (He.Dv.v K)
def DefX.kws (K : PySem.W.Frag) (d : DefX) : List (Str × V) := d.kwd.map fun q => (q.1, q.2.v K)
def DefX.ok (K : PySem.W.Frag) (d : DefX) : Bool := PySem.W.keepIn K (.ref (d.ad K)) && (match K.lookup (d.ad K) with
  | some ⟨_, _, .func fd, _⟩ => PySem.W.codeIn K fd.code d.qual && (He.dflB K fd.defaults (d.dvs K) && He.kwdB K fd.kwdefaults (d.kws K))
  | _ => false)
def obsX (fa : List FB) (fn : List DefX) (K : PySem.W.Frag) : He.AlD := ((fa.all fun f => f K) && fn.all fun d => d.ok K, fn.map fun d => fnXd K d)
def valX (fn : List DefX) : He.AlD := (true, fn.map DefX.val)
def SaysX (fa : List FB) (fn : List DefX) (K : PySem.W.Frag) : Prop := obsX fa fn K = valX fn
def refsN (o : Obj) : List Addr := match o.data with
  | .cls cd => [cd.ns]
  | .func fd => He.refV fd.code ++ (He.refV fd.kwdefaults ++ fd.closure.map (·.2))
  | .dict es _ => es.toList.flatMap fun e => He.refV e.val
  | _ => []
def refsP (o : Obj) : List Addr := match o.data with
  | .fields vs => vs.toList.flatMap He.refV
  | _ => []
def isFnO (o : Obj) : Bool := match o.data with
  | .func _ => true
  | _ => false
def isClsO (o : Obj) : Bool := match o.data with
  | .cls _ => true
  | _ => false
def isFldO (o : Obj) : Bool := match o.data with
  | .fields _ => true
  | _ => false
def outG (g : Addr -> Option Obj) (p : Obj -> Bool) (f : Obj -> List Addr) (as : List Addr) : List Addr := as.flatMap fun a => match g a with
  | some o => (match p o with
    | true => f o
    | false => [])
  | none => []
def asN (g : Addr -> Option Obj) : List Addr :=
  let l1 := outG g (fun _ => true) refsN [mainGlobals]
  let c := outG g isClsO refsN l1
  let m := outG g (fun _ => true) refsN c
  let p := outG g isFldO refsP m
  mainGlobals :: (c ++ (l1 ++ (m ++ (outG g isFnO refsN m ++ (outG g isFnO refsN l1 ++ (p ++ outG g isFnO refsN p))))))
def obsXG (n : Nat) (fa : List FB) (fn : List DefX) (g : Addr -> Option Obj) : He.AlD := obsX fa fn (He.frG g (match n with
  | 0 => PySem.cStatics :: asN g
  | n => PySem.cStatics :: He.asD g n))
def hookX (n : Nat) (fa : List FB) (fn : List DefX) : PySem.W.Hook where
  α := He.AlD
  obs := fun s => obsXG n fa fn s.heap.get?
  val := fun _ => valX fn
  says := fun _ h => ∃ K : PySem.W.Frag, K.In h /\ SaysX fa fn K
  of := fun _ _ e => ⟨_, He.frG_in, e⟩
  keeps := fun _ _ _ ⟨K, hK, c⟩ k => ⟨K, PySem.W.Frag.In.keeps hK k, c⟩
def fXm (cs : List String) (sub : String -> String -> Bool) : FB := fun K => cs.all fun c => cs.all fun d => decide (PySem.W.exmOne K (.ref (ga K c)) (.ref (ga K d)) = some (sub c d)) && decide (PySem.W.kitOne K (.ref (ga K c)) (.ref (ga K d)) = some (sub c d))
def fXc (cs : List String) : FB := fun K => cs.all fun c => decide (PySem.W.findIn K (.ref (ga K c)) "__getattribute__" = some (some (.builtin "BaseException.__getattribute__"))) && (decide (PySem.W.findIn K (.ref (ga K c)) "__getattr__" = some none) && (decide (PySem.W.subIn K (.ref (ga K c)) (.type "BaseException") = some true) &&
  (PySem.W.hasDictIn K (ga K c) && (decide (PySem.W.findIn K (.ref (ga K c)) "__class__" = some (some (.builtin "object.__class__"))) && (decide (PySem.W.specialIn K (.builtin "object.__class__") "__get__" = some (some (.builtin "getset_descriptor.__get__"))) &&
  (decide (PySem.W.takesIn K (.builtin "object.__class__") = some true) && decide (PySem.W.mroIn K (ga K c) (.type "object") = some true)))))))
def fXv (cs : List String) : FB := fun K => cs.all fun c => decide (PySem.W.kitOne K (.ref (ga K c)) (.type "ValueError") = some true)
def fGlo (x : String) : FB := fun K => (He.Fa.glo (so x)).ok K
def fInt (x : String) (i : Int) : FB := fun K => (He.Fa.int (so x) i).ok K
def fFree (x : String) : FB := fun K => (He.Fa.free (so x)).ok K
def fCls (cs : List String) : FB := fun K => cs.all fun c => (He.Fa.cls (so c)).ok K
def fNoat (cs : List String) (fl : String -> List String) : FB := fun K => cs.all fun c => (fl c).all fun f => (He.Fa.noat (so c) (so f)).ok K
def fIsT (cs : List String) : FB := fun K => cs.all fun c => decide (PySem.W.findIn K (.ref (ga K c)) "__class__" = some (some (.builtin "object.__class__"))) && (decide (PySem.W.specialIn K (.builtin "object.__class__") "__get__" = some (some (.builtin "getset_descriptor.__get__"))) &&
  (decide (PySem.W.takesIn K (.builtin "object.__class__") = some true) && decide (PySem.W.mroIn K (ga K c) (.type "object") = some true)))
def tyTO : List String := ["NoneType", "bool", "int", "str", "list", "tuple", "dict"]
def tyOT : List String := ["int", "bool", "str", "list", "tuple", "dict"]
def fTO (cs : List String) : FB := fun K => tyTO.all fun t => cs.all fun c => decide (PySem.W.kitOne K (.type t) (.ref (ga K c)) = some false)
def fOT (cs : List String) : FB := fun K => cs.all fun c => tyOT.all fun t => decide (PySem.W.kitOne K (.ref (ga K c)) (.type t) = some false)
def fOO (cs : List String) (sub : String -> String -> Bool) : FB := fun K => cs.all fun c => cs.all fun d => decide (PySem.W.kitOne K (.ref (ga K c)) (.ref (ga K d)) = some (sub c d))
def fMeth (c m : String) : FB := fun K => (He.Fa.meth (so c) (so m)).ok K
def fMkr (c : String) : FB := fun K => (He.Fa.mkr (so c)).ok K
def fDun (cs : List String) : FB := fun K => cs.all fun c => PySem.W.selfFirst K (ga K c) && ((["NoneType", "bool", "int", "str", "list", "tuple", "dict"].all fun t => PySem.W.notFirst K (ga K c) (.type t)) && (match PySem.W.findIn K (.ref (ga K c)) (so "__getitem__") with
  | some (some (.ref f)) => PySem.W.fnIn K f
  | _ => true))
def clsL : List String := ["Keeper", "Pass", "Plan"]
def fldL (c : String) : List String := if c = "Keeper" then ["_room", "_held", "_least_back"] else if c = "Pass" then ["path", "how", "build", "bound", "kept", "met", "left_done", "left_rest", "right_done", "right_rest"] else if c = "Plan" then ["room", "build", "keep_from"] else []
def resT (c m : String) : Option String := if c = "Keeper" then (if m = "__len__" then some "Keeper.__len__" else if m = "offer" then some "Keeper.offer" else if m = "_hold" then some "Keeper._hold" else if m = "held" then some "Keeper.held" else if m = "least_back" then some "Keeper.least_back" else none) else if c = "Pass" then ( none) else if c = "Plan" then (if m = "build_side" then some "Plan.build_side" else none) else none
def subT (c d : String) : Bool := if c = "Keeper" then (["Keeper"]).contains d else if c = "Pass" then (["Pass"]).contains d else if c = "Plan" then (["Plan"]).contains d else false
def xL : List String := []
def xsubT (c d : String) : Bool :=  false
def top (i : Nat) : Stmt := PySem.Challenge.pw_anyhashes_k31_pass_any_record_order.main.body.getD i (.Pass ⟨0, 0, 0, 0⟩)
def inClass (s : Stmt) (j : Nat) : Stmt := match s with
  | .ClassDef _ _ _ body _ _ _ _ _ _ _ => body.getD j (.Pass ⟨0, 0, 0, 0⟩)
  | s => s
abbrev s_choose_kept : Stmt := top 5
abbrev s_meetings : Stmt := top 6
abbrev s_with_marks : Stmt := top 7
abbrev s_is_finished : Stmt := top 8
abbrev s_make_pass : Stmt := top 9
abbrev s_is_integer : Stmt := top 14
abbrev s_law_draws : Stmt := top 20
abbrev s_law_records : Stmt := top 21
abbrev s_law_fields : Stmt := top 22
abbrev s_Keeper___init__ : Stmt := inClass (top 2) 0
abbrev s_Keeper___len__ : Stmt := inClass (top 2) 1
abbrev s_Keeper_offer : Stmt := inClass (top 2) 2
abbrev s_Keeper__hold : Stmt := inClass (top 2) 3
abbrev s_Keeper_held : Stmt := inClass (top 2) 4
abbrev s_Keeper_least_back : Stmt := inClass (top 2) 5
abbrev s_Pass___init__ : Stmt := inClass (top 4) 0
abbrev s_Plan___init__ : Stmt := inClass (top 18) 0
abbrev s_Plan_build_side : Stmt := inClass (top 18) 2
abbrev s_law : Stmt := top 23
def dd_choose_kept : DefX := ⟨fun K => ga K "choose_kept", "choose_kept", "choose_kept", s_choose_kept, [], [], false⟩
def dd_meetings : DefX := ⟨fun K => ga K "meetings", "meetings", "meetings", s_meetings, [], [], false⟩
def dd_with_marks : DefX := ⟨fun K => ga K "with_marks", "with_marks", "with_marks", s_with_marks, [], [], false⟩
def dd_is_finished : DefX := ⟨fun K => ga K "is_finished", "is_finished", "is_finished", s_is_finished, [], [], false⟩
def dd_make_pass : DefX := ⟨fun K => ga K "make_pass", "make_pass", "make_pass", s_make_pass, [], [], false⟩
def dd_is_integer : DefX := ⟨fun K => ga K "is_integer", "is_integer", "is_integer", s_is_integer, [], [], false⟩
def dd_law_draws : DefX := ⟨fun K => ga K "_law_draws", "_law_draws", "_law_draws", s_law_draws, [], [], false⟩
def dd_law_records : DefX := ⟨fun K => ga K "_law_records", "_law_records", "_law_records", s_law_records, [], [], false⟩
def dd_law_fields : DefX := ⟨fun K => ga K "_law_fields", "_law_fields", "_law_fields", s_law_fields, [], [], false⟩
def dd_law : DefX := ⟨fun K => ga K "law", "law", "law", s_law, [], [], false⟩
def de_Keeper___init__ : DefX := ⟨fun K => ma K "Keeper" "__init__", "__init__", "Keeper.__init__", s_Keeper___init__, [], [], false⟩
def de_Keeper___len__ : DefX := ⟨fun K => ma K "Keeper" "__len__", "__len__", "Keeper.__len__", s_Keeper___len__, [], [], false⟩
def de_Keeper_offer : DefX := ⟨fun K => ma K "Keeper" "offer", "offer", "Keeper.offer", s_Keeper_offer, [], [], false⟩
def de_Keeper__hold : DefX := ⟨fun K => ma K "Keeper" "_hold", "_hold", "Keeper._hold", s_Keeper__hold, [], [], false⟩
def de_Keeper_held : DefX := ⟨fun K => ma K "Keeper" "held", "held", "Keeper.held", s_Keeper_held, [], [], false⟩
def de_Keeper_least_back : DefX := ⟨fun K => ma K "Keeper" "least_back", "least_back", "Keeper.least_back", s_Keeper_least_back, [], [], false⟩
def de_Pass___init__ : DefX := ⟨fun K => ma K "Pass" "__init__", "__init__", "Pass.__init__", s_Pass___init__, [], [], false⟩
def de_Plan___init__ : DefX := ⟨fun K => ma K "Plan" "__init__", "__init__", "Plan.__init__", s_Plan___init__, [], [("build", .str (so "right")), ("keep_from", .int 0)], false⟩
def de_Plan_build_side : DefX := ⟨fun K => ma K "Plan" "build_side", "build_side", "Plan.build_side", s_Plan_build_side, [], [], false⟩
def fnL : List DefX := [dd_choose_kept, dd_meetings, dd_with_marks, dd_is_finished, dd_make_pass, dd_is_integer, dd_law_draws, dd_law_records, dd_law_fields, dd_law, de_Keeper___init__, de_Keeper___len__, de_Keeper_offer, de_Keeper__hold, de_Keeper_held, de_Keeper_least_back, de_Pass___init__, de_Plan___init__, de_Plan_build_side]
def fileL : Str := PySem.Challenge.pw_anyhashes_k31_pass_any_record_order.main.file
def faL : List FB := [fGlo "choose_kept", fGlo "meetings", fGlo "with_marks", fGlo "is_finished", fGlo "make_pass", fGlo "is_integer", fGlo "_law_draws", fGlo "_law_records", fGlo "_law_fields", fGlo "law", fFree "len", fFree "range", fFree "abs", fFree "int", fFree "bool", fFree "str", fFree "list", fFree "tuple", fFree "isinstance", fFree "sorted", fFree "enumerate", fFree "zip", fFree "sum", fFree "any", fFree "all", fFree "max", fFree "min", fFree "dict", fFree "set", fFree "type", fFree "iter", fFree "super", fCls clsL, fNoat clsL fldL, fIsT clsL, fTO clsL, fOT clsL, fOO clsL subT, fDun clsL, fXm xL xsubT, fXv xL, fXc xL, fGlo "Keeper", fMeth "Keeper" "__init__", fMeth "Keeper" "__len__", fMeth "Keeper" "offer", fMeth "Keeper" "_hold", fMeth "Keeper" "held", fMeth "Keeper" "least_back", fMkr "Keeper", fGlo "Pass", fMeth "Pass" "__init__", fMkr "Pass", fGlo "Plan", fMeth "Plan" "__init__", fMeth "Plan" "build_side", fMkr "Plan", fInt "MOST_ROOM" 100, fInt "DEEPEST_KEEP" 8]
def nmL : List Str := (["_wall", "Keeper", "Pass", "choose_kept", "meetings", "with_marks", "is_finished", "make_pass", "JoinError", "BadPlan", "is_integer", "MOST_ROOM", "DEEPEST_KEEP", "Plan", "_law_draws", "_law_records", "_law_fields"] : List Str)
abbrev lawAt : Nat := 23
theorem obsXG_eq {n : Nat} {fa : List FB} {fn : List DefX} {g : Addr -> Option Obj} {s : Shared} (h : ∀ a, g a = s.heap.get? a) : obsXG n fa fn g = (hookX n fa fn).obs s := by
  have e : g = s.heap.get? := funext h
  rw [e] <;> rfl
abbrev RowL : PySem.W.OpenRow := PySem.W.OpenLaw.row PySem.Challenge.rw_anyhashes_k31_pass_any_record_order
abbrev hkL : PySem.W.Hook := hookX 0 faL fnL
def obL (s : PySem.W.SharedT) : He.AlD := obsXG 0 faL fnL (HandSHeadRun.getT s)
theorem obL_eq (s : PySem.W.SharedT) : obL s = hkL.obs s.abs := obsXG_eq (HandSHeadRun.getT_eq s)
theorem runL (w : World) : HandSHeadRun.RunEq RowL (PySem.W.view RowL.prog [lawAt]) hkL obL 12000 nmL w := by
  intro os
  kernel_rfl
end Py
namespace PySem
namespace PxE
open PySem.W PySem.Calls PyProof.Rows PySem.HandSPX
abbrev selfN : Str := "self"
inductive IsAsgs : List Stmt -> List Str -> Prop
  | nil : IsAsgs [] []
  | cons {f : Str} {p1 p2 p3 p4 : Pos} {r : List Stmt} {fs : List Str} : IsAsgs r fs -> IsAsgs (.Assign [.Attribute (.Name "self" p1) f p2] (.Name f p3) p4 :: r) (f :: fs)
def IsSup (qual : Str) (scope : Scope) (msg : Str) (s : Stmt) : Prop := ∃ (p0 p1 p2 p3 p4 p5 : Pos) (k : Nat), s = .Expr (.Call (.Attribute (.Call (.Name "super" p0) [] [] p1) "__init__" p2) [.Constant (.str msg) k p3] [] p4) p5 /\
  ∀ (L a : Addr) (cd : Value) (cc : Addr), ∃ pl : PySem.Sem Bool, eval (.Call (.Attribute (.Call (.Name "super" p0) [] [] p1) "__init__" p2) [.Constant (.str msg) k p3] [] p4) (ksEnv qual scope L a cd cc) = (do
      let ov <- attributeBase (.Call (.Name "super" p0) [] [] p1) "__init__" (ksEnv qual scope L a cd cc) (eval (.Call (.Name "super" p0) [] [] p1) (ksEnv qual scope L a cd cc))
      standAt p2.atName
      let (f, first) <- holding [ov] (getMethod ov "__init__" pl)
      callWith p4 f first (backTo p4 (starEach [.Constant (.str msg) k p3] (ksEnv qual scope L a cd cc))) [])
structure ExTxt (P : Program) (K : Frag) (C fI : Addr) (qual : Str) (params : Arguments) (body : List Stmt) (scope : Scope) (fs : List Str) : Prop where
  cls : excInitIn K C veTail "ValueError.__new__" = true
  cdt : ∃ cd, clsIn K C = some cd /\ refsVE cd.mro = true /\ cd.hasDict = true
  sa : findIn K (.ref C) "__setattr__" = some (some (.builtin "object.__setattr__"))
  noN : ∀ f ∈ fs, findIn K (.ref C) f = some none
  iC : findIn K (.ref C) "__init__" = some (some (.ref fI))
  tC : typeIn K (.ref fI) = some (.type "function")
  exC : subIn K (.ref C) (.type "BaseException") = some true
  veC : subIn K (.ref C) (.type "ValueError") = some true
  tyC : typeIn K (.ref C) = some (.type "type")
  opq : nsIn K cStatics "thirdparty.any" = some none
  sup : ks_superIn K C C "__init__" = some (some (.builtin "ValueError.__init__"))
  slf : mroIn K C (.ref C) = some true
  fn : ∃ (oc : Value) (od : Option Addr) (doc pm : Value) (an : Option Addr) (ct : Value) (osl : Array (Option Value)) (cda cc : Addr) (ccl : Value) (cdd : Option Addr) (vs : Array Value) (ccs : Array (Option Value)) (file : Str) (tf : Tok) (cl : Value) (cld : Option Addr) (csl : Array (Option Value)),
    K.lookup fI = some ⟨oc, od, .func (ksFn "__init__" qual params body scope .none .none doc pm an (.ref cda) ct cc), osl⟩ /\ codeIn K (.ref cda) qual = true /\ K.lookup cda = some ⟨ccl, cdd, .fields vs, ccs⟩ /\ vs[2]? = some (.str file tf) /\ ((P.main.file : Str) == file) = true /\
      K.lookup cc = some ⟨cl, cld, .cell (some (.ref C)), csl⟩
section
open Builtin Builtin.ObjectAttr
variable {prog : Program} {w : World} {A : Around} {E : Value -> Shared -> Prop} {R : Result -> Shared -> Prop} {hp : Heap} {g : Array GenState} {d : Drawn} {t : Nat} {os : OsState}
end
structure Stored (h h' : Heap) (x C dx : Addr) (t1 : Addr) (m : Str -> Option Value) : Prop where
  keep : ∀ b o, b ≠ x -> b ≠ dx -> h.get? b = some o -> h'.get? b = some o
  obj : h'.get? x = some { cls := .ref C, dict := some dx, data := .fields #[.ref t1, .none, .none, .none, .bool false, .none] }
  ns : h'.Ns1 dx m
section
variable {prog : Program} {w : World} {A : Around} {E : Value -> Shared -> Prop} {K : Frag} {C : Addr}
structure OwnMade (h h' : Heap) (e C d : Addr) (m : Str -> Option Value) : Prop where
  keep : ∀ b o, h.get? b = some o -> h'.get? b = some o
  new : h.objs.size <= e
  obj : ∃ oe vs, h'.get? e = some oe /\ oe.cls = .ref C /\ oe.dict = some d /\ oe.data = .fields vs /\ vs[1]? = some .none
  dbig : h.objs.size <= d
  dne : d ≠ e
  ns : h'.Ns1 d m
structure InitEnd (h h' : Heap) (x C dx t1 : Addr) (m : Str -> Option Value) : Prop where
  keep : ∀ b o, b ≠ x -> h.get? b = some o -> h'.get? b = some o
  obj : h'.get? x = some { cls := .ref C, dict := some dx, data := .fields #[.ref t1, .none, .none, .none, .bool false, .none] }
  dbig : h.objs.size <= dx
  dne : dx ≠ x
  ns : h'.Ns1 dx m
end
end PxE
end PySem
namespace L2
open PySem PySem.Spec PyProof.Rows PySem.PxE
structure ExcD (P : Program) (K : PySem.W.Frag) (mg : Str -> Option Value) (x : Str) (C : Addr) (fs : List Str) : Prop where
  ex : ∃ (fI : Addr) (qual : Str) (params : Arguments) (body : List Stmt) (scope : Scope), ExTxt P K C fI qual params body scope fs /\ (∃ b0 ss msg, body = b0 :: ss /\ IsSup qual scope msg b0 /\ IsAsgs ss fs) /\
    (∃ ar : Arg, (params.posonlyargs ++ params.args).head? = some ar /\ ar.arg = selfN) /\
    (∀ f ∈ selfN :: fs, scope.names.lookup f = some .local /\ (f == ("__debug__" : Str)) = false) /\ scope.names.lookup ("super" : Str) = some .globalImplicit /\ scope.names.lookup ("__class__" : Str) = some .free /\
    (∀ x ∈ scope.names, x.2 ≠ .cell) /\ scope.isCoroutine = false /\ scope.isGenerator = false /\ scope.kind = .function /\
    (∀ (us : List Value), us.length = fs.length -> ∀ (x : Addr) (doc pm : Value) (an : Option Addr) (cdv ct : Value) (cc : Addr), bindArgs (PySem.W.ksFn "__init__" qual params body scope .none .none doc pm an cdv ct cc) ⟨.ref x :: us, []⟩ = pure ((selfN, .ref x) :: fs.zip us))
  nf : fs ≠ [] /\ fs.Nodup /\ fs.length <= 1000 /\ selfN ∉ fs
  top : (P.main.scope.names.lookup ("super" : Str)).isSome = false
  gC : mg x = some (.ref C)
  gs : mg "super" = none
  kC : PySem.W.keepIn K (.ref C) = true
section
variable {X : Cx} {C : Addr} {fs : List Str} {x : Str}
end
end L2
namespace Py
open PySem L2
theorem so_inj {x y : String} (h : so x = so y) : x = y := by
  unfold so at h
  rw [Str.ofString_eq_toList, Str.ofString_eq_toList] at h
  injection h with h
  have h2 : x.toList.map Char.toNat = y.toList.map Char.toNat := by
    have := congrArg Array.toList h
    simpa using this
  have h3 : x.toList = y.toList := by
    have inj : ∀ a b : Char, a.toNat = b.toNat -> a = b := fun a b e => Char.ext (UInt32.toNat_inj.mp e)
    revert h2
    generalize x.toList = l
    generalize y.toList = r
    intro h2
    induction l generalizing r with
    | nil => cases r with
      | nil => rfl
      | cons b r => cases h2
    | cons a l ih => cases r with
      | nil => cases h2
      | cons b r =>
        rw [List.map_cons, List.map_cons] at h2
        injection h2 with e1 e2
        rw [inj _ _ e1, ih r e2]
  exact String.toList_inj.mp h3
structure Tbl where
  fOk : String -> String -> Bool
  con : String -> String -> Option D
  sub : String -> String -> Bool
  /-- the def that a class's name (a method, a getter) stands for -/
  res : String -> String -> Option String := fun _ _ => none
  /-- the field whose list a class's __iter__ walks -/
  it : String -> Option String := fun _ => none
  /-- of exception classes: who derives from whom -/
  xsub : String -> String -> Bool := fun _ _ => false
structure Wd (T : Tbl) where
  K : PySem.W.Frag
  P : Program
  w : World
  cA : String -> Addr
  has : String -> Prop
  cl : ∀ c, has c -> Cls K (cA c)
  na : ∀ c f, has c -> T.fOk c f = true -> NoAttr K (cA c) (so f)
  isT : ∀ c, has c -> PySem.W.findIn K (.ref (cA c)) "__class__" = some (some (.builtin "object.__class__")) /\
    PySem.W.specialIn K (.builtin "object.__class__") "__get__" = some (some (.builtin "getset_descriptor.__get__")) /\ PySem.W.takesIn K (.builtin "object.__class__") = some true /\ PySem.W.mroIn K (cA c) (.type "object") = some true
  isTO : ∀ t c, t ∈ ["NoneType", "bool", "int", "str", "list", "tuple", "dict"] -> has c -> PySem.W.kitOne K (.type t) (.ref (cA c)) = some false
  isOT : ∀ c t, has c -> t ∈ ["int", "bool", "str", "list", "tuple", "dict"] -> PySem.W.kitOne K (.ref (cA c)) (.type t) = some false
  isOO : ∀ c d, has c -> has d -> PySem.W.kitOne K (.ref (cA c)) (.ref (cA d)) = some (T.sub c d)
  /-- the exception classes -/
  hasX : String -> Prop
  xm : ∀ c d, hasX c -> hasX d -> PySem.W.exmOne K (.ref (cA c)) (.ref (cA d)) = some (T.xsub c d)
  xk : ∀ c d, hasX c -> hasX d -> PySem.W.kitOne K (.ref (cA c)) (.ref (cA d)) = some (T.xsub c d)
  xv : ∀ c, hasX c -> PySem.W.kitOne K (.ref (cA c)) (.type "ValueError") = some true
  xc : ∀ c, hasX c -> ExcC K (cA c)
def nkD : NestedKey -> D
  | .none => .non
  | .num i => .int i
  | .text x => .str (String.ofList (x.cps.toList.map Char.ofNat))
  | .tup ks => .tup (nkDs ks)
where nkDs : List NestedKey -> List D
  | [] => []
  | k :: ks => nkD k :: nkDs ks
def digP (P : Program) (w : World) (a : Addr) (ks : List NestedKey) (kas : List Addr) (vs : List V) : Heap -> Prop := fun h =>
  (a == sysModules) = false /\ ∃ us : List Value, Vals vs us /\ ks.length = kas.length /\ ks.length = us.length /\ us.length <= sizeLine /\
    ∃ o es ep, h.get? a = some o /\ o.ExactDict /\ o.data = .dict es ep /\ es.toList = (ks.zip (kas.zip us)).map (entryOfKey (nestedKind P w)) /\ ks.Nodup
namespace LK
def leaf : LK -> Leaf
  | .non => .none
  | .bl b => .num (if b = true then 1 else 0)
  | .num i => .num i
  | .txt x => .text (so x)
def is (m : Bool) : LK -> Value -> Bool
  | .non, .none => true
  | .bl b, .bool c => m && decide (c = b)
  | .num i, .int j _ => decide (j = i) && (!m || (decide (i ≠ 0) && decide (i ≠ 1)))
  | .txt x, v => Value.isStrOf (so x) v
  | _, _ => false
theorem isLeaf {m : Bool} : ∀ {k : LK} {v : Value}, LK.is m k v = true -> Leaf.isOf k.leaf v = true
  | .non, v, e => by cases v <;> first | rfl | exact absurd e Bool.false_ne_true
  | .bl b, v, e => by
    cases v with
    | bool c =>
      have e' : (m && decide (c = b)) = true := e
      rw [Bool.and_eq_true, decide_eq_true_eq] at e'
      rw [e'.2]
      show decide ((if b = true then 1 else 0) = (if b = true then (1 : Int) else 0)) = true
      simp
    | _ => exact absurd e Bool.false_ne_true
  | .num i, v, e => by
    cases v with
    | int j t =>
      have e' : (decide (j = i) && (!m || (decide (i ≠ 0) && decide (i ≠ 1)))) = true := e
      rw [Bool.and_eq_true] at e'
      exact e'.1
    | _ => exact absurd e Bool.false_ne_true
  | .txt x, v, e => e
theorem no_bn {m : Bool} {c : Bool} {i : Int} {u v : Value} (h1 : LK.is m (.bl c) u = true) (h2 : LK.is m (.num i) v = true) : ¬ (if c = true then (1 : Int) else 0) = i := by
  intro h3
  cases u with
  | bool d =>
    cases v with
    | int j t =>
      have h1' : (m && decide (d = c)) = true := h1
      have h2' : (decide (j = i) && (!m || (decide (i ≠ 0) && decide (i ≠ 1)))) = true := h2
      subst h3
      cases m <;> cases c <;> simp at h1' h2'
    | _ => exact absurd h2 Bool.false_ne_true
  | _ => exact absurd h1 Bool.false_ne_true
theorem leaf_eq {m : Bool} {a b : LK} {u v : Value} (ha : LK.is m a u = true) (hb : LK.is m b v = true) (h : a.leaf = b.leaf) : a = b := by
  cases a with
  | non => cases b with
    | non => rfl
    | bl _ => exact nomatch (show Leaf.none = Leaf.num _ from h)
    | num _ => exact nomatch (show Leaf.none = Leaf.num _ from h)
    | txt _ => exact nomatch (show Leaf.none = Leaf.text _ from h)
  | bl c => cases b with
    | non => exact nomatch (show Leaf.num _ = Leaf.none from h)
    | bl d =>
      have h' : Leaf.num (if c = true then 1 else 0) = Leaf.num (if d = true then 1 else 0) := h
      injection h' with h'
      cases c <;> cases d <;> first | rfl | exact absurd h' (by decide)
    | num i =>
      have h' : Leaf.num (if c = true then 1 else 0) = Leaf.num i := h
      injection h' with h'
      exact absurd h' (no_bn ha hb)
    | txt _ => exact nomatch (show Leaf.num _ = Leaf.text _ from h)
  | num i => cases b with
    | non => exact nomatch (show Leaf.num _ = Leaf.none from h)
    | bl d =>
      have h' : Leaf.num i = Leaf.num (if d = true then 1 else 0) := h
      injection h' with h'
      exact absurd h'.symm (no_bn hb ha)
    | num j =>
      have h' : Leaf.num i = Leaf.num j := h
      injection h' with h'
      rw [h']
    | txt _ => exact nomatch (show Leaf.num _ = Leaf.text _ from h)
  | txt x => cases b with
    | non => exact nomatch (show Leaf.text _ = Leaf.none from h)
    | bl _ => exact nomatch (show Leaf.text _ = Leaf.num _ from h)
    | num _ => exact nomatch (show Leaf.text _ = Leaf.num _ from h)
    | txt y =>
      have h' : Leaf.text (so x) = Leaf.text (so y) := h
      injection h' with h'
      rw [so_inj h']
end LK
def lfK (P : Program) (w : World) (m : Bool) : KeyKind P w LK where
  is := LK.is m
  hash := fun k => (leafKind P w).hash k.leaf
  inj := fun v a b ha hb => LK.leaf_eq ha hb ((leafKind P w).inj v _ _ (LK.isLeaf ha) (LK.isLeaf hb))
  byValue := fun k v h => (leafKind P w).byValue _ _ (LK.isLeaf h)
  pyHash := fun hv h => (leafKind P w).pyHash (LK.isLeaf hv) h
  eqBool := fun {A E s a b u v Q} hu hv h => (leafKind P w).eqBool (LK.isLeaf hu) (LK.isLeaf hv) (by
    have e : decide (a.leaf = b.leaf) = decide (a = b) := by
      by_cases z : a = b
      · rw [z]; simp
      · rw [decide_eq_false z, decide_eq_false fun y => z (LK.leaf_eq hu hv y)]
    rw [e]; exact h)
  «strs» := fun k x t v h => by
    cases k with
    | txt y =>
      obtain ⟨u, hu⟩ := Value.isStrOf_shape (show Value.isStrOf (so y) (.str x t) = true from h)
      injection hu with hx
      subst hx
      cases v <;> rfl
    | _ => exact absurd h Bool.false_ne_true
def lfP (P : Program) (w : World) (m : Bool) (a : Addr) (ep : Nat) (ks : List LK) (vs : List V) : Heap -> Prop := fun h =>
  (a == sysModules) = false /\ vs.length <= sizeLine /\ ∃ us : List Value, Vals vs us /\ ks.length = us.length /\ h.DictAt (lfK P w m) a (ks.zip us) ep
section
variable {T : Tbl} (W : Wd T)
mutual
inductive Shr : Hp -> D -> V -> Prop
  | non {F} : Shr F .non .non
  | bl {F b} : Shr F (.bl b) (.bl b)
  | int {F i} : Shr F (.int i) (.int i)
  | str {F x} : Shr F (.str x) (.str (so x))
  | cls {F c} : W.has c -> Shr F (.cls c) (.ref (W.cA c))
  | sei {F a xs} : F a = some (.set (fun i => decide (i ∈ xs)) xs.length) -> xs.Pairwise (· < ·) -> Shr F (.sei xs) (.ref a)
  | scr {F a ns} : SqL W.K F a (ns.map V.int) -> Shr F (.scr ns) (.ref a)
  | tup {F a xs vs} : F a = some (.tup vs) -> Shrs F xs vs -> Shr F (.tup xs) (.ref a)
  | lst {F a xs vs} : F a = some (.lst vs) -> Shrs F xs vs -> Shr F (.lst xs) (.ref a)
  | dic {F a ks xs vs} : Rd F a (.dK (ks.zip vs)) -> ks.length = vs.length -> ks.Nodup -> Shrs F xs vs -> Shr F (.dic ks xs) (.ref a)
  | dit {F a ks xs vs} : Rd F a (.dT (ks.zip vs)) -> ks.length = vs.length -> ks.Nodup -> Shrs F xs vs -> Shr F (.dit ks xs) (.ref a)
  | dig {F a ks kas xs vs} : F a = some (.ext (digP W.P W.w a ks kas vs)) -> Shrs F (ks.map nkD) (kas.map V.ref) -> ks.length = vs.length -> Shrs F xs vs -> Shr F (.dig ks xs) (.ref a)
  | dlf {F a m ep ks xs vs} : F a = some (.ext (lfP W.P W.w m a ep ks vs)) -> ks.length = vs.length -> ks.Nodup -> Shrs F xs vs -> Shr F (.dlf m ks xs) (.ref a)
  | xt {F a t φ ep ks xs kvs vs} : F a = some (.ext (φ W.P W.w ep a kvs vs)) -> Shrs F ks kvs -> Shrs F xs vs -> Shr F (.xt t φ ks xs) (.ref a)
  | len {F a od xs vs} : F a = some (.frz od (.lst vs)) -> Shrs F xs vs -> Shr F (.len xs) (.ref a)
  | ins {F a c dx ns xs vs} : F a = some (.ins (W.cA c) dx ((ns.map so).zip vs)) -> W.has c -> ns.length = vs.length -> Shrs F xs vs -> Shr F (.ins c ns xs) (.ref a)
inductive Shrs : Hp -> List D -> List V -> Prop
  | nil {F} : Shrs F [] []
  | cons {F d v ds vs} : Shr F d v -> Shrs F ds vs -> Shrs F (d :: ds) (v :: vs)
end
mutual
inductive Own : Hp -> Hp -> D -> V -> List Addr -> Prop
  | sh {F H d v} : Shr W F d v -> Own F H d v []
  | olst {F H a xs vs L} : H a = some (.lst vs) -> Owns F H xs vs L -> Own F H (.olst xs) (.ref a) (a :: L)
  | odic {F H a ks xs vs L} : H a = some (.dK (ks.zip vs)) -> ks.length = vs.length -> ks.Nodup -> Owns F H xs vs L -> Own F H (.odic ks xs) (.ref a) (a :: L)
  | odit {F H a ks xs vs L} : H a = some (.dT (ks.zip vs)) -> ks.length = vs.length -> ks.Nodup -> Owns F H xs vs L -> Own F H (.odit ks xs) (.ref a) (a :: L)
  | odig {F H a ks kas xs vs L} : H a = some (.ext (digP W.P W.w a ks kas vs)) -> Shrs W F (ks.map nkD) (kas.map V.ref) -> ks.length = vs.length -> Owns F H xs vs L -> Own F H (.odig ks xs) (.ref a) (a :: L)
  | olf {F H a m ep ks xs vs L} : H a = some (.ext (lfP W.P W.w m a ep ks vs)) -> ks.length = vs.length -> ks.Nodup -> Owns F H xs vs L -> Own F H (.olf m ks xs) (.ref a) (a :: L)
  | oxt {F H a t φ ep ks xs kvs vs L} : H a = some (.ext (φ W.P W.w ep a kvs vs)) -> Shrs W F ks kvs -> Owns F H xs vs L -> Own F H (.oxt t φ ks xs) (.ref a) (a :: L)
  | otup {F H a xs vs L} : H a = some (.tup vs) -> Owns F H xs vs L -> Own F H (.otup xs) (.ref a) (a :: L)
  | oins {F H a c dx ns xs vs L} : H a = some (.ins (W.cA c) dx ((ns.map so).zip vs)) -> W.has c -> ns.length = vs.length -> Owns F H xs vs L -> Own F H (.oins c ns xs) (.ref a) (a :: L)
inductive Owns : Hp -> Hp -> List D -> List V -> List Addr -> Prop
  | nil {F H} : Owns F H [] [] []
  | cons {F H d v ds vs L M} : Own F H d v L -> Owns F H ds vs M -> Owns F H (d :: ds) (v :: vs) (L ++ M)
end
end
section
variable {T : Tbl} {W : Wd T} {F F' H H' : Hp}
theorem rd_same {F F' : Hp} (e : Same F F') {a : Addr} {u : HO} (h : Rd F a u) : Rd F' a u := h.elim (fun h => .inl (e _ _ h)) fun ⟨o, h⟩ => .inr ⟨o, e _ _ h⟩
mutual
theorem Shr.mono {F F' : Hp} (e : Same F F') : ∀ {d : D} {v : V}, Shr W F d v -> Shr W F' d v
  | _, _, .non => .non
  | _, _, .bl => .bl
  | _, _, .int => .int
  | _, _, .str => .str
  | _, _, .cls h => .cls h
  | _, _, .sei h n => .sei (e _ _ h) n
  | _, _, .scr h => .scr (e.seq h)
  | _, _, .tup h hs => .tup (e _ _ h) (Shrs.mono e hs)
  | _, _, .lst h hs => .lst (e _ _ h) (Shrs.mono e hs)
  | _, _, .dic h l n hs => .dic (rd_same e h) l n (Shrs.mono e hs)
  | _, _, .dit h l n hs => .dit (rd_same e h) l n (Shrs.mono e hs)
  | _, _, .dig h k l hs => .dig (e _ _ h) (Shrs.mono e k) l (Shrs.mono e hs)
  | _, _, .dlf h l n hs => .dlf (e _ _ h) l n (Shrs.mono e hs)
  | _, _, .xt h k hs => .xt (e _ _ h) (Shrs.mono e k) (Shrs.mono e hs)
  | _, _, .len h hs => .len (e _ _ h) (Shrs.mono e hs)
  | _, _, .ins h c l hs => .ins (e _ _ h) c l (Shrs.mono e hs)
theorem Shrs.mono {F F' : Hp} (e : Same F F') : ∀ {d : List D} {v : List V}, Shrs W F d v -> Shrs W F' d v
  | _, _, .nil => .nil
  | _, _, .cons h t => .cons (Shr.mono e h) (Shrs.mono e t)
end
theorem Shrs.length {F : Hp} : ∀ {ds : List D} {vs : List V}, Shrs W F ds vs -> ds.length = vs.length
  | _, _, .nil => rfl
  | _, _, .cons _ t => congrArg (· + 1) (Shrs.length t)
theorem Shrs.get {F : Hp} : ∀ {ds : List D} {vs : List V} {i : Nat} {d : D}, Shrs W F ds vs -> ds[i]? = some d -> ∃ v, vs[i]? = some v /\ Shr W F d v
  | _, _, _, _, .nil, e => by simp at e
  | _, _, 0, _, .cons h _, e => by simp at e; subst e; exact ⟨_, rfl, h⟩
  | _, _, i + 1, _, .cons _ t, e => Shrs.get (i := i) t (by simpa using e)
theorem Shrs.append {F : Hp} : ∀ {ds es : List D} {vs ws : List V}, Shrs W F ds vs -> Shrs W F es ws -> Shrs W F (ds ++ es) (vs ++ ws)
  | _, _, _, _, .nil, h => h
  | _, _, _, _, .cons h t, q => .cons h (Shrs.append t q)
mutual
theorem Own.frame {F F' H H' : Hp} (e : Same F F') : ∀ {d : D} {v : V} {L : List Addr}, (∀ a ∈ L, ∀ o, H a = some o -> H' a = some o) -> Own W F H d v L -> Own W F' H' d v L
  | _, _, _, _, .sh h => .sh (h.mono e)
  | _, _, _, k, .olst h t => .olst (k _ (List.mem_cons_self ..) _ h) (Owns.frame e (fun a m => k a (List.mem_cons_of_mem _ m)) t)
  | _, _, _, k, .odic h l n t => .odic (k _ (List.mem_cons_self ..) _ h) l n (Owns.frame e (fun a m => k a (List.mem_cons_of_mem _ m)) t)
  | _, _, _, k, .odit h l n t => .odit (k _ (List.mem_cons_self ..) _ h) l n (Owns.frame e (fun a m => k a (List.mem_cons_of_mem _ m)) t)
  | _, _, _, k, .odig h s l t => .odig (k _ (List.mem_cons_self ..) _ h) (s.mono e) l (Owns.frame e (fun a m => k a (List.mem_cons_of_mem _ m)) t)
  | _, _, _, k, .olf h l n t => .olf (k _ (List.mem_cons_self ..) _ h) l n (Owns.frame e (fun a m => k a (List.mem_cons_of_mem _ m)) t)
  | _, _, _, k, .oxt h s t => .oxt (k _ (List.mem_cons_self ..) _ h) (s.mono e) (Owns.frame e (fun a m => k a (List.mem_cons_of_mem _ m)) t)
  | _, _, _, k, .otup h t => .otup (k _ (List.mem_cons_self ..) _ h) (Owns.frame e (fun a m => k a (List.mem_cons_of_mem _ m)) t)
  | _, _, _, k, .oins h c l t => .oins (k _ (List.mem_cons_self ..) _ h) c l (Owns.frame e (fun a m => k a (List.mem_cons_of_mem _ m)) t)
theorem Owns.frame {F F' H H' : Hp} (e : Same F F') : ∀ {d : List D} {v : List V} {L : List Addr}, (∀ a ∈ L, ∀ o, H a = some o -> H' a = some o) -> Owns W F H d v L -> Owns W F' H' d v L
  | _, _, _, _, .nil => .nil
  | _, _, _, k, .cons h t => .cons (Own.frame e (fun a m => k a (List.mem_append_left _ m)) h) (Owns.frame e (fun a m => k a (List.mem_append_right _ m)) t)
end
mutual
theorem Own.lives {F H : Hp} : ∀ {d : D} {v : V} {L : List Addr}, Own W F H d v L -> ∀ a ∈ L, ∃ o, H a = some o
  | _, _, _, .sh _, a, m => nomatch m
  | _, _, _, .olst h t, a, m => by
    rcases List.mem_cons.mp m with rfl | m
    · exact ⟨_, h⟩
    · exact Owns.lives t a m
  | _, _, _, .odic h _ _ t, a, m => by
    rcases List.mem_cons.mp m with rfl | m
    · exact ⟨_, h⟩
    · exact Owns.lives t a m
  | _, _, _, .odit h _ _ t, a, m => by
    rcases List.mem_cons.mp m with rfl | m
    · exact ⟨_, h⟩
    · exact Owns.lives t a m
  | _, _, _, .odig h _ _ t, a, m => by
    rcases List.mem_cons.mp m with rfl | m
    · exact ⟨_, h⟩
    · exact Owns.lives t a m
  | _, _, _, .olf h _ _ t, a, m => by
    rcases List.mem_cons.mp m with rfl | m
    · exact ⟨_, h⟩
    · exact Owns.lives t a m
  | _, _, _, .oxt h _ t, a, m => by
    rcases List.mem_cons.mp m with rfl | m
    · exact ⟨_, h⟩
    · exact Owns.lives t a m
  | _, _, _, .otup h t, a, m => by
    rcases List.mem_cons.mp m with rfl | m
    · exact ⟨_, h⟩
    · exact Owns.lives t a m
  | _, _, _, .oins h _ _ t, a, m => by
    rcases List.mem_cons.mp m with rfl | m
    · exact ⟨_, h⟩
    · exact Owns.lives t a m
theorem Owns.lives {F H : Hp} : ∀ {d : List D} {v : List V} {L : List Addr}, Owns W F H d v L -> ∀ a ∈ L, ∃ o, H a = some o
  | _, _, _, .nil, a, m => nomatch m
  | _, _, _, .cons h t, a, m => (List.mem_append.mp m).elim (fun m => Own.lives h a m) fun m => Owns.lives t a m
end
theorem Owns.length {F H : Hp} : ∀ {ds : List D} {vs : List V} {L : List Addr}, Owns W F H ds vs L -> ds.length = vs.length
  | _, _, _, .nil => rfl
  | _, _, _, .cons _ t => congrArg (· + 1) (Owns.length t)
mutual
def fz : D -> D
  | .olst xs => .lst (fzs xs)
  | .odic ks xs => .dic ks (fzs xs)
  | .odit ks xs => .dit ks (fzs xs)
  | .odig ks xs => .dig ks (fzs xs)
  | .olf m ks xs => .dlf m ks (fzs xs)
  | .oxt t φ ks xs => .xt t φ ks (fzs xs)
  | .otup xs => .tup (fzs xs)
  | .oins C ns xs => .ins C ns (fzs xs)
  | d => d
def fzs : List D -> List D
  | [] => []
  | d :: ds => fz d :: fzs ds
end
theorem fzs_eq : ∀ ds : List D, fzs ds = ds.map fz
  | [] => by rw [fzs]; rfl
  | d :: ds => by rw [fzs, fzs_eq ds]; rfl
def isSh : D -> Bool
  | .olst _ => false
  | .odic _ _ => false
  | .odit _ _ => false
  | .odig _ _ => false
  | .olf _ _ _ => false
  | .oxt _ _ _ _ => false
  | .otup _ => false
  | .oins _ _ _ => false
  | _ => true
theorem fz_isSh {d : D} (h : isSh d = true) : fz d = d := by
  cases d <;> first | (cases h; done) | simp [fz]
theorem fz_shr {F : Hp} {d : D} {v : V} (h : Shr W F d v) : fz d = d := by
  refine fz_isSh ?_
  cases h <;> rfl
theorem Shr.isSh {F : Hp} {d : D} {v : V} (h : Shr W F d v) : isSh d = true := by cases h <;> rfl
theorem Shrs.isSh {F : Hp} : ∀ {d : List D} {v : List V}, Shrs W F d v -> d.all Py.isSh = true
  | _, _, .nil => rfl
  | _, _, .cons h t => by rw [List.all_cons, h.isSh, t.isSh]; rfl
mutual
theorem Own.view {F H G : Hp} (e : Same F G) : ∀ {d : D} {v : V} {L : List Addr}, (∀ a ∈ L, ∀ o, H a = some o -> G a = some o) -> Own W F H d v L -> Shr W G (fz d) v
  | _, _, _, _, .sh h => by rw [fz_shr h]; exact h.mono e
  | _, _, _, k, .olst h t => by rw [fz]; exact .lst (k _ (List.mem_cons_self ..) _ h) (Owns.view e (fun a m => k a (List.mem_cons_of_mem _ m)) t)
  | _, _, _, k, .odic h l n t => by rw [fz]; exact .dic (.inl (k _ (List.mem_cons_self ..) _ h)) l n (Owns.view e (fun a m => k a (List.mem_cons_of_mem _ m)) t)
  | _, _, _, k, .odit h l n t => by rw [fz]; exact .dit (.inl (k _ (List.mem_cons_self ..) _ h)) l n (Owns.view e (fun a m => k a (List.mem_cons_of_mem _ m)) t)
  | _, _, _, k, .odig h s l t => by rw [fz]; exact .dig (k _ (List.mem_cons_self ..) _ h) (s.mono e) l (Owns.view e (fun a m => k a (List.mem_cons_of_mem _ m)) t)
  | _, _, _, k, .olf h l n t => by rw [fz]; exact .dlf (k _ (List.mem_cons_self ..) _ h) l n (Owns.view e (fun a m => k a (List.mem_cons_of_mem _ m)) t)
  | _, _, _, k, .oxt h s t => by rw [fz]; exact .xt (k _ (List.mem_cons_self ..) _ h) (s.mono e) (Owns.view e (fun a m => k a (List.mem_cons_of_mem _ m)) t)
  | _, _, _, k, .otup h t => by rw [fz]; exact .tup (k _ (List.mem_cons_self ..) _ h) (Owns.view e (fun a m => k a (List.mem_cons_of_mem _ m)) t)
  | _, _, _, k, .oins h c l t => by rw [fz]; exact .ins (k _ (List.mem_cons_self ..) _ h) c l (Owns.view e (fun a m => k a (List.mem_cons_of_mem _ m)) t)
theorem Owns.view {F H G : Hp} (e : Same F G) : ∀ {d : List D} {v : List V} {L : List Addr}, (∀ a ∈ L, ∀ o, H a = some o -> G a = some o) -> Owns W F H d v L -> Shrs W G (fzs d) v
  | _, _, _, _, .nil => by rw [fzs]; exact .nil
  | _, _, _, k, .cons h t => by rw [fzs]; exact .cons (Own.view e (fun a m => k a (List.mem_append_left _ m)) h) (Owns.view e (fun a m => k a (List.mem_append_right _ m)) t)
end
theorem Shrs.owns {F H : Hp} : ∀ {ds : List D} {vs : List V}, Shrs W F ds vs -> Owns W F H ds vs []
  | _, _, .nil => .nil
  | _, _, .cons h t => Owns.cons (L := []) (M := []) (.sh h) (Shrs.owns t)
theorem Own.shr {F H : Hp} {d : D} {v : V} {L : List Addr} (o : Own W F H d v L) (h : Py.isSh d = true) : Shr W F d v := by
  cases o with
  | sh y => exact y
  | olst => cases h
  | odic => cases h
  | odit => cases h
  | odig => cases h
  | olf => cases h
  | oxt => cases h
  | otup => cases h
  | oins => cases h
theorem Own.shNil {F H : Hp} {d : D} {v : V} {L : List Addr} (o : Own W F H d v L) (h : Py.isSh d = true) : L = [] := by
  cases o with
  | sh y => rfl
  | olst => cases h
  | odic => cases h
  | odit => cases h
  | odig => cases h
  | olf => cases h
  | oxt => cases h
  | otup => cases h
  | oins => cases h
theorem Owns.shrs {F H : Hp} : ∀ {ds : List D} {vs : List V} {L : List Addr}, Owns W F H ds vs L -> ds.all Py.isSh = true -> Shrs W F ds vs
  | _, _, _, .nil, _ => .nil
  | _, _, _, .cons o t, h => by
    rw [List.all_cons, Bool.and_eq_true] at h
    exact .cons (o.shr h.1) (t.shrs h.2)
end
end Py
namespace Py
open PySem L2
abbrev Env := List (Option D)
inductive Slots {T : Tbl} (W : Wd T) : Hp -> Hp -> Py.Env -> St -> List Addr -> Prop
  | nil {F H} : Slots W F H [] [] []
  | so {F H d v env σ L M} : Own W F H d v L -> Slots W F H env σ M -> Slots W F H (some d :: env) (some v :: σ) (L ++ M)
  | no {F H o env σ M} : Slots W F H env σ M -> Slots W F H (none :: env) (o :: σ) M
section
variable {T : Tbl} {W : Wd T} {F F' H H' : Hp}
theorem Slots.frame (e : Same F F') : ∀ {env : Py.Env} {σ : St} {L : List Addr}, (∀ a ∈ L, ∀ o, H a = some o -> H' a = some o) -> Slots W F H env σ L -> Slots W F' H' env σ L
  | _, _, _, _, .nil => .nil
  | _, _, _, k, .so h t => .so (h.frame e fun a m => k a (List.mem_append_left _ m)) (t.frame e fun a m => k a (List.mem_append_right _ m))
  | _, _, _, k, .no t => .no (t.frame e k)
theorem Slots.lives : ∀ {env : Py.Env} {σ : St} {L : List Addr}, Slots W F H env σ L -> ∀ a ∈ L, ∃ o, H a = some o
  | _, _, _, .nil, _, m => nomatch m
  | _, _, _, .so h t, a, m => (List.mem_append.mp m).elim (fun m => h.lives a m) fun m => t.lives a m
  | _, _, _, .no t, a, m => t.lives a m
theorem Slots.length : ∀ {env : Py.Env} {σ : St} {L : List Addr}, Slots W F H env σ L -> env.length = σ.length
  | _, _, _, .nil => rfl
  | _, _, _, .so _ t => congrArg (· + 1) t.length
  | _, _, _, .no t => congrArg (· + 1) t.length
theorem Slots.take : ∀ {env : Py.Env} {σ : St} {L : List Addr} {i : Nat} {d : D}, Slots W F H env σ L -> L.Nodup -> env[i]? = some (some d) ->
    ∃ v Li Lr, σ[i]? = some (some v) /\ Own W F H d v Li /\ Slots W F H (env.set i none) σ Lr /\ (Li ++ Lr).Nodup /\ (∀ a, a ∈ Li \/ a ∈ Lr ↔ a ∈ L)
  | _, _, _, _, _, .nil, _, e => by simp at e
  | _, _, _, 0, _, .so (L := L1) (M := M1) h t, nd, e => by
    simp at e; subst e
    exact ⟨_, L1, M1, rfl, h, .no t, nd, fun a => List.mem_append.symm⟩
  | _, _, _, i + 1, _, .so (L := L1) (M := M1) h t, nd, e => by
    rw [List.nodup_append] at nd
    obtain ⟨n1, n2, n3⟩ := nd
    obtain ⟨v, Li, Lr, e1, o, s, nd', m⟩ := t.take (i := i) n2 (by simpa using e)
    refine ⟨v, Li, L1 ++ Lr, by simpa using e1, o, .so h s, ?_, fun a => ?_⟩
    · rw [List.nodup_append] at nd' ⊢
      obtain ⟨p1, p2, p3⟩ := nd'
      refine ⟨p1, ?_, ?_⟩
      · rw [List.nodup_append]
        exact ⟨n1, p2, fun a ha b hb => n3 a ha b ((m b).mp (.inr hb))⟩
      · intro a ha b hb
        rcases List.mem_append.mp hb with hb | hb
        · exact fun q => n3 b hb a ((m a).mp (.inl ha)) q.symm
        · exact p3 a ha b hb
    · simp only [List.mem_append, <- m a]
      constructor
      · rintro (h | h | h)
        · exact .inr (.inl h)
        · exact .inl h
        · exact .inr (.inr h)
      · rintro (h | h | h)
        · exact .inr (.inl h)
        · exact .inl h
        · exact .inr (.inr h)
  | _, _, _, 0, _, .no t, nd, e => by simp at e
  | _, _, _, i + 1, _, .no (o := o1) (M := M1) t, nd, e => by
    obtain ⟨v, Li, Lr, e1, o, s, nd', m⟩ := t.take (i := i) nd (by simpa using e)
    exact ⟨v, Li, Lr, by simpa using e1, o, .no s, nd', m⟩
theorem Slots.put : ∀ {env : Py.Env} {σ : St} {L : List Addr} {i : Nat} {d : D} {v : V} {Ld : List Addr}, Slots W F H env σ L -> Own W F H d v Ld -> (Ld ++ L).Nodup -> i < env.length ->
    ∃ L', Slots W F H (env.set i (some d)) (σ.set i (some v)) L' /\ L'.Nodup /\ (∀ a ∈ L', a ∈ Ld \/ a ∈ L)
  | _, _, _, _, _, _, _, .nil, _, _, hi => by simp at hi
  | _, _, _, 0, d, v, Ld, .so (L := L1) (M := M1) h t, o, nd, _ => by
    refine ⟨Ld ++ M1, .so o t, ?_, fun a m => ?_⟩
    · rw [List.nodup_append] at nd ⊢
      obtain ⟨n1, n2, n3⟩ := nd
      rw [List.nodup_append] at n2
      exact ⟨n1, n2.2.1, fun a ha b hb => n3 a ha b (List.mem_append_right _ hb)⟩
    · rcases List.mem_append.mp m with m | m
      · exact .inl m
      · exact .inr (List.mem_append_right _ m)
  | _, _, _, 0, d, v, Ld, .no (M := M1) t, o, nd, _ => by
    exact ⟨Ld ++ M1, .so o t, nd, fun a m => List.mem_append.mp m⟩
  | _, _, _, i + 1, d, v, Ld, .so (L := L1) (M := M1) h t, o, nd, hi => by
    rw [List.nodup_append] at nd
    obtain ⟨n1, n2, n3⟩ := nd
    rw [List.nodup_append] at n2
    obtain ⟨p1, p2, p3⟩ := n2
    obtain ⟨L', s, nd', m⟩ := t.put (i := i) o (by
      rw [List.nodup_append]
      exact ⟨n1, p2, fun a ha b hb => n3 a ha b (List.mem_append_right _ hb)⟩) (by simpa using hi)
    refine ⟨L1 ++ L', .so h s, ?_, fun a ha => ?_⟩
    · rw [List.nodup_append]
      refine ⟨p1, nd', fun a ha b hb => ?_⟩
      rcases m b hb with q | q
      · exact fun z => n3 b q a (List.mem_append_left _ ha) z.symm
      · exact p3 a ha b q
    · rcases List.mem_append.mp ha with q | q
      · exact .inr (List.mem_append_left _ q)
      · rcases m a q with q | q
        · exact .inl q
        · exact .inr (List.mem_append_right _ q)
  | _, _, _, i + 1, d, v, Ld, .no (M := M1) t, o, nd, hi => by
    obtain ⟨L', s, nd', m⟩ := t.put (i := i) o nd (by simpa using hi)
    exact ⟨L', .no s, nd', m⟩
structure Ent where
  F0 : Hp
  H0 : Hp
  L0 : List Addr
  pins : List (Nat × V)
structure Rel {T : Tbl} (W : Wd T) (e : Ent) (env : Py.Env) (F : Hp) (σ : St) (H : Hp) (L : List Addr) : Prop where
  sF : Same F H
  slots : Slots W F H env σ L
  nd : L.Nodup
  dj : ∀ a ∈ L, F a = none
  s0 : Same e.F0 F
  nw : ∀ a o, F a = some o -> e.F0 a = some o \/ e.H0 a = none \/ a ∈ e.L0
  fr : ∀ a o, a ∉ e.L0 -> e.H0 a = some o -> H a = some o
  ln : ∀ a ∈ L, a ∈ e.L0 \/ e.H0 a = none
  pin : ∀ p ∈ e.pins, σ[p.1]? = some (some p.2)
structure Ext (F H F' H' : Hp) : Prop where
  f : Same F F'
  s : Same F' H'
  h : Same H H'
  n : ∀ a o, F' a = some o -> F a = some o \/ H a = none
theorem Ext.refl (s : Same F H) : Ext F H F H := ⟨Same.refl _, s, Same.refl _, fun _ _ h => .inl h⟩
theorem Ext.trans {F1 H1 F2 H2 : Hp} (a : Ext F H F1 H1) (b : Ext F1 H1 F2 H2) : Ext F H F2 H2 :=
  ⟨a.f.trans b.f, b.s, a.h.trans b.h, fun x o h => by
    rcases b.n x o h with q | q
    · exact a.n x o q
    · exact .inr (a.h.free q)⟩
theorem same_new {H : Hp} {p : Addr} {o : HO} (h : H p = none) : Same H (upd H p o) := fun b u e => by
  rw [upd_ne (ne_of_none e h)]; exact e
theorem Ext.new (s : Same F H) {p : Addr} {o : HO} (h : H p = none) : Ext F H (upd F p o) (upd H p o) where
  f := same_new (s.free h)
  s := fun b u e => by
    by_cases q : b = p
    · subst q; rw [upd_same] at e ⊢; exact e
    · rw [upd_ne q] at e ⊢; exact s _ _ e
  h := same_new h
  n := fun b u e => by
    by_cases q : b = p
    · subst q; exact .inr h
    · rw [upd_ne q] at e; exact .inl e
theorem Ext.newH (s : Same F H) {p : Addr} {o : HO} (h : H p = none) : Ext F H F (upd H p o) where
  f := Same.refl _
  s := s.trans (same_new h)
  h := same_new h
  n := fun _ _ e => .inl e
theorem Rel.ext {e : Ent} {env : Py.Env} {σ : St} {L : List Addr} (R : Rel W e env F σ H L) (x : Ext F H F' H') : Rel W e env F' σ H' L where
  sF := x.s
  slots := R.slots.frame x.f fun a _ o q => x.h _ _ q
  nd := R.nd
  dj := fun a m => by
    obtain ⟨o, ho⟩ := R.slots.lives a m
    cases q : F' a with
    | none => rfl
    | some u =>
      rcases x.n a u q with z | z
      · rw [R.dj a m] at z; cases z
      · rw [ho] at z; cases z
  s0 := R.s0.trans x.f
  nw := fun a o q => by
    rcases x.n a o q with z | z
    · exact R.nw a o z
    · by_cases m : a ∈ e.L0
      · exact .inr (.inr m)
      · refine .inr (.inl ?_)
        cases y : e.H0 a with
        | none => rfl
        | some u => rw [R.fr a u m y] at z; cases z
  fr := fun a o m q => x.h _ _ (R.fr a o m q)
  ln := R.ln
  pin := R.pin
abbrev Res := Hp -> Hp -> Hp -> V -> Prop
def rF {T : Tbl} (W : Wd T) (d : D) : Res := fun F _ _ v => Shr W F d v
def rV {T : Tbl} (W : Wd T) (d : D) : Res := fun _ H _ v => Shr W H d v
def rO {T : Tbl} (W : Wd T) (d : D) : Res := fun F H H0 v => ∃ L, Own W F H d v L /\ L.Nodup /\ ∀ a ∈ L, H0 a = none /\ F a = none
def rL {T : Tbl} (W : Wd T) (ds : List D) : Res := fun F H _ v => ∃ a vs, v = .ref a /\ SqL W.K H a vs /\ Shrs W F ds vs
def AE {T : Tbl} (W : Wd T) (t : TE) (env : Py.Env) (R : Res) : Prop :=
  ∀ (e : Ent) (F : Hp) (σ : St) (H : Hp) (L : List Addr) (Q : VK), Rel W e env F σ H L -> (∀ v F' H', Ext F H F' H' -> R F' H' H v -> Q v H') -> t σ H Q
def AT {T : Tbl} (W : Wd T) (t : TT) (env : Py.Env) (b : Bool) : Prop :=
  ∀ (e : Ent) (F : Hp) (σ : St) (H : Hp) (L : List Addr) (Q : Bool -> Hp -> Prop), Rel W e env F σ H L -> (∀ F' H', Ext F H F' H' -> Q b H') -> t σ H Q
abbrev ResL := Hp -> Hp -> Hp -> List V -> Prop
def rFs {T : Tbl} (W : Wd T) (ds : List D) : ResL := fun F _ _ vs => Shrs W F ds vs
def rVs {T : Tbl} (W : Wd T) (ds : List D) : ResL := fun _ H _ vs => Shrs W H ds vs
def AA {T : Tbl} (W : Wd T) (t : TA) (env : Py.Env) (R : ResL) : Prop :=
  ∀ (e : Ent) (F : Hp) (σ : St) (H : Hp) (L : List Addr) (Q : List V -> Hp -> Prop), Rel W e env F σ H L -> (∀ v F' H', Ext F H F' H' -> R F' H' H v -> Q v H') -> t σ H Q
variable {env : Py.Env} {t ta tb : TE}
theorem AE.imp {R R' : Res} (h : AE W t env R) (k : ∀ F H H0 v, Same F H -> R F H H0 v -> R' F H H0 v) : AE W t env R' := fun e F σ H L Q r q =>
  h e F σ H L Q r fun v F' H' x y => q v F' H' x (k _ _ _ _ x.s y)
theorem AE.view {d : D} (h : AE W t env (rF W d)) : AE W t env (rV W d) := h.imp fun _ _ _ _ s y => Shr.mono s y
theorem AE.own {d : D} (h : AE W t env (rF W d)) : AE W t env (rO W d) := h.imp fun _ _ _ _ s y => ⟨[], .sh y, .nil, fun _ m => nomatch m⟩
theorem AE.list {ds : List D} (h : AE W t env (rF W (.lst ds))) : AE W t env (rL W ds) := h.imp fun _ _ _ _ s y => by
  cases y with
  | lst a b => exact ⟨_, _, rfl, .of (s _ _ a), b⟩
theorem freeze {F H : Hp} {d : D} {v : V} {L : List Addr} (s : Same F H) (o : Own W F H d v L) (k : ∀ a ∈ L, F a = none) :
    ∃ F', Same F F' /\ Same F' H /\ (∀ a o, F' a = some o -> F a = some o \/ a ∈ L) /\ Shr W F' (fz d) v := by
  refine ⟨fun a => if a ∈ L then H a else F a, fun a u q => ?_, fun a u q => ?_, fun a u q => ?_, o.view (fun a u q => ?_) fun a m u q => ?_⟩
  · show (if a ∈ L then H a else F a) = some u
    split
    · rename_i m; rw [k a m] at q; cases q
    · exact q
  · have q : (if a ∈ L then H a else F a) = some u := q
    split at q
    · exact q
    · exact s _ _ q
  · have q : (if a ∈ L then H a else F a) = some u := q
    split at q
    · exact .inr (by assumption)
    · exact .inl q
  · show (if a ∈ L then H a else F a) = some u
    split
    · rename_i m; rw [k a m] at q; cases q
    · exact q
  · show (if a ∈ L then H a else F a) = some u
    rw [if_pos m]; exact q
theorem AE.frz {d : D} (h : AE W t env (rO W d)) : AE W t env (rF W (fz d)) := fun e F σ H L Q r q =>
  h e F σ H L Q r fun v F' H' x ⟨M, o, nd, k⟩ => by
    obtain ⟨G, s1, s2, nw, y⟩ := freeze x.s o fun a m => (k a m).2
    refine q v G H' ⟨x.f.trans s1, s2, x.h, fun a o z => ?_⟩ y
    rcases nw a o z with z | z
    · exact x.n a o z
    · exact .inr (k a z).1
structure Exn where
  c : String
  fs : List (String × D)
structure AEnds where
  nx : Py.Env -> Prop
  rt : D -> Py.Env -> Prop
  bk : Py.Env -> Prop := fun _ => False
  ct : Py.Env -> Prop := fun _ => False
  ex : Exn -> Py.Env -> Prop := fun _ _ => False
def IsExn {T : Tbl} (W : Wd T) (F : Hp) (ex : Exn) (C : Value) (d : Option Addr) : Prop :=
  C = .ref (W.cA ex.c) /\ W.hasX ex.c /\ (ex.fs = [] \/ ∃ a vs, d = some a /\ F a = some (.xd (((ex.fs.map (·.1)).map so).zip vs)) /\ Shrs W F (ex.fs.map (·.2)) vs)
structure Sat {T : Tbl} (W : Wd T) (e : Ent) (E : WX) (A : AEnds) (Dn : Ends) : Prop where
  nx : ∀ env F σ H L, A.nx env -> Rel W e env F σ H L -> Dn.nx σ H
  rt : ∀ d env F σ H L v M, A.rt d env -> Rel W e env F σ H L -> Own W F H d v M -> (M ++ L).Nodup -> (∀ a ∈ M, F a = none /\ (a ∈ e.L0 \/ e.H0 a = none)) -> Dn.rt v H
  bk : ∀ env F σ H L, A.bk env -> Rel W e env F σ H L -> Dn.bk σ H
  ct : ∀ env F σ H L, A.ct env -> Rel W e env F σ H L -> Dn.ct σ H
  ex : ∀ x env F σ H L C d, A.ex x env -> Rel W e env F σ H L -> IsExn W F x C d -> E C d σ H
def AS {T : Tbl} (W : Wd T) (P : List Nat) (E : WX) (t : TS) (env : Py.Env) (A : AEnds) : Prop :=
  ∀ (e : Ent) (F : Hp) (σ : St) (H : Hp) (L : List Addr) (Dn : Ends), P = e.pins.map (·.1) -> Rel W e env F σ H L -> Sat W e E A Dn -> t Dn σ H
variable {P : List Nat} {E : WX} {A : AEnds}
theorem as_seq {t u : TS} (h : AS W P E t env { A with nx := fun env' => AS W P E u env' A }) : AS W P E (tSeq t u) env A := fun e F σ H L Dn hp r s =>
  h e F σ H L _ hp r ⟨fun env' F' σ' H' L' a r' => a e F' σ' H' L' Dn hp r' s, s.rt, s.bk, s.ct, s.ex⟩
theorem as_next (h : A.nx env) : AS W P E tNext env A := fun e F σ H L Dn hp r s => s.nx _ _ _ _ _ h r
theorem Rel.set {e : Ent} {σ : St} {L M : List Addr} {d : D} {v : V} {i : Nat} (r : Rel W e env F σ H L) (o : Own W F H d v M) (nd : (M ++ L).Nodup) (k : ∀ a ∈ M, F a = none /\ (a ∈ e.L0 \/ e.H0 a = none)) (hi : i < env.length)
    (hp : ∀ p ∈ e.pins, p.1 ≠ i) : ∃ L', Rel W e (env.set i (some d)) F (σ.set i (some v)) H L' := by
  obtain ⟨L', s, nd', m⟩ := r.slots.put o nd hi
  refine ⟨L', r.sF, s, nd', fun a ha => ?_, r.s0, r.nw, r.fr, fun a ha => ?_, fun p hm => ?_⟩
  · rcases m a ha with q | q
    · exact (k a q).1
    · exact r.dj a q
  · rcases m a ha with q | q
    · exact (k a q).2
    · exact r.ln a q
  · rw [List.getElem?_set_ne (fun z => hp p hm z.symm)]
    exact r.pin p hm
theorem Rel.h0 {e : Ent} {σ : St} {L : List Addr} (r : Rel W e env F σ H L) {a : Addr} (h : H a = none) : a ∈ e.L0 \/ e.H0 a = none := by
  by_cases m : a ∈ e.L0
  · exact .inl m
  · refine .inr ?_
    cases y : e.H0 a with
    | none => rfl
    | some u => rw [r.fr a u m y] at h; cases h
theorem nodup_new {L M : List Addr} {H : Hp} (h1 : L.Nodup) (h2 : M.Nodup) (hl : ∀ a ∈ L, ∃ o, H a = some o) (hm : ∀ a ∈ M, H a = none) : (M ++ L).Nodup := by
  rw [List.nodup_append]
  refine ⟨h2, h1, fun a ha b hb q => ?_⟩
  subst q
  obtain ⟨o, z⟩ := hl a hb
  rw [hm a ha] at z
  cases z
theorem as_if {tc : TT} {t u : TS} {b : Bool} (h : AT W tc env b) (h1 : b = true -> AS W P E t env A) (h2 : b = false -> AS W P E u env A) : AS W P E (tIfS tc t u) env A := fun e F σ H L Dn hP r s =>
  h e F σ H L _ r fun F' H' x => by
    have r' := r.ext x
    cases b with
    | true => exact h1 rfl e F' σ H' L Dn hP r' s
    | false => exact h2 rfl e F' σ H' L Dn hP r' s
end
end Py
namespace Py
open PySem L2
section
variable {T : Tbl} {W : Wd T} {env : Py.Env} {t ta tb tc : TE} {d d1 d2 d3 : D} {i j : Int} {n m : Nat}
theorem slot_get {e : Ent} {F H : Hp} {σ : St} {L : List Addr} (r : Rel W e env F σ H L) (h : env[n]? = some (some d)) : ∃ v M, σ[n]? = some (some v) /\ Own W F H d v M /\ ∀ a ∈ M, a ∈ L := by
  obtain ⟨v, Li, Lr, e1, o, _, _, m⟩ := r.slots.take r.nd h
  exact ⟨v, Li, e1, o, fun a ha => (m a).mp (.inl ha)⟩
theorem ae_c {v : V} (h : ∀ F, Shr W F d v) : AE W (tC v) env (rF W d) := fun e F σ H L Q r q => q v F H (.refl r.sF) (h F)
theorem AE.shr (h : AE W t env (rO W d)) (s : isSh d = true) : AE W t env (rF W d) := h.imp fun _ _ _ _ _ ⟨_, o, _⟩ => o.shr s
theorem rO_sh {F H H0 : Hp} {v : V} (h : Shr W F d v) : rO W d F H H0 v := ⟨[], .sh h, .nil, fun _ m => nomatch m⟩
theorem rO_back {F H H0 H1 : Hp} {v : V} (e : Same H0 H1) (h : rO W d F H H1 v) : rO W d F H H0 v := by
  obtain ⟨L, o, nd, k⟩ := h
  exact ⟨L, o, nd, fun a m => ⟨e.free (k a m).1, (k a m).2⟩⟩
def Op2 {T : Tbl} (W : Wd T) (r : R2) (d1 d2 d : D) : Prop := ∀ (F H : Hp) (v1 v2 : V) (Q : VK), Same F H -> Shr W H d1 v1 -> Shr W H d2 v2 -> (∀ v F' H', Ext F H F' H' -> rO W d F' H' H v -> Q v H') -> r v1 v2 H Q
def Op2L {T : Tbl} (W : Wd T) (r : R2) (ds es : List D) (d : D) : Prop := ∀ (F H : Hp) (a b : Addr) (vs ws : List V) (Q : VK), Same F H -> H a = some (.lst vs) -> Shrs W F ds vs -> H b = some (.lst ws) -> Shrs W F es ws -> (∀ v F' H', Ext F H F' H' -> rO W d F' H' H v -> Q v H') -> r (.ref a) (.ref b) H Q
theorem ae_op2 {r : R2} (ha : AE W ta env (rV W d1)) (hb : AE W tb env (rV W d2)) (h : Op2 W r d1 d2 d) : AE W (tOp r ta tb) env (rO W d) := fun e F σ H L Q rl q =>
  ha e F σ H L _ rl fun v F1 H1 x1 y1 => hb e F1 σ H1 L _ (rl.ext x1) fun u F2 H2 x2 y2 => h F2 H2 v u Q x2.s (y1.mono x2.h) y2 fun w F3 H3 x3 y3 => q w F3 H3 ((x1.trans x2).trans x3) (rO_back (x1.h.trans x2.h) y3)
theorem o2_l {r r' : R2} (h : Op2 W r d1 d2 d) : Op2 W (fun x y H Q => r x y H Q \/ r' x y H Q) d1 d2 d := fun F H v1 v2 Q s a b q => .inl (h F H v1 v2 Q s a b q)
theorem o2_r {r r' : R2} (h : Op2 W r' d1 d2 d) : Op2 W (fun x y H Q => r x y H Q \/ r' x y H Q) d1 d2 d := fun F H v1 v2 Q s a b q => .inr (h F H v1 v2 Q s a b q)
theorem o2_i {g : Int -> Int -> V} (hg : ∀ F, Shr W F d (g i j)) : Op2 W (rI0 g) (.int i) (.int j) d := fun F H v1 v2 Q s a b q => by
  cases a; cases b
  exact ⟨i, j, rfl, rfl, q _ F H (.refl s) (rO_sh (hg _))⟩
theorem o2_ic {C : Int -> Int -> Prop} {g : Int -> Int -> V} (hc : C i j) (hg : ∀ F, Shr W F d (g i j)) : Op2 W (rI C g) (.int i) (.int j) d := fun F H v1 v2 Q s a b q => by
  cases a; cases b
  exact ⟨i, j, rfl, rfl, hc, q _ F H (.refl s) (rO_sh (hg _))⟩
theorem ae_u {g : Int -> V} (ha : AE W ta env (rV W (.int i))) (hg : ∀ F, Shr W F d (g i)) : AE W (tUn (rU g) ta) env (rF W d) := fun e F σ H L Q r q =>
  ha e F σ H L _ r fun v F1 H1 x1 y1 => by
    cases y1
    exact ⟨i, rfl, q _ F1 H1 x1 (hg _)⟩
def fl : D -> Option V
  | .non => some .non
  | .bl b => some (.bl b)
  | .int i => some (.int i)
  | .str x => some (.str (so x))
  | _ => none
theorem Shr.fl {F : Hp} {v u : V} (h : Shr W F d v) (e : Py.fl d = some u) : v = u := by
  cases h <;> (first | (cases e; rfl) | cases e)
mutual
def pd : D -> Option PyData
  | .non => some .none
  | .bl b => some (.bool b)
  | .int i => some (.int i)
  | .str x => some (.str (so x))
  | .tup xs => (pds xs).map PyData.tuple
  | .lst xs => (pds xs).map PyData.list
  | _ => none
def pds : List D -> Option (List PyData)
  | [] => some []
  | d :: ds => match pd d, pds ds with
    | some x, some xs => some (x :: xs)
    | _, _ => none
end
mutual
theorem Shr.dp {H : Hp} : ∀ {d : D} {v : V} {x : PyData}, Shr W H d v -> pd d = some x -> Dp W.K H v x
  | _, _, _, .non, e => by rw [pd] at e; cases e; exact .non
  | _, _, _, .bl, e => by rw [pd] at e; cases e; exact .bl _
  | _, _, _, .int, e => by rw [pd] at e; cases e; exact .int _
  | _, _, _, .str, e => by rw [pd] at e; cases e; exact .str _
  | _, _, _, .scr _, e => by rw [pd] at e <;> cases e
  | .tup xs, _, _, .tup h hs, e => by
    rw [pd] at e
    cases q : pds xs with
    | none => rw [q] at e; cases e
    | some ys => rw [q] at e; cases e; exact .tup (.of h) (Shrs.dp hs q)
  | .lst xs, _, _, .lst h hs, e => by
    rw [pd] at e
    cases q : pds xs with
    | none => rw [q] at e; cases e
    | some ys => rw [q] at e; cases e; exact .lst (.of h) (Shrs.dp hs q)
  | _, _, _, .cls _, e => by rw [pd] at e <;> cases e
  | _, _, _, .sei _ _, e => by rw [pd] at e <;> cases e
  | _, _, _, .dic _ _ _ _, e => by rw [pd] at e <;> cases e
  | _, _, _, .dit _ _ _ _, e => by rw [pd] at e <;> cases e
  | _, _, _, .dig _ _ _ _, e => by rw [pd] at e <;> cases e
  | _, _, _, .dlf _ _ _ _, e => by rw [pd] at e <;> cases e
  | _, _, _, .xt _ _ _, e => by rw [pd] at e <;> cases e
  | _, _, _, .len _ _, e => by rw [pd] at e <;> cases e
  | _, _, _, .ins _ _ _ _, e => by rw [pd] at e <;> cases e
theorem Shrs.dp {H : Hp} : ∀ {ds : List D} {vs : List V} {xs : List PyData}, Shrs W H ds vs -> pds ds = some xs -> DpAll W.K H vs xs
  | _, _, _, .nil, e => by rw [pds] at e; cases e; exact .nil
  | d :: ds, _, _, .cons h t, e => by
    rw [pds] at e
    cases q1 : pd d with
    | none => rw [q1] at e; cases e
    | some x =>
      cases q2 : pds ds with
      | none => rw [q1, q2] at e; cases e
      | some xs => rw [q1, q2] at e; cases e; exact .cons (Shr.dp h q1) (Shrs.dp t q2)
end
theorem o2_eqD {x y : PyData} (h1 : pd d1 = some x) (h2 : pd d2 = some y) (s1 : SeqAt.shaped x = true) (s2 : SeqAt.shaped y = true) : Op2 W (rEqD W.K) d1 d2 (.bl (PyData.eqv x y)) := fun F H v1 v2 Q s a b q =>
  ⟨x, y, a.dp h1, b.dp h2, s1, s2, q _ F H (.refl s) (rO_sh .bl)⟩
theorem o2_neD {x y : PyData} (h1 : pd d1 = some x) (h2 : pd d2 = some y) (s1 : SeqAt.shaped x = true) (s2 : SeqAt.shaped y = true) : Op2 W (rNeD W.K) d1 d2 (.bl (!PyData.eqv x y)) := fun F H v1 v2 Q s a b q =>
  ⟨x, y, a.dp h1, b.dp h2, s1, s2, q _ F H (.refl s) (rO_sh .bl)⟩
theorem o2L_cat {ds es : List D} (hl : ds.length + es.length <= 1000000) : Op2L W rCat ds es (.olst (ds ++ es)) := fun F H a b vs ws Q s ha sa hb sb q =>
  ⟨a, b, vs, ws, rfl, rfl, ha, hb, by rw [<- sa.length, <- sb.length]; exact Nat.le_trans hl (by decide), fun p hp => q _ F _ (.newH s hp) ⟨[p], .olst upd_same (sa.append sb).owns, by simp, fun x m => by
    rw [List.mem_singleton.mp m]; exact ⟨hp, s.free hp⟩⟩⟩
def Cb {T : Tbl} (W : Wd T) (r : List V -> Hp -> VK -> Prop) (ds : List D) (d : D) : Prop := ∀ (F H : Hp) (vs : List V) (Q : VK), Same F H -> Shrs W H ds vs -> (∀ v F' H', Ext F H F' H' -> rO W d F' H' H v -> Q v H') -> r vs H Q
theorem ae_cb {r : List V -> Hp -> VK -> Prop} {tr : TA} {ds : List D} (h : AA W tr env (rVs W ds)) (hc : Cb W r ds d) : AE W (tCB r tr) env (rO W d) := fun e F σ H L Q rl q =>
  h e F σ H L _ rl fun vs F1 H1 x1 y1 => hc F1 H1 vs Q x1.s y1 fun w F3 H3 x3 y3 => q w F3 H3 (x1.trans x3) (rO_back x1.h y3)
theorem cb_l {r r' : List V -> Hp -> VK -> Prop} {ds : List D} (h : Cb W r ds d) : Cb W (fun xs H Q => r xs H Q \/ r' xs H Q) ds d := fun F H vs Q s a q => .inl (h F H vs Q s a q)
def isNon : D -> Bool
  | .non => true
  | _ => false
theorem Shr.non_iff {F : Hp} {v : V} (h : Shr W F d v) : decide (v = V.non) = isNon d := by
  cases h <;> first | rfl | (simp [isNon])
theorem ae_isN (ha : AE W ta env (rV W d)) : AE W (tOp (fun x y H Q => y = .non /\ Q (.bl (decide (x = .non))) H) ta (tC .non)) env (rF W (.bl (isNon d))) := fun e F σ H L Q r q =>
  ha e F σ H L _ r fun v F1 H1 x1 y1 => ⟨rfl, by rw [y1.non_iff]; exact q _ F1 H1 x1 .bl⟩
theorem ae_andV {a b : Bool} (ha : AE W ta env (rV W (.bl a))) (hb : a = true -> AE W tb env (rV W (.bl b))) : AE W (tAndV ta tb) env (rF W (.bl (a && b))) := fun e F σ H L Q r q =>
  ha e F σ H L _ r fun v F1 H1 x1 y1 => by
    cases y1
    refine ⟨a, rfl, ?_⟩
    cases a with
    | true => exact hb rfl e F1 σ H1 L _ (r.ext x1) fun u F2 H2 x2 y2 => by cases y2; exact q _ F2 H2 (x1.trans x2) .bl
    | false => exact q _ F1 H1 x1 .bl
theorem ae_orV {a b : Bool} (ha : AE W ta env (rV W (.bl a))) (hb : a = false -> AE W tb env (rV W (.bl b))) : AE W (tOrV ta tb) env (rF W (.bl (a || b))) := fun e F σ H L Q r q =>
  ha e F σ H L _ r fun v F1 H1 x1 y1 => by
    cases y1
    refine ⟨a, rfl, ?_⟩
    cases a with
    | false => exact hb rfl e F1 σ H1 L _ (r.ext x1) fun u F2 H2 x2 y2 => by cases y2; exact q _ F2 H2 (x1.trans x2) .bl
    | true => exact q _ F1 H1 x1 .bl
theorem ae_notV {a : Bool} (ha : AE W ta env (rV W (.bl a))) : AE W (tNotV ta) env (rF W (.bl (!a))) := fun e F σ H L Q r q =>
  ha e F σ H L _ r fun v F1 H1 x1 y1 => by
    cases y1
    exact ⟨a, rfl, q _ F1 H1 x1 .bl⟩
variable {tt tu : TT} {a b : Bool}
theorem at_test (h : AE W t env (rV W (.bl b))) : AT W (tTest t) env b := fun e F σ H L Q r q => h e F σ H L _ r fun v F1 H1 x1 y1 => by
  cases y1
  exact ⟨b, rfl, q F1 H1 x1⟩
theorem at_and (h1 : AT W tt env a) (h2 : a = true -> AT W tu env b) : AT W (tAnd tt tu) env (a && b) := fun e F σ H L Q r q => h1 e F σ H L _ r fun F1 H1 x1 => by
  cases a with
  | true => exact h2 rfl e F1 σ H1 L _ (r.ext x1) fun F2 H2 x2 => q F2 H2 (x1.trans x2)
  | false => exact q F1 H1 x1
theorem at_or (h1 : AT W tt env a) (h2 : a = false -> AT W tu env b) : AT W (tOr tt tu) env (a || b) := fun e F σ H L Q r q => h1 e F σ H L _ r fun F1 H1 x1 => by
  cases a with
  | false => exact h2 rfl e F1 σ H1 L _ (r.ext x1) fun F2 H2 x2 => q F2 H2 (x1.trans x2)
  | true => exact q F1 H1 x1
theorem at_not (h1 : AT W tt env a) : AT W (tNot tt) env (!a) := fun e F σ H L Q r q => h1 e F σ H L _ r fun F1 H1 x1 => q F1 H1 x1
variable {tr : TA} {ds : List D}
theorem aa_nil : AA W tNil env (rFs W []) := fun e F σ H L Q r q => q [] F H (.refl r.sF) .nil
theorem aa_nilV : AA W tNil env (rVs W []) := fun e F σ H L Q r q => q [] F H (.refl r.sF) .nil
theorem aa_cons (ha : AE W t env (rF W d)) (hr : AA W tr env (rFs W ds)) : AA W (tCons t tr) env (rFs W (d :: ds)) := fun e F σ H L Q r q =>
  ha e F σ H L _ r fun v F1 H1 x1 y1 => hr e F1 σ H1 L _ (r.ext x1) fun vs F2 H2 x2 y2 => q _ F2 H2 (x1.trans x2) (.cons (y1.mono x2.f) y2)
theorem aa_consV (ha : AE W t env (rV W d)) (hr : AA W tr env (rVs W ds)) : AA W (tCons t tr) env (rVs W (d :: ds)) := fun e F σ H L Q r q =>
  ha e F σ H L _ r fun v F1 H1 x1 y1 => hr e F1 σ H1 L _ (r.ext x1) fun vs F2 H2 x2 y2 => q _ F2 H2 (x1.trans x2) (.cons (y1.mono x2.h) y2)
theorem AA.view (h : AA W tr env (rFs W ds)) : AA W tr env (rVs W ds) := fun e F σ H L Q r q => h e F σ H L _ r fun v F1 H1 x1 y1 => q v F1 H1 x1 (Shrs.mono x1.s y1)
theorem sz_le {n : Nat} (h : n <= 1000000) : n <= sizeLine := Nat.le_trans h (by decide)
theorem ae_tup (h : AA W tr env (rFs W ds)) (hl : ds.length <= 1000000) : AE W (tTup tr) env (rF W (.tup ds)) := fun e F σ H L Q r q =>
  h e F σ H L _ r fun vs F1 H1 x1 y1 => ⟨by rw [<- y1.length]; exact sz_le hl, fun p hp =>
    q _ (upd F1 p (.tup vs)) _ (x1.trans (.new x1.s hp)) (.tup upd_same (y1.mono (same_new (x1.s.free hp))))⟩
theorem ae_lst (h : AA W tr env (rFs W ds)) (hl : ds.length <= 1000000) : AE W (tLst tr) env (rO W (.olst ds)) := fun e F σ H L Q r q =>
  h e F σ H L _ r fun vs F1 H1 x1 y1 => ⟨by rw [<- y1.length]; exact sz_le hl, fun p hp =>
    q _ F1 _ (x1.trans (.newH x1.s hp)) ⟨[p], .olst upd_same y1.owns, by simp, fun a m => by
      rw [List.mem_singleton.mp m]; exact ⟨x1.h.free hp, x1.s.free hp⟩⟩⟩
abbrev rLenU (K : PySem.W.Frag) : List V -> Hp -> VK -> Prop := fun xs H Q => ∃ p ys, xs = [.ref p] /\ (SqL K H p ys \/ SqT K H p ys) /\ Q (.int ys.length) H
theorem cb_lenL {ds : List D} : Cb W (rLenU W.K) [.lst ds] (.int ds.length) := fun F H vs Q s a q => by
  cases a with
  | cons a b =>
    cases b
    cases a with
    | lst a b => exact ⟨_, _, rfl, .inl (.of a), q _ F H (.refl s) (rO_sh (by rw [b.length]; exact .int))⟩
theorem cb_lenT {ds : List D} : Cb W (rLenU W.K) [.tup ds] (.int ds.length) := fun F H vs Q s a q => by
  cases a with
  | cons a b =>
    cases b
    cases a with
    | tup a b => exact ⟨_, _, rfl, .inr (.of a), q _ F H (.refl s) (rO_sh (by rw [b.length]; exact .int))⟩
theorem cb_lenS {ns : List Int} : Cb W (rLenU W.K) [.scr ns] (.int ns.length) := fun F H vs Q s a q => by
  cases a with
  | cons a b =>
    cases b
    cases a with
    | scr a => exact ⟨_, _, rfl, .inl a, q _ F H (.refl s) (rO_sh (by rw [List.length_map]; exact .int))⟩
def rIxU (K : PySem.W.Frag) : R2 := fun x y H Q => rIxL K x y H Q \/ rIxT K x y H Q
theorem AT.is {tt : TT} {b c : Bool} (h : AT W tt env b) (e : b = c) : AT W tt env c := e ▸ h
theorem cb_int : Cb W (fun xs H Q => (∃ i, xs = [.int i] /\ Q (.int i) H) \/ ∃ k, xs = [.bl k] /\ Q (.int (if k then 1 else 0)) H) [.int i] (.int i) := fun F H vs Q s a q => by
  cases a with
  | cons a b =>
    cases b; cases a
    exact .inl ⟨i, rfl, q _ F H (.refl s) (rO_sh .int)⟩
theorem cb_abs : Cb W (fun xs H Q => ∃ i, xs = [.int i] /\ Q (.int (if i < 0 then -i else i)) H) [.int i] (.int (if i < 0 then -i else i)) := fun F H vs Q s a q => by
  cases a with
  | cons a b =>
    cases b; cases a
    exact ⟨i, rfl, q _ F H (.refl s) (rO_sh .int)⟩
variable {P : List Nat} {E : WX} {A : AEnds}
def AG {T : Tbl} (W : Wd T) (P : List Nat) (g : TG) (d : D) (env : Py.Env) (k : Py.Env -> Prop) : Prop :=
  ∀ (e : Ent) (F : Hp) (σ : St) (H : Hp) (L : List Addr) (v : V) (Q : St -> Hp -> Prop), P = e.pins.map (·.1) -> Rel W e env F σ H L -> Shr W F d v -> (∀ env' σ' L', k env' -> Rel W e env' F σ' H L' -> Q σ' H) -> g v σ H Q
def AGs {T : Tbl} (W : Wd T) (P : List Nat) (g : TGs) (ds : List D) (env : Py.Env) (k : Py.Env -> Prop) : Prop :=
  ∀ (e : Ent) (F : Hp) (σ : St) (H : Hp) (L : List Addr) (vs : List V) (Q : St -> Hp -> Prop), P = e.pins.map (·.1) -> Rel W e env F σ H L -> Shrs W F ds vs -> (∀ env' σ' L', k env' -> Rel W e env' F σ' H L' -> Q σ' H) -> g vs σ H Q
theorem ag_name {k : Nat} {o' : Option D} {q : Py.Env -> Prop} (hi' : env[k]? = some o') (hp : k ∉ P) (h : q (env.set k (some d))) : AG W P (gName k) d env q := fun e F σ H L v Q hP r s c => by
  have hi := (List.getElem?_eq_some_iff.mp hi').1
  obtain ⟨L', r2⟩ := r.set (i := k) (M := []) (.sh s) (by simpa using r.nd) (fun a m => nomatch m) hi fun p hm z => hp (by rw [hP]; exact List.mem_map.mpr ⟨p, hm, z⟩)
  exact c _ _ _ h r2
theorem ags_nil {q : Py.Env -> Prop} (h : q env) : AGs W P gNil [] env q := fun e F σ H L v Q hP r s c => by
  cases s
  exact ⟨rfl, c _ _ _ h r⟩
theorem ags_cons {g : TG} {gs : TGs} {q : Py.Env -> Prop} (h : AG W P g d env fun env' => AGs W P gs ds env' q) : AGs W P (gCons g gs) (d :: ds) env q := fun e F σ H L v Q hP r s c => by
  cases s with
  | cons a b => exact ⟨_, _, rfl, h e F σ H L _ _ hP r a fun env' σ' L' k r' => k e F σ' H L' _ Q hP r' b c⟩
theorem ag_tup {gs : TGs} {q : Py.Env -> Prop} {k : Nat} (hl : ds.length = k) (h : AGs W P gs ds env q) : AG W P (gTup W.K k gs) (.tup ds) env q := fun e F σ H L v Q hP r s c => by
  cases s with
  | tup a b => exact ⟨_, _, rfl, .of (r.sF _ _ a), by rw [<- b.length]; exact hl, h e F σ H L _ Q hP r b c⟩
theorem Rel.enter {e : Ent} {F H : Hp} {σ : St} {L : List Addr} (r : Rel W e env F σ H L) : Rel W { e with F0 := F } env F σ H L :=
  ⟨r.sF, r.slots, r.nd, r.dj, Same.refl _, fun _ _ h => .inl h, r.fr, r.ln, r.pin⟩
theorem Rel.leave {e : Ent} {F1 F H H1 : Hp} {σ σ1 : St} {L L1 : List Addr} {env1 : Py.Env} (r1 : Rel W e env1 F1 σ1 H1 L1) (r : Rel W { e with F0 := F1 } env F σ H L) : Rel W e env F σ H L :=
  ⟨r.sF, r.slots, r.nd, r.dj, r1.s0.trans r.s0, fun a o h => (r.nw a o h).elim (fun q => r1.nw a o q) .inr, r.fr, r.ln, r.pin⟩
end
end Py
namespace Py
open PySem L2
inductive Pst where
  | fld (f : String) | idx (k : Nat) | key (k : Key) | keyT (k : List Key)
def pos {α : Type} [DecidableEq α] (f : α) : List α -> Option Nat
  | [] => none
  | x :: xs => if x = f then some 0 else (pos f xs).map (· + 1)
theorem pos_get {α : Type} [DecidableEq α] {f : α} : ∀ {ns : List α} {j : Nat}, pos f ns = some j -> ns[j]? = some f
  | [], _, h => by cases h
  | x :: xs, j, h => by
    unfold pos at h
    split at h
    · rename_i e; cases h; rw [e]; rfl
    · cases q : pos f xs with
      | none => rw [q] at h; cases h
      | some k => rw [q] at h; cases h; exact pos_get (ns := xs) q
theorem zip_lookup {f : String} : ∀ {ns : List String} {vs : List V} {j : Nat}, pos f ns = some j -> ((ns.map so).zip vs).lookup (so f) = vs[j]?
  | [], _, _, h => by cases h
  | x :: xs, [], j, h => by simp
  | x :: xs, v :: vs, j, h => by
    unfold pos at h
    rw [List.map_cons, List.zip_cons_cons, List.lookup_cons]
    split at h
    · rename_i e; cases h; subst e; simp
    · rename_i e
      cases q : pos f xs with
      | none => rw [q] at h; cases h
      | some k =>
        rw [q] at h; cases h
        rw [beq_eq_false_iff_ne.mpr (fun z => e (so_inj z.symm))]
        exact zip_lookup (ns := xs) q
def D.place : D -> Pst -> Option Nat
  | .oins _ ns _, .fld f => pos f ns
  | .olst _, .idx k => some k
  | .odic ks _, .key k => pos k ks
  | .odit ks _, .keyT k => pos k ks
  | _, _ => none
def D.parts : D -> List D
  | .oins _ _ xs => xs
  | .olst xs => xs
  | .odic _ xs => xs
  | .odit _ xs => xs
  | _ => []
def D.withParts : D -> List D -> D
  | .oins C ns _, xs => .oins C ns xs
  | .olst _, xs => .olst xs
  | .odic ks _, xs => .odic ks xs
  | .odit ks _, xs => .odit ks xs
  | d, _ => d
def D.sub (d : D) (s : Pst) : Option D := (d.place s).bind fun j => d.parts[j]?
def D.put (d : D) (s : Pst) (n : D) : D := match d.place s with
  | some j => d.withParts (d.parts.set j n)
  | none => d
def D.at (d : D) : List Pst -> Option D
  | [] => some d
  | s :: st => (d.sub s).bind fun x => x.at st
def D.putAt (d : D) : List Pst -> D -> D
  | [], n => n
  | s :: st, n => match d.sub s with
    | some x => d.put s (x.putAt st n)
    | none => d
def VStep (H : Hp) (v : V) (s : Pst) (w : V) : Prop := match s with
  | .fld f => ∃ a C dx fs, v = .ref a /\ H a = some (.ins C dx fs) /\ fs.lookup (so f) = some w
  | .idx k => ∃ a vs, v = .ref a /\ H a = some (.lst vs) /\ vs[k]? = some w
  | .key k => ∃ a kvs, v = .ref a /\ H a = some (.dK kvs) /\ ∃ j : Nat, pos k (kvs.map (·.1)) = some j /\ (kvs.map (·.2))[j]? = some w
  | .keyT k => ∃ a kvs, v = .ref a /\ H a = some (.dT kvs) /\ ∃ j : Nat, pos k (kvs.map (·.1)) = some j /\ (kvs.map (·.2))[j]? = some w
def VPath (H : Hp) (v : V) : List Pst -> V -> Prop
  | [], w => v = w
  | s :: st, w => ∃ u, VStep H v s u /\ VPath H u st w
theorem VStep.mono {H H' : Hp} {v w : V} {s : Pst} (e : Same H H') (h : VStep H v s w) : VStep H' v s w := by
  cases s with
  | fld f => obtain ⟨a, C, dx, fs, h1, h2, h3⟩ := h; exact ⟨a, C, dx, fs, h1, e _ _ h2, h3⟩
  | idx k => obtain ⟨a, vs, h1, h2, h3⟩ := h; exact ⟨a, vs, h1, e _ _ h2, h3⟩
  | key k => obtain ⟨a, vs, h1, h2, h3⟩ := h; exact ⟨a, vs, h1, e _ _ h2, h3⟩
  | keyT k => obtain ⟨a, vs, h1, h2, h3⟩ := h; exact ⟨a, vs, h1, e _ _ h2, h3⟩
theorem VPath.mono {H H' : Hp} (e : Same H H') : ∀ {st : List Pst} {v w : V}, VPath H v st w -> VPath H' v st w
  | [], _, _, h => h
  | _ :: _, _, _, ⟨u, h1, h2⟩ => ⟨u, h1.mono e, VPath.mono e h2⟩
theorem VStep.det {H : Hp} {v w u : V} {s : Pst} (h : VStep H v s w) (q : VStep H v s u) : w = u := by
  cases s with
  | fld f =>
    obtain ⟨a, C, dx, fs, h1, h2, h3⟩ := h
    obtain ⟨b, C', dx', fs', q1, q2, q3⟩ := q
    rw [h1] at q1; cases q1
    rw [h2] at q2; cases q2
    rw [h3] at q3; exact Option.some.inj q3
  | idx k =>
    obtain ⟨a, vs, h1, h2, h3⟩ := h
    obtain ⟨b, ws, q1, q2, q3⟩ := q
    rw [h1] at q1; cases q1
    rw [h2] at q2; cases q2
    rw [h3] at q3; exact Option.some.inj q3
  | key k =>
    obtain ⟨a, vs, h1, h2, j, h3, h4⟩ := h
    obtain ⟨b, ws, q1, q2, j', q3, q4⟩ := q
    rw [h1] at q1; cases q1
    rw [h2] at q2; cases q2
    rw [h3] at q3; cases q3
    rw [h4] at q4; exact Option.some.inj q4
  | keyT k =>
    obtain ⟨a, vs, h1, h2, j, h3, h4⟩ := h
    obtain ⟨b, ws, q1, q2, j', q3, q4⟩ := q
    rw [h1] at q1; cases q1
    rw [h2] at q2; cases q2
    rw [h3] at q3; cases q3
    rw [h4] at q4; exact Option.some.inj q4
theorem VPath.det {H : Hp} : ∀ {st : List Pst} {v w u : V}, VPath H v st w -> VPath H v st u -> w = u
  | [], _, _, _, h, q => by cases h; cases q; rfl
  | _ :: _, _, _, _, ⟨x, h1, h2⟩, ⟨y, q1, q2⟩ => by
    cases h1.det q1
    exact VPath.det h2 q2
theorem VPath.snoc {H : Hp} : ∀ {st : List Pst} {v w u : V} {s : Pst}, VPath H v st w -> VStep H w s u -> VPath H v (st ++ [s]) u
  | [], _, _, _, _, h, q => by cases h; exact ⟨_, q, rfl⟩
  | _ :: _, _, _, _, _, ⟨x, h1, h2⟩, q => ⟨x, h1, VPath.snoc h2 q⟩
section
variable {T : Tbl} {W : Wd T} {F H : Hp}
theorem Owns.focus : ∀ {xs : List D} {vs : List V} {L : List Addr} {j : Nat} {n : D}, Owns W F H xs vs L -> L.Nodup -> xs[j]? = some n ->
    ∃ vn Ln Lr, vs[j]? = some vn /\ Own W F H n vn Ln /\ (Ln ++ Lr).Nodup /\ (∀ a, a ∈ Ln \/ a ∈ Lr ↔ a ∈ L) /\
      ∀ F' H' n' Ln', Same F F' -> (∀ a ∈ Lr, ∀ o, H a = some o -> H' a = some o) -> Own W F' H' n' vn Ln' -> (Ln' ++ Lr).Nodup -> ∃ L', Owns W F' H' (xs.set j n') vs L' /\ L'.Nodup /\ ∀ a, a ∈ L' ↔ a ∈ Ln' \/ a ∈ Lr
  | _, _, _, _, _, .nil, _, e => by simp at e
  | _, _, _, 0, n, .cons (L := L1) (M := M1) (v := v1) o t, nd, e => by
    simp at e; subst e
    refine ⟨v1, L1, M1, rfl, o, nd, fun a => List.mem_append.symm, fun F' H' n' Ln' s k o' nd' => ⟨Ln' ++ M1, ?_, nd', fun a => List.mem_append⟩⟩
    exact .cons o' (t.frame s k)
  | _, _, _, j + 1, n, .cons (L := L1) (M := M1) (v := v1) (d := d1) (ds := ds1) o t, nd, e => by
    rw [List.nodup_append] at nd
    obtain ⟨n1, n2, n3⟩ := nd
    obtain ⟨vn, Ln, Lr, h1, h2, h3, h4, h5⟩ := t.focus (j := j) n2 (by simpa using e)
    have hd : ∀ a ∈ L1, a ∉ Ln /\ a ∉ Lr := fun a ha => ⟨fun z => n3 a ha a ((h4 a).mp (.inl z)) rfl, fun z => n3 a ha a ((h4 a).mp (.inr z)) rfl⟩
    refine ⟨vn, Ln, L1 ++ Lr, by simpa using h1, h2, ?_, fun a => ?_, fun F' H' n' Ln' s k o' nd' => ?_⟩
    · rw [List.nodup_append] at h3 ⊢
      refine ⟨h3.1, ?_, fun a ha b hb q => ?_⟩
      · rw [List.nodup_append]
        exact ⟨n1, h3.2.1, fun a ha b hb q => (hd a ha).2 (q ▸ hb)⟩
      · subst q
        rcases List.mem_append.mp hb with z | z
        · exact (hd a z).1 ha
        · exact h3.2.2 a ha a z rfl
    · rw [List.mem_append, List.mem_append, <- h4 a]
      constructor
      · rintro (z | z | z)
        · exact .inr (.inl z)
        · exact .inl z
        · exact .inr (.inr z)
      · rintro (z | z | z)
        · exact .inr (.inl z)
        · exact .inl z
        · exact .inr (.inr z)
    · rw [List.nodup_append] at nd'
      obtain ⟨p1, p2, p3⟩ := nd'
      rw [List.nodup_append] at p2
      obtain ⟨L', q1, q2, q3⟩ := h5 F' H' n' Ln' s (fun a m => k a (List.mem_append_right _ m)) o' (by
        rw [List.nodup_append]
        exact ⟨p1, p2.2.1, fun a ha b hb => p3 a ha b (List.mem_append_right _ hb)⟩)
      refine ⟨L1 ++ L', .cons (o.frame s fun a m => k a (List.mem_append_left _ m)) q1, ?_, fun a => ?_⟩
      · rw [List.nodup_append]
        refine ⟨n1, q2, fun a ha b hb q => ?_⟩
        subst q
        rcases (q3 a).mp hb with z | z
        · exact p3 a z a (List.mem_append_left _ ha) rfl
        · exact p2.2.2 a ha a z rfl
      · rw [List.mem_append, List.mem_append, q3 a]
        constructor
        · rintro (z | z | z)
          · exact .inr (.inl z)
          · exact .inl z
          · exact .inr (.inr z)
        · rintro (z | z | z)
          · exact .inr (.inl z)
          · exact .inl z
          · exact .inr (.inr z)
theorem zipK_get {κ : Type} {ks : List κ} {vs : List V} (h : ks.length = vs.length) : ((ks.zip vs).map (·.1)) = ks /\ ((ks.zip vs).map (·.2)) = vs := ⟨by rw [List.map_fst_zip (by omega)], by rw [List.map_snd_zip (by omega)]⟩
theorem Own.focus1 {d n : D} {v : V} {L : List Addr} {s : Pst} (o : Own W F H d v L) (nd : L.Nodup) (h : d.sub s = some n) :
    ∃ vn Ln Lr, VStep H v s vn /\ Own W F H n vn Ln /\ (Ln ++ Lr).Nodup /\ (∀ a, a ∈ Ln \/ a ∈ Lr ↔ a ∈ L) /\
      ∀ F' H' n' Ln', Same F F' -> (∀ a ∈ Lr, ∀ o, H a = some o -> H' a = some o) -> Own W F' H' n' vn Ln' -> (Ln' ++ Lr).Nodup -> ∃ L', Own W F' H' (d.put s n') v L' /\ L'.Nodup /\ ∀ a, a ∈ L' ↔ a ∈ Ln' \/ a ∈ Lr := by
  have gen : ∀ {a : Addr} {xs : List D} {vs : List V} {M : List Addr} {j : Nat} {ho : HO} {G : List D -> D}, H a = some ho -> Owns W F H xs vs M -> (a :: M).Nodup -> xs[j]? = some n ->
      (∀ F' H' ys M', H' a = some ho -> Owns W F' H' ys vs M' -> Own W F' H' (G ys) (.ref a) (a :: M')) -> ∃ vn, vs[j]? = some vn /\ ∃ Ln Lr, Own W F H n vn Ln /\ (Ln ++ Lr).Nodup /\ (∀ b, b ∈ Ln \/ b ∈ Lr ↔ b ∈ a :: M) /\
      ∀ F' H' n' Ln', Same F F' -> (∀ a ∈ Lr, ∀ o, H a = some o -> H' a = some o) -> Own W F' H' n' vn Ln' -> (Ln' ++ Lr).Nodup -> ∃ L', Own W F' H' (G (xs.set j n')) (.ref a) L' /\ L'.Nodup /\ ∀ b, b ∈ L' ↔ b ∈ Ln' \/ b ∈ Lr := by
    intro a xs vs M j ho G ha os nd hj mk
    rw [List.nodup_cons] at nd
    obtain ⟨vn, Ln, Lr, h1, h2, h3, h4, h5⟩ := os.focus nd.2 hj
    have na : a ∉ Ln /\ a ∉ Lr := ⟨fun z => nd.1 ((h4 a).mp (.inl z)), fun z => nd.1 ((h4 a).mp (.inr z))⟩
    refine ⟨vn, h1, Ln, a :: Lr, h2, ?_, fun b => ?_, fun F' H' n' Ln' s k o' nd' => ?_⟩
    · rw [List.nodup_append] at h3 ⊢
      refine ⟨h3.1, List.nodup_cons.mpr ⟨na.2, h3.2.1⟩, fun x hx y hy q => ?_⟩
      subst q
      rcases List.mem_cons.mp hy with z | z
      · subst z; exact na.1 hx
      · exact h3.2.2 x hx x z rfl
    · rw [List.mem_cons, List.mem_cons, <- h4 b]
      constructor
      · rintro (z | z | z)
        · exact .inr (.inl z)
        · exact .inl z
        · exact .inr (.inr z)
      · rintro (z | z | z)
        · exact .inr (.inl z)
        · exact .inl z
        · exact .inr (.inr z)
    · rw [List.nodup_append] at nd'
      obtain ⟨p1, p2, p3⟩ := nd'
      rw [List.nodup_cons] at p2
      obtain ⟨L', q1, q2, q3⟩ := h5 F' H' n' Ln' s (fun b m => k b (List.mem_cons_of_mem _ m)) o' (by
        rw [List.nodup_append]
        exact ⟨p1, p2.2, fun x hx y hy => p3 x hx y (List.mem_cons_of_mem _ hy)⟩)
      refine ⟨a :: L', mk F' H' _ L' (k a (List.mem_cons_self ..) _ ha) q1, List.nodup_cons.mpr ⟨fun z => ?_, q2⟩, fun b => ?_⟩
      · rcases (q3 a).mp z with z | z
        · exact p3 a z a (List.mem_cons_self ..) rfl
        · exact p2.1 z
      · rw [List.mem_cons, List.mem_cons, q3 b]
        constructor
        · rintro (z | z | z)
          · exact .inr (.inl z)
          · exact .inl z
          · exact .inr (.inr z)
        · rintro (z | z | z)
          · exact .inr (.inl z)
          · exact .inl z
          · exact .inr (.inr z)
  unfold D.sub at h
  cases hp : d.place s with
  | none => rw [hp] at h; cases h
  | some j =>
    rw [hp] at h
    have h : d.parts[j]? = some n := h
    have hput : ∀ n', d.put s n' = d.withParts (d.parts.set j n') := fun n' => by unfold D.put; rw [hp]
    simp only [hput]
    cases o with
    | sh y =>
      cases y <;> (unfold D.place at hp; cases hp)
    | @olst a xs vs M ha os =>
      cases s with
      | idx k =>
        cases hp
        obtain ⟨vn, h1, Ln, Lr, h2⟩ := gen (G := .olst) ha os nd h fun F' H' ys M' q r => .olst q r
        exact ⟨vn, Ln, Lr, ⟨a, vs, rfl, ha, h1⟩, h2⟩
      | fld f => cases hp
      | key k => cases hp
      | keyT k => cases hp
    | @odic a ks xs vs M ha hl hn os =>
      cases s with
      | key k =>
        obtain ⟨vn, h1, Ln, Lr, h2⟩ := gen (G := .odic ks) ha os nd h fun F' H' ys M' q r => .odic q hl hn r
        obtain ⟨z1, z2⟩ := zipK_get hl
        exact ⟨vn, Ln, Lr, ⟨a, _, rfl, ha, j, by rw [z1]; exact hp, by rw [z2]; exact h1⟩, h2⟩
      | fld f => cases hp
      | idx k => cases hp
      | keyT k => cases hp
    | @odit a ks xs vs M ha hl hn os =>
      cases s with
      | keyT k =>
        obtain ⟨vn, h1, Ln, Lr, h2⟩ := gen (G := .odit ks) ha os nd h fun F' H' ys M' q r => .odit q hl hn r
        obtain ⟨z1, z2⟩ := zipK_get hl
        exact ⟨vn, Ln, Lr, ⟨a, _, rfl, ha, j, by rw [z1]; exact hp, by rw [z2]; exact h1⟩, h2⟩
      | fld f => cases hp
      | idx k => cases hp
      | key k => cases hp
    | odig => cases s <;> cases hp
    | olf => cases s <;> cases hp
    | oxt => cases s <;> cases hp
    | otup => cases s <;> cases hp
    | @oins a C dx ns xs vs M ha hc hl os =>
      cases s with
      | fld f =>
        obtain ⟨vn, h1, Ln, Lr, h2⟩ := gen (G := .oins C ns) ha os nd h fun F' H' ys M' q r => .oins q hc hl r
        exact ⟨vn, Ln, Lr, ⟨a, _, dx, _, rfl, ha, by rw [zip_lookup hp]; exact h1⟩, h2⟩
      | idx k => cases hp
      | key k => cases hp
      | keyT k => cases hp
theorem Own.focus : ∀ {st : List Pst} {d n : D} {v : V} {L : List Addr}, Own W F H d v L -> L.Nodup -> d.at st = some n ->
    ∃ vn Ln Lr, VPath H v st vn /\ Own W F H n vn Ln /\ (Ln ++ Lr).Nodup /\ (∀ a, a ∈ Ln \/ a ∈ Lr ↔ a ∈ L) /\
      ∀ F' H' n' Ln', Same F F' -> (∀ a ∈ Lr, ∀ o, H a = some o -> H' a = some o) -> Own W F' H' n' vn Ln' -> (Ln' ++ Lr).Nodup -> ∃ L', Own W F' H' (d.putAt st n') v L' /\ L'.Nodup /\ ∀ a, a ∈ L' ↔ a ∈ Ln' \/ a ∈ Lr
  | [], d, n, v, L, o, nd, h => by
    cases h
    exact ⟨v, L, [], rfl, o, by simpa using nd, fun a => by simp, fun F' H' n' Ln' s k o' nd' => ⟨Ln', o', by simpa using nd', fun a => by simp⟩⟩
  | s :: st, d, n, v, L, o, nd, h => by
    unfold D.at at h
    cases hs : d.sub s with
    | none => rw [hs] at h; cases h
    | some x =>
      rw [hs] at h
      obtain ⟨vx, Lx, Ly, h1, h2, h3, h4, h5⟩ := o.focus1 nd hs
      obtain ⟨vn, Ln, Lr, k1, k2, k3, k4, k5⟩ := h2.focus (st := st) (List.nodup_append.mp h3).1 h
      have hput : ∀ n', d.putAt (s :: st) n' = d.put s (x.putAt st n') := fun n' => by
        show (match d.sub s with | some x => d.put s (x.putAt st n') | none => d) = _
        rw [hs]
      simp only [hput]
      rw [List.nodup_append] at h3
      obtain ⟨m1, m2, m3⟩ := h3
      refine ⟨vn, Ln, Lr ++ Ly, ⟨vx, h1, k1⟩, k2, ?_, fun a => ?_, fun F' H' n' Ln' sm k o' nd' => ?_⟩
      · rw [<- List.append_assoc, List.nodup_append]
        refine ⟨k3, m2, fun a ha b hb => m3 a ?_ b hb⟩
        exact (k4 a).mp (List.mem_append.mp ha)
      · rw [List.mem_append, <- h4 a, <- k4 a]
        constructor
        · rintro (z | z | z)
          · exact .inl (.inl z)
          · exact .inl (.inr z)
          · exact .inr z
        · rintro ((z | z) | z)
          · exact .inl z
          · exact .inr (.inl z)
          · exact .inr (.inr z)
      · rw [<- List.append_assoc, List.nodup_append] at nd'
        obtain ⟨p1, p2, p3⟩ := nd'
        obtain ⟨L', q1, q2, q3⟩ := k5 F' H' n' Ln' sm (fun a m => k a (List.mem_append_left _ m)) o' p1
        obtain ⟨L2, r1, r2, r3⟩ := h5 F' H' _ L' sm (fun a m => k a (List.mem_append_right _ m)) q1 (by
          rw [List.nodup_append]
          exact ⟨q2, p2, fun a ha b hb => p3 a (List.mem_append.mpr ((q3 a).mp ha)) b hb⟩)
        refine ⟨L2, r1, r2, fun a => ?_⟩
        rw [r3 a, q3 a, List.mem_append]
        constructor
        · rintro ((z | z) | z)
          · exact .inl z
          · exact .inr (.inl z)
          · exact .inr (.inr z)
        · rintro (z | z | z)
          · exact .inl (.inl z)
          · exact .inl (.inr z)
          · exact .inr z
theorem D.at_snoc {s : Pst} {x n : D} : ∀ {st : List Pst} {d : D}, d.at st = some n -> n.sub s = some x -> d.at (st ++ [s]) = some x
  | [], d, h, q => by
    have h : some d = some n := h
    cases h
    show (n.sub s).bind _ = _
    rw [q]; rfl
  | p :: st, d, h, q => by
    obtain ⟨y, h1, h2⟩ := Option.bind_eq_some_iff.mp h
    show (d.sub p).bind _ = _
    rw [h1]
    exact D.at_snoc h2 q
theorem Owns.snoc : ∀ {xs : List D} {vs : List V} {M M2 : List Addr} {d : D} {v : V}, Owns W F H xs vs M -> Own W F H d v M2 -> Owns W F H (xs ++ [d]) (vs ++ [v]) (M ++ M2)
  | _, _, _, M2, _, _, .nil, o => by
    have h := Owns.cons o (Owns.nil (W := W) (F := F) (H := H))
    rw [List.append_nil] at h
    exact h
  | _, _, _, M2, _, _, .cons (L := L) (M := M) h t, o => by
    have q := Owns.cons h (t.snoc o)
    rw [<- List.append_assoc] at q
    exact q
theorem Rel.focus {e : Ent} {env : Py.Env} {σ : St} {L : List Addr} {i : Nat} {d0 n : D} {st : List Pst} (r : Rel W e env F σ H L) (h0 : env[i]? = some (some d0)) (h1 : d0.at st = some n) :
    ∃ v0 vn Ln Lr, σ[i]? = some (some v0) /\ VPath H v0 st vn /\ Own W F H n vn Ln /\ (Ln ++ Lr).Nodup /\ (∀ a, a ∈ Ln \/ a ∈ Lr ↔ a ∈ L) /\
      ∀ F' H' n' Ln', Same F F' -> Same F' H' -> (∀ a o, a ∉ Ln -> H a = some o -> H' a = some o) -> (∀ a o, F' a = some o -> F a = some o \/ (H a = none \/ a ∉ L /\ (a ∈ e.L0 \/ e.H0 a = none)) \/ a ∈ Ln) -> Own W F' H' n' vn Ln' -> (Ln' ++ Lr).Nodup -> (∀ a ∈ Ln', F' a = none /\ (a ∈ Ln \/ a ∈ e.L0 \/ e.H0 a = none)) ->
        ∃ L', Rel W e (env.set i (some (d0.putAt st n'))) F' σ H' L' /\ ∀ a ∈ L', a ∈ Ln' \/ a ∈ Lr := by
  obtain ⟨v0, Li, Lj, e1, o, sl, nd, mem⟩ := r.slots.take r.nd h0
  obtain ⟨vn, Ln, Lr, k1, k2, k3, k4, k5⟩ := o.focus (List.nodup_append.mp nd).1 h1
  rw [List.nodup_append] at nd
  obtain ⟨m1, m2, m3⟩ := nd
  have tot : ∀ a, a ∈ Ln \/ a ∈ Lr ++ Lj ↔ a ∈ L := fun a => by
    rw [List.mem_append, <- mem a, <- k4 a]
    constructor
    · rintro (z | z | z)
      · exact .inl (.inl z)
      · exact .inl (.inr z)
      · exact .inr z
    · rintro ((z | z) | z)
      · exact .inl z
      · exact .inr (.inl z)
      · exact .inr (.inr z)
  have ndT : (Ln ++ (Lr ++ Lj)).Nodup := by
    rw [<- List.append_assoc, List.nodup_append]
    exact ⟨k3, m2, fun a ha b hb => m3 a ((k4 a).mp (List.mem_append.mp ha)) b hb⟩
  refine ⟨v0, vn, Ln, Lr ++ Lj, e1, k1, k2, ndT, tot, fun F' H' n' Ln' sF sH fr nw o' nd' hn => ?_⟩
  have notn : ∀ a ∈ Lr ++ Lj, a ∉ Ln := fun a ha z => (List.nodup_append.mp ndT).2.2 a z a ha rfl
  have keep : ∀ a ∈ Lr ++ Lj, ∀ o, H a = some o -> H' a = some o := fun a ha o q => fr a o (notn a ha) q
  rw [<- List.append_assoc, List.nodup_append] at nd'
  obtain ⟨p1, p2, p3⟩ := nd'
  obtain ⟨L', q1, q2, q3⟩ := k5 F' H' n' Ln' sF (fun a m => keep a (List.mem_append_left _ m)) o' p1
  have sl' := sl.frame (F' := F') (H' := H') sF fun a m => keep a (List.mem_append_right _ m)
  have hi : i < env.length := (List.getElem?_eq_some_iff.mp h0).1
  obtain ⟨L2, s1, s2, s3⟩ := sl'.put (i := i) (v := v0) q1 (by
    rw [List.nodup_append]
    exact ⟨q2, p2, fun a ha b hb => p3 a (List.mem_append.mpr ((q3 a).mp ha)) b hb⟩) (by simpa using hi)
  have hset : (env.set i none).set i (some (d0.putAt st n')) = env.set i (some (d0.putAt st n')) := by rw [List.set_set]
  have hσ : σ.set i (some v0) = σ := by
    apply List.ext_getElem?
    intro k
    by_cases hk : i = k
    · subst hk
      obtain ⟨hlt, _⟩ := List.getElem?_eq_some_iff.mp e1
      rw [List.getElem?_set_self hlt, e1]
    · rw [List.getElem?_set_ne hk]
  rw [hset, hσ] at s1
  have inL : ∀ a ∈ L2, (a ∈ Ln' \/ a ∈ Lr ++ Lj) := fun a ha => by
    rcases s3 a ha with z | z
    · rcases (q3 a).mp z with z | z
      · exact .inl z
      · exact .inr (List.mem_append_left _ z)
    · exact .inr (List.mem_append_right _ z)
  have nr : ∀ a ∈ Lr ++ Lj, F' a = none := fun a ha => by
    obtain ⟨o, ho⟩ := r.slots.lives a ((tot a).mp (.inr ha))
    cases q : F' a with
    | none => rfl
    | some u =>
      rcases nw a u q with z | (z | z) | z
      · rw [r.dj a ((tot a).mp (.inr ha))] at z; cases z
      · rw [ho] at z; cases z
      · exact absurd ((tot a).mp (.inr ha)) z.1
      · exact absurd z (notn a ha)
  refine ⟨L2, ⟨sH, s1, s2, fun a ha => ?_, r.s0.trans sF, fun a o q => ?_, fun a o m q => ?_, fun a ha => ?_, r.pin⟩, inL⟩
  · rcases inL a ha with z | z
    · exact (hn a z).1
    · exact nr a z
  · rcases nw a o q with z | (z | z) | z
    · exact r.nw a o z
    · exact .inr ((r.h0 z).elim .inr .inl)
    · exact .inr (z.2.elim .inr .inl)
    · exact .inr ((r.ln a ((tot a).mp (.inl z))).elim .inr .inl)
  · have h := r.fr a o m q
    refine fr a o (fun z => ?_) h
    rcases r.ln a ((tot a).mp (.inl z)) with y | y
    · exact m y
    · rw [q] at y; cases y
  · rcases inL a ha with z | z
    · rcases (hn a z).2 with y | y
      · exact r.ln a ((tot a).mp (.inl y))
      · exact y
    · exact r.ln a ((tot a).mp (.inr z))
end
end Py
namespace Py
open PySem L2
section
variable {T : Tbl} {W : Wd T} {env : Py.Env} {t ta tb tk : TE} {tr : TA} {d d0 d1 d2 : D} {i : Nat} {st : List Pst} {P : List Nat} {E : WX} {A : AEnds}
def ALoc {T : Tbl} (W : Wd T) (t : TE) (env : Py.Env) (i : Nat) (st : List Pst) : Prop :=
  ∀ (e : Ent) (F : Hp) (σ : St) (H : Hp) (L : List Addr) (v0 : V) (Q : VK), Rel W e env F σ H L -> σ[i]? = some (some v0) -> (∀ v F' H', Ext F H F' H' -> VPath H' v0 st v -> Q v H') -> t σ H Q
theorem loc_var : ALoc W (tVar i) env i [] := fun e F σ H L v0 Q r h q => ⟨v0, h, q v0 F H (.refl r.sF) rfl⟩
theorem loc_fld {c : String} {ns : List String} {xs : List D} {f : String} {j : Nat} (h : ALoc W t env i st) (h0 : env[i]? = some (some d0)) (h1 : d0.at st = some (.oins c ns xs)) (hf : T.fOk c f = true) (hp : pos f ns = some j) :
    ALoc W (tFld W.K t (so f)) env i (st ++ [.fld f]) := fun e F σ H L v0 Q r hs q =>
  h e F σ H L v0 _ r hs fun v F1 H1 x1 p1 => by
    obtain ⟨v0', vn, Ln, Lr, e1, p2, o, _⟩ := (r.ext x1).focus h0 h1
    rw [hs] at e1; cases e1
    cases p1.det p2
    cases o with
    | sh y => cases y
    | @oins a c dx ns xs vs M ha hc hl os =>
      have hj := (List.getElem?_eq_some_iff.mp (pos_get hp)).1
      have hw : vs[j]? = some (vs[j]'(by omega)) := List.getElem?_eq_getElem (by omega)
      refine ⟨a, _, dx, _, _, rfl, ha, W.cl c hc, W.na c f hc hf, (zip_lookup hp).trans hw, q _ F1 H1 x1 (p1.snoc ⟨a, _, dx, _, rfl, ha, (zip_lookup hp).trans hw⟩)⟩
theorem loc_idx {xs : List D} {k : Int} {j : Nat} (h : ALoc W t env i st) (h0 : env[i]? = some (some d0)) (h1 : d0.at st = some (.olst xs)) (hk : AE W tk env (rV W (.int k))) (hj : ixN xs.length k = some j) :
    ALoc W (tOp (rIxU W.K) t tk) env i (st ++ [.idx j]) := fun e F σ H L v0 Q r hs q =>
  h e F σ H L v0 _ r hs fun v F1 H1 x1 p1 => hk e F1 σ H1 L _ (r.ext x1) fun u F2 H2 x2 y2 => by
    obtain ⟨v0', vn, Ln, Lr, e1, p2, o, _⟩ := ((r.ext x1).ext x2).focus h0 h1
    rw [hs] at e1; cases e1
    have p1' := p1.mono x2.h
    cases p1'.det p2
    cases y2
    cases o with
    | sh y => cases y
    | @olst a xs vs M ha os =>
      have hlt := (ixN_seq hj).2.1
      rw [os.length] at hlt
      have hw : vs[j]? = some (vs[j]'hlt) := List.getElem?_eq_getElem hlt
      refine .inl ⟨a, vs, k, _, rfl, rfl, .of ha, ?_, q _ F2 H2 (x1.trans x2) (p1'.snoc ⟨a, vs, rfl, ha, hw⟩)⟩
      unfold atI
      rw [<- os.length, hj]
      exact hw
end
end Py
namespace Py
open PySem L2
section
variable {X : Cx}
def CMulU (i j : Int) : Prop := CMul i j \/ CMulW i j
def CDivU (i j : Int) : Prop := CDiv i j \/ CDivW i j
theorem cmul_l {i j : Int} (h1 : -(2 ^ 64) < i) (h2 : i < 2 ^ 64) : CMulU i j := .inl (.inl ⟨h1, h2⟩)
theorem cmul_r {i j : Int} (h1 : -(2 ^ 64) < j) (h2 : j < 2 ^ 64) : CMulU i j := .inl (.inr ⟨h1, h2⟩)
theorem cmul_w {i j : Int} (h1 : i.natAbs < 2 ^ 4000) (h2 : j.natAbs < 2 ^ 4000) : CMulU i j := .inr (wide_mul h1 h2 (by decide) (by decide) (by decide))
theorem cdiv_s {i j : Int} (h1 : 0 < j) (h2 : j < 1073741824) : CDivU i j := .inl ⟨h1, h2⟩
theorem cdiv_w {i j : Int} (h1 : 0 < j) (h2 : j.natAbs < 2 ^ 4000) : CDivU i j := .inr (wide_div h1 h2 (by decide) (by decide))
theorem op_mulU : OpR X (binaryOp .Mult) (rI CMulU fun i j => .int (i * j)) := opI fun _ _ _ _ _ _ _ hc q => PyProof.Rows.mul_int q (hc.elim CMul.ok CMulW.ok)
theorem op_divU : OpR X (binaryOp .FloorDiv) (rI CDivU fun i j => .int (i / j)) := fun pins s σ H x y v u Q I rx ry h => by
  obtain ⟨i, j, e1, e2, hc, q⟩ := h
  rcases hc with hc | hc
  · exact op_fdiv pins s σ H x y v u Q I rx ry ⟨i, j, e1, e2, hc, q⟩
  · exact op_fdivW pins s σ H x y v u Q I rx ry ⟨i, j, e1, e2, hc, q⟩
theorem opAdd : OpR X (binaryOp .Add) (fun x y H Q => rI0 (fun i j => .int (i + j)) x y H Q \/ (fun x y H Q => rCat x y H Q \/ rCatT X.K x y H Q) x y H Q) := OpR.or op_add (OpR.or op_cat op_catT)
theorem opMul : OpR X (binaryOp .Mult) (rI CMulU fun i j => .int (i * j)) := op_mulU
theorem opDiv : OpR X (binaryOp .FloorDiv) (rI CDivU fun i j => .int (i / j)) := op_divU
theorem opEq (hu : X.A.units + 64 < cLine) : OpR X (compareOp .Eq) (fun x y H Q => rEq x y H Q \/ rEqD X.K x y H Q) := OpR.or op_eq (op_eqD hu)
theorem opNe (hu : X.A.units + 64 < cLine) : OpR X (compareOp .NotEq) (fun x y H Q => rNe x y H Q \/ rNeD X.K x y H Q) := OpR.or op_ne (op_neD hu)
theorem opLt (hu : X.A.units < cLine) : OpR X (compareOp .Lt) (fun x y H Q => rI0 (fun i j => .bl (decide (i < j))) x y H Q \/ rLtT X.K x y H Q) := OpR.or op_lt (op_ltT hu)
theorem ixU : IxR X (rIxU X.K) := ix_list.or ix_tup
theorem call_intU : CallR X (.type "int") (fun xs H Q => (∃ i, xs = [.int i] /\ Q (.int i) H) \/ ∃ k, xs = [.bl k] /\ Q (.int (if k then 1 else 0)) H) := call_int1
theorem call_absU : CallR X (.builtin "abs") (fun xs H Q => ∃ i, xs = [.int i] /\ Q (.int (if i < 0 then -i else i)) H) := call_abs
theorem call_lenU : CallR X (.builtin "len") (rLenU X.K) := call_len_seq
theorem call_listU : CallR X (.type "list") (fun xs H Q => ∃ p ys, xs = [.ref p] /\ (SqL X.K H p ys \/ SqT X.K H p ys) /\ ∀ l, H l = none -> Q (.ref l) (upd H l (.lst ys))) := call_list_of
theorem call_tupleU : CallR X (.type "tuple") (fun xs H Q => ∃ p ys, xs = [.ref p] /\ ((SqL X.K H p ys /\ ∀ l, H l = none -> Q (.ref l) (upd H l (.tup ys))) \/ (SqT X.K H p ys /\ Q (.ref p) H))) := call_tuple_of
theorem pt_truU {a : Expr} {ta : TE} (ha : PE X a ta) (he : ∀ whole, isTrue a X.env whole = (do let v <- whole; standAt a.pos; holding [v] (truthy v)) := by intro _; rfl) :
    PT X a (fun σ H Q => ta σ H fun x H' => ∃ k, TruV X.K x H' k /\ Q k H') := pt_truth ha he
end
end Py
namespace Py
open PySem L2
section
variable {T : Tbl} {W : Wd T} {env : Py.Env} {t ta tb te : TE} {tr : TA} {d d0 d1 d2 : D} {ds es : List D} {i : Nat} {P : List Nat} {E : WX} {A : AEnds}
structure Seq {T : Tbl} (W : Wd T) (J : It) (ds : List D) (F0 : Hp) : Prop where
  go : ∀ (i : Nat) (d : D) (F H : Hp), Same F0 F -> Same F H -> ds[i]? = some d -> J.go i H /\ ∀ x H', J.yld i H x H' -> ∃ F', Ext F H F' H' /\ Shr W F' d x
  stop : ∀ (F H : Hp), Same F0 F -> Same F H -> J.stop ds.length H
def AIt {T : Tbl} (W : Wd T) (wi : TI) (env : Py.Env) (ds : List D) : Prop :=
  ∀ (e : Ent) (F : Hp) (σ : St) (H : Hp) (L : List Addr) (R : It -> Hp -> Prop), Rel W e env F σ H L -> (∀ J F' H', Ext F H F' H' -> Seq W J ds F' -> R J H') -> wi σ H R
theorem seq_list {F0 : Hp} {a : Addr} {vs : List V} (h : F0 a = some (.lst vs)) (hs : Shrs W F0 ds vs) : Seq W (Itl W.K a) ds F0 where
  go := fun i d F H s1 s2 hd => by
    obtain ⟨v, hv, sv⟩ := hs.get hd
    refine ⟨⟨vs, v, .of (s2 _ _ (s1 _ _ h)), hv⟩, fun x H' y => ?_⟩
    obtain ⟨rfl, y⟩ := y
    have := y vs (.of (s2 _ _ (s1 _ _ h)))
    rw [hv] at this; cases this
    exact ⟨F, .refl s2, sv.mono s1⟩
  stop := fun F H s1 s2 => ⟨vs, .of (s2 _ _ (s1 _ _ h)), by rw [hs.length]; exact Nat.le_refl _⟩
theorem seq_tup {F0 : Hp} {a : Addr} {vs : List V} (h : F0 a = some (.tup vs)) (hs : Shrs W F0 ds vs) : Seq W (Itt W.K a) ds F0 where
  go := fun i d F H s1 s2 hd => by
    obtain ⟨v, hv, sv⟩ := hs.get hd
    refine ⟨⟨vs, v, .of (s2 _ _ (s1 _ _ h)), hv⟩, fun x H' y => ?_⟩
    obtain ⟨rfl, y⟩ := y
    have := y vs (.of (s2 _ _ (s1 _ _ h)))
    rw [hv] at this; cases this
    exact ⟨F, .refl s2, sv.mono s1⟩
  stop := fun F H s1 s2 => ⟨vs, .of (s2 _ _ (s1 _ _ h)), by rw [hs.length]; exact Nat.le_refl _⟩
def rangeD (lo : Int) (n : Nat) : List D := (List.range n).map fun k : Nat => D.int (lo + (k : Nat))
theorem rangeD_length (lo : Int) (n : Nat) : (rangeD lo n).length = n := by simp [rangeD]
theorem rangeD_get {lo : Int} {n i : Nat} {d : D} (h : (rangeD lo n)[i]? = some d) : i < n /\ d = .int (lo + (i : Nat)) := by
  unfold rangeD at h
  rw [List.getElem?_map] at h
  by_cases hi : i < n
  · rw [List.getElem?_range hi] at h
    exact ⟨hi, (Option.some.inj h).symm⟩
  · rw [List.getElem?_eq_none (by simpa using hi)] at h; cases h
theorem seq_range {F0 : Hp} {lo : Int} {n : Nat} : Seq W (Itr lo n) (rangeD lo n) F0 where
  go := fun i d F H s1 s2 hd => by
    obtain ⟨hi, rfl⟩ := rangeD_get hd
    refine ⟨hi, fun x H' y => ?_⟩
    obtain ⟨rfl, rfl⟩ := y
    exact ⟨F, .refl s2, .int⟩
  stop := fun F H s1 s2 => by rw [rangeD_length]; exact Nat.le_refl n
theorem ait_list (h : AE W t env (rF W (.lst ds))) : AIt W (iList W.K t) env ds := fun e F σ H L R r q =>
  h e F σ H L _ r fun v F1 H1 x1 y1 => by
    cases y1 with
    | lst hF hS => exact ⟨_, rfl, ⟨_, .of (x1.s _ _ hF)⟩, q _ F1 H1 x1 (seq_list hF hS)⟩
theorem ait_tup (h : AE W t env (rF W (.tup ds))) : AIt W (iTup W.K t) env ds := fun e F σ H L R r q =>
  h e F σ H L _ r fun v F1 H1 x1 y1 => by
    cases y1 with
    | tup hF hS => exact ⟨_, rfl, ⟨_, .of (x1.s _ _ hF)⟩, q _ F1 H1 x1 (seq_tup hF hS)⟩
theorem ait_range {n : Int} (h : AA W tr env (rVs W [.int n])) (hb : -(2 ^ 62) <= n /\ n < 2 ^ 62) : AIt W (iRng1 tr) env (rangeD 0 n.toNat) := fun e F σ H L R r q =>
  h e F σ H L _ r fun vs F1 H1 x1 y1 => by
    cases y1 with
    | cons a b =>
      cases a; cases b
      exact ⟨n, rfl, hb.1, hb.2, q _ F1 H1 x1 seq_range⟩
def iSeqU (K : PySem.W.Frag) (tl : TE) : TI := fun σ H R => iList K tl σ H R \/ iTup K tl σ H R
theorem pi_seqU {X : Cx} {tg l : Expr} {tl : TE} (hl : PE X l tl) : PI X tg l (iSeqU X.K tl) := ⟨fun pins s σ H R I h => h.elim (fun h => (pi_list hl).run pins s σ H R I h) fun h => (pi_tup hl).run pins s σ H R I h⟩
theorem at_yes : AT W tYes env true := fun e F σ H L Q r q => q F H (.refl r.sF)
theorem as_for {wi : TI} {g : TG} {tb : TS} (h : AIt W wi env ds) (Iv : Nat -> Py.Env -> Prop) (h0 : Iv 0 env)
    (hs : ∀ i d env', ds[i]? = some d -> Iv i env' -> AG W P g d env' fun e2 => AS W P E tb e2 { A with nx := Iv (i + 1), ct := Iv (i + 1), bk := A.nx })
    (hd : ∀ env', Iv ds.length env' -> A.nx env') : AS W P E (tFor wi g tb) env A := fun e F σ H L Dn hP r s =>
  h e F σ H L _ r fun J F1 H1 x1 sq => by
    have r1 := r.ext x1
    refine ⟨fun i m σ H => m = ds.length - i /\ i <= ds.length /\ ∃ env' F L, Iv i env' /\ Rel W { e with F0 := F1 } env' F σ H L, ⟨ds.length, rfl, Nat.zero_le _, env, F1, L, h0, r1.enter⟩, ?_⟩
    rintro i m σ H ⟨rfl, hi, env', F, L, hI, q⟩
    by_cases hlt : i < ds.length
    · have hd' : ds[i]? = some ds[i] := List.getElem?_eq_getElem hlt
      obtain ⟨g1, g2⟩ := sq.go i _ F H q.s0 q.sF hd'
      refine .inr ⟨g1, fun σ H => ∃ env' F L, Iv (i + 1) env' /\ Rel W { e with F0 := F1 } env' F σ H L, fun σ' H' p' => ⟨ds.length - (i + 1), by omega, rfl, hlt, p'⟩, fun x H' y => ?_⟩
      obtain ⟨F2, x2, sx⟩ := g2 x H' y
      refine hs i _ env' hd' hI { e with F0 := F1 } F2 σ H' L x _ hP (q.ext x2) sx fun env2 σ2 L2 k2 q2 => k2 { e with F0 := F1 } F2 σ2 H' L2 _ hP q2 ?_
      exact ⟨fun e3 F3 σ3 H3 L3 w q3 => ⟨e3, F3, L3, w, q3⟩, fun d e3 F3 σ3 H3 L3 v M w q3 => s.rt d e3 F3 σ3 H3 L3 v M w (r1.leave q3), fun e3 F3 σ3 H3 L3 w q3 => s.nx e3 F3 σ3 H3 L3 w (r1.leave q3),
        fun e3 F3 σ3 H3 L3 w q3 => ⟨e3, F3, L3, w, q3⟩, fun x e3 F3 σ3 H3 L3 C dd w q3 => s.ex x e3 F3 σ3 H3 L3 C dd w (r1.leave q3)⟩
    · have e0 : i = ds.length := by omega
      subst e0
      exact .inl ⟨sq.stop F H q.s0 q.sF, s.nx _ _ _ _ _ (hd env' hI) (r1.leave q)⟩
def wipeE (env : Py.Env) : List Nat -> Py.Env
  | [] => env
  | v :: vs => (wipeE env vs).set v none
theorem Slots.kill {F H : Hp} {o : Option V} : ∀ {env : Py.Env} {σ : St} {L : List Addr} {i : Nat}, Slots W F H env σ L -> L.Nodup -> ∃ L', Slots W F H (env.set i none) (σ.set i o) L' /\ L'.Nodup /\ ∀ a ∈ L', a ∈ L
  | _, _, _, i, .nil, nd => ⟨[], by simpa using Slots.nil, nd, fun a h => h⟩
  | _, _, _, 0, .so (L := L1) (M := M1) h t, nd => ⟨M1, .no t, (List.nodup_append.mp nd).2.1, fun a h => List.mem_append_right _ h⟩
  | _, _, _, 0, .no (M := M1) t, nd => ⟨M1, .no t, nd, fun a h => h⟩
  | _, _, _, i + 1, .so (L := L1) (M := M1) h t, nd => by
    rw [List.nodup_append] at nd
    obtain ⟨n1, n2, n3⟩ := nd
    obtain ⟨L', s, nd', m⟩ := t.kill (i := i) (o := o) n2
    refine ⟨L1 ++ L', .so h s, ?_, fun a ha => ?_⟩
    · rw [List.nodup_append]
      exact ⟨n1, nd', fun a ha b hb => n3 a ha b (m b hb)⟩
    · rcases List.mem_append.mp ha with q | q
      · exact List.mem_append_left _ q
      · exact List.mem_append_right _ (m a q)
  | _, _, _, i + 1, .no (M := M1) t, nd => by
    obtain ⟨L', s, nd', m⟩ := t.kill (i := i) (o := o) nd
    exact ⟨L', .no s, nd', m⟩
theorem Rel.wipe {e : Ent} {F H : Hp} {σ : St} {L : List Addr} (r : Rel W e env F σ H L) (hp : e.pins = []) : ∀ vs : List Nat, ∃ L', Rel W e (wipeE env vs) F (L2.wipe σ vs) H L' /\ ∀ a ∈ L', a ∈ L
  | [] => ⟨L, r, fun _ h => h⟩
  | v :: vs => by
    obtain ⟨L1, r1, m1⟩ := r.wipe hp vs
    obtain ⟨L2, s, nd, m⟩ := r1.slots.kill (i := v) (o := none) r1.nd
    exact ⟨L2, ⟨r1.sF, s, nd, fun a h => r1.dj a (m a h), r1.s0, r1.nw, r1.fr, fun a h => r1.ln a (m a h), fun p hm => by rw [hp] at hm; cases hm⟩, fun a h => m1 a (m a h)⟩
theorem Rel.nopin {e : Ent} {F H : Hp} {σ : St} {L : List Addr} (r : Rel W e env F σ H L) : Rel W { e with pins := [] } env F σ H L := ⟨r.sF, r.slots, r.nd, r.dj, r.s0, r.nw, r.fr, r.ln, fun _ h => nomatch h⟩
theorem Rel.free {e : Ent} {F H : Hp} {σ : St} {L : List Addr} {p : Addr} {o : HO} (r : Rel W e env F σ H L) (h1 : p ∉ L) (h2 : F p = none) (h3 : p ∈ e.L0 \/ e.H0 p = none) : Rel W e env F σ (upd H p o) L where
  sF := fun b u hb => by rw [upd_ne (fun z => by rw [z, h2] at hb; cases hb)]; exact r.sF _ _ hb
  slots := r.slots.frame (Same.refl _) fun a m u hu => by rw [upd_ne (fun z => h1 (by rw [<- z]; exact m))]; exact hu
  nd := r.nd
  dj := r.dj
  s0 := r.s0
  nw := r.nw
  fr := fun a u m hu => by
    rw [upd_ne (fun z => ?_)]
    · exact r.fr a u m hu
    · subst z
      rcases h3 with q | q
      · exact m q
      · rw [q] at hu; cases hu
  ln := r.ln
  pin := r.pin
def GW (g : TG) (vs : List Nat) : Prop := ∀ (v : V) (σ : St) (H : Hp) (Q : St -> Hp -> Prop), g v σ H Q -> g v σ H fun σ2 H2 => wipe σ2 vs = wipe σ vs /\ Q σ2 H2
def GWs (g : TGs) (vs : List Nat) : Prop := ∀ (v : List V) (σ : St) (H : Hp) (Q : St -> Hp -> Prop), g v σ H Q -> g v σ H fun σ2 H2 => wipe σ2 vs = wipe σ vs /\ Q σ2 H2
theorem wipe_comm {n : Nat} {o : Option V} : ∀ (vs : List Nat) (σ : St), n ∉ vs -> wipe (σ.set n o) vs = (wipe σ vs).set n o
  | [], σ, _ => rfl
  | w :: ws, σ, hn => by
    unfold wipe
    rw [wipe_comm ws σ (fun z => hn (List.mem_cons_of_mem _ z)), List.set_comm _ _ (fun z => hn (by rw [z]; exact List.mem_cons_self ..))]
theorem wipe_set {σ : St} {n : Nat} {o : Option V} : ∀ {vs : List Nat}, n ∈ vs -> wipe (σ.set n o) vs = wipe σ vs
  | [], h => nomatch h
  | v :: vs, h => by
    unfold wipe
    by_cases hv : n ∈ vs
    · rw [wipe_set hv]
    · rcases List.mem_cons.mp h with z | z
      · subst z
        rw [wipe_comm vs σ hv, List.set_set]
      · exact absurd z hv
theorem wipe_wipe {σ : St} : ∀ {vs : List Nat}, wipe (wipe σ vs) vs = wipe σ vs
  | [] => rfl
  | v :: vs => by
    have e : wipe σ (v :: vs) = (wipe σ vs).set v none := rfl
    rw [e]
    show (wipe ((wipe σ vs).set v none) vs).set v none = _
    by_cases hv : v ∈ vs
    · rw [wipe_set hv, wipe_wipe]
    · rw [wipe_comm vs _ hv, wipe_wipe, List.set_set]
theorem gw_name {n : Nat} {vs : List Nat} (h : n ∈ vs) : GW (gName n) vs := fun v σ H Q q => ⟨wipe_set h, q⟩
theorem gws_nil {vs : List Nat} : GWs gNil vs := fun v σ H Q ⟨h, q⟩ => ⟨h, rfl, q⟩
theorem gw_tup {k : Nat} {gs : TGs} {vs : List Nat} (h : GWs gs vs) : GW (gTup W.K k gs) vs := fun v σ H Q ⟨a, xs, e1, e2, e3, q⟩ => ⟨a, xs, e1, e2, e3, h xs σ H Q q⟩
structure SeqP {T : Tbl} (W : Wd T) (J : It) (ds : List D) (F0 H0 : Hp) : Prop where
  go : ∀ (i : Nat) (d : D) (F H : Hp), Same F0 F -> Same H0 H -> Same F H -> ds[i]? = some d -> J.go i H /\ ∀ x H', J.yld i H x H' -> ∃ F', Ext F H F' H' /\ Shr W F' d x
  stop : ∀ (F H : Hp), Same F0 F -> Same H0 H -> Same F H -> J.stop ds.length H
def AIp {T : Tbl} (W : Wd T) (wi : TI) (env : Py.Env) (ds : List D) : Prop :=
  ∀ (e : Ent) (F : Hp) (σ : St) (H : Hp) (L : List Addr) (R : It -> Hp -> Prop), Rel W e env F σ H L -> (∀ J F' H', Ext F H F' H' -> SeqP W J ds F' H' -> R J H') -> wi σ H R
theorem AIt.p {wi : TI} (h : AIt W wi env ds) : AIp W wi env ds := fun e F σ H L R r q => h e F σ H L R r fun J F' H' x s => q J F' H' x ⟨fun i d F1 H1 a _ c e => s.go i d F1 H1 a c e, fun F1 H1 a _ c => s.stop F1 H1 a c⟩
theorem ae_lc {wi : TI} {g : TG} {tt : TT} {vs : List Nat} (h : AIp W wi env ds) (hg : GW g vs) (rs : Nat -> List D) (h0 : rs 0 = [])
    (hs : ∀ (i : Nat) (d : D), ds[i]? = some d -> AG W [] g d (wipeE env vs) fun e2 => ∃ b, AT W tt e2 b /\ (b = true -> ∃ y, AE W te e2 (rO W y) /\ rs (i + 1) = rs i ++ [y]) /\ (b = false -> rs (i + 1) = rs i))
    (hz : ∀ i, i <= ds.length -> (rs i).length < 1000000) : AE W (tLc wi g tt te vs) env (rO W (.olst (rs ds.length))) := fun e F σ H L Q r q =>
  h e F σ H L _ r fun J F1 H1 x1 sq => by
    intro Dl hD
    have r1 := (r.ext x1).nopin
    obtain ⟨Lw, rw', mw⟩ := r1.wipe rfl vs
    have hF1 : F1 Dl = none := x1.s.free hD
    have hH : H Dl = none := x1.h.free hD
    refine ⟨fun i m H' => m = ds.length - i /\ i <= ds.length /\ ∃ F' ws M, Ext F H F' H' /\ (Same F1 F' /\ Same H1 H') /\ Rel W { e with pins := [] } (wipeE env vs) F' (wipe σ vs) H' Lw /\ H' Dl = some (.lst ws) /\ F' Dl = none /\ Owns W F' H' (rs i) ws M /\ (Dl :: M).Nodup /\ ∀ a ∈ M, H a = none /\ F' a = none,
      ⟨ds.length, rfl, Nat.zero_le _, F1, [], [], ?_, ⟨Same.refl _, same_new hD⟩, ?_, upd_same, hF1, by rw [h0]; exact .nil, by simp, fun a h => nomatch h⟩, ?_⟩
    · exact x1.trans (.newH x1.s hD)
    · exact rw'.ext (.newH x1.s hD)
    rintro i m H' ⟨rfl, hi, F', ws, M, xE, s1, rr, hl, hFD, os, nd, hM⟩
    have hDL : Dl ∉ Lw := fun z => by
      obtain ⟨o, ho⟩ := rw'.slots.lives Dl z
      rw [hD] at ho; cases ho
    by_cases hlt : i < ds.length
    · have hd' : ds[i]? = some ds[i] := List.getElem?_eq_getElem hlt
      obtain ⟨g1, g2⟩ := sq.go i _ F' H' s1.1 s1.2 rr.sF hd'
      refine .inr ⟨g1, fun H'' => ∃ F' ws M, Ext F H F' H'' /\ (Same F1 F' /\ Same H1 H'') /\ Rel W { e with pins := [] } (wipeE env vs) F' (wipe σ vs) H'' Lw /\ H'' Dl = some (.lst ws) /\ F' Dl = none /\ Owns W F' H'' (rs (i + 1)) ws M /\ (Dl :: M).Nodup /\ ∀ a ∈ M, H a = none /\ F' a = none,
        fun H'' p' => ⟨ds.length - (i + 1), by omega, rfl, hlt, p'⟩, fun x H2 y => ?_⟩
      obtain ⟨F2, x2, sx⟩ := g2 x H2 y
      have rr2 := rr.ext x2
      have fin : ∀ {Fa Ha}, Ext F2 H2 Fa Ha -> Ext F H Fa Ha /\ (Same F1 Fa /\ Same H1 Ha) /\ Rel W { e with pins := [] } (wipeE env vs) Fa (wipe σ vs) Ha Lw /\ Ha Dl = some (.lst ws) /\ Fa Dl = none /\ Owns W Fa Ha (rs i) ws M /\ ∀ a ∈ M, H a = none /\ Fa a = none := fun {Fa Ha} xa => by
        have x3 := x2.trans xa
        have nn : ∀ a, (∃ o, H' a = some o) -> F' a = none -> Fa a = none := fun a ⟨o, ho⟩ hf => by
          cases z : Fa a with
          | none => rfl
          | some u =>
            rcases x3.n a u z with w | w
            · rw [hf] at w; cases w
            · rw [ho] at w; cases w
        exact ⟨xE.trans x3, ⟨s1.1.trans x3.f, s1.2.trans x3.h⟩, rr.ext x3, x3.h _ _ hl, nn Dl ⟨_, hl⟩ hFD, os.frame x3.f fun a _ o ho => x3.h _ _ ho, fun a ha => ⟨(hM a ha).1, nn a (os.lives a ha) (hM a ha).2⟩⟩
      have step := hg x (wipe σ vs) H2 _ (hs i _ hd' { e with pins := [] } F2 (wipe σ vs) H2 Lw x (fun σ2 H2 => tt σ2 H2 fun b H3 => if b = true then te σ2 H3 fun y H4 => ∃ acc, H4 Dl = some (.lst acc) /\ acc.length < sizeLine /\
          (fun H'' => ∃ F' ws M, Ext F H F' H'' /\ (Same F1 F' /\ Same H1 H'') /\ Rel W { e with pins := [] } (wipeE env vs) F' (wipe σ vs) H'' Lw /\ H'' Dl = some (.lst ws) /\ F' Dl = none /\ Owns W F' H'' (rs (i + 1)) ws M /\ (Dl :: M).Nodup /\ ∀ a ∈ M, H a = none /\ F' a = none) (upd H4 Dl (.lst (acc ++ [y]))) else
          (fun H'' => ∃ F' ws M, Ext F H F' H'' /\ (Same F1 F' /\ Same H1 H'') /\ Rel W { e with pins := [] } (wipeE env vs) F' (wipe σ vs) H'' Lw /\ H'' Dl = some (.lst ws) /\ F' Dl = none /\ Owns W F' H'' (rs (i + 1)) ws M /\ (Dl :: M).Nodup /\ ∀ a ∈ M, H a = none /\ F' a = none) H3) rfl rr2 sx fun env2 σ2 L2 k2 q2 => ?_)
      · rw [wipe_wipe] at step
        exact step
      obtain ⟨b, hb, hy, hn⟩ := k2
      refine hb _ F2 σ2 H2 L2 _ q2 fun F3 H3 x3 => ?_
      cases b with
      | false =>
        obtain ⟨a1, a2, a3, a4, a5, a6, a7⟩ := fin x3
        rw [hn rfl]
        exact ⟨F3, ws, M, a1, a2, a3, a4, a5, a6, nd, a7⟩
      | true =>
        obtain ⟨y, hte, hacc⟩ := hy rfl
        refine hte _ F3 σ2 H3 L2 _ (q2.ext x3) fun w F4 H4 x4 ⟨My, oy, ndy, ky⟩ => ?_
        obtain ⟨a1, a2, a3, a4, a5, a6, a7⟩ := fin (x3.trans x4)
        have hlen : (rs i).length < 1000000 := hz i hi
        refine ⟨ws, a4, by rw [<- a6.length]; exact Nat.lt_of_lt_of_le hlen (by decide), F4, ws ++ [w], M ++ My, ?_, ⟨a2.1, fun b u hb => by rw [upd_ne (fun z => by rw [z, hD] at hb; cases hb)]; exact a2.2 _ _ hb⟩, a3.free hDL a5 (rw'.h0 hD), upd_same, a5, ?_, ?_, ?_⟩
        · exact ⟨a1.f, fun b u hb => by rw [upd_ne (fun z => by rw [z, a5] at hb; cases hb)]; exact a1.s _ _ hb, fun b u hb => by rw [upd_ne (fun z => by rw [z, hH] at hb; cases hb)]; exact a1.h _ _ hb, a1.n⟩
        · have nD : ∀ b ∈ My, b ≠ Dl := fun b hb z => by
            have := (x2.trans x3).h _ _ hl
            rw [<- z, (ky b hb).1] at this; cases this
          rw [hacc]
          refine Owns.snoc (a6.frame (Same.refl _) fun b hb u hu => ?_) (oy.frame (Same.refl _) fun b hb u hu => ?_)
          · rw [upd_ne (fun z => (List.nodup_cons.mp nd).1 (by rw [<- z]; exact hb))]; exact hu
          · rw [upd_ne (nD b hb)]; exact hu
        · have fr : ∀ b ∈ My, b ∉ Dl :: M := fun b hb z => by
            have : ∃ o, H3 b = some o := by
              rcases List.mem_cons.mp z with z | z
              · exact ⟨_, by rw [z]; exact (x2.trans x3).h _ _ hl⟩
              · obtain ⟨o, ho⟩ := os.lives b z
                exact ⟨o, (x2.trans x3).h _ _ ho⟩
            obtain ⟨o, ho⟩ := this
            rw [(ky b hb).1] at ho; cases ho
          have : ((Dl :: M) ++ My).Nodup := by
            rw [List.nodup_append]
            exact ⟨nd, ndy, fun b hb c hc z => fr c hc (by rw [<- z]; exact hb)⟩
          exact this
        · intro b hb
          rcases List.mem_append.mp hb with z | z
          · exact a7 b z
          · exact ⟨(xE.trans (x2.trans x3)).h.free (ky b z).1, (ky b z).2⟩
    · have e0 : i = ds.length := by omega
      subst e0
      refine .inl ⟨sq.stop F' H' s1.1 s1.2 rr.sF, q _ F' H' xE ⟨Dl :: M, .olst hl os, nd, fun a ha => ?_⟩⟩
      rcases List.mem_cons.mp ha with z | z
      · subst z; exact ⟨hH, hFD⟩
      · exact hM a z
end
end Py
namespace Py
open PySem L2
inductive Kd where
  | fr | pl | vw
def isFlat : D -> Bool
  | .non | .bl _ | .int _ | .str _ | .cls _ => true
  | _ => false
section
variable {T : Tbl} {W : Wd T} {env : Py.Env} {t ta tb : TE} {d d1 d2 : D}
theorem Shr.flat {F F' : Hp} {d : D} {v : V} (h : Shr W F d v) (e : isFlat d = true) : Shr W F' d v := by
  cases h <;> first | (cases e; done) | exact .non | exact .bl | exact .int | exact .str | (apply Shr.cls; assumption)
theorem isSh_flat {d : D} (e : isFlat d = true) : isSh d = true := by cases d <;> first | rfl | cases e
def rP {T : Tbl} (W : Wd T) (d : D) : Res := fun F H _ v => ∃ L, Own W F H d v L
def rK {T : Tbl} (W : Wd T) : Kd -> D -> Res
  | .fr, d => rO W d
  | .pl, d => rP W d
  | .vw, d => rV W d
theorem ite_some {α : Type} {c : Prop} [Decidable c] {a b : α} (h : (if c then some a else none) = some b) : c /\ a = b := by
  split at h
  · exact ⟨by assumption, Option.some.inj h⟩
  · cases h
theorem rK_view {F H H0 : Hp} {k : Kd} {v : V} (s : Same F H) (h : rK W k d F H H0 v) : Shr W H (fz d) v := by
  cases k with
  | fr => obtain ⟨L, o, _⟩ := h; exact o.view s fun _ _ _ z => z
  | pl => obtain ⟨L, o⟩ := h; exact o.view s fun _ _ _ z => z
  | vw => have h : Shr W H d v := h; rw [fz_shr h]; exact h
def basis (k : Kd) (F H : Hp) : Hp := match k with | .vw => H | _ => F
theorem basis_same {k : Kd} {F H : Hp} (s : Same F H) : Same (basis k F H) H := by cases k <;> first | exact s | exact Same.refl _
theorem rK_own {F H H0 : Hp} {k : Kd} {v : V} (h : rK W k d F H H0 v) : ∃ L, Own W (basis k F H) H d v L := by
  cases k with
  | fr => obtain ⟨L, o, _⟩ := h; exact ⟨L, o⟩
  | pl => exact h
  | vw => exact ⟨[], .sh h⟩
def Kd.of (k : Kd) (d : D) : Kd × D := match k with | .vw => (.vw, fz d) | _ => (.pl, d)
theorem rK_of {F H H0 : Hp} {k k' : Kd} {d' : D} {v : V} {L : List Addr} (s : Same F H) (h : Own W (basis k F H) H d v L) (e : k.of d = (k', d')) : rK W k' d' F H H0 v := by
  cases k with
  | fr => cases e; exact ⟨L, h⟩
  | pl => cases e; exact ⟨L, h⟩
  | vw => cases e; exact h.view (Same.refl _) fun _ _ _ z => z
theorem Ext.basis {k : Kd} {F H F' H' : Hp} (x : Ext F H F' H') : Same (basis k F H) (basis k F' H') := by
  cases k <;> first | exact x.f | exact x.h
theorem Own.ext {k : Kd} {F H F' H' : Hp} {v : V} {L : List Addr} (o : Own W (basis k F H) H d v L) (x : Ext F H F' H') : Own W (basis k F' H') H' d v L := o.frame x.basis fun a _ o q => x.h _ _ q
structure XP {T : Tbl} (W : Wd T) where
  t : TE
  ev : Py.Env -> Option (Kd × D)
  snd : ∀ {env k d}, ev env = some (k, d) -> AE W t env (rK W k d)
def toV : Option (Kd × D) -> Option D
  | some (_, d) => some (fz d)
  | none => none
def toK : Option (Kd × D) -> Option D
  | some (.vw, d) => if isFlat d then some d else none
  | some (_, d) => some d
  | none => none
def toF : Option (Kd × D) -> Option D
  | some (.fr, d) => some (fz d)
  | some (.pl, d) => if isSh d then some d else none
  | some (.vw, d) => if isFlat d then some d else none
  | none => none
def toO : Option (Kd × D) -> Option D
  | some (.fr, d) => some d
  | some (.pl, d) => if isSh d then some d else none
  | some (.vw, d) => if isFlat d then some d else none
  | none => none
def XP.evV (x : XP W) (env : Py.Env) : Option D := toV (x.ev env)
def XP.evK (x : XP W) (env : Py.Env) : Option D := toK (x.ev env)
def XP.evF (x : XP W) (env : Py.Env) : Option D := toF (x.ev env)
def XP.evO (x : XP W) (env : Py.Env) : Option D := toO (x.ev env)
theorem XP.sV (x : XP W) (h : x.evV env = some d) : AE W x.t env (rV W d) := by
  unfold XP.evV at h
  match e : x.ev env, h with
  | some (k, d0), h =>
    cases h
    exact (x.snd e).imp fun F H H0 v s q => rK_view s q
theorem XP.sK (x : XP W) (h : x.evK env = some d) : AE W x.t env (rP W d) := by
  unfold XP.evK at h
  match e : x.ev env, h with
  | some (.fr, d0), h => cases h; exact (x.snd e).imp fun F H H0 v s ⟨L, o, _⟩ => ⟨L, o⟩
  | some (.pl, d0), h => cases h; exact x.snd e
  | some (.vw, d0), h =>
    have h : (if isFlat d0 = true then some d0 else none) = some d := h
    split at h
    · cases h; exact (x.snd e).imp fun F H H0 v s q => ⟨[], .sh (Shr.flat q (by assumption))⟩
    · cases h
theorem XP.sF (x : XP W) (h : x.evF env = some d) : AE W x.t env (rF W d) := by
  unfold XP.evF at h
  match e : x.ev env, h with
  | some (.fr, d0), h => cases h; exact (AE.frz (d := d0) (x.snd e))
  | some (.pl, d0), h =>
    have h : (if isSh d0 = true then some d0 else none) = some d := h
    split at h
    · cases h; exact (x.snd e).imp fun F H H0 v s ⟨L, o⟩ => o.shr (by assumption)
    · cases h
  | some (.vw, d0), h =>
    have h : (if isFlat d0 = true then some d0 else none) = some d := h
    split at h
    · cases h; exact (x.snd e).imp fun F H H0 v s q => (Shr.flat q (by assumption))
    · cases h
theorem XP.sO (x : XP W) (h : x.evO env = some d) : AE W x.t env (rO W d) := by
  unfold XP.evO at h
  match e : x.ev env, h with
  | some (.fr, d0), h => cases h; exact x.snd e
  | some (.pl, d0), h =>
    have h : (if isSh d0 = true then some d0 else none) = some d := h
    split at h
    · cases h; exact (x.snd e).imp fun F H H0 v s ⟨L, o⟩ => rO_sh (o.shr (by assumption))
    · cases h
  | some (.vw, d0), h =>
    have h : (if isFlat d0 = true then some d0 else none) = some d := h
    split at h
    · cases h; exact (x.snd e).imp fun F H H0 v s q => rO_sh (Shr.flat q (by assumption))
    · cases h
def getS (env : Py.Env) (i : Nat) : Option D := (env[i]?).join
theorem getS_some (h : getS env i = some d) : env[i]? = some (some d) := by
  unfold getS at h
  match e : env[i]?, h with
  | some (some x), h => cases h; rfl
def xVar {T : Tbl} (W : Wd T) (i : Nat) : XP W where
  t := tVar i
  ev env := (getS env i).map (Prod.mk .pl)
  snd := fun {env k d} h => by
    match e : getS env i, h with
    | some x, h =>
      cases h
      exact fun e' F σ H L Q r q => by
        obtain ⟨v, M, e1, o, _⟩ := slot_get r (getS_some e)
        exact ⟨v, e1, q v F H (.refl r.sF) ⟨M, o⟩⟩
def xC {T : Tbl} (W : Wd T) (v : V) (d : D) (h : ∀ F, Shr W F d v) : XP W where
  t := tC v
  ev _ := some (.fr, d)
  snd := fun e => by cases e; exact (ae_c h).own
def xInt {T : Tbl} (W : Wd T) (i : Int) : XP W := xC W (.int i) (.int i) fun _ => .int
def xBl {T : Tbl} (W : Wd T) (b : Bool) : XP W := xC W (.bl b) (.bl b) fun _ => .bl
def xNon {T : Tbl} (W : Wd T) : XP W := xC W .non .non fun _ => .non
def xStr {T : Tbl} (W : Wd T) (x : String) : XP W := xC W (.str (so x)) (.str x) fun _ => .str
def xOp (r : R2) (f : D -> D -> Option D) (h : ∀ {x y d}, f x y = some d -> Op2 W r x y d) (a b : XP W) : XP W where
  t := tOp r a.t b.t
  ev env := (a.evV env).bind fun x => (b.evV env).bind fun y => (f x y).map (Prod.mk .fr)
  snd := fun {env k d} e => by
    obtain ⟨x, e1, e⟩ := Option.bind_eq_some_iff.mp e
    obtain ⟨y, e2, e⟩ := Option.bind_eq_some_iff.mp e
    obtain ⟨z, e3, e⟩ := Option.map_eq_some_iff.mp e
    cases e
    exact ae_op2 (a.sV e1) (b.sV e2) (h e3)
def subD : D -> D -> Option D
  | .int i, .int j => some (.int (i - j))
  | _, _ => none
def xSub (a b : XP W) : XP W := xOp (rI0 fun i j => .int (i - j)) subD (fun {x y d} e => by
  cases x <;> cases y <;> first | (cases e; done) | (cases e; exact o2_i fun _ => .int)) a b
def b4000 : Nat := 2 ^ 4000
def mulOk (i j : Int) : Prop := (-18446744073709551616 < i /\ i < 18446744073709551616) \/ (-18446744073709551616 < j /\ j < 18446744073709551616) \/ (i.natAbs < b4000 /\ j.natAbs < b4000)
instance (i j : Int) : Decidable (mulOk i j) := by unfold mulOk; infer_instance
theorem mulOk_u {i j : Int} (h : mulOk i j) : CMulU i j := by
  rcases h with h | h | h
  · exact cmul_l h.1 h.2
  · exact cmul_r h.1 h.2
  · exact cmul_w h.1 h.2
def mulD : D -> D -> Option D
  | .int i, .int j => if mulOk i j then some (.int (i * j)) else none
  | _, _ => none
def xMul (a b : XP W) : XP W := xOp (rI CMulU fun i j => .int (i * j)) mulD (fun {x y d} e => by
  cases x <;> first | (cases e; done) | skip
  cases y <;> first | (cases e; done) | skip
  obtain ⟨hc, rfl⟩ := ite_some e
  exact o2_ic (mulOk_u hc) fun _ => .int) a b
def divOk (j : Int) : Prop := 0 < j /\ (j < 1073741824 \/ j.natAbs < b4000)
instance (j : Int) : Decidable (divOk j) := by unfold divOk; infer_instance
def divD : D -> D -> Option D
  | .int i, .int j => if divOk j then some (.int (i / j)) else none
  | _, _ => none
def xDiv (a b : XP W) : XP W := xOp (rI CDivU fun i j => .int (i / j)) divD (fun {x y d} e => by
  cases x <;> first | (cases e; done) | skip
  cases y <;> first | (cases e; done) | skip
  obtain ⟨⟨h0, h⟩, rfl⟩ := ite_some e
  refine o2_ic ?_ fun _ => .int
  rcases h with h | h
  · exact cdiv_s h0 h
  · exact cdiv_w h0 h) a b
def modD : D -> D -> Option D
  | .int i, .int j => if 0 < j then some (.int (i % j)) else none
  | _, _ => none
def xMod (a b : XP W) : XP W := xOp (rI (fun _ j => 0 < j) fun i j => .int (i % j)) modD (fun {x y d} e => by
  cases x <;> first | (cases e; done) | skip
  cases y <;> first | (cases e; done) | skip
  obtain ⟨hc, rfl⟩ := ite_some e
  exact o2_ic (hc) fun _ => .int) a b
def powOk (i j : Int) : Prop := 0 <= j /\ j <= 1000000 /\ i.natAbs < 18446744073709551616
instance (i j : Int) : Decidable (powOk i j) := by unfold powOk; infer_instance
def powD : D -> D -> Option D
  | .int i, .int j => if powOk i j then some (.int (i ^ j.toNat)) else none
  | _, _ => none
def xPow (a b : XP W) : XP W := xOp (rI CPow fun i j => .int (i ^ j.toNat)) powD (fun {x y d} e => by
  cases x <;> first | (cases e; done) | skip
  cases y <;> first | (cases e; done) | skip
  obtain ⟨hc, rfl⟩ := ite_some e
  exact o2_ic (⟨hc.1, hc.2.1, hc.2.2⟩) fun _ => .int) a b
def negD : D -> Option D
  | .int i => some (.int (-i))
  | _ => none
def xNeg (a : XP W) : XP W where
  t := tUn (rU fun i => .int (-i)) a.t
  ev env := match a.evV env with
    | some x => (negD x).map (Prod.mk .fr)
    | none => none
  snd := fun {env k d} e => by
    match e1 : a.evV env, e with
    | some x, e =>
      cases x <;> first | (cases e; done) | skip
      cases e
      exact (ae_u (g := fun i => .int (-i)) (a.sV e1) fun _ => .int).own
def seqOf : D -> Option (Bool × List D)
  | .lst xs => some (false, xs)
  | .olst xs => if xs.all isSh then some (false, xs) else none
  | .tup xs => some (true, xs)
  | .scr ns => some (false, ns.map .int)
  | .len xs => some (false, xs)
  | _ => none
theorem shrs_ints {F : Hp} : ∀ ns : List Int, Shrs W F (ns.map D.int) (ns.map V.int)
  | [] => .nil
  | _ :: ns => .cons .int (shrs_ints ns)
theorem seqOf_ok {F H : Hp} {v : V} {L : List Addr} {b : Bool} {xs : List D} (s : Same F H) (o : Own W F H d v L) (h : seqOf d = some (b, xs)) :
    ∃ a vs, v = .ref a /\ Shrs W F xs vs /\ if b = true then SqT W.K H a vs else SqL W.K H a vs := by
  cases o with
  | sh y =>
    cases y <;> first | (cases h; done) | skip
    · cases h; exact ⟨_, _, rfl, shrs_ints _, s.seq (by assumption)⟩
    · cases h; exact ⟨_, _, rfl, by assumption, .of (s _ _ (by assumption))⟩
    · cases h; exact ⟨_, _, rfl, by assumption, .of (s _ _ (by assumption))⟩
    · cases h; exact ⟨_, _, rfl, by assumption, .inl (.inr ⟨_, s _ _ (by assumption)⟩)⟩
  | olst ha hs =>
    obtain ⟨hc, e⟩ := ite_some h
    cases e
    exact ⟨_, _, rfl, hs.shrs hc, .of ha⟩
  | odic => cases h
  | odit => cases h
  | odig => cases h
  | olf => cases h
  | oxt => cases h
  | otup => cases h
  | oins => cases h
def lstOf : D -> Option (List D)
  | .lst xs => some xs
  | .olst xs => if xs.all isSh then some xs else none
  | _ => none
theorem lstOf_ok {F H : Hp} {v : V} {L : List Addr} {xs : List D} (s : Same F H) (o : Own W F H d v L) (h : lstOf d = some xs) : ∃ a vs, v = .ref a /\ Shrs W F xs vs /\ H a = some (.lst vs) := by
  cases o with
  | sh y =>
    cases y <;> first | (cases h; done) | skip
    cases h; exact ⟨_, _, rfl, by assumption, s _ _ (by assumption)⟩
  | olst ha hs =>
    obtain ⟨hc, e⟩ := ite_some h
    cases e
    exact ⟨_, _, rfl, hs.shrs hc, ha⟩
  | odic => cases h
  | odit => cases h
  | odig => cases h
  | olf => cases h
  | oxt => cases h
  | otup => cases h
  | oins => cases h
def addD (x y : D) : Option D := match x, y with
  | .int i, .int j => some (.int (i + j))
  | .tup xs, .tup ys => if xs ≠ [] /\ xs.length + ys.length <= 1000000 then some (.tup (xs ++ ys)) else none
  | x, y => match lstOf x, lstOf y with
    | some xs, some ys => if xs.length + ys.length <= 1000000 then some (.olst (xs ++ ys)) else none
    | _, _ => none
def xAdd (a b : XP W) : XP W where
  t := tOp (fun x y H Q => rI0 (fun i j => .int (i + j)) x y H Q \/ (fun x y H Q => rCat x y H Q \/ rCatT W.K x y H Q) x y H Q) a.t b.t
  ev env := (a.evK env).bind fun x => (b.evK env).bind fun y => (addD x y).map (Prod.mk .fr)
  snd := fun {env k d} e => by
    obtain ⟨x, e1, e⟩ := Option.bind_eq_some_iff.mp e
    obtain ⟨y, e2, e⟩ := Option.bind_eq_some_iff.mp e
    obtain ⟨z, e3, e⟩ := Option.map_eq_some_iff.mp e
    cases e
    intro e' F σ H L Q r q
    refine a.sK e1 e' F σ H L _ r fun v F1 H1 x1 ⟨L1, y1⟩ => b.sK e2 e' F1 σ H1 L _ (r.ext x1) fun u F2 H2 x2 ⟨L2, y2⟩ => ?_
    have y1 : Own W F2 H2 x v L1 := y1.frame x2.f fun a _ o q => x2.h _ _ q
    have lists : ∀ {xs ys}, lstOf x = some xs -> lstOf y = some ys -> xs.length + ys.length <= 1000000 -> d = .olst (xs ++ ys) -> (fun x y H Q => rI0 (fun i j => V.int (i + j)) x y H Q \/ (fun x y H Q => rCat x y H Q \/ rCatT W.K x y H Q) x y H Q) v u H2 Q := by
      intro xs ys h1 h2 hl hz
      obtain ⟨a, vs, rfl, sa, ha⟩ := lstOf_ok x2.s y1 h1
      obtain ⟨b, ws, rfl, sb, hb⟩ := lstOf_ok x2.s y2 h2
      subst hz
      exact .inr (.inl (o2L_cat hl F2 H2 a b vs ws Q x2.s ha sa hb sb fun w F3 H3 x3 y3 => q w F3 H3 ((x1.trans x2).trans x3) (rO_back (x1.h.trans x2.h) y3)))
    unfold addD at e3
    split at e3
    · cases e3
      cases y1.shr rfl; cases y2.shr rfl
      exact .inl ⟨_, _, rfl, rfl, q _ F2 H2 (x1.trans x2) (rO_sh .int)⟩
    · obtain ⟨⟨hn, hl⟩, rfl⟩ := ite_some e3
      cases y1.shr rfl with
      | tup ha sa =>
        cases y2.shr rfl with
        | tup hb sb =>
          have z1 := sa.length
          have z2 := sb.length
          refine .inr (.inr ⟨_, _, _, _, rfl, rfl, .of (x2.s _ _ ha), .of (x2.s _ _ hb), fun z => ?_, by rw [<- z1, <- z2]; exact Nat.le_trans hl (by decide), fun z => ?_, fun z p hp => ?_⟩)
          · subst z; exact hn (List.eq_nil_of_length_eq_zero z1)
          · subst z
            have z2 := List.eq_nil_of_length_eq_zero z2
            subst z2
            refine q _ F2 H2 (x1.trans x2) ?_
            rw [List.append_nil]
            exact rO_sh (.tup ha sa)
          · exact q _ _ _ ((x1.trans x2).trans (.new x2.s hp)) (rO_sh (.tup upd_same ((sa.append sb).mono (same_new (x2.s.free hp)))))
    · rename_i hx hy
      cases h1 : lstOf x with
      | none => rw [h1] at e3; cases e3
      | some xs =>
        cases h2 : lstOf y with
        | none => rw [h1, h2] at e3; cases e3
        | some ys =>
          rw [h1, h2] at e3
          obtain ⟨hl, rfl⟩ := ite_some e3
          exact lists h1 h2 hl rfl
mutual
def okD : Nat -> D -> Bool
  | _, .non | _, .bl _ | _, .int _ | _, .str _ => true
  | n + 1, .tup xs => okDs n xs
  | n + 1, .lst xs => okDs n xs
  | _, _ => false
def okDs : Nat -> List D -> Bool
  | _, [] => true
  | n, x :: xs => okD n x && okDs n xs
end
mutual
def eqB : D -> D -> Bool
  | .non, .non => true
  | .bl a, .bl b => decide (a = b)
  | .bl a, .int j => decide ((if a then 1 else 0) = j)
  | .int i, .bl b => decide (i = if b then 1 else 0)
  | .int i, .int j => decide (i = j)
  | .str x, .str y => decide (x = y)
  | .tup xs, .tup ys => eqBs xs ys
  | .lst xs, .lst ys => eqBs xs ys
  | _, _ => false
def eqBs : List D -> List D -> Bool
  | [], [] => true
  | x :: xs, y :: ys => eqB x y && eqBs xs ys
  | _, _ => false
end
theorem okDs_all (n : Nat) : ∀ xs : List D, okDs n xs = xs.all (okD n)
  | [] => by rw [okDs]; rfl
  | x :: xs => by rw [okDs, okDs_all n xs]; rfl
theorem strOk_so (x : String) : PyData.strOk (so x) = true := by
  unfold PyData.strOk so
  rw [Str.ofString_eq_toList]
  simp only [List.all_toArray, List.all_map, List.all_eq_true, Function.comp_apply, decide_eq_true_eq]
  intro c _
  have := c.valid
  rcases this with h | h
  · have : c.toNat < 55296 := h
    omega
  · exact h.2
mutual
theorem okD_pd : ∀ {n : Nat} {d : D}, okD n d = true -> ∃ p, pd d = some p /\ p.canLay0 = true /\ p.depth <= n
  | n, .non, _ => ⟨_, by rw [pd], by rw [PyData.canLay0], by simp [PyData.depth]⟩
  | n, .bl _, _ => ⟨_, by rw [pd], by rw [PyData.canLay0], by simp [PyData.depth]⟩
  | n, .int _, _ => ⟨_, by rw [pd], by rw [PyData.canLay0], by simp [PyData.depth]⟩
  | n, .str _, h => ⟨_, by rw [pd], by rw [PyData.canLay0]; exact strOk_so _, by simp [PyData.depth]⟩
  | n + 1, .tup xs, h => by
    rw [okD] at h
    obtain ⟨ps, h1, h2, h3⟩ := okDs_pd h
    exact ⟨.tuple ps, by rw [pd, h1]; rfl, by rw [PyData.canLay0]; exact h2, by rw [PyData.depth]; omega⟩
  | n + 1, .lst xs, h => by
    rw [okD] at h
    obtain ⟨ps, h1, h2, h3⟩ := okDs_pd h
    exact ⟨.list ps, by rw [pd, h1]; rfl, by rw [PyData.canLay0]; exact h2, by rw [PyData.depth]; omega⟩
  | _, .scr _, h => by simp [okD] at h
  | 0, .tup _, h => by simp [okD] at h
  | 0, .lst _, h => by simp [okD] at h
  | _, .cls _, h => by simp [okD] at h
  | _, .sei _, h => by simp [okD] at h
  | _, .dic _ _, h => by simp [okD] at h
  | _, .dit _ _, h => by simp [okD] at h
  | _, .dig _ _, h => by simp [okD] at h
  | _, .dlf _ _ _, h => by simp [okD] at h
  | _, .xt _ _ _ _, h => by simp [okD] at h
  | _, .len _, h => by simp [okD] at h
  | _, .ins _ _ _, h => by simp [okD] at h
  | _, .olst _, h => by simp [okD] at h
  | _, .odic _ _, h => by simp [okD] at h
  | _, .odit _ _, h => by simp [okD] at h
  | _, .odig _ _, h => by simp [okD] at h
  | _, .olf _ _ _, h => by simp [okD] at h
  | _, .oxt _ _ _ _, h => by simp [okD] at h
  | _, .otup _, h => by simp [okD] at h
  | _, .oins _ _ _, h => by simp [okD] at h
theorem okDs_pd : ∀ {n : Nat} {ds : List D}, okDs n ds = true -> ∃ ps, pds ds = some ps /\ PyData.canLayAll0 ps = true /\ PyData.depthAll ps <= n
  | n, [], _ => ⟨[], by rw [pds], by rw [PyData.canLayAll0], by simp [PyData.depthAll]⟩
  | n, d :: ds, h => by
    rw [okDs, Bool.and_eq_true] at h
    obtain ⟨p, h1, h2, h3⟩ := okD_pd h.1
    obtain ⟨ps, k1, k2, k3⟩ := okDs_pd h.2
    exact ⟨p :: ps, by rw [pds, h1, k1], by rw [PyData.canLayAll0, h2, k2]; rfl, by rw [PyData.depthAll]; omega⟩
end
theorem so_eq {x y : String} : (so x == so y) = decide (x = y) := by
  by_cases h : x = y
  · subst h; simp
  · rw [beq_eq_false_iff_ne.mpr fun z => h (so_inj z), decide_eq_false h]
mutual
theorem eqB_pd : ∀ (x : D) {y : D} {p q : PyData}, pd x = some p -> pd y = some q -> eqB x y = PyData.eqv p q
  | .tup xs, y, p, q, hx, hy => by
    rw [pd] at hx
    obtain ⟨ps, h1, rfl⟩ := Option.map_eq_some_iff.mp hx
    cases y <;> (simp only [pd, reduceCtorEq, Option.some.injEq, Option.map_eq_some_iff] at hy) <;> first | (obtain ⟨qs, h2, rfl⟩ := hy) | subst hy
    all_goals first | (simp only [eqB, PyData.eqv]; done) | (simp only [eqB, PyData.eqv]; exact eqBs_pd xs h1 h2)
  | .lst xs, y, p, q, hx, hy => by
    rw [pd] at hx
    obtain ⟨ps, h1, rfl⟩ := Option.map_eq_some_iff.mp hx
    cases y <;> (simp only [pd, reduceCtorEq, Option.some.injEq, Option.map_eq_some_iff] at hy) <;> first | (obtain ⟨qs, h2, rfl⟩ := hy) | subst hy
    all_goals first | (simp only [eqB, PyData.eqv]; done) | (simp only [eqB, PyData.eqv]; exact eqBs_pd xs h1 h2)
  | .non, y, p, q, hx, hy => by
    rw [pd] at hx; cases hx
    cases y <;> (simp only [pd, reduceCtorEq, Option.some.injEq, Option.map_eq_some_iff] at hy) <;> first | (obtain ⟨qs, h2, rfl⟩ := hy) | subst hy
    all_goals first | (simp only [eqB, PyData.eqv, so_eq]; done) | (simp only [eqB, PyData.eqv]; rw [Bool.eq_iff_iff]; simp; done)
  | .bl _, y, p, q, hx, hy => by
    rw [pd] at hx; cases hx
    cases y <;> (simp only [pd, reduceCtorEq, Option.some.injEq, Option.map_eq_some_iff] at hy) <;> first | (obtain ⟨qs, h2, rfl⟩ := hy) | subst hy
    all_goals first | (simp only [eqB, PyData.eqv, so_eq]; done) | (simp only [eqB, PyData.eqv]; rw [Bool.eq_iff_iff]; simp; done)
  | .int _, y, p, q, hx, hy => by
    rw [pd] at hx; cases hx
    cases y <;> (simp only [pd, reduceCtorEq, Option.some.injEq, Option.map_eq_some_iff] at hy) <;> first | (obtain ⟨qs, h2, rfl⟩ := hy) | subst hy
    all_goals first | (simp only [eqB, PyData.eqv, so_eq]; done) | (simp only [eqB, PyData.eqv]; rw [Bool.eq_iff_iff]; simp; done)
  | .str _, y, p, q, hx, hy => by
    rw [pd] at hx; cases hx
    cases y <;> (simp only [pd, reduceCtorEq, Option.some.injEq, Option.map_eq_some_iff] at hy) <;> first | (obtain ⟨qs, h2, rfl⟩ := hy) | subst hy
    all_goals first | (simp only [eqB, PyData.eqv, so_eq]; done) | (simp only [eqB, PyData.eqv]; rw [Bool.eq_iff_iff]; simp; done)
  | .cls _, y, p, q, hx, hy => by simp [pd] at hx
  | .sei _, y, p, q, hx, hy => by simp [pd] at hx
  | .scr _, y, p, q, hx, hy => by simp [pd] at hx
  | .dic _ _, y, p, q, hx, hy => by simp [pd] at hx
  | .dit _ _, y, p, q, hx, hy => by simp [pd] at hx
  | .dig _ _, y, p, q, hx, hy => by simp [pd] at hx
  | .dlf _ _ _, y, p, q, hx, hy => by simp [pd] at hx
  | .xt _ _ _ _, y, p, q, hx, hy => by simp [pd] at hx
  | .len _, y, p, q, hx, hy => by simp [pd] at hx
  | .ins _ _ _, y, p, q, hx, hy => by simp [pd] at hx
  | .olst _, y, p, q, hx, hy => by simp [pd] at hx
  | .odic _ _, y, p, q, hx, hy => by simp [pd] at hx
  | .odit _ _, y, p, q, hx, hy => by simp [pd] at hx
  | .odig _ _, y, p, q, hx, hy => by simp [pd] at hx
  | .olf _ _ _, y, p, q, hx, hy => by simp [pd] at hx
  | .oxt _ _ _ _, y, p, q, hx, hy => by simp [pd] at hx
  | .otup _, y, p, q, hx, hy => by simp [pd] at hx
  | .oins _ _ _, y, p, q, hx, hy => by simp [pd] at hx
theorem eqBs_pd : ∀ (xs : List D) {ys : List D} {ps qs : List PyData}, pds xs = some ps -> pds ys = some qs -> eqBs xs ys = PyData.eqvAll ps qs
  | [], ys, ps, qs, hx, hy => by
    rw [pds] at hx; cases hx
    cases ys with
    | nil => rw [pds] at hy; cases hy; simp [eqBs, PyData.eqvAll]
    | cons y ys =>
      rw [pds] at hy
      split at hy
      · cases hy; simp [eqBs, PyData.eqvAll]
      · cases hy
  | x :: xs, ys, ps, qs, hx, hy => by
    rw [pds] at hx
    split at hx
    · rename_i p ps' h1 h2
      cases hx
      cases ys with
      | nil => rw [pds] at hy; cases hy; simp [eqBs, PyData.eqvAll]
      | cons y ys =>
        rw [pds] at hy
        split at hy
        · rename_i q qs' k1 k2
          cases hy
          rw [eqBs, PyData.eqvAll, eqB_pd x h1 k1, eqBs_pd xs h2 k2]
        · cases hy
    · cases hx
end
def eqD (x y : D) : Option D := if okD 60 x = true /\ okD 60 y = true then some (.bl (eqB x y)) else none
def neD (x y : D) : Option D := if okD 60 x = true /\ okD 60 y = true then some (.bl (!eqB x y)) else none
theorem okD_sh {x : D} {p : PyData} (h1 : p.canLay0 = true) (h2 : p.depth <= 60) : SeqAt.shaped p = true := by
  unfold SeqAt.shaped
  rw [h1, decide_eq_true (by omega)]; rfl
def xEq (a b : XP W) : XP W := xOp (fun x y H Q => rEq x y H Q \/ rEqD W.K x y H Q) eqD (fun {x y d} e => by
  obtain ⟨⟨h1, h2⟩, rfl⟩ := ite_some e
  obtain ⟨p, p1, p2, p3⟩ := okD_pd h1
  obtain ⟨q, q1, q2, q3⟩ := okD_pd h2
  rw [eqB_pd x p1 q1]
  exact o2_r (o2_eqD p1 q1 (okD_sh (x := x) p2 p3) (okD_sh (x := y) q2 q3))) a b
def xNe (a b : XP W) : XP W := xOp (fun x y H Q => rNe x y H Q \/ rNeD W.K x y H Q) neD (fun {x y d} e => by
  obtain ⟨⟨h1, h2⟩, rfl⟩ := ite_some e
  obtain ⟨p, p1, p2, p3⟩ := okD_pd h1
  obtain ⟨q, q1, q2, q3⟩ := okD_pd h2
  rw [eqB_pd x p1 q1]
  exact o2_r (o2_neD p1 q1 (okD_sh (x := x) p2 p3) (okD_sh (x := y) q2 q3))) a b
def intsOf : List D -> Option (List Int)
  | [] => some []
  | .int i :: ds => (intsOf ds).map (i :: ·)
  | _ => none
theorem intsOf_ok : ∀ {ds : List D} {ns : List Int}, intsOf ds = some ns -> ds = ns.map D.int
  | [], _, h => by cases h; rfl
  | .int i :: ds, ns, h => by
    obtain ⟨ms, h1, rfl⟩ := Option.map_eq_some_iff.mp h
    rw [intsOf_ok h1]; rfl
theorem shrs_int {F : Hp} : ∀ {ns : List Int} {vs : List V}, Shrs W F (ns.map D.int) vs -> vs = ns.map V.int
  | [], _, .nil => rfl
  | n :: ns, _, .cons h t => by cases h; rw [shrs_int t]; rfl
def cmpD (f : Int -> Int -> Bool) : D -> D -> Option D
  | .int i, .int j => some (.bl (f i j))
  | _, _ => none
def ltD : D -> D -> Option D
  | .int i, .int j => some (.bl (decide (i < j)))
  | .tup xs, .tup ys => (intsOf xs).bind fun ns => (intsOf ys).map fun ms => .bl (HT.lexLt ns ms)
  | _, _ => none
def xLt (a b : XP W) : XP W := xOp (fun x y H Q => rI0 (fun i j => .bl (decide (i < j))) x y H Q \/ rLtT W.K x y H Q) ltD (fun {x y d} e => by
  unfold ltD at e
  split at e
  · cases e; exact o2_l (o2_i fun _ => .bl)
  · obtain ⟨ns, h1, e⟩ := Option.bind_eq_some_iff.mp e
    obtain ⟨ms, h2, rfl⟩ := Option.map_eq_some_iff.mp e
    cases intsOf_ok h1
    cases intsOf_ok h2
    refine o2_r fun F H v1 v2 Q s a b q => ?_
    cases a with
    | tup ha sa =>
      cases b with
      | tup hb sb =>
        cases shrs_int sa
        cases shrs_int sb
        exact ⟨_, _, _, _, rfl, rfl, .of ha, .of hb, q _ F H (.refl s) (rO_sh .bl)⟩
  · cases e) a b
def xCmp (f : Int -> Int -> Bool) (a b : XP W) : XP W := xOp (rI0 fun i j => .bl (f i j)) (cmpD f) (fun {x y d} e => by
  unfold cmpD at e
  split at e
  · cases e; exact o2_i fun _ => .bl
  · cases e) a b
def xGt (a b : XP W) : XP W := xCmp (fun i j => decide (j < i)) a b
def xGe (a b : XP W) : XP W := xCmp (fun i j => decide (j <= i)) a b
def xIsN (a : XP W) : XP W where
  t := tOp (fun x y H Q => y = .non /\ Q (.bl (decide (x = .non))) H) a.t (tC .non)
  ev env := (a.evV env).map fun x => (.fr, .bl (isNon x))
  snd := fun {env k d} e => by
    obtain ⟨x, e1, e⟩ := Option.map_eq_some_iff.mp e
    cases e
    exact (ae_isN (a.sV e1)).own
def blD : D -> Option Bool
  | .bl b => some b
  | _ => none
theorem blD_ok {x : D} {b : Bool} (h : blD x = some b) : x = .bl b := by cases x <;> cases h; rfl
def XP.evB (a : XP W) (env : Py.Env) : Option Bool := (a.evV env).bind blD
theorem XP.sB (a : XP W) {b : Bool} (h : a.evB env = some b) : AE W a.t env (rV W (.bl b)) := by
  obtain ⟨x, e1, e⟩ := Option.bind_eq_some_iff.mp h
  cases blD_ok e
  exact a.sV e1
def andE (x : Option Bool) (y : Unit -> Option Bool) : Option Bool := match x with
  | some true => y ()
  | some false => some false
  | none => none
def orE (x : Option Bool) (y : Unit -> Option Bool) : Option Bool := match x with
  | some false => y ()
  | some true => some true
  | none => none
def xAnd (a b : XP W) : XP W where
  t := tAndV a.t b.t
  ev env := (andE (a.evB env) fun _ => b.evB env).map fun c => (.fr, .bl c)
  snd := fun {env k d} e => by
    obtain ⟨c, e1, e⟩ := Option.map_eq_some_iff.mp e
    cases e
    match ha : a.evB env, e1 with
    | some false, e1 => cases e1; exact (ae_andV (b := false) (a.sB ha) fun q => nomatch q).own
    | some true, e1 => exact (ae_andV (a.sB ha) fun q => b.sB e1).own
def xOr (a b : XP W) : XP W where
  t := tOrV a.t b.t
  ev env := (orE (a.evB env) fun _ => b.evB env).map fun c => (.fr, .bl c)
  snd := fun {env k d} e => by
    obtain ⟨c, e1, e⟩ := Option.map_eq_some_iff.mp e
    cases e
    match ha : a.evB env, e1 with
    | some true, e1 => cases e1; exact (ae_orV (b := false) (a.sB ha) fun q => nomatch q).own
    | some false, e1 => exact (ae_orV (a.sB ha) fun q => b.sB e1).own
def xNot (a : XP W) : XP W where
  t := tNotV a.t
  ev env := (a.evB env).map fun c => (.fr, .bl (!c))
  snd := fun {env k d} e => by
    obtain ⟨c, e1, e⟩ := Option.map_eq_some_iff.mp e
    cases e
    exact (ae_notV (a.sB e1)).own
structure XT {T : Tbl} (W : Wd T) where
  t : TT
  ev : Py.Env -> Option Bool
  snd : ∀ {env b}, ev env = some b -> AT W t env b
def xtV (a : XP W) : XT W where
  t := tTest a.t
  ev env := a.evB env
  snd := fun e => at_test (a.sB e)
def truD : D -> Option Bool
  | .bl b => some b
  | .non => some false
  | .int i => some (decide (i ≠ 0))
  | .lst ds => some (!ds.isEmpty)
  | .tup ds => some (!ds.isEmpty)
  | _ => none
theorem isE {ds : List D} {vs : List V} {F : Hp} (b : Shrs W F ds vs) : (!ds.isEmpty) = !vs.isEmpty := by cases b <;> rfl
def xtTru (a : XP W) : XT W where
  t := fun σ H Q => a.t σ H fun x H' => ∃ k, TruV W.K x H' k /\ Q k H'
  ev env := (a.evV env).bind truD
  snd := fun {env b} e => by
    obtain ⟨x, e1, e⟩ := Option.bind_eq_some_iff.mp e
    intro e' F σ H L Q r q
    refine a.sV e1 e' F σ H L _ r fun v F1 H1 x1 y1 => ⟨b, ?_, q F1 H1 x1⟩
    cases y1 <;> first | (cases e; done) | (cases e; rfl) | skip
    · cases e
      show decide _ = (_ != 0)
      rw [Bool.eq_iff_iff]; simp
    · cases e; exact .inr (.inl ⟨_, .of (by assumption), isE (by assumption)⟩)
    · cases e; exact .inl ⟨_, .of (by assumption), isE (by assumption)⟩
def xtAnd (a b : XT W) : XT W where
  t := tAnd a.t b.t
  ev env := andE (a.ev env) fun _ => b.ev env
  snd := fun {env c} e => by
    match ha : a.ev env, e with
    | some false, e => cases e; exact at_and (b := false) (a.snd ha) fun q => nomatch q
    | some true, e => exact at_and (a.snd ha) fun q => b.snd e
def xtOr (a b : XT W) : XT W where
  t := tOr a.t b.t
  ev env := orE (a.ev env) fun _ => b.ev env
  snd := fun {env c} e => by
    match ha : a.ev env, e with
    | some true, e => cases e; exact at_or (b := false) (a.snd ha) fun q => nomatch q
    | some false, e => exact at_or (a.snd ha) fun q => b.snd e
def xtNot (a : XT W) : XT W where
  t := tNot a.t
  ev env := (a.ev env).map (!·)
  snd := fun {env c} e => by
    obtain ⟨b, e1, rfl⟩ := Option.map_eq_some_iff.mp e
    exact at_not (a.snd e1)
structure XA {T : Tbl} (W : Wd T) where
  t : TA
  evV : Py.Env -> Option (List D)
  evF : Py.Env -> Option (List D)
  sV : ∀ {env ds}, evV env = some ds -> AA W t env (rVs W ds)
  sF : ∀ {env ds}, evF env = some ds -> AA W t env (rFs W ds)
def xaNil {T : Tbl} (W : Wd T) : XA W where
  t := tNil
  evV _ := some []
  evF _ := some []
  sV := fun e => by cases e; exact aa_nilV
  sF := fun e => by cases e; exact aa_nil
def xaCons (a : XP W) (as : XA W) : XA W where
  t := tCons a.t as.t
  evV env := (a.evV env).bind fun x => (as.evV env).map (x :: ·)
  evF env := (a.evF env).bind fun x => (as.evF env).map (x :: ·)
  sV := fun {env ds} e => by
    obtain ⟨x, e1, e⟩ := Option.bind_eq_some_iff.mp e
    obtain ⟨xs, e2, rfl⟩ := Option.map_eq_some_iff.mp e
    exact aa_consV (a.sV e1) (as.sV e2)
  sF := fun {env ds} e => by
    obtain ⟨x, e1, e⟩ := Option.bind_eq_some_iff.mp e
    obtain ⟨xs, e2, rfl⟩ := Option.map_eq_some_iff.mp e
    exact aa_cons (a.sF e1) (as.sF e2)
def xTup (as : XA W) : XP W where
  t := tTup as.t
  ev env := (as.evF env).bind fun ds => if ds.length <= 1000000 then some (.fr, .tup ds) else none
  snd := fun {env k d} e => by
    obtain ⟨x, e1, e⟩ := Option.bind_eq_some_iff.mp e
    obtain ⟨h, e⟩ := ite_some e
    cases e
    exact (ae_tup (as.sF e1) h).own
def xLst (as : XA W) : XP W where
  t := tLst as.t
  ev env := (as.evF env).bind fun ds => if ds.length <= 1000000 then some (.fr, .olst ds) else none
  snd := fun {env k d} e => by
    obtain ⟨x, e1, e⟩ := Option.bind_eq_some_iff.mp e
    obtain ⟨h, e⟩ := ite_some e
    cases e
    exact ae_lst (as.sF e1) h
def xCb (r : List V -> Hp -> VK -> Prop) (f : List D -> Option D) (h : ∀ {ds d}, f ds = some d -> Cb W r ds d) (as : XA W) : XP W where
  t := tCB r as.t
  ev env := (as.evV env).bind fun ds => (f ds).map (Prod.mk .fr)
  snd := fun {env k d} e => by
    obtain ⟨x, e1, e⟩ := Option.bind_eq_some_iff.mp e
    obtain ⟨z, e2, e⟩ := Option.map_eq_some_iff.mp e
    cases e
    exact ae_cb (as.sV e1) (h e2)
def intD : List D -> Option D
  | [.int i] => some (.int i)
  | [.bl b] => some (.int (if b then 1 else 0))
  | _ => none
def xInt1 (as : XA W) : XP W := xCb (fun xs H Q => (∃ i, xs = [.int i] /\ Q (.int i) H) \/ ∃ k, xs = [.bl k] /\ Q (.int (if k then 1 else 0)) H) intD (fun {ds d} e => by
  unfold intD at e
  split at e
  · cases e; exact cb_int
  · cases e
    exact fun F H vs Q s a q => by
      cases a with
      | cons a b => cases b; cases a; exact .inr ⟨_, rfl, q _ F H (.refl s) (rO_sh .int)⟩
  · cases e) as
def absD : List D -> Option D
  | [.int i] => some (.int (if i < 0 then -i else i))
  | _ => none
def xAbs (as : XA W) : XP W := xCb (fun xs H Q => ∃ i, xs = [.int i] /\ Q (.int (if i < 0 then -i else i)) H) absD (fun {ds d} e => by
  unfold absD at e
  split at e
  · cases e; exact cb_abs
  · cases e) as
abbrev rLenA (K : PySem.W.Frag) : List V -> Hp -> VK -> Prop := fun xs H Q => (∃ p ys, xs = [.ref p] /\ (SqL K H p ys \/ SqT K H p ys) /\ Q (.int ys.length) H) \/ (∃ a kvs, xs = [V.ref a] /\ H a = some (.dK kvs) /\ Q (.int kvs.length) H)
def lenD : List D -> Option D
  | [.lst ds] => some (.int ds.length)
  | [.tup ds] => some (.int ds.length)
  | [.scr ns] => some (.int ns.length)
  | [.len ds] => some (.int ds.length)
  | _ => none
theorem cb_lenF {ds : List D} : Cb W (rLenU W.K) [.len ds] (.int ds.length) := fun F H vs Q s a q => by
  cases a with
  | cons a b =>
    cases b
    cases a with
    | len a b => exact ⟨_, _, rfl, .inl (.inl (.inr ⟨_, a⟩)), q _ F H (.refl s) (rO_sh (by rw [b.length]; exact .int))⟩
theorem len_cb {ds : List D} {d : D} (e : lenD ds = some d) : Cb W (rLenA W.K) ds d := by
  unfold lenD at e
  split at e
  · cases e; exact cb_l cb_lenL
  · cases e; exact cb_l cb_lenT
  · cases e; exact cb_l cb_lenS
  · cases e; exact cb_l cb_lenF
  · cases e
def itemsD : D -> Option (List D)
  | .lst xs => some xs
  | .olst xs => some xs
  | .tup xs => some xs
  | .scr ns => some (ns.map .int)
  | _ => none
def ixD (d y : D) : Option D := match y with
  | .int i => (itemsD d).bind fun xs => atI xs i
  | _ => none
theorem Owns.get {G H : Hp} : ∀ {ds : List D} {vs : List V} {L : List Addr} {i : Nat} {d : D}, Owns W G H ds vs L -> ds[i]? = some d -> ∃ v M, vs[i]? = some v /\ Own W G H d v M
  | _, _, _, _, _, .nil, e => by simp at e
  | _, _, _, 0, _, .cons h _, e => by simp at e; subst e; exact ⟨_, _, rfl, h⟩
  | _, _, _, i + 1, _, .cons _ t, e => Owns.get (i := i) t (by simpa using e)
theorem atI_own {G H : Hp} {ds : List D} {vs : List V} {L : List Addr} {i : Int} (h : Owns W G H ds vs L) (ha : atI ds i = some d) : ∃ v M, atI vs i = some v /\ Own W G H d v M := by
  unfold atI at ha ⊢
  rw [<- h.length]
  cases e : ixN ds.length i with
  | none => rw [e] at ha; cases ha
  | some j =>
    rw [e] at ha
    exact h.get ha
theorem ixD_ok {G H : Hp} {v : V} {L : List Addr} {i : Int} {x : D} (s : Same G H) (o : Own W G H d v L) (h : ixD d (.int i) = some x) : ∃ w M, Own W G H x w M /\ ∀ Q : VK, Q w H -> rIxU W.K v (.int i) H Q := by
  obtain ⟨xs, h1, h2⟩ := Option.bind_eq_some_iff.mp h
  cases o with
  | sh y =>
    cases y <;> first | (cases h1; done) | skip
    · cases h1
      obtain ⟨w, M, e1, e2⟩ := atI_own (Shrs.owns (H := H) (shrs_ints (W := W) (F := G) _)) h2
      exact ⟨w, M, e2, fun Q q => .inl ⟨_, _, i, w, rfl, rfl, s.seq (by assumption), e1, q⟩⟩
    · cases h1
      obtain ⟨w, M, e1, e2⟩ := atI_own (Shrs.owns (H := H) (by assumption)) h2
      exact ⟨w, M, e2, fun Q q => .inr ⟨_, _, i, w, rfl, rfl, .of (s _ _ (by assumption)), e1, q⟩⟩
    · cases h1
      obtain ⟨w, M, e1, e2⟩ := atI_own (Shrs.owns (H := H) (by assumption)) h2
      exact ⟨w, M, e2, fun Q q => .inl ⟨_, _, i, w, rfl, rfl, .of (s _ _ (by assumption)), e1, q⟩⟩
  | olst ha hs =>
    cases h1
    obtain ⟨w, M, e1, e2⟩ := atI_own hs h2
    exact ⟨w, M, e2, fun Q q => .inl ⟨_, _, i, w, rfl, rfl, .of ha, e1, q⟩⟩
  | odic => cases h1
  | odit => cases h1
  | odig => cases h1
  | olf => cases h1
  | oxt => cases h1
  | otup => cases h1
  | oins => cases h1
def xIx (a b : XP W) : XP W where
  t := tOp (rIxU W.K) a.t b.t
  ev env := (a.ev env).bind fun p => (b.evV env).bind fun y => (ixD p.2 y).map p.1.of
  snd := fun {env k d} e => by
    obtain ⟨⟨k1, d1⟩, e1, e⟩ := Option.bind_eq_some_iff.mp e
    obtain ⟨y, e2, e⟩ := Option.bind_eq_some_iff.mp e
    obtain ⟨x, e3, e9⟩ := Option.map_eq_some_iff.mp e
    intro e' F σ H L Q r q
    refine a.snd e1 e' F σ H L _ r fun v F1 H1 x1 y1 => b.sV e2 e' F1 σ H1 L _ (r.ext x1) fun u F2 H2 x2 y2 => ?_
    obtain ⟨L1, o⟩ := rK_own y1
    have o2 := o.ext x2
    cases y <;> first | (cases e3; done) | skip
    cases y2
    obtain ⟨w, M, o3, c⟩ := ixD_ok (basis_same x2.s) o2 e3
    exact c _ (q w F2 H2 (x1.trans x2) (rK_of x2.s o3 e9))
def fldD (T : Tbl) (f : String) : D -> Option D
  | .ins c ns xs => if T.fOk c f = true then (pos f ns).bind fun j => xs[j]? else none
  | .oins c ns xs => if T.fOk c f = true then (pos f ns).bind fun j => xs[j]? else none
  | _ => none
theorem fldD_ok {G H : Hp} {v : V} {L : List Addr} {f : String} {x : D} (s : Same G H) (o : Own W G H d v L) (h : fldD T f d = some x) :
    ∃ a c dx fs w M, v = .ref a /\ H a = some (.ins (W.cA c) dx fs) /\ Cls W.K (W.cA c) /\ NoAttr W.K (W.cA c) (so f) /\ fs.lookup (so f) = some w /\ Own W G H x w M := by
  have gen : ∀ {c ns xs vs dx a M}, (if T.fOk c f = true then (pos f ns).bind fun j => xs[j]? else none) = some x -> H a = some (.ins (W.cA c) dx ((ns.map so).zip vs)) -> W.has c -> Owns W G H xs vs M ->
      ∃ a' c' dx fs w M, V.ref a = .ref a' /\ H a' = some (.ins (W.cA c') dx fs) /\ Cls W.K (W.cA c') /\ NoAttr W.K (W.cA c') (so f) /\ fs.lookup (so f) = some w /\ Own W G H x w M := by
    intro c ns xs vs dx a M e ha hc os
    split at e
    · rename_i hf
      obtain ⟨j, e1, e2⟩ := Option.bind_eq_some_iff.mp e
      obtain ⟨w, M', e3, o3⟩ := os.get e2
      exact ⟨a, c, dx, _, w, M', rfl, ha, W.cl c hc, W.na c f hc hf, (zip_lookup e1).trans e3, o3⟩
    · cases e
  cases o with
  | sh y =>
    cases y <;> first | (cases h; done) | skip
    exact gen h (s _ _ (by assumption)) (by assumption) (Shrs.owns (by assumption))
  | olst => cases h
  | odic => cases h
  | odit => cases h
  | odig => cases h
  | olf => cases h
  | oxt => cases h
  | otup => cases h
  | oins ha hc hl hs => exact gen h ha hc hs
def xFld (a : XP W) (f : String) : XP W where
  t := tFld W.K a.t (so f)
  ev env := (a.ev env).bind fun p => (fldD T f p.2).map p.1.of
  snd := fun {env k d} e => by
    obtain ⟨⟨k1, d1⟩, e1, e⟩ := Option.bind_eq_some_iff.mp e
    obtain ⟨x, e3, e⟩ := Option.map_eq_some_iff.mp e
    intro e' F σ H L Q r q
    refine a.snd e1 e' F σ H L _ r fun v F1 H1 x1 y1 => ?_
    obtain ⟨L1, o⟩ := rK_own y1
    obtain ⟨a, c, dx, fs, w, M, rfl, h1, h2, h3, h4, h5⟩ := fldD_ok (basis_same x1.s) o e3
    exact ⟨a, _, dx, fs, w, rfl, h1, h2, h3, h4, q w F1 H1 x1 (rK_of x1.s h5 e)⟩
def xList (a : XP W) : XP W where
  t := tCB (fun xs H Q => ∃ p ys, xs = [.ref p] /\ (SqL W.K H p ys \/ SqT W.K H p ys) /\ ∀ l, H l = none -> Q (.ref l) (upd H l (.lst ys))) (tCons a.t tNil)
  ev env := (a.evK env).bind fun d => (seqOf d).map fun p => (.fr, .olst p.2)
  snd := fun {env k d} e => by
    obtain ⟨d1, e1, e⟩ := Option.bind_eq_some_iff.mp e
    obtain ⟨⟨b, xs⟩, e3, e⟩ := Option.map_eq_some_iff.mp e
    cases e
    intro e' F σ H L Q r q
    refine a.sK e1 e' F σ H L _ r fun v F1 H1 x1 ⟨L1, o⟩ => ?_
    obtain ⟨a, vs, rfl, sh, sq⟩ := seqOf_ok x1.s o e3
    refine ⟨a, vs, rfl, ?_, fun p hp => q _ F1 _ (x1.trans (.newH x1.s hp)) ⟨[p], .olst upd_same sh.owns, by simp, fun x m => by
      rw [List.mem_singleton.mp m]; exact ⟨x1.h.free hp, x1.s.free hp⟩⟩⟩
    cases b with
    | true => exact .inr sq
    | false => exact .inl sq
def xTuple (a : XP W) : XP W where
  t := tCB (fun xs H Q => ∃ p ys, xs = [.ref p] /\ ((SqL W.K H p ys /\ ∀ l, H l = none -> Q (.ref l) (upd H l (.tup ys))) \/ (SqT W.K H p ys /\ Q (.ref p) H))) (tCons a.t tNil)
  ev env := (a.evK env).bind fun d => (seqOf d).map fun p => (.fr, .tup p.2)
  snd := fun {env k d} e => by
    obtain ⟨d1, e1, e⟩ := Option.bind_eq_some_iff.mp e
    obtain ⟨⟨b, xs⟩, e3, e⟩ := Option.map_eq_some_iff.mp e
    cases e
    intro e' F σ H L Q r q
    refine a.sK e1 e' F σ H L _ r fun v F1 H1 x1 ⟨L1, o⟩ => ?_
    cases b with
    | true =>
      have o1 : ∃ a vs, d1 = .tup xs /\ v = .ref a /\ F1 a = some (.tup vs) /\ Shrs W F1 xs vs := by
        unfold seqOf at e3
        split at e3 <;> first | (cases e3; done) | skip
        · split at e3 <;> cases e3
        · cases e3
          cases o.shr rfl with
          | tup ha hs => exact ⟨_, _, rfl, rfl, ha, hs⟩
      obtain ⟨a, vs, rfl, rfl, ha, hs⟩ := o1
      exact ⟨a, vs, rfl, .inr ⟨.of (x1.s _ _ ha), q _ F1 H1 x1 (rO_sh (.tup ha hs))⟩⟩
    | false =>
      obtain ⟨a, vs, rfl, sh, sq⟩ := seqOf_ok x1.s o e3
      exact ⟨a, vs, rfl, .inl ⟨sq, fun p hp => q _ (upd F1 p (.tup vs)) _ (x1.trans (.new x1.s hp)) (rO_sh (.tup upd_same (sh.mono (same_new (x1.s.free hp)))))⟩⟩
def tyD : D -> Option (Bool × String)
  | .non => some (false, "NoneType")
  | .bl _ => some (false, "bool")
  | .int _ => some (false, "int")
  | .str _ => some (false, "str")
  | .lst _ => some (false, "list")
  | .tup _ => some (false, "tuple")
  | .ins c _ _ => some (true, c)
  | _ => none
def isiB (a b : String) : Bool := a == b || (a == "bool" && b == "int")
def isi1 (T : Tbl) (t c : Bool × String) : Bool := match t, c with
  | (false, a), (false, b) => isiB a b
  | (false, _), (true, _) => false
  | (true, _), (false, _) => false
  | (true, c), (true, d) => T.sub c d
def clsOk (W : Wd T) (c : Bool × String) : Prop := if c.1 = true then W.has c.2 else c.2 ∈ ["int", "bool", "str", "list", "tuple", "dict"]
def clsT (W : Wd T) (c : Bool × String) : Value := if c.1 = true then .ref (W.cA c.2) else .type c.2
def clsV (W : Wd T) (c : Bool × String) : V := if c.1 = true then .ref (W.cA c.2) else .ty c.2
theorem clsV_ok (c : Bool × String) : ClsV (clsV W c) (clsT W c) := by
  obtain ⟨b, n⟩ := c
  cases b with
  | true => exact .own _
  | false => exact .ty _
theorem kitB_ok : ∀ a ∈ ["NoneType", "bool", "int", "str", "list", "tuple", "dict"], ∀ b ∈ ["int", "bool", "str", "list", "tuple", "dict"], kitB a b = some (isiB a b) := by decide +kernel
theorem tyD_ok {F H : Hp} {v : V} {t : Bool × String} (s : Same F H) (h : Shr W F d v) (e : tyD d = some t) : TyX W.K H v (clsT W t) /\ if t.1 = true then W.has t.2 else t.2 ∈ ["NoneType", "bool", "int", "str", "list", "tuple", "dict"] := by
  cases h with
  | non => cases e; exact ⟨.base .non, by simp⟩
  | bl => cases e; exact ⟨.base (.bl _), by simp⟩
  | int => cases e; exact ⟨.base (.int _), by simp⟩
  | str => cases e; exact ⟨.base (.str _), by simp⟩
  | lst h => cases e; exact ⟨.base (.lst (s _ _ h)), by simp⟩
  | tup h => cases e; exact ⟨.base (.tup (s _ _ h)), by simp⟩
  | dic => cases e
  | dit => cases e
  | ins h hc => cases e; exact ⟨.base (.ins (s _ _ h) (W.cl _ hc) (W.isT _ hc).1 (W.isT _ hc).2.1 (W.isT _ hc).2.2.1 (W.isT _ hc).2.2.2), hc⟩
  | scr => cases e
  | cls => cases e
  | sei => cases e
  | dig => cases e
  | dlf => cases e
  | xt => cases e
  | len => cases e
theorem kit_isi {t c : Bool × String} (ht : if t.1 = true then W.has t.2 else t.2 ∈ ["NoneType", "bool", "int", "str", "list", "tuple", "dict"]) (hc : clsOk W c) : PySem.W.kitOne W.K (clsT W t) (clsT W c) = some (isi1 T t c) := by
  obtain ⟨b, n⟩ := t
  obtain ⟨b', n'⟩ := c
  cases b <;> cases b'
  · exact kit_ty (kitB_ok n ht n' hc)
  · exact W.isTO n n' ht hc
  · exact W.isOT n n' ht hc
  · exact W.isOO n n' ht hc
def xIsi (c : Bool × String) (a : XP W) : XP W where
  t := fun σ H Q => clsOk W c -> tCB (rIsi W.K) (tCons a.t (tCons (tC (clsV W c)) tNil)) σ H Q
  ev env := (a.evV env).bind fun x => (tyD x).map fun t => (.fr, .bl (isi1 T t c))
  snd := fun {env k d} e => by
    obtain ⟨x, e1, e⟩ := Option.bind_eq_some_iff.mp e
    obtain ⟨t, e2, e⟩ := Option.map_eq_some_iff.mp e
    cases e
    intro e' F σ H L Q r q hc
    refine a.sV e1 e' F σ H L _ r fun v F1 H1 x1 y1 => ?_
    obtain ⟨z1, z2⟩ := tyD_ok (Same.refl _) y1 e2
    exact ⟨_, _, _, _, _, rfl, clsV_ok c, z1, kit_isi z2 hc, q _ F1 H1 x1 (rO_sh .bl)⟩
inductive Rz where
  | ok (d : D) (b : Option D) | exn (x : Exn) (b : Option D) | no
abbrev Sem := String -> List D -> Option Nat -> Rz
structure Post (F H : Hp) (L0 : List Addr) (F' H' : Hp) : Prop where
  f : Same F F'
  s : Same F' H'
  h : ∀ a o, a ∉ L0 -> H a = some o -> H' a = some o
  n : ∀ a o, F' a = some o -> F a = some o \/ H a = none \/ a ∈ L0
def bOwn {T : Tbl} (W : Wd T) (F H : Hp) (vs : List V) : Option Nat -> Option D -> List Addr -> Prop
  | some i, some d, M => ∃ v, vs[i]? = some v /\ Own W F H d v M
  | _, _, M => M = []
def spR {T : Tbl} (W : Wd T) (n : Nat) (φ : List D -> Option Nat -> Rz) (b : Option Nat) : Sp := fun vs H Q E => ∃ F args L0, Same F H /\ Owns W F H args vs L0 /\ L0.Nodup /\ (∀ a ∈ L0, F a = none) /\ args.length = n /\ φ args b ≠ .no /\
  (∀ d bd, φ args b = .ok d bd -> ∀ F' H' v M Mb, Post F H L0 F' H' -> Own W F' H' d v M -> bOwn W F' H' vs b bd Mb -> (M ++ Mb).Nodup -> (∀ a ∈ M ++ Mb, F' a = none /\ (a ∈ L0 \/ H a = none)) -> Q v H') /\
  (∀ x bd, φ args b = .exn x bd -> ∀ F' H' C dd Mb, Post F H L0 F' H' -> IsExn W F' x C dd -> bOwn W F' H' vs b bd Mb -> Mb.Nodup -> (∀ a ∈ Mb, F' a = none /\ (a ∈ L0 \/ H a = none)) -> E C dd H')
theorem spR_len {n : Nat} {φ : List D -> Option Nat -> Rz} {b : Option Nat} : ∀ vs H Q E, spR W n φ b vs H Q E -> vs.length = n := by
  rintro vs H Q E ⟨F, args, L0, _, hS, _, _, hl, _⟩
  rw [<- hS.length, hl]
theorem Post.ext {F H F' H' : Hp} (p : Post F H [] F' H') : Ext F H F' H' := ⟨p.f, p.s, fun a o h => p.h a o (by simp) h, fun a o h => (p.n a o h).elim .inl fun z => z.elim .inr fun q => nomatch q⟩
def Rz.toF : Rz -> Option (Kd × D)
  | .ok d _ => some (.fr, d)
  | _ => none
def Rz.toV : Rz -> Option (Kd × D)
  | .ok d _ => some (if isFlat d = true then (.fr, d) else (.vw, fz d))
  | _ => none
theorem Rz.toF_ok {r : Rz} {k : Kd} {d : D} (h : r.toF = some (k, d)) : k = .fr /\ ∃ b, r = .ok d b := by cases r <;> cases h; exact ⟨rfl, _, rfl⟩
theorem Rz.toV_ok {r : Rz} {k : Kd} {d : D} (h : r.toV = some (k, d)) : ∃ d0 b, r = .ok d0 b /\ ((isFlat d0 = true /\ k = .fr /\ d = d0) \/ (k = .vw /\ d = fz d0)) := by
  cases r with
  | exn => cases h
  | no => cases h
  | ok d0 b =>
    have e : some (if isFlat d0 = true then (Kd.fr, d0) else (.vw, fz d0)) = some (k, d) := h
    have e := Option.some.inj e
    split at e
    · cases e; exact ⟨_, _, rfl, .inl ⟨by assumption, rfl, rfl⟩⟩
    · cases e; exact ⟨_, _, rfl, .inr ⟨rfl, rfl⟩⟩
theorem callF {n : Nat} {φ : List D -> Option Nat -> Rz} {F H : Hp} {vs : List V} {args : List D} {Q : VK} {E : XK} {b : Option D} (s : Same F H) (h : Shrs W F args vs) (hl : args.length = n) (hφ : φ args none = .ok d b)
    (q : ∀ v F' H', Ext F H F' H' -> rO W d F' H' H v -> Q v H') : spR W n φ none vs H Q E := by
  refine ⟨F, args, [], s, h.owns, .nil, ?_, hl, ?_, fun d' bd e F' H' v M Mb p o ob nd k => ?_, fun x bd e => ?_⟩
  · exact fun a m => nomatch m
  · rw [hφ]; exact fun z => nomatch z
  rotate_left
  · rw [hφ] at e; cases e
  rw [hφ] at e; cases e
  have ob : Mb = [] := ob
  subst ob
  rw [List.append_nil] at nd k
  exact q v F' H' p.ext ⟨M, o, nd, fun a m => ⟨(k a m).2.elim (fun z => nomatch z) id, (k a m).1⟩⟩
theorem callV {n : Nat} {φ : List D -> Option Nat -> Rz} {F H : Hp} {vs : List V} {args : List D} {Q : VK} {E : XK} {b : Option D} (s : Same F H) (h : Shrs W H args vs) (hl : args.length = n) (hφ : φ args none = .ok d b)
    (q : ∀ v H', Ext F H F H' -> Shr W H' (fz d) v -> Q v H') : spR W n φ none vs H Q E :=
  callF (Same.refl H) h hl hφ fun v F' H' x ⟨L, o, _, _⟩ => q v H' ⟨Same.refl _, s.trans (x.f.trans x.s), x.h, fun _ _ z => .inl z⟩ (o.view x.s fun _ _ _ z => z)
def xCall (φ : List D -> Option Nat -> Rz) (n : Nat) (as : XA W) (dds : List D) (dvs : List V) (hd : ∀ F, Shrs W F dds dvs) : XP W where
  t := tCall (spR W n φ none) dvs E0 as.t
  ev env := match as.evF env with
    | some ds => if (ds ++ dds).length = n then (φ (ds ++ dds) none).toF else none
    | none => match as.evV env with
      | some ds => if (ds ++ dds).length = n then (φ (ds ++ dds) none).toV else none
      | none => none
  snd := fun {env k d} e => by
    match e1 : as.evF env, e with
    | some ds, e =>
      dsimp only at e
      split at e
      · rename_i hl
        obtain ⟨rfl, b, h⟩ := Rz.toF_ok e
        exact fun e' F σ H L Q r q => as.sF e1 e' F σ H L _ r fun vs F1 H1 x1 y1 => callF x1.s (y1.append (hd F1)) hl h fun v F2 H2 x2 y2 => q v F2 H2 (x1.trans x2) (rO_back x1.h y2)
      · cases e
    | none, e =>
      match e2 : as.evV env, e with
      | some ds, e =>
        dsimp only at e
        split at e
        · rename_i hl
          obtain ⟨d0, b, h, hk⟩ := Rz.toV_ok e
          refine fun e' F σ H L Q r q => as.sV e2 e' F σ H L _ r fun vs F1 H1 x1 y1 => callV x1.s (Shrs.append y1 (hd H1)) hl h fun v H2 x2 y2 => q v F1 H2 (x1.trans x2) ?_
          rcases hk with ⟨hf, rfl, rfl⟩ | ⟨rfl, rfl⟩
          · rw [fz_isSh (isSh_flat hf)] at y2
            exact rO_sh (y2.flat hf)
          · exact y2
        · cases e
structure XG {T : Tbl} (W : Wd T) where
  t : TG
  ev : List Nat -> D -> Py.Env -> Option Py.Env
  own : List Nat
  snd : ∀ {P d env env'}, ev P d env = some env' -> AG W P t d env (· = env')
  mono : ∀ {v : V} {σ : St} {H : Hp} {Q Q' : St -> Hp -> Prop}, (∀ σ H, Q σ H -> Q' σ H) -> t v σ H Q -> t v σ H Q'
  gw : ∀ {vs : List Nat}, (∀ i ∈ own, i ∈ vs) -> GW t vs
structure XGs {T : Tbl} (W : Wd T) where
  t : TGs
  ev : List Nat -> List D -> Py.Env -> Option Py.Env
  own : List Nat
  snd : ∀ {P d env env'}, ev P d env = some env' -> AGs W P t d env (· = env')
  mono : ∀ {v : List V} {σ : St} {H : Hp} {Q Q' : St -> Hp -> Prop}, (∀ σ H, Q σ H -> Q' σ H) -> t v σ H Q -> t v σ H Q'
  gw : ∀ {vs : List Nat}, (∀ i ∈ own, i ∈ vs) -> GWs t vs
def setS (P : List Nat) (i : Nat) (d : D) (env : Py.Env) : Option Py.Env := if i < env.length /\ i ∉ P then some (env.set i (some d)) else none
def xgN {T : Tbl} (W : Wd T) (i : Nat) : XG W where
  t := gName i
  ev P d env := setS P i d env
  own := [i]
  snd := fun {P d env env'} e => by
    obtain ⟨⟨h1, h2⟩, rfl⟩ := ite_some e
    exact ag_name (List.getElem?_eq_getElem h1) h2 rfl
  mono := fun h q => h _ _ q
  gw := fun h => gw_name (h i (List.mem_cons_self ..))
def xgsNil {T : Tbl} (W : Wd T) : XGs W where
  t := gNil
  ev P ds env := match ds with
    | [] => some env
    | _ :: _ => none
  own := []
  snd := fun {P ds env env'} e => by
    cases ds with
    | nil => cases e; exact ags_nil rfl
    | cons => cases e
  mono := fun h q => ⟨q.1, h _ _ q.2⟩
  gw := fun h => gws_nil
def xgsCons (g : XG W) (gs : XGs W) : XGs W where
  t := gCons g.t gs.t
  ev P ds env := match ds with
    | [] => none
    | d :: ds => (g.ev P d env).bind fun env => gs.ev P ds env
  own := g.own ++ gs.own
  snd := fun {P ds env env'} e => by
    cases ds with
    | nil => cases e
    | cons d ds =>
      obtain ⟨env1, e1, e2⟩ := Option.bind_eq_some_iff.mp e
      refine ags_cons fun e0 F σ H L v Q hP r s c => g.snd e1 e0 F σ H L v Q hP r s fun env2 σ2 L2 h r2 => ?_
      subst h
      exact c _ σ2 L2 (gs.snd e2) r2
  mono := fun h ⟨v, r, e, q⟩ => ⟨v, r, e, g.mono (fun _ _ q => gs.mono h q) q⟩
  gw := fun {vs} h v σ H Q ⟨x, r, e, q⟩ => ⟨x, r, e, g.mono (fun σ2 H2 ⟨w, q2⟩ => gs.mono (fun σ3 H3 ⟨w3, q3⟩ => ⟨w3.trans w, q3⟩) (gs.gw (fun i m => h i (List.mem_append_right _ m)) r σ2 H2 Q q2)) (g.gw (fun i m => h i (List.mem_append_left _ m)) x σ H _ q)⟩
def xgT (n : Nat) (gs : XGs W) : XG W where
  t := gTup W.K n gs.t
  ev P d env := match d with
    | .tup ds => if ds.length = n then gs.ev P ds env else none
    | _ => none
  own := gs.own
  snd := fun {P d env env'} e => by
    cases d <;> first | (cases e; done) | skip
    dsimp only at e
    split at e
    · exact ag_tup (by assumption) (gs.snd e)
    · cases e
  mono := fun h ⟨a, xs, e1, e2, e3, q⟩ => ⟨a, xs, e1, e2, e3, gs.mono h q⟩
  gw := fun h => gw_tup (gs.gw h)
structure XI {T : Tbl} (W : Wd T) where
  t : TI
  evF : Py.Env -> Option (List D)
  evP : Py.Env -> Option (List D)
  sF : ∀ {env ds}, evF env = some ds -> AIt W t env ds
  sP : ∀ {env ds}, evP env = some ds -> AIp W t env ds
theorem seq_sql {F0 : Hp} {a : Addr} {ds : List D} {vs : List V} (h : SqL W.K F0 a vs) (hs : Shrs W F0 ds vs) : Seq W (Itl W.K a) ds F0 where
  go := fun i d F H s1 s2 hd => by
    obtain ⟨v, hv, sv⟩ := hs.get hd
    refine ⟨⟨vs, v, (s1.trans s2).seq h, hv⟩, fun x H' y => ?_⟩
    obtain ⟨rfl, y⟩ := y
    have := y vs ((s1.trans s2).seq h)
    rw [hv] at this; cases this
    exact ⟨F, .refl s2, sv.mono s1⟩
  stop := fun F H s1 s2 => ⟨vs, (s1.trans s2).seq h, by rw [hs.length]; exact Nat.le_refl _⟩
theorem seqP_sql {F0 H0 : Hp} {a : Addr} {ds : List D} {vs : List V} (h : SqL W.K H0 a vs) (hs : Shrs W F0 ds vs) : SeqP W (Itl W.K a) ds F0 H0 where
  go := fun i d F H s1 s0 s2 hd => by
    obtain ⟨v, hv, sv⟩ := hs.get hd
    refine ⟨⟨vs, v, s0.seq h, hv⟩, fun x H' y => ?_⟩
    obtain ⟨rfl, y⟩ := y
    have := y vs (s0.seq h)
    rw [hv] at this; cases this
    exact ⟨F, .refl s2, sv.mono s1⟩
  stop := fun F H s1 s0 s2 => ⟨vs, s0.seq h, by rw [hs.length]; exact Nat.le_refl _⟩
theorem sameT {H H' : Hp} (e : Same H H') {a : Addr} {xs : List V} (h : SqT W.K H a xs) : SqT W.K H' a xs := by
  rcases h with (h | ⟨o, h⟩) | h
  · exact .inl (.inl (e _ _ h))
  · exact .inl (.inr ⟨o, e _ _ h⟩)
  · exact .inr h
theorem seqP_sqt {F0 H0 : Hp} {a : Addr} {ds : List D} {vs : List V} (h : SqT W.K H0 a vs) (hs : Shrs W F0 ds vs) : SeqP W (Itt W.K a) ds F0 H0 where
  go := fun i d F H s1 s0 s2 hd => by
    obtain ⟨v, hv, sv⟩ := hs.get hd
    refine ⟨⟨vs, v, sameT s0 h, hv⟩, fun x H' y => ?_⟩
    obtain ⟨rfl, y⟩ := y
    have := y vs (sameT s0 h)
    rw [hv] at this; cases this
    exact ⟨F, .refl s2, sv.mono s1⟩
  stop := fun F H s1 s0 s2 => ⟨vs, sameT s0 h, by rw [hs.length]; exact Nat.le_refl _⟩
def seqF : D -> Option (List D)
  | .lst xs => some xs
  | .tup xs => some xs
  | .scr ns => some (ns.map .int)
  | .len xs => some xs
  | _ => none
def xiSeq (a : XP W) : XI W where
  t := iSeqU W.K a.t
  evF env := (a.evF env).bind seqF
  evP env := (a.evK env).bind fun d => (seqOf d).map (·.2)
  sF := fun {env ds} e => by
    obtain ⟨d, e1, e⟩ := Option.bind_eq_some_iff.mp e
    intro e' F σ H L R r q
    cases d <;> first | (cases e; done) | skip
    · cases e
      refine .inl (a.sF e1 e' F σ H L _ r fun v F1 H1 x1 y1 => ?_)
      cases y1 with
      | scr h => exact ⟨_, rfl, ⟨_, x1.s.seq h⟩, q _ F1 H1 x1 (seq_sql h (shrs_ints _))⟩
    · cases e; exact .inr (ait_tup (a.sF e1) e' F σ H L R r q)
    · cases e; exact .inl (ait_list (a.sF e1) e' F σ H L R r q)
    · cases e
      refine .inl (a.sF e1 e' F σ H L _ r fun v F1 H1 x1 y1 => ?_)
      cases y1 with
      | len h hs => exact ⟨_, rfl, ⟨_, .inl (.inr ⟨_, x1.s _ _ h⟩)⟩, q _ F1 H1 x1 (seq_sql (.inl (.inr ⟨_, h⟩)) hs)⟩
  sP := fun {env ds} e => by
    obtain ⟨d, e1, e⟩ := Option.bind_eq_some_iff.mp e
    obtain ⟨⟨b, xs⟩, e2, rfl⟩ := Option.map_eq_some_iff.mp e
    intro e' F σ H L R r q
    cases b with
    | true =>
      refine .inr (a.sK e1 e' F σ H L _ r fun v F1 H1 x1 ⟨M, o⟩ => ?_)
      obtain ⟨a, vs, rfl, sh, sq⟩ := seqOf_ok x1.s o e2
      exact ⟨a, rfl, ⟨vs, sq⟩, q _ F1 H1 x1 (seqP_sqt sq sh)⟩
    | false =>
      refine .inl (a.sK e1 e' F σ H L _ r fun v F1 H1 x1 ⟨M, o⟩ => ?_)
      obtain ⟨a, vs, rfl, sh, sq⟩ := seqOf_ok x1.s o e2
      exact ⟨a, rfl, ⟨vs, sq⟩, q _ F1 H1 x1 (seqP_sql sq sh)⟩
def guardB {α : Type} (b : Bool) (x : Option α) : Option α := match b with
  | true => x
  | false => none
theorem guardB_some {α : Type} {b : Bool} {x : Option α} {y : α} (h : guardB b x = some y) : b = true /\ x = some y := by
  cases b with
  | true => exact ⟨rfl, h⟩
  | false => cases h
def rngOk (i : Int) : Bool := Nat.ble i.natAbs 1000000000000000000
theorem rngOk_ok {i : Int} (h : rngOk i = true) : -4611686018427387904 <= i /\ i < 4611686018427387904 := by
  have h : i.natAbs <= 1000000000000000000 := Nat.le_of_ble_eq_true h
  omega
def rng1D : List D -> Option (List D)
  | [.int n] => guardB (rngOk n) (some (rangeD 0 n.toNat))
  | _ => none
theorem rng1_ok {as : XA W} {env : Py.Env} {ds : List D} (e : (as.evV env).bind rng1D = some ds) : AIt W (iRng1 as.t) env ds := by
  obtain ⟨xs, e1, e⟩ := Option.bind_eq_some_iff.mp e
  unfold rng1D at e
  split at e
  · obtain ⟨h, e⟩ := guardB_some e
    cases e
    exact ait_range (as.sV e1) (rngOk_ok h)
  · cases e
def xiR1 (as : XA W) : XI W := ⟨iRng1 as.t, fun env => (as.evV env).bind rng1D, fun env => (as.evV env).bind rng1D, rng1_ok, fun e => (rng1_ok e).p⟩
def xtYes {T : Tbl} (W : Wd T) : XT W := ⟨tYes, fun _ => some true, fun e => by cases e; exact at_yes⟩
def lc1 (g : XG W) (c : XT W) (x : XP W) (env : Py.Env) (d : D) : Option (List D) := (g.ev [] d env).bind fun e2 => (c.ev e2).bind fun b => if b = true then (x.evO e2).map fun y => [y] else some []
def lcL (f : D -> Option (List D)) : List D -> Option (List D)
  | [] => some []
  | d :: ds => (f d).bind fun y => (lcL f ds).map (y ++ ·)
theorem lcL_take {f : D -> Option (List D)} : ∀ {ds ys : List D}, lcL f ds = some ys -> ∃ rs : Nat -> List D, rs 0 = [] /\ rs ds.length = ys /\ (∀ (i : Nat) (d : D), ds[i]? = some d -> ∃ y, f d = some y /\ rs (i + 1) = rs i ++ y)
  | [], _, h => by cases h; exact ⟨fun _ => [], rfl, rfl, fun i d h => by simp at h⟩
  | d :: ds, ys, h => by
    obtain ⟨y, e1, h⟩ := Option.bind_eq_some_iff.mp h
    obtain ⟨zs, e2, rfl⟩ := Option.map_eq_some_iff.mp h
    obtain ⟨rs, r0, r1, r2⟩ := lcL_take e2
    refine ⟨fun i => match i with | 0 => [] | i + 1 => y ++ rs i, rfl, by rw [List.length_cons, <- r1], fun i d' hd => ?_⟩
    cases i with
    | zero =>
      simp at hd; subst hd
      exact ⟨y, e1, by simp [r0]⟩
    | succ i =>
      obtain ⟨z, h1, h2⟩ := r2 i d' (by simpa using hd)
      exact ⟨z, h1, by simp [h2]⟩
theorem lcL_pre {f : D -> Option (List D)} : ∀ {ds : List D} {rs : Nat -> List D}, (∀ d y, f d = some y -> y.length <= 1) -> rs 0 = [] -> (∀ (i : Nat) (d : D), ds[i]? = some d -> ∃ y, f d = some y /\ rs (i + 1) = rs i ++ y) -> ∀ i, i <= ds.length -> (rs i).length <= i
  | ds, rs, hf, r0, r2, 0, _ => by rw [r0]; exact Nat.le_refl _
  | ds, rs, hf, r0, r2, i + 1, h => by
    have ih := lcL_pre hf r0 r2 i (by omega)
    obtain ⟨y, e1, e2⟩ := r2 i ds[i] (List.getElem?_eq_getElem (by omega))
    have := hf _ _ e1
    rw [e2, List.length_append]
    omega
def xLc (it : XI W) (g : XG W) (c : XT W) (x : XP W) : XP W where
  t := tLc it.t g.t c.t x.t g.own
  ev env := (it.evP env).bind fun ds => if ds.length < 1000000 then (lcL (lc1 g c x (wipeE env g.own)) ds).map fun ys => (.fr, .olst ys) else none
  snd := fun {env k d} e => by
    obtain ⟨ds, e1, e⟩ := Option.bind_eq_some_iff.mp e
    split at e
    · rename_i hl
      obtain ⟨ys, e2, e⟩ := Option.map_eq_some_iff.mp e
      cases e
      obtain ⟨rs, r0, r1, r2⟩ := lcL_take e2
      have h1 : ∀ d y, lc1 g c x (wipeE env g.own) d = some y -> y.length <= 1 := fun d y h => by
        obtain ⟨e2, _, h⟩ := Option.bind_eq_some_iff.mp h
        obtain ⟨b, _, h⟩ := Option.bind_eq_some_iff.mp h
        split at h
        · obtain ⟨z, _, rfl⟩ := Option.map_eq_some_iff.mp h; simp
        · cases h; simp
      rw [<- r1]
      refine ae_lc (it.sP e1) (g.gw fun _ m => m) rs r0 (fun i d hd => ?_) fun i hi => ?_
      · obtain ⟨y, h, hr⟩ := r2 i d hd
        obtain ⟨env2, g1, h⟩ := Option.bind_eq_some_iff.mp h
        obtain ⟨b, c1, h⟩ := Option.bind_eq_some_iff.mp h
        intro e0 F σ H L v Q hP r s q
        refine g.snd g1 e0 F σ H L v Q hP r s fun env3 σ2 L2 z r3 => ?_
        subst z
        refine q _ σ2 L2 ⟨b, c.snd c1, fun hb => ?_, fun hb => ?_⟩ r3
        · subst hb
          obtain ⟨z, h8, rfl⟩ := Option.map_eq_some_iff.mp h
          exact ⟨z, x.sO h8, hr⟩
        · subst hb
          cases h
          rw [hr, List.append_nil]
      · have := lcL_pre h1 r0 r2 i hi
        omega
    · cases e
end
end Py
namespace Py
open PySem L2
section
variable {T : Tbl} {W : Wd T} {env : Py.Env} {d d0 d1 d2 : D} {P : List Nat} {E : WX} {A : AEnds}
theorem AS.weaken {t : TS} {A' : AEnds} (h : AS W P E t env A') (nx : ∀ e, A'.nx e -> A.nx e) (rt : ∀ d e, A'.rt d e -> A.rt d e) (bk : ∀ e, A'.bk e -> A.bk e) (ct : ∀ e, A'.ct e -> A.ct e) (ex : ∀ x e, A'.ex x e -> A.ex x e) : AS W P E t env A :=
  fun e F σ H L Dn hP r s => h e F σ H L Dn hP r ⟨fun _ _ _ _ _ a => s.nx _ _ _ _ _ (nx _ a), fun _ _ _ _ _ _ _ _ a => s.rt _ _ _ _ _ _ _ _ (rt _ _ a), fun _ _ _ _ _ a => s.bk _ _ _ _ _ (bk _ a), fun _ _ _ _ _ a => s.ct _ _ _ _ _ (ct _ a), fun _ _ _ _ _ _ _ _ a => s.ex _ _ _ _ _ _ _ _ (ex _ _ a)⟩
inductive RM where
  | ok (d : D) (env : Py.Env) | exn (x : Exn) (env : Py.Env) | no
def AMr {T : Tbl} (W : Wd T) (P : List Nat) (E : WX) (t : TE) (env : Py.Env) (r : RM) : Prop := r ≠ .no ->
  ∀ (e : Ent) (F : Hp) (σ : St) (H : Hp) (L : List Addr) (Q : VK), P = e.pins.map (·.1) -> Rel W e env F σ H L ->
    (∀ d env' v F' H' L' M, r = .ok d env' -> Rel W e env' F' σ H' L' -> Own W F' H' d v M -> (M ++ L').Nodup -> (∀ a ∈ M, F' a = none /\ (a ∈ e.L0 \/ e.H0 a = none)) -> Q v H') ->
    (∀ x env' F' H' L' C dd, r = .exn x env' -> Rel W e env' F' σ H' L' -> IsExn W F' x C dd -> E C dd σ H') -> t σ H Q
structure XM {T : Tbl} (W : Wd T) where
  t : WX -> TE
  ev : List Nat -> Py.Env -> RM
  snd : ∀ P E env, AMr W P E (t E) env (ev P env)
def RM.of (o : Option D) (env : Py.Env) : RM := match o with
  | some d => .ok d env
  | none => .no
theorem RM.of_ok {o : Option D} {env : Py.Env} (h : RM.of o env ≠ .no) : ∃ d, o = some d /\ RM.of o env = .ok d env := by
  cases o with
  | none => exact absurd rfl h
  | some d => exact ⟨d, rfl, rfl⟩
def xmP (p : XP W) : XM W where
  t _ := p.t
  ev _ env := RM.of (p.evO env) env
  snd := fun P E env hn e F σ H L Q hP r c _ => by
    obtain ⟨d, e1, e2⟩ := RM.of_ok hn
    exact p.sO e1 e F σ H L Q r fun v F' H' x ⟨M, o, nd, kk⟩ => c d env v F' H' L M e2 (r.ext x) o (nodup_new (H := H) r.nd nd r.slots.lives fun a m => (kk a m).1) fun a m => ⟨(kk a m).2, r.h0 (kk a m).1⟩
theorem Rel.freeze {e : Ent} {F H : Hp} {σ : St} {L : List Addr} {i : Nat} (r : Rel W e env F σ H L) (h : getS env i = some d) :
    ∃ v F' L', σ[i]? = some (some v) /\ Rel W e (env.set i (some (fz d))) F' σ H L' /\ Shr W F' (fz d) v := by
  obtain ⟨v, Li, Lr, e1, o, sl, nd, mem⟩ := r.slots.take r.nd (getS_some h)
  obtain ⟨F', s1, s2, nw, sh⟩ := Py.freeze r.sF o fun a ha => r.dj a ((mem a).mp (.inl ha))
  rw [List.nodup_append] at nd
  have hi : i < env.length := (List.getElem?_eq_some_iff.mp (getS_some h)).1
  have sl' := sl.frame (F' := F') (H' := H) s1 fun a _ o q => q
  obtain ⟨L', t1, t2, t3⟩ := sl'.put (i := i) (v := v) (Ld := []) (.sh sh) (by simpa using nd.2.1) (by simpa using hi)
  rw [List.set_set] at t1
  have hσ : σ.set i (some v) = σ := by
    apply List.ext_getElem?
    intro k
    by_cases hk : i = k
    · subst hk
      obtain ⟨hlt, _⟩ := List.getElem?_eq_some_iff.mp e1
      rw [List.getElem?_set_self hlt, e1]
    · rw [List.getElem?_set_ne hk]
  rw [hσ] at t1
  have inr : ∀ a ∈ L', a ∈ Lr := fun a ha => (t3 a ha).elim (fun z => nomatch z) id
  refine ⟨v, F', L', e1, ⟨s2, t1, t2, fun a ha => ?_, r.s0.trans s1, fun a o q => ?_, r.fr, fun a ha => r.ln a ((mem a).mp (.inr (inr a ha))), r.pin⟩, sh⟩
  · cases q : F' a with
    | none => rfl
    | some u =>
      rcases nw a u q with z | z
      · rw [r.dj a ((mem a).mp (.inr (inr a ha)))] at z; cases z
      · exact absurd rfl (nd.2.2 a z a (inr a ha))
  · rcases nw a o q with z | z
    · exact r.nw a o z
    · exact .inr ((r.ln a ((mem a).mp (.inl z))).elim .inr .inl)
def frzS (env : Py.Env) (i : Nat) : Py.Env := match getS env i with
  | some d => env.set i (some (fz d))
  | none => env
theorem Rel.frz1 {e : Ent} {F H : Hp} {σ : St} {L : List Addr} (r : Rel W e env F σ H L) (i : Nat) : ∃ F' L', Rel W e (frzS env i) F' σ H L' := by
  unfold frzS
  cases h : getS env i with
  | none => exact ⟨F, L, r⟩
  | some d =>
    obtain ⟨_, F', L', _, r', _⟩ := r.freeze h
    exact ⟨F', L', r'⟩
theorem Rel.frzs {e : Ent} {H : Hp} {σ : St} : ∀ (is : List Nat) (env : Py.Env) (F : Hp) (L : List Addr), Rel W e env F σ H L -> ∃ F' L', Rel W e (is.foldl frzS env) F' σ H L'
  | [], _, _, _, r => ⟨_, _, r⟩
  | i :: is, env, F, L, r => by
    obtain ⟨F', L', r'⟩ := r.frz1 i
    exact Rel.frzs is _ F' L' r'
def xmVar {T : Tbl} (W : Wd T) (i : Nat) : XM W where
  t _ := tVar i
  ev _ env := match getS env i with
    | some d => .ok (fz d) (if isSh d = true then env else env.set i (some (fz d)))
    | none => .no
  snd := fun P E env hn e F σ H L Q hP r c _ => by
    match h : getS env i, hn, c with
    | some d, hn, c =>
      by_cases hs : isSh d = true
      · obtain ⟨v, M, e1, o, _⟩ := slot_get r (getS_some h)
        have sh := o.shr hs
        refine ⟨v, e1, c (fz d) env v F H L [] (by dsimp only; rw [if_pos hs]) r (by rw [fz_isSh hs]; exact .sh sh) (by simpa using r.nd) fun a m => nomatch m⟩
      · obtain ⟨v, F', L', e1, r', sh⟩ := r.freeze h
        exact ⟨v, e1, c (fz d) _ v F' H L' [] (by dsimp only; rw [if_neg hs]) r' (.sh sh) (by simpa using r'.nd) fun a m => nomatch m⟩
def xmMove {T : Tbl} (W : Wd T) (i : Nat) : XM W where
  t _ := tVar i
  ev _ env := match getS env i with
    | some d => .ok d (env.set i none)
    | none => .no
  snd := fun P E env hn e F σ H L Q hP r c _ => by
    match h : getS env i, hn, c with
    | some d, hn, c =>
      obtain ⟨v, Li, Lr, e1, o, sl, nd, mem⟩ := r.slots.take r.nd (getS_some h)
      exact ⟨v, e1, c d _ v F H Lr Li rfl ⟨r.sF, sl, (List.nodup_append.mp nd).2.1, fun a ha => r.dj a ((mem a).mp (.inr ha)), r.s0, r.nw, r.fr, fun a ha => r.ln a ((mem a).mp (.inr ha)), r.pin⟩ o nd fun a ha => ⟨r.dj a ((mem a).mp (.inl ha)), r.ln a ((mem a).mp (.inl ha))⟩⟩
structure XPl {T : Tbl} (W : Wd T) where
  t : TE
  root : Nat
  ev : Py.Env -> Option (List Pst × D)
  at_ : ∀ {env st n}, ev env = some (st, n) -> ∃ d0, env[root]? = some (some d0) /\ d0.at st = some n
  loc : ∀ {env st n}, ev env = some (st, n) -> ALoc W t env root st
def plVar {T : Tbl} (W : Wd T) (i : Nat) : XPl W where
  t := tVar i
  root := i
  ev env := (getS env i).map fun d => ([], d)
  at_ := fun {env st n} e => by
    obtain ⟨d, e1, e2⟩ := Option.map_eq_some_iff.mp e
    cases e2
    exact ⟨_, getS_some e1, rfl⟩
  loc := fun {env st n} e => by
    obtain ⟨d, e1, e2⟩ := Option.map_eq_some_iff.mp e
    cases e2
    exact loc_var
def plFld (p : XPl W) (f : String) : XPl W where
  t := tFld W.K p.t (so f)
  root := p.root
  ev env := (p.ev env).bind fun q => match q.2 with
    | .oins c ns xs => if T.fOk c f = true then ((pos f ns).bind fun j => xs[j]?).map fun x => (q.1 ++ [.fld f], x) else none
    | _ => none
  at_ := fun {env st n} e => by
    obtain ⟨⟨st1, n1⟩, e1, e⟩ := Option.bind_eq_some_iff.mp e
    cases n1 <;> first | (cases e; done) | skip
    dsimp only at e
    split at e
    · obtain ⟨x, e2, e3⟩ := Option.map_eq_some_iff.mp e
      cases e3
      obtain ⟨d0, h1, h2⟩ := p.at_ e1
      exact ⟨d0, h1, D.at_snoc h2 e2⟩
    · cases e
  loc := fun {env st n} e => by
    obtain ⟨⟨st1, n1⟩, e1, e⟩ := Option.bind_eq_some_iff.mp e
    cases n1 <;> first | (cases e; done) | skip
    dsimp only at e
    split at e
    · obtain ⟨x, e2, e3⟩ := Option.map_eq_some_iff.mp e
      cases e3
      obtain ⟨d0, h1, h2⟩ := p.at_ e1
      obtain ⟨j, e4, _⟩ := Option.bind_eq_some_iff.mp e2
      exact loc_fld (p.loc e1) h1 h2 (by assumption) e4
    · cases e
def plIx (p : XPl W) (k : XP W) : XPl W where
  t := tOp (rIxU W.K) p.t k.t
  root := p.root
  ev env := (p.ev env).bind fun q => (k.evV env).bind fun y => match q.2, y with
    | .olst xs, .int i => (ixN xs.length i).bind fun j => (xs[j]?).map fun x => (q.1 ++ [.idx j], x)
    | _, _ => none
  at_ := fun {env st n} e => by
    obtain ⟨⟨st1, n1⟩, e1, e⟩ := Option.bind_eq_some_iff.mp e
    obtain ⟨y, e2, e⟩ := Option.bind_eq_some_iff.mp e
    cases n1 <;> first | (cases e; done) | skip
    cases y <;> first | (cases e; done) | skip
    obtain ⟨j, e3, e9⟩ := Option.bind_eq_some_iff.mp e
    obtain ⟨x, e4, e5⟩ := Option.map_eq_some_iff.mp e9
    cases e5
    obtain ⟨d0, h1, h2⟩ := p.at_ e1
    exact ⟨d0, h1, D.at_snoc h2 e4⟩
  loc := fun {env st n} e => by
    obtain ⟨⟨st1, n1⟩, e1, e⟩ := Option.bind_eq_some_iff.mp e
    obtain ⟨y, e2, e⟩ := Option.bind_eq_some_iff.mp e
    cases n1 <;> first | (cases e; done) | skip
    cases y <;> first | (cases e; done) | skip
    obtain ⟨j, e3, e9⟩ := Option.bind_eq_some_iff.mp e
    obtain ⟨x, e4, e5⟩ := Option.map_eq_some_iff.mp e9
    cases e5
    obtain ⟨d0, h1, h2⟩ := p.at_ e1
    exact loc_idx (p.loc e1) h1 h2 (k.sV e2) e3
def rOs {T : Tbl} (W : Wd T) (ds : List D) : ResL := fun F H H0 vs => ∃ L, Owns W F H ds vs L /\ L.Nodup /\ ∀ a ∈ L, H0 a = none /\ F a = none
structure XO {T : Tbl} (W : Wd T) where
  t : TA
  ev : Py.Env -> Option (List D)
  snd : ∀ {env ds}, ev env = some ds -> AA W t env (rOs W ds)
def xoNil {T : Tbl} (W : Wd T) : XO W where
  t := tNil
  ev _ := some []
  snd := fun e => by cases e; exact fun e F σ H L Q r q => q [] F H (.refl r.sF) ⟨[], .nil, .nil, fun _ m => nomatch m⟩
def xoCons (a : XP W) (as : XO W) : XO W where
  t := tCons a.t as.t
  ev env := (a.evO env).bind fun x => (as.ev env).map (x :: ·)
  snd := fun {env ds} e => by
    obtain ⟨x, e1, e⟩ := Option.bind_eq_some_iff.mp e
    obtain ⟨xs, e2, rfl⟩ := Option.map_eq_some_iff.mp e
    intro e F σ H L Q r q
    refine a.sO e1 e F σ H L _ r fun v F1 H1 x1 ⟨M1, o1, n1, k1⟩ => as.snd e2 e F1 σ H1 L _ (r.ext x1) fun vs F2 H2 x2 ⟨M2, o2, n2, k2⟩ => ?_
    have nn : ∀ a ∈ M1, F2 a = none := fun a ha => by
      obtain ⟨u, hu⟩ := o1.lives a ha
      cases z : F2 a with
      | none => rfl
      | some w =>
        rcases x2.n a w z with y | y
        · rw [(k1 a ha).2] at y; cases y
        · rw [hu] at y; cases y
    refine q _ F2 H2 (x1.trans x2) ⟨M1 ++ M2, .cons (o1.frame x2.f fun a _ o q => x2.h _ _ q) o2, ?_, fun a ha => ?_⟩
    · rw [List.nodup_append]
      refine ⟨n1, n2, fun a ha b hb z => ?_⟩
      subst z
      obtain ⟨u, hu⟩ := o1.lives a ha
      rw [(k2 a hb).1] at hu; cases hu
    · rcases List.mem_append.mp ha with z | z
      · exact ⟨(k1 a z).1, nn a z⟩
      · exact ⟨x1.h.free (k2 a z).1, (k2 a z).2⟩
def Mop {T : Tbl} (W : Wd T) (r : V -> List V -> Hp -> VK -> Prop) (f : D -> List D -> Option (D × D)) : Prop :=
  ∀ {n : D} {ds : List D} {n' d : D}, f n ds = some (n', d) -> ∀ (F H : Hp) (vn : V) (Ln : List Addr) (vs : List V) (Ms : List Addr) (Q : VK), Same F H -> Own W F H n vn Ln -> Owns W F H ds vs Ms -> (Ms ++ Ln).Nodup -> (∀ a ∈ Ms ++ Ln, F a = none) ->
    (∀ F' H' v' Ln' M', Same F F' -> Same F' H' -> (∀ a o, a ∉ Ln -> H a = some o -> H' a = some o) -> (∀ a o, F' a = some o -> F a = some o \/ H a = none) -> Own W F' H' n' vn Ln' -> Own W F' H' d v' M' -> (M' ++ Ln').Nodup ->
      (∀ a ∈ M' ++ Ln', F' a = none /\ (a ∈ Ln \/ a ∈ Ms \/ H a = none)) -> Q v' H') -> r vn vs H Q
theorem am_mop {r : V -> List V -> Hp -> VK -> Prop} {f : D -> List D -> Option (D × D)} (hf : Mop W r f) {e : Ent} {F H : Hp} {σ : St} {L : List Addr} {i : Nat} {st : List Pst} {n n' d d0 : D} {v0 vn : V} {vs : List V} {ds : List D} {Ms : List Addr} {Q : VK}
    (rl : Rel W e env F σ H L) (h0 : env[i]? = some (some d0)) (h1 : d0.at st = some n) (hs : σ[i]? = some (some v0)) (hp : VPath H v0 st vn) (hz : f n ds = some (n', d)) (os : Owns W F H ds vs Ms) (nM : Ms.Nodup) (kM : ∀ a ∈ Ms, a ∉ L /\ F a = none /\ (a ∈ e.L0 \/ e.H0 a = none))
    (c : ∀ v F' H' L' M, Rel W e (env.set i (some (d0.putAt st n'))) F' σ H' L' -> Own W F' H' d v M -> (M ++ L').Nodup -> (∀ a ∈ M, F' a = none /\ (a ∈ e.L0 \/ e.H0 a = none)) -> Q v H') : r vn vs H Q := by
  obtain ⟨v0', vn', Ln, Lr, e1, p2, o, nd, mem, put⟩ := rl.focus h0 h1
  rw [hs] at e1; cases e1
  cases hp.det p2
  rw [List.nodup_append] at nd
  obtain ⟨n1, n2, n3⟩ := nd
  refine hf hz F H vn Ln vs Ms Q rl.sF o os ?_ (fun a ha => ?_) fun F' H' v' Ln' M' s1 s2 fr nw on od nd' k' => ?_
  · rw [List.nodup_append]
    exact ⟨nM, n1, fun a ha b hb z => (kM a ha).1 ((mem a).mp (.inl (z ▸ hb)))⟩
  · rcases List.mem_append.mp ha with z | z
    · exact (kM a z).2.1
    · exact rl.dj a ((mem a).mp (.inl z))
  have org : ∀ a, (a ∈ Ln \/ a ∈ Ms \/ H a = none) -> a ∉ Lr /\ (a ∈ e.L0 \/ e.H0 a = none) := fun a h => by
    rcases h with z | z | z
    · exact ⟨fun y => n3 a z a y rfl, rl.ln a ((mem a).mp (.inl z))⟩
    · exact ⟨fun y => (kM a z).1 ((mem a).mp (.inr y)), (kM a z).2.2⟩
    · refine ⟨fun y => ?_, rl.h0 z⟩
      obtain ⟨o, ho⟩ := rl.slots.lives a ((mem a).mp (.inr y))
      rw [z] at ho; cases ho
  rw [List.nodup_append] at nd'
  obtain ⟨m1, m2, m3⟩ := nd'
  obtain ⟨L', r', inL⟩ := put F' H' n' Ln' s1 s2 fr (fun a o q => (nw a o q).elim .inl fun z => .inr (.inl (.inl z))) on (by
    rw [List.nodup_append]
    exact ⟨m2, n2, fun a ha b hb z => (org a (k' a (List.mem_append_right _ ha)).2).1 (z ▸ hb)⟩) (fun a ha => ⟨(k' a (List.mem_append_right _ ha)).1, .inr (org a (k' a (List.mem_append_right _ ha)).2).2⟩)
  refine c v' F' H' L' M' r' od ?_ fun a ha => ⟨(k' a (List.mem_append_left _ ha)).1, (org a (k' a (List.mem_append_left _ ha)).2).2⟩
  rw [List.nodup_append]
  refine ⟨m1, r'.nd, fun a ha b hb z => ?_⟩
  subst z
  rcases inL a hb with y | y
  · exact m3 a ha a y rfl
  · exact (org a (k' a (List.mem_append_left _ ha)).2).1 y
end
end Py
namespace Py
open PySem L2
section
variable {T : Tbl} {W : Wd T} {env : Py.Env} {d d0 d1 d2 : D} {P : List Nat} {E : WX} {A : AEnds}
theorem Owns.append {F H : Hp} : ∀ {xs ys : List D} {vs ws : List V} {L M : List Addr}, Owns W F H xs vs L -> Owns W F H ys ws M -> Owns W F H (xs ++ ys) (vs ++ ws) (L ++ M)
  | _, _, _, _, _, _, .nil, o => o
  | _, _, _, _, _, M, .cons (L := L1) (M := M1) h t, o => by
    have q := Owns.cons h (t.append o)
    rw [<- List.append_assoc] at q
    exact q
theorem Owns.one {F H : Hp} {x : D} {vs : List V} {L : List Addr} (h : Owns W F H [x] vs L) : ∃ v, vs = [v] /\ Own W F H x v L := by
  cases h with
  | cons a b => cases b; rw [List.append_nil]; exact ⟨_, rfl, a⟩
theorem Owns.two {F H : Hp} {x y : D} {vs : List V} {L : List Addr} (h : Owns W F H [x, y] vs L) : ∃ v w L1 L2, vs = [v, w] /\ Own W F H x v L1 /\ Own W F H y w L2 /\ L = L1 ++ L2 := by
  cases h with
  | cons a b =>
    obtain ⟨w, rfl, c⟩ := b.one
    exact ⟨_, _, _, _, rfl, a, c, rfl⟩
theorem Owns.unsnoc {F H : Hp} {x : D} : ∀ {xs : List D} {vs : List V} {L : List Addr}, Owns W F H (xs ++ [x]) vs L -> ∃ ws w L1 L2, vs = ws ++ [w] /\ L = L1 ++ L2 /\ Owns W F H xs ws L1 /\ Own W F H x w L2
  | [], vs, L, h => by
    obtain ⟨w, rfl, o⟩ := h.one
    exact ⟨[], w, [], L, rfl, rfl, .nil, o⟩
  | y :: xs, vs, L, h => by
    cases h with
    | @cons _ v _ ws L1 M1 a b =>
      obtain ⟨ws', w, L2, L3, rfl, rfl, c, o⟩ := b.unsnoc
      exact ⟨v :: ws', w, L1 ++ L2, L3, rfl, by rw [List.append_assoc], .cons a c, o⟩
theorem own_upd {F H : Hp} {a : Addr} {o : HO} {L : List Addr} {v : V} (h : Own W F H d v L) (n : a ∉ L) : Own W F (upd H a o) d v L := h.frame (Same.refl _) fun b hb u hu => by
  rw [upd_ne (fun z => n (by rw [<- z]; exact hb))]; exact hu
theorem owns_upd {F H : Hp} {a : Addr} {o : HO} {L : List Addr} {ds : List D} {vs : List V} (h : Owns W F H ds vs L) (n : a ∉ L) : Owns W F (upd H a o) ds vs L := h.frame (Same.refl _) fun b hb u hu => by
  rw [upd_ne (fun z => n (by rw [<- z]; exact hb))]; exact hu
theorem same_upd {F H : Hp} {a : Addr} {o : HO} (s : Same F H) (n : F a = none) : Same F (upd H a o) := fun b u hb => by
  rw [upd_ne (fun z => by rw [z, n] at hb; cases hb)]; exact s _ _ hb
theorem mop_list {F H : Hp} {a : Addr} {L : List Addr} {Ms : List Addr} {ys : List D} {ws : List V} {o : HO} {M' L2 : List Addr} {v' : V} {Q : VK} (s : Same F H) (nd : (Ms ++ (a :: L)).Nodup) (kF : ∀ b ∈ Ms ++ (a :: L), F b = none)
    (hl : o = .lst ws) (hs : Owns W F H ys ws L2) (od : Own W F H d v' M') (n2 : (M' ++ L2).Nodup) (sub : ∀ b ∈ M' ++ L2, b ∈ L \/ b ∈ Ms)
    (q : ∀ F' H' v' Ln' M', Same F F' -> Same F' H' -> (∀ b o, b ∉ a :: L -> H b = some o -> H' b = some o) -> (∀ b o, F' b = some o -> F b = some o \/ H b = none) -> Own W F' H' (.olst ys) (.ref a) Ln' -> Own W F' H' d v' M' -> (M' ++ Ln').Nodup ->
      (∀ b ∈ M' ++ Ln', F' b = none /\ (b ∈ a :: L \/ b ∈ Ms \/ H b = none)) -> Q v' H') : Q v' (upd H a o) := by
  subst hl
  rw [List.nodup_append] at nd
  obtain ⟨n3, n4, n5⟩ := nd
  rw [List.nodup_cons] at n4
  have na : ∀ b ∈ M' ++ L2, b ≠ a := fun b hb z => by
    subst z
    rcases sub _ hb with y | y
    · exact n4.1 y
    · exact n5 _ y _ (List.mem_cons_self ..) rfl
  have Fa : F a = none := kF a (List.mem_append_right _ (List.mem_cons_self ..))
  refine q F (upd H a (.lst ws)) v' (a :: L2) M' (Same.refl _) (same_upd s Fa) (fun b u hb hu => ?_) (fun b u hu => .inl hu) (.olst upd_same (owns_upd hs fun z => na a (List.mem_append_right _ z) rfl)) (own_upd od fun z => na a (List.mem_append_left _ z) rfl) ?_ (fun b hb => ?_)
  · rw [upd_ne (fun z => hb (by rw [z]; exact List.mem_cons_self ..))]; exact hu
  · rw [List.nodup_append] at n2 ⊢
    refine ⟨n2.1, List.nodup_cons.mpr ⟨fun z => na a (List.mem_append_right _ z) rfl, n2.2.1⟩, fun b hb c hc => ?_⟩
    rcases List.mem_cons.mp hc with z | z
    · rw [z]; exact na b (List.mem_append_left _ hb)
    · exact n2.2.2 b hb c z
  · rcases List.mem_append.mp hb with z | z
    · have := sub b (List.mem_append_left _ z)
      refine ⟨kF b ?_, ?_⟩
      · rcases this with y | y
        · exact List.mem_append_right _ (List.mem_cons_of_mem _ y)
        · exact List.mem_append_left _ y
      · rcases this with y | y
        · exact .inl (List.mem_cons_of_mem _ y)
        · exact .inr (.inl y)
    · rcases List.mem_cons.mp z with z | z
      · subst z; exact ⟨Fa, .inl (List.mem_cons_self ..)⟩
      · have := sub b (List.mem_append_right _ z)
        refine ⟨kF b ?_, ?_⟩
        · rcases this with y | y
          · exact List.mem_append_right _ (List.mem_cons_of_mem _ y)
          · exact List.mem_append_left _ y
        · rcases this with y | y
          · exact .inl (List.mem_cons_of_mem _ y)
          · exact .inr (.inl y)
theorem nd_swap {L M : List Addr} (h : (M ++ L).Nodup) : (L ++ M).Nodup := by
  rw [List.nodup_append] at h ⊢
  exact ⟨h.2.1, h.1, fun a ha b hb z => h.2.2 b hb a ha z.symm⟩
theorem nd_tail {a : Addr} {L M : List Addr} (h : (M ++ (a :: L)).Nodup) : (M ++ L).Nodup := by
  rw [List.nodup_append] at h ⊢
  exact ⟨h.1, (List.nodup_cons.mp h.2.1).2, fun b hb c hc => h.2.2 b hb c (List.mem_cons_of_mem _ hc)⟩
def appendD : D -> List D -> Option (D × D)
  | .olst xs, [d] => if xs.length < 1000000 then some (.olst (xs ++ [d]), .non) else none
  | _, _ => none
theorem mop_append : Mop W rAppend appendD := by
  intro n ds n' d hf F H vn Ln vs Ms Q s o os nd kF q
  unfold appendD at hf
  split at hf
  · obtain ⟨hz, e⟩ := ite_some hf
    cases e
    obtain ⟨u, rfl, o2⟩ := os.one
    cases o with
    | sh y => cases y
    | @olst a xs vs L ha hs =>
      refine ⟨a, vs, u, rfl, rfl, ha, by rw [<- hs.length]; exact Nat.lt_of_lt_of_le hz (by decide), ?_⟩
      exact mop_list s nd kF rfl (hs.append (.cons o2 .nil)) (.sh .non) (by simpa using nd_swap (nd_tail nd)) (fun b hb => by simpa using hb) q
  · cases hf
def popD : D -> List D -> Option (D × D)
  | .olst xs, [] => (xs.getLast?).map fun x => (.olst xs.dropLast, x)
  | _, _ => none
theorem mop_pop : Mop W rPop popD := by
  intro n ds n' d hf F H vn Ln vs Ms Q s o os nd kF q
  unfold popD at hf
  split at hf
  · rename_i xs
    obtain ⟨x, h1, e⟩ := Option.map_eq_some_iff.mp hf
    injection e with e e'
    subst e e'
    cases os
    cases o with
    | sh y => cases y
    | @olst a _ vs L ha hs =>
      obtain ⟨ini, rfl⟩ := List.getLast?_eq_some_iff.mp h1
      obtain ⟨ws, w, L1, L2, rfl, rfl, o1, o2⟩ := hs.unsnoc
      rw [List.dropLast_concat] at q
      refine ⟨a, ws ++ [w], w, rfl, rfl, ha, by simp, ?_⟩
      rw [List.dropLast_concat]
      have n0 := nd_tail nd
      exact mop_list s nd kF rfl o1 o2 (nd_swap (by simpa using n0)) (fun b hb => .inl (by
        rcases List.mem_append.mp hb with z | z
        · exact List.mem_append_right _ z
        · exact List.mem_append_left _ z)) q
  · cases hf
theorem Shrs.reverse {F : Hp} : ∀ {ds : List D} {vs : List V}, Shrs W F ds vs -> Shrs W F ds.reverse vs.reverse
  | _, _, .nil => .nil
  | _, _, .cons h t => by rw [List.reverse_cons, List.reverse_cons]; exact t.reverse.append (.cons h .nil)
theorem Shrs.take {F : Hp} : ∀ {ds : List D} {vs : List V} (k : Nat), Shrs W F ds vs -> Shrs W F (ds.take k) (vs.take k)
  | _, _, 0, _ => .nil
  | _, _, k + 1, .nil => .nil
  | _, _, k + 1, .cons h t => .cons h (t.take k)
theorem Shrs.drop {F : Hp} : ∀ {ds : List D} {vs : List V} (k : Nat), Shrs W F ds vs -> Shrs W F (ds.drop k) (vs.drop k)
  | _, _, 0, h => h
  | _, _, k + 1, .nil => .nil
  | _, _, k + 1, .cons h t => t.drop k
abbrev rInsert : V -> List V -> Hp -> VK -> Prop := fun x vs H Q => ∃ (l : Addr) (xs : List V) (i : Int) (y : V), x = .ref l /\ vs = [.int i, y] /\ H l = some (.lst xs) /\ xs.length < sizeLine /\ 0 <= i /\ i < 2 ^ 63 /\
    Q .non (upd H l (.lst (xs.take i.toNat ++ [y] ++ xs.drop i.toNat)))
def insertD : D -> List D -> Option (D × D)
  | .olst xs, [.int i, d] => if xs.all isSh = true /\ xs.length < 1000000 /\ 0 <= i /\ i < 1000000 then some (.olst (xs.take i.toNat ++ [d] ++ xs.drop i.toNat), .non) else none
  | _, _ => none
theorem mop_insert : Mop W rInsert insertD := by
  intro n ds n' d hf F H vn Ln vs Ms Q s o os nd kF q
  unfold insertD at hf
  split at hf
  · obtain ⟨⟨hz, h1, h2, h3⟩, e⟩ := ite_some hf
    cases e
    obtain ⟨v1, v2, L1, L2, rfl, o1, o2, rfl⟩ := os.two
    cases o1.shr rfl
    cases o1.shNil rfl
    cases o with
    | sh y => cases y
    | @olst a _ vs L ha hs =>
      have sh := hs.shrs hz
      refine ⟨a, vs, _, _, rfl, rfl, ha, by rw [<- hs.length]; exact Nat.lt_of_lt_of_le h1 (by decide), h2, by omega, ?_⟩
      refine mop_list s nd kF rfl (((sh.take _).owns.append (.cons o2 .nil)).append (sh.drop _).owns) (.sh .non) ?_ (fun b hb => by simpa using Or.inr hb) q
      have := (List.nodup_append.mp nd).1
      simpa using this
  · cases hf
def RM.ofO : Option (D × Py.Env) -> RM
  | some (d, env) => .ok d env
  | none => .no
theorem RM.ofO_ok {o : Option (D × Py.Env)} (h : RM.ofO o ≠ .no) : ∃ d env, o = some (d, env) := by
  match o, h with
  | some (d, env), _ => exact ⟨d, env, rfl⟩
  | none, h => exact absurd rfl h
def xmBM (r : V -> List V -> Hp -> VK -> Prop) (f : D -> List D -> Option (D × D)) (hf : Mop W r f) (hl : ∀ {n ds z}, f n ds = some z -> ∃ xs, n = .olst xs) (p : XPl W) (as : XO W) : XM W where
  t _ := tBM W.K "list" r p.t as.t
  ev _ env := RM.ofO ((p.ev env).bind fun q => (as.ev env).bind fun ds => (f q.2 ds).bind fun z => (getS env p.root).map fun d0 => (z.2, env.set p.root (some (d0.putAt q.1 z.1))))
  snd := fun P E env hn e F σ H L Q hP r c _ => by
    obtain ⟨d, env', h⟩ := RM.ofO_ok hn
    rw [h] at c
    obtain ⟨⟨st, n⟩, e1, h⟩ := Option.bind_eq_some_iff.mp h
    obtain ⟨ds, e2, h⟩ := Option.bind_eq_some_iff.mp h
    obtain ⟨⟨n', d'⟩, e3, h⟩ := Option.bind_eq_some_iff.mp h
    obtain ⟨d0', e4, h⟩ := Option.map_eq_some_iff.mp h
    cases h
    obtain ⟨d0, h0, h1⟩ := p.at_ e1
    rw [getS_some e4] at h0
    cases h0
    obtain ⟨v0, _, _, _, hs, _⟩ := r.focus (getS_some e4) h1
    refine p.loc e1 e F σ H L v0 _ r hs fun v F1 H1 x1 p1 => ?_
    have r1 := r.ext x1
    refine ⟨?_, as.snd e2 e F1 σ H1 L _ r1 fun vs F2 H2 x2 ⟨M2, o2, nd2, k2⟩ => ?_⟩
    · obtain ⟨v0', vn, Ln, Lr, e5, p2, o, _⟩ := r1.focus (getS_some e4) h1
      rw [hs] at e5; cases e5
      cases p1.det p2
      obtain ⟨xs, rfl⟩ := hl e3
      cases o with
      | sh y => cases y
      | olst ha _ => exact .inl ⟨rfl, _, .of ha⟩
    · refine am_mop hf (r1.ext x2) (getS_some e4) h1 hs (p1.mono x2.h) e3 o2 nd2 (fun a ha => ⟨fun z => ?_, (k2 a ha).2, r1.h0 (k2 a ha).1⟩) fun v F' H' L' M r' o nd kk => c _ _ v F' H' L' M rfl r' o nd kk
      obtain ⟨w, hw⟩ := r1.slots.lives a z
      rw [(k2 a ha).1] at hw; cases hw
def xmBM0 (r : V -> List V -> Hp -> VK -> Prop) (f : D -> List D -> Option (D × D)) (hf : Mop W r f) (hl : ∀ {n ds z}, f n ds = some z -> ∃ xs, n = .olst xs) (p : XPl W) : XM W where
  t _ := tBM0 W.K "list" r p.t
  ev := (xmBM r f hf hl p (xoNil W)).ev
  snd := fun P E env hn e F σ H L Q hP rl c cx => (xmBM r f hf hl p (xoNil W)).snd P E env hn e F σ H L Q hP rl c cx
theorem lf_append {n : D} {ds : List D} {z : D × D} (h : appendD n ds = some z) : ∃ xs, n = .olst xs := by unfold appendD at h; split at h <;> first | exact ⟨_, rfl⟩ | cases h
theorem lf_pop {n : D} {ds : List D} {z : D × D} (h : popD n ds = some z) : ∃ xs, n = .olst xs := by unfold popD at h; split at h <;> first | exact ⟨_, rfl⟩ | cases h
theorem lf_insert {n : D} {ds : List D} {z : D × D} (h : insertD n ds = some z) : ∃ xs, n = .olst xs := by unfold insertD at h; split at h <;> first | exact ⟨_, rfl⟩ | cases h
def xmAppend (p : XPl W) (a : XP W) : XM W := xmBM rAppend appendD mop_append lf_append p (xoCons a (xoNil W))
def xmInsert (p : XPl W) (a b : XP W) : XM W := xmBM rInsert insertD mop_insert lf_insert p (xoCons a (xoCons b (xoNil W)))
def xmPop (p : XPl W) : XM W := xmBM0 rPop popD mop_pop lf_pop p
end
end Py
namespace Py
open PySem L2
inductive RS where
  | nx (env : Py.Env) | rt (d : D) (env : Py.Env) | bk (env : Py.Env) | ct (env : Py.Env) | ex (x : Exn) (env : Py.Env) | no
def ends (r : RS) : AEnds where
  nx e := r = .nx e
  rt d e := r = .rt d e
  bk e := r = .bk e
  ct e := r = .ct e
  ex x e := r = .ex x e
section
variable {T : Tbl} {W : Wd T} {env : Py.Env} {d d0 d1 d2 : D} {P : List Nat} {E : WX} {A : AEnds}
structure XS {T : Tbl} (W : Wd T) where
  t : WX -> TS
  ev : List Nat -> Py.Env -> RS
  snd : ∀ P E env, ev P env ≠ .no -> AS W P E (t E) env (ends (ev P env))
def RS.then (r : RS) (f : Py.Env -> RS) : RS := match r with
  | .nx e => f e
  | r => r
def xsSeq (s u : XS W) : XS W where
  t E := tSeq (s.t E) (u.t E)
  ev P env := (s.ev P env).then fun e => u.ev P e
  snd := fun P E env hn => by
    have hs := s.snd P E env
    match h : s.ev P env, hn, hs with
    | .nx e1, hn, hs =>
      refine as_seq ((hs (by simp)).weaken (fun e h2 => ?_) (fun d e h2 => nomatch h2) (fun e h2 => nomatch h2) (fun e h2 => nomatch h2) fun x e h2 => nomatch h2)
      cases h2
      exact u.snd P E e1 hn
    | .rt d e1, hn, hs => exact as_seq ((hs (by simp)).weaken (fun e h2 => nomatch h2) (fun d e h2 => h2) (fun e h2 => nomatch h2) (fun e h2 => nomatch h2) fun x e h2 => nomatch h2)
    | .bk e1, hn, hs => exact as_seq ((hs (by simp)).weaken (fun e h2 => nomatch h2) (fun d e h2 => nomatch h2) (fun e h2 => h2) (fun e h2 => nomatch h2) fun x e h2 => nomatch h2)
    | .ct e1, hn, hs => exact as_seq ((hs (by simp)).weaken (fun e h2 => nomatch h2) (fun d e h2 => nomatch h2) (fun e h2 => nomatch h2) (fun e h2 => h2) fun x e h2 => nomatch h2)
    | .ex x e1, hn, hs => exact as_seq ((hs (by simp)).weaken (fun e h2 => nomatch h2) (fun d e h2 => nomatch h2) (fun e h2 => nomatch h2) (fun e h2 => nomatch h2) fun x e h2 => h2)
    | .no, hn, hs => exact absurd rfl hn
def xsNext {T : Tbl} (W : Wd T) : XS W := ⟨fun _ => tNext, fun _ env => .nx env, fun _ _ _ _ => as_next rfl⟩
def xsNever {T : Tbl} (W : Wd T) : XS W := ⟨fun _ => tNever, fun _ _ => .no, fun _ _ _ h => absurd rfl h⟩
def RM.thenS (r : RM) (f : D -> Py.Env -> RS) : RS := match r with
  | .ok d e => f d e
  | .exn x e => .ex x e
  | .no => .no
theorem AMr.run {t : TE} {r : RM} (h : AMr W P E t env r) (hn : r ≠ .no) {e : Ent} {F H : Hp} {σ : St} {L : List Addr} {Q : VK} {Dn : Ends} (hP : P = e.pins.map (·.1)) (rl : Rel W e env F σ H L) (s : Sat W e E A Dn) (hx : ∀ x e1, r = .exn x e1 -> A.ex x e1)
    (c : ∀ d env' v F' H' L' M, r = .ok d env' -> Rel W e env' F' σ H' L' -> Own W F' H' d v M -> (M ++ L').Nodup -> (∀ a ∈ M, F' a = none /\ (a ∈ e.L0 \/ e.H0 a = none)) -> Q v H') : t σ H Q :=
  h hn e F σ H L Q hP rl c fun x env' F' H' L' C dd hr r' ie => s.ex x env' F' σ H' L' C dd (hx _ _ hr) r' ie
def RS.ofO : Option Py.Env -> RS
  | some e => .nx e
  | none => .no
def xsAsg (i : Nat) (m : XM W) : XS W where
  t E := tAsg (m.t E) (gName i)
  ev P env := (m.ev P env).thenS fun d e => RS.ofO (setS P i d e)
  snd := fun P E env hn e F σ H L Dn hP r s => by
    have hm : m.ev P env ≠ .no := fun z => hn (by rw [z]; rfl)
    refine (m.snd P E env).run hm hP r s (fun x e1 h => by rw [h]; rfl) fun d env' v F' H' L' M h r' o nd kk => ?_
    rw [h] at hn s
    have hn : RS.ofO (setS P i d env') ≠ .no := hn
    cases h2 : setS P i d env' with
    | none => rw [h2] at hn; exact absurd rfl hn
    | some e2 =>
      obtain ⟨⟨h3, h4⟩, rfl⟩ := ite_some h2
      obtain ⟨L2, r2⟩ := r'.set (i := i) o nd kk h3 fun p hm z => h4 (by rw [hP]; exact List.mem_map.mpr ⟨p, hm, z⟩)
      exact s.nx _ _ _ _ _ (show RS.ofO (setS P i d env') = .nx _ by rw [h2]; rfl) r2
theorem Rel.frzTmp {e : Ent} {F H : Hp} {σ : St} {L M : List Addr} {v : V} (r : Rel W e env F σ H L) (o : Own W F H d v M) (nd : (M ++ L).Nodup) (k : ∀ a ∈ M, F a = none /\ (a ∈ e.L0 \/ e.H0 a = none)) :
    ∃ F', Rel W e env F' σ H L /\ Shr W F' (fz d) v /\ Same F F' := by
  obtain ⟨F', s1, s2, nw, sh⟩ := Py.freeze r.sF o fun a ha => (k a ha).1
  refine ⟨F', ⟨s2, r.slots.frame s1 fun a _ o q => q, r.nd, fun a ha => ?_, r.s0.trans s1, fun a o q => ?_, r.fr, r.ln, r.pin⟩, sh, s1⟩
  · cases q : F' a with
    | none => rfl
    | some u =>
      rcases nw a u q with z | z
      · rw [r.dj a ha] at z; cases z
      · exact absurd rfl ((List.nodup_append.mp nd).2.2 a z a ha)
  · rcases nw a o q with z | z
    · exact r.nw a o z
    · exact .inr ((k a z).2.elim .inr .inl)
def xsAsgG (g : XG W) (m : XM W) : XS W where
  t E := tAsg (m.t E) g.t
  ev P env := (m.ev P env).thenS fun d e => RS.ofO (g.ev P (fz d) e)
  snd := fun P E env hn e F σ H L Dn hP r s => by
    have hm : m.ev P env ≠ .no := fun z => hn (by rw [z]; rfl)
    refine (m.snd P E env).run hm hP r s (fun x e1 h => by rw [h]; rfl) fun d env' v F' H' L' M h r' o nd kk => ?_
    rw [h] at hn s
    have hn : RS.ofO (g.ev P (fz d) env') ≠ .no := hn
    cases h2 : g.ev P (fz d) env' with
    | none => rw [h2] at hn; exact absurd rfl hn
    | some e2 =>
      obtain ⟨F2, r2, sh, _⟩ := r'.frzTmp o nd kk
      exact g.snd h2 e F2 σ H' L' v _ hP r2 sh fun env3 σ' L3 z r3 => s.nx _ _ _ _ _ (show RS.ofO (g.ev P (fz d) env') = .nx _ by rw [h2, z]; rfl) r3
def xsExpr (m : XM W) : XS W where
  t E := tDrop (m.t E)
  ev P env := (m.ev P env).thenS fun _ e => .nx e
  snd := fun P E env hn e F σ H L Dn hP r s => by
    have hm : m.ev P env ≠ .no := fun z => hn (by rw [z]; rfl)
    refine (m.snd P E env).run hm hP r s (fun x e1 h => by rw [h]; rfl) fun d env' v F' H' L' M h r' o nd kk => ?_
    rw [h] at s
    exact s.nx _ _ _ _ _ rfl r'
def xsRet (m : XM W) : XS W where
  t E := tRet (m.t E)
  ev P env := (m.ev P env).thenS fun d e => .rt d e
  snd := fun P E env hn e F σ H L Dn hP r s => by
    have hm : m.ev P env ≠ .no := fun z => hn (by rw [z]; rfl)
    refine (m.snd P E env).run hm hP r s (fun x e1 h => by rw [h]; rfl) fun d env' v F' H' L' M h r' o nd kk => ?_
    rw [h] at s
    exact s.rt _ _ _ _ _ _ _ _ rfl r' o nd kk
def iteR (b : Option Bool) (s u : RS) : RS := match b with
  | some true => s
  | some false => u
  | none => .no
def xsIf (c : XT W) (s u : XS W) : XS W where
  t E := tIfS c.t (s.t E) (u.t E)
  ev P env := iteR (c.ev env) (s.ev P env) (u.ev P env)
  snd := fun P E env hn => by
    match h : c.ev env, hn with
    | some true, hn => exact as_if (c.snd h) (fun _ => s.snd P E env hn) fun z => nomatch z
    | some false, hn => exact as_if (c.snd h) (fun z => nomatch z) fun _ => u.snd P E env hn
    | none, hn => exact absurd rfl hn
def xsFrz (is : List Nat) (s : XS W) : XS W where
  t := s.t
  ev P env := s.ev P (is.foldl frzS env)
  snd := fun P E env hn e F σ H L Dn hP r h => by
    obtain ⟨F', L', r'⟩ := Rel.frzs is env F L r
    exact s.snd P E _ hn e F' σ H L' Dn hP r' h
def forL (f : D -> Py.Env -> RS) : List D -> Py.Env -> RS
  | [], env => .nx env
  | d :: ds, env => match f d env with
    | .nx e => forL f ds e
    | .ct e => forL f ds e
    | .bk e => .nx e
    | r => r
def xsFor (it : XI W) (g : XG W) (b : XS W) : XS W where
  t E := tFor it.t g.t (b.t E)
  ev P env := match it.evF env with
    | some ds => forL (fun d e => match g.ev P d e with | some e2 => b.ev P e2 | none => .no) ds env
    | none => .no
  snd := fun P E env hn => by
    match h : it.evF env, hn with
    | some ds, hn =>
      have hn : forL (fun d e => match g.ev P d e with | some e2 => b.ev P e2 | none => .no) ds env ≠ .no := hn
      show AS W P E _ env (ends (forL (fun d e => match g.ev P d e with | some e2 => b.ev P e2 | none => .no) ds env))
      generalize hr : forL (fun d e => match g.ev P d e with | some e2 => b.ev P e2 | none => .no) ds env = r at hn ⊢
      refine as_for (it.sF h) (fun i e => forL (fun d e => match g.ev P d e with | some e2 => b.ev P e2 | none => .no) (ds.drop i) e = r) (by rw [List.drop_zero]; exact hr) (fun i d e' hd hi => ?_) fun e' he => ?_
      · rw [List.drop_eq_getElem?_toList_append, hd] at hi
        have hi : forL (fun d e => match g.ev P d e with | some e2 => b.ev P e2 | none => .no) (d :: ds.drop (i + 1)) e' = r := hi
        unfold forL at hi
        cases h1 : g.ev P d e' with
        | none => rw [h1] at hi; exact absurd hi.symm hn
        | some e2 =>
          rw [h1] at hi
          intro e0 F σ H L v Q hP rl sh q
          refine g.snd h1 e0 F σ H L v Q hP rl sh fun env3 σ2 L2 z r3 => q env3 σ2 L2 ?_ r3
          subst z
          have hb := b.snd P E env3
          dsimp only at hi
          match h2 : b.ev P env3, hb, hi with
          | .nx e3, hb, hi => exact (hb (by simp)).weaken (fun e h => by cases h; exact hi) (fun d e h => nomatch h) (fun e h => nomatch h) (fun e h => nomatch h) fun x e h => nomatch h
          | .ct e3, hb, hi => exact (hb (by simp)).weaken (fun e h => nomatch h) (fun d e h => nomatch h) (fun e h => nomatch h) (fun e h => by cases h; exact hi) fun x e h => nomatch h
          | .bk e3, hb, hi => exact (hb (by simp)).weaken (fun e h => nomatch h) (fun d e h => nomatch h) (fun e h => by cases h; exact hi.symm) (fun e h => nomatch h) fun x e h => nomatch h
          | .rt d3 e3, hb, hi => exact (hb (by simp)).weaken (fun e h => nomatch h) (fun d e h => by cases h; exact hi.symm) (fun e h => nomatch h) (fun e h => nomatch h) fun x e h => nomatch h
          | .ex x3 e3, hb, hi => exact (hb (by simp)).weaken (fun e h => nomatch h) (fun d e h => nomatch h) (fun e h => nomatch h) (fun e h => nomatch h) fun x e h => by cases h; exact hi.symm
          | .no, hb, hi => exact absurd hi.symm hn
      · rw [List.drop_length] at he
        exact he.symm
    | none, hn => exact absurd rfl hn
def whileN (c : Py.Env -> Option Bool) (f : Py.Env -> RS) : Nat -> Py.Env -> RS
  | 0, _ => .no
  | n + 1, env => match c env with
    | none => .no
    | some false => .nx env
    | some true => match f env with
      | .nx e => whileN c f n e
      | .ct e => whileN c f n e
      | .bk e => .nx e
      | r => r
def fuel : Nat := 1000000
def xsWhile (c : XT W) (b : XS W) : XS W where
  t E := tWhile c.t (b.t E)
  ev P env := whileN c.ev (b.ev P) fuel env
  snd := fun P E env hn e F σ H L Dn hP r s => by
    generalize hr : whileN c.ev (b.ev P) fuel env = r0 at hn s
    refine ⟨fun m σ H => ∃ env' F L, whileN c.ev (b.ev P) m env' = r0 /\ Rel W e env' F σ H L, ⟨fuel, env, F, L, hr, r⟩, ?_⟩
    rintro m σ H ⟨env', F, L, hw, rl⟩
    cases m with
    | zero => exact absurd hw.symm hn
    | succ m =>
      unfold whileN at hw
      cases hc : c.ev env' with
      | none => rw [hc] at hw; exact absurd hw.symm hn
      | some bb =>
        rw [hc] at hw
        refine c.snd hc e F σ H L _ rl fun F' H' x => ?_
        have rl' := rl.ext x
        cases bb with
        | false => exact s.nx _ _ _ _ _ hw.symm rl'
        | true =>
          rw [if_pos rfl]
          dsimp only at hw
          refine ⟨fun σ' H' => ∃ env' F L, whileN c.ev (b.ev P) m env' = r0 /\ Rel W e env' F σ' H' L, fun σ' H' h => ⟨m, by omega, h⟩, ?_⟩
          have hb := b.snd P E env'
          have go : AS W P E (b.t E) env' { ends r0 with nx := fun e => whileN c.ev (b.ev P) m e = r0, ct := fun e => whileN c.ev (b.ev P) m e = r0, bk := fun e => r0 = .nx e } := by
            match h2 : b.ev P env', hb, hw with
            | .nx e3, hb, hi => exact (hb (by simp)).weaken (fun e h => by cases h; exact hi) (fun d e h => nomatch h) (fun e h => nomatch h) (fun e h => nomatch h) fun x e h => nomatch h
            | .ct e3, hb, hi => exact (hb (by simp)).weaken (fun e h => nomatch h) (fun d e h => nomatch h) (fun e h => nomatch h) (fun e h => by cases h; exact hi) fun x e h => nomatch h
            | .bk e3, hb, hi => exact (hb (by simp)).weaken (fun e h => nomatch h) (fun d e h => nomatch h) (fun e h => by cases h; exact hi.symm) (fun e h => nomatch h) fun x e h => nomatch h
            | .rt d3 e3, hb, hi => exact (hb (by simp)).weaken (fun e h => nomatch h) (fun d e h => by cases h; exact hi.symm) (fun e h => nomatch h) (fun e h => nomatch h) fun x e h => nomatch h
            | .ex x3 e3, hb, hi => exact (hb (by simp)).weaken (fun e h => nomatch h) (fun d e h => nomatch h) (fun e h => nomatch h) (fun e h => nomatch h) fun x e h => by cases h; exact hi.symm
            | .no, hb, hi => exact absurd hi.symm hn
          exact go e F' σ H' L _ hP rl' ⟨fun e4 F4 σ4 H4 L4 a r4 => ⟨e4, F4, L4, a, r4⟩, s.rt, fun e4 F4 σ4 H4 L4 a r4 => s.nx _ _ _ _ _ a r4, fun e4 F4 σ4 H4 L4 a r4 => ⟨e4, F4, L4, a, r4⟩, s.ex⟩
def env0 (N : Nat) (args : List D) : Py.Env := args.map some ++ List.replicate (N - args.length) none
def bGet (b : Option Nat) (env : Py.Env) : Option (Option D) := match b with
  | none => some none
  | some i => (getS env i).map some
def runR (b : Option Nat) (r : RS) : Rz := match r with
  | .rt d env => match bGet b env with
    | some x => .ok d x
    | none => .no
  | .nx env => match bGet b env with
    | some x => .ok .non x
    | none => .no
  | .ex x env => match bGet b env with
    | some y => .exn x y
    | none => .no
  | _ => .no
def runFn (N : Nat) (s : XS W) (args : List D) (b : Option Nat) : Rz := runR b (s.ev b.toList (env0 N args))
theorem slots_startO {F H : Hp} : ∀ {ds : List D} {vs : List V} {L : List Addr} (k : Nat), Owns W F H ds vs L -> Slots W F H (ds.map some ++ List.replicate k none) (vs.map some ++ List.replicate k none) L
  | [], [], _, 0, .nil => .nil
  | [], [], _, k + 1, .nil => .no (slots_startO k .nil)
  | _ :: _, _ :: _, _, k, .cons h t => Slots.so h (slots_startO k t)
theorem fn_run {n : Nat} {N : List Str} {s : XS W} {b : Option Nat} (hb : ∀ i, b = some i -> i < n) {vs : List V} {H : Hp} {Q : VK} {E : XK} (hsp : spR W n (runFn N.length s) b vs H Q E) :
    s.t (fun c d _ H => E c d H) { nx := fun _ H' => Q .non H', rt := Q } (L2.start N vs) H := by
  obtain ⟨F, args, L0, sF, os, nd, kF, hl, hn, ok, exn⟩ := hsp
  have hlen : vs.length = args.length := os.length.symm
  obtain ⟨pins, hp1, hp2⟩ : ∃ pins : List (Nat × V), b.toList = pins.map (·.1) /\ ∀ p ∈ pins, vs[p.1]? = some p.2 := by
    cases b with
    | none => exact ⟨[], rfl, fun _ h => nomatch h⟩
    | some i =>
      have hi : i < vs.length := by have := hb i rfl; omega
      exact ⟨[(i, vs[i])], rfl, fun p h => by rw [List.mem_singleton.mp h]; exact List.getElem?_eq_getElem hi⟩
  have hr : Rel W ⟨F, H, L0, pins⟩ (env0 N.length args) F (L2.start N vs) H L0 := {
    sF := sF
    slots := by unfold L2.start env0; rw [hlen]; exact slots_startO _ os
    nd := nd
    dj := kF
    s0 := Same.refl _
    nw := fun _ _ h => .inl h
    fr := fun _ _ _ h => h
    ln := fun _ m => .inl m
    pin := fun p m => by
      have h := hp2 p m
      have hlt := (List.getElem?_eq_some_iff.mp h).1
      unfold L2.start
      rw [List.getElem?_append_left (by rw [List.length_map]; exact hlt), List.getElem?_map, h]; rfl }
  have hne : s.ev b.toList (env0 N.length args) ≠ .no := fun z => hn (by unfold runFn; rw [z]; rfl)
  have post : ∀ {env' : Py.Env} {F' : Hp} {σ' : St} {H' : Hp} {L' : List Addr}, Rel W ⟨F, H, L0, pins⟩ env' F' σ' H' L' -> Post F H L0 F' H' := fun r =>
    ⟨r.s0, r.sF, r.fr, r.nw⟩
  have bor : ∀ {env' : Py.Env} {F' : Hp} {σ' : St} {H' : Hp} {L' : List Addr} {x : Option D}, bGet b env' = some x -> Rel W ⟨F, H, L0, pins⟩ env' F' σ' H' L' -> ∃ Mb, bOwn W F' H' vs b x Mb /\ Mb.Nodup /\ ∀ a ∈ Mb, a ∈ L' := by
    intro env' F' σ' H' L' x hx r
    cases b with
    | none => exact ⟨[], by cases hx; rfl, .nil, fun _ h => nomatch h⟩
    | some i =>
      obtain ⟨d, e1, e2⟩ := Option.map_eq_some_iff.mp hx
      subst e2
      obtain ⟨v, Li, Lr, h1, o, _, nd', mem⟩ := r.slots.take r.nd (getS_some e1)
      obtain ⟨v', hm⟩ : ∃ v', (i, v') ∈ pins := by
        have : i ∈ pins.map (·.1) := by rw [<- hp1]; simp
        obtain ⟨⟨j, v'⟩, h2, h3⟩ := List.mem_map.mp this
        cases h3; exact ⟨v', h2⟩
      have h4 := r.pin _ hm
      rw [h1] at h4
      cases h4
      exact ⟨Li, ⟨_, hp2 _ hm, o⟩, (List.nodup_append.mp nd').1, fun a h => (mem a).mp (.inl h)⟩
  have run := s.snd b.toList (fun c d _ H => E c d H) (env0 N.length args) hne ⟨F, H, L0, pins⟩ F (L2.start N vs) H L0 { nx := fun _ H' => Q .non H', rt := Q } hp1 hr
  have hn' : runR b (s.ev b.toList (env0 N.length args)) ≠ .no := hn
  have ok' : ∀ d bd, runR b (s.ev b.toList (env0 N.length args)) = .ok d bd -> _ := ok
  have exn' : ∀ x bd, runR b (s.ev b.toList (env0 N.length args)) = .exn x bd -> _ := exn
  generalize s.ev b.toList (env0 N.length args) = res at run hn' ok' exn'
  refine run ⟨fun env' F' σ' H' L' a r => ?_, fun d env' F' σ' H' L' v M a r o nd2 kk => ?_, fun env' F' σ' H' L' a r => ?_, fun env' F' σ' H' L' a r => ?_, fun x env' F' σ' H' L' C dd a r ie => ?_⟩
  · cases a
    cases hbg : bGet b env' with
    | none => exact absurd (show runR b (.nx env') = .no by unfold runR; simp only [hbg]) hn'
    | some x =>
      obtain ⟨Mb, ob, nb, sb⟩ := bor hbg r
      exact ok' .non x (by unfold runR; simp only [hbg]) F' H' .non [] Mb (post r) (.sh .non) ob (by simpa using nb) fun a ha => ⟨r.dj a (sb a (by simpa using ha)), r.ln a (sb a (by simpa using ha))⟩
  · cases a
    cases hbg : bGet b env' with
    | none => exact absurd (show runR b (.rt d env') = .no by unfold runR; simp only [hbg]) hn'
    | some x =>
      obtain ⟨Mb, ob, nb, sb⟩ := bor hbg r
      rw [List.nodup_append] at nd2
      refine ok' d x (by unfold runR; simp only [hbg]) F' H' v M Mb (post r) o ob ?_ fun a ha => ?_
      · rw [List.nodup_append]
        exact ⟨nd2.1, nb, fun a ha c hc => nd2.2.2 a ha c (sb c hc)⟩
      · rcases List.mem_append.mp ha with z | z
        · exact kk a z
        · exact ⟨r.dj a (sb a z), r.ln a (sb a z)⟩
  · cases a; exact absurd rfl hn'
  · cases a; exact absurd rfl hn'
  · cases a
    cases hbg : bGet b env' with
    | none => exact absurd (show runR b (.ex x env') = .no by unfold runR; simp only [hbg]) hn'
    | some y =>
      obtain ⟨Mb, ob, nb, sb⟩ := bor hbg r
      exact exn' x y (by unfold runR; simp only [hbg]) F' H' C dd Mb (post r) ie ob nb fun a ha => ⟨r.dj a (sb a ha), r.ln a (sb a ha)⟩
end
end Py
namespace L2
open PySem PySem.SeqAt PySem.W PySem.Calls PyProof.Rows
section
variable {A : Around} {s : Shared}
theorem call_tuple_lt' {prog : Program} {w : World} {E : Value -> Shared -> Prop} {Q : Value -> Shared -> Prop} {l b : Addr} {items items2 : Array Value} {e r : Nat -> Bool} (hl : s.heap.IsTuple l items) (hb : s.heap.IsTuple b items2)
    (he : ∀ j (h1 : j < items.size) (h2 : j < items2.size), EqAt A.in1 s items[j] items2[j] (e j)) (hr : ∀ j (h1 : j < items.size) (h2 : j < items2.size), e j = false -> RcLt A.in1 s items[j] items2[j] (r j))
    (h : Q (.bool (firstLt e r (decide (items.size < items2.size)) (List.range (min items.size items2.size)))) s) : wpAny (model prog w) A (call (.builtin "tuple.__lt__") [.ref l, .ref b]) Q E s := by
  obtain ⟨⟨cls, dd, data, sl⟩, ho, hc, n, hd⟩ := id hl
  obtain ⟨⟨cls2, dd2, data2, sl2⟩, ho2, hc2, n2, hd2⟩ := id hb
  simp only at hc hd hc2 hd2
  subst hc hd hc2 hd2
  exact call_meets F.slot_tuple_lt ⟨_, ho, rfl⟩ F.entry_tuple_lt (F.args_tuple_lt_2 _ _) (tuple_ltAt l b items items2 n n2 dd dd2 sl sl2 e r) ⟨ho, ho2, he, hr, h⟩
end
section
variable {prog : Program} {w : World} {A : Around} {E : Value -> Shared -> Prop} {s : Shared}
theorem oneLt_tuples {xs ys : List PyData} {a b : Value} {as bs : List Addr} {Q : Bool -> Shared -> Prop} (ra : Reads s.heap a (.tuple xs) as) (rb : Reads s.heap b (.tuple ys) bs) (h : alike (.tuple xs) (.tuple ys) = true)
    (hu : A.units + min (PyData.tuple xs).depth (PyData.tuple ys).depth < cLine) (hq : Q (dataLt (.tuple xs) (.tuple ys)) s) : wpAny (model prog w) A (oneLt' true a b) Q E s := by
  have hal : alikeAll xs ys = true := by simpa [alike] using h
  cases ra with
  | @tuple l o vs n _ as₁ h1 h2 h3 h4 =>
    cases rb with
    | @tuple l' o' vs' n' _ bs₁ k1 k2 k3 k4 =>
      have n1 : vs.size = xs.length := by simpa using ReadsAll.length _ _ _ h4
      have n2 : vs'.size = ys.length := by simpa using ReadsAll.length _ _ _ k4
      rw [dataLt_tuple, <- firstLt_toks xs ys hal, <- n1, <- n2] at hq
      rw [oneLt'_eq]
      simp only [if_true]
      refine wpAny_bind (wpAny_cRoomFor (room_here hu) ?_)
      refine wpAny_bind (wpAny_callSpecialIfBound?_slot (T := "tuple") ⟨_, h1, h2⟩ F.slot_tuple_lt (call_tuple_lt' (e := pairEq xs ys) (r := fun j => dataLt (xs.getD j .none) (ys.getD j .none)) ⟨_, h1, h2, _, h3⟩ ⟨_, k1, k2, _, k3⟩ (fun j j1 j2 => ?_) (fun j j1 j2 hj => ?_) ?_))
      · have := eqAt_alikeAll xs ys A.in1 s vs.toList vs'.toList _ _ h4 k4 hal (room_in hu) j (by simpa using j1) (by simpa using j2)
        simpa using this
      · have := rcLt_alikeAll xs ys A.in1 s vs.toList vs'.toList _ _ h4 k4 hal (room_in hu) j (by simpa using j1) (by simpa using j2) hj
        simpa using this
      · exact wpAny_truthy_bool hq
end
def KatT (h : Heap) : List Value -> List (Option Value) -> Prop
  | [], [] => True
  | v :: vs, f :: fs => (∃ a o xs n, v = .ref a /\ h.get? a = some o /\ o.cls = .type "tuple" /\ o.data = .seq xs n /\ xs[0]? = f) /\ KatT h vs fs
  | _, _ => False
section
variable {M : Model} {A : Around} {E : Value -> Shared -> Prop} {s : Shared}
theorem kat_firsts2 : ∀ (vs : List Value) (fs : List (Option Value)) {Q : List (Option Value) -> Shared -> Prop}, KatT s.heap vs fs -> Q fs s -> wpAny M A (vs.mapM firstOfTuple') Q E s
  | [], [], _, _, h => by rw [List.mapM_nil]; exact wpAny_pure h
  | [], _ :: _, _, t, _ => t.elim
  | _ :: _, [], _, t, _ => t.elim
  | v :: vs, f :: fs, Q, t, h => by
    obtain ⟨⟨a, o, xs, n, rfl, ho, hc, hd, hf⟩, t⟩ := t
    rw [List.mapM_cons]
    refine wpAny_bind ?_
    rw [kas_first_eq]
    refine wpAny_bind (Looks.here (show Looks M s.heap (typeOf (.ref a)) o.cls from (Looks.ld ho).andThen .now) ?_)
    rw [hc, if_neg (by first | decide | simp)]
    refine wpAny_bind (listItems_at ho hd (wpAny_pure ?_))
    rw [hf]
    exact wpAny_bind (kat_firsts2 vs fs (Q := fun bs s' => wpAny M A (pure (f :: bs)) Q E s') t (wpAny_pure h))
theorem kind_mixed {vs : List Value} {fs : List (Option Value)} {Q : SortKind -> Shared -> Prop} (t : KatT s.heap vs fs) (hn : none ∈ fs) (hT : ∀ v ∈ vs, Looks M s.heap (typeOf v) (Value.type "tuple"))
    (h : Q (if (fs.head?.bind id).isSome = true then general' else oneType') s) : wpAny M A (keyKind' vs.toArray) Q E s := by
  obtain ⟨v₁, vr, rfl⟩ : ∃ v₁ vr, vs = v₁ :: vr := by
    match vs, fs, t, hn with
    | v₁ :: vr, _, _, _ => exact ⟨v₁, vr, rfl⟩
    | [], [], _, hn => exact absurd hn (by simp)
    | [], _ :: _, t, _ => exact t.elim
  rw [kat_kind_eq, List.mapM_toArray, map_eq_pure_bind]
  refine wpAny_bind (wpAny_bind (kat_firsts2 (v₁ :: vr) fs t (wpAny_pure ?_)))
  have hall : ¬ (fs.toArray.all fun x => x.isSome) = true := by
    simp only [List.all_toArray, List.all_eq_true]
    exact fun z => absurd (z none hn) (by simp)
  rw [if_neg hall]
  have h0 : (fs.toArray[0]?.bind id).isSome = (fs.head?.bind id).isSome := by
    rw [List.head?_eq_getElem?]; simp
  rw [h0]
  by_cases hs : (fs.head?.bind id).isSome = true
  · rw [if_pos hs] at h ⊢
    exact wpAny_pure h
  · rw [if_neg hs] at h ⊢
    rw [oneTypeOnly'_eq, List.mapM_toArray, map_eq_pure_bind]
    refine wpAny_bind (wpAny_bind (wpAny_bind (kas_mapM (r := Value.type "tuple") _ (fun v hv Q' hq => (hT v hv).here hq) (wpAny_pure ?_))))
    have hall2 : ((List.map (fun _ => Value.type "tuple") (v₁ :: vr)).toArray.all fun x => x == Value.type "tuple") = true := by
      simp only [List.all_toArray, List.all_map, List.all_eq_true]
      intro _ _
      exact beq_self_eq_true _
    have h1 : (List.map (fun _ => Value.type "tuple") (v₁ :: vr)).toArray[0]? = some (Value.type "tuple") := by simp
    rw [h1]
    simp only [hall2, if_true]
    exact wpAny_pure (wpAny_pure h)
end
def Sortable2 (ds : List PyData) : Prop := (∀ d, d ∈ ds -> ∃ xs, d = .tuple xs) \/ ∀ d, d ∈ ds -> d ≠ .none /\ ∀ xs, d ≠ .tuple xs
theorem each_katT {h : Heap} : ∀ {vs : List Value} {ds : List PyData}, EachIs (fun v d => ∃ as, Reads h v d as) vs ds -> (∀ d, d ∈ ds -> ∃ xs, d = .tuple xs) -> ∃ fs, KatT h vs fs /\ (.tuple [] ∈ ds -> none ∈ fs)
  | _, _, .nil, _ => ⟨[], trivial, fun h => absurd h (by simp)⟩
  | _, _, .cons (b := d) ⟨as, r⟩ t, ht => by
    obtain ⟨fs, h1, h2⟩ := each_katT t fun d hd => ht d (List.mem_cons_of_mem _ hd)
    obtain ⟨xs0, rfl⟩ := ht d (List.mem_cons_self ..)
    cases r with
    | @tuple a o xs n _ _ ho hc hd hr =>
      refine ⟨xs[0]? :: fs, ⟨⟨a, o, xs, n, rfl, ho, hc, hd, rfl⟩, h1⟩, fun hm => ?_⟩
      rcases List.mem_cons.mp hm with e | hm
      · obtain rfl := PyData.tuple.inj e
        have : xs.toList = [] := by cases q : xs.toList with
          | nil => rfl
          | cons y ys => rw [q] at hr; cases hr
        have e0 : xs[0]? = none := by rw [<- Array.getElem?_toList, this]; rfl
        rw [e0]
        exact List.mem_cons_self ..
      · exact List.mem_cons_of_mem _ (h2 hm)
section
variable {prog : Program} {w : World} {A : Around} {s : Shared}
theorem sortsAt_data2 {vs : List Value} {ds : List PyData} (e : EachIs (fun v d => ∃ as, Reads s.heap v d as) vs ds) (hal : AllAlike ds) (hk : Sortable2 ds) (hu : ∀ d, d ∈ ds -> A.units + d.depth < cLine) : SortsAt prog w A s (dataKind s.heap ds) vs := by
  rcases hk with ht | hn
  · by_cases hne : PyData.tuple [] ∈ ds
    · have room : ∀ {d d' : PyData}, d ∈ ds -> A.units + min d.depth d'.depth < cLine := fun {d d'} hd => Nat.lt_of_le_of_lt (Nat.add_le_add_left (Nat.min_le_left _ _) _) (hu d hd)
      refine ⟨fun v hv => ?_, ?_⟩
      · obtain ⟨d, hd, as, r⟩ := e.left v hv
        exact ⟨_, dataKind_some hal hd r⟩
      · obtain ⟨fs, t1, t2⟩ := each_katT e ht
        refine ⟨if (fs.head?.bind id).isSome = true then general' else oneType', ?_, fun h2 E Q hq => kind_mixed t1 (t2 hne) (fun v hv => ?_) hq⟩
        · intro E x y a b Q ha hb hq
          obtain ⟨d, as, hd, ra, rfl⟩ := dataKind_inv ha
          obtain ⟨d', as', hd', rb, rfl⟩ := dataKind_inv hb
          have hdd := hal d hd d' hd'
          have hroom := room (d' := d') hd
          obtain ⟨x1, rfl⟩ := ht d hd
          obtain ⟨x2, rfl⟩ := ht d' hd'
          split
          · exact oneLt_alike (f := false) (by simp) ra rb hdd (by simp) hroom hq
          · rw [keyLt'_oneType]
            exact oneLt_tuples ra rb hdd hroom hq
        · obtain ⟨d, hd, as, r⟩ := e.left v hv
          obtain ⟨xs, rfl⟩ := ht d hd
          exact looks_reads r
    · refine SortsAt.data e hal (.inl fun d hd => ?_) hu
      obtain ⟨xs, rfl⟩ := ht d hd
      cases xs with
      | nil => exact absurd hd hne
      | cons x r => exact ⟨x, r, rfl⟩
  · exact SortsAt.data e hal (.inr hn) hu
end
section
variable {prog : Program} {w : World} {A : Around} {E : Value -> Shared -> Prop} {s : Shared} {β : Type} {vs : List Value} {bs : List β} {enc : β -> PyData} {R : Value -> β -> Prop}
theorem sorted_rev_data2 {l : Addr} {b : Bool} {Q : Value -> Shared -> Prop} (hl : s.heap.IsList l vs.toArray) (e : EachIs R vs bs) (er : EachIs (fun v b => ∃ as, Reads s.heap v (enc b) as) vs bs) (hal : AllAlike (bs.map enc)) (hk : Sortable2 (bs.map enc)) (hL : bs.length <= sizeLine)
    (hu : ∀ b, b ∈ bs -> A.units + 2 + (enc b).depth < cLine) (h : ∀ out, out.length = bs.length -> EachIs R out (bs.mergeSort (dataLe b enc)) -> Q (.ref (s.heap.objs.size + 1)) { s with heap := sortedAll s.heap vs (List.toArray out) }) :
    wpAny (model prog w) A (call (.builtin "sorted") [.ref l] [(Str.ofString "reverse", .bool b)]) Q E s := by
  have er' : EachIs (fun v b => ∃ as, Reads (sortingHeap (copyHeap s.heap vs) (s.heap.objs.size + 1) vs) v (enc b) as) vs bs := er.mono fun _ _ ⟨as, r⟩ => ⟨as, PyProof.Rows.Reads.keeps (fun _ _ => sorting_copy_old) r⟩
  exact sorted_rev_vals hl (sortsAt_data2 (s := { s with heap := sortingHeap (copyHeap s.heap vs) (s.heap.objs.size + 1) vs }) (each_map (R := fun v d => ∃ as, Reads (sortingHeap (copyHeap s.heap vs) (s.heap.objs.size + 1) vs) v d as) enc er') hal hk (bound_map hu)) (by rw [e.length]; exact hL)
    (h _ (by rw [sortVals_length b rfl]; exact e.length) (sortVals_data b e er' hal))
theorem sorted_data2 {l : Addr} {Q : Value -> Shared -> Prop} (hl : s.heap.IsList l vs.toArray) (e : EachIs R vs bs) (er : EachIs (fun v b => ∃ as, Reads s.heap v (enc b) as) vs bs) (hal : AllAlike (bs.map enc)) (hk : Sortable2 (bs.map enc)) (hL : bs.length <= sizeLine)
    (hu : ∀ b, b ∈ bs -> A.units + 2 + (enc b).depth < cLine) (h : ∀ out, out.length = bs.length -> EachIs R out (bs.mergeSort (dataLe false enc)) -> Q (.ref (s.heap.objs.size + 1)) { s with heap := sortedAll s.heap vs (List.toArray out) }) :
    wpAny (model prog w) A (call (.builtin "sorted") [.ref l]) Q E s := by
  have er' : EachIs (fun v b => ∃ as, Reads (sortingHeap (copyHeap s.heap vs) (s.heap.objs.size + 1) vs) v (enc b) as) vs bs := er.mono fun _ _ ⟨as, r⟩ => ⟨as, PyProof.Rows.Reads.keeps (fun _ _ => sorting_copy_old) r⟩
  exact sorted_vals hl (sortsAt_data2 (s := { s with heap := sortingHeap (copyHeap s.heap vs) (s.heap.objs.size + 1) vs }) (each_map (R := fun v d => ∃ as, Reads (sortingHeap (copyHeap s.heap vs) (s.heap.objs.size + 1) vs) v d as) enc er') hal hk (bound_map hu)) (by rw [e.length]; exact hL)
    (h _ (by rw [sortVals_length false rfl]; exact e.length) (sortVals_data false e er' hal))
end
end L2
namespace L2
open PySem PySem.Spec PyProof.Rows
def rSortD (K : PySem.W.Frag) : List V -> Hp -> VK -> Prop := fun vs H Q => ∃ (a : Addr) (xs : List V) (ds : List PyData), vs = [V.ref a] /\ SqL K H a xs /\ DpAll K H xs ds /\ PySem.W.AllAlike ds /\ Sortable2 ds /\ (∀ d ∈ ds, d.depth <= 60) /\
  ∀ p, H p = none -> Q (.ref p) (upd H p (.lst (((xs.zip ds).mergeSort (PySem.W.dataLe false Prod.snd)).map Prod.fst)))
theorem DpAll.len {K : PySem.W.Frag} {H : Hp} : ∀ {xs : List V} {ds : List PyData}, DpAll K H xs ds -> xs.length = ds.length
  | _, _, .nil => rfl
  | _, _, .cons _ t => by rw [List.length_cons, List.length_cons, DpAll.len t]
section
variable {X : Cx} {pins : List (Addr × Obj)} {σ : St} {H : Hp} {s : Shared}
theorem each_dp (I : Inv X pins σ H s) : ∀ {xs : List V} {ds : List PyData} {us : List Value}, DpAll X.K H xs ds -> Vals xs us -> PySem.W.EachIs (fun u (b : V × PyData) => RelV b.1 u /\ ∃ as, Reads s.heap u b.2 as) us (xs.zip ds)
  | _, _, _, .nil, .nil => .nil
  | _, _, _, .cons h t, .cons r rs => .cons ⟨r, Dp.reads I _ _ _ h r⟩ (each_dp I t rs)
theorem each_vals {R : Value -> V × PyData -> Prop} (hR : ∀ u b, R u b -> RelV b.1 u) : ∀ {us : List Value} {bs : List (V × PyData)}, PySem.W.EachIs R us bs -> Vals (bs.map Prod.fst) us
  | _, _, .nil => .nil
  | _, _, .cons h t => .cons (hR _ _ h) (each_vals hR t)
theorem zip_snd {xs : List V} {ds : List PyData} (h : xs.length = ds.length) : (xs.zip ds).map Prod.snd = ds := List.map_snd_zip (by omega)
theorem cr_sortedD (hu : X.A.units + 64 < cLine) : CallR X (.builtin "sorted") (rSortD X.K) := by
  intro pins s σ H vs us Q I r h
  obtain ⟨a, xs, ds, rfl, hs, hd, ha, hk, hn, q⟩ := h
  obtain ⟨its, rv, hl, hz⟩ := I.list hs
  rw [Vals.ref1 r]
  have hlen := hd.len
  have hm := zip_snd hlen
  have e1 := each_dp I hd rv
  have hzl : (xs.zip ds).length = xs.length := by rw [List.length_zip]; omega
  refine sorted_data2 (enc := Prod.snd) (bs := xs.zip ds) hl.isList e1 (e1.mono fun _ _ h => h.2) (by rw [hm]; exact ha) (by rw [hm]; exact hk) (by rw [hzl]; exact hz) (fun b hb => ?_) fun out ho eo => ?_
  · have : b.2 ∈ ds := by rw [<- hm]; exact List.mem_map.mpr ⟨b, hb, rfl⟩
    have := hn _ this
    omega
  · obtain ⟨ep, he'⟩ := PyProof.Rows.sortedAll_at s.heap its out.toArray
    have hv := each_vals (fun _ _ h => h.1) eo
    refine ⟨.ref _, upd H (s.heap.objs.size + 1) (.lst (((xs.zip ds).mergeSort (PySem.W.dataLe false Prod.snd)).map Prod.fst)), I.laid (t' := s.toks) (fun _ _ => PyProof.Rows.sortedAll_old) (Nat.le_succ _) ⟨?_, out, ep, hv, he'⟩, rfl, q _ (I.hok.fresh (Nat.le_succ _))⟩
    rw [List.length_map, List.length_mergeSort, hzl]
    exact hz
end
end L2
namespace Py
open PySem L2
section
variable {T : Tbl} {W : Wd T} {env : Py.Env} {β : Type} {enc : β -> D} {dat : β -> PyData}
def tupNE : PyData -> Bool
  | .tuple _ => true
  | _ => false
def notTN : PyData -> Bool
  | .tuple _ => false
  | .none => false
  | _ => true
def sortOk (ps : List PyData) : Bool := (ps.all fun p => ps.all fun q => PySem.W.alike p q) && (ps.all tupNE || ps.all notTN) && ps.all fun p => decide (p.depth <= 60)
def sortD (xs : List D) : Option (List D) := (pds xs).bind fun ps => if sortOk ps = true then some (((xs.zip ps).mergeSort (PySem.W.dataLe false Prod.snd)).map Prod.fst) else none
theorem sortOk_ok {ps : List PyData} (h : sortOk ps = true) : PySem.W.AllAlike ps /\ Sortable2 ps /\ ∀ d ∈ ps, d.depth <= 60 := by
  unfold sortOk at h
  simp only [Bool.and_eq_true, Bool.or_eq_true, List.all_eq_true, decide_eq_true_eq] at h
  obtain ⟨⟨h1, h2⟩, h3⟩ := h
  refine ⟨h1, ?_, h3⟩
  rcases h2 with h2 | h2
  · refine .inl fun d hd => ?_
    have := h2 d hd
    cases d <;> first | (cases this; done) | skip
    exact ⟨_, rfl⟩
  · refine .inr fun d hd => ?_
    have := h2 d hd
    refine ⟨fun z => ?_, fun xs z => ?_⟩ <;> (subst z; cases this)
theorem shrs_zipD {F : Hp} : ∀ {xs : List D} {vs : List V}, Shrs W F xs vs -> ∀ p ∈ vs.zip xs, Shr W F p.2 p.1
  | [], _, .nil, p, m => nomatch m
  | b :: bs, _, .cons (v := v) (vs := vs) h t, p, m => by
    rw [List.zip_cons_cons] at m
    rcases List.mem_cons.mp m with rfl | m
    · exact h
    · exact shrs_zipD t p m
theorem shrs_pairsD {F : Hp} : ∀ (T : List (V × D)), (∀ p ∈ T, Shr W F p.2 p.1) -> Shrs W F (T.map Prod.snd) (T.map Prod.fst)
  | [], _ => .nil
  | p :: T, h => .cons (h p (List.mem_cons_self ..)) (shrs_pairsD T fun q m => h q (List.mem_cons_of_mem _ m))
theorem sort_two {α β : Type} {vs : List α} {xs : List β} {ps : List PyData} (h1 : vs.length = ps.length) (h2 : xs.length = ps.length) :
    ∃ T : List (α × β), T.Perm (vs.zip xs) /\ ((vs.zip ps).mergeSort (PySem.W.dataLe false Prod.snd)).map Prod.fst = T.map Prod.fst /\ ((xs.zip ps).mergeSort (PySem.W.dataLe false Prod.snd)).map Prod.fst = T.map Prod.snd := by
  let Z : List ((α × β) × PyData) := (vs.zip xs).zip ps
  have e1 : Z.map (fun z => (z.1.1, z.2)) = vs.zip ps := by
    apply List.ext_getElem?
    intro i
    simp only [Z, List.getElem?_map, List.getElem?_zip_eq_some, List.zip_eq_zipWith, List.getElem?_zipWith]
    cases vs[i]? <;> cases hx : xs[i]? <;> cases hp : ps[i]? <;> simp
    · have := List.getElem?_eq_none_iff.mp hx
      have := (List.getElem?_eq_some_iff.mp hp).1
      omega
  have e2 : Z.map (fun z => (z.1.2, z.2)) = xs.zip ps := by
    apply List.ext_getElem?
    intro i
    simp only [Z, List.getElem?_map, List.zip_eq_zipWith, List.getElem?_zipWith]
    cases hv : vs[i]? <;> cases hx : xs[i]? <;> cases hp : ps[i]? <;> simp
    · have := List.getElem?_eq_none_iff.mp hv
      have := (List.getElem?_eq_some_iff.mp hp).1
      omega
  refine ⟨(Z.mergeSort (PySem.W.dataLe false Prod.snd)).map (·.1), ?_, ?_, ?_⟩
  · have := (List.mergeSort_perm Z (PySem.W.dataLe false Prod.snd)).map (·.1)
    refine this.trans ?_
    rw [List.map_fst_zip (by rw [List.length_zip]; omega)]
  · rw [<- e1, <- PySem.W.sort_maps (r := PySem.W.dataLe false fun z : (α × β) × PyData => z.2) (s := PySem.W.dataLe false Prod.snd) (fun z : (α × β) × PyData => (z.1.1, z.2)) (fun _ _ _ _ => rfl), List.map_map, List.map_map]
    rfl
  · rw [<- e2, <- PySem.W.sort_maps (r := PySem.W.dataLe false fun z : (α × β) × PyData => z.2) (s := PySem.W.dataLe false Prod.snd) (fun z : (α × β) × PyData => (z.1.2, z.2)) (fun _ _ _ _ => rfl), List.map_map, List.map_map]
    rfl
theorem pds_len : ∀ {xs : List D} {ps : List PyData}, pds xs = some ps -> xs.length = ps.length
  | [], _, h => by rw [pds] at h; cases h; rfl
  | x :: xs, ps, h => by
    rw [pds] at h
    split at h
    · rename_i h2; cases h; rw [List.length_cons, List.length_cons, pds_len h2]
    · cases h
def xSorted (a : XP W) : XP W where
  t := tCB (rSortD W.K) (tCons a.t tNil)
  ev env := (a.evK env).bind fun d => (seqOf d).bind fun p => if p.1 = false then (sortD p.2).map fun ys => (.fr, .olst ys) else none
  snd := fun {env k d} e => by
    obtain ⟨d1, e1, e⟩ := Option.bind_eq_some_iff.mp e
    obtain ⟨⟨b, xs⟩, e3, e⟩ := Option.bind_eq_some_iff.mp e
    cases b with
    | true => cases e
    | false =>
      obtain ⟨ys, e4, e⟩ := Option.map_eq_some_iff.mp e
      cases e
      obtain ⟨ps, e5, e6⟩ := Option.bind_eq_some_iff.mp e4
      obtain ⟨ho, rfl⟩ := ite_some e6
      obtain ⟨s1, s2, s3⟩ := sortOk_ok ho
      intro e' F σ H L Q r q
      refine a.sK e1 e' F σ H L _ r fun v F1 H1 x1 ⟨L1, o⟩ => ?_
      obtain ⟨a, vs, rfl, sh, sq⟩ := seqOf_ok x1.s o e3
      have hl := pds_len e5
      obtain ⟨TT, hT, t1, t2⟩ := sort_two (vs := vs) (xs := xs) (ps := ps) (by rw [<- sh.length, hl]) hl
      refine ⟨a, vs, ps, rfl, sq, Shrs.dp (sh.mono x1.s) e5, s1, s2, s3, fun p hp => q _ F1 _ (x1.trans (.newH x1.s hp)) ⟨[p], ?_, by simp, fun x m => by
        rw [List.mem_singleton.mp m]; exact ⟨x1.h.free hp, x1.s.free hp⟩⟩⟩
      rw [t1, t2]
      exact .olst upd_same (shrs_pairsD TT fun p m => shrs_zipD sh p (hT.mem_iff.mp m)).owns
theorem pds_mapD (hp : ∀ b, pd (enc b) = some (dat b)) : ∀ bs : List β, pds (bs.map enc) = some (bs.map dat)
  | [] => by rw [List.map_nil, pds]; rfl
  | b :: bs => by rw [List.map_cons, pds, hp b, pds_mapD hp bs]; rfl
theorem sortD_map (hp : ∀ b, pd (enc b) = some (dat b)) (bs : List β) (ho : sortOk (bs.map dat) = true) : sortD (bs.map enc) = some ((bs.mergeSort (PySem.W.dataLe false dat)).map enc) := by
  unfold sortD
  rw [pds_mapD hp]
  show (if sortOk (bs.map dat) = true then _ else none) = _
  rw [if_pos ho]
  congr 1
  have e : (bs.map enc).zip (bs.map dat) = bs.map fun b => (enc b, dat b) := by rw [List.zip_map']
  rw [e, <- PySem.W.sort_maps (r := PySem.W.dataLe false dat) (s := PySem.W.dataLe false Prod.snd) (fun b => (enc b, dat b)) (fun _ _ _ _ => rfl), List.map_map]
  rfl
end
end Py
namespace Py
open PySem L2
structure Blt (mg : Str -> Option Value) : Prop where
  len : mg "len" = none
  range : mg "range" = none
  abs : mg "abs" = none
  int : mg "int" = none
  bool : mg "bool" = none
  str : mg "str" = none
  list : mg "list" = none
  tuple : mg "tuple" = none
  isinstance : mg "isinstance" = none
  sorted : mg "sorted" = none
  enumerate : mg "enumerate" = none
  zip : mg "zip" = none
  sum : mg "sum" = none
  any : mg "any" = none
  all : mg "all" = none
  max : mg "max" = none
  min : mg "min" = none
  dict : mg "dict" = none
  set : mg "set" = none
  type : mg "type" = none
  iter : mg "iter" = none
  super : mg "super" = none
structure DefAt (K : PySem.W.Frag) (mg : Str -> Option Value) (x qual : Str) (st : Stmt) (dvs : List V) (kws : List (Str × V)) : Prop where
  ex : ∃ f fd, FunD K x qual (defArgs st) (defBody st) (defScope st) dvs kws f fd /\ mg x = some (.ref f)
def BindsP (x qual : Str) (st : Stmt) (ps : List Str) : Prop := ∀ (kV doc pm : Value) (an : Option Addr) (cdv ct : Value) (us : List Value), us.length = ps.length -> bindArgs (PySem.W.fnOf x qual (defArgs st) (defBody st) (defScope st) .none kV doc pm an cdv ct) ⟨us, []⟩ = pure (ps.zip us)
structure Df (P : Program) (w : World) (K : PySem.W.Frag) (mg : Str -> Option Value) (base : Heap) (CX : CXT) (k : Nat) (x : Str) (ps : List Str) (sp : Sp) : Prop where
  ex : ∃ f fd, FnOk P w K mg base CX k f fd ps sp /\ mg x = some (.ref f) /\ PySem.W.keepIn K (.ref f) = true /\ Binds K fd ps []
section
variable {P : Program} {w : World} {K : PySem.W.Frag} {mg : Str -> Option Value} {base : Heap}
theorem df_of {x qual : Str} {st : Stmt} {N ps : List Str} {k : Nat} {sp : Sp} (D : DefAt K mg x qual st [] []) (S : FnScope N ps (defScope st)) (bp : BindsP x qual st ps) (len : ∀ vs H Q E, sp vs H Q E -> vs.length = ps.length)
    (hbody : ∀ (f : Addr) (cdv : Value) (A : Around) (outer : List PySem.Env) (s : Shared) (H : Hp) (vs : List V) (Q : VK) (E : XK), Room k (A.deeper (PyProof.Rows.envOfC qual (defScope st) s.heap.objs.size f cdv)) -> sp vs H Q E ->
      ∃ t, PSs (cxOf (L2.CX P w) P w K mg base N qual (defScope st) f cdv A outer s H E) (defBody st) t /\ t { nx := fun _ H' => Q .non H', rt := Q } (L2.start N vs) H) : Df P w K mg base (L2.CX P w) (k + 1) x ps sp := by
  obtain ⟨f, fd, F, hm⟩ := D.ex
  refine ⟨f, fd, F.ok S len fun cdv A outer s H vs Q E hr h => ?_, hm, F.kp, F.bindsN bp⟩
  obtain ⟨t, q1, q2⟩ := hbody f cdv A outer s H vs Q E hr h
  exact ⟨t, q1, q2⟩
theorem lw_of {x qual : Str} {st : Stmt} {N ps : List Str} {k : Nat} {sp : Sp} {f : Addr} {fd : FuncData} (F : FunD K x qual (defArgs st) (defBody st) (defScope st) [] [] f fd) (S : FnScope N ps (defScope st)) (len : ∀ vs H Q E, sp vs H Q E -> vs.length = ps.length)
    (hbody : ∀ (f : Addr) (cdv : Value) (A : Around) (outer : List PySem.Env) (s : Shared) (H : Hp) (vs : List V) (Q : VK) (E : XK), Room k (A.deeper (PyProof.Rows.envOfC qual (defScope st) s.heap.objs.size f cdv)) -> sp vs H Q E ->
      ∃ t, PSs (cxOf CX0 P w K mg base N qual (defScope st) f cdv A outer s H E).nox (defBody st) t /\ t { nx := fun _ H' => Q .non H', rt := Q } (L2.start N vs) H) : FnOk P w K mg base CX0 (k + 1) f fd ps sp := by
  refine F.ok S len fun cdv A outer s H vs Q E hr h => ?_
  obtain ⟨t, q1, q2⟩ := hbody f cdv A outer s H vs Q E hr h
  exact ⟨t, q1.nox, q2⟩
theorem passE0 {X : Cx} : Passes (L2.CX X.prog X.w) X E0 := fun _ _ _ _ _ _ _ h => by
  obtain ⟨_, _, _, _, _, _, _, _, _, _, _, _, z⟩ := h
  exact z.elim
theorem px_call {X : Cx} {k : Nat} {x : Str} {ps : List Str} {sp : Sp} {p pos : Pos} {e : Expr} {es : List Expr} {t : TA} (D : Df X.prog X.w X.K X.mg X.base (L2.CX X.prog X.w) k x ps sp) (hr : Room k X.A) (hg : Gl X x)
    (ha : PA X (e :: es) t) (hdb : (x == ("__debug__" : Str)) = false := by decide) (he : starEach (e :: es) X.env = (false, eval e X.env) :: starEach es X.env := by rfl) (hpl : (backTo pos (starEach es X.env)).any (·.1) = false := by rfl) :
    PE X (.Call (.Name x p) (e :: es) [] pos) (tCall sp [] E0 t) := by
  obtain ⟨f, fd, F, hm, hk, hb⟩ := D.ex
  exact pe_call F hr hg hm hk hb .nil passE0 ha hdb he hpl
def gK {α : Type} (n m : Nat) (us ws : List α) : List α := if us.length = n /\ ws.length = m then us ++ ws else []
structure DfK (P : Program) (w : World) (K : PySem.W.Frag) (mg : Str -> Option Value) (base : Heap) (CX : CXT) (k : Nat) (x : Str) (ps ks : List Str) (n : Nat) (sp : Sp) : Prop where
  ex : ∃ f fd, FnOk P w K mg base CX k f fd ps sp /\ mg x = some (.ref f) /\ PySem.W.keepIn K (.ref f) = true /\ KBinds K fd ps ks (gK n ks.length) (gK n ks.length)
end
section
variable {X : Cx} {T : Tbl} {W : Wd T}
theorem call_lenA : CallR X (.builtin "len") (rLenA X.K) := CallR.or call_lenU call_lenD
theorem pe_imp {e : Expr} {t : TE} {c : Prop} (hc : c) (h : PE X e t) : PE X e (fun σ H Q => c -> t σ H Q) := ⟨fun pins s σ H Q I q => h.run pins s σ H Q I (q hc)⟩
theorem px_isi {a : Expr} {ta : TE} {c : Str} {n : String} {p1 p2 pos : Pos} (hm : X.mg "isinstance" = none) (hmc : X.mg c = none) (ha : PE X a ta) (hk : n ∈ ["int", "bool", "str", "list", "tuple", "dict"] := by decide) (hg : Gl X "isinstance" := by rfl) (hgc : Gl X c := by rfl)
    (hb : bootBuiltins c = some (.type n) := by decide +kernel) (hn : c ≠ "__name__" := by decide) (hd : (c == ("__debug__" : Str)) = false := by decide)
    (hs : starEach [a, .Name c p2] X.env = (false, eval a X.env) :: starEach [.Name c p2] X.env := by rfl) (hs2 : starEach [.Name c p2] X.env = (false, eval (.Name c p2) X.env) :: starEach [] X.env := by rfl)
    (hpl : (backTo pos (starEach [.Name c p2] X.env)).any (·.1) = false := by rfl) :
    PE X (.Call (.Name "isinstance" p1) [a, .Name c p2] [] pos) (fun σ H Q => clsOk W (false, n) -> tCB (rIsi X.K) (tCons ta (tCons (tC (clsV W (false, n))) tNil)) σ H Q) :=
  pe_imp hk (pe_callB call_isi hg hm (by decide +kernel) (pa_cons ha (pa_cons (pe_bltn hgc hc' hb rfl hn hd) pa_nil hs2) hs) (he := hs) (hpl := hpl))
where hc' := hmc
end
theorem df_no {P : Program} {w : World} {K : PySem.W.Frag} {mg : Str -> Option Value} {base : Heap} {x qual : Str} {st : Stmt} {ps : List Str} {k : Nat} (D : DefAt K mg x qual st [] []) (bp : BindsP x qual st ps) {sp : Sp} (h : ∀ vs H Q E, ¬ sp vs H Q E) : Df P w K mg base (L2.CX P w) k x ps sp := by
  obtain ⟨f, fd, F, hm⟩ := D.ex
  exact ⟨f, fd, ⟨fun vs H Q E z => absurd z (h vs H Q E), fun A outer s H args us vs Q E _ _ _ _ z => absurd z (h vs H Q E)⟩, hm, F.kp, F.bindsN bp⟩
theorem spR_no {T : Tbl} {W : Wd T} {n : Nat} {b : Option Nat} : ∀ vs H Q E, ¬ spR W n (fun _ _ => .no) b vs H Q E := fun vs H Q E ⟨_, _, _, _, _, _, _, _, h, _⟩ => h rfl
def semT (tbl : String -> Option (Sem -> List D -> Option Nat -> Rz)) : Nat -> Sem
  | 0 => fun _ _ _ => .no
  | k + 1 => fun f args b => match tbl f with
    | some g => g (semT tbl k) args b
    | none => .no
def spL (K : PySem.W.Frag) : Sp := fun vs H Q _ => ∃ (a : Addr) (ns : List Int), vs = [.ref a] /\ SqL K H a (ns.map V.int) /\ ns.length <= 63 /\ ∀ H', Q (.bl true) H'
theorem spL_in {K : PySem.W.Frag} {H : Hp} {a : Addr} {ns : List Int} (hl : ns.length <= 63) (hS : SqL K H a (ns.map V.int)) : spL K [.ref a] H (fun v _ => v = .bl true) fun _ _ _ => False := ⟨a, ns, rfl, hS, hl, fun _ => rfl⟩
theorem spL_spR {T : Tbl} {W : Wd T} {φ : List D -> Option Nat -> Rz} (h : ∀ ns : List Int, ns.length <= 63 -> φ [.scr ns] none = .ok (.bl true) none) : ∀ vs H Q E, spL W.K vs H Q E -> spR W 1 φ none vs H Q E := by
  rintro vs H Q E ⟨a, ns, rfl, hS, hl, q⟩
  refine callF (Same.refl H) (.cons (.scr hS) .nil) rfl (h ns hl) fun v F' H' x ⟨L, o, _, _⟩ => ?_
  cases o.shr rfl
  exact q H'
section
variable {T : Tbl} {W : Wd T}
def xsAug (i : Nat) (f : Int -> Int -> Int) (a : XP W) : XS W where
  t _ := tAug i a.t (ipI f)
  ev P env := RS.ofO ((getS env i).bind fun x => (a.evV env).bind fun y => match x, y with
    | .int i', .int j => setS P i (.int (f i' j)) env
    | _, _ => none)
  snd := fun P E env hn e F σ H L Dn hP r s => by
    cases h : ((getS env i).bind fun x => (a.evV env).bind fun y => match x, y with
      | .int i', .int j => setS P i (.int (f i' j)) env
      | _, _ => none) with
    | none => exact absurd (by rw [h]; rfl) hn
    | some e2 =>
      rw [h] at s
      obtain ⟨x, e1, h⟩ := Option.bind_eq_some_iff.mp h
      obtain ⟨y, e3, h⟩ := Option.bind_eq_some_iff.mp h
      split at h
      · obtain ⟨⟨h3, h4⟩, rfl⟩ := ite_some h
        obtain ⟨v, M, e4, o, _⟩ := slot_get r (getS_some e1)
        cases o.shr rfl
        refine ⟨_, e4, a.sV e3 e F σ H L _ r fun v F1 H1 x1 y1 => ?_⟩
        cases y1
        obtain ⟨L2, r2⟩ := (r.ext x1).set (i := i) (d := .int (f _ _)) (M := []) (.sh .int) (by simpa using r.nd) (fun a m => nomatch m) h3 fun p hm z => h4 (by rw [hP]; exact List.mem_map.mpr ⟨p, hm, z⟩)
        exact ⟨_, _, rfl, rfl, s.nx _ _ _ _ _ rfl r2⟩
      · cases h
end
end Py
namespace Py
open PySem L2
theorem pe_alt {X : Cx} {e : Expr} {t1 t2 : TE} (h1 : PE X e t1) (h2 : PE X e t2) : PE X e (fun σ H Q => t1 σ H Q \/ t2 σ H Q) :=
  ⟨fun pins s σ H Q I h => h.elim (h1.run pins s σ H Q I) (h2.run pins s σ H Q I)⟩
theorem lookup_zip_none {m : String} : ∀ {ns : List String} {vs : List V}, pos m ns = none -> ((ns.map so).zip vs).lookup (so m) = none
  | [], _, _ => by simp
  | n :: ns, [], _ => by simp
  | n :: ns, v :: vs, h => by
    have h : (if n = m then some 0 else (pos m ns).map (· + 1)) = none := h
    by_cases e : n = m
    · rw [if_pos e] at h; cases h
    · rw [if_neg e] at h
      have h : pos m ns = none := Option.map_eq_none_iff.mp h
      show (match so m == so n with | true => some v | false => _) = none
      have : (so m == so n) = false := by
        rw [Bool.eq_false_iff]
        intro z
        exact e (so_inj (eq_of_beq z)).symm
      rw [this]
      exact lookup_zip_none h
section
variable {T : Tbl} {W : Wd T}
structure Mt (P : Program) (w : World) (K : PySem.W.Frag) (mg : Str -> Option Value) (base : Heap) {T : Tbl} (W : Wd T) (k : Nat) (m : String) (n : Nat) (φ : Sem) (b : Option Nat) : Prop where
  ex : ∀ c nm, W.has c -> T.res c m = some nm -> ∃ g fd ps, Meth K (W.cA c) (so m) g /\ FnOk P w K mg base (L2.CX P w) k g fd ps (spR W n (φ nm) b) /\ Binds K fd ps []
def tMethD {T : Tbl} (W : Wd T) (φ : Sem) (m : String) (n : Nat) (b : Option Nat) (E : XK) (ta : TE) (t : TA) : TE := fun σ H Q => ta σ H fun x H1 => ∃ a c nm dx fs, x = .ref a /\ H1 a = some (.ins (W.cA c) dx fs) /\ W.has c /\ T.res c m = some nm /\ fs.lookup (so m) = none /\
  t σ H1 fun vs H2 => spR W n (φ nm) b (x :: vs) H2 Q E
theorem passAt0 {X : Cx} (σ : St) : PassesAt (L2.CX X.prog X.w) X σ E0 := fun pins H s e s' I c => passE0 pins σ H s e s' I c
theorem px_methS {X : Cx} {E : St -> XK} {k n : Nat} {m : String} {φ : Sem} {b : Option Nat} {o e : Expr} {es : List Expr} {ta : TE} {t : TA} {apos pos : Pos} {pl : PySem.Sem Bool} (M : Mt X.prog X.w X.K X.mg X.base W k m n φ b) (hx : ∀ σ, PassesAt (L2.CX X.prog X.w) X σ (E σ)) (hr : Room k X.A) (hK : W.K = X.K) (he : PE X o ta) (ha : PA X (e :: es) t)
    (hst : starEach (e :: es) X.env = (false, eval e X.env) :: starEach es X.env := by rfl) (hpl : (backTo pos (starEach es X.env)).any (·.1) = false := by rfl)
    (ht : eval (.Call (.Attribute o (so m) apos) (e :: es) [] pos) X.env = (do
      let ov <- eval o X.env
      standAt apos.atName
      let (f, first) <- holding [ov] (getMethod ov (so m) pl)
      callWith pos f first (backTo pos (starEach (e :: es) X.env)) (backToKw pos (keywordEach [] X.env))) := by rfl) :
    PE X (.Call (.Attribute o (so m) apos) (e :: es) [] pos) (fun σ H Q => tMethD W φ m n b (E σ) ta t σ H Q) := by
  refine ⟨fun pins s σ H Q I h => ?_⟩
  refine PySem.W.methodCall_KW (pl := pl) (thn (he.run pins s σ H _ I h) fun u s1 ⟨x, H1, I1, rx, a, c, nm, dx, fs, ex, ea, hc, hn, l, q⟩ => ?_) ht
  subst ex
  obtain rfl : u = Value.ref a := rx
  obtain ⟨g, fd, ps, hm, F, hb⟩ := M.ex c nm hc hn
  refine getmeth_ok I1 ea (hK ▸ W.cl c hc) hm l ?_
  refine PySem.W.callWith_K (first := [.ref a]) (h₀ := X.base) I.ok.mod.kin hm.kp (thn (ha.run pos pins s1 σ H1 _ I1 q) fun us s2 ⟨vs, H2, I2, r, q2⟩ => ⟨I2.kIn, ?_⟩) hst hpl
  exact run_fnS (E := E) (us := .ref a :: us) (vs := .ref a :: vs) F hr hb (hx σ) I2 (.cons rfl r) q2
theorem px_meth0S {X : Cx} {E : St -> XK} {k n : Nat} {m : String} {φ : Sem} {b : Option Nat} {o : Expr} {ta : TE} {apos pos : Pos} {pl : PySem.Sem Bool} (M : Mt X.prog X.w X.K X.mg X.base W k m n φ b) (hx : ∀ σ, PassesAt (L2.CX X.prog X.w) X σ (E σ)) (hr : Room k X.A) (hK : W.K = X.K) (he : PE X o ta)
    (ht : eval (.Call (.Attribute o (so m) apos) [] [] pos) X.env = (do
      let ov <- eval o X.env
      standAt apos.atName
      let (f, first) <- holding [ov] (getMethod ov (so m) pl)
      callWith pos f first (backTo pos (starEach [] X.env)) (backToKw pos (keywordEach [] X.env))) := by rfl) :
    PE X (.Call (.Attribute o (so m) apos) [] [] pos) (fun σ H Q => tMethD W φ m n b (E σ) ta tNil σ H Q) := by
  refine ⟨fun pins s σ H Q I h => ?_⟩
  refine PySem.W.methodCall_KW (pl := pl) (thn (he.run pins s σ H _ I h) fun u s1 ⟨x, H1, I1, rx, a, c, nm, dx, fs, ex, ea, hc, hn, l, q⟩ => ?_) ht
  subst ex
  obtain rfl : u = Value.ref a := rx
  obtain ⟨g, fd, ps, hm, F, hb⟩ := M.ex c nm hc hn
  refine getmeth_ok I1 ea (hK ▸ W.cl c hc) hm l ?_
  exact PySem.W.callWith_K0 (first := [.ref a]) I1.kIn hm.kp (run_fnS (E := E) (us := [.ref a]) (vs := [.ref a]) F hr hb (hx σ) I1 (.cons rfl .nil) q)
theorem px_methX {X : Cx} {E : WX} {k n : Nat} {m : String} {φ : Sem} {b : Option Nat} {o e : Expr} {es : List Expr} {ta : TE} {t : TA} {apos pos : Pos} {pl : PySem.Sem Bool} (M : Mt X.prog X.w X.K X.mg X.base W k m n φ b) (tk : Takes X E) (hr : Room k X.A) (hK : W.K = X.K) (he : PE X o ta) (ha : PA X (e :: es) t)
    (hst : starEach (e :: es) X.env = (false, eval e X.env) :: starEach es X.env := by rfl) (hpl : (backTo pos (starEach es X.env)).any (·.1) = false := by rfl)
    (ht : eval (.Call (.Attribute o (so m) apos) (e :: es) [] pos) X.env = (do
      let ov <- eval o X.env
      standAt apos.atName
      let (f, first) <- holding [ov] (getMethod ov (so m) pl)
      callWith pos f first (backTo pos (starEach (e :: es) X.env)) (backToKw pos (keywordEach [] X.env))) := by rfl) :
    PE X (.Call (.Attribute o (so m) apos) (e :: es) [] pos) (fun σ H Q => tMethD W φ m n b (WE E σ) ta t σ H Q) := px_methS (E := fun σ => WE E σ) M (fun σ => L2.passAt tk σ) hr hK he ha hst hpl ht
theorem px_meth0 {X : Cx} {k n : Nat} {m : String} {φ : Sem} {b : Option Nat} {o : Expr} {ta : TE} {apos pos : Pos} {pl : PySem.Sem Bool} (M : Mt X.prog X.w X.K X.mg X.base W k m n φ b) (hr : Room k X.A) (hK : W.K = X.K) (he : PE X o ta)
    (ht : eval (.Call (.Attribute o (so m) apos) [] [] pos) X.env = (do
      let ov <- eval o X.env
      standAt apos.atName
      let (f, first) <- holding [ov] (getMethod ov (so m) pl)
      callWith pos f first (backTo pos (starEach [] X.env)) (backToKw pos (keywordEach [] X.env))) := by rfl) :
    PE X (.Call (.Attribute o (so m) apos) [] [] pos) (tMethD W φ m n b E0 ta tNil) := px_meth0S (E := fun _ => E0) M passAt0 hr hK he ht
theorem px_meth0X {X : Cx} {E : WX} {k n : Nat} {m : String} {φ : Sem} {b : Option Nat} {o : Expr} {ta : TE} {apos pos : Pos} {pl : PySem.Sem Bool} (M : Mt X.prog X.w X.K X.mg X.base W k m n φ b) (tk : Takes X E) (hr : Room k X.A) (hK : W.K = X.K) (he : PE X o ta)
    (ht : eval (.Call (.Attribute o (so m) apos) [] [] pos) X.env = (do
      let ov <- eval o X.env
      standAt apos.atName
      let (f, first) <- holding [ov] (getMethod ov (so m) pl)
      callWith pos f first (backTo pos (starEach [] X.env)) (backToKw pos (keywordEach [] X.env))) := by rfl) :
    PE X (.Call (.Attribute o (so m) apos) [] [] pos) (fun σ H Q => tMethD W φ m n b (WE E σ) ta tNil σ H Q) := px_meth0S (E := fun σ => WE E σ) M (fun σ => L2.passAt tk σ) hr hK he ht
def meth1 (T : Tbl) (φ : Sem) (m : String) (n : Nat) : List D -> Rz
  | .ins c ns xs :: ds => match T.res c m with
    | some nm => if pos m ns = none /\ ds.length + 1 = n then φ nm (.ins c ns xs :: ds) none else .no
    | none => .no
  | _ => .no
theorem meth1_ok {φ : Sem} {m : String} {n : Nat} {d : D} {ds : List D} (h : meth1 T φ m n (d :: ds) ≠ .no) : ∃ c ns xs nm, d = .ins c ns xs /\ T.res c m = some nm /\ pos m ns = none /\ (d :: ds).length = n /\ meth1 T φ m n (d :: ds) = φ nm (d :: ds) none := by
  cases d <;> first | (exact absurd rfl h) | skip
  rename_i c ns xs
  cases e : T.res c m with
  | none => exact absurd (by show (match T.res c m with | some nm => if pos m ns = none /\ ds.length + 1 = n then φ nm (.ins c ns xs :: ds) none else Rz.no | none => .no) = .no; rw [e]) h
  | some nm =>
    have e2 : meth1 T φ m n (.ins c ns xs :: ds) = if pos m ns = none /\ ds.length + 1 = n then φ nm (.ins c ns xs :: ds) none else Rz.no := by
      show (match T.res c m with | some nm => if pos m ns = none /\ ds.length + 1 = n then φ nm (.ins c ns xs :: ds) none else Rz.no | none => .no) = _
      rw [e]
    by_cases hh : pos m ns = none /\ ds.length + 1 = n
    · rw [if_pos hh] at e2
      exact ⟨c, ns, xs, nm, rfl, e, hh.1, hh.2, e2⟩
    · rw [if_neg hh] at e2
      exact absurd e2 h
theorem shr_ins {F : Hp} {c : String} {ns : List String} {xs : List D} {v : V} (h : Shr W F (.ins c ns xs) v) : ∃ a dx vs, v = .ref a /\ F a = some (.ins (W.cA c) dx ((ns.map so).zip vs)) /\ W.has c := by
  cases h with
  | ins ha hc _ _ => exact ⟨_, _, _, rfl, ha, hc⟩
def methE (T : Tbl) (φ : Sem) (m : String) (n : Nat) (f : Option D) (fs : Option (List D)) (v : Option D) (vs : Option (List D)) : Option (Kd × D) := match f, fs with
  | some d, some ds => (meth1 T φ m n (d :: ds)).toF
  | _, _ => match v, vs with
    | some d, some ds => (meth1 T φ m n (d :: ds)).toV
    | _, _ => none
def xMeth (φ : Sem) (m : String) (n : Nat) (a : XP W) (as : XA W) : XP W where
  t := tMethD W φ m n none E0 a.t as.t
  ev env := methE T φ m n (a.evF env) (as.evF env) (a.evV env) (as.evV env)
  snd := fun {env k d} e => by
    have viewed : ∀ {d0 ds}, a.evV env = some d0 -> as.evV env = some ds -> (meth1 T φ m n (d0 :: ds)).toV = some (k, d) -> AE W (tMethD W φ m n none E0 a.t as.t) env (rK W k d) := by
      intro d0 ds e1 e2 e
      obtain ⟨d2, b, h, hk⟩ := Rz.toV_ok e
      obtain ⟨c, ns, xs, nm, rfl, h1, h2, h3, h4⟩ := meth1_ok (T := T) (φ := φ) (m := m) (n := n) (d := d0) (ds := ds) (by rw [h]; exact fun z => nomatch z)
      rw [h4] at h
      refine fun e' F σ H L Q r q => a.sV e1 e' F σ H L _ r fun v F1 H1 x1 y1 => ?_
      obtain ⟨p, dx, vs, rfl, hp, hc⟩ := shr_ins y1
      refine ⟨p, c, nm, dx, _, rfl, hp, hc, h1, lookup_zip_none h2, as.sV e2 e' F1 σ H1 L _ (r.ext x1) fun ws F2 H2 x2 y2 => ?_⟩
      refine callV (x2.s) (.cons (y1.mono x2.h) y2) h3 h fun v H3 x3 y3 => q v F2 H3 ((x1.trans x2).trans x3) ?_
      rcases hk with ⟨hf, rfl, rfl⟩ | ⟨rfl, rfl⟩
      · rw [fz_isSh (isSh_flat hf)] at y3
        exact rO_sh (y3.flat hf)
      · exact y3
    unfold methE at e
    split at e
    · rename_i d0 ds e1 e2
      obtain ⟨rfl, b, h⟩ := Rz.toF_ok e
      obtain ⟨c, ns, xs, nm, rfl, h1, h2, h3, h4⟩ := meth1_ok (T := T) (φ := φ) (m := m) (n := n) (d := d0) (ds := ds) (by rw [h]; exact fun z => nomatch z)
      rw [h4] at h
      refine fun e' F σ H L Q r q => a.sF e1 e' F σ H L _ r fun v F1 H1 x1 y1 => ?_
      obtain ⟨p, dx, vs, rfl, hp, hc⟩ := shr_ins y1
      refine ⟨p, c, nm, dx, _, rfl, x1.s _ _ hp, hc, h1, lookup_zip_none h2, as.sF e2 e' F1 σ H1 L _ (r.ext x1) fun ws F2 H2 x2 y2 => ?_⟩
      exact callF x2.s (.cons (y1.mono x2.f) y2) h3 h fun v F3 H3 x3 y3 => q v F3 H3 ((x1.trans x2).trans x3) (rO_back (x1.trans x2).h y3)
    · split at e
      · exact viewed (by assumption) (by assumption) e
      · cases e
def mkR (r : Rz) : Option D := match r with
  | .ok .non (some d) => some d
  | _ => none
def mk1 (φ : Sem) (c ini : String) (n : Nat) (ds : List D) : Option D := if ds.length + 1 = n then mkR (φ ini (.oins c [] [] :: ds) (some 0)) else none
theorem mk1_ok {φ : Sem} {c ini : String} {n : Nat} {ds : List D} {d : D} (h : mk1 φ c ini n ds = some d) : (D.oins c [] [] :: ds).length = n /\ φ ini (.oins c [] [] :: ds) (some 0) = .ok .non (some d) := by
  obtain ⟨h1, h2⟩ : ds.length + 1 = n /\ mkR (φ ini (.oins c [] [] :: ds) (some 0)) = some d := by
    unfold mk1 at h
    split at h
    · exact ⟨by assumption, h⟩
    · cases h
  refine ⟨h1, ?_⟩
  unfold mkR at h2
  split at h2
  · cases h2; assumption
  · cases h2
theorem makeF {n : Nat} {φ : Sem} {c ini : String} {F H : Hp} {vs : List V} {ds : List D} {d : D} {Q : VK} {E : XK} (s : Same F H) (h : Shrs W F ds vs) (hc : W.has c) (hφ : mk1 φ c ini n ds = some d)
    (q : ∀ v F' H', Ext F H F' H' -> rO W d F' H' H v -> Q v H') (x dx : Addr) (hx : H x = none) (hd : H dx = none) (ne : dx ≠ x) :
    spR W n (φ ini) (some 0) (.ref x :: vs) (upd (upd H dx (.own x)) x (.ins (W.cA c) dx [])) (fun v H2 => v = .non /\ Q (.ref x) H2) E := by
  obtain ⟨hl, hφ⟩ := mk1_ok hφ
  have hs : Same H (upd (upd H dx (.own x)) x (.ins (W.cA c) dx [])) := (same_new hd).trans (same_new (by rw [upd_ne ne.symm]; exact hx))
  refine ⟨F, .oins c [] [] :: ds, [x] ++ [], s.trans hs, .cons (.oins (vs := []) (by rw [upd_same]; rfl) hc rfl .nil) h.owns, by simp, fun a m => ?_, hl, ?_, fun d' bd e F' H' v M Mb p o ob nd k => ?_, fun x' bd e => ?_⟩
  · obtain rfl : a = x := by simpa using m
    exact s.free hx
  · rw [hφ]; exact fun z => nomatch z
  · rw [hφ] at e; cases e
    have hv : v = .non := by cases o with | sh y => cases y; rfl
    have hM : M = [] := o.shNil rfl
    subst hM
    obtain ⟨w, hw, ow⟩ := ob
    cases hw
    refine ⟨hv, q _ F' H' ⟨p.f, p.s, fun a o ha => ?_, fun a o ha => ?_⟩ ⟨Mb, ow, by simpa using nd, fun a m => ⟨?_, (k a (by simpa using m)).1⟩⟩⟩
    · refine p.h a o (fun z => ?_) (hs _ _ ha)
      obtain rfl : a = x := by simpa using z
      rw [hx] at ha; cases ha
    · rcases p.n a o ha with z | z | z
      · exact .inl z
      · exact .inr (hs.free z)
      · obtain rfl : a = x := by simpa using z
        exact .inr hx
    · rcases (k a (by simpa using m)).2 with z | z
      · obtain rfl : a = x := by simpa using z
        exact hx
      · exact hs.free z
  · rw [hφ] at e; cases e
theorem makeV {n : Nat} {φ : Sem} {c ini : String} {F H : Hp} {vs : List V} {ds : List D} {d : D} {Q : VK} {E : XK} (s : Same F H) (h : Shrs W H ds vs) (hc : W.has c) (hφ : mk1 φ c ini n ds = some d)
    (q : ∀ v H', Ext F H F H' -> Shr W H' (fz d) v -> Q v H') (x dx : Addr) (hx : H x = none) (hd : H dx = none) (ne : dx ≠ x) :
    spR W n (φ ini) (some 0) (.ref x :: vs) (upd (upd H dx (.own x)) x (.ins (W.cA c) dx [])) (fun v H2 => v = .non /\ Q (.ref x) H2) E :=
  makeF (Same.refl H) h hc hφ (fun v F' H' x ⟨L, o, _, _⟩ => q v H' ⟨Same.refl _, s.trans (x.f.trans x.s), x.h, fun _ _ z => .inl z⟩ (o.view x.s fun _ _ _ z => z)) x dx hx hd ne
def makeE (φ : Sem) (c ini : String) (n : Nat) (dds : List D) (f v : Option (List D)) : Option (Kd × D) := match f with
  | some ds => (mk1 φ c ini n (ds ++ dds)).map (Prod.mk .fr)
  | none => match v with
    | some ds => (mk1 φ c ini n (ds ++ dds)).map fun d => (.vw, fz d)
    | none => none
def xMake (φ : Sem) (c ini : String) (n : Nat) (as : XA W) (dds : List D) (dvs : List V) (hd : ∀ F, Shrs W F dds dvs) : XP W where
  t := fun σ H Q => W.has c -> tMake (W.cA c) (spR W n (φ ini) (some 0)) dvs E0 as.t σ H Q
  ev env := makeE φ c ini n dds (as.evF env) (as.evV env)
  snd := fun {env k d} e e' F σ H L Q r q hc => by
    unfold makeE at e
    split at e
    · rename_i ds e1
      obtain ⟨d2, h, e⟩ := Option.map_eq_some_iff.mp e
      cases e
      exact as.sF e1 e' F σ H L _ r fun vs F1 H1 x1 y1 x dx hx hdx ne => makeF x1.s (y1.append (hd F1)) hc h (fun v F2 H2 x2 y2 => q v F2 H2 (x1.trans x2) (rO_back x1.h y2)) x dx hx hdx ne
    · split at e
      · rename_i ds e2
        obtain ⟨d2, h, e⟩ := Option.map_eq_some_iff.mp e
        cases e
        exact as.sV e2 e' F σ H L _ r fun vs F1 H1 x1 y1 x dx hx hdx ne => makeV x1.s (Shrs.append y1 (hd H1)) hc h (fun v H2 x2 y2 => q v F1 H2 (x1.trans x2) y2) x dx hx hdx ne
      · cases e
structure MkAt (P : Program) (w : World) (K : PySem.W.Frag) (mg : Str -> Option Value) (base : Heap) (k : Nat) (x : Str) (C : Addr) (n : Nat) (sp : Sp) : Prop where
  ex : ∃ f fd ps, Mk K C f /\ FnOk P w K mg base (L2.CX P w) k f fd ps sp /\ mg x = some (.ref C) /\ Binds K fd ps [] /\ ps.length = n
theorem px_make {X : Cx} {k n : Nat} {x : Str} {c : String} {sp : Sp} {e : Expr} {es : List Expr} {p pos : Pos} {t : TA} (M : MkAt X.prog X.w X.K X.mg X.base k x (W.cA c) n sp) (hc : W.has c) (hr : Room (k + 1) X.A) (hg : Gl X x)
    (ha : PA X (e :: es) t) (hdb : (x == ("__debug__" : Str)) = false := by decide) (he : starEach (e :: es) X.env = (false, eval e X.env) :: starEach es X.env := by rfl) (hpl : (backTo pos (starEach es X.env)).any (·.1) = false := by rfl) :
    PE X (.Call (.Name x p) (e :: es) [] pos) (fun σ H Q => W.has c -> tMake (W.cA c) sp [] E0 t σ H Q) := by
  obtain ⟨f, fd, ps, M, F, hm, hb, _⟩ := M.ex
  exact pe_imp hc (pe_make M F hr hg hm hb .nil passE0 ha hdb he hpl)
def rm0 (r : Rz) (e : Py.Env) : RM := match r with
  | .ok d _ => .ok d e
  | .exn x _ => .exn x e
  | .no => .no
def rm1 (r : Rz) (o : Option D) (i : Nat) (st : List Pst) (e : Py.Env) : RM := match r, o with
  | .ok d (some n), some d0 => .ok d (e.set i (some (d0.putAt st n)))
  | .exn x (some n), some d0 => .exn x (e.set i (some (d0.putAt st n)))
  | _, _ => .no
def meth2 (T : Tbl) (φ : Sem) (m : String) (n : Nat) : List D -> Rz
  | .oins c ns xs :: ds => match T.res c m with
    | some nm => if pos m ns = none /\ ds.length + 1 = n then φ nm (.oins c ns xs :: ds) (some 0) else .no
    | none => .no
  | _ => .no
theorem meth2_ok {φ : Sem} {m : String} {n : Nat} {d : D} {ds : List D} (h : meth2 T φ m n (d :: ds) ≠ .no) : ∃ c ns xs nm, d = .oins c ns xs /\ T.res c m = some nm /\ pos m ns = none /\ (d :: ds).length = n /\ meth2 T φ m n (d :: ds) = φ nm (d :: ds) (some 0) := by
  cases d <;> first | (exact absurd rfl h) | skip
  rename_i c ns xs
  cases e : T.res c m with
  | none => exact absurd (by show (match T.res c m with | some nm => if pos m ns = none /\ ds.length + 1 = n then φ nm (.oins c ns xs :: ds) (some 0) else Rz.no | none => .no) = .no; rw [e]) h
  | some nm =>
    have e2 : meth2 T φ m n (.oins c ns xs :: ds) = if pos m ns = none /\ ds.length + 1 = n then φ nm (.oins c ns xs :: ds) (some 0) else Rz.no := by
      show (match T.res c m with | some nm => if pos m ns = none /\ ds.length + 1 = n then φ nm (.oins c ns xs :: ds) (some 0) else Rz.no | none => .no) = _
      rw [e]
    by_cases hh : pos m ns = none /\ ds.length + 1 = n
    · rw [if_pos hh] at e2
      exact ⟨c, ns, xs, nm, rfl, e, hh.1, hh.2, e2⟩
    · rw [if_neg hh] at e2
      exact absurd e2 h
theorem call_put {φ : List D -> Option Nat -> Rz} {n : Nat} {e : Ent} {env : Py.Env} {F H : Hp} {σ : St} {L : List Addr} {i j : Nat} {st : List Pst} {nd d0 : D} {v0 vn : V} {as bs : List D} {vs ws : List V} {Q : VK} {E : XK}
    (rl : Rel W e env F σ H L) (h0 : env[i]? = some (some d0)) (h1 : d0.at st = some nd) (hs : σ[i]? = some (some v0)) (hp : VPath H v0 st vn) (os : Shrs W F as vs) (ot : Shrs W F bs ws) (hj : as.length = j) (hl : (as ++ nd :: bs).length = n) (hn : φ (as ++ nd :: bs) (some j) ≠ .no)
    (c : ∀ d n' v F' H' L' M, φ (as ++ nd :: bs) (some j) = .ok d (some n') -> Rel W e (env.set i (some (d0.putAt st n'))) F' σ H' L' -> Own W F' H' d v M -> (M ++ L').Nodup -> (∀ a ∈ M, F' a = none /\ (a ∈ e.L0 \/ e.H0 a = none)) -> Q v H')
    (cx : ∀ x n' F' H' L' C dd, φ (as ++ nd :: bs) (some j) = .exn x (some n') -> Rel W e (env.set i (some (d0.putAt st n'))) F' σ H' L' -> IsExn W F' x C dd -> E C dd H')
    (hok : ∀ d, φ (as ++ nd :: bs) (some j) ≠ .ok d none) (hex : ∀ x, φ (as ++ nd :: bs) (some j) ≠ .exn x none) : spR W n φ (some j) (vs ++ vn :: ws) H Q E := by
  obtain ⟨v0', vn', Ln, Lr, e1, p2, o, ndL, mem, put⟩ := rl.focus h0 h1
  rw [hs] at e1; cases e1
  cases hp.det p2
  rw [List.nodup_append] at ndL
  obtain ⟨n1, n2, n3⟩ := ndL
  have hO : Owns W F H (as ++ nd :: bs) (vs ++ vn :: ws) ([] ++ (Ln ++ [])) := Owns.append os.owns (.cons o ot.owns)
  rw [List.nil_append, List.append_nil] at hO
  have hjv : (vs ++ vn :: ws)[j]? = some vn := by
    rw [<- hj, os.length, List.getElem?_append_right (Nat.le_refl _), Nat.sub_self]; rfl
  have org : ∀ a, (a ∈ Ln \/ H a = none) -> a ∉ Lr /\ (a ∈ e.L0 \/ e.H0 a = none) := fun a h => by
    rcases h with z | z
    · exact ⟨fun y => n3 a z a y rfl, rl.ln a ((mem a).mp (.inl z))⟩
    · refine ⟨fun y => ?_, rl.h0 z⟩
      obtain ⟨o, ho⟩ := rl.slots.lives a ((mem a).mp (.inr y))
      rw [z] at ho; cases ho
  have back : ∀ {F' H' n' Mb}, Post F H Ln F' H' -> Own W F' H' n' vn Mb -> Mb.Nodup -> (∀ a ∈ Mb, F' a = none /\ (a ∈ Ln \/ H a = none)) -> ∃ L', Rel W e (env.set i (some (d0.putAt st n'))) F' σ H' L' /\ ∀ a ∈ L', a ∈ Mb \/ a ∈ Lr := by
    intro F' H' n' Mb p ow nb k
    refine put F' H' n' Mb p.f p.s p.h (fun a o q => (p.n a o q).elim .inl fun z => z.elim (fun z => .inr (.inl (.inl z))) fun z => .inr (.inr z)) ow ?_ fun a ha => ⟨(k a ha).1, .inr (org a (k a ha).2).2⟩
    rw [List.nodup_append]
    exact ⟨nb, n2, fun a ha b hb z => (org a (k a ha).2).1 (z ▸ hb)⟩
  refine ⟨F, as ++ nd :: bs, Ln, rl.sF, hO, n1, fun a m => rl.dj a ((mem a).mp (.inl m)), hl, hn, fun d bd eq F' H' v M Mb p o' ob nd' k => ?_, fun x bd eq F' H' C dd Mb p ie ob nb k => ?_⟩
  · cases bd with
    | none => exact absurd eq (hok d)
    | some n' =>
      obtain ⟨w, hw, ow⟩ := ob
      rw [hjv] at hw; cases hw
      rw [List.nodup_append] at nd'
      obtain ⟨m1, m2, m3⟩ := nd'
      obtain ⟨L', r', inL⟩ := back p ow m2 fun a ha => k a (List.mem_append_right _ ha)
      refine c d n' v F' H' L' M eq r' o' ?_ fun a ha => ⟨(k a (List.mem_append_left _ ha)).1, (org a (k a (List.mem_append_left _ ha)).2).2⟩
      rw [List.nodup_append]
      refine ⟨m1, r'.nd, fun a ha b hb z => ?_⟩
      subst z
      rcases inL a hb with y | y
      · exact m3 a ha a y rfl
      · exact (org a (k a (List.mem_append_left _ ha)).2).1 y
  · cases bd with
    | none => exact absurd eq (hex x)
    | some n' =>
      obtain ⟨w, hw, ow⟩ := ob
      rw [hjv] at hw; cases hw
      obtain ⟨L', r', inL⟩ := back p ow nb k
      exact cx x n' F' H' L' C dd eq r' ie
theorem callX {n : Nat} {φ : List D -> Option Nat -> Rz} {F H : Hp} {vs : List V} {args : List D} {Q : VK} {E : XK} (s : Same F H) (h : Shrs W F args vs) (hl : args.length = n) (hn : φ args none ≠ .no)
    (q : ∀ d b v F' H', φ args none = .ok d b -> Ext F H F' H' -> rO W d F' H' H v -> Q v H') (qx : ∀ x b F' H' C dd, φ args none = .exn x b -> Ext F H F' H' -> IsExn W F' x C dd -> E C dd H') : spR W n φ none vs H Q E := by
  refine ⟨F, args, [], s, h.owns, .nil, (fun a m => nomatch m), hl, hn, fun d' bd e F' H' v M Mb p o ob nd k => ?_, fun x bd e F' H' C dd Mb p ie ob nb k => ?_⟩
  · have ob : Mb = [] := ob
    subst ob
    rw [List.append_nil] at nd k
    exact q d' bd v F' H' e p.ext ⟨M, o, nd, fun a m => ⟨(k a m).2.elim (fun z => nomatch z) id, (k a m).1⟩⟩
  · exact qx x bd F' H' C dd e p.ext ie
def methM (T : Tbl) (φ : Sem) (m : String) (n i : Nat) (q : Option (List Pst × D)) (fs : Option (List D)) (env : Py.Env) : RM := match q, fs with
  | some (st, nd), some ds => if isSh nd = true then rm0 (meth1 T φ m n (nd :: ds)) env else rm1 (meth2 T φ m n (nd :: ds)) (getS env i) i st env
  | _, _ => .no
def xmMeth (φ : Sem) (m : String) (n : Nat) (p : XPl W) (as : XA W) : XM W where
  t E := fun σ H Q => tMethD W φ m n none (WE E σ) p.t as.t σ H Q \/ tMethD W φ m n (some 0) (WE E σ) p.t as.t σ H Q
  ev _ env := methM T φ m n p.root (p.ev env) (as.evF env) env
  snd := fun P E env hn e F σ H L Q hP r c cx => by
    match e1 : p.ev env, e2 : as.evF env, hn, c, cx with
    | none, _, hn, _, _ => exact absurd rfl hn
    | some _, none, hn, _, _ => exact absurd rfl hn
    | some (st, nd), some ds, hn, c, cx =>
      obtain ⟨d0, h0, h1⟩ := p.at_ e1
      obtain ⟨v0, _, _, _, hs, _⟩ := r.focus h0 h1
      unfold methM at hn c cx
      dsimp only at hn c cx
      by_cases hsh : isSh nd = true
      · rw [if_pos hsh] at hn c cx
        have hm : meth1 T φ m n (nd :: ds) ≠ .no := fun z => hn (by rw [z]; rfl)
        obtain ⟨cn, ns, xs, nm, rfl, h2, h3, h4, h5⟩ := meth1_ok hm
        rw [h5] at hn c cx hm
        refine .inl (p.loc e1 e F σ H L v0 _ r hs fun v F1 H1 x1 p1 => ?_)
        have r1 := r.ext x1
        obtain ⟨v0', vn, Ln, Lr, e5, p2, o, _⟩ := r1.focus h0 h1
        rw [hs] at e5; cases e5
        cases p1.det p2
        have sh := o.shr hsh
        obtain ⟨a, dx, vs, rfl, ha, hc⟩ := shr_ins sh
        refine ⟨a, cn, nm, dx, _, rfl, r1.sF _ _ ha, hc, h2, lookup_zip_none h3, as.sF e2 e F1 σ H1 L _ r1 fun ws F2 H2 x2 y2 => ?_⟩
        refine callX x2.s (.cons (sh.mono x2.f) y2) h4 hm (fun d b v F3 H3 eq x3 ⟨M, o3, nd3, k3⟩ => ?_) fun x b F3 H3 C dd eq x3 ie => ?_
        · rw [eq] at c
          have r2 := r1.ext x2
          exact c d env v F3 H3 L M rfl (r2.ext x3) o3 (nodup_new (H := H2) r2.nd nd3 r2.slots.lives fun a m => (k3 a m).1) fun a m => ⟨(k3 a m).2, r2.h0 (k3 a m).1⟩
        · rw [eq] at cx
          exact cx x env F3 H3 L C dd rfl ((r1.ext x2).ext x3) ie
      · rw [if_neg hsh] at hn c cx
        have hm : meth2 T φ m n (nd :: ds) ≠ .no := fun z => hn (by rw [z]; rfl)
        obtain ⟨cn, ns, xs, nm, rfl, h2, h3, h4, h5⟩ := meth2_ok hm
        rw [h5] at hn c cx hm
        have hg : getS env p.root = some d0 := by unfold getS; rw [h0]; rfl
        rw [hg] at hn c cx
        refine .inr (p.loc e1 e F σ H L v0 _ r hs fun v F1 H1 x1 p1 => ?_)
        have r1 := r.ext x1
        obtain ⟨v0', vn, Ln, Lr, e5, p2, o, _⟩ := r1.focus h0 h1
        rw [hs] at e5; cases e5
        cases p1.det p2
        cases o with
        | sh y => cases y
        | oins ha hc hl os =>
          refine ⟨_, cn, nm, _, _, rfl, ha, hc, h2, lookup_zip_none h3, as.sF e2 e F1 σ H1 L _ r1 fun ws F2 H2 x2 y2 => ?_⟩
          refine call_put (as := []) (vs := []) (r1.ext x2) h0 h1 hs (p1.mono x2.h) .nil y2 rfl h4 hm (fun d n' v F3 H3 L3 M eq r3 o3 nd3 k3 => ?_) (fun x n' F3 H3 L3 C dd eq r3 ie => ?_) (fun d z => ?_) fun x z => ?_
          · have eq : φ nm (.oins cn ns xs :: ds) (some 0) = .ok d (some n') := eq
            rw [eq] at c
            exact c d _ v F3 H3 L3 M rfl r3 o3 nd3 k3
          · have eq : φ nm (.oins cn ns xs :: ds) (some 0) = .exn x (some n') := eq
            rw [eq] at cx
            exact cx x _ F3 H3 L3 C dd rfl r3 ie
          · have z : φ nm (.oins cn ns xs :: ds) (some 0) = .ok d none := z
            rw [z] at hn
            exact hn rfl
          · have z : φ nm (.oins cn ns xs :: ds) (some 0) = .exn x none := z
            rw [z] at hn
            exact hn rfl
def setF (f : String) (d : D) : List String -> List D -> List String × List D
  | n :: ns, x :: xs => if n = f then (n :: ns, d :: xs) else ((n :: (setF f d ns xs).1), x :: (setF f d ns xs).2)
  | _, _ => ([f], [d])
def setFD (T : Tbl) (f : String) (n : D) (ds : List D) : Option (D × D) := match n, ds with
  | .oins c ns xs, [d] => if T.fOk c f = true /\ ns.length < 1000 then some (.oins c (setF f d ns xs).1 (setF f d ns xs).2, .non) else none
  | _, _ => none
def rSetF {T : Tbl} (W : Wd T) (f : Str) : V -> List V -> Hp -> VK -> Prop := fun x ys H Q => ∃ a C dx fs y, x = .ref a /\ ys = [y] /\ H a = some (.ins C dx fs) /\ Cls W.K C /\ NoAttr W.K C f /\ fs.length < 1000 /\ Q .non (upd H a (.ins C dx (putF f y fs)))
theorem mop_at {F H : Hp} {a : Addr} {L : List Addr} {Ms : List Addr} {n' d : D} {o : HO} {M' L2 : List Addr} {v' : V} {Q : VK} (s : Same F H) (nd : (Ms ++ (a :: L)).Nodup) (kF : ∀ b ∈ Ms ++ (a :: L), F b = none)
    (hn : a ∉ L2 -> Own W F (upd H a o) n' (.ref a) (a :: L2)) (od : Own W F H d v' M') (n2 : (M' ++ L2).Nodup) (sub : ∀ b ∈ M' ++ L2, b ∈ L \/ b ∈ Ms)
    (q : ∀ F' H' v' Ln' M', Same F F' -> Same F' H' -> (∀ b o, b ∉ a :: L -> H b = some o -> H' b = some o) -> (∀ b o, F' b = some o -> F b = some o \/ H b = none) -> Own W F' H' n' (.ref a) Ln' -> Own W F' H' d v' M' -> (M' ++ Ln').Nodup ->
      (∀ b ∈ M' ++ Ln', F' b = none /\ (b ∈ a :: L \/ b ∈ Ms \/ H b = none)) -> Q v' H') : Q v' (upd H a o) := by
  rw [List.nodup_append] at nd
  obtain ⟨n3, n4, n5⟩ := nd
  rw [List.nodup_cons] at n4
  have na : ∀ b ∈ M' ++ L2, b ≠ a := fun b hb z => by
    subst z
    rcases sub _ hb with y | y
    · exact n4.1 y
    · exact n5 _ y _ (List.mem_cons_self ..) rfl
  have Fa : F a = none := kF a (List.mem_append_right _ (List.mem_cons_self ..))
  have nL : a ∉ L2 := fun z => na a (List.mem_append_right _ z) rfl
  refine q F (upd H a o) v' (a :: L2) M' (Same.refl _) (same_upd s Fa) (fun b u hb hu => ?_) (fun b u hu => .inl hu) (hn nL) (own_upd od fun z => na a (List.mem_append_left _ z) rfl) ?_ (fun b hb => ?_)
  · rw [upd_ne (fun z => hb (by rw [z]; exact List.mem_cons_self ..))]; exact hu
  · rw [List.nodup_append] at n2 ⊢
    refine ⟨n2.1, List.nodup_cons.mpr ⟨fun z => na a (List.mem_append_right _ z) rfl, n2.2.1⟩, fun b hb c hc => ?_⟩
    rcases List.mem_cons.mp hc with z | z
    · rw [z]; exact na b (List.mem_append_left _ hb)
    · exact n2.2.2 b hb c z
  · rcases List.mem_append.mp hb with z | z
    · have := sub b (List.mem_append_left _ z)
      refine ⟨kF b ?_, ?_⟩
      · rcases this with y | y
        · exact List.mem_append_right _ (List.mem_cons_of_mem _ y)
        · exact List.mem_append_left _ y
      · rcases this with y | y
        · exact .inl (List.mem_cons_of_mem _ y)
        · exact .inr (.inl y)
    · rcases List.mem_cons.mp z with z | z
      · subst z; exact ⟨Fa, .inl (List.mem_cons_self ..)⟩
      · have := sub b (List.mem_append_right _ z)
        refine ⟨kF b ?_, ?_⟩
        · rcases this with y | y
          · exact List.mem_append_right _ (List.mem_cons_of_mem _ y)
          · exact List.mem_append_left _ y
        · rcases this with y | y
          · exact .inl (List.mem_cons_of_mem _ y)
          · exact .inr (.inl y)
theorem setF_owns {F H : Hp} {f : String} {d : D} {y : V} {M : List Addr} (o : Own W F H d y M) : ∀ {ns : List String} {xs : List D} {vs : List V} {L : List Addr}, Owns W F H xs vs L -> ns.length = vs.length -> (M ++ L).Nodup ->
    ∃ vs' L', putF (so f) y ((ns.map so).zip vs) = (((setF f d ns xs).1).map so).zip vs' /\ (setF f d ns xs).1.length = vs'.length /\ Owns W F H (setF f d ns xs).2 vs' L' /\ (∀ a ∈ L', a ∈ L \/ a ∈ M) /\ L'.Nodup
  | [], [], [], _, .nil, _, nd => ⟨[y], M ++ [], rfl, rfl, .cons o .nil, fun a m => .inr (by simpa using m), by simpa using nd⟩
  | n :: ns, x :: xs, v :: vs, _, .cons (L := L1) (M := L2) h t, hl, nd => by
    rw [List.nodup_append] at nd
    obtain ⟨n1, n2, n3⟩ := nd
    rw [List.nodup_append] at n2
    obtain ⟨p1, p2, p3⟩ := n2
    by_cases e : n = f
    · refine ⟨y :: vs, M ++ L2, ?_, ?_, ?_, fun a m => ?_, ?_⟩
      · subst e
        show (if so n = so n then (so n, y) :: (ns.map so).zip vs else _) = ((if n = n then (n :: ns, d :: xs) else ((n :: (setF n d ns xs).1), x :: (setF n d ns xs).2)).1.map so).zip (y :: vs)
        rw [if_pos rfl, if_pos rfl]; rfl
      · show ((if n = f then (n :: ns, d :: xs) else ((n :: (setF f d ns xs).1), x :: (setF f d ns xs).2)).1).length = _
        rw [if_pos e]; simpa using hl
      · show Owns W F H ((if n = f then (n :: ns, d :: xs) else ((n :: (setF f d ns xs).1), x :: (setF f d ns xs).2)).2) _ _
        rw [if_pos e]; exact .cons o t
      · rcases List.mem_append.mp m with m | m
        · exact .inr m
        · exact .inl (List.mem_append_right _ m)
      · rw [List.nodup_append]
        exact ⟨n1, p2, fun a ha b hb => n3 a ha b (List.mem_append_right _ hb)⟩
    · obtain ⟨vs', L', e1, e2, e3, e4, e5⟩ := setF_owns (f := f) o t (ns := ns) (by simpa using hl) (by
        rw [List.nodup_append]
        exact ⟨n1, p2, fun a ha b hb => n3 a ha b (List.mem_append_right _ hb)⟩)
      refine ⟨v :: vs', L1 ++ L', ?_, ?_, ?_, fun a m => ?_, ?_⟩
      · show (if so n = so f then (so n, y) :: (ns.map so).zip vs else (so n, v) :: putF (so f) y ((ns.map so).zip vs)) = ((if n = f then (n :: ns, d :: xs) else ((n :: (setF f d ns xs).1), x :: (setF f d ns xs).2)).1.map so).zip (v :: vs')
        rw [if_neg (fun z => e (so_inj z)), if_neg e, e1]; rfl
      · show ((if n = f then (n :: ns, d :: xs) else ((n :: (setF f d ns xs).1), x :: (setF f d ns xs).2)).1).length = _
        rw [if_neg e]; simpa using e2
      · show Owns W F H ((if n = f then (n :: ns, d :: xs) else ((n :: (setF f d ns xs).1), x :: (setF f d ns xs).2)).2) _ _
        rw [if_neg e]; exact .cons h e3
      · rcases List.mem_append.mp m with m | m
        · exact .inl (List.mem_append_left _ m)
        · exact (e4 a m).imp (List.mem_append_right _) id
      · rw [List.nodup_append]
        refine ⟨p1, e5, fun a ha b hb z => ?_⟩
        subst z
        rcases e4 a hb with q | q
        · exact p3 a ha a q rfl
        · exact n3 a q a (List.mem_append_left _ ha) rfl
  | [], _ :: _, _, _, .cons _ _, hl, _ => by simp at hl
  | _ :: _, [], _, _, .nil, hl, _ => by simp at hl
theorem mop_setF {f : String} : Mop W (rSetF W (so f)) (setFD T f) := by
  intro n ds n' d hf F H vn Ln vs Ms Q s o os nd kF q
  unfold setFD at hf
  split at hf
  · rename_i c ns xs d0
    obtain ⟨⟨hf1, hf2⟩, e⟩ := ite_some hf
    cases e
    obtain ⟨u, rfl, o2⟩ := os.one
    cases o with
    | sh y => cases y
    | @oins a c dx ns xs vs L ha hc hl hs =>
      obtain ⟨vs', L', e1, e2, e3, e4, e5⟩ := setF_owns (f := f) o2 hs hl (nd_tail nd)
      refine ⟨a, _, dx, _, u, rfl, rfl, ha, W.cl c hc, W.na c f hc hf1, by simp; omega, ?_⟩
      refine mop_at (L2 := L') (M' := []) (d := .non) s nd kF (fun na => .oins (by rw [upd_same, e1]) hc e2 (owns_upd e3 na)) (.sh .non) (by simpa using e5) (fun b hb => e4 b (by simpa using hb)) q
  · cases hf
def fldK (T : Tbl) {W : Wd T} (p : XPl W) (f : String) (d : D) (e : Py.Env) : RS := RS.ofO ((p.ev e).bind fun q => (setFD T f q.2 [d]).bind fun z => (getS e p.root).map fun d0 => e.set p.root (some (d0.putAt q.1 z.1)))
def xsFld (p : XPl W) (f : String) (m : XM W) : XS W where
  t E := sFld W.K p.t (m.t E) (so f)
  ev P env := (m.ev P env).thenS (fldK T p f)
  snd := fun P E env hn e F σ H L Dn hP r s => by
    have hm : m.ev P env ≠ .no := fun z => hn (by rw [z]; rfl)
    refine (m.snd P E env).run hm hP r s (fun x e1 h => by rw [h]; rfl) fun d env' v F' H' L' M h r' o nd kk => ?_
    rw [h] at hn s
    have hn : fldK T p f d env' ≠ .no := hn
    have s : Sat W e E (ends (fldK T p f d env')) Dn := s
    unfold fldK at hn s
    cases h2 : ((p.ev env').bind fun q => (setFD T f q.2 [d]).bind fun z => (getS env' p.root).map fun d0 => env'.set p.root (some (d0.putAt q.1 z.1))) with
    | none => rw [h2] at hn; exact absurd rfl hn
    | some e2 =>
      rw [h2] at s
      obtain ⟨⟨st, n⟩, e1, h3⟩ := Option.bind_eq_some_iff.mp h2
      obtain ⟨⟨n', d'⟩, e3, h4⟩ := Option.bind_eq_some_iff.mp h3
      obtain ⟨d0', e4, h5⟩ := Option.map_eq_some_iff.mp h4
      subst h5
      obtain ⟨d0, h0, h1⟩ := p.at_ e1
      rw [getS_some e4] at h0
      cases h0
      obtain ⟨v0, _, _, _, hs, _⟩ := r'.focus (getS_some e4) h1
      refine p.loc e1 e F' σ H' L' v0 _ r' hs fun vn F1 H1 x1 p1 => ?_
      rw [List.nodup_append] at nd
      obtain ⟨nd1, nd2, nd3⟩ := nd
      have go : rSetF W (so f) vn [v] H1 (fun _ H => Dn.nx σ H) := by
        refine am_mop mop_setF (r'.ext x1) (getS_some e4) h1 hs p1 e3 (Ms := M ++ []) (.cons (o.frame x1.f fun a _ o q => x1.h _ _ q) .nil) (by simpa using nd1) (fun a ha => ?_) fun v2 F2 H2 L2 M2 r2 o2 n2 k2 => s.nx _ _ _ _ _ rfl r2
        have ha : a ∈ M := by simpa using ha
        refine ⟨fun z => nd3 a ha a z rfl, ?_, (kk a ha).2⟩
        obtain ⟨u, hu⟩ := o.lives a ha
        cases z : F1 a with
        | none => rfl
        | some w =>
          rcases x1.n a w z with y | y
          · rw [(kk a ha).1] at y; cases y
          · rw [hu] at y; cases y
      obtain ⟨a, C, dx, fs, y, ex, ey, ha, c1, c2, c3, q⟩ := go
      cases ey
      exact ⟨a, C, dx, fs, ex, ha, c1, c2, c3, q⟩
structure MethAt (K : PySem.W.Frag) (C : Addr) (m : String) (x qual : Str) (st : Stmt) (dvs : List V) (kws : List (Str × V)) : Prop where
  ex : ∃ g fd, FunD K x qual (defArgs st) (defBody st) (defScope st) dvs kws g fd /\ Meth K C (so m) g
structure MdOk (P : Program) (w : World) (K : PySem.W.Frag) (mg : Str -> Option Value) (base : Heap) (k : Nat) (C : Addr) (m : String) (n : Nat) (sp : Sp) : Prop where
  ex : ∃ g fd ps, Meth K C (so m) g /\ FnOk P w K mg base (L2.CX P w) k g fd ps sp /\ Binds K fd ps [] /\ ps.length = n
section
variable {P : Program} {w : World} {K : PySem.W.Frag} {mg : Str -> Option Value} {base : Heap}
theorem md_of {C : Addr} {m : String} {x qual : Str} {st : Stmt} {N ps : List Str} {n k : Nat} {sp : Sp} (D : MethAt K C m x qual st [] []) (S : FnScope N ps (defScope st)) (bp : BindsP x qual st ps) (hn : ps.length = n) (len : ∀ vs H Q E, sp vs H Q E -> vs.length = ps.length)
    (hbody : ∀ (f : Addr) (cdv : Value) (A : Around) (outer : List PySem.Env) (s : Shared) (H : Hp) (vs : List V) (Q : VK) (E : XK), Room k (A.deeper (PyProof.Rows.envOfC qual (defScope st) s.heap.objs.size f cdv)) -> sp vs H Q E ->
      ∃ t, PSs (cxOf (L2.CX P w) P w K mg base N qual (defScope st) f cdv A outer s H E) (defBody st) t /\ t { nx := fun _ H' => Q .non H', rt := Q } (L2.start N vs) H) : MdOk P w K mg base (k + 1) C m n sp := by
  obtain ⟨f, fd, F, hm⟩ := D.ex
  refine ⟨f, fd, ps, hm, F.ok S len fun cdv A outer s H vs Q E hr h => ?_, F.bindsN bp, hn⟩
  obtain ⟨t, q1, q2⟩ := hbody f cdv A outer s H vs Q E hr h
  exact ⟨t, q1, q2⟩
theorem md_no {C : Addr} {m : String} {x qual : Str} {st : Stmt} {ps : List Str} {n k : Nat} (D : MethAt K C m x qual st [] []) (bp : BindsP x qual st ps) (hn : ps.length = n) {sp : Sp} (h : ∀ vs H Q E, ¬ sp vs H Q E) : MdOk P w K mg base k C m n sp := by
  obtain ⟨f, fd, F, hm⟩ := D.ex
  exact ⟨f, fd, ps, hm, ⟨fun vs H Q E z => absurd z (h vs H Q E), fun A outer s H args us vs Q E _ _ _ _ z => absurd z (h vs H Q E)⟩, F.bindsN bp, hn⟩
theorem mk_of {C : Addr} {x : Str} {f : Addr} {n k : Nat} {sp : Sp} (M : Mk K C f) (D : MdOk P w K mg base k C "__init__" n sp) (hm : mg x = some (.ref C)) : MkAt P w K mg base k x C n sp := by
  obtain ⟨g, fd, ps, hg, F, hb, hl⟩ := D.ex
  have e := M.init
  rw [hg.at_] at e
  cases e
  exact ⟨_, fd, ps, M, F, hm, hb, hl⟩
end
structure Pp (P : Program) (w : World) (K : PySem.W.Frag) (mg : Str -> Option Value) (base : Heap) {T : Tbl} (W : Wd T) (k : Nat) (m : String) (φ : Sem) : Prop where
  ex : ∀ c nm, W.has c -> T.res c m = some nm -> ∃ p g fd ps, PropOf K (W.cA c) (so m) p g /\ FnOk P w K mg base (L2.CX P w) k g fd ps (spR W 1 (φ nm) none) /\ Binds K fd ps []
def rLenI {T : Tbl} (W : Wd T) (φ : Sem) : List V -> Hp -> VK -> Prop := fun xs H Q => ∃ a c nm dx fs, xs = [.ref a] /\ H a = some (.ins (W.cA c) dx fs) /\ W.has c /\ T.res c "__len__" = some nm /\ spR W 1 (φ nm) none [.ref a] H (fun v H' => ∃ i, v = .int i /\ 0 <= i /\ i < 2 ^ 63 /\ Q (.int i) H') E0
theorem len_own {prog : Program} {w : World} {A : Around} {E : Value -> Shared -> Prop} {s : Shared} {K : PySem.W.Frag} {x C f : Addr} {ox : Obj} {od : Option Obj} {Q : Value -> Shared -> Prop} (X : K.In s.heap) (I : PySem.W.InstAt s.heap x ox C od) (hs : PySem.W.findIn K (.ref C) "__len__" = some (some (.ref f))) (hf : PySem.W.isFn K (.ref f) = true)
    (h : wpAny (model prog w) A.in1 (call (.ref f) [.ref x]) (PySem.W.LenBack Q) E s) : wpAny (model prog w) A (call (.builtin "len") [.ref x]) Q E s := by
  refine Calls.call_function_entry PySem.kind_len PySem.plain_len PySem.entry_len (PySem.args_len1 _) ?_
  unfold Builtin.«len»
  refine wpAny_bind (m := oneArg "len" _) (wpAny_pure ?_)
  refine wpAny_bind (m := callSpecial? (.ref x) (Str.ofString "__len__")) (PySem.W.special_fn X I hs (beq_iff_eq.mp hf) (wpAny_mono h (fun r s' hr => ?_) fun _ _ y => y))
  cases r <;> first | exact hr.elim | skip
  rename_i n u
  obtain ⟨⟨h0, h1⟩, hq⟩ := hr
  refine wpAny_bind (wpAny_holding (wpAny_pure ?_))
  refine wpAny_bind (wpAny_letGo ?_)
  show wpAny _ _ (if n < 0 then _ else _) _ _ _
  rw [if_neg (by omega)]
  show wpAny _ _ (if n ≥ 2 ^ 63 then _ else _) _ _ _
  rw [if_neg (by omega)]
  exact wpAny_bind (wpAny_mkInt (wpAny_pure ⟨_, rfl, hq⟩))
theorem call_lenI {X : Cx} {k : Nat} {φ : Sem} (M : Mt X.prog X.w X.K X.mg X.base W k "__len__" 1 φ none) (hr : Room (k + 1) X.A) (hK : W.K = X.K) : CallR X (.builtin "len") (rLenI W φ) := by
  rintro pins s σ H xs us Q I rv ⟨a, c, nm, dx, fs, rfl, ea, hc, hn, h⟩
  cases rv with
  | @cons _ u _ _ ru rt =>
  cases rt
  obtain rfl : u = Value.ref a := ru
  obtain ⟨g, fd, ps, hm, F, hb⟩ := M.ex c nm hc hn
  obtain ⟨mA, O, _, _, _, _⟩ := ins_get I.hok ea
  obtain ⟨od, J, _⟩ := O.look
  have hl : ([Value.ref a] ++ []).length = ps.length := by rw [<- F.len _ _ _ _ h]; rfl
  refine len_own I.kIn J hm.at_ hm.fn (wpAny_call ?_)
  refine codeAny_mono (F.run X.A.in1 X.stack s H ⟨[.ref a], []⟩ [.ref a] [.ref a] _ E0 hr.in1 I.env0.in1 (hb s [.ref a] I.kIn hl) (.cons rfl .nil) h) fun r s' hq => ?_
  cases r with
  | error er => exact passE0 pins σ H s er s' I hq
  | ok fl =>
    cases fl with
    | ret u =>
      obtain ⟨v, H', I3, rv, i, rfl, h0, h1, q3⟩ := I.after hq
      obtain ⟨t, rfl⟩ := (show ∃ t, u = Value.int i t from rv)
      exact ⟨⟨h0, h1⟩, .int i, H', I3.tok _, ⟨_, rfl⟩, q3⟩
    | next => exact False.elim hq
    | brk => exact False.elim hq
    | cont => exact False.elim hq
def lenI1 (T : Tbl) (φ : Sem) : List D -> Option D
  | [.ins c ns xs] => match T.res c "__len__" with
    | some nm => match φ nm [.ins c ns xs] none with
      | .ok (.int i) _ => if 0 <= i /\ i <= 1000000 then some (.int i) else none
      | _ => none
    | none => none
  | ds => lenD ds
theorem lenI1_ok {φ : Sem} {ds : List D} {d : D} (h : lenI1 T φ ds = some d) : lenD ds = some d \/ ∃ c ns xs nm i b, ds = [.ins c ns xs] /\ T.res c "__len__" = some nm /\ φ nm ds none = .ok (.int i) b /\ 0 <= i /\ i <= 1000000 /\ d = .int i := by
  unfold lenI1 at h
  split at h
  · split at h
    · split at h
      · obtain ⟨⟨h0, h1⟩, e⟩ := ite_some h
        exact .inr ⟨_, _, _, _, _, _, rfl, by assumption, by assumption, h0, h1, e.symm⟩
      · cases h
    · cases h
  · exact .inl h
theorem lenI_cb {φ : Sem} {ds : List D} {d : D} (h : lenI1 T φ ds = some d) : Cb W (fun xs H Q => rLenA W.K xs H Q \/ rLenI W φ xs H Q) ds d := by
  rcases lenI1_ok h with h | ⟨c, ns, xs, nm, i, b, rfl, h1, h2, h3, h4, rfl⟩
  · exact fun F H vs Q s y q => .inl (len_cb h F H vs Q s y q)
  · refine fun F H vs Q s y q => .inr ?_
    cases y with
    | cons y t =>
      cases t
      obtain ⟨a, dx, vs, rfl, ha, hc⟩ := shr_ins y
      refine ⟨a, c, nm, dx, _, rfl, ha, hc, h1, callV s (.cons y .nil) rfl h2 fun v H2 x2 y2 => ?_⟩
      rw [fz_isSh rfl] at y2
      cases y2
      exact ⟨i, rfl, h3, by omega, q _ F H2 x2 (rO_sh .int)⟩
def xLenU (φ : Sem) (as : XA W) : XP W := xCb (fun xs H Q => rLenA W.K xs H Q \/ rLenI W φ xs H Q) (lenI1 T φ) lenI_cb as
end
end Py
namespace Py
open PySem L2
section
variable {M : Model} {A : Around} {E : Value -> Shared -> Prop} {s : Shared} {pos : Pos} {f : Value} {first : List Value} {Q : Value -> Shared -> Prop}
end
section
variable {T : Tbl} {W : Wd T}
end
end Py
namespace L2
open PySem PySem.Spec PyProof.Rows
def rSortDR (K : PySem.W.Frag) : List V -> List V -> Hp -> VK -> Prop := fun vs zs H Q => ∃ (a : Addr) (xs : List V) (ds : List PyData), vs = [V.ref a] /\ zs = [V.bl true] /\ SqL K H a xs /\ DpAll K H xs ds /\ PySem.W.AllAlike ds /\ Sortable2 ds /\ (∀ d ∈ ds, d.depth <= 60) /\
  ∀ p, H p = none -> Q (.ref p) (upd H p (.lst (((xs.zip ds).mergeSort (PySem.W.dataLe true Prod.snd)).map Prod.fst)))
theorem cr_sortedDR {X : Cx} (hu : X.A.units + 64 < cLine) : CallRK X (.builtin "sorted") ["reverse"] (rSortDR X.K) := by
  intro pins s σ H vs zs us ws Q I r rz h
  obtain ⟨a, xs, ds, rfl, rfl, hs, hd, ha, hk, hn, q⟩ := h
  obtain ⟨its, rv, hl, hz⟩ := I.list hs
  rw [Vals.ref1 r]
  obtain ⟨w, rfl, rw'⟩ : ∃ w, ws = [w] /\ RelV (.bl true) w := by
    cases rz with
    | cons h t => cases t; exact ⟨_, rfl, h⟩
  obtain rfl : w = Value.bool true := rw'
  have hlen := hd.len
  have hm := zip_snd hlen
  have e1 := each_dp I hd rv
  have hzl : (xs.zip ds).length = xs.length := by rw [List.length_zip]; omega
  refine sorted_rev_data2 (b := true) (enc := Prod.snd) (bs := xs.zip ds) hl.isList e1 (e1.mono fun _ _ h => h.2) (by rw [hm]; exact ha) (by rw [hm]; exact hk) (by rw [hzl]; exact hz) (fun b hb => ?_) fun out ho eo => ?_
  · have : b.2 ∈ ds := by rw [<- hm]; exact List.mem_map.mpr ⟨b, hb, rfl⟩
    have := hn _ this
    omega
  · obtain ⟨ep, he'⟩ := PyProof.Rows.sortedAll_at s.heap its out.toArray
    have hv := each_vals (fun _ _ h => h.1) eo
    refine ⟨.ref _, upd H (s.heap.objs.size + 1) (.lst (((xs.zip ds).mergeSort (PySem.W.dataLe true Prod.snd)).map Prod.fst)), I.laid (t' := s.toks) (fun _ _ => PyProof.Rows.sortedAll_old) (Nat.le_succ _) ⟨?_, out, ep, hv, he'⟩, rfl, q _ (I.hok.fresh (Nat.le_succ _))⟩
    rw [List.length_map, List.length_mergeSort, hzl]
    exact hz
end L2
namespace Py
open PySem L2
section
variable {T : Tbl} {W : Wd T}
end
section
variable {T : Tbl} {W : Wd T} {env : Py.Env} {β : Type} {enc : β -> D} {dat : β -> PyData}
theorem sort_twoR {α β : Type} {vs : List α} {xs : List β} {ps : List PyData} (h1 : vs.length = ps.length) (h2 : xs.length = ps.length) :
    ∃ T : List (α × β), T.Perm (vs.zip xs) /\ ((vs.zip ps).mergeSort (PySem.W.dataLe true Prod.snd)).map Prod.fst = T.map Prod.fst /\ ((xs.zip ps).mergeSort (PySem.W.dataLe true Prod.snd)).map Prod.fst = T.map Prod.snd := by
  let Z : List ((α × β) × PyData) := (vs.zip xs).zip ps
  have e1 : Z.map (fun z => (z.1.1, z.2)) = vs.zip ps := by
    apply List.ext_getElem?
    intro i
    simp only [Z, List.getElem?_map, List.getElem?_zip_eq_some, List.zip_eq_zipWith, List.getElem?_zipWith]
    cases vs[i]? <;> cases hx : xs[i]? <;> cases hp : ps[i]? <;> simp
    · have := List.getElem?_eq_none_iff.mp hx
      have := (List.getElem?_eq_some_iff.mp hp).1
      omega
  have e2 : Z.map (fun z => (z.1.2, z.2)) = xs.zip ps := by
    apply List.ext_getElem?
    intro i
    simp only [Z, List.getElem?_map, List.zip_eq_zipWith, List.getElem?_zipWith]
    cases hv : vs[i]? <;> cases hx : xs[i]? <;> cases hp : ps[i]? <;> simp
    · have := List.getElem?_eq_none_iff.mp hv
      have := (List.getElem?_eq_some_iff.mp hp).1
      omega
  refine ⟨(Z.mergeSort (PySem.W.dataLe true Prod.snd)).map (·.1), ?_, ?_, ?_⟩
  · have := (List.mergeSort_perm Z (PySem.W.dataLe true Prod.snd)).map (·.1)
    refine this.trans ?_
    rw [List.map_fst_zip (by rw [List.length_zip]; omega)]
  · rw [<- e1, <- PySem.W.sort_maps (r := PySem.W.dataLe true fun z : (α × β) × PyData => z.2) (s := PySem.W.dataLe true Prod.snd) (fun z : (α × β) × PyData => (z.1.1, z.2)) (fun _ _ _ _ => rfl), List.map_map, List.map_map]
    rfl
  · rw [<- e2, <- PySem.W.sort_maps (r := PySem.W.dataLe true fun z : (α × β) × PyData => z.2) (s := PySem.W.dataLe true Prod.snd) (fun z : (α × β) × PyData => (z.1.2, z.2)) (fun _ _ _ _ => rfl), List.map_map, List.map_map]
    rfl
def sortDR (xs : List D) : Option (List D) := (pds xs).bind fun ps => if sortOk ps = true then some (((xs.zip ps).mergeSort (PySem.W.dataLe true Prod.snd)).map Prod.fst) else none
theorem sortDR_map (hp : ∀ b, pd (enc b) = some (dat b)) (bs : List β) (ho : sortOk (bs.map dat) = true) : sortDR (bs.map enc) = some ((bs.mergeSort (PySem.W.dataLe true dat)).map enc) := by
  unfold sortDR
  rw [pds_mapD hp]
  show (if sortOk (bs.map dat) = true then _ else none) = _
  rw [if_pos ho]
  congr 1
  have e : (bs.map enc).zip (bs.map dat) = bs.map fun b => (enc b, dat b) := by rw [List.zip_map']
  rw [e, <- PySem.W.sort_maps (r := PySem.W.dataLe true dat) (s := PySem.W.dataLe true Prod.snd) (fun b => (enc b, dat b)) (fun _ _ _ _ => rfl), List.map_map]
  rfl
def xSortedR (a : XP W) : XP W where
  t := tCKw (rSortDR W.K) (tCons a.t tNil) (tCons (tC (.bl true)) tNil)
  ev env := (a.evK env).bind fun d => (seqOf d).bind fun p => if p.1 = false then (sortDR p.2).map fun ys => (.fr, .olst ys) else none
  snd := fun {env k d} e => by
    obtain ⟨d1, e1, e⟩ := Option.bind_eq_some_iff.mp e
    obtain ⟨⟨b, xs⟩, e3, e⟩ := Option.bind_eq_some_iff.mp e
    cases b with
    | true => cases e
    | false =>
      obtain ⟨ys, e4, e⟩ := Option.map_eq_some_iff.mp e
      cases e
      obtain ⟨ps, e5, e6⟩ := Option.bind_eq_some_iff.mp e4
      obtain ⟨ho, rfl⟩ := ite_some e6
      obtain ⟨s1, s2, s3⟩ := sortOk_ok ho
      intro e' F σ H L Q r q
      refine a.sK e1 e' F σ H L _ r fun v F1 H1 x1 ⟨L1, o⟩ => ?_
      obtain ⟨a, vs, rfl, sh, sq⟩ := seqOf_ok x1.s o e3
      have hl := pds_len e5
      obtain ⟨TT, hT, t1, t2⟩ := sort_twoR (vs := vs) (xs := xs) (ps := ps) (by rw [<- sh.length, hl]) hl
      refine ⟨a, vs, ps, rfl, rfl, sq, Shrs.dp (sh.mono x1.s) e5, s1, s2, s3, fun p hp => q _ F1 _ (x1.trans (.newH x1.s hp)) ⟨[p], ?_, by simp, fun x m => by
        rw [List.mem_singleton.mp m]; exact ⟨x1.h.free hp, x1.s.free hp⟩⟩⟩
      rw [t1, t2]
      exact .olst upd_same (shrs_pairsD TT fun p m => shrs_zipD sh p (hT.mem_iff.mp m)).owns
end
end Py
namespace Py
open PySem L2
section
variable {T : Tbl} {W : Wd T} {env env' : Py.Env} {P : List Nat} {E : WX}
theorem Rel.comp {e : Ent} {F F' H H' : Hp} {σ σ' : St} {L L' : List Addr} (r1 : Rel W e env F σ H L) (r2 : Rel W ⟨F, H, L, e.pins⟩ env' F' σ' H' L') : Rel W e env' F' σ' H' L' := by
  have up : ∀ a, (a ∈ L \/ H a = none) -> a ∈ e.L0 \/ e.H0 a = none := fun a h => h.elim (r1.ln a) r1.h0
  refine ⟨r2.sF, r2.slots, r2.nd, r2.dj, r1.s0.trans r2.s0, fun a o h => ?_, fun a o h1 h2 => r2.fr a o (fun z => ?_) (r1.fr a o h1 h2), fun a h => up a (r2.ln a h), r2.pin⟩
  · rcases r2.nw a o h with z | z | z
    · exact r1.nw a o z
    · rcases up a (.inr z) with y | y
      · exact .inr (.inr y)
      · exact .inr (.inl y)
    · rcases up a (.inl z) with y | y
      · exact .inr (.inr y)
      · exact .inr (.inl y)
  · rcases r1.ln a z with y | y
    · exact h1 y
    · rw [h2] at y; cases y
theorem Rel.base {e : Ent} {F H : Hp} {σ : St} {L : List Addr} (r : Rel W e env F σ H L) : Rel W ⟨F, H, L, e.pins⟩ env F σ H L :=
  ⟨r.sF, r.slots, r.nd, r.dj, Same.refl _, fun a o h => .inl h, fun a o _ h => h, fun a h => .inl h, r.pin⟩
inductive RL where
  | ok (ds : List D) (env : Py.Env) | exn (x : Exn) (env : Py.Env) | no
def ALr {T : Tbl} (W : Wd T) (P : List Nat) (E : WX) (t : TA) (env : Py.Env) (r : RL) : Prop := r ≠ .no ->
  ∀ (e : Ent) (F : Hp) (σ : St) (H : Hp) (L : List Addr) (Q : List V -> Hp -> Prop), P = e.pins.map (·.1) -> Rel W e env F σ H L ->
    (∀ ds env' vs F' H' L', r = .ok ds env' -> Rel W e env' F' σ H' L' -> Shrs W F' ds vs -> Q vs H') ->
    (∀ x env' F' H' L' C dd, r = .exn x env' -> Rel W e env' F' σ H' L' -> IsExn W F' x C dd -> E C dd σ H') -> t σ H Q
structure XMs {T : Tbl} (W : Wd T) where
  t : WX -> TA
  ev : List Nat -> Py.Env -> RL
  snd : ∀ P E env, ALr W P E (t E) env (ev P env)
inductive RT where
  | ok (b : Bool) (env : Py.Env) | exn (x : Exn) (env : Py.Env) | no
def ATr {T : Tbl} (W : Wd T) (P : List Nat) (E : WX) (t : TT) (env : Py.Env) (r : RT) : Prop := r ≠ .no ->
  ∀ (e : Ent) (F : Hp) (σ : St) (H : Hp) (L : List Addr) (Q : Bool -> Hp -> Prop), P = e.pins.map (·.1) -> Rel W e env F σ H L ->
    (∀ b env' F' H' L', r = .ok b env' -> Rel W e env' F' σ H' L' -> Q b H') ->
    (∀ x env' F' H' L' C dd, r = .exn x env' -> Rel W e env' F' σ H' L' -> IsExn W F' x C dd -> E C dd σ H') -> t σ H Q
structure XTM {T : Tbl} (W : Wd T) where
  t : WX -> TT
  ev : List Nat -> Py.Env -> RT
  snd : ∀ P E env, ATr W P E (t E) env (ev P env)
def RT.of (o : Option Bool) (e : Py.Env) : RT := match o with
  | some b => .ok b e
  | none => .no
def RT.then (r : RT) (f : Bool -> Py.Env -> RT) : RT := match r with
  | .ok d e => f d e
  | .exn x e => .exn x e
  | .no => .no
def RT.thenS (r : RT) (f : Bool -> Py.Env -> RS) : RS := match r with
  | .ok d e => f d e
  | .exn x e => .ex x e
  | .no => .no
theorem Sat.base {e : Ent} {F H : Hp} {σ : St} {L : List Addr} {A : AEnds} {Dn : Ends} (r : Rel W e env F σ H L) (s : Sat W e E A Dn) : Sat W ⟨F, H, L, e.pins⟩ E A Dn := by
  refine ⟨fun env' F' σ' H' L' a r' => s.nx _ _ _ _ _ a (r.comp r'), fun d env' F' σ' H' L' v M a r' o nd k => s.rt _ _ _ _ _ _ _ _ a (r.comp r') o nd fun b hb => ⟨(k b hb).1, ?_⟩, fun env' F' σ' H' L' a r' => s.bk _ _ _ _ _ a (r.comp r'), fun env' F' σ' H' L' a r' => s.ct _ _ _ _ _ a (r.comp r'), fun x env' F' σ' H' L' C dd a r' ie => s.ex _ _ _ _ _ _ _ _ a (r.comp r') ie⟩
  rcases (k b hb).2 with z | z
  · exact r.ln b z
  · exact r.h0 z
end
end Py
namespace Py
open PySem L2
section
variable {CX : CXT} {P : Program} {w : World} {K : PySem.W.Frag} {mg : Str -> Option Value} {base : Heap}
structure ItAt (P : Program) (w : World) (K : PySem.W.Frag) (mg : Str -> Option Value) (base : Heap) (C : Addr) (f : String) : Prop where
  ex : ∃ g, Meth K C "__iter__" g /\ ∀ (A : Around) (out : List PySem.Env) (s : Shared) (H : Hp) (a dx l : Addr) (fs : List (Str × V)) (zs : List V), Room 1 A -> Env0 P w K mg base A out s H -> H a = some (.ins C dx fs) -> fs.lookup (so f) = some (.ref l) -> SqL K H l zs ->
    codeAny (model P w) A (.call (.ref g) ⟨[.ref a], []⟩) (CR CX0 out P w H s (fun v H' => ∃ it, v = .ref it /\ H it = none /\ s.heap.objs.size <= it /\ H' = upd H it (ItO l it 0)) E0) s
end
section
variable {X : Cx} {pins : List (Addr × Obj)} {σ : St} {H : Hp} {s : Shared}
end
section
variable {prog : Program} {w : World}
end
section
variable {T : Tbl} {W : Wd T}
structure Its (P : Program) (w : World) (K : PySem.W.Frag) (mg : Str -> Option Value) (base : Heap) {T : Tbl} (W : Wd T) : Prop where
  at_ : ∀ c f, W.has c -> T.it c = some f -> ItAt P w K mg base (W.cA c) f
def InsL {T : Tbl} (W : Wd T) (H : Hp) (a l : Addr) (zs : List V) : Prop := ∃ c f dx fs, W.has c /\ T.it c = some f /\ H a = some (.ins (W.cA c) dx fs) /\ fs.lookup (so f) = some (.ref l) /\ SqL W.K H l zs
end
end Py
namespace Py
open PySem L2
section
variable {T : Tbl} {W : Wd T} {X : Cx} {pins : List (Addr × Obj)} {σ : St} {H : Hp} {s : Shared}
end
end Py
namespace Py
open PySem L2
section
variable {T : Tbl} {W : Wd T} {env : Py.Env} {d : D}
def itOf (T : Tbl) : D -> Option (List D)
  | .ins c ns xs => (T.it c).bind fun f => (pos f ns).bind fun j => (xs[j]?).bind lstOf
  | .oins c ns xs => (T.it c).bind fun f => (pos f ns).bind fun j => (xs[j]?).bind lstOf
  | _ => none
theorem InsL.mono {H H' : Hp} (e : Same H H') {a l : Addr} {zs : List V} (h : InsL W H a l zs) : InsL W H' a l zs := by
  obtain ⟨c, f, dx, fs, h1, h2, h3, h4, h5⟩ := h
  exact ⟨c, f, dx, fs, h1, h2, e _ _ h3, h4, e.seq h5⟩
def seqFI (T : Tbl) (d : D) : Option (List D) := match seqF d with
  | some ds => some ds
  | none => guardB (isSh d) (itOf T d)
end
theorem ro0 {k : Nat} {A : Around} (r : Room (k + 3) A) : Room k A := r.mono (by omega)
theorem ro1 {k : Nat} {A : Around} (r : Room (k + 3) A) : Room (k + 1) A := r.mono (by omega)
section
variable {T : Tbl} {W : Wd T} {X : Cx}
end
end Py
namespace Py
open PySem L2
structure Dun {T : Tbl} (W : Wd T) : Prop where
  sf : ∀ c, W.has c -> PySem.W.selfFirst W.K (W.cA c) = true
  nt : ∀ c t, W.has c -> t ∈ ["NoneType", "bool", "int", "str", "list", "tuple", "dict"] -> PySem.W.notFirst W.K (W.cA c) (.type t) = true
  gi : ∀ c g, W.has c -> PySem.W.findIn W.K (.ref (W.cA c)) (so "__getitem__") = some (some (.ref g)) -> PySem.W.fnIn W.K g = true
section
variable {T : Tbl} {W : Wd T}
section
variable {X : Cx} {pins : List (Addr × Obj)} {σ : St} {H : Hp} {s : Shared}
end
end
end Py
namespace L2
open PySem PySem.Spec PyProof.Rows
section
variable {prog : Program} {w : World} {A : Around} {E : Value -> Shared -> Prop} {s : Shared}
end
section
variable {X : Cx} {pins : List (Addr × Obj)} {σ : St} {H : Hp} {s : Shared}
end
section
variable {prog : Program} {w : World} {A : Around} {E : Value -> Shared -> Prop} {s : Shared} {l : Addr} {its : List Value} {ns : List Int} {Q : Value -> Shared -> Prop}
end
section
variable {X : Cx}
end
end L2
namespace Py
open PySem L2
section
variable {T : Tbl} {W : Wd T} {env : Py.Env}
end
end Py
namespace Py
open PySem L2
section
variable {T : Tbl} {W : Wd T} {env : Py.Env} {d : D}
theorem set_split {α : Type} {xs : List α} {j : Nat} (h : j < xs.length) (d : α) : xs.set j d = xs.take j ++ [d] ++ xs.drop (j + 1) := by
  rw [List.set_eq_take_append_cons_drop, if_pos h, List.append_assoc]; rfl
end
end Py
namespace Py
open PySem L2
def mgM {α : Type} : List Bool -> List α -> List α -> List α
  | true :: bs, m :: ms, ws => m :: mgM bs ms ws
  | false :: bs, ms, w :: ws => w :: mgM bs ms ws
  | _, _, _ => []
theorem mgM_rel : ∀ {bs : List Bool} {mz zs : List V} {mv ws : List Value}, Vals mz mv -> Vals zs ws -> Vals (mgM bs mz zs) (mgM bs mv ws)
  | [], _, _, _, _, _, _ => .nil
  | true :: bs, _, _, _, _, .nil, _ => .nil
  | true :: bs, _, _, _, _, .cons h t, r => .cons h (mgM_rel t r)
  | false :: bs, _, _, _, _, r, .nil => by cases r <;> exact .nil
  | false :: bs, _, _, _, _, r, .cons h t => by cases r <;> exact .cons h (mgM_rel (by first | exact .nil | exact .cons (by assumption) (by assumption)) t)
def cV : D -> V
  | .int i => .int i
  | .str x => .str (so x)
  | .bl b => .bl b
  | _ => .non
def cst : D -> Bool
  | .int _ | .str _ | .bl _ | .non => true
  | _ => false
section
variable {T : Tbl} {W : Wd T}
theorem shr_cst {F : Hp} {d : D} (h : cst d = true) : Shr W F d (cV d) := by cases d <;> first | (cases h; done) | exact .int | exact .str | exact .bl | exact .non
theorem mgM_shr {F : Hp} : ∀ {bs : List Bool} {dd zs : List D} {ws : List V}, dd.all cst = true -> Shrs W F zs ws -> Shrs W F (mgM bs dd zs) (mgM bs (dd.map cV) ws)
  | [], _, _, _, _, _ => .nil
  | true :: bs, [], _, _, _, _ => .nil
  | true :: bs, d :: dd, _, _, h, r => by
    rw [List.all_cons, Bool.and_eq_true] at h
    exact .cons (shr_cst h.1) (mgM_shr h.2 r)
  | false :: bs, dd, _, _, h, .nil => by cases dd <;> exact .nil
  | false :: bs, dd, _, _, h, .cons x t => by cases dd <;> exact .cons x (mgM_shr h t)
theorem if_some' {α : Type} {c : Prop} [Decidable c] {a : Option α} {b : α} (h : (if c then a else none) = some b) : c /\ a = some b := by
  split at h
  · exact ⟨by assumption, h⟩
  · cases h
def mkN (φ : Sem) (c ini : String) (n m N : Nat) (bs : List Bool) (dd ds zs : List D) : Option D := if ds.length = n /\ zs.length = m then mk1 φ c ini N (ds ++ mgM bs dd zs) else none
def makeNE (φ : Sem) (c ini : String) (n m N : Nat) (bs : List Bool) (dd : List D) (f g v w : Option (List D)) : Option (Kd × D) := match f, g with
  | some ds, some zs => (mkN φ c ini n m N bs dd ds zs).map (Prod.mk .fr)
  | _, _ => match v, w with
    | some ds, some zs => (mkN φ c ini n m N bs dd ds zs).map fun d => (.vw, fz d)
    | _, _ => none
def xMakeN (φ : Sem) (c ini : String) (n m N : Nat) (bs : List Bool) (dd : List D) (hd : dd.all cst = true) (as ks : XA W) : XP W where
  t := fun σ H Q => W.has c -> tMakeK (W.cA c) n m (spR W N (φ ini) (some 0)) (fun vs zs => vs ++ mgM bs (dd.map cV) zs) E0 as.t ks.t σ H Q
  ev env := makeNE φ c ini n m N bs dd (as.evF env) (ks.evF env) (as.evV env) (ks.evV env)
  snd := fun {env k d} e e' F σ H L Q r q hc => by
    unfold makeNE at e
    split at e
    · rename_i ds zs e1 e2
      obtain ⟨d2, h, e⟩ := Option.map_eq_some_iff.mp e
      cases e
      obtain ⟨⟨l1, l2⟩, h⟩ := if_some' h
      refine as.sF e1 e' F σ H L _ r fun vs F1 H1 x1 y1 => ks.sF e2 e' F1 σ H1 L _ (r.ext x1) fun ws F2 H2 x2 y2 => ?_
      have y1 : Shrs W F1 ds vs := y1
      have y2 : Shrs W F2 zs ws := y2
      exact ⟨by rw [<- y1.length, l1], by rw [<- y2.length, l2], fun x dx hx hdx ne => makeF x2.s (Shrs.append (y1.mono x2.f) (mgM_shr hd y2)) hc h (fun v F3 H3 x3 y3 => q v F3 H3 ((x1.trans x2).trans x3) (rO_back (x1.trans x2).h y3)) x dx hx hdx ne⟩
    · split at e
      · rename_i ds zs e1 e2
        obtain ⟨d2, h, e⟩ := Option.map_eq_some_iff.mp e
        cases e
        obtain ⟨⟨l1, l2⟩, h⟩ := if_some' h
        refine as.sV e1 e' F σ H L _ r fun vs F1 H1 x1 y1 => ks.sV e2 e' F1 σ H1 L _ (r.ext x1) fun ws F2 H2 x2 y2 => ?_
        have y1 : Shrs W H1 ds vs := y1
        have y2 : Shrs W H2 zs ws := y2
        exact ⟨by rw [<- y1.length, l1], by rw [<- y2.length, l2], fun x dx hx hdx ne => makeV x2.s (Shrs.append (y1.mono x2.h) (mgM_shr hd y2)) hc h (fun v H3 x3 y3 => q v F2 H3 ((x1.trans x2).trans x3) y3) x dx hx hdx ne⟩
      · cases e
end
def KShape (K : PySem.W.Frag) (x qual : Str) (st : Stmt) (kws : List (Str × V)) (ps : List Str) (n : Nat) (ks : List Str) (bs : List Bool) (dvs : List V) : Prop :=
  ∀ f fd, FunD K x qual (defArgs st) (defBody st) (defScope st) [] kws f fd -> ∃ g, KBn K fd ps n ks g (fun vs zs => vs ++ mgM bs dvs zs)
theorem kshape1 {K : PySem.W.Frag} {x qual : Str} {st : Stmt} {kws : List (Str × V)} {ps : List Str} {n : Nat} {ks : List Str} {bs : List Bool} (ms : List (Str × V)) (hk : kws ≠ []) (hms : ∀ q ∈ ms, q ∈ kws)
    (h : ∀ (D : Addr) (doc pm : Value) (an : Option Addr) (cdv ct : Value) (us mv ws : List Value), us.length = n -> mv.length = ms.length -> ws.length = ks.length ->
      KwChain D ((ms.map (·.1)).zip mv) (bindArgs (PySem.W.fnOf x qual (defArgs st) (defBody st) (defScope st) .none (.ref D) doc pm an cdv ct) ⟨us, ks.zip ws⟩) (ps.zip (us ++ mgM bs mv ws))) :
    KShape K x qual st kws ps n ks bs (ms.map (·.2)) := fun f fd F => by
  obtain ⟨mv, hb⟩ := F.kbinds0 (ps := ps) n ks ms (fun us mz ws => us ++ mgM bs mz ws) hk hms (fun r1 r2 r3 => r1.append (mgM_rel r2 r3)) h
  exact ⟨_, hb⟩
structure DfD (P : Program) (w : World) (K : PySem.W.Frag) (mg : Str -> Option Value) (base : Heap) (k : Nat) (x qual : Str) (st : Stmt) (kws : List (Str × V)) (ps : List Str) (sp : Sp) : Prop where
  ex : ∃ f fd, FnOk P w K mg base (L2.CX P w) k f fd ps sp /\ mg x = some (.ref f) /\ PySem.W.keepIn K (.ref f) = true /\ FunD K x qual (defArgs st) (defBody st) (defScope st) [] kws f fd
structure MkD (P : Program) (w : World) (K : PySem.W.Frag) (mg : Str -> Option Value) (base : Heap) (k : Nat) (x : Str) (C : Addr) (qual : Str) (st : Stmt) (kws : List (Str × V)) (ps : List Str) (sp : Sp) : Prop where
  ex : ∃ f fd, Mk K C f /\ FnOk P w K mg base (L2.CX P w) k f fd ps sp /\ mg x = some (.ref C) /\ FunD K "__init__" qual (defArgs st) (defBody st) (defScope st) [] kws f fd
section
variable {P : Program} {w : World} {K : PySem.W.Frag} {mg : Str -> Option Value} {base : Heap}
theorem mkD_of {C : Addr} {x qual : Str} {st : Stmt} {kws : List (Str × V)} {N ps : List Str} {k : Nat} {sp : Sp} {f0 : Addr} (M : Mk K C f0) (hm : mg x = some (.ref C)) (D : MethAt K C "__init__" "__init__" qual st [] kws) (S : FnScope N ps (defScope st)) (len : ∀ vs H Q E, sp vs H Q E -> vs.length = ps.length)
    (hbody : ∀ (f : Addr) (cdv : Value) (A : Around) (outer : List PySem.Env) (s : Shared) (H : Hp) (vs : List V) (Q : VK) (E : XK), Room k (A.deeper (PyProof.Rows.envOfC qual (defScope st) s.heap.objs.size f cdv)) -> sp vs H Q E ->
      ∃ t, PSs (cxOf (L2.CX P w) P w K mg base N qual (defScope st) f cdv A outer s H E) (defBody st) t /\ t { nx := fun _ H' => Q .non H', rt := Q } (L2.start N vs) H) : MkD P w K mg base (k + 1) x C qual st kws ps sp := by
  obtain ⟨f, fd, F, hg⟩ := D.ex
  have e := M.init
  rw [hg.at_] at e
  cases e
  refine ⟨_, fd, M, F.ok S len fun cdv A outer s H vs Q E hr h => ?_, hm, F⟩
  obtain ⟨t, q1, q2⟩ := hbody _ cdv A outer s H vs Q E hr h
  exact ⟨t, q1, q2⟩
theorem mkD_no {C : Addr} {x qual : Str} {st : Stmt} {kws : List (Str × V)} {ps : List Str} {k : Nat} {sp : Sp} {f0 : Addr} (M : Mk K C f0) (hm : mg x = some (.ref C)) (D : MethAt K C "__init__" "__init__" qual st [] kws) (h : ∀ vs H Q E, ¬ sp vs H Q E) : MkD P w K mg base k x C qual st kws ps sp := by
  obtain ⟨f, fd, F, hg⟩ := D.ex
  have e := M.init
  rw [hg.at_] at e
  cases e
  exact ⟨_, fd, M, ⟨fun vs H Q E z => absurd z (h vs H Q E), fun A outer s H args us vs Q E _ _ _ _ z => absurd z (h vs H Q E)⟩, hm, F⟩
end
section
variable {X : Cx} {k n : Nat} {x qual : Str} {st : Stmt} {kws0 : List (Str × V)} {ps ks : List Str} {bs : List Bool} {dvs : List V} {sp : Sp} {p pos : Pos} {e : Expr} {es : List Expr} {kws : List Keyword} {t tk : TA}
theorem px_makeN0 {C : String} {T : Tbl} {W : Wd T} (M : MkD X.prog X.w X.K X.mg X.base k x (W.cA C) qual st kws0 ps sp) (hb : KShape X.K "__init__" qual st kws0 ps 1 ks bs dvs) (hc : W.has C) (hr : Room (k + 1) X.A) (hg : Gl X x)
    (hkw : PK X kws tk) (hall : (backToKw pos (keywordEach kws X.env)).all (·.1.isSome) = true := by rfl) (hks : (backToKw pos (keywordEach kws X.env)).filterMap (·.1) = ks := by rfl)
    (hdb : (x == ("__debug__" : Str)) = false := by decide)
    (hpl : ((backTo pos (starEach [] X.env)).any (·.1) || (backToKw pos (keywordEach kws X.env)).any (·.1.isNone)) = false := by rfl) :
    PE X (.Call (.Name x p) [] kws pos) (fun σ H Q => W.has C -> tMakeK (W.cA C) 0 ks.length sp (fun vs zs => vs ++ mgM bs dvs zs) E0 tNil tk σ H Q) := by
  obtain ⟨f, fd, M, F, hm, FD⟩ := M.ex
  obtain ⟨g, hb⟩ := hb f fd FD
  exact pe_imp hc (pe_makeK0 M F hr hg hm hb passE0 hkw hall hks hdb hpl)
theorem px_glI {x : Str} {i : Int} {pos : Pos} (h : ∃ t, X.mg x = some (.int i t)) (hg : Gl X x := by rfl) (hd : (x == ("__debug__" : Str)) = false := by decide) : PE X (.Name x pos) (tC (.int i)) := by
  obtain ⟨t, h⟩ := h
  exact pe_glob hg h ⟨t, rfl⟩ hd
end
section
variable {P : Program} {w : World} {K : PySem.W.Frag} {mg : Str -> Option Value} {base : Heap}
end
section
variable {T : Tbl} {W : Wd T}
end
end Py
namespace Py
open PySem L2
def keyD : D -> Option Key
  | .int i => some (.inl i)
  | .str x => some (.inr (so x))
  | _ => none
def dg : List Key -> List D -> Key -> Option D
  | k' :: ks, x :: xs, k => if k' = k then some x else dg ks xs k
  | _, _, _ => none
section
variable {T : Tbl} {W : Wd T} {env : Py.Env} {d : D}
theorem keyD_ok {F : Hp} {v : V} {k : Key} (h : Shr W F d v) (e : keyD d = some k) : v = kV k := by
  cases h <;> first | (cases e; rfl) | cases e
theorem dg_own {F H : Hp} {k : Key} : ∀ {ks : List Key} {xs : List D} {vs : List V} {L : List Addr}, Owns W F H xs vs L -> ks.length = vs.length ->
    (∀ d, dg ks xs k = some d -> ∃ v M, valV (ks.zip vs) k = some v /\ Own W F H d v M) /\ (dg ks xs k = none -> valV (ks.zip vs) k = none)
  | [], xs, vs, _, o, hl => by
    cases vs with
    | nil => cases o; exact ⟨fun d h => by simp [dg] at h, fun _ => rfl⟩
    | cons v vs => simp at hl
  | k' :: ks, _, _, _, .nil, hl => by simp at hl
  | k' :: ks, _, _, _, .cons (v := v) (vs := vs) (L := L1) h t, hl => by
    obtain ⟨i1, i2⟩ := dg_own (k := k) (ks := ks) t (by simpa using hl)
    rw [List.zip_cons_cons]
    by_cases e : k' = k
    · unfold dg
      rw [if_pos e, valV_pos (p := (k', v)) e]
      exact ⟨fun d hd => by cases hd; exact ⟨v, L1, rfl, h⟩, fun z => nomatch z⟩
    · unfold dg
      rw [if_neg e, valV_neg (p := (k', v)) e]
      exact ⟨i1, i2⟩
def dicOf : D -> Option (List Key × List D)
  | .dic ks xs => some (ks, xs)
  | .odic ks xs => some (ks, xs)
  | _ => none
theorem dicOf_ok {F H : Hp} {v : V} {L : List Addr} {ks : List Key} {xs : List D} (s : Same F H) (o : Own W F H d v L) (h : dicOf d = some (ks, xs)) : ∃ a vs M, v = .ref a /\ Rd H a (.dK (ks.zip vs)) /\ ks.length = vs.length /\ ks.Nodup /\ Owns W F H xs vs M := by
  cases o with
  | sh y =>
    cases y <;> first | (cases h; done) | skip
    rename_i a1 vs1 h1 h2 h3 h4
    cases h
    exact ⟨_, _, [], rfl, rd_same s h1, h2, h3, Shrs.owns h4⟩
  | odic ha hl hn hs => cases h; exact ⟨_, _, _, rfl, .inl ha, hl, hn, hs⟩
  | olst => cases h
  | odit => cases h
  | odig => cases h
  | olf => cases h
  | oxt => cases h
  | otup => cases h
  | oins => cases h
def xDnew {T : Tbl} (W : Wd T) : XP W where
  t := tDNewK
  ev _ := some (.fr, .odic [] [])
  snd := fun e => by
    cases e
    exact fun e' F σ H L Q r q p hp => q _ F _ (.newH r.sF hp) ⟨[p], .odic (vs := []) upd_same rfl .nil .nil, by simp, fun x m => by rw [List.mem_singleton.mp m]; exact ⟨hp, r.sF.free hp⟩⟩
def DGetN (H : Hp) (a : Addr) (y : V) (o : Option V) : Prop := DGet H a y o \/ (y = .non /\ (∃ kvs, Rd H a (.dK kvs)) /\ o = none)
section
variable {X : Cx} {pins : List (Addr × Obj)} {σ : St} {H : Hp} {s : Shared} {A : Around} {E : Value -> Shared -> Prop} {kvs : List (Key × V)} {a : Addr}
theorem d_get2None {z : V} {r : Value} {Q : Value -> Shared -> Prop} (I : Inv X pins σ H s) (e : Rd H a (.dK kvs)) (rd : RelV z r) (h : ∀ s', Inv X pins σ H s' -> Q r s') : wpAny (model X.prog X.w) A (call (.builtin "dict.get") [.ref a, .none, r]) Q E s := by
  obtain ⟨_, hd, vs, _, dd⟩ := dk_rd I.hok e
  obtain ⟨f, hm, hf⟩ := none_map dd
  have hk : (noneKind X.prog X.w).is none .none = true := rfl
  refine call_meetsIn PySem.F.slot_dict_get dd.typeIs PySem.F.entry_dict_get (PySem.F.args_dict_get_3 _ _ _) (meets_dict_get_default (noneKind X.prog X.w) a hk hd r) ⟨_, hm, ?_⟩
  rw [hf]
  exact h _ (I.tok _)
end
def tDGet2N (td ty tx : TE) : TE := fun σ H Q => td σ H fun x H1 => ∃ a, x = .ref a /\ IsD H1 a /\ ty σ H1 fun y H2 => tx σ H2 fun z H3 => ∃ o, DGetN H3 a y o /\ Q (o.getD z) H3
theorem pe_dget2N {X : Cx} {o e f : Expr} {td ty tx : TE} {apos cpos : Pos} (hu : X.A.units + 1 < cLine) (ho : PE X o td) (he : PE X e ty) (hf : PE X f tx) (m : M2 X o "get" apos e f cpos) : PE X (.Call (.Attribute o "get" apos) [e, f] [] cpos) (tDGet2N td ty tx) := by
  refine ⟨fun pins s σ H Q I h => ?_⟩
  refine wpAny_Call_method m.base m.few m.line PySem.F.plainAttrs_dict PySem.F.slot_dict_get PySem.F.type_dict_get (thn (ho.run pins s σ H _ I h) fun u s1 ⟨x, H1, I1, rx, a, ex, d, q1⟩ => ?_)
  subst ex
  obtain rfl : u = Value.ref a := rx
  obtain ⟨t1, t2, _⟩ := isD_at I1 d
  refine ⟨t1, t2, ?_⟩
  rw [m.trees]
  refine Calls.callWith_builtin rfl (Calls.evalArgs_plain (Calls.spliced_cons (thn (he.run pins s1 σ H1 _ I1 q1) fun iv s2 ⟨y, H2, I2, ry, q2⟩ =>
    Calls.spliced_cons (thn (hf.run pins s2 σ H2 _ I2 q2) fun fv s3 ⟨z, H3, I3, rz, o, g, q3⟩ => Calls.spliced_nil ?_))))
  rcases g with g | ⟨ey, ⟨kvs, e⟩, eo⟩
  · exact d_get2 hu I3 g ry rz fun w' s4 I4 rw' => ⟨_, H3, I4, rw', q3⟩
  · subst ey eo
    obtain rfl : iv = Value.none := ry
    exact d_get2None I3 e rz fun s4 I4 => ⟨_, H3, I4, rz, q3⟩
def getE (ks : List Key) (xs : List D) (p : Kd) (y : D) (z : Kd × D) : Option (Kd × D) := match y with
  | .non => some z
  | y => (keyD y).map fun k => match dg ks xs k with
    | some x => p.of x
    | none => z
theorem rK_back {F H H0 H1 : Hp} {k : Kd} {v : V} {d : D} (e : Same H0 H1) (h : rK W k d F H H1 v) : rK W k d F H H0 v := by
  cases k with
  | fr => exact rO_back e h
  | pl => exact h
  | vw => exact h
def xDget2 (a b c : XP W) : XP W where
  t := tDGet2N a.t b.t c.t
  ev env := (a.ev env).bind fun p => (dicOf p.2).bind fun q => (b.evV env).bind fun y => (c.ev env).bind fun z => getE q.1 q.2 p.1 y z
  snd := fun {env k d} e => by
    obtain ⟨⟨kp, dp⟩, e1, e⟩ := Option.bind_eq_some_iff.mp e
    obtain ⟨⟨ks, xs⟩, e2, e⟩ := Option.bind_eq_some_iff.mp e
    obtain ⟨y, e3, e⟩ := Option.bind_eq_some_iff.mp e
    obtain ⟨⟨kz, dz⟩, e4, e⟩ := Option.bind_eq_some_iff.mp e
    intro e' F σ H L Q r q
    refine a.snd e1 e' F σ H L _ r fun v F1 H1 x1 y1 => ?_
    obtain ⟨M, o⟩ := rK_own y1
    obtain ⟨da, vs, M1, rfl, rd, hl, hn, os⟩ := dicOf_ok (basis_same x1.s) o e2
    refine ⟨da, rfl, .inl ⟨_, rd⟩, b.sV e3 e' F1 σ H1 L _ (r.ext x1) fun u F2 H2 x2 y2 => c.snd e4 e' F2 σ H2 L _ ((r.ext x1).ext x2) fun w F3 H3 x3 y3 => ?_⟩
    have x12 := x2.trans x3
    have rd3 := rd_same x12.h rd
    have os3 := os.frame (F' := basis kp F3 H3) (H' := H3) x12.basis fun a _ o q => x12.h _ _ q
    have y2 : Shr W H2 y u := y2
    have y2 := y2.mono x3.h
    have back : ∀ {k d v}, rK W k d F3 H3 H2 v -> rK W k d F3 H3 H v := fun h => rK_back (x1.h.trans x2.h) h
    dsimp only at e
    by_cases hy : ∃ k, keyD y = some k
    · obtain ⟨ky, hk⟩ := hy
      have ee : (some (match dg ks xs ky with | some x => kp.of x | none => (kz, dz))) = some (k, d) := by
        rw [<- e]
        cases y <;> first | (cases hk; done) | (simp only [getE, hk, Option.map_some])
      have hv := keyD_ok y2 hk
      obtain ⟨g1, g2⟩ := dg_own (k := ky) os3 hl
      cases hg : dg ks xs ky with
      | none =>
        rw [hg] at ee
        cases ee
        refine ⟨none, .inl (.inl ⟨_, ky, rd3, hv, (g2 hg).symm⟩), ?_⟩
        exact q _ F3 H3 (x1.trans x12) (back y3)
      | some x =>
        rw [hg] at ee
        obtain ⟨v', M', hv', ov⟩ := g1 x hg
        refine ⟨some v', .inl (.inl ⟨_, ky, rd3, hv, hv'.symm⟩), ?_⟩
        exact q _ F3 H3 (x1.trans x12) (rK_of x3.s ov (Option.some.inj ee))
    · have hyn : y = .non := by
        cases y <;> first | rfl | skip
        all_goals first | (exact absurd ⟨_, rfl⟩ hy) | (simp [getE, keyD] at e)
      subst hyn
      cases e
      cases y2
      exact ⟨none, .inr ⟨rfl, ⟨_, rd3⟩, rfl⟩, q _ F3 H3 (x1.trans x12) (back y3)⟩
theorem PSet.or {X : Cx} {r r' : TSet} (h : PSet X r) (h' : PSet X r') : PSet X (fun o i v H Q => r o i v H Q \/ r' o i v H Q) :=
  fun pins s σ H o i v ov iv u Q I ro ri rv q => q.elim (h pins s σ H o i v ov iv u Q I ro ri rv) (h' pins s σ H o i v ov iv u Q I ro ri rv)
def fls : List D -> Option (List V)
  | [] => some []
  | d :: ds => (fl d).bind fun v => (fls ds).map (v :: ·)
def inL (neg : Bool) (x : D) (ys : List D) : Option D := (fl x).bind fun v => (fls ys).map fun vs => .bl (if neg then !inV v vs else inV v vs)
def hasK (ks : List Key) (k : Key) : Bool := ks.any fun j => decide (j = k)
def inK (neg : Bool) (ks : List Key) (y : D) : Option D := match y with
  | .non => some (.bl neg)
  | y => (keyD y).map fun k => .bl (if neg then !hasK ks k else hasK ks k)
theorem hasK_valV {k : Key} : ∀ {ks : List Key} {vs : List V}, ks.length = vs.length -> (valV (ks.zip vs) k).isSome = hasK ks k
  | [], [], _ => rfl
  | [], _ :: _, h => by simp at h
  | _ :: _, [], h => by simp at h
  | k' :: ks, v :: vs, h => by
    rw [List.zip_cons_cons]
    unfold hasK
    rw [List.any_cons]
    by_cases e : k' = k
    · rw [valV_pos (p := (k', v)) e, decide_eq_true e]; rfl
    · rw [valV_neg (p := (k', v)) e, decide_eq_false e, hasK_valV (by simpa using h)]; rfl
def tInK (neg : Bool) (ty td : TE) : TE := match neg with
  | true => tDNotInN ty td
  | false => tDInN ty td
def xDin (neg : Bool) (a b : XP W) : XP W where
  t := tInK neg a.t b.t
  ev env := (a.evV env).bind fun y => (b.ev env).bind fun p => (dicOf p.2).bind fun q => (inK neg q.1 y).map (Prod.mk .fr)
  snd := fun {env k d} e => by
    obtain ⟨y, e3, e⟩ := Option.bind_eq_some_iff.mp e
    obtain ⟨⟨kp, dp⟩, e1, e⟩ := Option.bind_eq_some_iff.mp e
    obtain ⟨⟨ks, xs⟩, e2, e⟩ := Option.bind_eq_some_iff.mp e
    obtain ⟨z, e4, e⟩ := Option.map_eq_some_iff.mp e
    cases e
    intro e' F σ H L Q r q
    have main : ∀ {u F1 H1 v F2 H2}, Ext F H F1 H1 -> Shr W H1 y u -> Ext F1 H1 F2 H2 -> rK W kp dp F2 H2 H1 v -> ∃ a kvs, v = .ref a /\ Rd H2 a (.dK kvs) /\ ((∃ b, d = D.bl (if neg then !b else b) /\ ∃ o, DGet H2 a u o /\ o.isSome = b) \/ (u = .non /\ d = D.bl neg)) := by
      intro u F1 H1 v F2 H2 x1 y1 x2 y2
      obtain ⟨M, o⟩ := rK_own y2
      obtain ⟨da, vs, M1, rfl, rd, hl, hn, os⟩ := dicOf_ok (basis_same x2.s) o e2
      refine ⟨da, _, rfl, rd, ?_⟩
      by_cases hy : ∃ k, keyD y = some k
      · obtain ⟨ky, hk⟩ := hy
        have hz : d = .bl (if neg then !hasK ks ky else hasK ks ky) := by
          cases y <;> first | (cases hk; done) | (simp only [inK, hk, Option.map_some] at e4; exact (Option.some.inj e4).symm)
        exact .inl ⟨hasK ks ky, hz, _, .inl ⟨_, ky, rd, keyD_ok y1 hk, rfl⟩, hasK_valV hl⟩
      · have hyn : y = .non := by
          cases y <;> first | rfl | skip
          all_goals first | (exact absurd ⟨_, rfl⟩ hy) | (simp [inK, keyD] at e4)
        subst hyn
        cases e4
        cases y1
        exact .inr ⟨rfl, rfl⟩
    cases neg with
    | false =>
      refine a.sV e3 e' F σ H L _ r fun u F1 H1 x1 y1 => b.snd e1 e' F1 σ H1 L _ (r.ext x1) fun v F2 H2 x2 y2 => ?_
      obtain ⟨a, kvs, rfl, rd, ⟨b, rfl, o, ho, hb⟩ | ⟨rfl, rfl⟩⟩ := main x1 y1 x2 y2
      · exact .inl ⟨a, o, rfl, ho, by rw [hb]; exact q _ F2 H2 (x1.trans x2) (rO_sh .bl)⟩
      · exact .inr ⟨a, kvs, rfl, rfl, rd, q _ F2 H2 (x1.trans x2) (rO_sh .bl)⟩
    | true =>
      refine a.sV e3 e' F σ H L _ r fun u F1 H1 x1 y1 => b.snd e1 e' F1 σ H1 L _ (r.ext x1) fun v F2 H2 x2 y2 => ?_
      obtain ⟨a, kvs, rfl, rd, ⟨b, rfl, o, ho, hb⟩ | ⟨rfl, rfl⟩⟩ := main x1 y1 x2 y2
      · exact .inl ⟨a, o, rfl, ho, by rw [hb]; exact q _ F2 H2 (x1.trans x2) (rO_sh .bl)⟩
      · exact .inr ⟨a, kvs, rfl, rfl, rd, q _ F2 H2 (x1.trans x2) (rO_sh .bl)⟩
theorem pos_none_has {k : Key} : ∀ {ks : List Key}, pos k ks = none -> (∀ k' ∈ ks, k' ≠ k)
  | [], _, _, m => nomatch m
  | k1 :: ks, h, k', m => by
    have h : (if k1 = k then some 0 else (pos k ks).map (· + 1)) = none := h
    split at h
    · cases h
    · rename_i e
      rcases List.mem_cons.mp m with rfl | m
      · exact e
      · exact pos_none_has (Option.map_eq_none_iff.mp h) k' m
theorem putK_none {k : Key} {v : V} {ks : List Key} {vs : List V} (hl : ks.length = vs.length) (h : pos k ks = none) : putK (ks.zip vs) k v = (ks ++ [k]).zip (vs ++ [v]) := by
  have hn : valV (ks.zip vs) k = none := by
    cases e : valV (ks.zip vs) k with
    | none => rfl
    | some x =>
      have := hasK_valV (k := k) hl
      rw [e] at this
      have this : hasK ks k = true := this.symm
      unfold hasK at this
      obtain ⟨k', m, e'⟩ := List.any_eq_true.mp this
      exact absurd (of_decide_eq_true e') (pos_none_has h k' m)
  rw [putK_new v hn, List.zip_append hl]; rfl
theorem pos_has {k : Key} : ∀ {ks : List Key} {j : Nat}, pos k ks = some j -> hasK ks k = true
  | k1 :: ks, j, h => by
    have h : (if k1 = k then some 0 else (pos k ks).map (· + 1)) = some j := h
    unfold hasK
    rw [List.any_cons]
    split at h
    · rename_i e; rw [decide_eq_true e]; rfl
    · obtain ⟨i, h1, _⟩ := Option.map_eq_some_iff.mp h
      have := pos_has h1
      unfold hasK at this
      rw [this, Bool.or_true]
theorem putK_map {k : Key} {v : V} : ∀ {ks : List Key} {vs : List V} {j : Nat}, ks.length = vs.length -> ks.Nodup -> pos k ks = some j -> (ks.zip vs).map (fun kv => if kv.1 = k then (kv.1, v) else kv) = ks.zip (vs.set j v)
  | [], _, _, _, _, h => by cases h
  | _ :: _, [], _, h, _, _ => by simp at h
  | k1 :: ks, u :: vs, j, hl, hn, h => by
    have h : (if k1 = k then some 0 else (pos k ks).map (· + 1)) = some j := h
    rw [List.nodup_cons] at hn
    rw [List.zip_cons_cons, List.map_cons]
    split at h
    · rename_i e
      cases h
      rw [if_pos e, List.set_cons_zero, List.zip_cons_cons]
      congr 1
      have : ∀ kv ∈ ks.zip vs, (if kv.1 = k then (kv.1, v) else kv) = kv := fun kv m => by
        rw [if_neg]
        intro z
        have := (List.of_mem_zip (a := kv.1) (b := kv.2) m).1
        rw [z, <- e] at this
        exact hn.1 this
      exact (List.map_congr_left this).trans (List.map_id _)
    · rename_i e
      obtain ⟨i, h1, h2⟩ := Option.map_eq_some_iff.mp h
      subst h2
      rw [if_neg e, List.set_cons_succ, List.zip_cons_cons, putK_map (by simpa using hl) hn.2 h1]
theorem putK_some {k : Key} {v : V} {ks : List Key} {vs : List V} {j : Nat} (hl : ks.length = vs.length) (hn : ks.Nodup) (h : pos k ks = some j) : putK (ks.zip vs) k v = ks.zip (vs.set j v) := by
  unfold putK
  rw [if_pos, putK_map hl hn h]
  rw [valV_any, hasK_valV hl]
  exact pos_has h
theorem mop_atD {G : D} {F H : Hp} {a : Addr} {L : List Addr} {Ms : List Addr} {ys : List D} {ws : List V} {o : HO} {M' L2 : List Addr} {v' : V} {Q : VK} (s : Same F H) (nd : (Ms ++ (a :: L)).Nodup) (kF : ∀ b ∈ Ms ++ (a :: L), F b = none)
    (hG : ∀ (F' H' : Hp) (L' : List Addr), H' a = some o -> Owns W F' H' ys ws L' -> Own W F' H' G (.ref a) (a :: L')) (hs : Owns W F H ys ws L2) (od : Own W F H d v' M') (n2 : (M' ++ L2).Nodup) (sub : ∀ b ∈ M' ++ L2, b ∈ L \/ b ∈ Ms)
    (q : ∀ F' H' v' Ln' M', Same F F' -> Same F' H' -> (∀ b o, b ∉ a :: L -> H b = some o -> H' b = some o) -> (∀ b o, F' b = some o -> F b = some o \/ H b = none) -> Own W F' H' G (.ref a) Ln' -> Own W F' H' d v' M' -> (M' ++ Ln').Nodup ->
      (∀ b ∈ M' ++ Ln', F' b = none /\ (b ∈ a :: L \/ b ∈ Ms \/ H b = none)) -> Q v' H') : Q v' (upd H a o) := by
  rw [List.nodup_append] at nd
  obtain ⟨n3, n4, n5⟩ := nd
  rw [List.nodup_cons] at n4
  have na : ∀ b ∈ M' ++ L2, b ≠ a := fun b hb z => by
    subst z
    rcases sub _ hb with y | y
    · exact n4.1 y
    · exact n5 _ y _ (List.mem_cons_self ..) rfl
  have Fa : F a = none := kF a (List.mem_append_right _ (List.mem_cons_self ..))
  refine q F (upd H a o) v' (a :: L2) M' (Same.refl _) (same_upd s Fa) (fun b u hb hu => ?_) (fun b u hu => .inl hu) (hG F _ _ upd_same (owns_upd hs fun z => na a (List.mem_append_right _ z) rfl)) (own_upd od fun z => na a (List.mem_append_left _ z) rfl) ?_ (fun b hb => ?_)
  · rw [upd_ne (fun z => hb (by rw [z]; exact List.mem_cons_self ..))]; exact hu
  · rw [List.nodup_append] at n2 ⊢
    refine ⟨n2.1, List.nodup_cons.mpr ⟨fun z => na a (List.mem_append_right _ z) rfl, n2.2.1⟩, fun b hb c hc => ?_⟩
    rcases List.mem_cons.mp hc with z | z
    · rw [z]; exact na b (List.mem_append_left _ hb)
    · exact n2.2.2 b hb c z
  · rcases List.mem_append.mp hb with z | z
    · have := sub b (List.mem_append_left _ z)
      refine ⟨kF b ?_, ?_⟩
      · rcases this with y | y
        · exact List.mem_append_right _ (List.mem_cons_of_mem _ y)
        · exact List.mem_append_left _ y
      · rcases this with y | y
        · exact .inl (List.mem_cons_of_mem _ y)
        · exact .inr (.inl y)
    · rcases List.mem_cons.mp z with z | z
      · subst z; exact ⟨Fa, .inl (List.mem_cons_self ..)⟩
      · have := sub b (List.mem_append_right _ z)
        refine ⟨kF b ?_, ?_⟩
        · rcases this with y | y
          · exact List.mem_append_right _ (List.mem_cons_of_mem _ y)
          · exact List.mem_append_left _ y
        · rcases this with y | y
          · exact .inl (List.mem_cons_of_mem _ y)
          · exact .inr (.inl y)
def putP (ks : List Key) (xs : List D) (k : Key) (y : D) : Option (List Key × List D) := match pos k ks with
  | none => some (ks ++ [k], xs ++ [y])
  | some j => if xs.all isSh = true then some (ks, xs.set j y) else none
def dputD (n : D) (ds : List D) : Option (D × D) := match n, ds with
  | .odic ks xs, [i, d] => if xs.length < 1000000 then (keyD i).bind fun k => (putP ks xs k d).map fun q => (.odic q.1 q.2, .non) else none
  | _, _ => none
def rDput : V -> List V -> Hp -> VK -> Prop := fun x ys H Q => ∃ (a : Addr) (k v : V) (H' : Hp), x = .ref a /\ ys = [k, v] /\ DPut H a k v H' /\ Q .non H'
theorem mop_dput : Mop W rDput dputD := by
  intro n ds n' d hf F H vn Ln vs Ms Q s o os nd kF q
  unfold dputD at hf
  split at hf
  · rename_i ks xs i d2
    have hz : xs.length < 1000000 := by
      by_cases h : xs.length < 1000000
      · exact h
      · rw [if_neg h] at hf; cases hf
    rw [if_pos hz] at hf
    obtain ⟨k, hk, hf⟩ := Option.bind_eq_some_iff.mp hf
    obtain ⟨⟨ks', xs'⟩, hp, e⟩ := Option.map_eq_some_iff.mp hf
    cases e
    obtain ⟨v1, v2, L1, L2, rfl, o1, o2, rfl⟩ := os.two
    have hi : isSh i = true := by cases i <;> first | rfl | cases hk
    have hv := keyD_ok (o1.shr hi) hk
    cases o1.shNil hi
    cases o with
    | sh y => cases y
    | @odic a _ _ vs L ha hl hn hs =>
      have hz2 : (ks.zip vs).length < sizeLine := by
        rw [List.length_zip, <- hs.length]
        exact Nat.lt_of_le_of_lt (Nat.min_le_right _ _) (Nat.lt_of_lt_of_le hz (by decide))
      unfold putP at hp
      cases hpos : pos k ks with
      | none =>
        rw [hpos] at hp
        cases hp
        refine ⟨a, v1, v2, _, rfl, rfl, .inl ⟨_, k, ha, hv, hz2, rfl⟩, ?_⟩
        rw [putK_none hl hpos]
        refine mop_atD (ys := xs ++ [d2]) (ws := vs ++ [v2]) s nd kF (fun F' H' L' h1 h2 => .odic h1 (by simp [hl]) ?_ h2) (hs.append (.cons o2 .nil)) (.sh .non) ?_ (fun b hb => ?_) q
        · rw [List.nodup_append]
          exact ⟨hn, by simp, fun x hx y hy z => pos_none_has hpos x hx (by rw [z]; simpa using hy)⟩
        · have := nd_swap (nd_tail nd)
          simpa using this
        · simpa using hb
      | some j =>
        rw [hpos] at hp
        obtain ⟨hall, e⟩ := ite_some hp
        cases e
        refine ⟨a, v1, v2, _, rfl, rfl, .inl ⟨_, k, ha, hv, hz2, rfl⟩, ?_⟩
        rw [putK_some hl hn hpos]
        have sh := hs.shrs hall
        have hj : j < ks.length := by
          have := pos_get hpos
          exact (List.getElem?_eq_some_iff.mp this).1
        have hjx : j < xs.length := by have := hs.length; omega
        refine mop_atD (ys := xs.set j d2) (ws := vs.set j v2) (L2 := L2 ++ []) s nd kF (fun F' H' L' h1 h2 => .odic h1 (by simp [hl]) hn h2) ?_ (.sh .non) ?_ (fun b hb => ?_) q
        · rw [set_split hjx, set_split (by rw [<- hs.length]; exact hjx)]
          have h3 := ((sh.take j).owns (H := H)).append (.cons o2 ((sh.drop (j + 1)).owns))
          rw [List.nil_append] at h3
          rw [List.append_assoc, List.append_assoc]
          exact h3
        · have := (List.nodup_append.mp nd).1
          simpa using this
        · exact .inr (by simpa using hb)
  · cases hf
end
end Py
namespace Py
open PySem L2
section
variable {T : Tbl} {W : Wd T} {env : Py.Env} {d : D} {P : List Nat} {E : WX} {A : AEnds}
def SameL (F F' : Hp) : Prop := ∀ a o, F a = some o -> F' a = some o \/ (∃ kvs od, o = .dK kvs /\ F' a = some (.frz od (.dK kvs))) \/ ∃ kvs od, o = .frz od (.dK kvs) /\ F' a = some (.dK kvs)
theorem SameL.eq {F F' : Hp} (e : SameL F F') {a : Addr} {o : HO} (h : F a = some o) (h1 : ∀ kvs, o ≠ .dK kvs) (h2 : ∀ od kvs, o ≠ .frz od (.dK kvs)) : F' a = some o := by
  rcases e a o h with q | ⟨kvs, od, q, _⟩ | ⟨kvs, od, q, _⟩
  · exact q
  · exact absurd q (h1 kvs)
  · exact absurd q (h2 od kvs)
theorem SameL.rd {F F' : Hp} (e : SameL F F') {a : Addr} {kvs : List (Key × V)} (h : Rd F a (.dK kvs)) : Rd F' a (.dK kvs) := by
  rcases h with h | ⟨o, h⟩
  · rcases e a _ h with q | ⟨kvs', od, q, q2⟩ | ⟨kvs', od, q, _⟩
    · exact .inl q
    · cases q; exact .inr ⟨_, q2⟩
    · cases q
  · rcases e a _ h with q | ⟨kvs', od, q, q2⟩ | ⟨kvs', od, q, q2⟩
    · exact .inr ⟨_, q⟩
    · cases q
    · cases q; exact .inl q2
theorem SameL.seq {F F' : Hp} (e : SameL F F') {K : PySem.W.Frag} {a : Addr} {vs : List V} (h : SqL K F a vs) : SqL K F' a vs := by
  rcases h with (h | ⟨o, h⟩) | h
  · exact .inl (.inl (e.eq h (fun _ z => nomatch z) fun _ _ z => nomatch z))
  · exact .inl (.inr ⟨o, e.eq h (fun _ z => nomatch z) fun _ _ z => nomatch z⟩)
  · exact .inr h
def Lk (i : Nat) (σ : St) (H : Hp) : Prop := ∃ a od kvs, σ[i]? = some (some (V.ref a)) /\ H a = some (.frz od (.dK kvs))
def dc1 (g : XG W) (c : XT W) (k x : XP W) (env : Py.Env) (d : D) : Option (Option (Key × D)) := (g.ev [] d env).bind fun e2 => (c.ev e2).bind fun b => if b = true then ((k.evF e2).bind keyD).bind fun y => (x.evF e2).map fun z => some (y, z) else some none
def putO (acc : List Key × List D) : Option (Key × D) -> Option (List Key × List D)
  | some p => putP acc.1 acc.2 p.1 p.2
  | none => some acc
def dcL (f : D -> Option (Option (Key × D))) : List D -> List Key × List D -> Option (List Key × List D)
  | [], acc => some acc
  | d :: ds, acc => (f d).bind fun o => (putO acc o).bind (dcL f ds)
theorem dcL_take {f : D -> Option (Option (Key × D))} : ∀ {ds : List D} {acc r : List Key × List D}, dcL f ds acc = some r -> ∃ rs : Nat -> List Key × List D, rs 0 = acc /\ rs ds.length = r /\ (∀ (i : Nat) (d : D), ds[i]? = some d -> ∃ o, f d = some o /\ putO (rs i) o = some (rs (i + 1)))
  | [], acc, r, h => by cases h; exact ⟨fun _ => acc, rfl, rfl, fun i d h => by simp at h⟩
  | d :: ds, acc, r, h => by
    obtain ⟨o, e1, h⟩ := Option.bind_eq_some_iff.mp h
    obtain ⟨acc2, e2, h⟩ := Option.bind_eq_some_iff.mp h
    obtain ⟨rs, r0, r1, r2⟩ := dcL_take h
    refine ⟨fun i => match i with | 0 => acc | i + 1 => rs i, rfl, r1, fun i d' hd => ?_⟩
    cases i with
    | zero => simp at hd; subst hd; exact ⟨o, e1, by dsimp only; rw [r0]; exact e2⟩
    | succ i => exact r2 i d' (by simpa using hd)
theorem ae_dc {wi : TI} {g : TG} {tt : TT} {tk tv : TE} {vs : List Nat} {ds : List D} (h : AIp W wi env ds) (hg : GW g vs) (rs : Nat -> List Key × List D) (h0 : rs 0 = ([], []))
    (hs : ∀ (i : Nat) (d : D), ds[i]? = some d -> AG W [] g d (wipeE env vs) fun e2 => ∃ b, AT W tt e2 b /\ (b = true -> ∃ y k z, AE W tk e2 (rF W y) /\ keyD y = some k /\ AE W tv e2 (rF W z) /\ putP (rs i).1 (rs i).2 k z = some (rs (i + 1))) /\ (b = false -> rs (i + 1) = rs i))
    (hz : ds.length < 1000000) : AE W (tDc wi g tt tk tv vs) env (rO W (.odic (rs ds.length).1 (rs ds.length).2)) := fun e F σ H L Q r q =>
  h e F σ H L _ r fun J F1 H1 x1 sq => by
    intro Dl hD
    have r1 := (r.ext x1).nopin
    obtain ⟨Lw, rw', mw⟩ := r1.wipe rfl vs
    have hF1 : F1 Dl = none := x1.s.free hD
    have hH : H Dl = none := x1.h.free hD
    let Iv : Nat -> Hp -> Prop := fun i H' => ∃ F' ws, Ext F H F' H' /\ (Same F1 F' /\ Same H1 H') /\ Rel W { e with pins := [] } (wipeE env vs) F' (wipe σ vs) H' Lw /\ H' Dl = some (.dK ((rs i).1.zip ws)) /\ F' Dl = none /\ Shrs W F' (rs i).2 ws /\ (rs i).1.length = ws.length /\ (rs i).1.Nodup /\ (rs i).1.length <= i
    refine ⟨fun i m H' => m = ds.length - i /\ i <= ds.length /\ Iv i H', ⟨ds.length, rfl, Nat.zero_le _, F1, [], x1.trans (.newH x1.s hD), ⟨Same.refl _, same_new hD⟩, rw'.ext (.newH x1.s hD), by rw [h0]; exact upd_same, hF1, by rw [h0]; exact .nil, by rw [h0]; rfl, by rw [h0]; exact .nil, by rw [h0]; exact Nat.le_refl _⟩, ?_⟩
    rintro i m H' ⟨rfl, hi, F', ws, xE, s1, rr, hl, hFD, os, lk, nd, hle⟩
    have hDL : Dl ∉ Lw := fun z => by
      obtain ⟨o, ho⟩ := rw'.slots.lives Dl z
      rw [hD] at ho; cases ho
    by_cases hlt : i < ds.length
    · have hd' : ds[i]? = some ds[i] := List.getElem?_eq_getElem hlt
      obtain ⟨g1, g2⟩ := sq.go i _ F' H' s1.1 s1.2 rr.sF hd'
      refine .inr ⟨g1, Iv (i + 1), fun H'' p' => ⟨ds.length - (i + 1), by omega, rfl, hlt, p'⟩, fun x H2 y => ?_⟩
      obtain ⟨F2, x2, sx⟩ := g2 x H2 y
      have rr2 := rr.ext x2
      have fin : ∀ {Fa Ha}, Ext F2 H2 Fa Ha -> Ext F H Fa Ha /\ (Same F1 Fa /\ Same H1 Ha) /\ Rel W { e with pins := [] } (wipeE env vs) Fa (wipe σ vs) Ha Lw /\ Ha Dl = some (.dK ((rs i).1.zip ws)) /\ Fa Dl = none /\ Shrs W Fa (rs i).2 ws := fun {Fa Ha} xa => by
        have x3 := x2.trans xa
        refine ⟨xE.trans x3, ⟨s1.1.trans x3.f, s1.2.trans x3.h⟩, rr.ext x3, x3.h _ _ hl, ?_, os.mono x3.f⟩
        cases z : Fa Dl with
        | none => rfl
        | some u =>
          rcases x3.n Dl u z with w | w
          · rw [hFD] at w; cases w
          · rw [hl] at w; cases w
      have step := hg x (wipe σ vs) H2 _ (hs i _ hd' { e with pins := [] } F2 (wipe σ vs) H2 Lw x (fun σ2 H2 => tt σ2 H2 fun b H3 => if b = true then tk σ2 H3 fun y H4 => tv σ2 H4 fun z H5 => ∃ kvs k, y = kV k /\ H5 Dl = some (.dK kvs) /\ kvs.length < sizeLine /\ Iv (i + 1) (upd H5 Dl (.dK (putK kvs k z))) else Iv (i + 1) H3) rfl rr2 sx fun env2 σ2 L2 k2 q2 => ?_)
      · rw [wipe_wipe] at step
        exact step
      obtain ⟨b, hb, hy, hn⟩ := k2
      refine hb _ F2 σ2 H2 L2 _ q2 fun F3 H3 x3 => ?_
      cases b with
      | false =>
        obtain ⟨a1, a2, a3, a4, a5, a6⟩ := fin x3
        rw [if_neg (by decide)]
        refine ⟨F3, ws, a1, a2, a3, ?_, a5, ?_, ?_, ?_, ?_⟩
        · rw [hn rfl]; exact a4
        · rw [hn rfl]; exact a6
        · rw [hn rfl]; exact lk
        · rw [hn rfl]; exact nd
        · rw [hn rfl]; omega
      | true =>
        obtain ⟨y, k, z, htk, hk, htv, hput⟩ := hy rfl
        rw [if_pos rfl]
        refine htk _ F3 σ2 H3 L2 _ (q2.ext x3) fun w F4 H4 x4 sy => htv _ F4 σ2 H4 L2 _ ((q2.ext x3).ext x4) fun w2 F5 H5 x5 sz => ?_
        obtain ⟨a1, a2, a3, a4, a5, a6⟩ := fin ((x3.trans x4).trans x5)
        have hzl : ((rs i).1.zip ws).length < sizeLine := by
          rw [List.length_zip, <- lk, Nat.min_self]
          exact Nat.lt_of_le_of_lt hle (Nat.lt_of_lt_of_le (Nat.lt_trans hlt hz) (by decide))
        refine ⟨_, k, keyD_ok sy hk, a4, hzl, ?_⟩
        have ext2 : ∀ o, Ext F H F5 (upd H5 Dl o) := fun o => ⟨a1.f, fun b u hb => by rw [upd_ne (fun z => by rw [z, a5] at hb; cases hb)]; exact a1.s _ _ hb, fun b u hb => by rw [upd_ne (fun z => by rw [z, hH] at hb; cases hb)]; exact a1.h _ _ hb, a1.n⟩
        have same2 : ∀ o, Same F1 F5 /\ Same H1 (upd H5 Dl o) := fun o => ⟨a2.1, fun b u hb => by rw [upd_ne (fun z => by rw [z, hD] at hb; cases hb)]; exact a2.2 _ _ hb⟩
        unfold putP at hput
        cases hpos : pos k (rs i).1 with
        | none =>
          rw [hpos] at hput
          have hput := Option.some.inj hput
          have e1 : (rs (i + 1)).1 = (rs i).1 ++ [k] := by rw [<- hput]
          have e2 : (rs (i + 1)).2 = (rs i).2 ++ [z] := by rw [<- hput]
          rw [putK_none lk hpos]
          refine ⟨F5, ws ++ [w2], ext2 _, same2 _, a3.free hDL a5 (rw'.h0 hD), by rw [e1]; exact upd_same, a5, ?_, ?_, ?_, ?_⟩
          · rw [e2]; exact a6.append (.cons sz .nil)
          · rw [e1]; simp [lk]
          · rw [e1, List.nodup_append]
            exact ⟨nd, by simp, fun x hx y hy z => pos_none_has hpos x hx (by rw [z]; simpa using hy)⟩
          · rw [e1]; simp; exact hle
        | some j =>
          rw [hpos] at hput
          obtain ⟨hall, hput⟩ := ite_some hput
          have e1 : (rs (i + 1)).1 = (rs i).1 := by rw [<- hput]
          have e2 : (rs (i + 1)).2 = (rs i).2.set j z := by rw [<- hput]
          have hj : j < (rs i).1.length := (List.getElem?_eq_some_iff.mp (pos_get hpos)).1
          have hjx : j < (rs i).2.length := by have := a6.length; omega
          rw [putK_some lk nd hpos]
          refine ⟨F5, ws.set j w2, ext2 _, same2 _, a3.free hDL a5 (rw'.h0 hD), by rw [e1]; exact upd_same, a5, ?_, ?_, ?_, ?_⟩
          · rw [e2, set_split hjx, set_split (by rw [<- a6.length]; exact hjx), List.append_assoc, List.append_assoc]
            exact (a6.take j).append (.cons sz (a6.drop (j + 1)))
          · rw [e1, List.length_set]; exact lk
          · rw [e1]; exact nd
          · rw [e1]; omega
    · have e0 : i = ds.length := by omega
      subst e0
      refine .inl ⟨sq.stop F' H' s1.1 s1.2 rr.sF, q _ F' H' xE ⟨[Dl], .odic hl lk nd os.owns, by simp, fun a ha => ?_⟩⟩
      rw [List.mem_singleton.mp ha]; exact ⟨hH, hFD⟩
def xDc (it : XI W) (g : XG W) (c : XT W) (k x : XP W) : XP W where
  t := tDc it.t g.t c.t k.t x.t g.own
  ev env := (it.evP env).bind fun ds => if ds.length < 1000000 then (dcL (dc1 g c k x (wipeE env g.own)) ds ([], [])).map fun q => (.fr, .odic q.1 q.2) else none
  snd := fun {env kd d} e => by
    obtain ⟨ds, e1, e⟩ := Option.bind_eq_some_iff.mp e
    split at e
    · rename_i hl
      obtain ⟨q, e2, e⟩ := Option.map_eq_some_iff.mp e
      cases e
      obtain ⟨rs, r0, r1, r2⟩ := dcL_take e2
      rw [<- r1]
      refine ae_dc (it.sP e1) (g.gw fun _ m => m) rs r0 (fun i d hd => ?_) hl
      obtain ⟨o, h, hr⟩ := r2 i d hd
      obtain ⟨env2, g1, h⟩ := Option.bind_eq_some_iff.mp h
      obtain ⟨b, c1, h⟩ := Option.bind_eq_some_iff.mp h
      intro e0 F σ H L v Q hP r s q
      refine g.snd g1 e0 F σ H L v Q hP r s fun env3 σ2 L2 z r3 => ?_
      subst z
      refine q _ σ2 L2 ⟨b, c.snd c1, fun hb => ?_, fun hb => ?_⟩ r3
      · subst hb
        obtain ⟨y, h8, h⟩ := Option.bind_eq_some_iff.mp h
        obtain ⟨z, h9, rfl⟩ := Option.map_eq_some_iff.mp h
        obtain ⟨yd, h10, h11⟩ := Option.bind_eq_some_iff.mp h8
        exact ⟨yd, y, z, k.sF h10, h11, x.sF h9, hr⟩
      · subst hb
        cases h
        exact (Option.some.inj hr).symm
    · cases e
end
end Py
namespace Py
open PySem L2
section
variable {T : Tbl} {W : Wd T} {env : Py.Env} {d : D} {P : List Nat} {E : WX} {A : AEnds}
theorem D.putAt_snoc {s : Pst} {n x y : D} : ∀ {st : List Pst} {d : D}, d.at st = some n -> n.sub s = some x -> d.putAt (st ++ [s]) y = d.putAt st (n.put s y)
  | [], d, h, q => by
    have h : some d = some n := h
    cases h
    show (match n.sub s with | some x => n.put s (x.putAt [] y) | none => n) = _
    rw [q]; rfl
  | p :: st, d, h, q => by
    obtain ⟨z, h1, h2⟩ := Option.bind_eq_some_iff.mp h
    show (match d.sub p with | some x => d.put p (x.putAt (st ++ [s]) y) | none => d) = (match d.sub p with | some x => d.put p (x.putAt st (n.put s y)) | none => d)
    rw [h1]
    dsimp only
    rw [D.putAt_snoc h2 q]
theorem valV_at {k : Key} : ∀ {ks : List Key} {vs : List V} {j : Nat}, ks.length = vs.length -> pos k ks = some j -> valV (ks.zip vs) k = vs[j]?
  | [], _, _, _, h => by cases h
  | _ :: _, [], _, h, _ => by simp at h
  | k1 :: ks, u :: vs, j, hl, h => by
    have h : (if k1 = k then some 0 else (pos k ks).map (· + 1)) = some j := h
    rw [List.zip_cons_cons]
    split at h
    · rename_i e; cases h; rw [valV_pos (p := (k1, u)) e]; rfl
    · rename_i e
      obtain ⟨i, h1, rfl⟩ := Option.map_eq_some_iff.mp h
      rw [valV_neg (p := (k1, u)) e, valV_at (by simpa using hl) h1]; rfl
theorem valV_none {k : Key} {ks : List Key} {vs : List V} (hl : ks.length = vs.length) (h : pos k ks = none) : valV (ks.zip vs) k = none := by
  cases e : valV (ks.zip vs) k with
  | none => rfl
  | some x =>
    have := hasK_valV (k := k) hl
    rw [e] at this
    have this : hasK ks k = true := this.symm
    unfold hasK at this
    obtain ⟨k', m, e'⟩ := List.any_eq_true.mp this
    exact absurd (of_decide_eq_true e') (pos_none_has h k' m)
def appK (ks : List Key) (xs : List D) (k : Key) (x : D) : Option D := if xs.length < 1000000 then (match pos k ks with
  | none => some (.odic (ks ++ [k]) (xs ++ [.olst [x]]))
  | some i => match xs[i]? with
    | some (.olst ys) => if ys.length < 1000000 then some (.odic ks (xs.set i (.olst (ys ++ [x])))) else none
    | _ => none) else none
def dappE (n y x : D) : Option D := match n with
  | .odic ks xs => guardB (isSh x) ((keyD y).bind fun k => appK ks xs k x)
  | _ => none
theorem dappE_ok {n y x z : D} (h : dappE n y x = some z) : ∃ ks xs k, n = .odic ks xs /\ isSh x = true /\ keyD y = some k /\ appK ks xs k x = some z := by
  cases n <;> first | (cases h; done) | skip
  obtain ⟨h1, h⟩ := guardB_some h
  obtain ⟨k, h2, h3⟩ := Option.bind_eq_some_iff.mp h
  exact ⟨_, _, k, rfl, h1, h2, h3⟩
def xsDapp (p : XPl W) (k : XP W) (j : Nat) : XS W where
  t _ := tDrop (tBM W.K "list" rAppend (tDSetd p.t k.t (tLst tNil)) (tCons (tVar j) tNil))
  ev P env := RS.ofO ((p.ev env).bind fun q => (k.evF env).bind fun y => (getS env j).bind fun x => (dappE q.2 y x).bind fun z => (getS env p.root).map fun d0 => env.set p.root (some (d0.putAt q.1 z)))
  snd := fun P E env hn e F σ H L Dn hP r s => by
    cases h2 : ((p.ev env).bind fun q => (k.evF env).bind fun y => (getS env j).bind fun x => (dappE q.2 y x).bind fun z => (getS env p.root).map fun d0 => env.set p.root (some (d0.putAt q.1 z))) with
    | none => exact absurd (by rw [h2]; rfl) hn
    | some e2 =>
      rw [h2] at s
      obtain ⟨⟨st, n⟩, e1, h3⟩ := Option.bind_eq_some_iff.mp h2
      obtain ⟨y, ey, h3⟩ := Option.bind_eq_some_iff.mp h3
      obtain ⟨x, ex, h3⟩ := Option.bind_eq_some_iff.mp h3
      obtain ⟨z, ez, h4⟩ := Option.bind_eq_some_iff.mp h3
      obtain ⟨d0', e4, h5⟩ := Option.map_eq_some_iff.mp h4
      subst h5
      obtain ⟨d0, h0, h1⟩ := p.at_ e1
      rw [getS_some e4] at h0
      cases h0
      obtain ⟨ks, xs, kk, rfl, hsx, hk, ha⟩ := dappE_ok ez
      obtain ⟨v0, _, _, _, hs, _⟩ := r.focus (getS_some e4) h1
      obtain ⟨xv, Mx, hxv, ox, _⟩ := slot_get r (getS_some ex)
      have sx := ox.shr hsx
      refine p.loc e1 e F σ H L v0 _ r hs fun vn F1 H1 x1 p1 => ?_
      have r1 := r.ext x1
      obtain ⟨v0', vn', Ln, Lr, e5, p2, o, _⟩ := r1.focus (getS_some e4) h1
      rw [hs] at e5; cases e5
      cases p1.det p2
      cases o with
      | sh y => cases y
      | @odic a _ _ vs La hda hl hnd os =>
        refine ⟨a, rfl, .inl ⟨_, .inl hda⟩, k.sF ey e F1 σ H1 L _ r1 fun u F2 H2 x2 y2 => ⟨Nat.zero_le _, fun q hq => ?_⟩⟩
        have r2 := r1.ext x2
        have hd2 := x2.h _ _ hda
        have nq : F2 q = none := x2.s.free hq
        have aq : a ≠ q := fun z => by rw [z, hq] at hd2; cases hd2
        have sx2 := (sx.mono x1.f).mono x2.f
        have hd3 : upd H2 q (.lst []) a = some (.dK (ks.zip vs)) := by rw [upd_ne aq]; exact hd2
        have hzl : xs.length < sizeLine -> (ks.zip vs).length < sizeLine := fun h => by rw [List.length_zip, <- os.length]; exact Nat.lt_of_le_of_lt (Nat.min_le_right _ _) h
        have hkv := keyD_ok y2 hk
        unfold appK at ha
        have hz : xs.length < 1000000 := by
          by_cases h : xs.length < 1000000
          · exact h
          · rw [if_neg h] at ha; cases ha
        rw [if_pos hz] at ha
        cases hpos : pos kk ks with
        | none =>
          rw [hpos] at ha
          cases ha
          refine ⟨_, kk, hd3, hkv, hzl (Nat.lt_of_lt_of_le hz (by decide)), fun v hv => ?_, fun _ => ?_⟩
          · rw [valV_none hl hpos] at hv; cases hv
          · have hq4 : upd (upd H2 q (.lst [])) a (.dK (putK (ks.zip vs) kk (.ref q))) q = some (.lst []) := by rw [upd_ne (fun z => aq z.symm), upd_same]
            refine ⟨.inl ⟨rfl, _, .of hq4⟩, _, hxv, q, [], xv, rfl, rfl, hq4, by decide, ?_⟩
            have he : upd (upd (upd H2 q (.lst [])) a (.dK (putK (ks.zip vs) kk (.ref q)))) q (.lst ([] ++ [xv])) = upd (upd H2 q (.lst [xv])) a (.dK (putK (ks.zip vs) kk (.ref q))) := by
              funext b
              by_cases h1 : b = q
              · subst h1; rw [upd_same, upd_ne (fun z => aq z.symm), upd_same]; rfl
              · rw [upd_ne h1]
                by_cases h2 : b = a
                · subst h2; rw [upd_same, upd_same]
                · rw [upd_ne h2, upd_ne h2, upd_ne h1, upd_ne h1]
            rw [he]
            have ext3 : Ext F2 H2 F2 (upd H2 q (.lst [xv])) := .newH x2.s hq
            have go : rDput (.ref a) [u, .ref q] (upd H2 q (.lst [xv])) (fun _ H => Dn.nx σ H) := by
              refine am_mop mop_dput (n := .odic ks xs) (n' := .odic (ks ++ [kk]) (xs ++ [.olst [x]])) (d := .non) (ds := [y, .olst [x]]) (r2.ext ext3) (getS_some e4) h1 hs ((p1.mono x2.h).mono ext3.h) ?_ (Ms := [] ++ ([q] ++ [])) (.cons (.sh y2) (.cons (.olst upd_same (Shrs.owns (.cons sx2 .nil))) .nil)) (by simp) (fun b hb => ?_) fun v2 F2 H2 L2 M2 r2 o2 n2 k2 => s.nx _ _ _ _ _ rfl r2
              · show (if xs.length < 1000000 then (keyD y).bind fun k => (putP ks xs k (.olst [x])).map fun q => (D.odic q.1 q.2, D.non) else none) = _
                rw [if_pos hz, hk, Option.bind_some]
                unfold putP
                rw [hpos]
                rfl
              · have hb : b = q := by simpa using hb
                rw [hb]
                refine ⟨fun z => ?_, nq, r2.h0 hq⟩
                obtain ⟨w, hw⟩ := r2.slots.lives q z
                rw [hq] at hw; cases hw
            obtain ⟨a', k2, v', H', ex', ey', hd, q'⟩ := go
            cases ex'
            cases ey'
            rcases hd with ⟨kvs, k3, h3, h4, h5, h6⟩ | ⟨kvs, k3, b, h3, _⟩
            · rw [upd_ne aq, hd2] at h3
              cases h3
              rw [hkv] at h4
              cases kV_inj h4
              rw [h6] at q'
              exact q'
            · rw [upd_ne aq, hd2] at h3; cases h3
        | some i =>
          rw [hpos] at ha
          dsimp only at ha
          split at ha
          · rename_i ys hys
            obtain ⟨hzy, ha⟩ := ite_some ha
            cases ha
            have hi := (List.getElem?_eq_some_iff.mp hys).1
            have hsub : (D.odic ks xs).sub (.key kk) = some (.olst ys) := by
              show (pos kk ks).bind _ = _
              rw [hpos]; exact hys
            have hat : d0'.at (st ++ [.key kk]) = some (.olst ys) := D.at_snoc h1 hsub
            have ext3 : Ext F2 H2 F2 (upd H2 q (.lst [])) := .newH x2.s hq
            have r3 := r2.ext ext3
            have p3 := (p1.mono x2.h).mono ext3.h
            have hvl : i < vs.length := by have := os.length; omega
            have hstep : VStep (upd H2 q (.lst [])) (.ref a) (.key kk) vs[i] := by
              obtain ⟨z1, z2⟩ := zipK_get hl
              exact ⟨a, _, rfl, hd3, i, by rw [z1]; exact hpos, by rw [z2]; exact List.getElem?_eq_getElem hvl⟩
            have p4 := p3.snoc hstep
            refine ⟨_, kk, hd3, hkv, ?_, fun v hv => ?_, fun hv => ?_⟩
            · exact hzl (Nat.lt_of_lt_of_le hz (by decide))
            · rw [valV_at hl hpos, List.getElem?_eq_getElem hvl] at hv
              cases hv
              obtain ⟨w0, wn, Lw, Lv, e6, p5, ow, _⟩ := r3.focus (getS_some e4) hat
              rw [hs] at e6; cases e6
              cases p4.det p5
              have ap := am_mop mop_append r3 (getS_some e4) hat hs p4 (ds := [x]) (n' := .olst (ys ++ [x])) (d := .non) (by show (if ys.length < 1000000 then _ else none) = _; rw [if_pos hzy]) (Ms := []) (Shrs.owns (.cons (sx2) .nil)) .nil (fun _ m => nomatch m) (Q := fun _ H => Dn.nx σ H) fun v2 F2 H2 L2 M2 r2 o2 n2 k2 => s.nx _ _ _ _ _ (by
                rw [D.putAt_snoc h1 hsub]
                show RS.ofO _ = _
                unfold D.put
                have : (D.odic ks xs).place (.key kk) = some i := hpos
                rw [this]
                rfl) r2
              generalize vs[i] = w at *
              refine ⟨?_, _, hxv, ap⟩
              cases ow with
              | sh y => cases y
              | olst h _ => exact .inl ⟨rfl, _, .of h⟩
            · rw [valV_at hl hpos, List.getElem?_eq_getElem hvl] at hv; cases hv
          · cases ha
def par2 (P : List Nat) (i j : Nat) (env : Py.Env) (ds : List D) : Option Py.Env := match ds with
  | [x, y] => (setS P i x env).bind (setS P j y)
  | _ => none
def xsPar (i j : Nat) (a : XA W) : XS W where
  t _ := tPar i j a.t
  ev P env := RS.ofO ((a.evF env).bind (par2 P i j env))
  snd := fun P E env hn e F σ H L Dn hP r s => by
    cases h : (a.evF env).bind (par2 P i j env) with
    | none => exact absurd (by rw [h]; rfl) hn
    | some e2 =>
      rw [h] at s
      obtain ⟨ds, e1, h⟩ := Option.bind_eq_some_iff.mp h
      match ds, e1, h with
      | [x, y], e1, h =>
      obtain ⟨e3, h1, h2⟩ := Option.bind_eq_some_iff.mp h
      obtain ⟨⟨h3, h4⟩, rfl⟩ := ite_some h1
      obtain ⟨⟨h5, h6⟩, rfl⟩ := ite_some h2
      refine a.sF e1 e F σ H L _ r fun vs F1 H1 x1 sh => ?_
      have sh : Shrs W F1 [x, y] vs := sh
      cases sh with
      | cons s1 t1 =>
        cases t1 with
        | cons s2 t2 =>
          cases t2
          have pn : ∀ {k : Nat}, k ∉ P -> ∀ p ∈ e.pins, p.1 ≠ k := fun {k} hk p hm z => hk (by rw [hP]; exact List.mem_map.mpr ⟨p, hm, z⟩)
          obtain ⟨L2, r2⟩ := (r.ext x1).set (i := i) (d := x) (M := []) (.sh s1) (by simpa using r.nd) (fun a m => nomatch m) h3 (pn h4)
          obtain ⟨L3, r3⟩ := r2.set (i := j) (d := y) (M := []) (.sh s2) (by simpa using r2.nd) (fun a m => nomatch m) h5 (pn h6)
          exact ⟨_, _, rfl, s.nx _ _ _ _ _ rfl r3⟩
end
theorem sw_trueD {kx vx : Expr} {gs : List Comprehension} {scope : Scope} {pos py : Pos} {y : Str} {l : Nat} {env : PySem.Env} (hk : env.scope.kind = .function) (hy : env.scope.names.lookup y = some .local) (hl : (py.line == pos.line) = true)
    (ha : (scope.names.any fun (n, k) => n == y && (k == .local || k == .cell)) = false) : swapsWith (.DictComp kx vx gs scope pos) (some (.Name y py)) l env = pure true := by
  have ky : env.kindOf y = some .local := hy
  have hb : env.blockKind = .function := by unfold Env.blockKind; rw [hk]; rfl
  unfold swapsWith
  simp only [hb, ky, ha, Expr.pos, hl]
  rfl
theorem ps_setDc {X : Cx} {i : Nat} {y : Str} {py : Pos} {kx vx tg iter : Expr} {ifs : List Expr} {scope : Scope} {own : List (Str × Nat)} {pos spos : Pos} {wi : TI} {g : TG} {tt : TT} {tk tv : TE} (hc : X.calm = true) (hN : X.N.Nodup) (hy : X.N[i]? = some y) (hyl : X.env.scope.names.lookup y = some .local)
    (hsw : swapsWith (.DictComp kx vx [⟨tg, iter, ifs, 0⟩] scope pos) (some (.Name y py)) spos.line X.env = pure true) (hi : PI X tg iter wi) (ok : BlkOk X.N X.env.scope scope own)
    (hg : ∀ (s : Shared) (H : Hp) (C : Addr) (cl : List (Str × Addr)) (fp : List Addr), PG (X.blk s H scope (compEnvC scope cl C X.env) fp) tg g) (ht : ∀ (s : Shared) (H : Hp) (C : Addr) (cl : List (Str × Addr)) (fp : List Addr), PTs (X.blk s H scope (compEnvC scope cl C X.env) fp) ifs tt)
    (hk : ∀ (s : Shared) (H : Hp) (C : Addr) (cl : List (Str × Addr)) (fp : List Addr), PE (X.blk s H scope (compEnvC scope cl C X.env) fp) kx tk)
    (he : ∀ (s : Shared) (H : Hp) (C : Addr) (cl : List (Str × Addr)) (fp : List Addr), PE (X.blk s H scope (compEnvC scope cl C X.env) fp) vx tv) (hs : ∀ x, foldedSetIterable iter X.env x = pure x := by intro _; rfl) :
    PS X (.Assign [.Name y py] (.DictComp kx vx [⟨tg, iter, ifs, 0⟩] scope pos) spos) (tAsg (tDc wi g tt tk tv (own.map (·.2))) (gName i)) := by
  refine ⟨fun pins s σ H D I h => ?_⟩
  rw [exec_Assign_Name_used _ _ _ _ hsw]
  refine wpAny_bind (wpAny_standAt (wpAny_bind ?_))
  show wpAny _ X.A (do let _ <- comprehension (.DictComp kx vx [⟨tg, iter, ifs, 0⟩] scope pos) scope X.env (firstIterPos [⟨tg, iter, ifs, 0⟩] pos) newDict false (eval iter X.env) (some (assign (.Name y py) X.env))) _ _ s
  have h : tDc wi g tt tk tv (own.map (·.2)) σ H (fun x H1 => gName i x σ H1 D.nx) := h
  refine wpAny_bind (thn (dc_core (Qf := fun _ s' => SP X pins D .next s') hc hN I hi ok hg ht hk he hs h fun L C s' m H' I' q hn f => ?_) fun _ s' hq => wpAny_pure (wpAny_pure hq))
  show wpAny _ _ (assign (.Name y py) X.env (.ref L)) _ _ _
  refine wpAny_assign_Name (store_ok2 (v := V.ref L) I' hN hy (.inl hyl) rfl (fun s2 I2 ⟨a, sb, ha⟩ => ?_) (.inr hyl))
  obtain ⟨f0, f1, f2, f3, f4, f5⟩ := f
  have haC : C ≠ a := by
    rcases ha with z | z
    · rw [z]; exact f1
    · exact fun e => f4 y a z e.symm
  refine ⟨m, hn.sameBut sb haC, fun h3 sb3 => ?_⟩
  exact ⟨_, H', I2.turned (t' := s2.toks) (fun b o hb e => (sb3.2 b hb).trans e) f0 f1 f3 f4 f5, q⟩
theorem hu1 {k : Nat} {A : Around} (r : Room k A) : A.units + 1 < cLine := by have := r.un; omega
end Py
namespace Py
open PySem L2
section
variable {T : Tbl} {W : Wd T} {env : Py.Env} {P : List Nat} {E : WX} {A : AEnds}
end
end Py
namespace Py
open PySem L2
section
variable {T : Tbl} {W : Wd T} {env : Py.Env}
end
end Py
namespace Py
open PySem L2
section
variable {T : Tbl} {W : Wd T}
end
end Py
namespace Py
open PySem L2 PyProof.Rows
section
variable {P : Program} {w : World} {A : Around} {E : Value -> Shared -> Prop} {s : Shared}
end
end Py
namespace Py
open PySem L2
section
variable {X : Cx} {k n : Nat} {f C : Addr} {fd : FuncData} {ps ks : List Str} {sp : Sp} {E : WX} {x : Str} {p pos : Pos} {e : Expr} {es : List Expr} {kws : List Keyword} {t tkw : TA} {g : List Value -> List Value -> List Value} {gV : List V -> List V -> List V} {dvs : List V} {ds : List Value}
end
section
variable {T : Tbl} {W : Wd T} {env : Py.Env} {P : List Nat} {E : WX} {A : AEnds} {d : D}
theorem zip_snd {fs : List String} {ds : List D} (h : ds.length = fs.length) : (fs.zip ds).map (·.2) = ds := List.map_snd_zip (by omega)
end
end Py
namespace Py
open PySem L2
section
variable {T : Tbl} {W : Wd T} {env : Py.Env} {P : List Nat} {E : WX} {A : AEnds} {d : D} {i : Nat}
theorem IsExn.mono {F F' : Hp} {x : Exn} {C : Value} {dd : Option Addr} (e : Same F F') (h : IsExn W F x C dd) : IsExn W F' x C dd := by
  obtain ⟨h1, h2, h3⟩ := h
  refine ⟨h1, h2, h3.imp id ?_⟩
  rintro ⟨a, vs, h4, h5, h6⟩
  exact ⟨a, vs, h4, e _ _ h5, h6.mono e⟩
def AQ {T : Tbl} (W : Wd T) (i : Nat) (x : Exn) (a : Addr) (cls : Value) (dd : Option Addr) (t : TE) (env : Py.Env) (R : Res) : Prop :=
  ∀ (e : Ent) (F : Hp) (σ : St) (H : Hp) (L : List Addr) (Q : VK), Rel W e env F σ H L -> IsExn W F x cls dd -> σ[i]? = some (some (.ref a)) -> (∀ v F' H', Ext F H F' H' -> R F' H' H v -> Q v H') -> t σ H Q
structure XQ {T : Tbl} (W : Wd T) (i : Nat) where
  t : Addr -> Value -> Option Addr -> TE
  ev : Exn -> Py.Env -> Option (Kd × D)
  snd : ∀ {x env k d}, ev x env = some (k, d) -> ∀ a cls dd, AQ W i x a cls dd (t a cls dd) env (rK W k d)
def XQ.evB (m : XQ W i) (x : Exn) (env : Py.Env) : Option Bool := (toV (m.ev x env)).bind blD
theorem XQ.sB (m : XQ W i) {x : Exn} {b : Bool} (h : m.evB x env = some b) (a : Addr) (cls : Value) (dd : Option Addr) : AQ W i x a cls dd (m.t a cls dd) env (rV W (.bl b)) := by
  obtain ⟨y, e1, e⟩ := Option.bind_eq_some_iff.mp h
  cases blD_ok e
  match e2 : m.ev x env, e1 with
  | some (k, d0), e1 =>
    have e1 : some (fz d0) = some (.bl b) := e1
    exact fun e F σ H L Q r ie hs q => m.snd e2 a cls dd e F σ H L Q r ie hs fun v F' H' x' y => q v F' H' x' (by
      have := rK_view x'.s y
      rwa [Option.some.inj e1] at this)
def toQ (o : Option (Kd × D)) : Option D := match o with
  | some (.fr, d) => if isSh d = true then some d else none
  | some (.pl, d) => if isSh d = true then some d else none
  | some (.vw, d) => if isFlat d = true then some d else none
  | none => none
def XQ.evF (m : XQ W i) (x : Exn) (env : Py.Env) : Option D := toQ (m.ev x env)
theorem XQ.sF (m : XQ W i) {x : Exn} (h : m.evF x env = some d) (a : Addr) (cls : Value) (dd : Option Addr) : AQ W i x a cls dd (m.t a cls dd) env (rF W d) := by
  unfold XQ.evF toQ at h
  intro e F σ H L Q r ie hs q
  split at h
  · rename_i d0 e2
    obtain ⟨h1, rfl⟩ := ite_some h
    exact m.snd e2 a cls dd e F σ H L Q r ie hs fun v F' H' x' ⟨M, o, _, _⟩ => q v F' H' x' (o.shr h1)
  · rename_i d0 e2
    obtain ⟨h1, rfl⟩ := ite_some h
    exact m.snd e2 a cls dd e F σ H L Q r ie hs fun v F' H' x' ⟨M, o⟩ => q v F' H' x' (o.shr h1)
  · rename_i d0 e2
    obtain ⟨h1, rfl⟩ := ite_some h
    exact m.snd e2 a cls dd e F σ H L Q r ie hs fun v F' H' x' y => q v F' H' x' (Shr.flat y h1)
  · cases h
structure XQs {T : Tbl} (W : Wd T) (i : Nat) where
  t : Addr -> Value -> Option Addr -> TA
  ev : Exn -> Py.Env -> Option (List D)
  snd : ∀ {x env ds}, ev x env = some ds -> ∀ a cls dd (e : Ent) (F : Hp) (σ : St) (H : Hp) (L : List Addr) (Q : List V -> Hp -> Prop), Rel W e env F σ H L -> IsExn W F x cls dd -> σ[i]? = some (some (.ref a)) -> (∀ vs F' H', Ext F H F' H' -> Shrs W F' ds vs -> Q vs H') -> t a cls dd σ H Q
structure XH {T : Tbl} (W : Wd T) (i : Nat) where
  t : Addr -> Value -> Option Addr -> TS
  ev : Exn -> List Nat -> Py.Env -> RS
  snd : ∀ {x P env} (a : Addr) (cls : Value) (dd : Option Addr), ev x P env ≠ .no -> ∀ (e : Ent) (F : Hp) (σ : St) (H : Hp) (L : List Addr) (E : WX) (Dn : Ends), P = e.pins.map (·.1) -> Rel W e env F σ H L -> IsExn W F x cls dd -> σ[i]? = some (some (.ref a)) -> Sat W e E (ends (ev x P env)) Dn -> t a cls dd Dn σ H
def XQ.evO (m : XQ W i) (x : Exn) (env : Py.Env) : Option D := toO (m.ev x env)
theorem XQ.sO (m : XQ W i) {x : Exn} (h : m.evO x env = some d) (a : Addr) (cls : Value) (dd : Option Addr) : AQ W i x a cls dd (m.t a cls dd) env (rO W d) := by
  unfold XQ.evO at h
  intro e F σ H L Q r ie hs q
  match e2 : m.ev x env, h with
  | some (.fr, d0), h => cases h; exact m.snd e2 a cls dd e F σ H L Q r ie hs q
  | some (.pl, d0), h =>
    obtain ⟨h1, rfl⟩ := ite_some h
    exact m.snd e2 a cls dd e F σ H L Q r ie hs fun v F' H' x' ⟨M, o⟩ => q v F' H' x' (rO_sh (o.shr h1))
  | some (.vw, d0), h =>
    obtain ⟨h1, rfl⟩ := ite_some h
    exact m.snd e2 a cls dd e F σ H L Q r ie hs fun v F' H' x' y => q v F' H' x' (rO_sh (Shr.flat y h1))
theorem Slots.len {F H : Hp} {env : Py.Env} {σ : St} {L : List Addr} (h : Slots W F H env σ L) : env.length = σ.length := h.length
end
section
variable {X : Cx} {T : Tbl} {W : Wd T} {E : WX}
theorem cx_tk {P : Program} {w : World} {K : PySem.W.Frag} {mg : Str -> Option Value} {base : Heap} {N : List Str} {qual : Str} {sc : Scope} {f : Addr} {cdv : Value} {A : Around} {outer : List PySem.Env} {s : Shared} {H : Hp} {E : XK} :
    Takes (cxOf (L2.CX P w) P w K mg base N qual sc f cdv A outer s H E) (fun c d _ H => E c d H) := takes_of rfl rfl rfl rfl
theorem cx_po {P : Program} {w : World} {K : PySem.W.Frag} {mg : Str -> Option Value} {base : Heap} {N : List Str} {qual : Str} {sc : Scope} {f : Addr} {cdv : Value} {A : Around} {outer : List PySem.Env} {s : Shared} {H : Hp} {E : XK} :
    PassesOwn (model P w) (cxOf (L2.CX P w) P w K mg base N qual sc f cdv A outer s H E).A (cxOf (L2.CX P w) P w K mg base N qual sc f cdv A outer s H E).env (cxOf (L2.CX P w) P w K mg base N qual sc f cdv A outer s H E).xe := passes_of (X := cxOf (L2.CX P w) P w K mg base N qual sc f cdv A outer s H E) rfl
theorem spL_len {K : PySem.W.Frag} : ∀ vs H Q E, spL K vs H Q E -> vs.length = 1 := fun vs H Q E h => by
  obtain ⟨_, _, rfl, _⟩ := h
  rfl
end
end Py
namespace Py
open PySem L2
section
variable {T : Tbl} {W : Wd T}
end
end Py
namespace Py
open PySem L2
section
variable {T : Tbl} {W : Wd T}
def offA (a : Addr) (F1 F : Hp) : Hp := fun b => if b = a then F1 a else F b
end
end Py
namespace Py
open PySem L2
section
variable {T : Tbl} {W : Wd T}
end
end Py
namespace Py
open PySem L2 PyProof.Rows
section
variable {T : Tbl} {W : Wd T}
end
end Py
namespace Py
open PySem L2 PyProof.Rows
section
variable {T : Tbl} {W : Wd T}
end
end Py
namespace Py
open PySem L2
section
variable {T : Tbl} {W : Wd T}
def onL (As : List Addr) (H F : Hp) : Hp := fun b => if b ∈ As then H b else F b
theorem onL_in {As : List Addr} {H F : Hp} {b : Addr} (h : b ∈ As) : onL As H F b = H b := if_pos h
theorem onL_out {As : List Addr} {H F : Hp} {b : Addr} (h : b ∉ As) : onL As H F b = F b := if_neg h
theorem onL_same {As : List Addr} {F H : Hp} (s : Same F H) : Same F (onL As H F) /\ Same (onL As H F) H := by
  constructor
  · intro b o h
    by_cases e : b ∈ As
    · rw [onL_in e]; exact s _ _ h
    · rw [onL_out e]; exact h
  · intro b o h
    by_cases e : b ∈ As
    · rw [onL_in e] at h; exact h
    · rw [onL_out e] at h; exact s _ _ h
inductive Lents {T : Tbl} (W : Wd T) (F H : Hp) : List D -> List V -> List Addr -> Prop
  | nil : Lents W F H [] [] []
  | sh {d v ds vs As} : Shr W F d v -> Lents W F H ds vs As -> Lents W F H (d :: ds) (v :: vs) As
  | le {a xs ws ds vs As} : H a = some (.lst ws) -> Shrs W F xs ws -> Lents W F H ds vs As -> Lents W F H (.lst xs :: ds) (.ref a :: vs) (a :: As)
theorem Lents.ext {F H F' H' : Hp} (x : Ext F H F' H') : ∀ {ds : List D} {vs : List V} {As : List Addr}, Lents W F H ds vs As -> Lents W F' H' ds vs As
  | _, _, _, .nil => .nil
  | _, _, _, .sh h t => .sh (h.mono x.f) (t.ext x)
  | _, _, _, .le h s t => .le (x.h _ _ h) (s.mono x.f) (t.ext x)
theorem Lents.lists {F H : Hp} : ∀ {ds : List D} {vs : List V} {As : List Addr}, Lents W F H ds vs As -> ∀ b ∈ As, ∃ ws, H b = some (.lst ws)
  | _, _, _, .nil, b, m => nomatch m
  | _, _, _, .sh h t, b, m => t.lists b m
  | _, _, _, .le h s t, b, m => by
    rcases List.mem_cons.mp m with rfl | m
    · exact ⟨_, h⟩
    · exact t.lists b m
theorem Lents.shrs {F H : Hp} {Bs : List Addr} (s : Same F H) : ∀ {ds : List D} {vs : List V} {As : List Addr}, Lents W F H ds vs As -> (∀ b ∈ As, b ∈ Bs) -> Shrs W (onL Bs H F) ds vs
  | _, _, _, .nil, _ => .nil
  | _, _, _, .sh h t, k => .cons (h.mono (onL_same s).1) (t.shrs s k)
  | _, _, _, .le h u t, k => .cons (.lst (by rw [onL_in (k _ (List.mem_cons_self ..))]; exact h) (u.mono (onL_same s).1)) (t.shrs s fun b m => k b (List.mem_cons_of_mem _ m))
structure XB {T : Tbl} (W : Wd T) where
  t : TA
  ev : Py.Env -> Option (List D)
  snd : ∀ {env ds}, ev env = some ds -> ∀ (e : Ent) (F : Hp) (σ : St) (H : Hp) (L : List Addr) (Q : List V -> Hp -> Prop), Rel W e env F σ H L -> (∀ vs F' H' As, Ext F H F' H' -> Lents W F' H' ds vs As -> Q vs H') -> t σ H Q
end
end Py
namespace Py
open PySem L2
section
variable {T : Tbl} {W : Wd T} {P : Program} {w : World}
def DKeys (P : Program) (w : World) (H : Hp) (ks : List NestedKey) (kas : List Addr) : Prop := ∀ h, HOk P w H h -> ∀ (i : Nat) (k : NestedKey) (ka : Addr), ks[i]? = some k -> kas[i]? = some ka -> (nestedKind P w).is h k ka
def GD (P : Program) (w : World) (H : Hp) (a : Addr) (ks : List NestedKey) (kas : List Addr) (vs : List V) : Prop := H a = some (.ext (digP P w a ks kas vs)) /\ DKeys P w H ks kas
theorem zip3_get {α β γ : Type} {as : List α} {bs : List β} {cs : List γ} {i : Nat} {x : α × β × γ} (h : (as.zip (bs.zip cs))[i]? = some x) : as[i]? = some x.1 /\ bs[i]? = some x.2.1 /\ cs[i]? = some x.2.2 := by
  rw [List.getElem?_zip_eq_some, List.getElem?_zip_eq_some] at h
  exact ⟨h.1, h.2.1, h.2.2⟩
theorem zip3_mk {α β γ : Type} {as : List α} {bs : List β} {cs : List γ} {i : Nat} {x : α} {y : β} {z : γ} (h1 : as[i]? = some x) (h2 : bs[i]? = some y) (h3 : cs[i]? = some z) : (as.zip (bs.zip cs))[i]? = some (x, y, z) := by
  rw [List.getElem?_zip_eq_some, List.getElem?_zip_eq_some]
  exact ⟨h1, h2, h3⟩
theorem zip3_fst {α β γ : Type} {as : List α} {bs : List β} {cs : List γ} (h1 : as.length = bs.length) (h2 : as.length = cs.length) : (as.zip (bs.zip cs)).map (·.1) = as := by
  rw [List.map_fst_zip]
  rw [List.length_zip]; omega
structure GOk (P : Program) (w : World) (h : Heap) (a : Addr) (ks : List NestedKey) (kas : List Addr) (vs : List V) (us : List Value) : Prop where
  ns : (a == sysModules) = false
  rv : Vals vs us
  l1 : ks.length = kas.length
  l2 : ks.length = us.length
  sz : us.length <= sizeLine
  at' : h.DictOfH (nestedKind P w) a (ks.zip (kas.zip us))
  nd : ks.Nodup
theorem GD.ok {H : Hp} {h : Heap} {a : Addr} {ks : List NestedKey} {kas : List Addr} {vs : List V} (g : GD P w H a ks kas vs) (ok : HOk P w H h) : ∃ us, GOk P w h a ks kas vs us := by
  obtain ⟨⟨ns, us, rv, l1, l2, sz, o, es, ep, ho, hx, hd, he, hn⟩, _⟩ := ok _ _ g.1
  refine ⟨us, ns, rv, l1, l2, sz, ⟨o, es, ep, ho, hx, hd, he, fun x hx => ?_, ?_⟩, hn⟩
  · obtain ⟨i, hi⟩ := List.mem_iff_getElem?.mp hx
    obtain ⟨h1, h2, _⟩ := zip3_get hi
    exact g.2 h ok i _ _ h1 h2
  · rw [zip3_fst l1 l2]; exact hn
theorem GOk.dig {h : Heap} {a : Addr} {ks : List NestedKey} {kas : List Addr} {vs : List V} {us : List Value} (g : GOk P w h a ks kas vs us) : digP P w a ks kas vs h := by
  obtain ⟨o, es, ep, ho, hx, hd, he, _, _⟩ := g.at'
  exact ⟨g.ns, us, g.rv, g.l1, g.l2, g.sz, o, es, ep, ho, hx, hd, he, g.nd⟩
theorem GOk.new {H : Hp} {h : Heap} {a : Addr} {ks : List NestedKey} {kas : List Addr} {vs : List V} {us : List Value} (g : GOk P w h a ks kas vs us) : ObjOk P w H h a (.ext (digP P w a ks kas vs)) := by
  have ⟨o, _, _, ho, _⟩ := g.at'
  refine ⟨g.dig, ⟨o, ho⟩, fun h1 h2 p k => ?_⟩
  obtain ⟨ns, us, rv, l1, l2, sz, o, es, ep, ho, r⟩ := p
  exact ⟨ns, us, rv, l1, l2, sz, o, es, ep, k o ho, r⟩
theorem GOk.atKey_s {h : Heap} {a : Addr} {ks : List NestedKey} {kas : List Addr} {vs : List V} {us : List Value} (g : GOk P w h a ks kas vs us) {k : NestedKey} {j : Nat} (hp : pos k ks = some j) : ∃ ka u v, kas[j]? = some ka /\ us[j]? = some u /\ vs[j]? = some v /\ RelV v u /\ (ks.zip (kas.zip us))[j]? = some (k, ka, u) /\ atKey (ks.zip (kas.zip us)) k = some (ka, u) := by
  have hk := pos_get hp
  have hj := (List.getElem?_eq_some_iff.mp hk).1
  have l1 := g.l1
  have l2 := g.l2
  have l3 := g.rv.length
  have h1 : kas[j]? = some kas[j] := List.getElem?_eq_getElem (by omega)
  have h2 : us[j]? = some us[j] := List.getElem?_eq_getElem (by omega)
  have h3 : vs[j]? = some vs[j] := List.getElem?_eq_getElem (by omega)
  obtain ⟨u, hu, ru⟩ := g.rv.get h3
  rw [h2] at hu
  cases hu
  have hz := zip3_mk hk h1 h2
  exact ⟨_, _, _, h1, h2, h3, ru, hz, atKey_of_get (by rw [zip3_fst l1 l2]; exact g.nd) hz⟩
theorem pos_noneG {k : NestedKey} : ∀ {ks : List NestedKey}, pos k ks = none -> k ∉ ks
  | [], _, m => nomatch m
  | x :: ks, h, m => by
    have h : (if x = k then some 0 else (pos k ks).map (· + 1)) = none := h
    split at h
    · cases h
    · rename_i e
      rcases List.mem_cons.mp m with rfl | m
      · exact e rfl
      · exact pos_noneG (Option.map_eq_none_iff.mp h) m
theorem GOk.atKey_n {h : Heap} {a : Addr} {ks : List NestedKey} {kas : List Addr} {vs : List V} {us : List Value} (g : GOk P w h a ks kas vs us) {k : NestedKey} (hp : pos k ks = none) : atKey (ks.zip (kas.zip us)) k = none := by
  refine atKey_none_of_get fun j p hj => ?_
  obtain ⟨h1, _, _⟩ := zip3_get hj
  exact pos_noneG hp (List.mem_of_getElem? h1)
section
variable {X : Cx} {pins : List (Addr × Obj)} {σ : St} {H : Hp} {s : Shared} {A : Around} {E : Value -> Shared -> Prop} {a : Addr} {ks : List NestedKey} {kas : List Addr} {vs : List V} {k : NestedKey} {ka : Addr} {y v : V} {u r : Value}
end
section
variable {X : Cx} {o e f i : Expr} {apos cpos pos' : Pos} {td ty tx : TE}
end
end
end Py
namespace Py
open PySem L2
section
variable {X : Cx} {o e f i : Expr} {apos cpos pos' : Pos} {td ty tx : TE}
end
section
variable {T : Tbl} {W : Wd T} {env : Py.Env} {d : D}
theorem GD.mono {P : Program} {w : World} {H H' : Hp} {a : Addr} {ks : List NestedKey} {kas : List Addr} {vs : List V} (g : GD P w H a ks kas vs) (e : Same H H') (k : DKeys P w H' ks kas) : GD P w H' a ks kas vs := ⟨e _ _ g.1, k⟩
end
end Py
namespace Py
open PySem L2
section
variable {T : Tbl} {W : Wd T} {env : Py.Env} {d : D}
end
end Py
namespace Py
open PySem L2
section
variable {T : Tbl} {W : Wd T} {env : Py.Env} {d : D}
end
end Py
namespace Py
open PySem L2
def spEn : Sp := fun vs H Q _ => ∃ x, vs = [x] /\ Q x H
def spEx (P : Program) (w : World) (K : PySem.W.Frag) (f : String) : Sp := fun vs H Q _ => ∃ a C dx fs d ks kas ws, vs = [.ref a, .non, .non, .non] /\ H a = some (.ins C dx fs) /\ Cls K C /\ NoAttr K C (so f) /\ fs.lookup (so f) = some (.ref d) /\ GD P w H d ks kas ws /\ Q .non (upd H d (.ext (digP P w d [] [] [])))
structure WiOk (P : Program) (w : World) (K : PySem.W.Frag) (mg : Str -> Option Value) (base : Heap) (k : Nat) (C : Addr) (f : String) : Prop where
  en : MdOk P w K mg base k C "__enter__" 1 spEn
  ex : MdOk P w K mg base k C "__exit__" 4 (spEx P w K f)
section
variable {T : Tbl} {W : Wd T} {env : Py.Env} {d : D}
theorem Rel.back {e : Ent} {F H : Hp} {σ : St} {L : List Addr} {i j : Nat} {v : V} (r : Rel W e env F σ H L) (h : env[i]? = some (some d)) (hv : σ[i]? = some (some v)) (hj : j < env.length) (hw : σ[j]? = some (some v)) :
    ∃ L', Rel W e ((env.set i none).set j (some d)) F σ H L' := by
  obtain ⟨v', Li, Lr, e1, o, sl, nd, m⟩ := r.slots.take r.nd h
  rw [hv] at e1
  cases e1
  obtain ⟨L', s, nd', m'⟩ := sl.put (i := j) o nd (by simpa using hj)
  have hσ : σ.set j (some v) = σ := by
    apply List.ext_getElem?
    intro k
    by_cases hk : j = k
    · subst hk
      obtain ⟨hlt, _⟩ := List.getElem?_eq_some_iff.mp hw
      rw [List.getElem?_set_self hlt, hw]
    · rw [List.getElem?_set_ne hk]
  rw [hσ] at s
  have inL : ∀ a ∈ L', a ∈ L := fun a ha => (m a).mp (m' a ha)
  exact ⟨L', r.sF, s, nd', fun a ha => r.dj a (inL a ha), r.s0, r.nw, r.fr, fun a ha => r.ln a (inL a ha), r.pin⟩
end
end Py
namespace Py
open PySem L2 PyProof.Rows GenW
section
variable {M : Model} {A : Around} {R : GenEnd} {Y : Protocol} {n : Nat} {s₀ : Shared} {c : Code} {fs : List Frame} {s : Shared} {env : PySem.Env} {K : Flow -> PySem.Sem PySem.Fin} {H : Value -> PySem.Sem PySem.Fin} {gd : Bool -> Bool} {lv : List Value -> List Value}
end
section
variable {prog : Program} {w : World} {A : Around} {R : GenEnd} {Y : Protocol} {n : Nat} {s₀ : Shared} {fs : List Frame} {s : Shared} {env : PySem.Env}
end
section
variable {X : Cx}
end
end Py
namespace Py
open PySem L2 PyProof.Rows GenW
inductive RY where
  | nx (ys : List D) (env : Py.Env) | bk (ys : List D) (env : Py.Env) | ct (ys : List D) (env : Py.Env) | ex (x : Exn) (env : Py.Env) | no
structure YEnds where
  nx : List D -> Py.Env -> Prop
  bk : List D -> Py.Env -> Prop := fun _ _ => False
  ct : List D -> Py.Env -> Prop := fun _ _ => False
  ex : Exn -> Py.Env -> Prop := fun _ _ => False
def endsY (r : RY) : YEnds where
  nx ys e := r = .nx ys e
  bk ys e := r = .bk ys e
  ct ys e := r = .ct ys e
  ex x e := r = .ex x e
section
variable {T : Tbl} {W : Wd T} {env : Py.Env} {P : List Nat} {E : WX} {A : YEnds} {ys : List D}
structure SatY {T : Tbl} (W : Wd T) (e : Ent) (E : WX) (A : YEnds) (Dn : GEnds) : Prop where
  nx : ∀ ys env F σ H L vs, A.nx ys env -> Rel W e env F σ H L -> Shrs W F ys vs -> Dn.nx vs σ H
  bk : ∀ ys env F σ H L vs, A.bk ys env -> Rel W e env F σ H L -> Shrs W F ys vs -> Dn.bk vs σ H
  ct : ∀ ys env F σ H L vs, A.ct ys env -> Rel W e env F σ H L -> Shrs W F ys vs -> Dn.ct vs σ H
  ex : ∀ x env F σ H L C d, A.ex x env -> Rel W e env F σ H L -> IsExn W F x C d -> E C d σ H
def AY {T : Tbl} (W : Wd T) (P : List Nat) (E : WX) (t : TGn) (ys : List D) (env : Py.Env) (A : YEnds) : Prop :=
  ∀ (e : Ent) (F : Hp) (σ : L2.St) (H : Hp) (L : List Addr) (vs : List V) (Dn : GEnds), P = e.pins.map (·.1) -> Rel W e env F σ H L -> Shrs W F ys vs -> SatY W e E A Dn -> t Dn vs σ H
theorem SatY.weaken {A' : YEnds} {e : Ent} {Dn : GEnds} (s : SatY W e E A Dn) (nx : ∀ ys e, A'.nx ys e -> A.nx ys e) (bk : ∀ ys e, A'.bk ys e -> A.bk ys e) (ct : ∀ ys e, A'.ct ys e -> A.ct ys e) (ex : ∀ x e, A'.ex x e -> A.ex x e) : SatY W e E A' Dn :=
  ⟨fun _ _ _ _ _ _ _ a => s.nx _ _ _ _ _ _ _ (nx _ _ a), fun _ _ _ _ _ _ _ a => s.bk _ _ _ _ _ _ _ (bk _ _ a), fun _ _ _ _ _ _ _ a => s.ct _ _ _ _ _ _ _ (ct _ _ a), fun _ _ _ _ _ _ _ _ a => s.ex _ _ _ _ _ _ _ _ (ex _ _ a)⟩
theorem AY.weaken {t : TGn} {A' : YEnds} (h : AY W P E t ys env A') (nx : ∀ ys e, A'.nx ys e -> A.nx ys e) (bk : ∀ ys e, A'.bk ys e -> A.bk ys e) (ct : ∀ ys e, A'.ct ys e -> A.ct ys e) (ex : ∀ x e, A'.ex x e -> A.ex x e) : AY W P E t ys env A :=
  fun e F σ H L vs Dn hP r sh s => h e F σ H L vs Dn hP r sh (s.weaken nx bk ct ex)
structure XY {T : Tbl} (W : Wd T) where
  t : WX -> TGn
  ev : List Nat -> List D -> Py.Env -> RY
  snd : ∀ P E ys env, ev P ys env ≠ .no -> AY W P E (t E) ys env (endsY (ev P ys env))
def RY.then (r : RY) (f : List D -> Py.Env -> RY) : RY := match r with
  | .nx ys e => f ys e
  | r => r
end
end Py
namespace Py
open PySem L2 PyProof.Rows GenW
section
variable {T : Tbl} {W : Wd T}
end
structure MgOk (P : Program) (w : World) (K : PySem.W.Frag) (mg : Str -> Option Value) (base : Heap) (k : Nat) (C : Addr) (m : String) (n : Nat) (sp : SpG) : Prop where
  ex : ∃ g fd ps, Meth K C (so m) g /\ GFn P w K mg base k g fd ps sp /\ Binds K fd ps [] /\ ps.length = n
section
variable {P : Program} {w : World} {K : PySem.W.Frag} {mg : Str -> Option Value} {base : Heap}
end
section
variable {T : Tbl} {W : Wd T} {X : Cx}
end
end Py
namespace Py
open PySem L2
section
variable {T : Tbl} {W : Wd T}
end
end Py
namespace Py
open PySem L2
section
variable {T : Tbl} {W : Wd T}
end
end Py
namespace Py
open PySem L2
section
variable {T : Tbl} {W : Wd T}
end
end Py
namespace Py
open PySem L2
section
variable {T : Tbl} {W : Wd T}
end
end Py
namespace Py
open PySem L2 PyProof.Rows GenW
end Py
namespace Py
open PySem L2
section
variable {T : Tbl} {W : Wd T} {env : Py.Env}
end
end Py
namespace Py
open PySem L2
section
variable {T : Tbl} {W : Wd T}
end
end Py
namespace Py
open PySem L2
section
variable {T : Tbl} {W : Wd T}
end
end Py
namespace Py
open PySem L2
structure CmAt (K : PySem.W.Frag) (C : Addr) (m : String) (x qual : Str) (st : Stmt) : Prop where
  ex : ∃ p g fd mc, FunD K x qual (defArgs st) (defBody st) (defScope st) [] [] g fd /\ ClX.CRead K C mc /\ ClX.CMet K C mc (so m) p g
structure CmOk (P : Program) (w : World) (K : PySem.W.Frag) (mg : Str -> Option Value) (base : Heap) (k : Nat) (C : Addr) (m : String) (n : Nat) (sp : Sp) : Prop where
  ex : ∃ p g fd ps mc, ClX.CRead K C mc /\ ClX.CMet K C mc (so m) p g /\ FnOk P w K mg base (L2.CX P w) k g fd ps sp /\ Binds K fd ps [] /\ ps.length = n
section
variable {P : Program} {w : World} {K : PySem.W.Frag} {mg : Str -> Option Value} {base : Heap}
end
section
variable {X : Cx} {T : Tbl} {W : Wd T}
end
end Py
namespace Py
open PySem L2
section
variable {T : Tbl} {W : Wd T}
end
end Py
namespace Py
open PySem L2 NdefX
structure SupT (P : Program) (K : PySem.W.Frag) (D g : Addr) (fd : FuncData) (cda cc : Addr) : Prop where
  look : ∃ oc od osl, K.lookup g = some ⟨oc, od, .func fd, osl⟩
  head : ∃ ar : Arg, (fd.params.posonlyargs ++ fd.params.args).head? = some ar /\ ar.arg = ("self" : Str)
  code : ∃ ccl cdd vs ccs file tf, K.lookup cda = some ⟨ccl, cdd, .fields vs, ccs⟩ /\ vs[2]? = some (.str file tf) /\ ((P.main.file : Str) == file) = true
  cell : ∃ cl cld csl, K.lookup cc = some ⟨cl, cld, .cell (some (.ref D)), csl⟩
  dcl : ∃ cd, PySem.W.clsIn K D = some cd
  top : (P.main.scope.names.lookup ("super" : Str)).isSome = false
section
variable {M : Model} {A : Around} {E : Value -> Shared -> Prop} {s : Shared} {env : PySem.Env} {c0 : Code}
end
structure SupM (P : Program) (w : World) (K : PySem.W.Frag) (mg : Str -> Option Value) (base : Heap) {T : Tbl} (W : Wd T) (k : Nat) (φ : Sem) (D : Addr) (m : Str) (r : String -> Option String) : Prop where
  at_ : ∀ c nm, W.has c -> r c = some nm -> ∃ g2 fd2 ps2, PySem.W.ks_superIn K (W.cA c) D m = some (some (.ref g2)) /\ PySem.W.typeIn K (.ref g2) = some (.type "function") /\ PySem.W.mroIn K (W.cA c) (.ref D) = some true /\ PySem.W.fnIn K g2 = true /\
    FnOk P w K mg base (L2.CX P w) k g2 fd2 ps2 (spR W 2 (φ nm) none) /\ Binds K fd2 ps2 []
end Py
namespace Py
open PySem L2
structure Mk0 (K : PySem.W.Frag) (C : Addr) : Prop where
  makes : PySem.W.makesIn K C = true
  init : PySem.W.findIn K (.ref C) "__init__" = some (some (.builtin "object.__init__"))
  top : PySem.W.mroIn K C (.type "object") = some true
  kp : PySem.W.keepIn K (.ref C) = true
section
variable {X : Cx} {C : Addr} {pins : List (Addr × Obj)} {σ : L2.St} {H : Hp} {s : Shared} {Q : VK}
end
section
variable {T : Tbl} {W : Wd T}
end
end Py
namespace Py
open PySem L2 NdefX
section
variable {T : Tbl} {W : Wd T}
end
open PySem.W in
structure SupAt (P : Program) (K : Frag) (C : Addr) (m : String) (qual : Str) (st : Stmt) (D : Addr) : Prop where
  ex : ∃ (g cda cc : Addr) (doc pm ct : Value) (an : Option Addr), Meth K C (so m) g /\ codeIn K (.ref cda) qual = true /\ SupT P K D g (ksFn (so m) qual (defArgs st) (defBody st) (defScope st) .none .none doc pm an (.ref cda) ct cc) cda cc
open PySem.W in
structure SupC (K : Frag) (C D : Addr) (m : String) (E : Addr) : Prop where
  ex : ∃ g2, ks_superIn K C D (so m) = some (some (.ref g2)) /\ findIn K (.ref E) (so m) = some (some (.ref g2)) /\ typeIn K (.ref g2) = some (.type "function") /\ mroIn K C (.ref D) = some true /\ fnIn K g2 = true
section
variable {P : Program} {w : World} {K : PySem.W.Frag} {mg : Str -> Option Value} {base : Heap} {T : Tbl} {W : Wd T}
end
end Py
namespace Py
open PySem L2 PyProof.Rows
end Py
namespace Py
open PySem L2 PyProof.Rows
section
variable {P : Program} {w : World} {A : Around} {E : Value -> Shared -> Prop} {s : Shared} {a b : Addr}
end
end Py
namespace Py
open PySem L2 PyProof.Rows
section
variable {P : Program} {w : World} {A : Around} {E : Value -> Shared -> Prop} {s : Shared} {a b : Addr}
end
end Py
namespace Py
open PySem L2 PyProof.Rows
section
variable {T : Tbl} {W : Wd T}
end
end Py
namespace Py
open PySem L2
def getM (p : Kd) (z : Kd × D) : Option D -> Kd × D
  | some x => p.of x
  | none => z
def dcJ {T : Tbl} {W : Wd T} (k x : XP W) (b : Option Bool) (e : Py.Env) : Option (Option (Key × D)) := b.bind fun b => if b = true then ((k.evF e).bind keyD).bind fun y => (x.evF e).map fun z => some (y, z) else some none
def dcK {T : Tbl} {W : Wd T} (c : XT W) (k x : XP W) (o : Option Py.Env) : Option (Option (Key × D)) := o.bind fun e => dcJ k x (c.ev e) e
theorem nr {α : Type} {a b : α} (h : a = b) : a = b := h
theorem atI_litN {α : Type} {xs : List α} (n : Nat) : atI xs (n : Int) = xs[n]? := by
  unfold atI ixN
  rw [if_pos (by omega)]
  by_cases h : (n : Int) < xs.length
  · rw [if_pos h]; rfl
  · rw [if_neg h, List.getElem?_eq_none (by omega)]; rfl
theorem atI_last {α : Type} {xs : List α} : atI xs (-1) = xs.getLast? := by
  unfold atI ixN
  rw [if_neg (by omega)]
  cases xs with
  | nil => rfl
  | cons x xs =>
    rw [if_pos (by simp; omega), List.getLast?_eq_getElem?]
    show (x :: xs)[_]? = _
    congr 1
    simp
    omega
def callE (φ : List D -> Option Nat -> Rz) (n : Nat) (dds : List D) (f v : Option (List D)) : Option (Kd × D) := match f with
  | some ds => if (ds ++ dds).length = n then (φ (ds ++ dds) none).toF else none
  | none => match v with
    | some ds => if (ds ++ dds).length = n then (φ (ds ++ dds) none).toV else none
    | none => none
def turnE (o : Option Py.Env) (f : Py.Env -> RS) : RS := match o with
  | some e => f e
  | none => .no
def forE (f : D -> Py.Env -> RS) (o : Option (List D)) (env : Py.Env) : RS := match o with
  | some ds => forL f ds env
  | none => .no
def frzO (env : Py.Env) (i : Nat) : Option D -> Py.Env
  | some d => env.set i (some (fz d))
  | none => env
def resE (o : Option String) (f : String -> Rz) : Rz := match o with
  | some nm => f nm
  | none => .no
def lenQ (o : Option String) (f : String -> Option D) : Option D := match o with
  | some nm => f nm
  | none => none
def lenR : Rz -> Option D
  | .ok (.int i) _ => if 0 <= i /\ i <= 1000000 then some (.int i) else none
  | _ => none
def setO (xs : List D) (o : Option Nat) (y : D) : List D := match o with
  | some j => xs.set j y
  | none => xs
def putE (d : D) (s : Pst) (st : List Pst) (n : D) (o : Option D) : D := match o with
  | some x => d.put s (x.putAt st n)
  | none => d
def retZ (o : Option (Option D)) (d : D) : Rz := match o with
  | some x => .ok d x
  | none => .no
def retX (o : Option (Option D)) (x : Exn) : Rz := match o with
  | some y => .exn x y
  | none => .no
def ipD (f : Int -> Int -> Int) (x y : D) : Option D := match x, y with
  | .int i, .int j => some (.int (f i j))
  | _, _ => none
def subFld (T : Tbl) (f : String) (q : List Pst × D) : Option (List Pst × D) := match q.2 with
  | .oins c ns xs => if T.fOk c f = true then ((pos f ns).bind fun j => xs[j]?).map fun x => (q.1 ++ [.fld f], x) else none
  | _ => none
def subIx (q : List Pst × D) (y : D) : Option (List Pst × D) := match q.2, y with
  | .olst xs, .int i => (ixN xs.length i).bind fun j => (xs[j]?).map fun x => (q.1 ++ [.idx j], x)
  | _, _ => none
def forT (f : D -> Py.Env -> RS) (ds : List D) : RS -> RS
  | .nx e => forL f ds e
  | .ct e => forL f ds e
  | .bk e => .nx e
  | r => r
def asgK (P : List Nat) (i : Nat) (d : D) (e : Py.Env) : RS := RS.ofO (setS P i d e)
def asgGK {T : Tbl} {W : Wd T} (P : List Nat) (g : XG W) (d : D) (e : Py.Env) : RS := RS.ofO (g.ev P (fz d) e)
def iteF (b : Option Bool) (s u : Py.Env -> RS) (e : Py.Env) : RS := match b with
  | some true => s e
  | some false => u e
  | none => .no
def andF (b : Option Bool) (f : Py.Env -> Option Bool) (e : Py.Env) : Option Bool := match b with
  | some true => f e
  | some false => some false
  | none => none
def orF (b : Option Bool) (f : Py.Env -> Option Bool) (e : Py.Env) : Option Bool := match b with
  | some false => f e
  | some true => some true
  | none => none
def forK {T : Tbl} {W : Wd T} (g : XG W) (b : XS W) (P : List Nat) (d : D) (e : Py.Env) : RS := turnE (g.ev P d e) (b.ev P)
def lcJ {T : Tbl} {W : Wd T} (x : XP W) (b : Option Bool) (e : Py.Env) : Option (List D) := b.bind fun k => if k = true then (x.evO e).map fun y => [y] else some []
def lcK {T : Tbl} {W : Wd T} (c : XT W) (x : XP W) (o : Option Py.Env) : Option (List D) := o.bind fun e => lcJ x (c.ev e) e
theorem e_xsSeq {T : Tbl} {W : Wd T} {s u : XS W} {P env} : (xsSeq s u).ev P env = (s.ev P env).then (u.ev P) := nr rfl
theorem e_xsNext {T : Tbl} {W : Wd T} {P env} : (xsNext W).ev P env = .nx env := nr rfl
theorem e_xsNever {T : Tbl} {W : Wd T} {P env} : (xsNever W).ev P env = .no := nr rfl
theorem e_xsAsg {T : Tbl} {W : Wd T} {i} {m : XM W} {P env} : (xsAsg i m).ev P env = (m.ev P env).thenS (asgK P i) := nr rfl
theorem e_xsAsgG {T : Tbl} {W : Wd T} {g : XG W} {m : XM W} {P env} : (xsAsgG g m).ev P env = (m.ev P env).thenS (asgGK P g) := nr rfl
theorem e_xsExpr {T : Tbl} {W : Wd T} {m : XM W} {P env} : (xsExpr m).ev P env = (m.ev P env).thenS fun _ => RS.nx := nr rfl
theorem e_xsRet {T : Tbl} {W : Wd T} {m : XM W} {P env} : (xsRet m).ev P env = (m.ev P env).thenS RS.rt := nr rfl
theorem e_xsIf {T : Tbl} {W : Wd T} {c : XT W} {s u : XS W} {P env} : (xsIf c s u).ev P env = iteF (c.ev env) (s.ev P) (u.ev P) env := nr rfl
theorem e_xsFrz {T : Tbl} {W : Wd T} {is} {s : XS W} {P env} : (xsFrz is s).ev P env = s.ev P (is.foldl frzS env) := nr rfl
theorem e_xmP {T : Tbl} {W : Wd T} {p : XP W} {P env} : (xmP p).ev P env = RM.of (p.evO env) env := nr rfl
theorem e_xVar_V {T : Tbl} {W : Wd T} {i env} : (xVar W i).evV env = (getS env i).map fz := by show toV ((getS env i).map _) = _; cases getS env i <;> rfl
theorem e_xtV {T : Tbl} {W : Wd T} {a : XP W} {env} : (xtV a).ev env = (a.evV env).bind blD := nr rfl
theorem e_xtTru {T : Tbl} {W : Wd T} {a : XP W} {env} : (xtTru a).ev env = (a.evV env).bind truD := nr rfl
theorem e_xtAnd {T : Tbl} {W : Wd T} {a b : XT W} {env} : (xtAnd a b).ev env = andF (a.ev env) b.ev env := nr rfl
theorem e_xtOr {T : Tbl} {W : Wd T} {a b : XT W} {env} : (xtOr a b).ev env = orF (a.ev env) b.ev env := nr rfl
theorem e_xtNot {T : Tbl} {W : Wd T} {a : XT W} {env} : (xtNot a).ev env = (a.ev env).map (!·) := nr rfl
theorem e_xtYes {T : Tbl} {W : Wd T} {env} : (xtYes W).ev env = some true := nr rfl
theorem e_xVar {T : Tbl} {W : Wd T} {i env} : (xVar W i).ev env = (getS env i).map (Prod.mk .pl) := nr rfl
theorem e_xInt {T : Tbl} {W : Wd T} {i env} : (xInt W i).ev env = some (.fr, .int i) := nr rfl
theorem e_xBl {T : Tbl} {W : Wd T} {b env} : (xBl W b).ev env = some (.fr, .bl b) := nr rfl
theorem e_xNon {T : Tbl} {W : Wd T} {env} : (xNon W).ev env = some (.fr, .non) := nr rfl
theorem e_xStr {T : Tbl} {W : Wd T} {x env} : (xStr W x).ev env = some (.fr, .str x) := nr rfl
theorem e_xSub {T : Tbl} {W : Wd T} {a b : XP W} {env} : (xSub a b).ev env = (a.evV env).bind fun x => (b.evV env).bind fun y => (subD x y).map (Prod.mk .fr) := nr rfl
theorem e_xMul {T : Tbl} {W : Wd T} {a b : XP W} {env} : (xMul a b).ev env = (a.evV env).bind fun x => (b.evV env).bind fun y => (mulD x y).map (Prod.mk .fr) := nr rfl
theorem e_xDiv {T : Tbl} {W : Wd T} {a b : XP W} {env} : (xDiv a b).ev env = (a.evV env).bind fun x => (b.evV env).bind fun y => (divD x y).map (Prod.mk .fr) := nr rfl
theorem e_xMod {T : Tbl} {W : Wd T} {a b : XP W} {env} : (xMod a b).ev env = (a.evV env).bind fun x => (b.evV env).bind fun y => (modD x y).map (Prod.mk .fr) := nr rfl
theorem e_xPow {T : Tbl} {W : Wd T} {a b : XP W} {env} : (xPow a b).ev env = (a.evV env).bind fun x => (b.evV env).bind fun y => (powD x y).map (Prod.mk .fr) := nr rfl
theorem e_xNeg {T : Tbl} {W : Wd T} {a : XP W} {env} : (xNeg a).ev env = (a.evV env).bind fun x => (negD x).map (Prod.mk .fr) := by show (match a.evV env with | some x => _ | none => _) = _; cases a.evV env <;> rfl
theorem e_xAdd {T : Tbl} {W : Wd T} {a b : XP W} {env} : (xAdd a b).ev env = (a.evK env).bind fun x => (b.evK env).bind fun y => (addD x y).map (Prod.mk .fr) := nr rfl
theorem e_xEq {T : Tbl} {W : Wd T} {a b : XP W} {env} : (xEq a b).ev env = (a.evV env).bind fun x => (b.evV env).bind fun y => (eqD x y).map (Prod.mk .fr) := nr rfl
theorem e_xNe {T : Tbl} {W : Wd T} {a b : XP W} {env} : (xNe a b).ev env = (a.evV env).bind fun x => (b.evV env).bind fun y => (neD x y).map (Prod.mk .fr) := nr rfl
theorem e_xLt {T : Tbl} {W : Wd T} {a b : XP W} {env} : (xLt a b).ev env = (a.evV env).bind fun x => (b.evV env).bind fun y => (ltD x y).map (Prod.mk .fr) := nr rfl
theorem e_xGt {T : Tbl} {W : Wd T} {a b : XP W} {env} : (xGt a b).ev env = (a.evV env).bind fun x => (b.evV env).bind fun y => (cmpD (fun i j => decide (j < i)) x y).map (Prod.mk .fr) := nr rfl
theorem e_xGe {T : Tbl} {W : Wd T} {a b : XP W} {env} : (xGe a b).ev env = (a.evV env).bind fun x => (b.evV env).bind fun y => (cmpD (fun i j => decide (j <= i)) x y).map (Prod.mk .fr) := nr rfl
theorem e_xIsN {T : Tbl} {W : Wd T} {a : XP W} {env} : (xIsN a).ev env = (a.evV env).map fun x => (.fr, .bl (isNon x)) := nr rfl
theorem e_xAnd {T : Tbl} {W : Wd T} {a b : XP W} {env} : (xAnd a b).ev env = (andF (a.evB env) b.evB env).map fun c => (.fr, .bl c) := nr rfl
theorem e_xOr {T : Tbl} {W : Wd T} {a b : XP W} {env} : (xOr a b).ev env = (orF (a.evB env) b.evB env).map fun c => (.fr, .bl c) := nr rfl
theorem e_xNot {T : Tbl} {W : Wd T} {a : XP W} {env} : (xNot a).ev env = (a.evB env).map fun c => (.fr, .bl (!c)) := nr rfl
theorem e_xTup {T : Tbl} {W : Wd T} {as : XA W} {env} : (xTup as).ev env = (as.evF env).bind fun ds => if ds.length <= 1000000 then some (.fr, .tup ds) else none := nr rfl
theorem e_xLst {T : Tbl} {W : Wd T} {as : XA W} {env} : (xLst as).ev env = (as.evF env).bind fun ds => if ds.length <= 1000000 then some (.fr, .olst ds) else none := nr rfl
theorem e_xInt1 {T : Tbl} {W : Wd T} {as : XA W} {env} : (xInt1 as).ev env = (as.evV env).bind fun ds => (intD ds).map (Prod.mk .fr) := nr rfl
theorem e_xAbs {T : Tbl} {W : Wd T} {as : XA W} {env} : (xAbs as).ev env = (as.evV env).bind fun ds => (absD ds).map (Prod.mk .fr) := nr rfl
theorem e_xIx {T : Tbl} {W : Wd T} {a b : XP W} {env} : (xIx a b).ev env = (a.ev env).bind fun p => (b.evV env).bind fun y => (ixD p.2 y).map p.1.of := nr rfl
theorem e_xFld {T : Tbl} {W : Wd T} {a : XP W} {f env} : (xFld a f).ev env = (a.ev env).bind fun p => (fldD T f p.2).map p.1.of := nr rfl
theorem e_xList {T : Tbl} {W : Wd T} {a : XP W} {env} : (xList a).ev env = (a.evK env).bind fun d => (seqOf d).map fun p => (.fr, .olst p.2) := nr rfl
theorem e_xTuple {T : Tbl} {W : Wd T} {a : XP W} {env} : (xTuple a).ev env = (a.evK env).bind fun d => (seqOf d).map fun p => (.fr, .tup p.2) := nr rfl
theorem e_xIsi {T : Tbl} {W : Wd T} {c} {a : XP W} {env} : (xIsi c a).ev env = (a.evV env).bind fun x => (tyD x).map fun t => (.fr, .bl (isi1 T t c)) := nr rfl
theorem e_xCall {T : Tbl} {W : Wd T} {φ n} {as : XA W} {dds dvs hd env} : (xCall φ n as dds dvs hd).ev env = callE φ n dds (as.evF env) (as.evV env) := by show (match as.evF env with | some ds => _ | none => _) = _; unfold callE; cases as.evF env <;> first | rfl | (cases as.evV env <;> rfl)
theorem e_xLc {T : Tbl} {W : Wd T} {it : XI W} {g : XG W} {c x env} : (xLc it g c x).ev env = (it.evP env).bind fun ds => if ds.length < 1000000 then (lcL (lc1 g c x (wipeE env g.own)) ds).map fun ys => (.fr, .olst ys) else none := nr rfl
theorem e_xSorted {T : Tbl} {W : Wd T} {a : XP W} {env} : (xSorted a).ev env = (a.evK env).bind fun d => (seqOf d).bind fun p => if p.1 = false then (sortD p.2).map fun ys => (.fr, .olst ys) else none := nr rfl
theorem e_xmVar {T : Tbl} {W : Wd T} {i P env} : (xmVar W i).ev P env = RM.ofO ((getS env i).map fun d => (fz d, if isSh d = true then env else env.set i (some (fz d)))) := by show (match getS env i with | some d => _ | none => _) = _; cases getS env i <;> rfl
theorem e_xmMove {T : Tbl} {W : Wd T} {i P env} : (xmMove W i).ev P env = RM.ofO ((getS env i).map fun d => (d, env.set i none)) := by show (match getS env i with | some d => _ | none => _) = _; cases getS env i <;> rfl
theorem e_xmAppend {T : Tbl} {W : Wd T} {p : XPl W} {a : XP W} {P env} : (xmAppend p a).ev P env = RM.ofO ((p.ev env).bind fun q => ((xoCons a (xoNil W)).ev env).bind fun ds => (appendD q.2 ds).bind fun z => (getS env p.root).map fun d0 => (z.2, env.set p.root (some (d0.putAt q.1 z.1)))) := nr rfl
theorem e_xmInsert {T : Tbl} {W : Wd T} {p : XPl W} {a b : XP W} {P env} : (xmInsert p a b).ev P env = RM.ofO ((p.ev env).bind fun q => ((xoCons a (xoCons b (xoNil W))).ev env).bind fun ds => (insertD q.2 ds).bind fun z => (getS env p.root).map fun d0 => (z.2, env.set p.root (some (d0.putAt q.1 z.1)))) := nr rfl
theorem e_xmPop {T : Tbl} {W : Wd T} {p : XPl W} {P env} : (xmPop p).ev P env = RM.ofO ((p.ev env).bind fun q => ((xoNil W).ev env).bind fun ds => (popD q.2 ds).bind fun z => (getS env p.root).map fun d0 => (z.2, env.set p.root (some (d0.putAt q.1 z.1)))) := nr rfl
theorem e_xoNil {T : Tbl} {W : Wd T} {env} : (xoNil W).ev env = some [] := nr rfl
theorem e_xoCons {T : Tbl} {W : Wd T} {a : XP W} {as : XO W} {env} : (xoCons a as).ev env = (a.evO env).bind fun x => (as.ev env).map (x :: ·) := nr rfl
theorem e_plVar {T : Tbl} {W : Wd T} {i env} : (plVar W i).ev env = (getS env i).map fun d => ([], d) := nr rfl
theorem r_plVar {T : Tbl} {W : Wd T} {i} : (plVar W i).root = i := nr rfl
theorem r_plFld {T : Tbl} {W : Wd T} {p : XPl W} {f} : (plFld p f).root = p.root := nr rfl
theorem r_plIx {T : Tbl} {W : Wd T} {p : XPl W} {k} : (plIx p k).root = p.root := nr rfl
theorem e_plFld {T : Tbl} {W : Wd T} {p : XPl W} {f env} : (plFld p f).ev env = (p.ev env).bind fun q => subFld T f q := nr rfl
theorem e_plIx {T : Tbl} {W : Wd T} {p : XPl W} {k : XP W} {env} : (plIx p k).ev env = (p.ev env).bind fun q => (k.evV env).bind fun y => subIx q y := nr rfl
theorem e_xaNilV {T : Tbl} {W : Wd T} {env} : (xaNil W).evV env = some [] := nr rfl
theorem e_xaNilF {T : Tbl} {W : Wd T} {env} : (xaNil W).evF env = some [] := nr rfl
theorem e_xaConsV {T : Tbl} {W : Wd T} {a : XP W} {as : XA W} {env} : (xaCons a as).evV env = (a.evV env).bind fun x => (as.evV env).map (x :: ·) := nr rfl
theorem e_xaConsF {T : Tbl} {W : Wd T} {a : XP W} {as : XA W} {env} : (xaCons a as).evF env = (a.evF env).bind fun x => (as.evF env).map (x :: ·) := nr rfl
theorem e_xgN {T : Tbl} {W : Wd T} {i P d env} : (xgN W i).ev P d env = setS P i d env := nr rfl
theorem e_xgsNil {T : Tbl} {W : Wd T} {P env} : (xgsNil W).ev P [] env = some env := nr rfl
theorem e_xgsCons {T : Tbl} {W : Wd T} {g : XG W} {gs : XGs W} {P d ds env} : (xgsCons g gs).ev P (d :: ds) env = (g.ev P d env).bind (gs.ev P ds) := nr rfl
theorem e_xgT {T : Tbl} {W : Wd T} {n} {gs : XGs W} {P ds env} : (xgT n gs).ev P (.tup ds) env = if ds.length = n then gs.ev P ds env else none := nr rfl
theorem o_xgN {T : Tbl} {W : Wd T} {i} : (xgN W i).own = [i] := nr rfl
theorem o_xgT {T : Tbl} {W : Wd T} {n} {gs : XGs W} : (xgT n gs).own = gs.own := nr rfl
theorem o_xgsNil {T : Tbl} {W : Wd T}  : (xgsNil W).own = [] := nr rfl
theorem o_xgsCons {T : Tbl} {W : Wd T} {g : XG W} {gs : XGs W} : (xgsCons g gs).own = g.own ++ gs.own := nr rfl
theorem e_xiSeqF {T : Tbl} {W : Wd T} {a : XP W} {env} : (xiSeq a).evF env = (a.evF env).bind seqF := nr rfl
theorem e_xiSeqP {T : Tbl} {W : Wd T} {a : XP W} {env} : (xiSeq a).evP env = (a.evK env).bind fun d => (seqOf d).map (·.2) := nr rfl
theorem e_xiR1F {T : Tbl} {W : Wd T} {as : XA W} {env} : (xiR1 as).evF env = (as.evV env).bind rng1D := nr rfl
theorem e_xiR1P {T : Tbl} {W : Wd T} {as : XA W} {env} : (xiR1 as).evP env = (as.evV env).bind rng1D := nr rfl
theorem e_xsFor {T : Tbl} {W : Wd T} {it : XI W} {g : XG W} {b : XS W} {P env} : (xsFor it g b).ev P env = forE (forK g b P) (it.evF env) env := by show (match it.evF env with | some ds => _ | none => _) = _; unfold forE forK turnE; cases it.evF env <;> rfl
theorem e_xsWhile {T : Tbl} {W : Wd T} {c : XT W} {b : XS W} {P env} : (xsWhile c b).ev P env = whileN c.ev (b.ev P) fuel env := nr rfl
theorem e_xsAug {T : Tbl} {W : Wd T} {i f} {a : XP W} {P env} : (xsAug i f a).ev P env = RS.ofO ((getS env i).bind fun x => (a.evV env).bind fun y => (ipD f x y).bind fun z => setS P i z env) := by show RS.ofO _ = _; congr 1; congr 1; funext x; congr 1; funext y; unfold ipD; cases x <;> cases y <;> rfl
theorem e_evV {T : Tbl} {W : Wd T} {x : XP W} {env} : x.evV env = toV (x.ev env) := nr rfl
theorem e_evK {T : Tbl} {W : Wd T} {x : XP W} {env} : x.evK env = toK (x.ev env) := nr rfl
theorem e_evF {T : Tbl} {W : Wd T} {x : XP W} {env} : x.evF env = toF (x.ev env) := nr rfl
theorem e_evO {T : Tbl} {W : Wd T} {x : XP W} {env} : x.evO env = toO (x.ev env) := nr rfl
theorem e_evB {T : Tbl} {W : Wd T} {x : XP W} {env} : x.evB env = (x.evV env).bind blD := nr rfl
theorem h_getS0 {d e} : getS (some d :: e) 0 = some d := nr rfl
theorem h_getS0n {e} : getS (none :: e) 0 = none := nr rfl
theorem h_getSs {x e} {n : Nat} : getS (x :: e) (n + 1) = getS e n := nr rfl
theorem h_toV {k d} : toV (some (k, d)) = some (fz d) := nr rfl
theorem h_toVn  : toV none = none := nr rfl
theorem h_toKf {d} : toK (some (.fr, d)) = some d := nr rfl
theorem h_toKp {d} : toK (some (.pl, d)) = some d := nr rfl
theorem h_toKv {d} : toK (some (.vw, d)) = if isFlat d = true then some d else none := nr rfl
theorem h_toKn  : toK none = none := nr rfl
theorem h_toFf {d} : toF (some (.fr, d)) = some (fz d) := nr rfl
theorem h_toFp {d} : toF (some (.pl, d)) = if isSh d = true then some d else none := nr rfl
theorem h_toFv {d} : toF (some (.vw, d)) = if isFlat d = true then some d else none := nr rfl
theorem h_toFn  : toF none = none := nr rfl
theorem h_toOf {d} : toO (some (.fr, d)) = some d := nr rfl
theorem h_toOp {d} : toO (some (.pl, d)) = if isSh d = true then some d else none := nr rfl
theorem h_toOv {d} : toO (some (.vw, d)) = if isFlat d = true then some d else none := nr rfl
theorem h_toOn  : toO none = none := nr rfl
theorem h_of_f {d} : Kd.of .fr d = (.pl, d) := nr rfl
theorem h_of_p {d} : Kd.of .pl d = (.pl, d) := nr rfl
theorem h_of_v {d} : Kd.of .vw d = (.vw, fz d) := nr rfl
theorem h_then_nx {e f} : RS.then (.nx e) f = f e := nr rfl
theorem h_then_rt {d e f} : RS.then (.rt d e) f = .rt d e := nr rfl
theorem h_then_bk {e f} : RS.then (.bk e) f = .bk e := nr rfl
theorem h_then_ct {e f} : RS.then (.ct e) f = .ct e := nr rfl
theorem h_then_ex {x e f} : RS.then (.ex x e) f = .ex x e := nr rfl
theorem h_then_no {f} : RS.then .no f = .no := nr rfl
theorem h_thenS_ok {d e f} : RM.thenS (.ok d e) f = f d e := nr rfl
theorem h_thenS_exn {x e f} : RM.thenS (.exn x e) f = .ex x e := nr rfl
theorem h_thenS_no {f} : RM.thenS .no f = .no := nr rfl
theorem h_ofO {e} : RS.ofO (some e) = .nx e := nr rfl
theorem h_ofOn  : RS.ofO none = .no := nr rfl
theorem h_of {d e} : RM.of (some d) e = .ok d e := nr rfl
theorem h_ofn {e} : RM.of none e = .no := nr rfl
theorem h_mofO {d e} : RM.ofO (some (d, e)) = .ok d e := nr rfl
theorem h_mofOn  : RM.ofO none = .no := nr rfl
theorem h_iteF1 {s u e} : iteF (some true) s u e = s e := nr rfl
theorem h_iteF0 {s u e} : iteF (some false) s u e = u e := nr rfl
theorem h_iteFn {s u e} : iteF none s u e = .no := nr rfl
theorem h_asgK {P i d e} : asgK P i d e = RS.ofO (setS P i d e) := nr rfl
theorem h_asgGK {T : Tbl} {W : Wd T} {P} {g : XG W} {d e} : asgGK P g d e = RS.ofO (g.ev P (fz d) e) := nr rfl
theorem h_forK {T : Tbl} {W : Wd T} {g : XG W} {b : XS W} {P d e} : forK g b P d e = turnE (g.ev P d e) (b.ev P) := nr rfl
theorem h_andF1 {f e} : andF (some true) f e = f e := nr rfl
theorem h_andF0 {f e} : andF (some false) f e = some false := nr rfl
theorem h_orF1 {f e} : orF (some true) f e = some true := nr rfl
theorem h_orF0 {f e} : orF (some false) f e = f e := nr rfl
theorem h_blD {b} : blD (.bl b) = some b := nr rfl
theorem h_turn {e f} : turnE (some e) f = f e := nr rfl
theorem h_turnn {f} : turnE none f = .no := nr rfl
theorem h_forE {f ds env} : forE f (some ds) env = forL f ds env := nr rfl
theorem h_forEn {f env} : forE f none env = .no := nr rfl
theorem h_callF {φ : List D -> Option Nat -> Rz} {n dds ds v} : callE φ n dds (some ds) v = if (ds ++ dds).length = n then (φ (ds ++ dds) none).toF else none := nr rfl
theorem h_callV {φ : List D -> Option Nat -> Rz} {n dds ds} : callE φ n dds none (some ds) = if (ds ++ dds).length = n then (φ (ds ++ dds) none).toV else none := nr rfl
theorem h_rzF {d b} : (Rz.ok d b).toF = some (.fr, d) := nr rfl
theorem h_rzV {d b} : (Rz.ok d b).toV = some (if isFlat d = true then (.fr, d) else (.vw, fz d)) := nr rfl
theorem h_fz_non  : fz (.non) = .non := by simp [fz]
theorem h_sh_non  : isSh (.non) = true := nr rfl
theorem h_fl_non  : isFlat (.non) = true := nr rfl
theorem h_isN_non  : isNon (.non) = true := nr rfl
theorem h_fz_bl {b} : fz (.bl b) = .bl b := by simp [fz]
theorem h_sh_bl {b} : isSh (.bl b) = true := nr rfl
theorem h_fl_bl {b} : isFlat (.bl b) = true := nr rfl
theorem h_fz_int {i} : fz (.int i) = .int i := by simp [fz]
theorem h_sh_int {i} : isSh (.int i) = true := nr rfl
theorem h_fl_int {i} : isFlat (.int i) = true := nr rfl
theorem h_isN_int {i} : isNon (.int i) = false := nr rfl
theorem h_fz_str {x} : fz (.str x) = .str x := by simp [fz]
theorem h_sh_str {x} : isSh (.str x) = true := nr rfl
theorem h_fl_str {x} : isFlat (.str x) = true := nr rfl
theorem h_isN_str {x} : isNon (.str x) = false := nr rfl
theorem h_fz_cls {c} : fz (.cls c) = .cls c := by simp [fz]
theorem h_sh_cls {c} : isSh (.cls c) = true := nr rfl
theorem h_fl_cls {c} : isFlat (.cls c) = true := nr rfl
theorem h_isN_cls {c} : isNon (.cls c) = false := nr rfl
theorem h_fz_sei {xs} : fz (.sei xs) = .sei xs := by simp [fz]
theorem h_sh_sei {xs} : isSh (.sei xs) = true := nr rfl
theorem h_fl_sei {xs} : isFlat (.sei xs) = false := nr rfl
theorem h_isN_sei {xs} : isNon (.sei xs) = false := nr rfl
theorem h_fz_scr {ns} : fz (.scr ns) = .scr ns := by simp [fz]
theorem h_sh_scr {ns} : isSh (.scr ns) = true := nr rfl
theorem h_fl_scr {ns} : isFlat (.scr ns) = false := nr rfl
theorem h_isN_scr {ns} : isNon (.scr ns) = false := nr rfl
theorem h_fz_tup {xs} : fz (.tup xs) = .tup xs := by simp [fz]
theorem h_sh_tup {xs} : isSh (.tup xs) = true := nr rfl
theorem h_fl_tup {xs} : isFlat (.tup xs) = false := nr rfl
theorem h_isN_tup {xs} : isNon (.tup xs) = false := nr rfl
theorem h_fz_lst {xs} : fz (.lst xs) = .lst xs := by simp [fz]
theorem h_sh_lst {xs} : isSh (.lst xs) = true := nr rfl
theorem h_fl_lst {xs} : isFlat (.lst xs) = false := nr rfl
theorem h_isN_lst {xs} : isNon (.lst xs) = false := nr rfl
theorem h_fz_dic {ks xs} : fz (.dic ks xs) = .dic ks xs := by simp [fz]
theorem h_sh_dic {ks xs} : isSh (.dic ks xs) = true := nr rfl
theorem h_fl_dic {ks xs} : isFlat (.dic ks xs) = false := nr rfl
theorem h_isN_dic {ks xs} : isNon (.dic ks xs) = false := nr rfl
theorem h_fz_dit {ks xs} : fz (.dit ks xs) = .dit ks xs := by simp [fz]
theorem h_sh_dit {ks xs} : isSh (.dit ks xs) = true := nr rfl
theorem h_fl_dit {ks xs} : isFlat (.dit ks xs) = false := nr rfl
theorem h_isN_dit {ks xs} : isNon (.dit ks xs) = false := nr rfl
theorem h_fz_dig {ks xs} : fz (.dig ks xs) = .dig ks xs := by simp [fz]
theorem h_sh_dig {ks xs} : isSh (.dig ks xs) = true := nr rfl
theorem h_fl_dig {ks xs} : isFlat (.dig ks xs) = false := nr rfl
theorem h_isN_dig {ks xs} : isNon (.dig ks xs) = false := nr rfl
theorem h_fz_dlf {m ks xs} : fz (.dlf m ks xs) = .dlf m ks xs := by simp [fz]
theorem h_sh_dlf {m ks xs} : isSh (.dlf m ks xs) = true := nr rfl
theorem h_fl_dlf {m ks xs} : isFlat (.dlf m ks xs) = false := nr rfl
theorem h_isN_dlf {m ks xs} : isNon (.dlf m ks xs) = false := nr rfl
theorem h_fz_xt {t φ ks xs} : fz (.xt t φ ks xs) = .xt t φ ks xs := by simp [fz]
theorem h_sh_xt {t φ ks xs} : isSh (.xt t φ ks xs) = true := nr rfl
theorem h_fl_xt {t φ ks xs} : isFlat (.xt t φ ks xs) = false := nr rfl
theorem h_isN_xt {t φ ks xs} : isNon (.xt t φ ks xs) = false := nr rfl
theorem h_fz_len {xs} : fz (.len xs) = .len xs := by simp [fz]
theorem h_sh_len {xs} : isSh (.len xs) = true := nr rfl
theorem h_fl_len {xs} : isFlat (.len xs) = false := nr rfl
theorem h_isN_len {xs} : isNon (.len xs) = false := nr rfl
theorem h_fz_ins {c ns xs} : fz (.ins c ns xs) = .ins c ns xs := by simp [fz]
theorem h_sh_ins {c ns xs} : isSh (.ins c ns xs) = true := nr rfl
theorem h_fl_ins {c ns xs} : isFlat (.ins c ns xs) = false := nr rfl
theorem h_isN_ins {c ns xs} : isNon (.ins c ns xs) = false := nr rfl
theorem h_isN_bl {b} : isNon (.bl b) = false := nr rfl
theorem h_fz_olst {xs} : fz (.olst xs) = .lst (fzs xs) := by rw [fz]
theorem h_sh_olst {xs} : isSh (.olst xs) = false := nr rfl
theorem h_fl_olst {xs} : isFlat (.olst xs) = false := nr rfl
theorem h_fz_odic {ks xs} : fz (.odic ks xs) = .dic ks (fzs xs) := by rw [fz]
theorem h_sh_odic {ks xs} : isSh (.odic ks xs) = false := nr rfl
theorem h_fl_odic {ks xs} : isFlat (.odic ks xs) = false := nr rfl
theorem h_fz_odit {ks xs} : fz (.odit ks xs) = .dit ks (fzs xs) := by rw [fz]
theorem h_sh_odit {ks xs} : isSh (.odit ks xs) = false := nr rfl
theorem h_fl_odit {ks xs} : isFlat (.odit ks xs) = false := nr rfl
theorem h_fz_odig {ks xs} : fz (.odig ks xs) = .dig ks (fzs xs) := by rw [fz]
theorem h_sh_odig {ks xs} : isSh (.odig ks xs) = false := nr rfl
theorem h_fl_odig {ks xs} : isFlat (.odig ks xs) = false := nr rfl
theorem h_fz_olf {m ks xs} : fz (.olf m ks xs) = .dlf m ks (fzs xs) := by rw [fz]
theorem h_sh_olf {m ks xs} : isSh (.olf m ks xs) = false := nr rfl
theorem h_fl_olf {m ks xs} : isFlat (.olf m ks xs) = false := nr rfl
theorem h_fz_oxt {t φ ks xs} : fz (.oxt t φ ks xs) = .xt t φ ks (fzs xs) := by rw [fz]
theorem h_sh_oxt {t φ ks xs} : isSh (.oxt t φ ks xs) = false := nr rfl
theorem h_fl_oxt {t φ ks xs} : isFlat (.oxt t φ ks xs) = false := nr rfl
theorem h_fz_otup {xs} : fz (.otup xs) = .tup (fzs xs) := by rw [fz]
theorem h_sh_otup {xs} : isSh (.otup xs) = false := nr rfl
theorem h_fl_otup {xs} : isFlat (.otup xs) = false := nr rfl
theorem h_fz_oins {c ns xs} : fz (.oins c ns xs) = .ins c ns (fzs xs) := by rw [fz]
theorem h_sh_oins {c ns xs} : isSh (.oins c ns xs) = false := nr rfl
theorem h_fl_oins {c ns xs} : isFlat (.oins c ns xs) = false := nr rfl
theorem h_fzs_nil  : fzs [] = [] := by rw [fzs]
theorem h_fzs_cons {x xs} : fzs (x :: xs) = fz x :: fzs xs := by rw [fzs]
theorem h_fzs_app {xs ys} : fzs (xs ++ ys) = fzs xs ++ fzs ys := by rw [fzs_eq, fzs_eq, fzs_eq, List.map_append]
theorem h_tru_bl {b} : truD (.bl b) = some b := nr rfl
theorem h_tru_non  : truD .non = some false := nr rfl
theorem h_tru_int {i} : truD (.int i) = some (decide (i ≠ 0)) := nr rfl
theorem h_tru_lst {ds} : truD (.lst ds) = some (!ds.isEmpty) := nr rfl
theorem h_tru_tup {ds} : truD (.tup ds) = some (!ds.isEmpty) := nr rfl
theorem h_sub {i j} : subD (.int i) (.int j) = some (.int (i - j)) := nr rfl
theorem h_neg {i} : negD (.int i) = some (.int (-i)) := nr rfl
theorem h_addI {i j} : addD (.int i) (.int j) = some (.int (i + j)) := nr rfl
theorem h_addT {xs ys} : addD (.tup xs) (.tup ys) = if xs ≠ [] /\ xs.length + ys.length <= 1000000 then some (.tup (xs ++ ys)) else none := nr rfl
theorem h_addL {xs ys} : addD (.lst xs) (.lst ys) = if xs.length + ys.length <= 1000000 then some (.olst (xs ++ ys)) else none := nr rfl
theorem h_addLo {xs ys} : addD (.lst xs) (.olst ys) = if ys.all isSh = true then (if xs.length + ys.length <= 1000000 then some (.olst (xs ++ ys)) else none) else none := by by_cases h1 : xs.all isSh = true <;> by_cases h2 : ys.all isSh = true <;> simp only [addD, lstOf, h1, h2, if_true, if_false, and_self, and_true, true_and, and_false, false_and, Bool.false_eq_true]
theorem h_addoL {xs ys} : addD (.olst xs) (.lst ys) = if xs.all isSh = true then (if xs.length + ys.length <= 1000000 then some (.olst (xs ++ ys)) else none) else none := by by_cases h1 : xs.all isSh = true <;> by_cases h2 : ys.all isSh = true <;> simp only [addD, lstOf, h1, h2, if_true, if_false, and_self, and_true, true_and, and_false, false_and, Bool.false_eq_true]
theorem h_addoo {xs ys} : addD (.olst xs) (.olst ys) = if xs.all isSh = true /\ ys.all isSh = true then (if xs.length + ys.length <= 1000000 then some (.olst (xs ++ ys)) else none) else none := by by_cases h1 : xs.all isSh = true <;> by_cases h2 : ys.all isSh = true <;> simp only [addD, lstOf, h1, h2, if_true, if_false, and_self, and_true, true_and, and_false, false_and, Bool.false_eq_true]
theorem h_mulL {i j} (h1 : -18446744073709551616 < i) (h2 : i < 18446744073709551616) : mulD (.int i) (.int j) = some (.int (i * j)) := if_pos (.inl ⟨h1, h2⟩)
theorem h_mulR {i j} (h1 : -18446744073709551616 < j) (h2 : j < 18446744073709551616) : mulD (.int i) (.int j) = some (.int (i * j)) := if_pos (.inr (.inl ⟨h1, h2⟩))
theorem h_div {i j} (h1 : 0 < j) (h2 : j < 1073741824) : divD (.int i) (.int j) = some (.int (i / j)) := if_pos ⟨h1, .inl h2⟩
theorem h_mod {i j} (h1 : 0 < j) : modD (.int i) (.int j) = some (.int (i % j)) := if_pos h1
theorem h_eqD {x y} : eqD x y = if okD 60 x = true /\ okD 60 y = true then some (.bl (eqB x y)) else none := nr rfl
theorem h_neD {x y} : neD x y = if okD 60 x = true /\ okD 60 y = true then some (.bl (!eqB x y)) else none := nr rfl
theorem h_ok_non {n} : okD n (.non) = true := by cases n <;> simp [okD]
theorem h_ok_bl {n}{b} : okD n (.bl b) = true := by cases n <;> simp [okD]
theorem h_ok_int {n}{i} : okD n (.int i) = true := by cases n <;> simp [okD]
theorem h_ok_str {n}{x} : okD n (.str x) = true := by cases n <;> simp [okD]
theorem h_ok_tup {n xs} : okD (n + 1) (.tup xs) = okDs n xs := by rw [okD]
theorem h_ok_lst {n xs} : okD (n + 1) (.lst xs) = okDs n xs := by rw [okD]
theorem h_oks_nil {n} : okDs n [] = true := by rw [okDs]
theorem h_oks_cons {n x xs} : okDs n (x :: xs) = (okD n x && okDs n xs) := by rw [okDs]
theorem h_eqB_ii {i j} : eqB (.int i) (.int j) = decide (i = j) := by rw [eqB]
theorem h_eqB_ss {x y} : eqB (.str x) (.str y) = decide (x = y) := by rw [eqB]
theorem h_eqB_bb {a b} : eqB (.bl a) (.bl b) = decide (a = b) := by rw [eqB]
theorem h_eqB_nn  : eqB .non .non = true := by rw [eqB]
theorem h_eqB_ni {i} : eqB .non (.int i) = false := by simp [eqB]
theorem h_eqB_in {i} : eqB (.int i) .non = false := by simp [eqB]
theorem h_eqB_nt {xs} : eqB .non (.tup xs) = false := by simp [eqB]
theorem h_eqB_tn {xs} : eqB (.tup xs) .non = false := by simp [eqB]
theorem h_eqB_tt {xs ys} : eqB (.tup xs) (.tup ys) = eqBs xs ys := by rw [eqB]
theorem h_eqB_ll {xs ys} : eqB (.lst xs) (.lst ys) = eqBs xs ys := by rw [eqB]
theorem h_eqBs_nn  : eqBs [] [] = true := by rw [eqBs]
theorem h_eqBs_cc {x xs y ys} : eqBs (x :: xs) (y :: ys) = (eqB x y && eqBs xs ys) := by rw [eqBs]
theorem h_eqBs_nc {y ys} : eqBs [] (y :: ys) = false := by simp [eqBs]
theorem h_eqBs_cn {y ys} : eqBs (y :: ys) [] = false := by simp [eqBs]
theorem h_cmp {f i j} : cmpD f (.int i) (.int j) = some (.bl (f i j)) := nr rfl
theorem h_ltI {i j} : ltD (.int i) (.int j) = some (.bl (decide (i < j))) := nr rfl
theorem h_ltT {xs ys} : ltD (.tup xs) (.tup ys) = (intsOf xs).bind fun ns => (intsOf ys).map fun ms => .bl (HT.lexLt ns ms) := nr rfl
theorem h_ints_nil  : intsOf [] = some [] := nr rfl
theorem h_ints_cons {i ds} : intsOf (.int i :: ds) = (intsOf ds).map (i :: ·) := nr rfl
theorem h_intI {i} : intD [.int i] = some (.int i) := nr rfl
theorem h_intB {b} : intD [.bl b] = some (.int (if b = true then 1 else 0)) := nr rfl
theorem h_abs {i} : absD [.int i] = some (.int (if i < 0 then -i else i)) := nr rfl
theorem h_lenL {ds} : lenD [.lst ds] = some (.int ds.length) := nr rfl
theorem h_lenT {ds} : lenD [.tup ds] = some (.int ds.length) := nr rfl
theorem h_lenS {ns} : lenD [.scr ns] = some (.int ns.length) := nr rfl
theorem h_ix {d i} : ixD d (.int i) = (itemsD d).bind fun xs => atI xs i := nr rfl
theorem h_it_lst {xs} : itemsD (.lst xs) = some xs := nr rfl
theorem h_it_olst {xs} : itemsD (.olst xs) = some xs := nr rfl
theorem h_it_tup {xs} : itemsD (.tup xs) = some xs := nr rfl
theorem h_it_scr {ns} : itemsD (.scr ns) = some (ns.map .int) := nr rfl
theorem h_at0 {α : Type} {x : α} {xs} : atI (x :: xs) 0 = some x := by simp [atI, ixN]
theorem h_at1 {α : Type} {xs : List α} : atI xs 1 = xs[1]? := atI_litN 1
theorem h_at2 {α : Type} {xs : List α} : atI xs 2 = xs[2]? := atI_litN 2
theorem h_at3 {α : Type} {xs : List α} : atI xs 3 = xs[3]? := atI_litN 3
theorem h_at4 {α : Type} {xs : List α} : atI xs 4 = xs[4]? := atI_litN 4
theorem h_at5 {α : Type} {xs : List α} : atI xs 5 = xs[5]? := atI_litN 5
theorem h_at6 {α : Type} {xs : List α} : atI xs 6 = xs[6]? := atI_litN 6
theorem h_at7 {α : Type} {xs : List α} : atI xs 7 = xs[7]? := atI_litN 7
theorem h_at8 {α : Type} {xs : List α} : atI xs 8 = xs[8]? := atI_litN 8
theorem h_at9 {α : Type} {xs : List α} : atI xs 9 = xs[9]? := atI_litN 9
theorem h_at10 {α : Type} {xs : List α} : atI xs 10 = xs[10]? := atI_litN 10
theorem h_at11 {α : Type} {xs : List α} : atI xs 11 = xs[11]? := atI_litN 11
theorem h_at12 {α : Type} {xs : List α} : atI xs 12 = xs[12]? := atI_litN 12
theorem h_atm1 {α : Type} {xs : List α} : atI xs (-1) = xs.getLast? := atI_last
theorem h_seq_lst {xs} : seqOf (.lst xs) = some (false, xs) := nr rfl
theorem h_seq_tup {xs} : seqOf (.tup xs) = some (true, xs) := nr rfl
theorem h_seq_olst {xs} : seqOf (.olst xs) = if xs.all isSh = true then some (false, xs) else none := nr rfl
theorem h_seq_scr {ns} : seqOf (.scr ns) = some (false, ns.map .int) := nr rfl
theorem h_sF_lst {xs} : seqF (.lst xs) = some xs := nr rfl
theorem h_sF_tup {xs} : seqF (.tup xs) = some xs := nr rfl
theorem h_sF_scr {ns} : seqF (.scr ns) = some (ns.map .int) := nr rfl
theorem h_ty_non  : tyD (.non) = some (false, "NoneType") := nr rfl
theorem h_ty_bl {b} : tyD (.bl b) = some (false, "bool") := nr rfl
theorem h_ty_int {i} : tyD (.int i) = some (false, "int") := nr rfl
theorem h_ty_str {x} : tyD (.str x) = some (false, "str") := nr rfl
theorem h_ty_lst {xs} : tyD (.lst xs) = some (false, "list") := nr rfl
theorem h_ty_tup {xs} : tyD (.tup xs) = some (false, "tuple") := nr rfl
theorem h_ty_ins {c ns xs} : tyD (.ins c ns xs) = some (true, c) := nr rfl
theorem h_isi_bb {T : Tbl} {a b} : isi1 T (false, a) (false, b) = isiB a b := nr rfl
theorem h_isi_bo {T : Tbl} {a b} : isi1 T (false, a) (true, b) = false := nr rfl
theorem h_isi_ob {T : Tbl} {a b} : isi1 T (true, a) (false, b) = false := nr rfl
theorem h_isi_oo {T : Tbl} {a b} : isi1 T (true, a) (true, b) = T.sub a b := nr rfl
theorem h_isiB_NoneType_bool  : isiB "NoneType" "bool" = false := by decide
theorem h_isiB_NoneType_int  : isiB "NoneType" "int" = false := by decide
theorem h_isiB_NoneType_str  : isiB "NoneType" "str" = false := by decide
theorem h_isiB_NoneType_list  : isiB "NoneType" "list" = false := by decide
theorem h_isiB_NoneType_tuple  : isiB "NoneType" "tuple" = false := by decide
theorem h_isiB_NoneType_dict  : isiB "NoneType" "dict" = false := by decide
theorem h_isiB_bool_bool  : isiB "bool" "bool" = true := by decide
theorem h_isiB_bool_int  : isiB "bool" "int" = true := by decide
theorem h_isiB_bool_str  : isiB "bool" "str" = false := by decide
theorem h_isiB_bool_list  : isiB "bool" "list" = false := by decide
theorem h_isiB_bool_tuple  : isiB "bool" "tuple" = false := by decide
theorem h_isiB_bool_dict  : isiB "bool" "dict" = false := by decide
theorem h_isiB_int_bool  : isiB "int" "bool" = false := by decide
theorem h_isiB_int_int  : isiB "int" "int" = true := by decide
theorem h_isiB_int_str  : isiB "int" "str" = false := by decide
theorem h_isiB_int_list  : isiB "int" "list" = false := by decide
theorem h_isiB_int_tuple  : isiB "int" "tuple" = false := by decide
theorem h_isiB_int_dict  : isiB "int" "dict" = false := by decide
theorem h_isiB_str_bool  : isiB "str" "bool" = false := by decide
theorem h_isiB_str_int  : isiB "str" "int" = false := by decide
theorem h_isiB_str_str  : isiB "str" "str" = true := by decide
theorem h_isiB_str_list  : isiB "str" "list" = false := by decide
theorem h_isiB_str_tuple  : isiB "str" "tuple" = false := by decide
theorem h_isiB_str_dict  : isiB "str" "dict" = false := by decide
theorem h_isiB_list_bool  : isiB "list" "bool" = false := by decide
theorem h_isiB_list_int  : isiB "list" "int" = false := by decide
theorem h_isiB_list_str  : isiB "list" "str" = false := by decide
theorem h_isiB_list_list  : isiB "list" "list" = true := by decide
theorem h_isiB_list_tuple  : isiB "list" "tuple" = false := by decide
theorem h_isiB_list_dict  : isiB "list" "dict" = false := by decide
theorem h_isiB_tuple_bool  : isiB "tuple" "bool" = false := by decide
theorem h_isiB_tuple_int  : isiB "tuple" "int" = false := by decide
theorem h_isiB_tuple_str  : isiB "tuple" "str" = false := by decide
theorem h_isiB_tuple_list  : isiB "tuple" "list" = false := by decide
theorem h_isiB_tuple_tuple  : isiB "tuple" "tuple" = true := by decide
theorem h_isiB_tuple_dict  : isiB "tuple" "dict" = false := by decide
theorem h_isiB_dict_bool  : isiB "dict" "bool" = false := by decide
theorem h_isiB_dict_int  : isiB "dict" "int" = false := by decide
theorem h_isiB_dict_str  : isiB "dict" "str" = false := by decide
theorem h_isiB_dict_list  : isiB "dict" "list" = false := by decide
theorem h_isiB_dict_tuple  : isiB "dict" "tuple" = false := by decide
theorem h_isiB_dict_dict  : isiB "dict" "dict" = true := by decide
theorem h_append {xs d} : appendD (.olst xs) [d] = if xs.length < 1000000 then some (.olst (xs ++ [d]), .non) else none := nr rfl
theorem h_pop {xs} : popD (.olst xs) [] = (xs.getLast?).map fun x => (.olst xs.dropLast, x) := nr rfl
theorem h_insert {xs i d} : insertD (.olst xs) [.int i, d] = if xs.all isSh = true /\ xs.length < 1000000 /\ 0 <= i /\ i < 1000000 then some (.olst (xs.take i.toNat ++ [d] ++ xs.drop i.toNat), .non) else none := nr rfl
theorem h_put0 {d n : D} : D.putAt d [] n = n := nr rfl
theorem h_rng1 {n} : rng1D [.int n] = guardB (rngOk n) (some (rangeD 0 n.toNat)) := nr rfl
theorem h_guard1 {α : Type} {x : Option α} : guardB true x = x := nr rfl
theorem h_guard0 {α : Type} {x : Option α} : guardB false x = none := nr rfl
theorem h_rngOk {i : Int} (h1 : -1000000000000000000 <= i) (h2 : i <= 1000000000000000000) : rngOk i = true := Nat.ble_eq_true_of_le (by omega)
theorem h_forLn {f env} : forL f [] env = .nx env := nr rfl
theorem h_forLc {f d ds env} : forL f (d :: ds) env = forT f ds (f d env) := by show (match f d env with | .nx e => _ | .ct e => _ | .bk e => _ | r => r) = _; cases f d env <;> rfl
theorem h_forT_nx {f ds e} : forT f ds (.nx e) = forL f ds e := nr rfl
theorem h_forT_ct {f ds e} : forT f ds (.ct e) = forL f ds e := nr rfl
theorem h_forT_bk {f ds e} : forT f ds (.bk e) = .nx e := nr rfl
theorem h_forT_rt {f ds d e} : forT f ds (.rt d e) = .rt d e := nr rfl
theorem h_forT_ex {f ds x e} : forT f ds (.ex x e) = .ex x e := nr rfl
theorem h_lc1 {T : Tbl} {W : Wd T} {g : XG W} {c : XT W} {x : XP W} {env d} : lc1 g c x env d = lcK c x (g.ev [] d env) := by show (g.ev [] d env).bind _ = _; cases g.ev [] d env <;> rfl
theorem h_lcK {T : Tbl} {W : Wd T} {c : XT W} {x : XP W} {e} : lcK c x (some e) = lcJ x (c.ev e) e := nr rfl
theorem h_lcJ1 {T : Tbl} {W : Wd T} {x : XP W} {e} : lcJ x (some true) e = (x.evO e).map fun y => [y] := nr rfl
theorem h_lcJ0 {T : Tbl} {W : Wd T} {x : XP W} {e} : lcJ x (some false) e = some [] := nr rfl
theorem h_wipe0 {env} : wipeE env [] = env := nr rfl
theorem h_wipes {env v vs} : wipeE env (v :: vs) = (wipeE env vs).set v none := nr rfl
theorem h_frz {env i} : frzS env i = frzO env i (getS env i) := by unfold frzS frzO; cases getS env i <;> rfl
theorem h_frzO {env i d} : frzO env i (some d) = env.set i (some (fz d)) := nr rfl
theorem h_frzOn {env i} : frzO env i none = env := nr rfl
theorem h_runR_rt {b d env} : runR b (.rt d env) = retZ (bGet b env) d := by cases hb : bGet b env <;> simp [runR, retZ, hb]
theorem h_runR_nx {b env} : runR b (.nx env) = retZ (bGet b env) .non := by cases hb : bGet b env <;> simp [runR, retZ, hb]
theorem h_retZ {x d} : retZ (some x) d = .ok d x := nr rfl
theorem h_bGetn {env} : bGet none env = some none := nr rfl
theorem h_bGets {i env} : bGet (some i) env = (getS env i).map some := nr rfl
theorem h_setS {P i d env} : setS P i d env = if i < env.length /\ i ∉ P then some (env.set i (some d)) else none := nr rfl
theorem h_ipD {f i j} : ipD f (.int i) (.int j) = some (.int (f i j)) := nr rfl
theorem h_fldI {T : Tbl} {f c ns xs} : fldD T f (.ins c ns xs) = if T.fOk c f = true then (pos f ns).bind fun j => xs[j]? else none := nr rfl
theorem h_fldO {T : Tbl} {f c ns xs} : fldD T f (.oins c ns xs) = if T.fOk c f = true then (pos f ns).bind fun j => xs[j]? else none := nr rfl
theorem h_sfld {T : Tbl} {f c ns xs st} : subFld T f (st, .oins c ns xs) = if T.fOk c f = true then ((pos f ns).bind fun j => xs[j]?).map fun x => (st ++ [.fld f], x) else none := nr rfl
theorem h_six {xs i st} : subIx (st, .olst xs) (.int i) = (ixN xs.length i).bind fun j => (xs[j]?).map fun x => (st ++ [.idx j], x) := nr rfl
theorem h_iteFd1 {p : Prop} [Decidable p] {s u e} (h : p) : iteF (some (decide p)) s u e = s e := by rw [decide_eq_true h]; rfl
theorem h_iteFd0 {p : Prop} [Decidable p] {s u e} (h : ¬ p) : iteF (some (decide p)) s u e = u e := by rw [decide_eq_false h]; rfl
theorem h_iteFe1 {p : Prop} [Decidable p] {s u e} (h : ¬ p) : iteF (some (!decide p)) s u e = s e := by rw [decide_eq_false h]; rfl
theorem h_iteFe0 {p : Prop} [Decidable p] {s u e} (h : p) : iteF (some (!decide p)) s u e = u e := by rw [decide_eq_true h]; rfl
theorem h_andFd1 {p : Prop} [Decidable p] {s e} (h : p) : andF (some (decide p)) s e = s e := by rw [decide_eq_true h]; rfl
theorem h_andFd0 {p : Prop} [Decidable p] {s e} (h : ¬ p) : andF (some (decide p)) s e = some false := by rw [decide_eq_false h]; rfl
theorem h_andFe1 {p : Prop} [Decidable p] {s e} (h : ¬ p) : andF (some (!decide p)) s e = s e := by rw [decide_eq_false h]; rfl
theorem h_andFe0 {p : Prop} [Decidable p] {s e} (h : p) : andF (some (!decide p)) s e = some false := by rw [decide_eq_true h]; rfl
theorem h_orFd1 {p : Prop} [Decidable p] {s e} (h : p) : orF (some (decide p)) s e = some true := by rw [decide_eq_true h]; rfl
theorem h_orFd0 {p : Prop} [Decidable p] {s e} (h : ¬ p) : orF (some (decide p)) s e = s e := by rw [decide_eq_false h]; rfl
theorem h_orFe1 {p : Prop} [Decidable p] {s e} (h : ¬ p) : orF (some (!decide p)) s e = some true := by rw [decide_eq_false h]; rfl
theorem h_orFe0 {p : Prop} [Decidable p] {s e} (h : p) : orF (some (!decide p)) s e = s e := by rw [decide_eq_true h]; rfl
theorem h_lcJd1 {T : Tbl} {W : Wd T} {x : XP W} {e} {p : Prop} [Decidable p] (h : p) : lcJ x (some (decide p)) e = (x.evO e).map fun y => [y] := by rw [decide_eq_true h]; rfl
theorem h_lcJd0 {T : Tbl} {W : Wd T} {x : XP W} {e} {p : Prop} [Decidable p] (h : ¬ p) : lcJ x (some (decide p)) e = some [] := by rw [decide_eq_false h]; rfl
theorem h_lcJe1 {T : Tbl} {W : Wd T} {x : XP W} {e} {p : Prop} [Decidable p] (h : ¬ p) : lcJ x (some (!decide p)) e = (x.evO e).map fun y => [y] := by rw [decide_eq_false h]; rfl
theorem h_lcJe0 {T : Tbl} {W : Wd T} {x : XP W} {e} {p : Prop} [Decidable p] (h : p) : lcJ x (some (!decide p)) e = some [] := by rw [decide_eq_true h]; rfl
theorem h_eMeth {T : Tbl} {W : Wd T} {φ : Sem} {m n} {a : XP W} {as : XA W} {env} : (xMeth φ m n a as).ev env = methE T φ m n (a.evF env) (as.evF env) (a.evV env) (as.evV env) := nr rfl
theorem h_methF {T : Tbl} {φ : Sem} {m n d ds v vs} : methE T φ m n (some d) (some ds) v vs = (meth1 T φ m n (d :: ds)).toF := nr rfl
theorem h_methV {T : Tbl} {φ : Sem} {m n fs d ds} : methE T φ m n none fs (some d) (some ds) = (meth1 T φ m n (d :: ds)).toV := nr rfl
theorem h_methW {T : Tbl} {φ : Sem} {m n f d ds} : methE T φ m n (some f) none (some d) (some ds) = (meth1 T φ m n (d :: ds)).toV := nr rfl
theorem h_meth1 {T : Tbl} {φ : Sem} {m n c ns xs ds} : meth1 T φ m n (.ins c ns xs :: ds) = resE (T.res c m) fun nm => if pos m ns = none /\ ds.length + 1 = n then φ nm (.ins c ns xs :: ds) none else .no := by show (match T.res c m with | some nm => _ | none => _) = _; cases T.res c m <;> rfl
theorem h_meth2 {T : Tbl} {φ : Sem} {m n c ns xs ds} : meth2 T φ m n (.oins c ns xs :: ds) = resE (T.res c m) fun nm => if pos m ns = none /\ ds.length + 1 = n then φ nm (.oins c ns xs :: ds) (some 0) else .no := by show (match T.res c m with | some nm => _ | none => _) = _; cases T.res c m <;> rfl
theorem h_resE {nm f} : resE (some nm) f = f nm := nr rfl
theorem h_resEn {f} : resE none f = .no := nr rfl
theorem h_posn {m : String} : pos m [] = none := nr rfl
theorem h_posc {m n : String} {ns} : pos m (n :: ns) = if n = m then some 0 else (pos m ns).map (· + 1) := nr rfl
theorem h_eMmeth {T : Tbl} {W : Wd T} {φ : Sem} {m n} {p : XPl W} {as : XA W} {P env} : (xmMeth φ m n p as).ev P env = methM T φ m n p.root (p.ev env) (as.evF env) env := nr rfl
theorem h_methM1 {T : Tbl} {φ : Sem} {m n i st c ns xs ds env} : methM T φ m n i (some (st, .oins c ns xs)) (some ds) env = rm1 (meth2 T φ m n (.oins c ns xs :: ds)) (getS env i) i st env := nr rfl
theorem h_methM0 {T : Tbl} {φ : Sem} {m n i st c ns xs ds env} : methM T φ m n i (some (st, .ins c ns xs)) (some ds) env = rm0 (meth1 T φ m n (.ins c ns xs :: ds)) env := nr rfl
theorem h_rm0o {d b e} : rm0 (.ok d b) e = .ok d e := nr rfl
theorem h_rm0x {x b e} : rm0 (.exn x b) e = .exn x e := nr rfl
theorem h_rm0n {e} : rm0 .no e = .no := nr rfl
theorem h_rm1o {d n d0 i st e} : rm1 (.ok d (some n)) (some d0) i st e = .ok d (e.set i (some (d0.putAt st n))) := nr rfl
theorem h_rm1x {x n d0 i st e} : rm1 (.exn x (some n)) (some d0) i st e = .exn x (e.set i (some (d0.putAt st n))) := nr rfl
theorem h_putc {d : D} {s st n} : D.putAt d (s :: st) n = putE d s st n (d.sub s) := by show (match d.sub s with | some x => _ | none => _) = _; cases d.sub s <;> rfl
theorem h_putE {d : D} {s st n x} : putE d s st n (some x) = d.put s (x.putAt st n) := nr rfl
theorem h_subF {c ns xs f} : D.sub (.oins c ns xs) (.fld f) = (pos f ns).bind fun j => xs[j]? := nr rfl
theorem h_subI {xs k} : D.sub (.olst xs) (.idx k) = xs[k]? := nr rfl
theorem h_putF {c ns xs f y} : D.put (.oins c ns xs) (.fld f) y = .oins c ns (setO xs (pos f ns) y) := by show (match pos f ns with | some j => _ | none => _) = _; cases pos f ns <;> rfl
theorem h_putI {xs k y} : D.put (.olst xs) (.idx k) y = .olst (xs.set k y) := nr rfl
theorem h_setOs {xs : List D} {j y} : setO xs (some j) y = xs.set j y := nr rfl
theorem h_eSfld {T : Tbl} {W : Wd T} {p : XPl W} {f} {m : XM W} {P env} : (xsFld p f m).ev P env = (m.ev P env).thenS (fldK T p f) := nr rfl
theorem h_fldK {T : Tbl} {W : Wd T} {p : XPl W} {f d e} : fldK T p f d e = RS.ofO ((p.ev e).bind fun q => (setFD T f q.2 [d]).bind fun z => (getS e p.root).map fun d0 => e.set p.root (some (d0.putAt q.1 z.1))) := nr rfl
theorem h_setFD {T : Tbl} {f c ns xs d} : setFD T f (.oins c ns xs) [d] = if T.fOk c f = true /\ ns.length < 1000 then some (.oins c (setF f d ns xs).1 (setF f d ns xs).2, .non) else none := nr rfl
theorem h_setFn {f d} : setF f d [] [] = ([f], [d]) := nr rfl
theorem h_setFc {f d n ns x xs} : setF f d (n :: ns) (x :: xs) = if n = f then (n :: ns, d :: xs) else ((n :: (setF f d ns xs).1), x :: (setF f d ns xs).2) := nr rfl
theorem h_eMake {T : Tbl} {W : Wd T} {φ : Sem} {c ini n} {as : XA W} {dds dvs hd env} : (xMake φ c ini n as dds dvs hd).ev env = makeE φ c ini n dds (as.evF env) (as.evV env) := nr rfl
theorem h_makeF {φ : Sem} {c ini n dds ds v} : makeE φ c ini n dds (some ds) v = (mk1 φ c ini n (ds ++ dds)).map (Prod.mk .fr) := nr rfl
theorem h_makeV {φ : Sem} {c ini n dds ds} : makeE φ c ini n dds none (some ds) = (mk1 φ c ini n (ds ++ dds)).map fun d => (.vw, fz d) := nr rfl
theorem h_mk1 {φ : Sem} {c ini n ds} : mk1 φ c ini n ds = if ds.length + 1 = n then mkR (φ ini (.oins c [] [] :: ds) (some 0)) else none := nr rfl
theorem h_mkR {d} : mkR (.ok .non (some d)) = some d := nr rfl
theorem h_eLenU {T : Tbl} {W : Wd T} {φ : Sem} {as : XA W} {env} : (xLenU φ as).ev env = (as.evV env).bind fun ds => (lenI1 T φ ds).map (Prod.mk .fr) := nr rfl
theorem h_lenI_lst {T : Tbl} {φ : Sem} {xs} : lenI1 T φ [.lst xs] = lenD [.lst xs] := nr rfl
theorem h_lenI_tup {T : Tbl} {φ : Sem} {xs} : lenI1 T φ [.tup xs] = lenD [.tup xs] := nr rfl
theorem h_lenI_scr {T : Tbl} {φ : Sem} {xs} : lenI1 T φ [.scr xs] = lenD [.scr xs] := nr rfl
theorem h_lenI_ins {T : Tbl} {φ : Sem} {c ns xs} : lenI1 T φ [.ins c ns xs] = lenQ (T.res c "__len__") fun nm => lenR (φ nm [.ins c ns xs] none) := by show (match T.res c "__len__" with | some nm => _ | none => _) = _; cases T.res c "__len__" <;> rfl
theorem h_lenQ {nm f} : lenQ (some nm) f = f nm := nr rfl
theorem h_lenR {i b} : lenR (.ok (.int i) b) = if 0 <= i /\ i <= 1000000 then some (.int i) else none := nr rfl
theorem h_eSortR {T : Tbl} {W : Wd T} {a : XP W} {env} : (xSortedR a).ev env = (a.evK env).bind fun d => (seqOf d).bind fun p => if p.1 = false then (sortDR p.2).map fun ys => (.fr, .olst ys) else none := nr rfl
theorem h_RTthen_ok {d e f} : RT.then (.ok d e) f = f d e := nr rfl
theorem h_RTthenS_ok {d e f} : RT.thenS (.ok d e) f = f d e := nr rfl
theorem h_RTthen_exn {x e f} : RT.then (.exn x e) f = .exn x e := nr rfl
theorem h_RTthenS_exn {x e f} : RT.thenS (.exn x e) f = .ex x e := nr rfl
theorem h_RTof {b e} : RT.of (some b) e = .ok b e := nr rfl
theorem h_it_ins {T : Tbl} {c ns xs} : itOf T (.ins c ns xs) = (T.it c).bind fun f => (pos f ns).bind fun j => (xs[j]?).bind lstOf := nr rfl
theorem h_lo_lst {xs} : lstOf (.lst xs) = some xs := nr rfl
theorem h_lo_olst {xs} : lstOf (.olst xs) = if xs.all isSh = true then some xs else none := nr rfl
theorem h_seqFI_lst {T : Tbl} {xs} : seqFI T (.lst xs) = some xs := nr rfl
theorem h_seqFI_tup {T : Tbl} {xs} : seqFI T (.tup xs) = some xs := nr rfl
theorem h_seqFI_scr {T : Tbl} {ns} : seqFI T (.scr ns) = some (ns.map .int) := nr rfl
theorem h_seqFI_ins {T : Tbl} {c ns xs} : seqFI T (.ins c ns xs) = itOf T (.ins c ns xs) := nr rfl
theorem h_ixD_ins {c ns xs i} : ixD (.ins c ns xs) (.int i) = none := nr rfl
theorem h_okD_ins {n c ns xs} : okD n (.ins c ns xs) = false := by cases n <;> simp [okD]
theorem h_eqD_ins {c ns xs y} : eqD (.ins c ns xs) y = none := by show (if okD 60 (.ins c ns xs) = true /\ okD 60 y = true then _ else _) = _; rw [if_neg (fun z => nomatch z.1)]
theorem h_addD_ins {c ns xs y} : addD (.ins c ns xs) y = none := nr rfl
theorem h_addD_oins {c ns xs y} : addD (.oins c ns xs) y = none := nr rfl
theorem h_eMakeN {T : Tbl} {W : Wd T} {φ c ini n m N bs dd hd} {as ks : XA W} {env} : (xMakeN φ c ini n m N bs dd hd as ks).ev env = makeNE φ c ini n m N bs dd (as.evF env) (ks.evF env) (as.evV env) (ks.evV env) := nr rfl
theorem h_makeNE_F {φ c ini n m N bs dd ds zs v w} : makeNE φ c ini n m N bs dd (some ds) (some zs) v w = (mkN φ c ini n m N bs dd ds zs).map (Prod.mk .fr) := nr rfl
theorem h_makeNE_V {φ c ini n m N bs dd g ds zs} : makeNE φ c ini n m N bs dd none g (some ds) (some zs) = (mkN φ c ini n m N bs dd ds zs).map fun d => (.vw, fz d) := nr rfl
theorem h_makeNE_W {φ c ini n m N bs dd f ds zs} : makeNE φ c ini n m N bs dd (some f) none (some ds) (some zs) = (mkN φ c ini n m N bs dd ds zs).map fun d => (.vw, fz d) := nr rfl
theorem h_mkN {φ c ini n m N bs dd ds zs} : mkN φ c ini n m N bs dd ds zs = if ds.length = n /\ zs.length = m then mk1 φ c ini N (ds ++ mgM bs dd zs) else none := nr rfl
theorem h_mgM_t {bs m} {ms ws : List D} : mgM (true :: bs) (m :: ms) ws = m :: mgM bs ms ws := nr rfl
theorem h_mgM_f {bs w} {ms ws : List D} : mgM (false :: bs) ms (w :: ws) = w :: mgM bs ms ws := by cases ms <;> rfl
theorem h_mgM_n {ms ws : List D} : mgM [] ms ws = [] := by cases ms <;> rfl
theorem h_eDnew {T : Tbl} {W : Wd T} {env} : (xDnew W).ev env = some (.fr, .odic [] []) := nr rfl
theorem h_eDget2 {T : Tbl} {W : Wd T} {a b c : XP W} {env} : (xDget2 a b c).ev env = (a.ev env).bind fun p => (dicOf p.2).bind fun q => (b.evV env).bind fun y => (c.ev env).bind fun z => getE q.1 q.2 p.1 y z := nr rfl
theorem h_getE_non {ks xs p z} : getE ks xs p .non z = some z := nr rfl
theorem h_getE_int {ks xs p i z} : getE ks xs p (.int i) z = some (getM p z (dg ks xs (.inl i))) := by simp only [getE, keyD, Option.map_some]; cases dg ks xs (Sum.inl i) <;> rfl
theorem h_getE_str {ks xs p x z} : getE ks xs p (.str x) z = some (getM p z (dg ks xs (.inr (so x)))) := by simp only [getE, keyD, Option.map_some]; cases dg ks xs (Sum.inr (so x)) <;> rfl
theorem h_getM_s {p : Kd} {z x} : getM p z (some x) = p.of x := nr rfl
theorem h_getM_n {p : Kd} {z} : getM p z none = z := nr rfl
theorem h_eDin {T : Tbl} {W : Wd T} {neg} {a b : XP W} {env} : (xDin neg a b).ev env = (a.evV env).bind fun y => (b.ev env).bind fun p => (dicOf p.2).bind fun q => (inK neg q.1 y).map (Prod.mk .fr) := nr rfl
theorem h_inK_non {neg ks} : inK neg ks .non = some (.bl neg) := nr rfl
theorem h_inK_int {neg ks i} : inK neg ks (.int i) = some (.bl (if neg = true then !hasK ks (.inl i) else hasK ks (.inl i))) := nr rfl
theorem h_inK_str {neg ks x} : inK neg ks (.str x) = some (.bl (if neg = true then !hasK ks (.inr (so x)) else hasK ks (.inr (so x)))) := nr rfl
theorem h_dicOf_d {ks xs} : dicOf (.dic ks xs) = some (ks, xs) := nr rfl
theorem h_dicOf_o {ks xs} : dicOf (.odic ks xs) = some (ks, xs) := nr rfl
theorem h_dputI {ks xs i d} : dputD (.odic ks xs) [.int i, d] = if xs.length < 1000000 then (putP ks xs (.inl i) d).map fun q => (.odic q.1 q.2, .non) else none := nr rfl
theorem h_dputS {ks xs x d} : dputD (.odic ks xs) [.str x, d] = if xs.length < 1000000 then (putP ks xs (.inr (so x)) d).map fun q => (.odic q.1 q.2, .non) else none := nr rfl
theorem h_eDc {T : Tbl} {W : Wd T} {it : XI W} {g : XG W} {c : XT W} {k x : XP W} {env} : (xDc it g c k x).ev env = (it.evP env).bind fun ds => if ds.length < 1000000 then (dcL (dc1 g c k x (wipeE env g.own)) ds ([], [])).map fun q => (.fr, .odic q.1 q.2) else none := nr rfl
theorem h_guardB_t {α : Type} {x : Option α} : guardB true x = x := nr rfl
theorem h_dc1 {T : Tbl} {W : Wd T} {g : XG W} {c : XT W} {k x : XP W} {env d} : dc1 g c k x env d = dcK c k x (g.ev [] d env) := nr rfl
theorem h_dcK {T : Tbl} {W : Wd T} {c : XT W} {k x : XP W} {e} : dcK c k x (some e) = dcJ k x (c.ev e) e := nr rfl
theorem h_dcJ1 {T : Tbl} {W : Wd T} {k x : XP W} {e} : dcJ k x (some true) e = ((k.evF e).bind keyD).bind fun y => (x.evF e).map fun z => some (y, z) := nr rfl
theorem h_dcJ0 {T : Tbl} {W : Wd T} {k x : XP W} {e} : dcJ k x (some false) e = some none := nr rfl
theorem h_keyD_i {i} : keyD (.int i) = some (.inl i) := nr rfl
theorem h_keyD_s {x} : keyD (.str x) = some (.inr (so x)) := nr rfl
theorem h_eDapp {T : Tbl} {W : Wd T} {p : XPl W} {k : XP W} {j P env} : (xsDapp p k j).ev P env = RS.ofO ((p.ev env).bind fun q => (k.evF env).bind fun y => (getS env j).bind fun x => (dappE q.2 y x).bind fun z => (getS env p.root).map fun d0 => env.set p.root (some (d0.putAt q.1 z))) := nr rfl
theorem h_dappI {ks xs i x} : dappE (.odic ks xs) (.int i) x = guardB (isSh x) (appK ks xs (.inl i) x) := nr rfl
theorem h_dcL_n {f acc} : dcL f [] acc = some acc := nr rfl
theorem h_putP_n {k y} : putP [] [] k y = some ([k], [y]) := nr rfl
theorem h_ePar {T : Tbl} {W : Wd T} {i j} {a : XA W} {P env} : (xsPar i j a).ev P env = RS.ofO ((a.evF env).bind (par2 P i j env)) := nr rfl
theorem h_par2 {P i j env x y} : par2 P i j env [x, y] = (setS P i x env).bind (setS P j y) := nr rfl
theorem h_qevO {T : Tbl} {W : Wd T} {i} {m : XQ W i} {x env} : m.evO x env = toO (m.ev x env) := nr rfl
theorem h_qevB {T : Tbl} {W : Wd T} {i} {m : XQ W i} {x env} : m.evB x env = (toV (m.ev x env)).bind blD := nr rfl
theorem h_qevF {T : Tbl} {W : Wd T} {i} {m : XQ W i} {x env} : m.evF x env = toQ (m.ev x env) := nr rfl
theorem h_toQf {d} : toQ (some (.fr, d)) = if isSh d = true then some d else none := nr rfl
theorem h_toQp {d} : toQ (some (.pl, d)) = if isSh d = true then some d else none := nr rfl
theorem h_toQv {d} : toQ (some (.vw, d)) = if isFlat d = true then some d else none := nr rfl
theorem h_toQn  : toQ none = none := nr rfl
theorem h_runR_ex {b x env} : runR b (.ex x env) = retX (bGet b env) x := by cases hb : bGet b env <;> simp [runR, retX, hb]
theorem h_retX {o x} : retX (some o) x = .exn x o := nr rfl
theorem h_thenY1 {ys e f} : (RY.nx ys e).then f = f ys e := nr rfl
theorem h_thenY2 {ys e f} : (RY.ct ys e).then f = .ct ys e := nr rfl
theorem h_thenY3 {ys e f} : (RY.bk ys e).then f = .bk ys e := nr rfl
theorem h_look1 {k : String} {d : D} {r} : List.lookup k ((k, d) :: r) = some d := by simp
theorem h_look2 {k f : String} {d : D} {r} (h : ¬ f = k) : List.lookup f ((k, d) :: r) = List.lookup f r := by rw [List.lookup_cons, beq_eq_false_iff_ne.mpr h]
end Py
namespace Py
open PySem L2
section
variable {T : Tbl} {W : Wd T} {env : Py.Env}
end
end Py
namespace Py
open PySem L2
section
variable {T : Tbl} {W : Wd T} {env : Py.Env} {P : List Nat} {E : WX}
theorem owns_split {F H : Hp} : ∀ {ds : List D} {vs : List V} {L : List Addr} {k : Nat} {d : D}, Owns W F H ds vs L -> ds[k]? = some d -> ∃ v Lk Lo, vs[k]? = some v /\ Own W F H d v Lk /\ (∀ c, c ∈ Lk \/ c ∈ Lo ↔ c ∈ L) /\ (L.Nodup -> (Lk ++ Lo).Nodup) /\
    ∀ F' H' d' L', Same F F' -> (∀ c ∈ Lo, ∀ o, H c = some o -> H' c = some o) -> Own W F' H' d' v L' -> ∃ LL, Owns W F' H' (ds.set k d') vs LL /\ (∀ c, c ∈ LL ↔ c ∈ L' \/ c ∈ Lo) /\ ((L' ++ Lo).Nodup -> LL.Nodup)
  | _, _, _, _, _, .nil, h => by simp at h
  | _, _, _, 0, d, .cons (d := d0) (L := L1) (M := M1) o t, h => by
    have h : d0 = d := by simpa using h
    subst h
    exact ⟨_, L1, M1, rfl, o, fun c => List.mem_append.symm, id, fun F' H' d' L' s kp o' => ⟨L' ++ M1, .cons o' (t.frame s kp), fun c => List.mem_append, id⟩⟩
  | _, _, _, k + 1, d, .cons (L := L1) (M := M1) o t, h => by
    obtain ⟨v, Lk, Lo, h1, h2, h3, h4, h5⟩ := owns_split (k := k) t (by simpa using h)
    refine ⟨v, Lk, L1 ++ Lo, by simpa using h1, h2, fun c => ?_, fun nd => ?_, fun F' H' d' L' s kp o' => ?_⟩
    · rw [List.mem_append, List.mem_append, <- h3 c]
      constructor
      · rintro (z | z | z)
        · exact .inr (.inl z)
        · exact .inl z
        · exact .inr (.inr z)
      · rintro (z | z | z)
        · exact .inr (.inl z)
        · exact .inl z
        · exact .inr (.inr z)
    · obtain ⟨n1, n2, n3⟩ := List.nodup_append.mp nd
      obtain ⟨p1, p2, p3⟩ := List.nodup_append.mp (h4 n2)
      rw [List.nodup_append]
      refine ⟨p1, List.nodup_append.mpr ⟨n1, p2, fun a ha b hb => n3 a ha b ((h3 b).mp (.inr hb))⟩, fun a ha b hb z => ?_⟩
      subst z
      rcases List.mem_append.mp hb with hb | hb
      · exact n3 a hb a ((h3 a).mp (.inl ha)) rfl
      · exact p3 a ha a hb rfl
    · obtain ⟨LL, q1, q2, q3⟩ := h5 F' H' d' L' s (fun c hc => kp c (List.mem_append_right _ hc)) o'
      refine ⟨L1 ++ LL, .cons (o.frame s fun c hc => kp c (List.mem_append_left _ hc)) q1, fun c => ?_, fun nd => ?_⟩
      · rw [List.mem_append, List.mem_append, q2 c]
        constructor
        · rintro (z | z | z)
          · exact .inr (.inl z)
          · exact .inl z
          · exact .inr (.inr z)
        · rintro (z | z | z)
          · exact .inr (.inl z)
          · exact .inl z
          · exact .inr (.inr z)
      · obtain ⟨n1, n2, n3⟩ := List.nodup_append.mp nd
        obtain ⟨m1, m2, m3⟩ := List.nodup_append.mp n2
        rw [List.nodup_append]
        refine ⟨m1, q3 (List.nodup_append.mpr ⟨n1, m2, fun a ha b hb => n3 a ha b (List.mem_append_right _ hb)⟩), fun a ha b hb z => ?_⟩
        subst z
        rcases (q2 a).mp hb with hb | hb
        · exact n3 a hb a (List.mem_append_left _ ha) rfl
        · exact m3 a ha a hb rfl
end
end Py
namespace Py
open PySem L2
section
variable {T : Tbl} {W : Wd T}
end
end Py
namespace Py
open PySem L2
section
variable {T : Tbl} {W : Wd T}
end
end Py
namespace Py
open PySem L2
section
variable {X : Cx} {T : Tbl} {W : Wd T} {E : WX}
end
end Py
namespace Py
open PySem L2
section
variable {T : Tbl} {W : Wd T} {env : Py.Env} {P : List Nat} {E : WX}
end
end Py
namespace Py
open PySem L2
section
variable {T : Tbl} {W : Wd T} {env : Py.Env} {P : List Nat} {E : WX}
end
end Py
namespace Py
open PySem L2
section
variable {T : Tbl} {W : Wd T} {env : Py.Env} {ds : List D}
structure Acc2 {T : Tbl} (W : Wd T) (F H F1 H1 : Hp) (Dl : Addr) (acc : List D) (F' H' : Hp) : Prop where
  x : Ext F H F' H'
  s1 : Same F1 F'
  s2 : Same H1 H'
  nl : F' Dl = none
  at_ : ∃ ws M, H' Dl = some (.lst ws) /\ Owns W F' H' acc ws M /\ (Dl :: M).Nodup /\ ∀ a ∈ M, H a = none /\ F' a = none
theorem Acc2.ext {F H F1 H1 F' H' F2 H2 : Hp} {Dl : Addr} {acc : List D} (c : Acc2 W F H F1 H1 Dl acc F' H') (x3 : Ext F' H' F2 H2) : Acc2 W F H F1 H1 Dl acc F2 H2 := by
  obtain ⟨ws, M, hl, os, nd, hM⟩ := c.at_
  have nn : ∀ a, (∃ o, H' a = some o) -> F' a = none -> F2 a = none := fun a ⟨o, ho⟩ hf => by
    cases z : F2 a with
    | none => rfl
    | some u =>
      rcases x3.n a u z with w | w
      · rw [hf] at w; cases w
      · rw [ho] at w; cases w
  exact ⟨c.x.trans x3, c.s1.trans x3.f, c.s2.trans x3.h, nn Dl ⟨_, hl⟩ c.nl, ws, M, x3.h _ _ hl, os.frame x3.f fun a _ o ho => x3.h _ _ ho, nd, fun a ha => ⟨(hM a ha).1, nn a (os.lives a ha) (hM a ha).2⟩⟩
end
end Py
namespace Py
open PySem PySem.Spec PyProof.Rows L2
structure ZAp (z TI TO i1 i2 : Addr) (f1 f2 : List Addr) : Prop where
  TIz : TI ≠ z
  TOz : TO ≠ z
  i1z : i1 ≠ z
  i2z : i2 ≠ z
  TITO : TI ≠ TO
  TIi1 : TI ≠ i1
  TIi2 : TI ≠ i2
  TOi1 : TO ≠ i1
  TOi2 : TO ≠ i2
  i12 : i1 ≠ i2
  zf1 : z ∉ f1
  TOf1 : TO ∉ f1
  i2f1 : i2 ∉ f1
  zf2 : z ∉ f2
  TOf2 : TO ∉ f2
  i1f2 : i1 ∉ f2
section
variable {prog : Program} {w : World} {A : Around} {E : Value -> Shared -> Prop} {s : Shared} {z TI TO i1 i2 : Addr} {f1 f2 : List Addr} {n1 n2 k1 k2 : Nat} {P1 P2 : Nat -> Value -> Prop} {S1 S2 : Nat -> Heap -> Prop} {a b : Value}
end
section
variable {prog : Program} {w : World} {A : Around} {E : Value -> Shared -> Prop} {s : Shared}
end
theorem ZAp.of {z TI TO i1 i2 a b : Addr} (D : ZipApart z TI TO i1 i2 a b) : ZAp z TI TO i1 i2 [i1, a] [i2, b] where
  TIz := D.TIz
  TOz := D.TOz
  i1z := D.i1z
  i2z := D.i2z
  TITO := D.TITO
  TIi1 := D.TIi1
  TIi2 := D.TIi2
  TOi1 := D.TOi1
  TOi2 := D.TOi2
  i12 := D.i12
  zf1 := by simp [D.i1z.symm, D.l1z.symm]
  TOf1 := by simp [D.TOi1, D.l1TO.symm]
  i2f1 := by simp [D.i12.symm, D.l1i2.symm]
  zf2 := by simp [D.i2z.symm, D.l2z.symm]
  TOf2 := by simp [D.TOi2, D.l2TO.symm]
  i1f2 := by simp [D.i12, D.l2i1.symm]
section
variable {T : Tbl} {W : Wd T} {env : Py.Env} {ta tb : TE} {ds es : List D}
end
end Py
namespace Py
open PySem L2
section
variable {T : Tbl} {W : Wd T} {X : Cx} {pins : List (Addr × Obj)} {σ : St} {H : Hp} {s : Shared}
end
section
variable {T : Tbl} {W : Wd T}
end
end Py
namespace Py
open PySem L2
section
variable {T : Tbl} {W : Wd T}
end
end Py
namespace L2
open PySem PySem.Spec PyProof.Rows
inductive HdsA (X : Cx) (n : Str) : List ExceptHandler -> List (Value × (Addr -> Value -> Option Addr -> TS)) -> Prop
  | nil : HdsA X n [] []
  | cons {x : Str} {c : Value} {ts : Addr -> Value -> Option Addr -> TS} {b₀ : Stmt} {suite : List Stmt} {np pos' : Pos} {hds : List ExceptHandler} {l : List (Value × (Addr -> Value -> Option Addr -> TS))} (hc : Names X x c)
      (hsu : ∀ (a : Addr) (oe : Obj) (cls : Value) (d : Option Addr) (pn : List (Addr × Obj)), Zc cls d oe -> (∃ vs, oe.data = .fields vs) -> PSs (X.suite a ((a, oe) :: pn)) (b₀ :: suite) (ts a cls d)) (r : HdsA X n hds l) :
      HdsA X n (.ExceptHandler (some (.Name x np)) (some n) (b₀ :: suite) pos' :: hds) ((c, ts) :: l)
section
variable {X : Cx} {n : Str} {i : Nat} {body : List Stmt} {h₀ : ExceptHandler} {hds : List ExceptHandler} {l : List (Value × (Addr -> Value -> Option Addr -> TS))} {pos : Pos} {tb : WX -> TS} {Wout : WX}
end
end L2
namespace Py
open PySem L2
section
variable {T : Tbl} {W : Wd T}
section
variable {X : Cx} {pins : List (Addr × Obj)} {σ : St} {H : Hp} {s : Shared}
end
def q2 (r : R2) (Q : VK) : List V -> Hp -> Prop := fun vs H => match vs with
  | [x, y] => r x y H Q
  | _ => False
end
end Py
namespace L2
open PySem PySem.Spec PyProof.Rows
section
variable {M : Model} {A : Around} {E : Value -> Shared -> Prop} {s : Shared} {Z : Obj -> Prop} {base : Heap} {env : Env} {outer l : List Env} {L e : Addr}
end
section
variable {X : Cx}
end
end L2
namespace Py
open PySem L2
structure XEl {T : Tbl} (W : Wd T) where
  t : WX -> TE
  ev : Py.Env -> Rz
  snd : ∀ (E : WX) (env : Py.Env) (e : Ent) (F : Hp) (σ : St) (H : Hp) (L : List Addr) (Q : VK), ev env ≠ .no -> Rel W e env F σ H L ->
    (∀ d b v F' H', ev env = .ok d b -> Ext F H F' H' -> rO W d F' H' H v -> Q v H') -> (∀ x b F' H' C dd, ev env = .exn x b -> Ext F H F' H' -> IsExn W F' x C dd -> E C dd σ H') -> t E σ H Q
section
variable {T : Tbl} {W : Wd T} {env : Py.Env} {E : WX}
end
end Py
namespace L2
open PySem PySem.Spec PyProof.Rows
def napped : GenState -> GenState
  | .suspended _ l c p fs cl => .suspended (fun _ => .unsupported "asleep") l c p fs cl
  | x => x
def sleeps : GenState -> Bool
  | .suspended .. => true
  | _ => false
def isRet : Frame -> Bool
  | .ret .. => true
  | .gen .. => false
theorem napped_seen (x : GenState) : (napped x).seen = x.seen := by cases x <;> rfl
theorem napped_bare (x : GenState) : (napped x).bare = x.bare := by cases x <;> rfl
structure Nap (rl : Nat -> Option GenState) (v s : Shared) : Prop where
  hp : s.heap = v.heap
  dr : s.drawn = v.drawn
  tk : s.toks = v.toks
  os : s.os = v.os
  sz : s.gens.size = v.gens.size
  sl : ∀ i st, rl i = some st -> sleeps st = true
  at' : ∀ i st, rl i = some st -> s.gens[i]? = some st /\ v.gens[i]? = some (napped st)
  ot : ∀ i, rl i = none -> s.gens[i]? = v.gens[i]?
  ng : ∀ i k l c p fs cl, rl i = none -> v.gens[i]? = some (.suspended k l c p fs cl) -> fs.all isRet = true
section
variable {M : Model} {rl : Nat -> Option GenState} {v s v' : Shared} {Γ : PySem.Ctx} {p : Pos} {fs : List Frame} {e : End}
theorem Nap.heap (n : Nap rl v s) (h : Heap) : Nap rl { v with heap := h } { s with heap := h } := ⟨rfl, n.dr, n.tk, n.os, n.sz, n.sl, n.at', n.ot, n.ng⟩
theorem Nap.toks (n : Nap rl v s) (h : Nat) : Nap rl { v with toks := h } { s with toks := h } := ⟨n.hp, n.dr, rfl, n.os, n.sz, n.sl, n.at', n.ot, n.ng⟩
theorem Nap.drawn (n : Nap rl v s) (h : Drawn) : Nap rl { v with drawn := h } { s with drawn := h } := ⟨n.hp, rfl, n.tk, n.os, n.sz, n.sl, n.at', n.ot, n.ng⟩
theorem Nap.set (n : Nap rl v s) {g : Nat} {x : GenState} (hg : rl g = none) (hx : ∀ k l c p fs cl, x = .suspended k l c p fs cl -> fs.all isRet = true) : Nap rl (v.setGen g x) (s.setGen g x) := by
  have nx : ∀ i st, rl i = some st -> i ≠ g := fun i st h z => by rw [z, hg] at h; cases h
  have o : ∀ (u : Shared) i, i ≠ g -> (u.setGen g x).gens[i]? = u.gens[i]? := fun u i h => by
    show (u.gens.setIfInBounds g x)[i]? = _
    rw [Array.getElem?_setIfInBounds_ne (Ne.symm h)]
  have self : ∀ (u : Shared), g < u.gens.size -> (u.setGen g x).gens[g]? = some x := fun u h => by
    show (u.gens.setIfInBounds g x)[g]? = _
    simp [h]
  have out : ∀ (u : Shared), ¬ g < u.gens.size -> (u.setGen g x).gens[g]? = none := fun u h => by
    show (u.gens.setIfInBounds g x)[g]? = _
    rw [Array.getElem?_eq_none (by rw [Array.size_setIfInBounds]; omega)]
  refine ⟨n.hp, n.dr, n.tk, n.os, ?_, n.sl, fun i st h => ?_, fun i h => ?_, fun i k l c p fs cl h hv => ?_⟩
  · show (s.gens.setIfInBounds g x).size = (v.gens.setIfInBounds g x).size
    rw [Array.size_setIfInBounds, Array.size_setIfInBounds, n.sz]
  · rw [o _ _ (nx i st h), o _ _ (nx i st h)]
    exact n.at' i st h
  · by_cases z : i = g
    · subst z
      by_cases hb : i < v.gens.size
      · rw [self _ hb, self _ (by rw [n.sz]; exact hb)]
      · rw [out _ hb, out _ (by rw [n.sz]; exact hb)]
    · rw [o _ _ z, o _ _ z]
      exact n.ot i h
  · by_cases z : i = g
    · subst z
      by_cases hb : i < v.gens.size
      · rw [self _ hb] at hv
        exact hx k l c p fs cl (Option.some.inj hv)
      · rw [out _ hb] at hv; cases hv
    · rw [o _ _ z] at hv
      exact n.ng i k l c p fs cl h hv
theorem Nap.awake (n : Nap rl v s) {g : Nat} {x : GenState} (h : v.gens[g]? = some x) (hx : sleeps x = false) : rl g = none := by
  cases e : rl g with
  | none => rfl
  | some st =>
    have := (n.at' g st e).2
    rw [h] at this
    have z := n.sl g st e
    rw [Option.some.inj this] at hx
    cases st <;> first | exact Bool.noConfusion (show false = true from z) | exact Bool.noConfusion (show true = false from hx)
theorem Nap.get (n : Nap rl v s) {g : Nat} {x : GenState} (h : v.gens[g]? = some x) (hx : sleeps x = false) : s.gens[g]? = some x := by
  rw [n.ot g (n.awake h hx)]; exact h
theorem Nap.look (n : Nap rl v s) {g : Nat} {x : GenState} (h : v.gens[g]? = some x) : ∃ x', s.gens[g]? = some x' /\ x'.seen = x.seen := by
  cases e : rl g with
  | none => exact ⟨x, by rw [n.ot g e]; exact h, rfl⟩
  | some st0 =>
    obtain ⟨a, b⟩ := n.at' g st0 e
    rw [h] at b
    exact ⟨st0, a, by rw [Option.some.inj b, napped_seen]⟩
end
theorem Nap.bare {rl : Nat -> Option GenState} {v s : Shared} (n : Nap rl v s) (h : AllBare v.gens) : AllBare s.gens := fun y hy => by
  obtain ⟨i, hi, e⟩ := Array.mem_iff_getElem.mp hy
  have e1 : s.gens[i]? = some y := by rw [Array.getElem?_eq_getElem hi, e]
  cases q : rl i with
  | none =>
    rw [n.ot i q] at e1
    exact h y (Array.mem_of_getElem? e1)
  | some st =>
    obtain ⟨a, b⟩ := n.at' i st q
    rw [e1] at a
    cases a
    have := h _ (Array.mem_of_getElem? b)
    rw [napped_bare] at this
    exact this
end L2
namespace L2
open PySem PySem.Spec PyProof.Rows
def Sg (M : Model) (A : Around) (Φ : End -> Shared -> Prop) (c : Code) (t : Sem PySem.Fin) (fs : List Frame) (s : Shared) : Prop :=
  ∀ (Γ : PySem.Ctx) (p : PySem.Pos), Γ.code = c -> Γ.Woken A -> ∃ e s', Runs M Γ p t fs s e s' /\ Φ e s'
section
variable {M : Model} {A : Around} {Φ Φ' : End -> Shared -> Prop} {c : Code} {fs : List Frame} {s : Shared}
theorem Sg.mono {t : Sem PySem.Fin} (h : Sg M A Φ c t fs s) (k : ∀ e s', Φ e s' -> Φ' e s') : Sg M A Φ' c t fs s := fun Γ p hc hΓ =>
  let ⟨e, s', r, q⟩ := h Γ p hc hΓ
  ⟨e, s', r, k e s' q⟩
end
section
variable {M : Model} {A : Around} {Φ : End -> Shared -> Prop} {c : Code} {fs : List Frame} {s : Shared} {env : PySem.Env} {K : Flow -> Sem PySem.Fin} {J : Value -> Sem PySem.Fin} {gd : Bool -> Bool} {lv : List Value -> List Value}
end
section
variable {prog : Program} {w : World} {A : Around} {Φ : End -> Shared -> Prop} {fs : List Frame} {s : Shared} {env : PySem.Env}
end
end L2
namespace L2
open PySem PySem.Spec PyProof.Rows GenW
def upTo (s : Shared) (n : Nat) : Shared := { s with heap := { s.heap with objs := s.heap.objs.extract 0 n } }
structure Gx where
  prog : Program
  w : World
  K : PySem.W.Frag
  mg : Str -> Option Value
  base : Heap
  N : List Str
  qual : Str
  scope : Scope
  f : Addr
  cd : Value
  A : Around
  outer : List PySem.Env
  n0 : Nat
  a : Addr
  go : Obj
  g : Nat
abbrev Gx.env (X : Gx) : PySem.Env := envOfC X.qual X.scope X.n0 X.f X.cd
def Gx.cx (X : Gx) (s : Shared) (H : Hp) : Cx where
  prog := X.prog
  w := X.w
  K := X.K
  mg := X.mg
  base := X.base
  A := X.A.deeper X.env
  N := X.N
  s_0 := s
  H_0 := H
  env := X.env
  outer := X.outer
  stack := X.env :: X.outer
  ex := []
  calm := true
  fn := fun _ => true
  pn := [(X.a, X.go)]
  xe := fun _ _ => False
structure Gx.Ok (X : Gx) : Prop where
  go : ∃ nm qn, X.go.cls = .type "generator" /\ X.go.data = .fields #[.int X.g 0, nm, qn] /\ X.go.slots = #[]
  young : X.n0 <= X.a
  frl : ∀ L ∈ frs X.outer, L < X.n0
  bsz : X.base.objs.size <= X.n0
structure Woke (X : Gx) (H : Hp) (s : Shared) (H' : Hp) (s' : Shared) : Prop where
  env : Env0 X.prog X.w X.K X.mg X.base X.A X.outer s' H'
  os : s'.os = s.os
  keep : ∀ b o, X.n0 <= b -> H b = none -> s.heap.get? b = some o -> s'.heap.get? b = some o /\ H' b = none
section
variable {X : Gx} {ip : List (Addr × Obj)} {σ : St} {H H' Hs : Hp} {s s' ss : Shared}
theorem Woke.size (k : Woke X H s H' s') {b : Nat} (hb : X.n0 <= b) {o : Obj} (hn : H b = none) (e : s.heap.get? b = some o) : X.n0 <= s'.heap.objs.size :=
  Nat.le_trans hb (Nat.le_of_lt (Heap.lt_size (k.keep b o hb hn e).1))
structure Moved (X : Gx) (Hs : Hp) (ss : Shared) (H : Hp) (s : Shared) : Prop where
  os : s.os = ss.os
  bare : AllBare s.gens
  hok : HOk X.prog X.w H s.heap
  lim : s.heap.NoLimit
  gen : s.heap.IsGen X.a X.g
  gn : H X.a = none
  un : Un (frs X.outer) ((List.range ss.heap.objs.size).filter fun b => decide (X.n0 <= b)) Hs H ss.heap s.heap
end
end L2
namespace L2
open PySem PySem.Spec PyProof.Rows GenW
def GP : Nat -> Type
  | 0 => Hp -> Prop
  | n + 1 => (V -> Hp -> (GP n -> Hp -> Prop) -> Prop) × (Hp -> Prop)
def GP.en : {n : Nat} -> GP n -> Hp -> Prop
  | 0, G => G
  | _ + 1, G => G.2
def GP.yl {n : Nat} (G : GP (n + 1)) : V -> Hp -> (GP n -> Hp -> Prop) -> Prop := G.1
def Phi (X : Gx) : (n : Nat) -> GP n -> Hp -> Shared -> End -> Shared -> Prop
  | 0, G, Hs, ss, .ret r, s' => (r = .ok (.ret .none) \/ r = .ok .next) /\ ∃ H', Moved X Hs ss H' s' /\ GP.en G H'
  | 0, _, _, _, .susp .., _ => False
  | _ + 1, G, Hs, ss, .ret r, s' => (r = .ok (.ret .none) \/ r = .ok .next) /\ ∃ H', Moved X Hs ss H' s' /\ GP.en G H'
  | n + 1, G, Hs, ss, .susp v g l k c p fs, s' => (End.susp v g l k c p fs).quiet = true /\ ∃ x H' fut, RelV x v /\ Moved X Hs ss H' s' /\ GP.yl G x H' fut /\
      ∀ s'' H'', Woke X H' s' H'' s'' -> ∀ G' : GP n, fut G' H'' -> Sg (model X.prog X.w) X.A (Phi X n G' H'' s'') c (k (.send .none)) fs s''
structure TEnds where
  nx : (n : Nat) -> GP n -> St -> Hp -> Prop
  rt : (n : Nat) -> GP n -> V -> Hp -> Prop
  bk : (n : Nat) -> GP n -> St -> Hp -> Prop := fun _ _ _ _ => False
  ct : (n : Nat) -> GP n -> St -> Hp -> Prop := fun _ _ _ _ => False
abbrev TGt := TEnds -> (n : Nat) -> GP n -> St -> Hp -> Prop
def TEnds.at (D : TEnds) (n : Nat) (G : GP n) : Ends := { nx := D.nx n G, rt := D.rt n G, bk := D.bk n G, ct := D.ct n G }
structure GCt (X : Gx) (c : Code) (fs : List Frame) (gd : Bool -> Bool) : Prop where
  over : X.A.over c fs = X.A.deeper X.env
  split : splitAtGen fs = none
  guard : fs.any Frame.guarded = false
  gd : gd false = false
def SPt (X : Gx) (ip : List (Addr × Obj)) (D : TEnds) (n : Nat) (G : GP n) (Hs : Hp) (ss : Shared) (f : Flow) (s : Shared) : Prop := SP (X.cx (upTo ss X.n0) Hs) ip (D.at n G) f s
def GKt (X : Gx) (ip : List (Addr × Obj)) (c : Code) (fs : List Frame) (K : Flow -> Sem PySem.Fin) (D : TEnds) : Prop :=
  ∀ (n : Nat) (G : GP n) (Hs : Hp) (ss s : Shared) (f : Flow), X.n0 <= ss.heap.objs.size -> SPt X ip D n G Hs ss f s -> Sg (model X.prog X.w) X.A (Phi X n G Hs ss) c (K f) fs s
structure GT (X : Gx) (st : Stmt) (t : TGt) : Prop where
  run : ∀ (ip : List (Addr × Obj)) (c : Code) (fs : List Frame) (K : Flow -> Sem PySem.Fin) (J : Value -> Sem PySem.Fin) (gd : Bool -> Bool) (lv : List Value -> List Value) (D : TEnds) (n : Nat) (G : GP n) (Hs : Hp) (ss s : Shared) (σ : St) (H : Hp),
    GCt X c fs gd -> GKt X ip c fs K D -> X.n0 <= ss.heap.objs.size -> (∀ p ∈ ip, X.n0 <= p.1) -> Inv (X.cx (upTo ss X.n0) Hs) ip σ H s -> t D n G σ H -> Sg (model X.prog X.w) X.A (Phi X n G Hs ss) c ((exec st X.env).wrap K J gd lv) fs s
structure GTs (X : Gx) (st : List Stmt) (t : TGt) : Prop where
  run : ∀ (ip : List (Addr × Obj)) (c : Code) (fs : List Frame) (K : Flow -> Sem PySem.Fin) (J : Value -> Sem PySem.Fin) (gd : Bool -> Bool) (lv : List Value -> List Value) (D : TEnds) (n : Nat) (G : GP n) (Hs : Hp) (ss s : Shared) (σ : St) (H : Hp),
    GCt X c fs gd -> GKt X ip c fs K D -> X.n0 <= ss.heap.objs.size -> (∀ p ∈ ip, X.n0 <= p.1) -> Inv (X.cx (upTo ss X.n0) Hs) ip σ H s -> t D n G σ H -> Sg (model X.prog X.w) X.A (Phi X n G Hs ss) c ((execs st X.env).wrap K J gd lv) fs s
section
variable {X : Gx} {st : Stmt} {rest : List Stmt}
end
end L2
namespace L2
open PySem PySem.Spec PyProof.Rows GenW
abbrev Fut := (n : Nat) -> GP n -> Hp -> Prop
def GMadeT (P : Program) (w : World) (K : PySem.W.Frag) (mg : Str -> Option Value) (base : Heap) (k : Nat) (outer : List PySem.Env) (H : Hp) (s : Shared) (fu : Fut) (u : Value) (s' : Shared) : Prop :=
  ∃ (Y : Gx) (c : Code), u = .ref Y.a /\ Y.prog = P /\ Y.w = w /\ Y.K = K /\ Y.mg = mg /\ Y.base = base /\ Y.outer = outer /\ Y.n0 = s.heap.objs.size /\ (∀ A, ({ Y with A := A } : Gx).Ok) /\ s'.heap.IsGen Y.a Y.g /\ s'.gens[Y.g]? = some (.fresh c) /\
    s'.os = s.os /\ AllBare s'.gens /\ s'.heap.NoLimit /\ (∀ b o, s.heap.get? b = some o -> s'.heap.get? b = some o) /\
    ∀ (A : Around) (n : Nat) (G : GP n) (H2 : Hp) (s2 : Shared), Room k A -> Woke { Y with A := A } H s' H2 s2 -> fu n G H2 -> Sg (model P w) A (Phi { Y with A := A } n G H2 s2) c ((model P w).den c) [] s2
structure GFnT (P : Program) (w : World) (K : PySem.W.Frag) (mg : Str -> Option Value) (base : Heap) (k : Nat) (f : Addr) (fd : FuncData) (ps : List Str) (fu : List V -> Fut) : Prop where
  run : ∀ (A : Around) (outer : List PySem.Env) (s : Shared) (H : Hp) (args : Args) (us : List Value) (vs : List V), vs.length = ps.length -> Room k A -> Env0 P w K mg base A outer s H -> BindsTo s fd args (ps.zip us) -> Vals vs us ->
    codeAny (model P w) A (.call (.ref f) args) (fun r s' => match r with | .ok (.ret u) => GMadeT P w K mg base k outer H s (fu vs) u s' | _ => False) s
end L2
namespace L2
open PySem PySem.Spec PyProof.Rows GenW
abbrev anyHO : HO := .ext fun _ => True
structure PlusF (H Hc : Hp) : Prop where
  old : ∀ b o, H b = some o -> Hc b = some o
  new : ∀ b o, H b = none -> Hc b = some o -> ∃ ob, o = .frz ob anyHO
section
variable {X : Cx} {pins : List (Addr × Obj)} {σ : St} {H Hc H' : Hp} {s : Shared} {n0 : Nat}
structure OldC (X : Cx) (pins : List (Addr × Obj)) (n0 : Nat) : Prop where
  loc : X.env.locals < n0
  cells : ∀ x c, X.env.cells.lookup x = some c -> c < n0
  pins : ∀ p ∈ X.pn ++ pins, p.1 < n0
  s0 : X.s_0.heap.objs.size <= n0
end
abbrev TGenT := St -> Hp -> (Fut -> Hp -> Prop) -> Prop
structure PGenT (X : Cx) (k : Nat) (e : Expr) (tg : TGenT) : Prop where
  run : ∀ (pins : List (Addr × Obj)) (s : Shared) (σ : St) (H : Hp) (R : Fut -> Hp -> Prop), Inv X pins σ H s -> tg σ H R ->
    wpAny (model X.prog X.w) X.A (eval e X.env) (fun u s' => ∃ fu H1 sc, Inv X pins σ H1 sc /\ GMadeT X.prog X.w X.K X.mg X.base k X.stack H1 sc fu u s' /\ R fu H1) X.xe s
end L2
namespace Py
open PySem L2 PyProof.Rows GenW
section
variable {T : Tbl} {W : Wd T}
def Drive {T : Tbl} (W : Wd T) : List D -> (n : Nat) -> GP n -> Hp -> Hp -> List Addr -> Prop
  | [], _, G, F, H, Lg => ∀ F' H', Post F H Lg F' H' -> GP.en G H'
  | _ :: _, 0, _, _, _, _ => False
  | y :: ys, n + 1, G, F, H, Lg => ∀ F' H' Lg' x (fut : GP n -> Hp -> Prop), Post F H Lg F' H' -> Shr W F' y x -> (∀ a ∈ Lg', F' a = none /\ (a ∈ Lg \/ H a = none) /\ ∃ o, H' a = some o) ->
      (∀ (G' : GP n) F2 H2, Same F' F2 -> Same F2 H2 -> (∀ a ∈ Lg', H2 a = H' a /\ F2 a = none) -> Drive W ys n G' F2 H2 Lg' -> fut G' H2) -> GP.yl G x H' fut
inductive RZ where
  | nx (ys : List D) (env : Py.Env) | bk (ys : List D) (env : Py.Env) | ct (ys : List D) (env : Py.Env) | no
def RZ.ys : RZ -> List D
  | .nx ys _ => ys
  | .bk ys _ => ys
  | .ct ys _ => ys
  | .no => []
def RZ.pre (ds : List D) : RZ -> RZ
  | .nx ys e => .nx (ds ++ ys) e
  | .bk ys e => .bk (ds ++ ys) e
  | .ct ys e => .ct (ds ++ ys) e
  | .no => .no
def RZ.then (r : RZ) (f : Py.Env -> RZ) : RZ := match r with
  | .nx ys e => (f e).pre ys
  | r => r
def GAt {T : Tbl} (W : Wd T) (Fb : Hp) (zs : List D) (env : Py.Env) (K : (n : Nat) -> GP n -> L2.St -> Hp -> Prop) : Prop :=
  ∀ (n : Nat) (G : GP n) (e : Ent) (F : Hp) (σ : L2.St) (H : Hp) (L : List Addr), e.pins = [] -> Same Fb F -> Rel W e env F σ H L -> Drive W zs n G e.F0 e.H0 e.L0 -> K n G σ H
structure SatZ {T : Tbl} (W : Wd T) (Fb : Hp) (zs : List D) (r : RZ) (Dn : TEnds) : Prop where
  nx : ∀ ys env, r = .nx ys env -> GAt W Fb zs env Dn.nx
  bk : ∀ ys env, r = .bk ys env -> GAt W Fb zs env Dn.bk
  ct : ∀ ys env, r = .ct ys env -> GAt W Fb zs env Dn.ct
def AZ {T : Tbl} (W : Wd T) (t : TGt) (env : Py.Env) (r : RZ) : Prop :=
  ∀ (Fb : Hp) (zs : List D) (Dn : TEnds), SatZ W Fb zs r Dn -> GAt W Fb (r.ys ++ zs) env (t Dn)
structure XZ {T : Tbl} (W : Wd T) where
  t : TGt
  ev : Py.Env -> RZ
  snd : ∀ env, ev env ≠ .no -> AZ W t env (ev env)
end
end Py
namespace Py
open PySem L2 PyProof.Rows GenW
section
variable {T : Tbl} {W : Wd T} {env : Py.Env} {E : WX}
structure XGn {T : Tbl} (W : Wd T) where
  t : TGenT
  ev : Py.Env -> Option (List D)
  snd : ∀ {env ys}, ev env = some ys -> ∀ (e : Ent) (F : Hp) (σ : L2.St) (H : Hp) (L : List Addr) (R : Fut -> Hp -> Prop), Rel W e env F σ H L ->
    (∀ F' H' fu, Ext F H F' H' -> (∀ m G, Drive W ys m G F' H' [] -> fu m G H') -> R fu H') -> t σ H R
theorem Rel.post {e : Ent} {F H F' H' : Hp} {σ : L2.St} {L Lg : List Addr} (r : Rel W e env F σ H L) (p : Post F H Lg F' H') (k : ∀ a ∈ Lg, (a ∈ e.L0 \/ e.H0 a = none) /\ a ∉ L) : Rel W e env F' σ H' L where
  sF := p.s
  slots := r.slots.frame p.f fun a m o q => p.h a o (fun z => (k a z).2 m) q
  nd := r.nd
  dj := fun a m => by
    obtain ⟨o, ho⟩ := r.slots.lives a m
    cases q : F' a with
    | none => rfl
    | some u =>
      rcases p.n a u q with z | z | z
      · rw [r.dj a m] at z; cases z
      · rw [ho] at z; cases z
      · exact absurd m (k a z).2
  s0 := r.s0.trans p.f
  nw := fun a o q => by
    rcases p.n a o q with z | z | z
    · exact r.nw a o z
    · exact (r.h0 z).elim (fun q => .inr (.inr q)) fun q => .inr (.inl q)
    · exact (k a z).1.elim (fun q => .inr (.inr q)) fun q => .inr (.inl q)
  fr := fun a o m q => p.h a o (fun z => (k a z).1.elim m fun z => by rw [q] at z; cases z) (r.fr a o m q)
  ln := r.ln
  pin := r.pin
section
variable {e : Ent} {F H Hc F3 H7 : Hp} {σ σ3 : L2.St} {L L3 : List Addr} {env3 : Py.Env}
end
end
structure GfD (P : Program) (w : World) (K : PySem.W.Frag) (mg : Str -> Option Value) (base : Heap) (k : Nat) (x qual : Str) (st : Stmt) (ps : List Str) (fu : List V -> Fut) : Prop where
  ex : ∃ f fd, GFnT P w K mg base k f fd ps fu /\ mg x = some (.ref f) /\ PySem.W.keepIn K (.ref f) = true /\ FunD K x qual (defArgs st) (defBody st) (defScope st) [] [] f fd
section
variable {P : Program} {w : World} {K : PySem.W.Frag} {mg : Str -> Option Value} {base : Heap}
end
section
variable {X : Cx} {k n : Nat} {x qual : Str} {st : Stmt} {ps ks : List Str} {fu : List V -> Fut} {p pos' : Pos}
end
end Py
namespace Py
open PySem L2 PyProof.Rows GenW
section
variable {T : Tbl} {W : Wd T} {env : Py.Env} {P : List Nat}
end
end Py
namespace L2
open PySem PySem.Spec PyProof.Rows
section
variable {X : Cx} {tg : Expr}
end
end L2
namespace Py
open PySem L2
section
variable {T : Tbl} {W : Wd T} {env : Py.Env}
end
end Py
namespace L2
open PySem PySem.Spec PyProof.Rows
section
variable {X : Cx} {e st : Expr} {te ts : TE} {p2 pos : Pos}
end
end L2
namespace Py
open PySem L2
section
variable {T : Tbl} {W : Wd T} {env : Py.Env}
end
end Py
namespace L2
open PySem PySem.Spec PyProof.Rows
section
variable {X : Cx}
end
end L2
namespace Py
open PySem L2
section
variable {T : Tbl} {W : Wd T} {env : Py.Env}
end
end Py
namespace Py
open PySem L2
section
variable {T : Tbl} {W : Wd T} {env : Py.Env}
end
end Py
namespace L2
open PySem PySem.Spec PyProof.Rows GenW
section
variable {M : Model} {A : Around} {Φ : End -> Shared -> Prop} {c : Code} {fs : List Frame} {s : Shared} {env : PySem.Env} {K : Flow -> Sem PySem.Fin} {J : Value -> Sem PySem.Fin} {gd : Bool -> Bool} {lv : List Value -> List Value}
end
section
variable {X : Gx}
end
end L2
namespace Py
open PySem L2
section
variable {T : Tbl} {W : Wd T} {env : Py.Env}
end
end Py
namespace L2
open PySem PySem.Spec PyProof.Rows GenW
section
variable {M : Model} {A : Around} {Φ : End -> Shared -> Prop} {c : Code} {fs : List Frame} {s : Shared} {env : PySem.Env} {K : Flow -> Sem PySem.Fin} {J : Value -> Sem PySem.Fin} {gd : Bool -> Bool} {lv : List Value -> List Value}
end
section
variable {prog : Program} {w : World} {A : Around} {Φ : End -> Shared -> Prop} {fs : List Frame} {s : Shared} {env : PySem.Env}
end
section
variable {X : Gx}
end
end L2
namespace Py
open PySem L2
section
variable {T : Tbl} {W : Wd T} {env : Py.Env}
end
end Py
namespace L2
open PySem PySem.Spec PyProof.Rows PySem.W
structure SpecIs (sp : PySem.Str) (w : Nat) (r : Bool) : Prop where
  ne : (sp.length == 0) = false
  asc : ((sp.cps.toList.drop 1).any (· ≥ 128) || (sp.cps.getD 0 0 ≥ 128 && !([60, 62, 61, 94] : List Nat).contains (sp.cps.getD 1 0))) = false
  ps : ∀ name, Builtin.Float.parseFormatSpec sp.cps.toList name 60 = .ok { align := if r = true then 62 else 60, width := some w }
  pi : Builtin.Float.parseFormatSpec sp.cps.toList "int" 62 = .ok { align := if r = true then 62 else 60, width := some w }
  bk : (sp.cps.back? == some 0) = false
  sz : sp.length <= sizeLine
  wd : w <= 1000
section
variable {X : Cx} {e st : Expr} {te ts : TE} {pos : Pos}
end
end L2
namespace Py
open PySem L2
section
end
section
variable {T : Tbl} {W : Wd T} {env : Py.Env}
structure XJ {T : Tbl} (W : Wd T) where
  ts : List TE
  ev : Py.Env -> Option String
  snd : ∀ {env y}, ev env = some y -> ∀ (acc : String) (e' : Ent) (F : Hp) (σ : St) (H : Hp) (L : List Addr) (Q : VK), acc.length + y.length <= 100000 -> Rel W e' env F σ H L -> (∀ F' H', Ext F H F' H' -> Q (.str (so (acc ++ y))) H') -> tJs ts (so acc) σ H (fun out H1 => Q (.str out) H1)
end
end Py
namespace Py
open PySem L2
section
variable {T : Tbl} {W : Wd T}
end
end Py
namespace Py
open PySem L2
def hasG (ks : List NestedKey) (k : NestedKey) : Bool := (pos k ks).isSome
section
variable {X : Cx}
theorem GOk.has {P : Program} {w : World} {h : Heap} {a : Addr} {ks : List NestedKey} {kas : List Addr} {vs : List V} {us : List Value} (g : GOk P w h a ks kas vs us) (k : NestedKey) : (atKey (ks.zip (kas.zip us)) k).isSome = hasG ks k := by
  unfold hasG
  cases hp : pos k ks with
  | none => rw [g.atKey_n hp]; rfl
  | some j =>
    obtain ⟨_, _, _, _, _, _, _, _, hat⟩ := g.atKey_s hp
    rw [hat]; rfl
end
section
variable {T : Tbl} {W : Wd T}
end
end Py
namespace Py
open PySem L2
section
variable {X : Cx} {e f : Expr} {pos' : Pos} {tk tv : TE}
end
section
variable {T : Tbl} {W : Wd T}
end
end Py
namespace Py
open PySem PySem.Spec PyProof.Rows L2
section
variable {prog : Program} {w : World} {A : Around} {E : Value -> Shared -> Prop} {s : Shared}
end
section
variable {T : Tbl} {W : Wd T} {env : Py.Env} {ta tb : TE} {ds es : List D}
end
end Py
namespace L2
open PySem PySem.Spec PyProof.Rows
section
variable {X : Cx} {n : Str} {i : Nat} {body : List Stmt} {pos : Pos} {tb : WX -> TS} {Wout : WX}
end
end L2
namespace Py
open PySem L2
section
variable {T : Tbl} {W : Wd T}
end
end Py
namespace Py
open PySem L2
section
variable {K : Type} [DecidableEq K]
end
section
variable {T : Tbl} {W : Wd T}
abbrev LD (P : Program) (w : World) (m : Bool) (H : Hp) (a : Addr) (ep : Nat) (ks : List LK) (vs : List V) : Prop := H a = some (.ext (lfP P w m a ep ks vs))
theorem LD.ok {P : Program} {w : World} {m : Bool} {H : Hp} {h : Heap} {a : Addr} {ep : Nat} {ks : List LK} {vs : List V} (g : LD P w m H a ep ks vs) (ok : HOk P w H h) : lfP P w m a ep ks vs h := (ok _ _ g).1
end
section
variable {X : Cx} {pins : List (Addr × Obj)} {σ : St} {H : Hp} {s : Shared} {A : Around} {E : Value -> Shared -> Prop} {a : Addr} {m : Bool} {ep : Nat} {ks : List LK} {vs : List V} {k : LK} {y v : V} {u r : Value}
end
section
variable {X : Cx} {o e f i : Expr} {apos cpos pos' : Pos} {td ty tx to : TE}
end
section
variable {T : Tbl} {W : Wd T} {env : Py.Env} {d : D}
end
end Py
namespace L2
open PySem PySem.Spec PyProof.Rows
section
variable {X : Cx}
end
end L2
namespace Py
open PySem L2 PyProof.Rows
section
variable {T : Tbl} {W : Wd T} {env : Py.Env}
end
end Py
namespace L2
open PySem PySem.Spec PyProof.Rows
section
variable {P : Program} {w : World} {A : Around} {E : Value -> Shared -> Prop} {s : Shared} {d : Addr}
end
end L2
namespace Py
open PySem L2
def rwP : XPred := fun P w ep a kvs _ h => (a == sysModules) = false /\ ∃ o es kus, h.get? a = some o /\ o.ExactDict /\ o.data = .dict es ep /\ es.toList.map (·.key) = kus /\ Vals kvs kus
abbrev RD (P : Program) (w : World) (H : Hp) (a : Addr) (ep : Nat) (kvs vs : List V) : Prop := H a = some (.ext (rwP P w ep a kvs vs))
theorem RD.ok {P : Program} {w : World} {H : Hp} {h : Heap} {a : Addr} {ep : Nat} {kvs vs : List V} (g : RD P w H a ep kvs vs) (ok : HOk P w H h) : rwP P w ep a kvs vs h := (ok _ _ g).1
def Itrw (P : Program) (w : World) (d : Addr) (ep : Nat) (kvs vs : List V) : It :=
  ⟨fun i H => RD P w H d ep kvs vs /\ i < kvs.length, fun i H x H' => H' = H /\ kvs[i]? = some x, fun i H => RD P w H d ep kvs vs /\ kvs.length <= i⟩
def iRw (P : Program) (w : World) (td : TE) : TI := fun σ H R => td σ H fun x H1 => ∃ d ep kvs vs, x = .ref d /\ RD P w H1 d ep kvs vs /\ R (Itrw P w d ep kvs vs) H1
section
variable {X : Cx} {e1 f1 e2 f2 e3 f3 : Expr} {pos' : Pos} {t1 u1 t2 u2 t3 u3 : TE}
end
section
variable {T : Tbl} {W : Wd T} {env : Py.Env} {d : D}
open Classical in
noncomputable def ksR : D -> Option (List D)
  | .xt _ φ ks _ => if φ = rwP then some ks else none
  | _ => none
theorem ksR_ok {F : Hp} {v : V} {ks : List D} (h : Shr W F d v) (e : ksR d = some ks) : ∃ a ep kvs vs, v = .ref a /\ RD W.P W.w F a ep kvs vs /\ Shrs W F ks kvs := by
  cases h <;> first | (cases e; done) | skip
  rename_i ha hk hs
  unfold ksR at e
  dsimp only at e
  split at e
  · rename_i e1
    cases e
    rw [e1] at ha
    exact ⟨_, _, _, _, rfl, ha, hk⟩
  · cases e
theorem seq_rw {F0 : Hp} {a : Addr} {ep : Nat} {kvs vs : List V} {ks : List D} (h : RD W.P W.w F0 a ep kvs vs) (hk : Shrs W F0 ks kvs) : Seq W (Itrw W.P W.w a ep kvs vs) ks F0 where
  go := fun i d F H s1 s2 hd => by
    obtain ⟨v, hv, sv⟩ := hk.get hd
    refine ⟨⟨s2 _ _ (s1 _ _ h), (List.getElem?_eq_some_iff.mp hv).1⟩, fun x H' y => ?_⟩
    obtain ⟨rfl, hx⟩ := y
    rw [hv] at hx
    cases hx
    exact ⟨F, .refl s2, sv.mono s1⟩
  stop := fun F H s1 s2 => ⟨s2 _ _ (s1 _ _ h), by rw [<- hk.length]; exact Nat.le_refl _⟩
noncomputable def xiRw (a : XP W) : XI W where
  t := iRw W.P W.w a.t
  evF env := (a.evF env).bind ksR
  evP env := (a.evF env).bind ksR
  sF := fun {env ds} e => by
    obtain ⟨d, e1, e⟩ := Option.bind_eq_some_iff.mp e
    refine fun e' F σ H L R r q => a.sF e1 e' F σ H L _ r fun v F1 H1 x1 y1 => ?_
    obtain ⟨da, ep, kvs, vs, rfl, g, hk⟩ := ksR_ok (show Shr W F1 d v from y1) e
    exact ⟨da, ep, kvs, vs, rfl, x1.s _ _ g, q _ F1 H1 x1 (seq_rw g hk)⟩
  sP := fun {env ds} e => by
    obtain ⟨d, e1, e⟩ := Option.bind_eq_some_iff.mp e
    refine AIt.p (fun e' F σ H L R r q => a.sF e1 e' F σ H L _ r fun v F1 H1 x1 y1 => ?_)
    obtain ⟨da, ep, kvs, vs, rfl, g, hk⟩ := ksR_ok (show Shr W F1 d v from y1) e
    exact ⟨da, ep, kvs, vs, rfl, x1.s _ _ g, q _ F1 H1 x1 (seq_rw g hk)⟩
end
end Py
namespace Py
open PySem L2
mutual
def oLn : D -> Bool
  | .olst xs => oLns xs
  | .odic _ xs => oLns xs
  | .odit _ xs => oLns xs
  | .oins _ _ xs => oLns xs
  | .tup xs => oLns xs
  | .lst xs => oLns xs
  | .dic _ xs => oLns xs
  | .dit _ xs => oLns xs
  | .ins _ _ xs => oLns xs
  | .non | .bl _ | .int _ | .str _ | .cls _ => true
  | _ => false
def oLns : List D -> Bool
  | [] => true
  | d :: ds => oLn d && oLns ds
end
theorem oLns_all : ∀ {ds : List D}, (∀ d ∈ ds, oLn d = true) -> oLns ds = true
  | [], _ => by rw [oLns]
  | d :: ds, h => by rw [oLns, h d (by simp), oLns_all fun x m => h x (List.mem_cons_of_mem _ m)]; rfl
section
variable {T : Tbl} {W : Wd T}
def Unf (F F' : Hp) : Prop := ∀ b o, F b = some o -> F' b = some o \/ ∃ od vs, o = .frz od (.lst vs)
theorem Unf.at_ {F F' : Hp} (hF : Unf F F') {b : Addr} {o : HO} (h : F b = some o) (hn : ∀ od vs, o ≠ .frz od (.lst vs)) : F' b = some o :=
  (hF b o h).elim id fun ⟨od, vs, e⟩ => absurd e (hn od vs)
theorem Unf.rd {F F' : Hp} (hF : Unf F F') {b : Addr} {u : HO} (h : Rd F b u) (hn : ∀ od vs, u ≠ .frz od (.lst vs)) (hm : ∀ vs, u ≠ .lst vs) : Rd F' b u :=
  h.elim (fun h => .inl (hF.at_ h hn)) fun ⟨o, h⟩ => .inr ⟨o, hF.at_ h fun _ vs z => by injection z with _ z; exact hm vs z⟩
mutual
theorem Shr.unf {F F' : Hp} (hF : Unf F F') : ∀ {d : D} {v : V}, Shr W F d v -> oLn d = true -> Shr W F' d v
  | _, _, .non, _ => .non
  | _, _, .bl, _ => .bl
  | _, _, .int, _ => .int
  | _, _, .str, _ => .str
  | _, _, .cls h, _ => .cls h
  | _, _, .sei h n, e => by simp [oLn] at e
  | _, _, .scr h, e => by simp [oLn] at e
  | _, _, .tup h hs, e => .tup (hF.at_ h fun _ _ z => nomatch z) (Shrs.unf hF hs (by rw [oLn] at e; exact e))
  | _, _, .lst h hs, e => .lst (hF.at_ h fun _ _ z => nomatch z) (Shrs.unf hF hs (by rw [oLn] at e; exact e))
  | _, _, .dic h l n hs, e => .dic (hF.rd h (fun _ _ z => nomatch z) fun _ z => nomatch z) l n (Shrs.unf hF hs (by rw [oLn] at e; exact e))
  | _, _, .dit h l n hs, e => .dit (hF.rd h (fun _ _ z => nomatch z) fun _ z => nomatch z) l n (Shrs.unf hF hs (by rw [oLn] at e; exact e))
  | _, _, .dig h k l hs, e => by simp [oLn] at e
  | _, _, .dlf h k l hs, e => by simp [oLn] at e
  | _, _, .xt h k hs, e => by simp [oLn] at e
  | _, _, .len h hs, e => by simp [oLn] at e
  | _, _, .ins h c l hs, e => .ins (hF.at_ h fun _ _ z => nomatch z) c l (Shrs.unf hF hs (by rw [oLn] at e; exact e))
theorem Shrs.unf {F F' : Hp} (hF : Unf F F') : ∀ {d : List D} {v : List V}, Shrs W F d v -> oLns d = true -> Shrs W F' d v
  | _, _, .nil, _ => .nil
  | _, _, .cons h t, e => by
    rw [oLns, Bool.and_eq_true] at e
    exact .cons (Shr.unf hF h e.1) (Shrs.unf hF t e.2)
end
mutual
theorem Own.unf {F F' H : Hp} (hF : Unf F F') : ∀ {d : D} {v : V} {L : List Addr}, Own W F H d v L -> oLn d = true -> Own W F' H d v L
  | _, _, _, .sh h, e => .sh (h.unf hF e)
  | _, _, _, .olst h t, e => .olst h (Owns.unf hF t (by rw [oLn] at e; exact e))
  | _, _, _, .odic h l n t, e => .odic h l n (Owns.unf hF t (by rw [oLn] at e; exact e))
  | _, _, _, .odit h l n t, e => .odit h l n (Owns.unf hF t (by rw [oLn] at e; exact e))
  | _, _, _, .odig h k l t, e => by simp [oLn] at e
  | _, _, _, .olf h k l t, e => by simp [oLn] at e
  | _, _, _, .oxt h k t, e => by simp [oLn] at e
  | _, _, _, .otup h t, e => by simp [oLn] at e
  | _, _, _, .oins h c l t, e => .oins h c l (Owns.unf hF t (by rw [oLn] at e; exact e))
theorem Owns.unf {F F' H : Hp} (hF : Unf F F') : ∀ {d : List D} {v : List V} {L : List Addr}, Owns W F H d v L -> oLns d = true -> Owns W F' H d v L
  | _, _, _, .nil, _ => .nil
  | _, _, _, .cons h t, e => by
    rw [oLns, Bool.and_eq_true] at e
    exact .cons (Own.unf hF h e.1) (Owns.unf hF t e.2)
end
theorem Rel.lendI {env : Py.Env} {e : Ent} {F H : Hp} {σ : St} {L : List Addr} {i j : Nat} {ds xs : List D} (r : Rel W e env F σ H L) (hg : env[i]? = some (some (.olst ds))) (hj : ds[j]? = some (.olst xs)) (hx : xs.all isSh = true) :
    ∃ b ws, H b = some (.lst ws) /\ F b = none /\ ∀ od, ∃ L1, Rel W ⟨upd F b (.frz od (.lst ws)), upd H b (.frz od (.lst ws)), L1, []⟩ (env.set i (some (.olst (ds.set j (.len xs))))) (upd F b (.frz od (.lst ws))) σ (upd H b (.frz od (.lst ws))) L1 := by
  obtain ⟨v, Li, Lr, e1, o, sl, nd, m⟩ := r.slots.take r.nd hg
  have hi : i < env.length := (List.getElem?_eq_some_iff.mp hg).1
  cases o with
  | sh y => cases y
  | @olst a _ vs M ha hs =>
    obtain ⟨w, Lk, Lo, h1, h2, h3, h4, h5⟩ := owns_split hs hj
    cases h2 with
    | sh y => cases y
    | @olst b _ ws M2 hb hs2 =>
      have hS : Shrs W F xs ws := hs2.shrs hx
      have hbM : b ∈ M := (h3 b).mp (.inl (List.mem_cons_self ..))
      have hF : F b = none := r.dj b ((m b).mp (.inl (List.mem_cons_of_mem _ hbM)))
      obtain ⟨n1, n2, n3⟩ := List.nodup_append.mp nd
      have n1' := List.nodup_cons.mp n1
      have hab : a ≠ b := fun z => n1'.1 (by rw [z]; exact hbM)
      have nk := List.nodup_append.mp (h4 n1'.2)
      have hbLo : ∀ c ∈ Lo, c ≠ b := fun c hc z => nk.2.2 b (List.mem_cons_self ..) c hc z.symm
      have hbLr : ∀ c ∈ Lr, c ≠ b := fun c hc z => n3 b (List.mem_cons_of_mem _ hbM) c hc z.symm
      refine ⟨b, ws, hb, hF, fun od => ?_⟩
      have same : Same F (upd F b (.frz od (.lst ws))) := fun c o h => by rw [upd_ne (fun z => by rw [z, hF] at h; cases h)]; exact h
      obtain ⟨LL, q1, q2, q3⟩ := h5 (upd F b (.frz od (.lst ws))) (upd H b (.frz od (.lst ws))) (.len xs) [] same (fun c hc o ho => by rw [upd_ne (hbLo c hc)]; exact ho) (.sh (.len upd_same (hS.mono same)))
      have q2' : ∀ c ∈ LL, c ∈ Lo := fun c hc => ((q2 c).mp hc).elim (fun z => nomatch z) id
      have loM : ∀ c ∈ Lo, c ∈ M := fun c hc => (h3 c).mp (.inr hc)
      have oA : Own W (upd F b (.frz od (.lst ws))) (upd H b (.frz od (.lst ws))) (.olst (ds.set j (.len xs))) (.ref a) (a :: LL) := .olst (by rw [upd_ne hab]; exact ha) q1
      have sl' : Slots W (upd F b (.frz od (.lst ws))) (upd H b (.frz od (.lst ws))) (env.set i none) σ Lr := sl.frame same fun c hc o ho => by rw [upd_ne (hbLr c hc)]; exact ho
      obtain ⟨L1, s1, nd1, m1⟩ := sl'.put (i := i) oA (by
        rw [List.nodup_append]
        refine ⟨List.nodup_cons.mpr ⟨fun z => n1'.1 (loM _ (q2' _ z)), q3 (by simpa using nk.2.1)⟩, n2, fun c hc d hd => ?_⟩
        rcases List.mem_cons.mp hc with rfl | hc
        · exact n3 _ (List.mem_cons_self ..) d hd
        · exact n3 c (List.mem_cons_of_mem _ (loM _ (q2' _ hc))) d hd) (by rw [List.length_set]; exact hi)
      have es : σ.set i (some (.ref a)) = σ := by
        apply List.ext_getElem?
        intro k
        rw [List.getElem?_set]
        by_cases h : i = k
        · subst h
          rw [if_pos rfl, e1, if_pos (List.getElem?_eq_some_iff.mp e1).1]
        · rw [if_neg h]
      rw [es, List.set_set] at s1
      refine ⟨L1, ⟨fun c o h => ?_, s1, nd1, fun c hc => ?_, Same.refl _, fun _ _ h => .inl h, fun _ _ _ h => h, fun _ h => .inl h, fun p hp => nomatch hp⟩⟩
      · by_cases z : c = b
        · subst z; rw [upd_same] at h ⊢; exact h
        · rw [upd_ne z] at h ⊢; exact r.sF _ _ h
      · rcases m1 c hc with hc | hc
        · rcases List.mem_cons.mp hc with rfl | hc
          · rw [upd_ne hab]; exact r.dj _ ((m _).mp (.inl (List.mem_cons_self ..)))
          · rw [upd_ne (hbLo c (q2' _ hc))]; exact r.dj _ ((m _).mp (.inl (List.mem_cons_of_mem _ (loM _ (q2' _ hc)))))
        · rw [upd_ne (hbLr c hc)]; exact r.dj _ ((m _).mp (.inr hc))
theorem unlendI {F H F' H' : Hp} {b : Addr} {ws : List V} {od : Obj} {d : D} {v : V} (s : Same F H) (hb : H b = some (.lst ws)) (hF : F b = none) (x : Ext (upd F b (.frz od (.lst ws))) (upd H b (.frz od (.lst ws))) F' H') (y : rO W d F' H' (upd H b (.frz od (.lst ws))) v) (hn : oLn d = true) :
    H' b = some (.frz od (.lst ws)) /\ ∃ F'', Ext F H F'' (upd H' b (.lst ws)) /\ rO W d F'' (upd H' b (.lst ws)) H v := by
  have hF' : F' b = some (.frz od (.lst ws)) := x.f _ _ upd_same
  have off_ne : ∀ {c}, c ≠ b -> offA b F F' c = F' c := fun {c} e => if_neg e
  have off_eq : offA b F F' b = none := by rw [<- hF]; exact if_pos rfl
  refine ⟨x.s _ _ hF', offA b F F', ⟨fun c o h => ?_, fun c o h => ?_, fun c o h => ?_, fun c o h => ?_⟩, ?_⟩
  · have z : c ≠ b := fun z => by rw [z, hF] at h; cases h
    rw [off_ne z]; exact x.f _ _ (by rw [upd_ne z]; exact h)
  · have z : c ≠ b := fun z => by rw [z, off_eq] at h; cases h
    rw [off_ne z] at h; rw [upd_ne z]; exact x.s _ _ h
  · by_cases z : c = b
    · subst z; rw [hb] at h; cases h; exact upd_same
    · rw [upd_ne z]; exact x.h _ _ (by rw [upd_ne z]; exact h)
  · have z : c ≠ b := fun z => by rw [z, off_eq] at h; cases h
    rw [off_ne z] at h
    rcases x.n c o h with q | q
    · rw [upd_ne z] at q; exact .inl q
    · rw [upd_ne z] at q; exact .inr q
  · obtain ⟨M, o, nd, k⟩ := y
    have nb : ∀ c ∈ M, c ≠ b := fun c hc z => by have := (k c hc).2; rw [z, hF'] at this; cases this
    refine ⟨M, (o.unf (F' := offA b F F') (fun c o h => ?_) hn).frame (Same.refl _) (fun c hc o h => by rw [upd_ne (nb c hc)]; exact h), nd, fun c hc => ?_⟩
    · by_cases z : c = b
      · subst z; rw [hF'] at h; exact .inr ⟨od, ws, (Option.some.inj h).symm⟩
      · rw [off_ne z]; exact .inl h
    · have := k c hc
      rw [upd_ne (nb c hc)] at this
      rw [off_ne (nb c hc)]; exact this
def olA (o : Option D) (j : Nat) : Option (List D × List D) := match o with
  | some (.olst ds) => match ds[j]? with
    | some (.olst xs) => if xs.all isSh = true then some (ds, xs) else none
    | _ => none
  | _ => none
theorem olA_ok {o : Option D} {j : Nat} {p : List D × List D} (h : olA o j = some p) : o = some (.olst p.1) /\ p.1[j]? = some (.olst p.2) /\ p.2.all isSh = true := by
  unfold olA at h
  split at h
  · split at h
    · rename_i e
      obtain ⟨h1, rfl⟩ := ite_some h
      exact ⟨rfl, e, h1⟩
    · cases h
  · cases h
def frL : Option (Kd × D) -> Option (Kd × D)
  | some (.fr, d) => if oLn d = true then some (.fr, d) else none
  | _ => none
theorem frL_ok {o : Option (Kd × D)} {k : Kd} {d : D} (h : frL o = some (k, d)) : o = some (.fr, d) /\ oLn d = true /\ k = .fr := by
  unfold frL at h
  split at h
  · obtain ⟨h1, h⟩ := ite_some h
    cases h
    exact ⟨rfl, h1, rfl⟩
  · cases h
def xpLendI (i j : Nat) (x : XP W) : XP W where
  t := tLockE x.t
  ev env := (olA (getS env i) j).bind fun p => frL (x.ev (env.set i (some (.olst (p.1.set j (.len p.2))))))
  snd := fun {env k d} e => by
    obtain ⟨⟨ds, xs⟩, e1, e⟩ := Option.bind_eq_some_iff.mp e
    obtain ⟨e2, hn, rfl⟩ := frL_ok e
    obtain ⟨h1, h2, h3⟩ := olA_ok e1
    intro e' F σ H L Q r q
    obtain ⟨b, ws, hb, hF, h⟩ := r.lendI (getS_some h1) h2 h3
    refine ⟨b, _, hb, trivial, fun od => ?_⟩
    obtain ⟨L1, r1⟩ := h od
    refine x.snd e2 _ _ σ _ L1 _ r1 fun v F' H' x1 y => ?_
    obtain ⟨g1, F'', x2, y2⟩ := unlendI r.sF hb hF x1 y hn
    exact ⟨g1, q v F'' _ x2 y2⟩
theorem e_xpLendI {i j : Nat} {x : XP W} {env : Py.Env} : (xpLendI i j x).ev env = (olA (getS env i) j).bind fun p => frL (x.ev (env.set i (some (.olst (p.1.set j (.len p.2)))))) := rfl
theorem h_seq_len {xs : List D} : seqOf (.len xs) = some (false, xs) := rfl
theorem h_sF_len {xs : List D} : seqF (.len xs) = some xs := rfl
theorem h_lenF {ds : List D} : lenD [.len ds] = some (.int ds.length) := rfl
theorem h_lenI_len {φ : Sem} {xs : List D} : lenI1 T φ [.len xs] = lenD [.len xs] := rfl
def lst2O : Option (Kd × D) -> Option (Kd × D) -> Option (Kd × D)
  | some (.fr, x), some (.fr, y) => some (.fr, .olst [x, y])
  | _, _ => none
theorem lst2O_ok {o u : Option (Kd × D)} {k : Kd} {d : D} (h : lst2O o u = some (k, d)) : ∃ x y, o = some (.fr, x) /\ u = some (.fr, y) /\ k = .fr /\ d = .olst [x, y] := by
  unfold lst2O at h
  split at h
  · cases h; exact ⟨_, _, rfl, rfl, rfl, rfl⟩
  · cases h
def xLst2O (a b : XP W) : XP W where
  t := tLst (tCons a.t (tCons b.t tNil))
  ev env := lst2O (a.ev env) (b.ev env)
  snd := fun {env k d} e => by
    obtain ⟨x, y, ea, eb, rfl, rfl⟩ := lst2O_ok e
    intro e' F σ H L Q r q
    refine a.snd ea e' F σ H L _ r fun v F1 H1 x1 ⟨M1, o1, n1, k1⟩ => b.snd eb e' F1 σ H1 L _ (r.ext x1) fun w F2 H2 x2 ⟨M2, o2, n2, k2⟩ => ⟨by show 2 <= sizeLine; decide, fun p hp => ?_⟩
    have l1 := o1.lives
    have l2 := o2.lives
    have d1 : ∀ c ∈ M1, c ≠ p := fun c hc z => by
      obtain ⟨o, h⟩ := l1 c hc
      have := x2.h _ _ h
      rw [z, hp] at this; cases this
    have d2 : ∀ c ∈ M2, c ≠ p := fun c hc z => by
      obtain ⟨o, h⟩ := l2 c hc
      rw [z, hp] at h; cases h
    have d3 : ∀ c ∈ M1, c ∉ M2 := fun c hc z => by
      obtain ⟨o, h⟩ := l1 c hc
      have := (k2 c z).1
      rw [h] at this; cases this
    refine q _ _ _ ((x1.trans x2).trans (.newH (o := .lst [v, w]) x2.s hp)) ⟨p :: (M1 ++ (M2 ++ [])), .olst upd_same (.cons (o1.frame x2.f fun c hc o h => by rw [upd_ne (d1 c hc)]; exact x2.h _ _ h) (.cons (o2.frame (Same.refl _) fun c hc o h => by rw [upd_ne (d2 c hc)]; exact h) .nil)), ?_, fun c hc => ?_⟩
    · rw [List.append_nil, List.nodup_cons, List.nodup_append]
      refine ⟨fun z => ?_, n1, n2, fun c hc c2 hc2 z => d3 c hc (by rw [z]; exact hc2)⟩
      rcases List.mem_append.mp z with z | z
      · exact d1 p z rfl
      · exact d2 p z rfl
    · rw [List.append_nil] at hc
      rcases List.mem_cons.mp hc with rfl | hc
      · exact ⟨(x1.trans x2).h.free hp, x2.s.free hp⟩
      · rcases List.mem_append.mp hc with hc | hc
        · refine ⟨(k1 c hc).1, ?_⟩
          cases z : F2 c with
          | none => rfl
          | some o =>
            rcases x2.n c o z with q | q
            · rw [(k1 c hc).2] at q; cases q
            · obtain ⟨o', h⟩ := l1 c hc
              rw [q] at h; cases h
        · exact ⟨x1.h.free (k2 c hc).1, (k2 c hc).2⟩
theorem e_xLst2O {a b : XP W} {env : Py.Env} : (xLst2O a b).ev env = lst2O (a.ev env) (b.ev env) := rfl
theorem h_lst2O {x y : D} : lst2O (some (.fr, x)) (some (.fr, y)) = some (.fr, .olst [x, y]) := rfl
theorem h_olA0 {xs : List D} {ds : List D} : olA (some (.olst (.olst xs :: ds))) 0 = if xs.all isSh = true then some (.olst xs :: ds, xs) else none := rfl
theorem h_olA1 {xs : List D} {d : D} {ds : List D} : olA (some (.olst (d :: .olst xs :: ds))) 1 = if xs.all isSh = true then some (d :: .olst xs :: ds, xs) else none := rfl
theorem h_frLif {d : D} : frL (some (.fr, d)) = if oLn d = true then some (.fr, d) else none := rfl
end
end Py
namespace Py
open PySem L2
theorem forL_gen {f : D -> Py.Env -> RS} {r : RS} : ∀ {ds : List D} {env : Py.Env} (I : Nat -> Py.Env -> Prop), forL f ds env = r -> I 0 env -> (∀ i d e, ds[i]? = some d -> I i e -> ∃ e', (f d e = .nx e' \/ f d e = .ct e') /\ I (i + 1) e') -> ∃ e', r = .nx e' /\ I ds.length e'
  | [], env, I, h, h0, _ => ⟨env, h.symm, h0⟩
  | d :: ds, env, I, h, h0, hs => by
    obtain ⟨e', h1, h2⟩ := hs 0 d env rfl h0
    have h : (match f d env with | .nx e => forL f ds e | .ct e => forL f ds e | .bk e => .nx e | r => r) = r := h
    have h3 : forL f ds e' = r := by rcases h1 with h1 | h1 <;> (rw [h1] at h; exact h)
    exact forL_gen (fun i e => I (i + 1) e) h3 h2 fun i d e hd hi => hs (i + 1) d e (by simpa using hd) hi
theorem whileN_gen {c : Py.Env -> Option Bool} {f : Py.Env -> RS} {r : RS} (I : Nat -> Py.Env -> Prop) (hs : ∀ m e, I m e -> (c e = some false) \/ ∃ m' e', m' < m /\ c e = some true /\ (f e = .nx e' \/ f e = .ct e') /\ I m' e') :
    ∀ {n m : Nat} {env : Py.Env}, m < n -> whileN c f n env = r -> I m env -> ∃ e' m', r = .nx e' /\ I m' e' /\ c e' = some false
  | 0, _, _, h, _, _ => absurd h (Nat.not_lt_zero _)
  | n + 1, m, env, hm, h, hi => by
    unfold whileN at h
    rcases hs m env hi with h1 | ⟨m', e', h1, h2, h3, h4⟩
    · rw [h1] at h
      exact ⟨env, m, h.symm, hi, h1⟩
    · rw [h2] at h
      have h5 : whileN c f n e' = r := by rcases h3 with h3 | h3 <;> (rw [h3] at h; exact h)
      exact whileN_gen I hs (by omega) h5 h4
theorem atI_map {α β : Type} (f : α -> β) (xs : List α) (i : Int) : atI (xs.map f) i = (atI xs i).map f := by
  unfold atI
  rw [List.length_map]
  cases ixN xs.length i with
  | none => rfl
  | some j => show (xs.map f)[j]? = _; rw [List.getElem?_map]; rfl
theorem atI_of {α : Type} {xs : List α} {j : Nat} {x : α} (h : xs[j]? = some x) : atI xs (j : Int) = some x := by rw [atI_litN, h]
theorem atI_get {α : Type} {xs : List α} {i : Int} (h0 : 0 <= i) (h : i < xs.length) : ∃ x, atI xs i = some x /\ xs[i.toNat]? = some x := by
  obtain ⟨j, rfl⟩ := Int.eq_ofNat_of_zero_le h0
  have : xs[j]? = some (xs[j]'(by omega)) := List.getElem?_eq_getElem (by omega)
  exact ⟨_, atI_of this, this⟩
theorem sh_map {α : Type} {enc : α -> D} (h : ∀ a, isSh (enc a) = true) (xs : List α) : (xs.map enc).all isSh = true := by
  rw [List.all_eq_true]
  intro d hd
  obtain ⟨a, _, rfl⟩ := List.mem_map.mp hd
  exact h a
theorem fzs_map {α : Type} {enc : α -> D} (h : ∀ a, isSh (enc a) = true) (xs : List α) : fzs (xs.map enc) = xs.map enc := by
  rw [fzs_eq, List.map_map]
  exact List.map_congr_left fun a _ => fz_isSh (h a)
theorem okDs_map {α : Type} {enc : α -> D} {n : Nat} (h : ∀ a, okD n (enc a) = true) (xs : List α) : okDs n (xs.map enc) = true := by
  rw [okDs_all, List.all_eq_true]
  intro d hd
  obtain ⟨a, _, rfl⟩ := List.mem_map.mp hd
  exact h a
theorem eqBs_map {α : Type} [DecidableEq α] {enc : α -> D} (h : ∀ a b, eqB (enc a) (enc b) = decide (a = b)) : ∀ xs ys : List α, eqBs (xs.map enc) (ys.map enc) = decide (xs = ys)
  | [], [] => by rw [List.map_nil, eqBs]; rfl
  | [], y :: ys => by rw [List.map_nil, List.map_cons, h_eqBs_nc]; rfl
  | x :: xs, [] => by rw [List.map_nil, List.map_cons, h_eqBs_cn]; rfl
  | x :: xs, y :: ys => by
    rw [List.map_cons, List.map_cons, eqBs, h, eqBs_map h xs ys]
    by_cases h1 : x = y <;> by_cases h2 : xs = ys <;> simp [h1, h2]
theorem lcL_map {α : Type} {enc : α -> D} {f : D -> Option (List D)} {g : α -> List D} (xs : List α) (h : ∀ a ∈ xs, f (enc a) = some (g a)) : lcL f (xs.map enc) = some (xs.flatMap g) := by
  induction xs with
  | nil => rfl
  | cons x xs ih =>
    show (f (enc x)).bind _ = _
    rw [h x (List.mem_cons_self ..), Option.bind_some, ih fun a m => h a (List.mem_cons_of_mem _ m)]
    rfl
theorem flatMap_one {α β : Type} (f : α -> β) (xs : List α) : (xs.flatMap fun a => [f a]) = xs.map f := by
  induction xs with
  | nil => rfl
  | cons x xs ih => rw [List.flatMap_cons, ih]; rfl
theorem lcL_mapE {α β : Type} {enc : α -> D} {enc2 : β -> D} {f : D -> Option (List D)} (g : α -> β) (xs : List α) (h : ∀ a ∈ xs, f (enc a) = some [enc2 (g a)]) : lcL f (xs.map enc) = some ((xs.map g).map enc2) := by
  rw [lcL_map (g := fun a => [enc2 (g a)]) xs h, flatMap_one, List.map_map]; rfl
end Py
namespace Py
open PySem L2
local macro_rules | `(tactic| walk_at "ev") => `(tactic| try simp (maxSteps := 1000000) (disch := first | omega | decide) only [e_xsSeq, e_xsNext, e_xsNever, e_xsAsg, e_xsAsgG, e_xsExpr, e_xsRet, e_xsIf, e_xsFrz, e_xmP, e_xVar_V, e_xtV, e_xtTru, e_xtAnd, e_xtOr, e_xtNot, e_xtYes, e_xVar, e_xInt, e_xBl, e_xNon, e_xStr, e_xSub, e_xMul, e_xDiv, e_xMod, e_xPow, e_xNeg, e_xAdd, e_xEq, e_xNe, e_xLt, e_xGt, e_xGe, e_xIsN, e_xAnd, e_xOr, e_xNot, e_xTup, e_xLst, e_xInt1, e_xAbs, e_xIx, e_xFld, e_xList, e_xTuple, e_xIsi, e_xCall, e_xLc, e_xSorted, e_xmVar, e_xmMove, e_xmAppend, e_xmInsert, e_xmPop, e_xoNil, e_xoCons, e_plVar, r_plVar, r_plFld, r_plIx, e_plFld, e_plIx, e_xaNilV, e_xaNilF, e_xaConsV, e_xaConsF, e_xgN, e_xgsNil, e_xgsCons, e_xgT, o_xgN, o_xgT, o_xgsNil, o_xgsCons, e_xiSeqF, e_xiSeqP, e_xiR1F, e_xiR1P, e_xsFor, e_xsWhile, e_xsAug, e_evV, e_evK, e_evF, e_evO, e_evB, h_getS0, h_getS0n, h_getSs, h_toV, h_toVn, h_toKf, h_toKp, h_toKv, h_toKn, h_toFf, h_toFp, h_toFv, h_toFn, h_toOf, h_toOp, h_toOv, h_toOn, h_of_f, h_of_p, h_of_v, h_then_nx, h_then_rt, h_then_bk, h_then_ct, h_then_ex, h_then_no, h_thenS_ok, h_thenS_exn, h_thenS_no, h_ofO, h_ofOn, h_of, h_ofn, h_mofO, h_mofOn, h_iteF1, h_iteF0, h_iteFn, h_asgK, h_asgGK, h_forK, h_andF1, h_andF0, h_orF1, h_orF0, h_blD, h_turn, h_turnn, h_forE, h_forEn, h_callF, h_callV, h_rzF, h_rzV, h_fz_non, h_sh_non, h_fl_non, h_isN_non, h_fz_bl, h_sh_bl, h_fl_bl, h_fz_int, h_sh_int, h_fl_int, h_isN_int, h_fz_str, h_sh_str, h_fl_str, h_isN_str, h_fz_cls, h_sh_cls, h_fl_cls, h_isN_cls, h_fz_sei, h_sh_sei, h_fl_sei, h_isN_sei, h_fz_scr, h_sh_scr, h_fl_scr, h_isN_scr, h_fz_tup, h_sh_tup, h_fl_tup, h_isN_tup, h_fz_lst, h_sh_lst, h_fl_lst, h_isN_lst, h_fz_dic, h_sh_dic, h_fl_dic, h_isN_dic, h_fz_dit, h_sh_dit, h_fl_dit, h_isN_dit, h_fz_dig, h_sh_dig, h_fl_dig, h_isN_dig, h_fz_dlf, h_sh_dlf, h_fl_dlf, h_isN_dlf, h_fz_xt, h_sh_xt, h_fl_xt, h_isN_xt, h_fz_len, h_sh_len, h_fl_len, h_isN_len, h_fz_ins, h_sh_ins, h_fl_ins, h_isN_ins, h_isN_bl, h_fz_olst, h_sh_olst, h_fl_olst, h_fz_odic, h_sh_odic, h_fl_odic, h_fz_odit, h_sh_odit, h_fl_odit, h_fz_odig, h_sh_odig, h_fl_odig, h_fz_olf, h_sh_olf, h_fl_olf, h_fz_oxt, h_sh_oxt, h_fl_oxt, h_fz_otup, h_sh_otup, h_fl_otup, h_fz_oins, h_sh_oins, h_fl_oins, h_fzs_nil, h_fzs_cons, h_fzs_app, h_tru_bl, h_tru_non, h_tru_int, h_tru_lst, h_tru_tup, h_sub, h_neg, h_addI, h_addT, h_addL, h_addLo, h_addoL, h_addoo, h_eqD, h_neD, h_ok_non, h_ok_bl, h_ok_int, h_ok_str, h_ok_tup, h_ok_lst, h_oks_nil, h_oks_cons, h_eqB_ii, h_eqB_ss, h_eqB_bb, h_eqB_nn, h_eqB_ni, h_eqB_in, h_eqB_nt, h_eqB_tn, h_eqB_tt, h_eqB_ll, h_eqBs_nn, h_eqBs_cc, h_eqBs_nc, h_eqBs_cn, h_cmp, h_ltI, h_ltT, h_ints_nil, h_ints_cons, h_intI, h_intB, h_abs, h_lenL, h_lenT, h_lenS, h_ix, h_it_lst, h_it_olst, h_it_tup, h_it_scr, h_at0, h_at1, h_at2, h_at3, h_at4, h_at5, h_at6, h_at7, h_at8, h_at9, h_at10, h_at11, h_at12, h_atm1, h_seq_lst, h_seq_tup, h_seq_olst, h_seq_scr, h_sF_lst, h_sF_tup, h_sF_scr, h_ty_non, h_ty_bl, h_ty_int, h_ty_str, h_ty_lst, h_ty_tup, h_ty_ins, h_isi_bb, h_isi_bo, h_isi_ob, h_isi_oo, h_isiB_NoneType_bool, h_isiB_NoneType_int, h_isiB_NoneType_str, h_isiB_NoneType_list, h_isiB_NoneType_tuple, h_isiB_NoneType_dict, h_isiB_bool_bool, h_isiB_bool_int, h_isiB_bool_str, h_isiB_bool_list, h_isiB_bool_tuple, h_isiB_bool_dict, h_isiB_int_bool, h_isiB_int_int, h_isiB_int_str, h_isiB_int_list, h_isiB_int_tuple, h_isiB_int_dict, h_isiB_str_bool, h_isiB_str_int, h_isiB_str_str, h_isiB_str_list, h_isiB_str_tuple, h_isiB_str_dict, h_isiB_list_bool, h_isiB_list_int, h_isiB_list_str, h_isiB_list_list, h_isiB_list_tuple, h_isiB_list_dict, h_isiB_tuple_bool, h_isiB_tuple_int, h_isiB_tuple_str, h_isiB_tuple_list, h_isiB_tuple_tuple, h_isiB_tuple_dict, h_isiB_dict_bool, h_isiB_dict_int, h_isiB_dict_str, h_isiB_dict_list, h_isiB_dict_tuple, h_isiB_dict_dict, h_append, h_pop, h_insert, h_put0, h_rng1, h_guard1, h_guard0, h_forLn, h_forLc, h_forT_nx, h_forT_ct, h_forT_bk, h_forT_rt, h_forT_ex, h_lc1, h_lcK, h_lcJ1, h_lcJ0, h_wipe0, h_wipes, h_frz, h_frzO, h_frzOn, h_runR_rt, h_runR_nx, h_retZ, h_bGetn, h_bGets, h_setS, h_ipD, h_fldI, h_fldO, h_sfld, h_six, h_iteFd1, h_iteFd0, h_iteFe1, h_iteFe0, h_andFd1, h_andFd0, h_andFe1, h_andFe0, h_orFd1, h_orFd0, h_orFe1, h_orFe0, h_lcJd1, h_lcJd0, h_lcJe1, h_lcJe0, h_eMeth, h_methF, h_methV, h_methW, h_meth1, h_meth2, h_resE, h_resEn, h_posn, h_posc, h_eMmeth, h_methM1, h_methM0, h_rm0o, h_rm0x, h_rm0n, h_rm1o, h_rm1x, h_putc, h_putE, h_subF, h_subI, h_putF, h_putI, h_setOs, h_eSfld, h_fldK, h_setFD, h_setFn, h_setFc, h_eMake, h_makeF, h_makeV, h_mk1, h_mkR, h_eLenU, h_lenI_lst, h_lenI_tup, h_lenI_scr, h_lenI_ins, h_lenQ, h_lenR, h_eSortR, h_RTthen_ok, h_RTthenS_ok, h_RTthen_exn, h_RTthenS_exn, h_RTof, h_it_ins, h_lo_lst, h_lo_olst, h_seqFI_lst, h_seqFI_tup, h_seqFI_scr, h_seqFI_ins, h_ixD_ins, h_okD_ins, h_eqD_ins, h_addD_ins, h_addD_oins, h_eMakeN, h_makeNE_F, h_makeNE_V, h_makeNE_W, h_mkN, h_mgM_t, h_mgM_f, h_mgM_n, h_eDnew, h_eDget2, h_getE_non, h_getE_int, h_getE_str, h_getM_s, h_getM_n, h_eDin, h_inK_non, h_inK_int, h_inK_str, h_dicOf_d, h_dicOf_o, h_dputI, h_dputS, h_eDc, h_guardB_t, h_dc1, h_dcK, h_dcJ1, h_dcJ0, h_keyD_i, h_keyD_s, h_eDapp, h_dappI, h_dcL_n, h_putP_n, h_ePar, h_par2, h_qevO, h_qevB, h_qevF, h_toQf, h_toQp, h_toQv, h_toQn, h_runR_ex, h_retX, h_thenY1, h_thenY2, h_thenY3, h_look1, h_look2, h_div, h_mod, h_mulL, h_mulR, h_rngOk, List.zip_cons_cons, List.zip_nil_left, if_pos, if_neg, List.getElem?_cons_zero, List.getElem?_cons_succ, List.getElem?_nil, List.getLast?_append, List.getLast?_singleton, List.getLast?_cons_cons, runFn, env0, Option.toList, List.map_cons, List.map_nil, List.length_cons, List.length_nil, List.length_append, List.length_map, List.length_set, List.replicate, List.cons_append, List.nil_append, List.append_nil, Nat.reduceSub, Nat.reduceAdd, Nat.reduceLT, Nat.reduceLeDiff, Nat.reduceEqDiff, Nat.zero_add, Nat.add_zero, List.set_cons_zero, List.set_cons_succ, List.set_nil, Option.bind_some, Option.bind_none, Option.map_some, Option.map_none, List.foldl_cons, List.foldl_nil, not_false_eq_true, not_true_eq_false, and_true, true_and, and_self, and_false, false_and, if_true, if_false, ite_true, ite_false, reduceIte, List.not_mem_nil, reduceCtorEq, List.mem_cons, or_false, false_or, or_self, ne_eq, Bool.not_true, Bool.not_false, Bool.and_true, Bool.and_false, Bool.true_and, Bool.false_and, Bool.or_true, Bool.or_false, Bool.true_or, Bool.false_or, Bool.and_self, Bool.or_self, List.all_cons, List.all_nil, decide_true, decide_false, decide_not, decide_eq_true_eq, decide_eq_false_iff_not, Bool.not_not, Int.reduceLT, Int.reduceLE, Int.reduceEq, Int.reduceNe, Int.reduceAdd, Int.reduceMul, Int.reduceSub, Int.reduceNeg, List.isEmpty_cons, List.isEmpty_nil, Bool.false_eq_true, Bool.true_eq_false, String.reduceEq, Function.comp_apply, Option.isNone_none, Option.some_or, Option.isNone_some, List.getLast?_concat, List.dropLast_concat, List.all_append])
abbrev Pr := Int × Int
def eR (p : Pr) : D := .tup [.int p.1, .int p.2]
def oR : Option Pr -> D
  | none => .non
  | some p => eR p
def ltR (p q : Pr) : Bool := HT.lexLt [p.1, p.2] [q.1, q.2]
def dR (p : Pr) : PyData := .tuple [.int p.1, .int p.2]
theorem sh_eR (p : Pr) : isSh (eR p) = true := rfl
theorem fz_eR (p : Pr) : fz (eR p) = eR p := fz_isSh rfl
theorem fl_eR (p : Pr) : isFlat (eR p) = false := rfl
theorem sh_oR (o : Option Pr) : isSh (oR o) = true := by cases o <;> rfl
theorem fz_oR (o : Option Pr) : fz (oR o) = oR o := fz_isSh (sh_oR o)
theorem ok_eR (n : Nat) (p : Pr) : okD (n + 1) (eR p) = true := by unfold eR; walk_at "ev"
theorem ok_oR (n : Nat) (o : Option Pr) : okD (n + 1) (oR o) = true := by cases o with
  | none => unfold oR; walk_at "ev"
  | some p => exact ok_eR n p
theorem eq_eR (p q : Pr) : eqB (eR p) (eR q) = decide (p = q) := by
  unfold eR; walk_at "ev"; rw [Bool.eq_iff_iff]; simp [Prod.ext_iff]
theorem eq_eRn (p : Pr) : eqB (eR p) .non = false := by unfold eR; walk_at "ev"
theorem eq_neR (p : Pr) : eqB .non (eR p) = false := by unfold eR; walk_at "ev"
theorem eq_oR (p q : Option Pr) : eqB (oR p) (oR q) = decide (p = q) := by
  cases p <;> cases q <;> (unfold oR)
  · walk_at "ev"
  · rw [eq_neR]; simp
  · rw [eq_eRn]; simp
  · rw [eq_eR]; simp
theorem isN_eR (p : Pr) : isNon (eR p) = false := rfl
theorem isN_oR (o : Option Pr) : isNon (oR o) = o.isNone := by cases o <;> rfl
theorem ty_eR (p : Pr) : tyD (eR p) = some (false, "tuple") := rfl
theorem len_eR (p : Pr) : lenD [eR p] = some (.int 2) := rfl
theorem sF_eR (p : Pr) : seqF (eR p) = some [.int p.1, .int p.2] := rfl
theorem it_eR (p : Pr) : itemsD (eR p) = some [.int p.1, .int p.2] := rfl
theorem lt_eR (p q : Pr) : ltD (eR p) (eR q) = some (.bl (ltR p q)) := by unfold eR ltR; walk_at "ev"
theorem okl_eR (n : Nat) (ps : List Pr) : okDs (n + 1) (ps.map eR) = true := okDs_map (ok_eR n) ps
theorem eql_eR (ps qs : List Pr) : eqBs (ps.map eR) (qs.map eR) = decide (ps = qs) := eqBs_map eq_eR ps qs
theorem shl_eR (ps : List Pr) : (ps.map eR).all isSh = true := sh_map sh_eR ps
theorem fzl_eR (ps : List Pr) : fzs (ps.map eR) = ps.map eR := fzs_map sh_eR ps
theorem pd_eR (p : Pr) : pd (eR p) = some (dR p) := by unfold eR dR; simp [pd, pds]
theorem sortOk_dR (ps : List Pr) : sortOk (ps.map dR) = true := by
  unfold sortOk
  simp only [Bool.and_eq_true, List.all_eq_true, Bool.or_eq_true]
  refine ⟨⟨?_, .inl ?_⟩, ?_⟩
  · intro a ha b hb
    obtain ⟨x, _, rfl⟩ := List.mem_map.mp ha
    obtain ⟨y, _, rfl⟩ := List.mem_map.mp hb
    simp [dR, PySem.W.alike, PySem.W.alikeAll]
  · intro a ha
    obtain ⟨x, _, rfl⟩ := List.mem_map.mp ha
    rfl
  · intro a ha
    obtain ⟨x, _, rfl⟩ := List.mem_map.mp ha
    simp [dR, PyData.depth, PyData.depthAll]
theorem ltR_iff (p q : Pr) : ltR p q = true ↔ p.1 < q.1 \/ p.1 = q.1 /\ p.2 < q.2 := by
  unfold ltR
  rw [HT.lexLt_cons, HT.lexLt_cons, HT.lexLt_nil_nil]
  by_cases h : p.1 = q.1 <;> by_cases h2 : p.2 = q.2 <;> simp [h, h2]
def leR (p q : Pr) : Bool := !ltR q p
theorem le_dR : PySem.W.dataLe false dR = leR := by
  funext p q
  rw [PySem.W.dataLe_eq]
  show (!PySem.W.dataLt (dR q) (dR p)) = _
  unfold dR leR
  rw [PySem.W.dataLt_ii, Bool.eq_iff_iff]
  simp [<- ltR_iff]
theorem leR_iff (p q : Pr) : leR p q = true ↔ p.1 < q.1 \/ p.1 = q.1 /\ p.2 <= q.2 := by
  unfold leR
  rw [Bool.not_eq_true', <- Bool.not_eq_true, ltR_iff]
  omega
theorem leR_trans {p q r : Pr} (h1 : leR p q = true) (h2 : leR q r = true) : leR p r = true := by rw [leR_iff] at *; omega
theorem leR_total (p q : Pr) : (leR p q || leR q p) = true := by rw [Bool.or_eq_true, leR_iff, leR_iff]; omega
theorem leR_anti {p q : Pr} (h1 : leR p q = true) (h2 : leR q p = true) : p = q := by rw [leR_iff] at *; ext <;> omega
theorem leR_refl (p : Pr) : leR p p = true := by rw [leR_iff]; omega
abbrev AscR (ps : List Pr) : Prop := ps.Pairwise fun p q => leR p q = true
def srtR (ps : List Pr) : List Pr := ps.mergeSort leR
theorem srtR_perm (ps : List Pr) : (srtR ps).Perm ps := List.mergeSort_perm _ _
theorem srtR_len (ps : List Pr) : (srtR ps).length = ps.length := (srtR_perm ps).length_eq
theorem srtR_asc (ps : List Pr) : AscR (srtR ps) := List.pairwise_mergeSort (le := leR) (fun a b c => leR_trans) leR_total ps
theorem asc_unique : ∀ {ps qs : List Pr}, AscR ps -> AscR qs -> ps.Perm qs -> ps = qs
  | [], qs, _, _, h => (h.symm.eq_nil).symm
  | p :: ps, [], _, _, h => absurd h.eq_nil (by simp)
  | p :: ps, q :: qs, h1, h2, h => by
    rw [AscR, List.pairwise_cons] at h1 h2
    have e : p = q := by
      rcases List.mem_cons.mp (h.subset (List.mem_cons_self ..)) with e | m
      · exact e
      · rcases List.mem_cons.mp (h.symm.subset (List.mem_cons_self ..)) with e | m2
        · exact e.symm
        · exact leR_anti (h1.1 q m2) (h2.1 p m)
    subst e
    rw [asc_unique h1.2 h2.2 (List.Perm.cons_inv h)]
theorem srtR_of {ps qs : List Pr} (h : AscR qs) (hp : qs.Perm ps) : srtR ps = qs := asc_unique (srtR_asc ps) h ((srtR_perm ps).trans hp.symm)
theorem srt_eR (ps : List Pr) : sortD (ps.map eR) = some ((srtR ps).map eR) := by
  rw [sortD_map pd_eR ps (sortOk_dR ps), le_dR]; rfl
def insD (p : Pr) : List Pr -> List Pr
  | [] => [p]
  | x :: xs => if ltR p x = true then x :: insD p xs else p :: x :: xs
def insR (p : Pr) (ps : List Pr) : List Pr := (insD p ps.reverse).reverse
theorem insD_cons (p x : Pr) (xs : List Pr) : insD p (x :: xs) = if ltR p x = true then x :: insD p xs else p :: x :: xs := rfl
theorem insD_perm (p : Pr) : ∀ xs : List Pr, (insD p xs).Perm (p :: xs)
  | [] => .refl _
  | x :: xs => by
    unfold insD
    split
    · exact ((insD_perm p xs).cons x).trans (.swap ..)
    · exact .refl _
theorem insR_perm (p : Pr) (ps : List Pr) : (insR p ps).Perm (ps ++ [p]) := by
  refine (List.reverse_perm _).trans ((insD_perm p _).trans ?_)
  exact ((List.reverse_perm ps).cons p).trans (List.perm_append_comm (l₁ := [p]))
theorem insD_desc (p : Pr) : ∀ {xs : List Pr}, xs.Pairwise (fun a b => leR b a = true) -> (insD p xs).Pairwise fun a b => leR b a = true
  | [], _ => by simp [insD]
  | x :: xs, h => by
    unfold insD
    have h' := List.pairwise_cons.mp h
    split
    · rename_i e
      refine List.pairwise_cons.mpr ⟨fun a ha => ?_, insD_desc p h'.2⟩
      rcases List.mem_cons.mp ((insD_perm p xs).subset ha) with rfl | m
      · rw [leR_iff]; rw [ltR_iff] at e; omega
      · exact h'.1 a m
    · rename_i e
      have hx : leR x p = true := by unfold leR; simpa using e
      refine List.pairwise_cons.mpr ⟨fun a ha => ?_, h⟩
      rcases List.mem_cons.mp ha with rfl | m
      · exact hx
      · exact leR_trans (h'.1 a m) hx
theorem insR_asc (p : Pr) {ps : List Pr} (h : AscR ps) : AscR (insR p ps) := by
  unfold insR AscR
  rw [List.pairwise_reverse]
  exact insD_desc p (List.pairwise_reverse.mpr h)
theorem insR_nil (p : Pr) : insR p [] = [p] := rfl
theorem insR_snoc (p x : Pr) (ps : List Pr) : insR p (ps ++ [x]) = if ltR p x = true then insR p ps ++ [x] else ps ++ [x] ++ [p] := by
  unfold insR
  rw [List.reverse_append]
  show (insD p (x :: ps.reverse)).reverse = _
  rw [insD_cons]
  split
  · rw [List.reverse_cons]
  · simp
theorem insR_len (p : Pr) (ps : List Pr) : (insR p ps).length = ps.length + 1 := by rw [(insR_perm p ps).length_eq]; simp
end Py
namespace Py
open PySem L2
local macro_rules | `(tactic| walk_at "ev") => `(tactic| try simp (maxSteps := 1000000) (disch := first | omega | decide) only [e_xsSeq, e_xsNext, e_xsNever, e_xsAsg, e_xsAsgG, e_xsExpr, e_xsRet, e_xsIf, e_xsFrz, e_xmP, e_xVar_V, e_xtV, e_xtTru, e_xtAnd, e_xtOr, e_xtNot, e_xtYes, e_xVar, e_xInt, e_xBl, e_xNon, e_xStr, e_xSub, e_xMul, e_xDiv, e_xMod, e_xPow, e_xNeg, e_xAdd, e_xEq, e_xNe, e_xLt, e_xGt, e_xGe, e_xIsN, e_xAnd, e_xOr, e_xNot, e_xTup, e_xLst, e_xInt1, e_xAbs, e_xIx, e_xFld, e_xList, e_xTuple, e_xIsi, e_xCall, e_xLc, e_xSorted, e_xmVar, e_xmMove, e_xmAppend, e_xmInsert, e_xmPop, e_xoNil, e_xoCons, e_plVar, r_plVar, r_plFld, r_plIx, e_plFld, e_plIx, e_xaNilV, e_xaNilF, e_xaConsV, e_xaConsF, e_xgN, e_xgsNil, e_xgsCons, e_xgT, o_xgN, o_xgT, o_xgsNil, o_xgsCons, e_xiSeqF, e_xiSeqP, e_xiR1F, e_xiR1P, e_xsFor, e_xsWhile, e_xsAug, e_evV, e_evK, e_evF, e_evO, e_evB, h_getS0, h_getS0n, h_getSs, h_toV, h_toVn, h_toKf, h_toKp, h_toKv, h_toKn, h_toFf, h_toFp, h_toFv, h_toFn, h_toOf, h_toOp, h_toOv, h_toOn, h_of_f, h_of_p, h_of_v, h_then_nx, h_then_rt, h_then_bk, h_then_ct, h_then_ex, h_then_no, h_thenS_ok, h_thenS_exn, h_thenS_no, h_ofO, h_ofOn, h_of, h_ofn, h_mofO, h_mofOn, h_iteF1, h_iteF0, h_iteFn, h_asgK, h_asgGK, h_forK, h_andF1, h_andF0, h_orF1, h_orF0, h_blD, h_turn, h_turnn, h_forE, h_forEn, h_callF, h_callV, h_rzF, h_rzV, h_fz_non, h_sh_non, h_fl_non, h_isN_non, h_fz_bl, h_sh_bl, h_fl_bl, h_fz_int, h_sh_int, h_fl_int, h_isN_int, h_fz_str, h_sh_str, h_fl_str, h_isN_str, h_fz_cls, h_sh_cls, h_fl_cls, h_isN_cls, h_fz_sei, h_sh_sei, h_fl_sei, h_isN_sei, h_fz_scr, h_sh_scr, h_fl_scr, h_isN_scr, h_fz_tup, h_sh_tup, h_fl_tup, h_isN_tup, h_fz_lst, h_sh_lst, h_fl_lst, h_isN_lst, h_fz_dic, h_sh_dic, h_fl_dic, h_isN_dic, h_fz_dit, h_sh_dit, h_fl_dit, h_isN_dit, h_fz_dig, h_sh_dig, h_fl_dig, h_isN_dig, h_fz_dlf, h_sh_dlf, h_fl_dlf, h_isN_dlf, h_fz_xt, h_sh_xt, h_fl_xt, h_isN_xt, h_fz_len, h_sh_len, h_fl_len, h_isN_len, h_fz_ins, h_sh_ins, h_fl_ins, h_isN_ins, h_isN_bl, h_fz_olst, h_sh_olst, h_fl_olst, h_fz_odic, h_sh_odic, h_fl_odic, h_fz_odit, h_sh_odit, h_fl_odit, h_fz_odig, h_sh_odig, h_fl_odig, h_fz_olf, h_sh_olf, h_fl_olf, h_fz_oxt, h_sh_oxt, h_fl_oxt, h_fz_otup, h_sh_otup, h_fl_otup, h_fz_oins, h_sh_oins, h_fl_oins, h_fzs_nil, h_fzs_cons, h_fzs_app, h_tru_bl, h_tru_non, h_tru_int, h_tru_lst, h_tru_tup, h_sub, h_neg, h_addI, h_addT, h_addL, h_addLo, h_addoL, h_addoo, h_eqD, h_neD, h_ok_non, h_ok_bl, h_ok_int, h_ok_str, h_ok_tup, h_ok_lst, h_oks_nil, h_oks_cons, h_eqB_ii, h_eqB_ss, h_eqB_bb, h_eqB_nn, h_eqB_ni, h_eqB_in, h_eqB_nt, h_eqB_tn, h_eqB_tt, h_eqB_ll, h_eqBs_nn, h_eqBs_cc, h_eqBs_nc, h_eqBs_cn, h_cmp, h_ltI, h_ltT, h_ints_nil, h_ints_cons, h_intI, h_intB, h_abs, h_lenL, h_lenT, h_lenS, h_ix, h_it_lst, h_it_olst, h_it_tup, h_it_scr, h_at0, h_at1, h_at2, h_at3, h_at4, h_at5, h_at6, h_at7, h_at8, h_at9, h_at10, h_at11, h_at12, h_atm1, h_seq_lst, h_seq_tup, h_seq_olst, h_seq_scr, h_sF_lst, h_sF_tup, h_sF_scr, h_ty_non, h_ty_bl, h_ty_int, h_ty_str, h_ty_lst, h_ty_tup, h_ty_ins, h_isi_bb, h_isi_bo, h_isi_ob, h_isi_oo, h_isiB_NoneType_bool, h_isiB_NoneType_int, h_isiB_NoneType_str, h_isiB_NoneType_list, h_isiB_NoneType_tuple, h_isiB_NoneType_dict, h_isiB_bool_bool, h_isiB_bool_int, h_isiB_bool_str, h_isiB_bool_list, h_isiB_bool_tuple, h_isiB_bool_dict, h_isiB_int_bool, h_isiB_int_int, h_isiB_int_str, h_isiB_int_list, h_isiB_int_tuple, h_isiB_int_dict, h_isiB_str_bool, h_isiB_str_int, h_isiB_str_str, h_isiB_str_list, h_isiB_str_tuple, h_isiB_str_dict, h_isiB_list_bool, h_isiB_list_int, h_isiB_list_str, h_isiB_list_list, h_isiB_list_tuple, h_isiB_list_dict, h_isiB_tuple_bool, h_isiB_tuple_int, h_isiB_tuple_str, h_isiB_tuple_list, h_isiB_tuple_tuple, h_isiB_tuple_dict, h_isiB_dict_bool, h_isiB_dict_int, h_isiB_dict_str, h_isiB_dict_list, h_isiB_dict_tuple, h_isiB_dict_dict, h_append, h_pop, h_insert, h_put0, h_rng1, h_guard1, h_guard0, h_forLn, h_forLc, h_forT_nx, h_forT_ct, h_forT_bk, h_forT_rt, h_forT_ex, h_lc1, h_lcK, h_lcJ1, h_lcJ0, h_wipe0, h_wipes, h_frz, h_frzO, h_frzOn, h_runR_rt, h_runR_nx, h_retZ, h_bGetn, h_bGets, h_setS, h_ipD, h_fldI, h_fldO, h_sfld, h_six, h_iteFd1, h_iteFd0, h_iteFe1, h_iteFe0, h_andFd1, h_andFd0, h_andFe1, h_andFe0, h_orFd1, h_orFd0, h_orFe1, h_orFe0, h_lcJd1, h_lcJd0, h_lcJe1, h_lcJe0, h_eMeth, h_methF, h_methV, h_methW, h_meth1, h_meth2, h_resE, h_resEn, h_posn, h_posc, h_eMmeth, h_methM1, h_methM0, h_rm0o, h_rm0x, h_rm0n, h_rm1o, h_rm1x, h_putc, h_putE, h_subF, h_subI, h_putF, h_putI, h_setOs, h_eSfld, h_fldK, h_setFD, h_setFn, h_setFc, h_eMake, h_makeF, h_makeV, h_mk1, h_mkR, h_eLenU, h_lenI_lst, h_lenI_tup, h_lenI_scr, h_lenI_ins, h_lenQ, h_lenR, h_eSortR, h_RTthen_ok, h_RTthenS_ok, h_RTthen_exn, h_RTthenS_exn, h_RTof, h_it_ins, h_lo_lst, h_lo_olst, h_seqFI_lst, h_seqFI_tup, h_seqFI_scr, h_seqFI_ins, h_ixD_ins, h_okD_ins, h_eqD_ins, h_addD_ins, h_addD_oins, h_eMakeN, h_makeNE_F, h_makeNE_V, h_makeNE_W, h_mkN, h_mgM_t, h_mgM_f, h_mgM_n, h_eDnew, h_eDget2, h_getE_non, h_getE_int, h_getE_str, h_getM_s, h_getM_n, h_eDin, h_inK_non, h_inK_int, h_inK_str, h_dicOf_d, h_dicOf_o, h_dputI, h_dputS, h_eDc, h_guardB_t, h_dc1, h_dcK, h_dcJ1, h_dcJ0, h_keyD_i, h_keyD_s, h_eDapp, h_dappI, h_dcL_n, h_putP_n, h_ePar, h_par2, h_qevO, h_qevB, h_qevF, h_toQf, h_toQp, h_toQv, h_toQn, h_runR_ex, h_retX, h_thenY1, h_thenY2, h_thenY3, h_look1, h_look2, h_div, h_mod, h_mulL, h_mulR, h_rngOk, List.zip_cons_cons, List.zip_nil_left, if_pos, if_neg, List.getElem?_cons_zero, List.getElem?_cons_succ, List.getElem?_nil, List.getLast?_append, List.getLast?_singleton, List.getLast?_cons_cons, runFn, env0, Option.toList, List.map_cons, List.map_nil, List.length_cons, List.length_nil, List.length_append, List.length_map, List.length_set, List.replicate, List.cons_append, List.nil_append, List.append_nil, Nat.reduceSub, Nat.reduceAdd, Nat.reduceLT, Nat.reduceLeDiff, Nat.reduceEqDiff, Nat.zero_add, Nat.add_zero, List.set_cons_zero, List.set_cons_succ, List.set_nil, Option.bind_some, Option.bind_none, Option.map_some, Option.map_none, List.foldl_cons, List.foldl_nil, not_false_eq_true, not_true_eq_false, and_true, true_and, and_self, and_false, false_and, if_true, if_false, ite_true, ite_false, reduceIte, List.not_mem_nil, reduceCtorEq, List.mem_cons, or_false, false_or, or_self, ne_eq, Bool.not_true, Bool.not_false, Bool.and_true, Bool.and_false, Bool.true_and, Bool.false_and, Bool.or_true, Bool.or_false, Bool.true_or, Bool.false_or, Bool.and_self, Bool.or_self, List.all_cons, List.all_nil, decide_true, decide_false, decide_not, decide_eq_true_eq, decide_eq_false_iff_not, Bool.not_not, Int.reduceLT, Int.reduceLE, Int.reduceEq, Int.reduceNe, Int.reduceAdd, Int.reduceMul, Int.reduceSub, Int.reduceNeg, List.isEmpty_cons, List.isEmpty_nil, Bool.false_eq_true, Bool.true_eq_false, String.reduceEq, Function.comp_apply, Option.isNone_none, Option.some_or, Option.isNone_some, List.getLast?_concat, List.dropLast_concat, List.all_append])
class Enc (α : Type) [DecidableEq α] where
  enc : α -> D
  sh : ∀ a, isSh (enc a) = true
  dp : Nat
  ok : ∀ n a, okD (n + dp) (enc a) = true
  eq : ∀ a b, eqB (enc a) (enc b) = decide (a = b)
open Enc (enc)
class EncN (α : Type) [DecidableEq α] [Enc α] : Prop where
  nn : ∀ a : α, isNon (enc a) = false
  en : ∀ a : α, eqB (enc a) .non = false
  ne : ∀ a : α, eqB .non (enc a) = false
class EncF (α : Type) [DecidableEq α] [Enc α] : Prop where
  fl : ∀ a : α, isFlat (enc a) = true
section
variable {α β γ : Type} [DecidableEq α] [DecidableEq β] [DecidableEq γ] [Enc α] [Enc β] [Enc γ]
theorem sh_enc (a : α) : isSh (enc a) = true := Enc.sh a
theorem fz_enc (a : α) : fz (enc a) = enc a := fz_isSh (Enc.sh a)
theorem shl_enc (xs : List α) : (xs.map enc).all isSh = true := sh_map Enc.sh xs
theorem fzl_enc (xs : List α) : fzs (xs.map enc) = xs.map enc := fzs_map Enc.sh xs
theorem fl_enc [EncF α] (a : α) : isFlat (enc a) = true := EncF.fl a
theorem nn_enc [EncN α] (a : α) : isNon (enc a) = false := EncN.nn a
theorem ok_enc {n : Nat} (a : α) (h : Enc.dp α <= n) : okD n (enc a) = true := by
  have := Enc.ok (n - Enc.dp α) a
  rwa [show n - Enc.dp α + Enc.dp α = n by omega] at this
theorem okl_enc {n : Nat} (xs : List α) (h : Enc.dp α <= n) : okDs n (xs.map enc) = true := okDs_map (fun a => ok_enc a h) xs
theorem eq_enc (a b : α) : eqB (enc a) (enc b) = decide (a = b) := Enc.eq a b
theorem eql_enc (xs ys : List α) : eqBs (xs.map enc) (ys.map enc) = decide (xs = ys) := eqBs_map Enc.eq xs ys
theorem en_enc [EncN α] (a : α) : eqB (enc a) .non = false := EncN.en a
theorem ne_enc [EncN α] (a : α) : eqB .non (enc a) = false := EncN.ne a
end
instance : Enc Int := ⟨.int, fun _ => rfl, 0, fun n a => by walk_at "ev", fun a b => by walk_at "ev"⟩
instance : EncN Int := ⟨fun _ => rfl, fun a => by show eqB (.int a) .non = _; walk_at "ev", fun a => by show eqB .non (.int a) = _; walk_at "ev"⟩
instance : EncF Int := ⟨fun _ => rfl⟩
theorem enc_int (i : Int) : enc i = .int i := rfl
instance : Enc Bool := ⟨.bl, fun _ => rfl, 0, fun n a => by walk_at "ev", fun a b => by walk_at "ev"⟩
instance : EncN Bool := ⟨fun _ => rfl, fun a => by show eqB (.bl a) .non = _; simp [eqB], fun a => by show eqB .non (.bl a) = _; simp [eqB]⟩
instance : EncF Bool := ⟨fun _ => rfl⟩
theorem enc_bool (i : Bool) : enc i = .bl i := rfl
instance : Enc String := ⟨.str, fun _ => rfl, 0, fun n a => by walk_at "ev", fun a b => by walk_at "ev"⟩
instance : EncN String := ⟨fun _ => rfl, fun a => by show eqB (.str a) .non = _; simp [eqB], fun a => by show eqB .non (.str a) = _; simp [eqB]⟩
instance : EncF String := ⟨fun _ => rfl⟩
section
variable {α β γ : Type} [DecidableEq α] [DecidableEq β] [DecidableEq γ] [Enc α] [Enc β] [Enc γ]
def encO : Option α -> D
  | none => .non
  | some a => enc a
instance [EncN α] : Enc (Option α) where
  enc := encO
  sh a := by cases a; rfl; exact Enc.sh _
  dp := Enc.dp α
  ok n a := by
    cases a with
    | none => show okD _ .non = true; walk_at "ev"
    | some a => exact Enc.ok n a
  eq a b := by
    cases a <;> cases b
    · show eqB .non .non = _; walk_at "ev"
    · rename_i b; show eqB .non (enc b) = _; rw [ne_enc]; simp
    · rename_i b; show eqB (enc b) .non = _; rw [en_enc]; simp
    · rename_i a b; show eqB (enc a) (enc b) = _; rw [eq_enc]; simp
instance [EncN α] [EncF α] : EncF (Option α) := ⟨fun a => by cases a; rfl; exact EncF.fl (α := α) _⟩
theorem isN_opt [EncN α] (o : Option α) : isNon (enc o) = o.isNone := by
  cases o with
  | none => rfl
  | some a => exact nn_enc a
def enc2 (p : α × β) : D := .tup [enc p.1, enc p.2]
instance : Enc (α × β) where
  enc := enc2
  sh _ := rfl
  dp := max (Enc.dp α) (Enc.dp β) + 1
  ok n a := by
    show okD (n + (max (Enc.dp α) (Enc.dp β) + 1)) (.tup [enc a.1, enc a.2]) = true
    rw [<- Nat.add_assoc, h_ok_tup, h_oks_cons, h_oks_cons, h_oks_nil, ok_enc _ (by omega), ok_enc _ (by omega)]; rfl
  eq a b := by
    show eqB (.tup [enc a.1, enc a.2]) (.tup [enc b.1, enc b.2]) = _
    rw [h_eqB_tt, h_eqBs_cc, h_eqBs_cc, h_eqBs_nn, eq_enc, eq_enc, Bool.eq_iff_iff]
    simp [Prod.ext_iff]
instance : EncN (α × β) := ⟨fun _ => rfl, fun a => by show eqB (.tup _) .non = _; walk_at "ev", fun a => by show eqB .non (.tup _) = _; walk_at "ev"⟩
structure T3 (α β γ : Type) where
  a : α
  b : β
  c : γ
deriving DecidableEq
instance : Enc (T3 α β γ) where
  enc p := .tup [enc p.a, enc p.b, enc p.c]
  sh _ := rfl
  dp := max (Enc.dp α) (max (Enc.dp β) (Enc.dp γ)) + 1
  ok n a := by
    show okD (n + (max (Enc.dp α) (max (Enc.dp β) (Enc.dp γ)) + 1)) (.tup [enc a.a, enc a.b, enc a.c]) = true
    rw [<- Nat.add_assoc, h_ok_tup, h_oks_cons, h_oks_cons, h_oks_cons, h_oks_nil, ok_enc _ (by omega), ok_enc _ (by omega), ok_enc _ (by omega)]; rfl
  eq a b := by
    show eqB (.tup [enc a.a, enc a.b, enc a.c]) (.tup [enc b.a, enc b.b, enc b.c]) = _
    rw [h_eqB_tt, h_eqBs_cc, h_eqBs_cc, h_eqBs_cc, h_eqBs_nn, eq_enc, eq_enc, eq_enc, Bool.eq_iff_iff]
    cases a; cases b
    simp
instance : EncN (T3 α β γ) := ⟨fun _ => rfl, fun a => by show eqB (.tup _) .non = _; walk_at "ev", fun a => by show eqB .non (.tup _) = _; walk_at "ev"⟩
theorem it_t3 (p : T3 α β γ) : itemsD (enc p) = some [enc p.a, enc p.b, enc p.c] := rfl
theorem sF_t3 (p : T3 α β γ) : seqF (enc p) = some [enc p.a, enc p.b, enc p.c] := rfl
theorem sFI_t3 {T : Tbl} (p : T3 α β γ) : seqFI T (enc p) = some [enc p.a, enc p.b, enc p.c] := rfl
theorem ty_t3 (p : T3 α β γ) : tyD (enc p) = some (false, "tuple") := rfl
theorem len_t3 (p : T3 α β γ) : lenD [enc p] = some (.int 3) := rfl
theorem lenI_t3 {T : Tbl} {φ : Sem} (p : T3 α β γ) : lenI1 T φ [enc p] = some (.int 3) := rfl
theorem fl_t3 (p : T3 α β γ) : isFlat (enc p) = false := rfl
theorem xg_t3 {W : Wd T} {gs : XGs W} {P : List Nat} {env : Py.Env} (p : T3 α β γ) : (xgT 3 gs).ev P (enc p) env = gs.ev P [enc p.a, enc p.b, enc p.c] env := by show (xgT 3 gs).ev P (.tup [enc p.a, enc p.b, enc p.c]) env = _; rw [e_xgT]; exact if_pos rfl
instance : Enc (List α) where
  enc xs := .lst (xs.map enc)
  sh _ := rfl
  dp := Enc.dp α + 1
  ok n a := by
    show okD (n + (Enc.dp α + 1)) (.lst _) = true
    rw [<- Nat.add_assoc, h_ok_lst]; exact okl_enc a (by omega)
  eq a b := by
    show eqB (.lst _) (.lst _) = _
    rw [h_eqB_ll, eql_enc]
instance : EncN (List α) := ⟨fun _ => rfl, fun a => by show eqB (.lst _) .non = _; simp [eqB], fun a => by show eqB .non (.lst _) = _; simp [eqB]⟩
structure Tp (α : Type) where
  l : List α
deriving DecidableEq
instance : Enc (Tp α) where
  enc xs := .tup (xs.l.map enc)
  sh _ := rfl
  dp := Enc.dp α + 1
  ok n a := by
    show okD (n + (Enc.dp α + 1)) (.tup _) = true
    rw [<- Nat.add_assoc, h_ok_tup]; exact okl_enc a.l (by omega)
  eq a b := by
    show eqB (.tup _) (.tup _) = _
    rw [h_eqB_tt, eql_enc]
    cases a; cases b; simp
instance : EncN (Tp α) := ⟨fun _ => rfl, fun a => by show eqB (.tup _) .non = _; simp [eqB], fun a => by show eqB .non (.tup _) = _; simp [eqB]⟩
end
theorem lcL_range {f : D -> Option (List D)} {g : Nat -> List D} (n : Nat) (h : ∀ k, k < n -> f (.int (0 + (k : Int))) = some (g k)) : lcL f (rangeD 0 n) = some ((List.range n).flatMap g) :=
  lcL_map (enc := fun k : Nat => D.int (0 + (k : Int))) (List.range n) fun k m => h k (List.mem_range.mp m)
theorem forL_enc {α : Type} {g : α -> D} {f : D -> Py.Env -> RS} {r : RS} : ∀ {xs : List α} {env : Py.Env} (I : List α -> Py.Env -> Prop), forL f (xs.map g) env = r -> I [] env ->
    (∀ ys x zs e, xs = ys ++ x :: zs -> I ys e -> ∃ e', (f (g x) e = .nx e' \/ f (g x) e = .ct e') /\ I (ys ++ [x]) e') -> ∃ e', r = .nx e' /\ I xs e'
  | [], env, I, h, h0, _ => ⟨env, h.symm, h0⟩
  | x :: xs, env, I, h, h0, hs => by
    obtain ⟨e', h1, h2⟩ := hs [] x xs env rfl h0
    have h : (match f (g x) env with | .nx e => forL f (xs.map g) e | .ct e => forL f (xs.map g) e | .bk e => .nx e | r => r) = r := h
    have h3 : forL f (xs.map g) e' = r := by rcases h1 with h1 | h1 <;> (rw [h1] at h; exact h)
    exact forL_enc (fun ys e => I (x :: ys) e) h3 h2 fun ys y zs e hy hi => hs (x :: ys) y zs e (by rw [hy]; rfl) hi
theorem forL_range {f : D -> Py.Env -> RS} {r : RS} {n : Nat} {env : Py.Env} (I : Nat -> Py.Env -> Prop) (h : forL f (rangeD 0 n) env = r) (h0 : I 0 env)
    (hs : ∀ j e, j < n -> I j e -> ∃ e', (f (.int (j : Int)) e = .nx e' \/ f (.int (j : Int)) e = .ct e') /\ I (j + 1) e') : ∃ e', r = .nx e' /\ I n e' := by
  obtain ⟨e', h1, h2⟩ := forL_gen I h h0 fun i d e hd hi => by
    obtain ⟨hi2, rfl⟩ := rangeD_get hd
    rw [Int.zero_add]
    exact hs i e hi2 hi
  rw [rangeD_length] at h2
  exact ⟨e', h1, h2⟩
theorem flatMap_snoc {α β : Type} (f : α -> List β) (xs : List α) (x : α) : (xs ++ [x]).flatMap f = xs.flatMap f ++ f x := by simp
theorem pre_le {α : Type} {xs ys zs : List α} {x : α} (h : xs = ys ++ x :: zs) : ys.length < xs.length := by rw [h]; simp
end Py
namespace Py
open PySem L2
open Enc (enc)
section
variable {α β : Type} [DecidableEq α] [Enc α]
def kI (m : List (Int × β)) : List Key := m.map fun p => Sum.inl p.1
def vE (g : β -> D) (m : List (Int × β)) : List D := m.map fun p => g p.2
def alG (m : List (Int × β)) (k : Int) : Option β := (m.find? fun p => decide (p.1 = k)).map (·.2)
def alP (m : List (Int × β)) (k : Int) (a : β) : List (Int × β) := if (m.any fun p => decide (p.1 = k)) = true then m.map (fun p => if p.1 = k then (k, a) else p) else m ++ [(k, a)]
theorem kI_length (m : List (Int × β)) : (kI m).length = m.length := by simp [kI]
theorem vE_length (g : β -> D) (m : List (Int × β)) : (vE g m).length = m.length := by simp [vE]
theorem vE_sh {g : β -> D} (h : ∀ b, isSh (g b) = true) (m : List (Int × β)) : (vE g m).all isSh = true := by
  unfold vE
  rw [List.all_map]
  exact List.all_eq_true.mpr fun p _ => h p.2
theorem inl_eq (i j : Int) : ((Sum.inl i : Key) = Sum.inl j) = (i = j) := by
  apply propext; exact ⟨fun h => Sum.inl.inj h, fun h => by rw [h]⟩
theorem dg_al (g : β -> D) (k : Int) : ∀ m : List (Int × β), dg (kI m) (vE g m) (.inl k) = (alG m k).map g
  | [] => rfl
  | p :: m => by
    show dg (Sum.inl p.1 :: kI m) (g p.2 :: vE g m) (.inl k) = _
    unfold dg
    by_cases h : p.1 = k
    · rw [if_pos (by rw [h])]
      unfold alG
      rw [List.find?_cons_of_pos (by simpa using h)]
      rfl
    · rw [if_neg (by rw [inl_eq]; exact h), dg_al g k m]
      unfold alG
      rw [List.find?_cons_of_neg (by simpa using h)]
theorem hasK_al (k : Int) : ∀ m : List (Int × β), hasK (kI m) (.inl k) = m.any fun p => decide (p.1 = k)
  | [] => rfl
  | p :: m => by
    show (decide ((Sum.inl p.1 : Key) = Sum.inl k) || hasK (kI m) (.inl k)) = _
    rw [hasK_al k m, List.any_cons]
    congr 1
    exact decide_eq_decide.mpr (by rw [inl_eq])
theorem pos_al (k : Int) : ∀ m : List (Int × β), (pos (Sum.inl k : Key) (kI m) = none /\ (m.any fun p => decide (p.1 = k)) = false) \/ ∃ j p, pos (Sum.inl k : Key) (kI m) = some j /\ m[j]? = some p /\ p.1 = k /\ (m.any fun p => decide (p.1 = k)) = true /\ m.find? (fun p => decide (p.1 = k)) = some p
  | [] => .inl ⟨rfl, rfl⟩
  | p :: m => by
    show ((if (Sum.inl p.1 : Key) = Sum.inl k then some 0 else (pos (Sum.inl k : Key) (kI m)).map (· + 1)) = none /\ _) \/ ∃ j q, (if (Sum.inl p.1 : Key) = Sum.inl k then some 0 else (pos (Sum.inl k : Key) (kI m)).map (· + 1)) = some j /\ _
    by_cases h : p.1 = k
    · rw [if_pos (by rw [h])]
      exact .inr ⟨0, p, rfl, rfl, h, by rw [List.any_cons, decide_eq_true h]; rfl, List.find?_cons_of_pos (by simpa using h)⟩
    · rw [if_neg (by rw [inl_eq]; exact h)]
      rcases pos_al k m with ⟨h1, h2⟩ | ⟨j, q, h1, h2, h3, h4, h5⟩
      · exact .inl ⟨by rw [h1]; rfl, by rw [List.any_cons, h2, decide_eq_false h]; rfl⟩
      · exact .inr ⟨j + 1, q, by rw [h1]; rfl, by simpa using h2, h3, by rw [List.any_cons, h4, Bool.or_true], by rw [List.find?_cons_of_neg (by simpa using h)]; exact h5⟩
def Nk (m : List (Int × β)) : Prop := (m.map (·.1)).Nodup
theorem alP_map {k : Int} {a : β} : ∀ {m : List (Int × β)} {j : Nat}, Nk m -> pos (Sum.inl k : Key) (kI m) = some j -> m.map (fun p => if p.1 = k then (k, a) else p) = m.set j (k, a)
  | [], _, _, h => by cases h
  | p :: m, j, hn, h => by
    have h : (if (Sum.inl p.1 : Key) = Sum.inl k then some 0 else (pos (Sum.inl k : Key) (kI m)).map (· + 1)) = some j := h
    unfold Nk at hn
    rw [List.map_cons, List.nodup_cons] at hn
    rw [List.map_cons]
    by_cases e : p.1 = k
    · rw [if_pos (by rw [e])] at h
      cases h
      rw [if_pos e, List.set_cons_zero]
      congr 1
      have : ∀ q ∈ m, (if q.1 = k then (k, a) else q) = q := fun q hq => by
        rw [if_neg]
        intro z
        exact hn.1 (by rw [e, <- z]; exact List.mem_map.mpr ⟨q, hq, rfl⟩)
      exact (List.map_congr_left this).trans (List.map_id _)
    · rw [if_neg (by rw [inl_eq]; exact e)] at h
      obtain ⟨i, h1, rfl⟩ := Option.map_eq_some_iff.mp h
      rw [if_neg e, List.set_cons_succ, alP_map hn.2 h1]
theorem putP_al {g : β -> D} (hg : ∀ b, isSh (g b) = true) {k : Int} {a : β} {m : List (Int × β)} (hn : Nk m) : putP (kI m) (vE g m) (.inl k) (g a) = some (kI (alP m k a), vE g (alP m k a)) := by
  unfold putP alP
  rcases pos_al k m with ⟨h1, h2⟩ | ⟨j, q, h1, h2, h3, h4, _⟩
  · rw [h1, if_neg (by rw [h2]; decide)]
    simp [kI, vE]
  · rw [h1, if_pos h4, alP_map hn h1]
    dsimp only
    rw [if_pos (vE_sh hg m)]
    have hj := (List.getElem?_eq_some_iff.mp h2).1
    congr 2
    · unfold kI
      rw [List.map_set]
      apply List.ext_getElem?
      intro i
      by_cases e : j = i
      · subst e
        rw [List.getElem?_set_self (by simpa using hj), List.getElem?_map, h2]
        simp [h3]
      · rw [List.getElem?_set_ne e]
    · unfold vE
      rw [List.map_set]
theorem Nk.put {k : Int} {a : β} {m : List (Int × β)} (hn : Nk m) : Nk (alP m k a) := by
  unfold Nk
  unfold alP
  rcases pos_al k m with ⟨h1, h2⟩ | ⟨j, q, h1, h2, h3, h4, _⟩
  · rw [if_neg (by rw [h2]; decide), List.map_append, List.nodup_append]
    refine ⟨hn, by simp, fun x hx y hy z => ?_⟩
    have hy : y = k := by simpa using hy
    subst z hy
    obtain ⟨p, hp, e⟩ := List.mem_map.mp hx
    have : (m.any fun p => decide (p.1 = x)) = true := List.any_eq_true.mpr ⟨p, hp, decide_eq_true e⟩
    rw [h2] at this; cases this
  · rw [if_pos h4, alP_map hn h1, List.map_set]
    have hj := (List.getElem?_eq_some_iff.mp h2).1
    have : (m.map (·.1)).set j k = m.map (·.1) := by
      apply List.ext_getElem?
      intro i
      by_cases e : j = i
      · subst e
        rw [List.getElem?_set_self (by simpa using hj), List.getElem?_map, h2, Option.map_some, h3]
      · rw [List.getElem?_set_ne e]
    show ((m.map (·.1)).set j k).Nodup
    rw [this]
    exact hn
theorem alP_length {k : Int} {a : β} {m : List (Int × β)} : (alP m k a).length <= m.length + 1 := by
  unfold alP
  split <;> simp
theorem alG_alP {k j : Int} {a : β} : ∀ {m : List (Int × β)}, alG (alP m k a) j = if j = k then some a else alG m j := by
  intro m
  unfold alP
  split
  · rename_i h
    induction m with
    | nil => cases h
    | cons p m ih =>
      rw [List.map_cons]
      unfold alG at ih ⊢
      by_cases e : p.1 = k
      · rw [if_pos e]
        by_cases z : j = k
        · rw [if_pos z, List.find?_cons_of_pos (by simpa using z.symm)]; rfl
        · rw [if_neg z, List.find?_cons_of_neg (by simpa using fun y => z y.symm), List.find?_cons_of_neg (by simpa using fun y => z (y.symm.trans e))]
          by_cases h2 : (m.any fun p => decide (p.1 = k)) = true
          · have := ih h2; rw [if_neg z] at this; exact this
          · have : ∀ q ∈ m, (if q.1 = k then (k, a) else q) = q := fun q hq => by
              rw [if_neg]
              intro y
              exact h2 (List.any_eq_true.mpr ⟨q, hq, decide_eq_true y⟩)
            rw [(List.map_congr_left this).trans (List.map_id _)]
      · rw [if_neg e]
        have h2 : (m.any fun p => decide (p.1 = k)) = true := by
          rw [List.any_cons, decide_eq_false e, Bool.false_or] at h; exact h
        by_cases z : p.1 = j
        · rw [List.find?_cons_of_pos (by simpa using z), List.find?_cons_of_pos (by simpa using z), if_neg (fun y => e (z.trans y))]
        · rw [List.find?_cons_of_neg (by simpa using z), List.find?_cons_of_neg (by simpa using z)]
          exact ih h2
  · rename_i h
    unfold alG
    rw [List.find?_append]
    by_cases z : j = k
    · rw [if_pos z]
      have : m.find? (fun p => decide (p.1 = j)) = none := by
        rw [List.find?_eq_none]
        intro q hq y
        exact h (List.any_eq_true.mpr ⟨q, hq, by rw [z] at y; exact y⟩)
      rw [this]
      simp [z]
    · rw [if_neg z]
      have : ([(k, a)] : List (Int × β)).find? (fun p => decide (p.1 = j)) = none := by
        rw [List.find?_cons_of_neg (by simpa using fun y => z y.symm)]; rfl
      rw [this]; simp
theorem fzs_vE {g h : β -> D} (e : ∀ b, fz (g b) = h b) (m : List (Int × β)) : fzs (vE g m) = vE h m := by
  unfold vE
  rw [fzs_eq, List.map_map]
  exact List.map_congr_left fun p _ => e p.2
theorem dcL_al {γ : Type} {c : γ -> D} {g : β -> D} (hg : ∀ b, isSh (g b) = true) {f : D -> Option (Option (Key × D))} {ky : γ -> Int} {vl : γ -> β} : ∀ {xs : List γ} {m : List (Int × β)}, Nk m -> (∀ x ∈ xs, f (c x) = some (some (.inl (ky x), g (vl x)))) ->
    dcL f (xs.map c) (kI m, vE g m) = some (kI (xs.foldl (fun m x => alP m (ky x) (vl x)) m), vE g (xs.foldl (fun m x => alP m (ky x) (vl x)) m))
  | [], m, _, _ => rfl
  | x :: xs, m, hn, h => by
    show (f (c x)).bind (fun o => (putO (kI m, vE g m) o).bind (dcL f (xs.map c))) = _
    rw [h x (List.mem_cons_self ..), Option.bind_some]
    show (putP (kI m) (vE g m) (.inl (ky x)) (g (vl x))).bind _ = _
    rw [putP_al hg hn, Option.bind_some, dcL_al hg hn.put fun y hy => h y (List.mem_cons_of_mem _ hy)]
    rfl
def dcM {γ : Type} (ky : γ -> Int) (vl : γ -> β) (xs : List γ) : List (Int × β) := xs.foldl (fun m x => alP m (ky x) (vl x)) []
theorem dcL_al0 {γ : Type} {c : γ -> D} {g : β -> D} (hg : ∀ b, isSh (g b) = true) {f : D -> Option (Option (Key × D))} (ky : γ -> Int) (vl : γ -> β) (xs : List γ) (h : ∀ x ∈ xs, f (c x) = some (some (.inl (ky x), g (vl x)))) :
    dcL f (xs.map c) ([], []) = some (kI (dcM ky vl xs), vE g (dcM ky vl xs)) := dcL_al (m := []) hg .nil h
def alA (m : List (Int × List β)) (k : Int) (x : β) : List (Int × List β) := alP m k ((alG m k).getD [] ++ [x])
theorem appK_al {g : β -> D} {k : Int} {x : β} {m : List (Int × List β)} (hn : Nk m) (hl : m.length < 1000000) (hv : ∀ p ∈ m, p.2.length < 1000000) :
    appK (kI m) (vE (fun l : List β => .olst (l.map g)) m) (.inl k) (g x) = some (.odic (kI (alA m k x)) (vE (fun l : List β => .olst (l.map g)) (alA m k x))) := by
  unfold appK alA alG
  rw [vE_length, if_pos hl]
  rcases pos_al k m with ⟨h1, h2⟩ | ⟨j, q, h1, h2, h3, h4, h5⟩
  · have hf : m.find? (fun p => decide (p.1 = k)) = none := by
      rw [List.find?_eq_none]
      intro q hq y
      have : (m.any fun p => decide (p.1 = k)) = true := List.any_eq_true.mpr ⟨q, hq, y⟩
      rw [h2] at this; cases this
    rw [h1, hf]
    unfold alP
    rw [if_neg (by rw [h2]; decide)]
    simp [kI, vE]
  · rw [h1, h5]
    unfold alP
    rw [if_pos h4, alP_map hn h1]
    dsimp only
    have e : (vE (fun l : List β => D.olst (l.map g)) m)[j]? = some (.olst (q.2.map g)) := by
      unfold vE
      rw [List.getElem?_map, h2]; rfl
    rw [e]
    dsimp only
    rw [List.length_map, if_pos (hv q (List.mem_of_getElem? h2))]
    have hj := (List.getElem?_eq_some_iff.mp h2).1
    congr 2
    · unfold kI
      rw [List.map_set]
      apply List.ext_getElem?
      intro i
      by_cases e : j = i
      · subst e
        rw [List.getElem?_set_self (by simpa using hj), List.getElem?_map, h2]
        simp [h3]
      · rw [List.getElem?_set_ne e]
    · unfold vE
      rw [List.map_set]
      simp
end
end Py
namespace Py
open PySem L2
theorem DefX.funD {K : PySem.W.Frag} {d : DefX} (hcl : d.cl = false) (e : fnXd K d = d.val) (c : d.ok K = true) : ∃ fd, FunD K d.name d.qual (defArgs d.st) (defBody d.st) (defScope d.st) (d.dvs K) (d.kws K) (d.ad K) fd := by
  obtain ⟨kp, c2⟩ := He.ba c
  unfold fnXd DefX.val at e
  rw [hcl] at e
  dsimp only at e
  unfold fnX at e
  cases q : K.lookup (d.ad K) with
  | none =>
    rw [q] at c2
    cases c2
  | some o =>
    obtain ⟨oc, od, dt, osl⟩ := o
    rw [q] at c2 e
    cases dt with
    | func fd =>
      obtain ⟨n1, n2, n3, n4, n5, n6, n7, n8, n9, n10, n11, n12, n13, n14, n15⟩ := fd
      have e2 : (some (n1, n2, n3, n4, n5, n6, n7, n15) : He.FnW) = some (d.name, d.qual, defArgs d.st, .stmts (defBody d.st), defScope d.st, mainGlobals, [], builtinsNs) := e
      simp only [Option.some.injEq, Prod.mk.injEq] at e2
      obtain ⟨h1, h2, h3, h4, h5, h6, h7, h8⟩ := e2
      subst h1 h2 h6 h7 h8
      have c3 : (PySem.W.codeIn K n13 d.qual && (He.dflB K n8 (d.dvs K) && He.kwdB K n9 (d.kws K))) = true := c2
      obtain ⟨k1, k2⟩ := He.ba c3
      obtain ⟨k3, k4⟩ := He.ba k2
      rw [h3, h4, h5] at q
      exact ⟨_, ⟨oc, od, n8, n9, n10, n11, n12, n13, n14, osl, rfl, q, k1, He.dflB_ok k3, He.kwdB_ok k4⟩, kp⟩
    | _ => cases c2
section
variable {fa : List FB} {fn : List DefX} {K : PySem.W.Frag}
theorem SaysX.fact (c : SaysX fa fn K) (i : Nat) {f : FB} (h : fa[i]? = some f := by rfl) : f K = true := by
  have c1 := (He.ba (show ((fa.all fun f => f K) && fn.all fun d => d.ok K) = true from congrArg (fun z : He.AlD => z.1) c)).1
  exact List.all_eq_true.mp c1 f (List.mem_of_getElem? h)
theorem SaysX.def_ (c : SaysX fa fn K) (i : Nat) {d : DefX} (h : fn[i]? = some d := by rfl) (hcl : d.cl = false := by rfl) : ∃ fd, FunD K d.name d.qual (defArgs d.st) (defBody d.st) (defScope d.st) (d.dvs K) (d.kws K) (d.ad K) fd := by
  have c2 := (He.ba (show ((fa.all fun f => f K) && fn.all fun d => d.ok K) = true from congrArg (fun z : He.AlD => z.1) c)).2
  have e : fn.map (fun d => fnXd K d) = fn.map DefX.val := congrArg (fun z : He.AlD => z.2) c
  have e2 : (fn.map fun d => fnXd K d)[i]? = (fn.map DefX.val)[i]? := by rw [e]
  rw [List.getElem?_map, List.getElem?_map, h] at e2
  exact DefX.funD hcl (Option.some.inj e2) (List.all_eq_true.mp c2 d (List.mem_of_getElem? h))
theorem SaysX.cld (c : SaysX fa fn K) (i : Nat) {d : DefX} (h : fn[i]? = some d := by rfl) (hcl : d.cl = true := by rfl) : fnXc K (d.ad K) = some (d.name, d.qual, defArgs d.st, .stmts (defBody d.st), defScope d.st, mainGlobals, [(("__class__" : Str), 0)], builtinsNs) := by
  have e : fn.map (fun d => fnXd K d) = fn.map DefX.val := congrArg (fun z : He.AlD => z.2) c
  have e2 : (fn.map fun d => fnXd K d)[i]? = (fn.map DefX.val)[i]? := by rw [e]
  rw [List.getElem?_map, List.getElem?_map, h] at e2
  have e3 : fnXd K d = d.val := Option.some.inj e2
  obtain ⟨q1, q2, q3, q4, q5, q6, q7⟩ := d
  have hcl : q7 = true := hcl
  subst hcl
  exact e3
end
def fLaw (T : Tbl) (P : Program) (w : World) (K : PySem.W.Frag) (cs : List String) (fl : String -> List String) (hT : ∀ c f, c ∈ cs -> T.fOk c f = true -> f ∈ fl c) (sub : String -> String -> Bool) (hs : ∀ c d, T.sub c d = sub c d)
    (xs : List String) (xsub : String -> String -> Bool) (hx : ∀ c d, T.xsub c d = xsub c d) (x1 : fXm xs xsub K = true) (x2 : fXv xs K = true) (x3 : fXc xs K = true)
    (h1 : fCls cs K = true) (h2 : fNoat cs fl K = true) (h3 : fIsT cs K = true) (h4 : fTO cs K = true) (h5 : fOT cs K = true) (h6 : fOO cs sub K = true) : Wd T where
  K := K
  P := P
  w := w
  cA := ga K
  has c := c ∈ cs
  cl c hc := by
    obtain ⟨a, b, c', d⟩ := He.cls_ok (List.all_eq_true.mp h1 c hc)
    exact ⟨a, b, c', d⟩
  na c f hc hf := He.noat_ok (List.all_eq_true.mp (List.all_eq_true.mp h2 c hc) f (hT c f hc hf))
  isT c hc := by
    obtain ⟨a, b⟩ := He.ba (List.all_eq_true.mp h3 c hc)
    obtain ⟨b, d⟩ := He.ba b
    obtain ⟨d, e⟩ := He.ba d
    exact ⟨of_decide_eq_true a, of_decide_eq_true b, of_decide_eq_true d, of_decide_eq_true e⟩
  isTO t c ht hc := of_decide_eq_true (List.all_eq_true.mp (List.all_eq_true.mp h4 t ht) c hc)
  isOT c t hc ht := of_decide_eq_true (List.all_eq_true.mp (List.all_eq_true.mp h5 c hc) t ht)
  hasX c := c ∈ xs
  xm c d hc hd := by
    rw [hx]
    exact of_decide_eq_true (He.ba (List.all_eq_true.mp (List.all_eq_true.mp x1 c hc) d hd)).1
  xk c d hc hd := by
    rw [hx]
    exact of_decide_eq_true (He.ba (List.all_eq_true.mp (List.all_eq_true.mp x1 c hc) d hd)).2
  xv c hc := of_decide_eq_true (List.all_eq_true.mp x2 c hc)
  xc c hc := by
    obtain ⟨h1, h⟩ := He.ba (List.all_eq_true.mp x3 c hc)
    obtain ⟨h2, h⟩ := He.ba h
    obtain ⟨h3, h⟩ := He.ba h
    obtain ⟨h4, h⟩ := He.ba h
    obtain ⟨h5, h⟩ := He.ba h
    obtain ⟨h6, h⟩ := He.ba h
    obtain ⟨h7, h8⟩ := He.ba h
    exact ⟨of_decide_eq_true h1, of_decide_eq_true h2, of_decide_eq_true h3, h4, of_decide_eq_true h5, of_decide_eq_true h6, of_decide_eq_true h7, of_decide_eq_true h8⟩
  isOO c d hc hd := by rw [hs]; exact of_decide_eq_true (List.all_eq_true.mp (List.all_eq_true.mp h6 c hc) d hd)
theorem fDun_ok {T : Tbl} {W : Wd T} {cs : List String} (hh : ∀ c, W.has c -> c ∈ cs) (hc : ∀ c, W.cA c = ga W.K c) (h : fDun cs W.K = true) : Dun W := by
  have g := fun c hc' => He.ba (List.all_eq_true.mp h c (hh c hc'))
  refine ⟨fun c z => hc c ▸ (g c z).1, fun c t z m => hc c ▸ List.all_eq_true.mp (He.ba (g c z).2).1 t m, fun c f z m => ?_⟩
  have := (He.ba (g c z).2).2
  rw [hc c] at m
  rw [m] at this
  exact this
end Py
namespace Py
open PySem L2 NdefX
end Py
namespace Py
open PySem L2
end Py
namespace Py
open PySem L2
def b_Keeper___init__ {T : Tbl} (W : Wd T) (φ : Sem) : XS W :=
  (xsSeq (xsFld (plVar W 0) "_room" (xmVar W 1))
  (xsSeq (xsFld (plVar W 0) "_held" (xmP (xLst (xaNil W))))
  (xsFld (plVar W 0) "_least_back" (xmP (xNon W)))))
def b_Keeper___len__ {T : Tbl} (W : Wd T) (φ : Sem) : XS W :=
  (xsRet (xmP (xLenU φ (xaCons (xFld (xVar W 0) "_held") (xaNil W)))))
def b_Keeper_offer {T : Tbl} (W : Wd T) (φ : Sem) : XS W :=
  (xsSeq (xsIf (xtV (xLt (xLenU φ (xaCons (xFld (xVar W 0) "_held") (xaNil W))) (xFld (xVar W 0) "_room"))) (xsSeq (xsFrz [1] (xsExpr (xmMeth φ "_hold" 2 (plVar W 0) (xaCons (xVar W 1) (xaNil W)))))
  (xsRet (xmP (xNon W)))) (xsNext W))
  (xsSeq (xsAsg 2 (xmVar W 1))
  (xsSeq (xsIf (xtV (xLt (xVar W 1) (xIx (xFld (xVar W 0) "_held") (xNeg (xInt W 1))))) (xsSeq (xsAsg 2 (xmPop (plFld (plVar W 0) "_held")))
  (xsFrz [1] (xsExpr (xmMeth φ "_hold" 2 (plVar W 0) (xaCons (xVar W 1) (xaNil W)))))) (xsNext W))
  (xsSeq (xsIf (xtOr (xtV (xIsN (xFld (xVar W 0) "_least_back"))) (xtV (xLt (xVar W 2) (xFld (xVar W 0) "_least_back")))) (xsFld (plVar W 0) "_least_back" (xmVar W 2)) (xsNext W))
  (xsRet (xmMove W 2))))))
def l1_Keeper__hold {T : Tbl} (W : Wd T) (φ : Sem) : XS W :=
  (xsAug 2 (fun i j => i - j) (xInt W 1))
def b_Keeper__hold {T : Tbl} (W : Wd T) (φ : Sem) : XS W :=
  (xsSeq (xsAsg 2 (xmP (xLenU φ (xaCons (xFld (xVar W 0) "_held") (xaNil W)))))
  (xsSeq (xsWhile (xtAnd (xtV (xGt (xVar W 2) (xInt W 0))) (xtV (xLt (xVar W 1) (xIx (xFld (xVar W 0) "_held") (xSub (xVar W 2) (xInt W 1)))))) (l1_Keeper__hold W φ))
  (xsExpr (xmInsert (plFld (plVar W 0) "_held") (xVar W 2) (xVar W 1)))))
def b_Keeper_held {T : Tbl} (W : Wd T) (φ : Sem) : XS W :=
  (xsRet (xmP (xList (xFld (xVar W 0) "_held"))))
def b_Keeper_least_back {T : Tbl} (W : Wd T) (φ : Sem) : XS W :=
  (xsRet (xmP (xFld (xVar W 0) "_least_back")))
def b_Pass___init__ {T : Tbl} (W : Wd T) (φ : Sem) : XS W :=
  (xsSeq (xsFld (plVar W 0) "path" (xmVar W 1))
  (xsSeq (xsFld (plVar W 0) "how" (xmVar W 2))
  (xsSeq (xsFld (plVar W 0) "build" (xmVar W 3))
  (xsSeq (xsFld (plVar W 0) "bound" (xmVar W 4))
  (xsSeq (xsFld (plVar W 0) "kept" (xmVar W 5))
  (xsSeq (xsFld (plVar W 0) "met" (xmVar W 6))
  (xsSeq (xsFld (plVar W 0) "left_done" (xmP (xLst (xaNil W))))
  (xsSeq (xsFld (plVar W 0) "left_rest" (xmP (xLst (xaNil W))))
  (xsSeq (xsFld (plVar W 0) "right_done" (xmP (xLst (xaNil W))))
  (xsFld (plVar W 0) "right_rest" (xmP (xLst (xaNil W)))))))))))))
def l1_choose_kept {T : Tbl} (W : Wd T) (φ : Sem) : XS W :=
  (xsExpr (xmMeth φ "offer" 2 (plVar W 3) (xaCons (xTup (xaCons (xVar W 5) (xaCons (xVar W 4) (xaNil W)))) (xaNil W))))
def b_choose_kept {T : Tbl} (W : Wd T) (φ : Sem) : XS W :=
  (xsSeq (xsIf (xtAnd (xtV (xGt (xLenU φ (xaCons (xVar W 0) (xaNil W))) (xFld (xVar W 2) "room"))) (xtV (xLt (xVar W 1) (xFld (xVar W 2) "keep_from")))) (xsRet (xmP (xTup (xaCons (xStr W "none") (xaCons (xLst (xaNil W)) (xaCons (xNon W) (xaNil W))))))) (xsNext W))
  (xsSeq (xsAsg 3 (xmP (xMake φ "Keeper" "Keeper.__init__" 2 (xaCons (xFld (xVar W 2) "room") (xaNil W)) [] [] (fun _ => .nil))))
  (xsSeq (xsFrz [0] (xsFor (xiSeq (xVar W 0)) (xgT 3 (xgsCons (xgN W 4) (xgsCons (xgN W 5) (xgsCons (xgN W 6) (xgsNil W))))) (l1_choose_kept W φ)))
  (xsSeq (xsFrz [3] (xsAsg 7 (xmMeth φ "least_back" 1 (plVar W 3) (xaNil W))))
  (xsSeq (xsIf (xtV (xIsN (xVar W 7))) (xsFrz [3] (xsRet (xmP (xTup (xaCons (xStr W "all") (xaCons (xMeth φ "held" 1 (xVar W 3) (xaNil W)) (xaCons (xNon W) (xaNil W)))))))) (xsNext W))
  (xsFrz [3] (xsRet (xmP (xTup (xaCons (xStr W "some") (xaCons (xMeth φ "held" 1 (xVar W 3) (xaNil W)) (xaCons (xIx (xVar W 7) (xInt W 0)) (xaNil W)))))))))))))
def l1_meetings {T : Tbl} (W : Wd T) (φ : Sem) : XS W :=
  (xsDapp (plVar W 3) (xVar W 4) 5)
def l3_meetings {T : Tbl} (W : Wd T) (φ : Sem) : XS W :=
  (xsIf (xtV (xEq (xVar W 2) (xStr W "left"))) (xsExpr (xmAppend (plVar W 6) (xTup (xaCons (xVar W 8) (xaCons (xVar W 5) (xaNil W)))))) (xsExpr (xmAppend (plVar W 6) (xTup (xaCons (xVar W 5) (xaCons (xVar W 8) (xaNil W)))))))
def l2_meetings {T : Tbl} (W : Wd T) (φ : Sem) : XS W :=
  (xsFrz [3] (xsFor (xiSeq (xDget2 (xVar W 3) (xVar W 4) (xLst (xaNil W)))) (xgN W 8) (l3_meetings W φ)))
def b_meetings {T : Tbl} (W : Wd T) (φ : Sem) : XS W :=
  (xsSeq (xsAsg 3 (xmP (xDnew W)))
  (xsSeq (xsFrz [1] (xsFor (xiSeq (xVar W 1)) (xgT 2 (xgsCons (xgN W 4) (xgsCons (xgN W 5) (xgsNil W)))) (l1_meetings W φ)))
  (xsSeq (xsAsg 6 (xmP (xLst (xaNil W))))
  (xsSeq (xsFrz [0] (xsFor (xiSeq (xVar W 0)) (xgT 3 (xgsCons (xgN W 5) (xgsCons (xgN W 4) (xgsCons (xgN W 7) (xgsNil W))))) (l2_meetings W φ)))
  (xsRet (xmP (xSorted (xVar W 6))))))))
def l1_with_marks {T : Tbl} (W : Wd T) (φ : Sem) : XS W :=
  (xsExpr (xmAppend (plVar W 2) (xTup (xaCons (xVar W 3) (xaCons (xVar W 4) (xaCons (xOr (xVar W 5) (xDin false (xVar W 3) (xVar W 1))) (xaNil W)))))))
def b_with_marks {T : Tbl} (W : Wd T) (φ : Sem) : XS W :=
  (xsSeq (xsAsg 2 (xmP (xLst (xaNil W))))
  (xsSeq (xsFor (xiSeq (xSorted (xVar W 0))) (xgT 3 (xgsCons (xgN W 3) (xgsCons (xgN W 4) (xgsCons (xgN W 5) (xgsNil W))))) (l1_with_marks W φ))
  (xsRet (xmMove W 2))))
def b_is_finished {T : Tbl} (W : Wd T) (φ : Sem) : XS W :=
  (xsSeq (xsIf (xtV (xNe (xFld (xVar W 1) "how") (xStr W "some"))) (xsRet (xmP (xEq (xFld (xVar W 1) "how") (xStr W "all")))) (xsNext W))
  (xsSeq (xsIf (xtTru (xVar W 2)) (xsRet (xmP (xDin false (xIx (xVar W 0) (xInt W 0)) (xVar W 3)))) (xsNext W))
  (xsRet (xmP (xLt (xIx (xVar W 0) (xInt W 1)) (xFld (xVar W 1) "bound"))))))
def l1_make_pass {T : Tbl} (W : Wd T) (φ : Sem) : XS W :=
  (xsIf (xtTru (xCall (φ "is_finished") 4 (xaCons (xVar W 17) (xaCons (xVar W 13) (xaCons (xEq (xVar W 4) (xStr W "left")) (xaCons (xVar W 14) (xaNil W))))) [] [] (fun _ => .nil))) (xsExpr (xmAppend (plFld (plVar W 13) "left_done") (xVar W 17))) (xsExpr (xmAppend (plFld (plVar W 13) "left_rest") (xVar W 17))))
def l2_make_pass {T : Tbl} (W : Wd T) (φ : Sem) : XS W :=
  (xsIf (xtTru (xCall (φ "is_finished") 4 (xaCons (xVar W 17) (xaCons (xVar W 13) (xaCons (xEq (xVar W 4) (xStr W "right")) (xaCons (xVar W 14) (xaNil W))))) [] [] (fun _ => .nil))) (xsExpr (xmAppend (plFld (plVar W 13) "right_done") (xVar W 17))) (xsExpr (xmAppend (plFld (plVar W 13) "right_rest") (xVar W 17))))
def b_make_pass {T : Tbl} (W : Wd T) (φ : Sem) : XS W :=
  (xsSeq (xsFrz [3] (xsAsg 4 (xmMeth φ "build_side" 3 (plVar W 3) (xaCons (xLenU φ (xaCons (xVar W 1) (xaNil W))) (xaCons (xLenU φ (xaCons (xVar W 2) (xaNil W))) (xaNil W))))))
  (xsSeq (xsPar 5 6 (xaCons (xVar W 2) (xaCons (xVar W 1) (xaNil W))))
  (xsSeq (xsIf (xtV (xEq (xVar W 4) (xStr W "left"))) (xsPar 5 6 (xaCons (xVar W 1) (xaCons (xVar W 2) (xaNil W)))) (xsNext W))
  (xsSeq (xsFrz [5, 3] (xsAsgG (xgT 3 (xgsCons (xgN W 7) (xgsCons (xgN W 8) (xgsCons (xgN W 9) (xgsNil W))))) (xmP (xCall (φ "choose_kept") 3 (xaCons (xVar W 5) (xaCons (xLenU φ (xaCons (xVar W 0) (xaNil W))) (xaCons (xVar W 3) (xaNil W)))) [] [] (fun _ => .nil)))))
  (xsSeq (xsFrz [6, 8, 4] (xsAsg 10 (xmP (xCall (φ "meetings") 3 (xaCons (xVar W 6) (xaCons (xVar W 8) (xaCons (xVar W 4) (xaNil W)))) [] [] (fun _ => .nil)))))
  (xsSeq (xsFrz [0, 7, 4, 9, 10] (xsAsg 13 (xmP (xMake φ "Pass" "Pass.__init__" 7 (xaCons (xVar W 0) (xaCons (xVar W 7) (xaCons (xVar W 4) (xaCons (xVar W 9) (xaCons (xLc (xiSeq (xVar W 8)) (xgT 2 (xgsCons (xgN W 11) (xgsCons (xgN W 12) (xgsNil W)))) (xtYes W) (xVar W 12)) (xaCons (xVar W 10) (xaNil W))))))) [] [] (fun _ => .nil)))))
  (xsSeq (xsAsg 14 (xmP (xDc (xiSeq (xVar W 8)) (xgT 2 (xgsCons (xgN W 11) (xgsCons (xgN W 12) (xgsNil W)))) (xtYes W) (xVar W 12) (xBl W true))))
  (xsSeq (xsFor (xiSeq (xCall (φ "with_marks") 2 (xaCons (xVar W 1) (xaCons (xDc (xiSeq (xVar W 10)) (xgT 2 (xgsCons (xgN W 15) (xgsCons (xgN W 16) (xgsNil W)))) (xtYes W) (xVar W 15) (xBl W true)) (xaNil W))) [] [] (fun _ => .nil))) (xgN W 17) (l1_make_pass W φ))
  (xsSeq (xsFor (xiSeq (xCall (φ "with_marks") 2 (xaCons (xVar W 2) (xaCons (xDc (xiSeq (xVar W 10)) (xgT 2 (xgsCons (xgN W 15) (xgsCons (xgN W 16) (xgsNil W)))) (xtYes W) (xVar W 16) (xBl W true)) (xaNil W))) [] [] (fun _ => .nil))) (xgN W 17) (l2_make_pass W φ))
  (xsRet (xmMove W 13)))))))))))
def b_is_integer {T : Tbl} (W : Wd T) (φ : Sem) : XS W :=
  (xsRet (xmP (xAnd (xIsi (false, "int") (xVar W 0)) (xNot (xIsi (false, "bool") (xVar W 0))))))
def b_Plan___init__ {T : Tbl} (W : Wd T) (φ : Sem) : XS W :=
  (xsSeq (xsIf (xtOr (xtNot (xtTru (xCall (φ "is_integer") 1 (xaCons (xVar W 1) (xaNil W)) [] [] (fun _ => .nil)))) (xtOr (xtV (xLt (xVar W 1) (xInt W 1))) (xtV (xGt (xVar W 1) (xInt W 100))))) (xsNever W) (xsNext W))
  (xsSeq (xsIf (xtAnd (xtV (xNe (xVar W 2) (xStr W "left"))) (xtAnd (xtV (xNe (xVar W 2) (xStr W "right"))) (xtV (xNe (xVar W 2) (xStr W "lesser"))))) (xsNever W) (xsNext W))
  (xsSeq (xsIf (xtOr (xtNot (xtTru (xCall (φ "is_integer") 1 (xaCons (xVar W 3) (xaNil W)) [] [] (fun _ => .nil)))) (xtOr (xtV (xLt (xVar W 3) (xInt W 0))) (xtV (xGt (xVar W 3) (xInt W 8))))) (xsNever W) (xsNext W))
  (xsSeq (xsFld (plVar W 0) "room" (xmVar W 1))
  (xsSeq (xsFld (plVar W 0) "build" (xmVar W 2))
  (xsFld (plVar W 0) "keep_from" (xmVar W 3)))))))
def b_Plan_build_side {T : Tbl} (W : Wd T) (φ : Sem) : XS W :=
  (xsSeq (xsIf (xtV (xNe (xFld (xVar W 0) "build") (xStr W "lesser"))) (xsRet (xmP (xFld (xVar W 0) "build"))) (xsNext W))
  (xsSeq (xsIf (xtV (xLt (xVar W 1) (xVar W 2))) (xsRet (xmP (xStr W "left"))) (xsNext W))
  (xsRet (xmP (xStr W "right")))))
def l1_law_draws {T : Tbl} (W : Wd T) (φ : Sem) : XS W :=
  (xsSeq (xsAsg 7 (xmP (xInt W 0)))
  (xsSeq (xsIf (xtTru (xVar W 4)) (xsSeq (xsAsg 7 (xmP (xMod (xInt1 (xaCons (xVar W 3) (xaNil W))) (xInt W 1000))))
  (xsAsg 3 (xmP (xDiv (xVar W 3) (xInt W 1000))))) (xsIf (xtV (xGt (xVar W 3) (xInt W 0))) (xsSeq (xsAsg 8 (xmP (xMod (xInt1 (xaCons (xAdd (xMul (xVar W 3) (xAdd (xInt W 48271) (xMul (xInt W 6) (xVar W 6)))) (xMul (xInt W 69621) (xVar W 6))) (xaNil W))) (xInt W 2147483647))))
  (xsSeq (xsAsg 8 (xmP (xMod (xInt1 (xaCons (xAdd (xAdd (xMul (xVar W 8) (xVar W 8)) (xMul (xInt W 40692) (xVar W 6))) (xInt W 1)) (xaNil W))) (xInt W 2147483629))))
  (xsAsg 7 (xmP (xMod (xInt1 (xaCons (xVar W 8) (xaNil W))) (xInt W 1000)))))) (xsNext W)))
  (xsExpr (xmAppend (plVar W 5) (xVar W 7)))))
def b_law_draws {T : Tbl} (W : Wd T) (φ : Sem) : XS W :=
  (xsSeq (xsAsg 3 (xmP (xInt W 0)))
  (xsSeq (xsIf (xtV (xLt (xVar W 1) (xLenU φ (xaCons (xVar W 0) (xaNil W))))) (xsAsg 3 (xmP (xAbs (xaCons (xIx (xVar W 0) (xVar W 1)) (xaNil W))))) (xsNext W))
  (xsSeq (xsAsg 4 (xmP (xGe (xVar W 3) (xPow (xInt W 10) (xInt W 18)))))
  (xsSeq (xsAsg 5 (xmP (xLst (xaNil W))))
  (xsSeq (xsFor (xiR1 (xaCons (xVar W 2) (xaNil W))) (xgN W 6) (l1_law_draws W φ))
  (xsRet (xmMove W 5)))))))
def l1_law_records {T : Tbl} (W : Wd T) (φ : Sem) : XS W :=
  (xsSeq (xsFrz [0] (xsAsg 6 (xmP (xCall (φ "_law_draws") 3 (xaCons (xVar W 0) (xaCons (xAdd (xVar W 1) (xVar W 5)) (xaCons (xInt W 4) (xaNil W)))) [] [] (fun _ => .nil)))))
  (xsSeq (xsAsg 7 (xmP (xTup (xaCons (xAdd (xMul (xInt W 3) (xVar W 5)) (xMod (xInt1 (xaCons (xIx (xVar W 6) (xInt W 1)) (xaNil W))) (xInt W 3))) (xaCons (xSub (xMod (xInt1 (xaCons (xIx (xVar W 6) (xInt W 0)) (xaNil W))) (xVar W 3)) (xDiv (xVar W 3) (xInt W 3))) (xaCons (xEq (xMod (xInt1 (xaCons (xIx (xVar W 6) (xInt W 2)) (xaNil W))) (xInt W 4)) (xInt W 1)) (xaNil W)))))))
  (xsExpr (xmInsert (plVar W 4) (xMod (xInt1 (xaCons (xIx (xVar W 6) (xInt W 3)) (xaNil W))) (xAdd (xLenU φ (xaCons (xVar W 4) (xaNil W))) (xInt W 1))) (xVar W 7)))))
def b_law_records {T : Tbl} (W : Wd T) (φ : Sem) : XS W :=
  (xsSeq (xsAsg 4 (xmP (xLst (xaNil W))))
  (xsSeq (xsFor (xiR1 (xaCons (xVar W 2) (xaNil W))) (xgN W 5) (l1_law_records W φ))
  (xsRet (xmMove W 4))))
def b_law_fields {T : Tbl} (W : Wd T) (φ : Sem) : XS W :=
  (xsSeq (xsAsg 1 (xmP (xLst (xaCons (xFld (xVar W 0) "path") (xaCons (xFld (xVar W 0) "how") (xaCons (xFld (xVar W 0) "build") (xaCons (xFld (xVar W 0) "bound") (xaCons (xList (xFld (xVar W 0) "kept")) (xaCons (xList (xFld (xVar W 0) "met")) (xaNil W))))))))))
  (xsRet (xmP (xAdd (xVar W 1) (xLst (xaCons (xList (xFld (xVar W 0) "left_done")) (xaCons (xList (xFld (xVar W 0) "left_rest")) (xaCons (xList (xFld (xVar W 0) "right_done")) (xaCons (xList (xFld (xVar W 0) "right_rest")) (xaNil W))))))))))
def l1_law {T : Tbl} (W : Wd T) (φ : Sem) : XS W :=
  (xsSeq (xsAsg 13 (xmP (xLst2O (xList (xIx (xVar W 12) (xInt W 0))) (xList (xIx (xVar W 12) (xInt W 1))))))
  (xsSeq (xsFrz [8, 6] (xsAsg 14 (xmP (xpLendI 13 0 (xpLendI 13 1 (xCall (φ "make_pass") 4 (xaCons (xVar W 8) (xaCons (xIx (xVar W 13) (xInt W 0)) (xaCons (xIx (xVar W 13) (xInt W 1)) (xaCons (xVar W 6) (xaNil W))))) [] [] (fun _ => .nil)))))))
  (xsSeq (xsFrz [14] (xsIf (xtOr (xtV (xNe (xVar W 13) (xVar W 12))) (xtV (xNe (xCall (φ "_law_fields") 1 (xaCons (xVar W 14) (xaNil W)) [] [] (fun _ => .nil)) (xVar W 10)))) (xsRet (xmP (xBl W false))) (xsNext W)))
  (xsSeq (xsExpr (xmAppend (plIx (plVar W 13) (xInt W 0)) (xTup (xaCons (xInt W 99) (xaCons (xInt W 0) (xaCons (xBl W true) (xaNil W)))))))
  (xsSeq (xsExpr (xmAppend (plIx (plVar W 13) (xInt W 1)) (xTup (xaCons (xInt W 99) (xaCons (xInt W 0) (xaCons (xBl W true) (xaNil W)))))))
  (xsIf (xtV (xNe (xCall (φ "_law_fields") 1 (xaCons (xVar W 14) (xaNil W)) [] [] (fun _ => .nil)) (xVar W 10))) (xsRet (xmP (xBl W false))) (xsNext W)))))))
def b_law {T : Tbl} (W : Wd T) (φ : Sem) : XS W :=
  (xsSeq (xsFrz [0] (xsAsg 1 (xmP (xCall (φ "_law_draws") 3 (xaCons (xVar W 0) (xaCons (xInt W 0) (xaCons (xInt W 7) (xaNil W)))) [] [] (fun _ => .nil)))))
  (xsSeq (xsAsg 2 (xmP (xAdd (xInt W 1) (xMod (xInt1 (xaCons (xIx (xVar W 1) (xInt W 2)) (xaNil W))) (xInt W 6)))))
  (xsSeq (xsFrz [0, 2] (xsAsg 3 (xmP (xCall (φ "_law_records") 4 (xaCons (xVar W 0) (xaCons (xInt W 1) (xaCons (xMod (xInt1 (xaCons (xIx (xVar W 1) (xInt W 0)) (xaNil W))) (xInt W 17)) (xaCons (xVar W 2) (xaNil W))))) [] [] (fun _ => .nil)))))
  (xsSeq (xsFrz [3] (xsFrz [0, 2] (xsAsg 4 (xmP (xCall (φ "_law_records") 4 (xaCons (xVar W 0) (xaCons (xInt W 18) (xaCons (xMod (xInt1 (xaCons (xIx (xVar W 1) (xInt W 1)) (xaNil W))) (xInt W 17)) (xaCons (xVar W 2) (xaNil W))))) [] [] (fun _ => .nil))))))
  (xsSeq (xsFrz [4] (xsAsg 5 (xmP (xIx (xLst (xaCons (xStr W "right") (xaCons (xStr W "left") (xaCons (xStr W "lesser") (xaNil W))))) (xMod (xInt1 (xaCons (xIx (xVar W 1) (xInt W 3)) (xaNil W))) (xInt W 3))))))
  (xsSeq (xsAsg 6 (xmP (xMakeN φ "Plan" "Plan.__init__" 0 3 4 [false, false, false] [] (by decide) (xaNil W) (xaCons (xAdd (xInt W 1) (xMod (xInt1 (xaCons (xIx (xVar W 1) (xInt W 4)) (xaNil W))) (xInt W 6))) (xaCons (xVar W 5) (xaCons (xMod (xInt1 (xaCons (xIx (xVar W 1) (xInt W 5)) (xaNil W))) (xInt W 4)) (xaNil W)))))))
  (xsSeq (xsFrz [6] (xsAsg 8 (xmP (xTuple (xLc (xiR1 (xaCons (xMod (xInt1 (xaCons (xIx (xVar W 1) (xInt W 6)) (xaNil W))) (xInt W 4)) (xaNil W))) (xgN W 7) (xtYes W) (xInt W 3))))))
  (xsSeq (xsFrz [8, 3, 4, 6] (xsAsg 9 (xmP (xCall (φ "make_pass") 4 (xaCons (xVar W 8) (xaCons (xVar W 3) (xaCons (xVar W 4) (xaCons (xVar W 6) (xaNil W))))) [] [] (fun _ => .nil)))))
  (xsSeq (xsFrz [9] (xsFrz [9] (xsAsg 10 (xmP (xCall (φ "_law_fields") 1 (xaCons (xVar W 9) (xaNil W)) [] [] (fun _ => .nil))))))
  (xsSeq (xsAsg 11 (xmP (xLst (xaCons (xLst (xaCons (xSorted (xVar W 3)) (xaCons (xSorted (xVar W 4)) (xaNil W)))) (xaCons (xLst (xaCons (xSortedR (xVar W 3)) (xaCons (xSortedR (xVar W 4)) (xaNil W)))) (xaNil W))))))
  (xsSeq (xsExpr (xmAppend (plVar W 11) (xLst (xaCons (xSortedR (xVar W 3)) (xaCons (xSorted (xVar W 4)) (xaNil W))))))
  (xsSeq (xsExpr (xmAppend (plVar W 11) (xLst (xaCons (xList (xVar W 3)) (xaCons (xList (xVar W 4)) (xaNil W))))))
  (xsSeq (xsFrz [11] (xsFor (xiSeq (xVar W 11)) (xgN W 12) (l1_law W φ)))
  (xsRet (xmP (xAnd (xEq (xCall (φ "_law_fields") 1 (xaCons (xVar W 9) (xaNil W)) [] [] (fun _ => .nil)) (xVar W 10)) (xEq (xCall (φ "_law_fields") 1 (xaCons (xCall (φ "make_pass") 4 (xaCons (xVar W 8) (xaCons (xVar W 3) (xaCons (xVar W 4) (xaCons (xVar W 6) (xaNil W))))) [] [] (fun _ => .nil)) (xaNil W)) [] [] (fun _ => .nil)) (xVar W 10))))))))))))))))))
def itT (c : String) : Option String :=  none
def TT : Tbl := ⟨fun c f => (fldL c).contains f, fun _ _ => none, subT, resT, itT, xsubT⟩
theorem ik_Keeper : TT.it "Keeper" = none := by simp [TT, itT]
theorem fk_Keeper__room : TT.fOk "Keeper" "_room" = true := by simp [TT, fldL]
theorem fk_Keeper__held : TT.fOk "Keeper" "_held" = true := by simp [TT, fldL]
theorem fk_Keeper__least_back : TT.fOk "Keeper" "_least_back" = true := by simp [TT, fldL]
theorem rs_Keeper___len__ : TT.res "Keeper" "__len__" = some "Keeper.__len__" := by simp [TT, resT]
theorem rs_Keeper__hold : TT.res "Keeper" "_hold" = some "Keeper._hold" := by simp [TT, resT]
theorem rs_Keeper_build_side : TT.res "Keeper" "build_side" = none := by simp [TT, resT]
theorem rs_Keeper_held : TT.res "Keeper" "held" = some "Keeper.held" := by simp [TT, resT]
theorem rs_Keeper_least_back : TT.res "Keeper" "least_back" = some "Keeper.least_back" := by simp [TT, resT]
theorem rs_Keeper_offer : TT.res "Keeper" "offer" = some "Keeper.offer" := by simp [TT, resT]
theorem sb_Keeper_Keeper : TT.sub "Keeper" "Keeper" = true := by simp [TT, subT]
theorem sb_Keeper_Pass : TT.sub "Keeper" "Pass" = false := by simp [TT, subT]
theorem sb_Keeper_Plan : TT.sub "Keeper" "Plan" = false := by simp [TT, subT]
theorem ik_Pass : TT.it "Pass" = none := by simp [TT, itT]
theorem fk_Pass_path : TT.fOk "Pass" "path" = true := by simp [TT, fldL]
theorem fk_Pass_how : TT.fOk "Pass" "how" = true := by simp [TT, fldL]
theorem fk_Pass_build : TT.fOk "Pass" "build" = true := by simp [TT, fldL]
theorem fk_Pass_bound : TT.fOk "Pass" "bound" = true := by simp [TT, fldL]
theorem fk_Pass_kept : TT.fOk "Pass" "kept" = true := by simp [TT, fldL]
theorem fk_Pass_met : TT.fOk "Pass" "met" = true := by simp [TT, fldL]
theorem fk_Pass_left_done : TT.fOk "Pass" "left_done" = true := by simp [TT, fldL]
theorem fk_Pass_left_rest : TT.fOk "Pass" "left_rest" = true := by simp [TT, fldL]
theorem fk_Pass_right_done : TT.fOk "Pass" "right_done" = true := by simp [TT, fldL]
theorem fk_Pass_right_rest : TT.fOk "Pass" "right_rest" = true := by simp [TT, fldL]
theorem rs_Pass___len__ : TT.res "Pass" "__len__" = none := by simp [TT, resT]
theorem rs_Pass__hold : TT.res "Pass" "_hold" = none := by simp [TT, resT]
theorem rs_Pass_build_side : TT.res "Pass" "build_side" = none := by simp [TT, resT]
theorem rs_Pass_held : TT.res "Pass" "held" = none := by simp [TT, resT]
theorem rs_Pass_least_back : TT.res "Pass" "least_back" = none := by simp [TT, resT]
theorem rs_Pass_offer : TT.res "Pass" "offer" = none := by simp [TT, resT]
theorem sb_Pass_Keeper : TT.sub "Pass" "Keeper" = false := by simp [TT, subT]
theorem sb_Pass_Pass : TT.sub "Pass" "Pass" = true := by simp [TT, subT]
theorem sb_Pass_Plan : TT.sub "Pass" "Plan" = false := by simp [TT, subT]
theorem ik_Plan : TT.it "Plan" = none := by simp [TT, itT]
theorem fk_Plan_room : TT.fOk "Plan" "room" = true := by simp [TT, fldL]
theorem fk_Plan_build : TT.fOk "Plan" "build" = true := by simp [TT, fldL]
theorem fk_Plan_keep_from : TT.fOk "Plan" "keep_from" = true := by simp [TT, fldL]
theorem rs_Plan___len__ : TT.res "Plan" "__len__" = none := by simp [TT, resT]
theorem rs_Plan__hold : TT.res "Plan" "_hold" = none := by simp [TT, resT]
theorem rs_Plan_build_side : TT.res "Plan" "build_side" = some "Plan.build_side" := by simp [TT, resT]
theorem rs_Plan_held : TT.res "Plan" "held" = none := by simp [TT, resT]
theorem rs_Plan_least_back : TT.res "Plan" "least_back" = none := by simp [TT, resT]
theorem rs_Plan_offer : TT.res "Plan" "offer" = none := by simp [TT, resT]
theorem sb_Plan_Keeper : TT.sub "Plan" "Keeper" = false := by simp [TT, subT]
theorem sb_Plan_Pass : TT.sub "Plan" "Pass" = false := by simp [TT, subT]
theorem sb_Plan_Plan : TT.sub "Plan" "Plan" = true := by simp [TT, subT]
def tbl {T : Tbl} (W : Wd T) : String -> Option (Sem -> List D -> Option Nat -> Rz)
  | "Keeper.__init__" => some fun φ => runFn 2 (b_Keeper___init__ W φ)
  | "Keeper.__len__" => some fun φ => runFn 1 (b_Keeper___len__ W φ)
  | "Keeper.offer" => some fun φ => runFn 3 (b_Keeper_offer W φ)
  | "Keeper._hold" => some fun φ => runFn 3 (b_Keeper__hold W φ)
  | "Keeper.held" => some fun φ => runFn 1 (b_Keeper_held W φ)
  | "Keeper.least_back" => some fun φ => runFn 1 (b_Keeper_least_back W φ)
  | "Pass.__init__" => some fun φ => runFn 7 (b_Pass___init__ W φ)
  | "choose_kept" => some fun φ => runFn 8 (b_choose_kept W φ)
  | "meetings" => some fun φ => runFn 9 (b_meetings W φ)
  | "with_marks" => some fun φ => runFn 6 (b_with_marks W φ)
  | "is_finished" => some fun φ => runFn 4 (b_is_finished W φ)
  | "make_pass" => some fun φ => runFn 18 (b_make_pass W φ)
  | "is_integer" => some fun φ => runFn 1 (b_is_integer W φ)
  | "Plan.__init__" => some fun φ => runFn 4 (b_Plan___init__ W φ)
  | "Plan.build_side" => some fun φ => runFn 3 (b_Plan_build_side W φ)
  | "_law_draws" => some fun φ => runFn 9 (b_law_draws W φ)
  | "_law_records" => some fun φ => runFn 8 (b_law_records W φ)
  | "_law_fields" => some fun φ => runFn 2 (b_law_fields W φ)
  | _ => none
theorem sem_Keeper___init__ {T : Tbl} (W : Wd T) (k : Nat) (args : List D) (b : Option Nat) : semT (tbl W) (k + 1) "Keeper.__init__" args b = runFn 2 (b_Keeper___init__ W (semT (tbl W) k)) args b := rfl
theorem sem_Keeper_offer {T : Tbl} (W : Wd T) (k : Nat) (args : List D) (b : Option Nat) : semT (tbl W) (k + 1) "Keeper.offer" args b = runFn 3 (b_Keeper_offer W (semT (tbl W) k)) args b := rfl
theorem sem_Keeper__hold {T : Tbl} (W : Wd T) (k : Nat) (args : List D) (b : Option Nat) : semT (tbl W) (k + 1) "Keeper._hold" args b = runFn 3 (b_Keeper__hold W (semT (tbl W) k)) args b := rfl
theorem sem_Keeper_held {T : Tbl} (W : Wd T) (k : Nat) (args : List D) (b : Option Nat) : semT (tbl W) (k + 1) "Keeper.held" args b = runFn 1 (b_Keeper_held W (semT (tbl W) k)) args b := rfl
theorem sem_Keeper_least_back {T : Tbl} (W : Wd T) (k : Nat) (args : List D) (b : Option Nat) : semT (tbl W) (k + 1) "Keeper.least_back" args b = runFn 1 (b_Keeper_least_back W (semT (tbl W) k)) args b := rfl
theorem sem_Pass___init__ {T : Tbl} (W : Wd T) (k : Nat) (args : List D) (b : Option Nat) : semT (tbl W) (k + 1) "Pass.__init__" args b = runFn 7 (b_Pass___init__ W (semT (tbl W) k)) args b := rfl
theorem sem_choose_kept {T : Tbl} (W : Wd T) (k : Nat) (args : List D) (b : Option Nat) : semT (tbl W) (k + 1) "choose_kept" args b = runFn 8 (b_choose_kept W (semT (tbl W) k)) args b := rfl
theorem sem_meetings {T : Tbl} (W : Wd T) (k : Nat) (args : List D) (b : Option Nat) : semT (tbl W) (k + 1) "meetings" args b = runFn 9 (b_meetings W (semT (tbl W) k)) args b := rfl
theorem sem_with_marks {T : Tbl} (W : Wd T) (k : Nat) (args : List D) (b : Option Nat) : semT (tbl W) (k + 1) "with_marks" args b = runFn 6 (b_with_marks W (semT (tbl W) k)) args b := rfl
theorem sem_is_finished {T : Tbl} (W : Wd T) (k : Nat) (args : List D) (b : Option Nat) : semT (tbl W) (k + 1) "is_finished" args b = runFn 4 (b_is_finished W (semT (tbl W) k)) args b := rfl
theorem sem_make_pass {T : Tbl} (W : Wd T) (k : Nat) (args : List D) (b : Option Nat) : semT (tbl W) (k + 1) "make_pass" args b = runFn 18 (b_make_pass W (semT (tbl W) k)) args b := rfl
theorem sem_is_integer {T : Tbl} (W : Wd T) (k : Nat) (args : List D) (b : Option Nat) : semT (tbl W) (k + 1) "is_integer" args b = runFn 1 (b_is_integer W (semT (tbl W) k)) args b := rfl
theorem sem_Plan___init__ {T : Tbl} (W : Wd T) (k : Nat) (args : List D) (b : Option Nat) : semT (tbl W) (k + 1) "Plan.__init__" args b = runFn 4 (b_Plan___init__ W (semT (tbl W) k)) args b := rfl
theorem sem_Plan_build_side {T : Tbl} (W : Wd T) (k : Nat) (args : List D) (b : Option Nat) : semT (tbl W) (k + 1) "Plan.build_side" args b = runFn 3 (b_Plan_build_side W (semT (tbl W) k)) args b := rfl
theorem sem_law_draws {T : Tbl} (W : Wd T) (k : Nat) (args : List D) (b : Option Nat) : semT (tbl W) (k + 1) "_law_draws" args b = runFn 9 (b_law_draws W (semT (tbl W) k)) args b := rfl
theorem sem_law_records {T : Tbl} (W : Wd T) (k : Nat) (args : List D) (b : Option Nat) : semT (tbl W) (k + 1) "_law_records" args b = runFn 8 (b_law_records W (semT (tbl W) k)) args b := rfl
theorem sem_law_fields {T : Tbl} (W : Wd T) (k : Nat) (args : List D) (b : Option Nat) : semT (tbl W) (k + 1) "_law_fields" args b = runFn 2 (b_law_fields W (semT (tbl W) k)) args b := rfl
end Py
namespace Py
open PySem L2
local macro_rules | `(tactic| dsimp? only [$xs,*]) => `(tactic| dsimp only [$xs,*, xpLendI, xLst2O, xsSeq, xsNext, xsNever, xsAsg, xsAsgG, xsExpr, xsRet, xsIf, xsFrz, xsFor, xsWhile, xsAug, xmP, xmVar, xmMove, xmBM, xmBM0, xmAppend, xmInsert, xmPop, plVar, plFld, plIx, xoNil, xoCons, xVar, xC, xInt, xBl, xNon, xStr, xOp, xSub, xMul, xDiv, xMod, xPow, xNeg, xAdd, xEq, xNe, xLt, xCmp, xGt, xGe, xIsN, xAnd, xOr, xNot, xtV, xtTru, xtAnd, xtOr, xtNot, xtYes, xaNil, xaCons, xTup, xLst, xCb, xInt1, xAbs, xIx, xFld, xList, xTuple, xIsi, xCall, xgN, xgsNil, xgsCons, xgT, xiSeq, xiR1, xLc, xSorted, xMeth, xmMeth, xMake, xLenU, xsFld, xSortedR, xMakeN, xDnew, xDget2, xDin, tInK, xDc, xsDapp, xsPar, xiSeq, xVar, List.map_cons, List.map_nil])
abbrev N_choose_kept : List Str := ["build_rows", "depth", "plan", "keeper", "number", "key", "_", "back"]
abbrev A_choose_kept : List Str := ["build_rows", "depth", "plan"]
theorem sc_choose_kept : FnScope N_choose_kept A_choose_kept (defScope s_choose_kept) := ⟨rfl, rfl, rfl, by decide +kernel, rfl, by decide +kernel, by decide +kernel⟩
theorem bp_choose_kept : BindsP "choose_kept" "choose_kept" s_choose_kept A_choose_kept := fun _ _ _ _ _ _ us hl => match us, hl with | [_, _, _], _ => rfl
abbrev N_meetings : List Str := ["probe_rows", "kept", "build", "by_key", "key", "number", "pairs", "_", "other"]
abbrev A_meetings : List Str := ["probe_rows", "kept", "build"]
theorem sc_meetings : FnScope N_meetings A_meetings (defScope s_meetings) := ⟨rfl, rfl, rfl, by decide +kernel, rfl, by decide +kernel, by decide +kernel⟩
theorem bp_meetings : BindsP "meetings" "meetings" s_meetings A_meetings := fun _ _ _ _ _ _ us hl => match us, hl with | [_, _, _], _ => rfl
abbrev N_with_marks : List Str := ["rows", "met_now", "marked", "number", "key", "met"]
abbrev A_with_marks : List Str := ["rows", "met_now"]
theorem sc_with_marks : FnScope N_with_marks A_with_marks (defScope s_with_marks) := ⟨rfl, rfl, rfl, by decide +kernel, rfl, by decide +kernel, by decide +kernel⟩
theorem bp_with_marks : BindsP "with_marks" "with_marks" s_with_marks A_with_marks := fun _ _ _ _ _ _ us hl => match us, hl with | [_, _], _ => rfl
abbrev N_is_finished : List Str := ["record", "step", "builds", "kept"]
abbrev A_is_finished : List Str := ["record", "step", "builds", "kept"]
theorem sc_is_finished : FnScope N_is_finished A_is_finished (defScope s_is_finished) := ⟨rfl, rfl, rfl, by decide +kernel, rfl, by decide +kernel, by decide +kernel⟩
theorem bp_is_finished : BindsP "is_finished" "is_finished" s_is_finished A_is_finished := fun _ _ _ _ _ _ us hl => match us, hl with | [_, _, _, _], _ => rfl
abbrev N_make_pass : List Str := ["path", "left_rows", "right_rows", "plan", "build", "build_rows", "probe_rows", "how", "kept", "bound", "met", "key", "number", "step", "kept_numbers", "i", "j", "record"]
abbrev A_make_pass : List Str := ["path", "left_rows", "right_rows", "plan"]
theorem sc_make_pass : FnScope N_make_pass A_make_pass (defScope s_make_pass) := ⟨rfl, rfl, rfl, by decide +kernel, rfl, by decide +kernel, by decide +kernel⟩
theorem bp_make_pass : BindsP "make_pass" "make_pass" s_make_pass A_make_pass := fun _ _ _ _ _ _ us hl => match us, hl with | [_, _, _, _], _ => rfl
abbrev N_is_integer : List Str := ["thing"]
abbrev A_is_integer : List Str := ["thing"]
theorem sc_is_integer : FnScope N_is_integer A_is_integer (defScope s_is_integer) := ⟨rfl, rfl, rfl, by decide +kernel, rfl, by decide +kernel, by decide +kernel⟩
theorem bp_is_integer : BindsP "is_integer" "is_integer" s_is_integer A_is_integer := fun _ _ _ _ _ _ us hl => match us, hl with | [_], _ => rfl
abbrev N_law_draws : List Str := ["_law_script", "_law_at", "_law_many", "_law_number", "_law_big", "_law_found", "_law_k", "_law_draw", "_law_mixed"]
abbrev A_law_draws : List Str := ["_law_script", "_law_at", "_law_many"]
theorem sc_law_draws : FnScope N_law_draws A_law_draws (defScope s_law_draws) := ⟨rfl, rfl, rfl, by decide +kernel, rfl, by decide +kernel, by decide +kernel⟩
theorem bp_law_draws : BindsP "_law_draws" "_law_draws" s_law_draws A_law_draws := fun _ _ _ _ _ _ us hl => match us, hl with | [_, _, _], _ => rfl
abbrev N_law_records : List Str := ["_law_script", "_law_first", "_law_many", "_law_spread", "_law_records_here", "_law_k", "_law_draws_here", "_law_record"]
abbrev A_law_records : List Str := ["_law_script", "_law_first", "_law_many", "_law_spread"]
theorem sc_law_records : FnScope N_law_records A_law_records (defScope s_law_records) := ⟨rfl, rfl, rfl, by decide +kernel, rfl, by decide +kernel, by decide +kernel⟩
theorem bp_law_records : BindsP "_law_records" "_law_records" s_law_records A_law_records := fun _ _ _ _ _ _ us hl => match us, hl with | [_, _, _, _], _ => rfl
abbrev N_law_fields : List Str := ["_law_step", "_law_heads"]
abbrev A_law_fields : List Str := ["_law_step"]
theorem sc_law_fields : FnScope N_law_fields A_law_fields (defScope s_law_fields) := ⟨rfl, rfl, rfl, by decide +kernel, rfl, by decide +kernel, by decide +kernel⟩
theorem bp_law_fields : BindsP "_law_fields" "_law_fields" s_law_fields A_law_fields := fun _ _ _ _ _ _ us hl => match us, hl with | [_], _ => rfl
abbrev N_Keeper___init__ : List Str := ["self", "room"]
abbrev A_Keeper___init__ : List Str := ["self", "room"]
theorem sc_Keeper___init__ : FnScope N_Keeper___init__ A_Keeper___init__ (defScope s_Keeper___init__) := ⟨rfl, rfl, rfl, by decide +kernel, rfl, by decide +kernel, by decide +kernel⟩
theorem bp_Keeper___init__ : BindsP "__init__" "Keeper.__init__" s_Keeper___init__ A_Keeper___init__ := fun _ _ _ _ _ _ us hl => match us, hl with | [_, _], _ => rfl
abbrev N_Keeper___len__ : List Str := ["self"]
abbrev A_Keeper___len__ : List Str := ["self"]
theorem sc_Keeper___len__ : FnScope N_Keeper___len__ A_Keeper___len__ (defScope s_Keeper___len__) := ⟨rfl, rfl, rfl, by decide +kernel, rfl, by decide +kernel, by decide +kernel⟩
theorem bp_Keeper___len__ : BindsP "__len__" "Keeper.__len__" s_Keeper___len__ A_Keeper___len__ := fun _ _ _ _ _ _ us hl => match us, hl with | [_], _ => rfl
abbrev N_Keeper_offer : List Str := ["self", "row", "back"]
abbrev A_Keeper_offer : List Str := ["self", "row"]
theorem sc_Keeper_offer : FnScope N_Keeper_offer A_Keeper_offer (defScope s_Keeper_offer) := ⟨rfl, rfl, rfl, by decide +kernel, rfl, by decide +kernel, by decide +kernel⟩
theorem bp_Keeper_offer : BindsP "offer" "Keeper.offer" s_Keeper_offer A_Keeper_offer := fun _ _ _ _ _ _ us hl => match us, hl with | [_, _], _ => rfl
abbrev N_Keeper__hold : List Str := ["self", "row", "place"]
abbrev A_Keeper__hold : List Str := ["self", "row"]
theorem sc_Keeper__hold : FnScope N_Keeper__hold A_Keeper__hold (defScope s_Keeper__hold) := ⟨rfl, rfl, rfl, by decide +kernel, rfl, by decide +kernel, by decide +kernel⟩
theorem bp_Keeper__hold : BindsP "_hold" "Keeper._hold" s_Keeper__hold A_Keeper__hold := fun _ _ _ _ _ _ us hl => match us, hl with | [_, _], _ => rfl
abbrev N_Keeper_held : List Str := ["self"]
abbrev A_Keeper_held : List Str := ["self"]
theorem sc_Keeper_held : FnScope N_Keeper_held A_Keeper_held (defScope s_Keeper_held) := ⟨rfl, rfl, rfl, by decide +kernel, rfl, by decide +kernel, by decide +kernel⟩
theorem bp_Keeper_held : BindsP "held" "Keeper.held" s_Keeper_held A_Keeper_held := fun _ _ _ _ _ _ us hl => match us, hl with | [_], _ => rfl
abbrev N_Keeper_least_back : List Str := ["self"]
abbrev A_Keeper_least_back : List Str := ["self"]
theorem sc_Keeper_least_back : FnScope N_Keeper_least_back A_Keeper_least_back (defScope s_Keeper_least_back) := ⟨rfl, rfl, rfl, by decide +kernel, rfl, by decide +kernel, by decide +kernel⟩
theorem bp_Keeper_least_back : BindsP "least_back" "Keeper.least_back" s_Keeper_least_back A_Keeper_least_back := fun _ _ _ _ _ _ us hl => match us, hl with | [_], _ => rfl
abbrev N_Pass___init__ : List Str := ["self", "path", "how", "build", "bound", "kept", "met"]
abbrev A_Pass___init__ : List Str := ["self", "path", "how", "build", "bound", "kept", "met"]
theorem sc_Pass___init__ : FnScope N_Pass___init__ A_Pass___init__ (defScope s_Pass___init__) := ⟨rfl, rfl, rfl, by decide +kernel, rfl, by decide +kernel, by decide +kernel⟩
theorem bp_Pass___init__ : BindsP "__init__" "Pass.__init__" s_Pass___init__ A_Pass___init__ := fun _ _ _ _ _ _ us hl => match us, hl with | [_, _, _, _, _, _, _], _ => rfl
abbrev N_Plan___init__ : List Str := ["self", "room", "build", "keep_from"]
abbrev A_Plan___init__ : List Str := ["self", "room", "build", "keep_from"]
theorem sc_Plan___init__ : FnScope N_Plan___init__ A_Plan___init__ (defScope s_Plan___init__) := ⟨rfl, rfl, rfl, by decide +kernel, rfl, by decide +kernel, by decide +kernel⟩
abbrev N_Plan_build_side : List Str := ["self", "left_rows", "right_rows"]
abbrev A_Plan_build_side : List Str := ["self", "left_rows", "right_rows"]
theorem sc_Plan_build_side : FnScope N_Plan_build_side A_Plan_build_side (defScope s_Plan_build_side) := ⟨rfl, rfl, rfl, by decide +kernel, rfl, by decide +kernel, by decide +kernel⟩
theorem bp_Plan_build_side : BindsP "build_side" "Plan.build_side" s_Plan_build_side A_Plan_build_side := fun _ _ _ _ _ _ us hl => match us, hl with | [_, _, _], _ => rfl
abbrev N_law : List Str := ["_law_script", "_law_shape", "_law_spread", "_law_left", "_law_right", "_law_build", "_law_plan", "_law_k", "_law_path", "_law_first", "_law_due", "_law_orders", "_law_order", "_law_copies", "_law_step"]
abbrev A_law : List Str := ["_law_script"]
theorem sc_law : FnScope N_law A_law (defScope s_law) := ⟨rfl, rfl, rfl, by decide +kernel, rfl, by decide +kernel, by decide +kernel⟩
theorem bp_law : BindsP "law" "law" s_law A_law := fun _ _ _ _ _ _ us hl => match us, hl with | [_], _ => rfl
section
variable {W : Wd TT} {mg : Str -> Option Value} {base : Heap}
structure Cs (W : Wd TT) (mg : Str -> Option Value) : Prop where
  hasL : ∀ c, W.has c -> c ∈ clsL
  dun : Dun W
  has_Keeper : W.has "Keeper"
  g_Keeper : mg "Keeper" = some (.ref (W.cA "Keeper"))
  a_Keeper___init__ : MethAt W.K (W.cA "Keeper") "__init__" "__init__" "Keeper.__init__" s_Keeper___init__ [] []
  a_Keeper___len__ : MethAt W.K (W.cA "Keeper") "__len__" "__len__" "Keeper.__len__" s_Keeper___len__ [] []
  a_Keeper_offer : MethAt W.K (W.cA "Keeper") "offer" "offer" "Keeper.offer" s_Keeper_offer [] []
  a_Keeper__hold : MethAt W.K (W.cA "Keeper") "_hold" "_hold" "Keeper._hold" s_Keeper__hold [] []
  a_Keeper_held : MethAt W.K (W.cA "Keeper") "held" "held" "Keeper.held" s_Keeper_held [] []
  a_Keeper_least_back : MethAt W.K (W.cA "Keeper") "least_back" "least_back" "Keeper.least_back" s_Keeper_least_back [] []
  k_Keeper : ∃ f, Mk W.K (W.cA "Keeper") f
  has_Pass : W.has "Pass"
  g_Pass : mg "Pass" = some (.ref (W.cA "Pass"))
  a_Pass___init__ : MethAt W.K (W.cA "Pass") "__init__" "__init__" "Pass.__init__" s_Pass___init__ [] []
  k_Pass : ∃ f, Mk W.K (W.cA "Pass") f
  has_Plan : W.has "Plan"
  g_Plan : mg "Plan" = some (.ref (W.cA "Plan"))
  a_Plan___init__ : MethAt W.K (W.cA "Plan") "__init__" "__init__" "Plan.__init__" s_Plan___init__ [] [("build", .str (so "right")), ("keep_from", .int 0)]
  a_Plan_build_side : MethAt W.K (W.cA "Plan") "build_side" "build_side" "Plan.build_side" s_Plan_build_side [] []
  k_Plan : ∃ f, Mk W.K (W.cA "Plan") f
  v_MOST_ROOM : ∃ t, mg "MOST_ROOM" = some (.int 100 t)
  v_DEEPEST_KEEP : ∃ t, mg "DEEPEST_KEEP" = some (.int 8 t)
structure Ds (W : Wd TT) (mg : Str -> Option Value) (base : Heap) (φ : Sem) (k : Nat) : Prop where
  its : Its W.P W.w W.K mg base W
  d_choose_kept : ∀ b, (∀ i, b = some i -> i < 3) -> Df W.P W.w W.K mg base (L2.CX W.P W.w) k "choose_kept" A_choose_kept (spR W 3 (φ "choose_kept") b)
  d_meetings : ∀ b, (∀ i, b = some i -> i < 3) -> Df W.P W.w W.K mg base (L2.CX W.P W.w) k "meetings" A_meetings (spR W 3 (φ "meetings") b)
  d_with_marks : ∀ b, (∀ i, b = some i -> i < 2) -> Df W.P W.w W.K mg base (L2.CX W.P W.w) k "with_marks" A_with_marks (spR W 2 (φ "with_marks") b)
  d_is_finished : ∀ b, (∀ i, b = some i -> i < 4) -> Df W.P W.w W.K mg base (L2.CX W.P W.w) k "is_finished" A_is_finished (spR W 4 (φ "is_finished") b)
  d_make_pass : ∀ b, (∀ i, b = some i -> i < 4) -> Df W.P W.w W.K mg base (L2.CX W.P W.w) k "make_pass" A_make_pass (spR W 4 (φ "make_pass") b)
  d_is_integer : ∀ b, (∀ i, b = some i -> i < 1) -> Df W.P W.w W.K mg base (L2.CX W.P W.w) k "is_integer" A_is_integer (spR W 1 (φ "is_integer") b)
  d_law_draws : ∀ b, (∀ i, b = some i -> i < 3) -> Df W.P W.w W.K mg base (L2.CX W.P W.w) k "_law_draws" A_law_draws (spR W 3 (φ "_law_draws") b)
  d_law_records : ∀ b, (∀ i, b = some i -> i < 4) -> Df W.P W.w W.K mg base (L2.CX W.P W.w) k "_law_records" A_law_records (spR W 4 (φ "_law_records") b)
  d_law_fields : ∀ b, (∀ i, b = some i -> i < 1) -> Df W.P W.w W.K mg base (L2.CX W.P W.w) k "_law_fields" A_law_fields (spR W 1 (φ "_law_fields") b)
  m___len__ : ∀ b, (∀ i, b = some i -> i < 1) -> Mt W.P W.w W.K mg base W k "__len__" 1 φ b
  m__hold : ∀ b, (∀ i, b = some i -> i < 2) -> Mt W.P W.w W.K mg base W k "_hold" 2 φ b
  m_build_side : ∀ b, (∀ i, b = some i -> i < 3) -> Mt W.P W.w W.K mg base W k "build_side" 3 φ b
  m_held : ∀ b, (∀ i, b = some i -> i < 1) -> Mt W.P W.w W.K mg base W k "held" 1 φ b
  m_least_back : ∀ b, (∀ i, b = some i -> i < 1) -> Mt W.P W.w W.K mg base W k "least_back" 1 φ b
  m_offer : ∀ b, (∀ i, b = some i -> i < 2) -> Mt W.P W.w W.K mg base W k "offer" 2 φ b
  mk_Keeper : MkAt W.P W.w W.K mg base k "Keeper" (W.cA "Keeper") 2 (spR W 2 (φ "Keeper.__init__") (some 0))
  mk_Pass : MkAt W.P W.w W.K mg base k "Pass" (W.cA "Pass") 7 (spR W 7 (φ "Pass.__init__") (some 0))
  mk_Plan : MkD W.P W.w W.K mg base k "Plan" (W.cA "Plan") "Plan.__init__" s_Plan___init__ [("build", .str (so "right")), ("keep_from", .int 0)] A_Plan___init__ (spR W 4 (φ "Plan.__init__") (some 0))
theorem it_all (C : Cs W mg) (B : Blt mg) : Its W.P W.w W.K mg base W := by
  refine ⟨fun c f hc hf => ?_⟩
  have hm := C.hasL c hc
  simp only [clsL, List.mem_cons, List.not_mem_nil, or_false] at hm
  rcases hm with rfl | rfl | rfl
  · rw [ik_Keeper] at hf; cases hf
  · rw [ik_Pass] at hf; cases hf
  · rw [ik_Plan] at hf; cases hf
theorem ks_Plan___init___0 {K : PySem.W.Frag} : KShape K "__init__" "Plan.__init__" s_Plan___init__ [("build", .str (so "right")), ("keep_from", .int 0)] A_Plan___init__ 1 ["room", "build", "keep_from"] [false, false, false] [] := kshape1 [] (by simp) (by simp) fun _ _ _ _ _ _ us mv ws h1 h2 h3 => match us, mv, ws, h1, h2, h3 with | [_], [], [_, _, _], _, _, _ => rfl
theorem ok_choose_kept {φ : Sem} {k : Nat} (D : Ds W mg base φ k) (C : Cs W mg) (D' : DefAt W.K mg "choose_kept" "choose_kept" s_choose_kept [] []) (B : Blt mg) : ∀ b, (∀ i, b = some i -> i < 3) -> Df W.P W.w W.K mg base (L2.CX W.P W.w) (k + 4) "choose_kept" A_choose_kept (spR W 3 (runFn 8 (b_choose_kept W φ)) b) := by
  intro b hb
  refine df_of D' sc_choose_kept bp_choose_kept spR_len fun f cdv A outer s H vs Q E hr hsp => ⟨(b_choose_kept W φ).t (fun c d _ H => E c d H), ?_, fn_run (N := N_choose_kept) hb hsp⟩
  dsimp? only [b_choose_kept, l1_choose_kept]
  exact (pss_cons (ps_if (PW.pt (pw_and (pt_cmpR op_gt (pe_callB (CallR.or call_lenA (call_lenI (D.m___len__ none (by nofun)) (ro1 hr) rfl)) (by rfl) B.len (by decide +kernel) (pa_cons (pv 0) pa_nil)) (pe_fld (pv 2) rfl) (nomark _)) (pw_and1 (pt_cmpR (opLt hr.units0) (pv 1) (pe_fld (pv 2) rfl) (nomark _))))) (pss_one (ps_ret (pe_tup (pa_cons pe_str (pa_cons (pe_lst pa_nil) (pa_cons pe_non pa_nil)))))) pss_nil)
      (pss_cons (ps_set (i := 3) sc_choose_kept.nd rfl (Or.inl rfl) (px_make D.mk_Keeper C.has_Keeper (ro1 hr) rfl (pa_cons (pe_fld (pv 2) rfl) pa_nil)))
      (pss_cons (ps_for cx_po rfl (pi_seqU (pv 0)) (pg_tup rfl (pgs_cons (pg_name (i := 4) sc_choose_kept.nd rfl (Or.inl rfl)) (pgs_cons (pg_name (i := 5) sc_choose_kept.nd rfl (Or.inl rfl)) (pgs_cons (pg_name (i := 6) sc_choose_kept.nd rfl (Or.inl rfl)) pgs_nil)))) (pss_one (ps_expr (pe_alt (px_methX (D.m_offer none (by nofun)) cx_tk (ro0 hr) rfl (pv 3) (pa_cons (pe_tup (pa_cons (pv 5) (pa_cons (pv 4) pa_nil))) pa_nil)) (px_methX (D.m_offer (some 0) (fun i h => by cases h; decide)) cx_tk (ro0 hr) rfl (pv 3) (pa_cons (pe_tup (pa_cons (pv 5) (pa_cons (pv 4) pa_nil))) pa_nil))))))
      (pss_cons (ps_set (i := 7) sc_choose_kept.nd rfl (Or.inl rfl) (pe_alt (px_meth0X (D.m_least_back none (by nofun)) cx_tk (ro0 hr) rfl (pv 3)) (px_meth0X (D.m_least_back (some 0) (fun i h => by cases h; decide)) cx_tk (ro0 hr) rfl (pv 3))))
      (pss_cons (ps_if (pt_cmpR op_isN (pv 7) pe_non (nomark _)) (pss_one (ps_ret (pe_tup (pa_cons pe_str (pa_cons (px_meth0 (D.m_held none (by nofun)) (ro0 hr) rfl (pv 3)) (pa_cons pe_non pa_nil)))))) pss_nil)
      (pss_one (ps_ret (pe_tup (pa_cons pe_str (pa_cons (px_meth0 (D.m_held none (by nofun)) (ro0 hr) rfl (pv 3)) (pa_cons (pe_ix ixU (pv 7) pe_int (fun _ _ => rfl)) pa_nil)))))))))))
theorem ok_meetings {φ : Sem} {k : Nat} (D : Ds W mg base φ k) (C : Cs W mg) (D' : DefAt W.K mg "meetings" "meetings" s_meetings [] []) (B : Blt mg) : ∀ b, (∀ i, b = some i -> i < 3) -> Df W.P W.w W.K mg base (L2.CX W.P W.w) (k + 4) "meetings" A_meetings (spR W 3 (runFn 9 (b_meetings W φ)) b) := by
  intro b hb
  refine df_of D' sc_meetings bp_meetings spR_len fun f cdv A outer s H vs Q E hr hsp => ⟨(b_meetings W φ).t (fun c d _ H => E c d H), ?_, fn_run (N := N_meetings) hb hsp⟩
  dsimp? only [b_meetings, l1_meetings, l2_meetings, l3_meetings]
  exact (pss_cons (ps_set (i := 3) sc_meetings.nd rfl (Or.inl rfl) pe_dnewK)
      (pss_cons (ps_for cx_po rfl (pi_seqU (pv 1)) (pg_tup rfl (pgs_cons (pg_name (i := 4) sc_meetings.nd rfl (Or.inl rfl)) (pgs_cons (pg_name (i := 5) sc_meetings.nd rfl (Or.inl rfl)) pgs_nil))) (pss_one (ps_expr (pe_bm PySem.F.plainAttrs_list PySem.F.slot_list_append PySem.F.type_list_append mt_append (pe_dsetd (pv 3) (pv 4) (pe_lst pa_nil) ⟨rfl, rfl, rfl, rfl⟩) (pa_cons (pv 5) pa_nil)))))
      (pss_cons (ps_set (i := 6) sc_meetings.nd rfl (Or.inl rfl) (pe_lst pa_nil))
      (pss_cons (ps_for cx_po rfl (pi_seqU (pv 0)) (pg_tup rfl (pgs_cons (pg_name (i := 5) sc_meetings.nd rfl (Or.inl rfl)) (pgs_cons (pg_name (i := 4) sc_meetings.nd rfl (Or.inl rfl)) (pgs_cons (pg_name (i := 7) sc_meetings.nd rfl (Or.inl rfl)) pgs_nil)))) (pss_one (ps_for cx_po rfl (pi_seqU (pe_dget2N (hu1 hr) (pv 3) (pv 4) (pe_lst pa_nil) ⟨rfl, rfl, rfl, rfl⟩)) (pg_name (i := 8) sc_meetings.nd rfl (Or.inl rfl)) (pss_one (ps_if (pt_cmpR (opEq hr.units) (pv 2) pe_str (nomark _)) (pss_one (ps_expr (pe_bm PySem.F.plainAttrs_list PySem.F.slot_list_append PySem.F.type_list_append mt_append (pv 6) (pa_cons (pe_tup (pa_cons (pv 8) (pa_cons (pv 5) pa_nil))) pa_nil)))) (pss_one (ps_expr (pe_bm PySem.F.plainAttrs_list PySem.F.slot_list_append PySem.F.type_list_append mt_append (pv 6) (pa_cons (pe_tup (pa_cons (pv 5) (pa_cons (pv 8) pa_nil))) pa_nil)))))))))
      (pss_one (ps_ret (pe_callB (cr_sortedD hr.units) (by rfl) B.sorted (by decide +kernel) (pa_cons (pv 6) pa_nil))))))))
theorem ok_with_marks {φ : Sem} {k : Nat} (D : Ds W mg base φ k) (C : Cs W mg) (D' : DefAt W.K mg "with_marks" "with_marks" s_with_marks [] []) (B : Blt mg) : ∀ b, (∀ i, b = some i -> i < 2) -> Df W.P W.w W.K mg base (L2.CX W.P W.w) (k + 4) "with_marks" A_with_marks (spR W 2 (runFn 6 (b_with_marks W φ)) b) := by
  intro b hb
  refine df_of D' sc_with_marks bp_with_marks spR_len fun f cdv A outer s H vs Q E hr hsp => ⟨(b_with_marks W φ).t (fun c d _ H => E c d H), ?_, fn_run (N := N_with_marks) hb hsp⟩
  dsimp? only [b_with_marks, l1_with_marks]
  exact (pss_cons (ps_set (i := 2) sc_with_marks.nd rfl (Or.inl rfl) (pe_lst pa_nil))
      (pss_cons (ps_for cx_po rfl (pi_seqU (pe_callB (cr_sortedD hr.units) (by rfl) B.sorted (by decide +kernel) (pa_cons (pv 0) pa_nil))) (pg_tup rfl (pgs_cons (pg_name (i := 3) sc_with_marks.nd rfl (Or.inl rfl)) (pgs_cons (pg_name (i := 4) sc_with_marks.nd rfl (Or.inl rfl)) (pgs_cons (pg_name (i := 5) sc_with_marks.nd rfl (Or.inl rfl)) pgs_nil)))) (pss_one (ps_expr (pe_bm PySem.F.plainAttrs_list PySem.F.slot_list_append PySem.F.type_list_append mt_append (pv 2) (pa_cons (pe_tup (pa_cons (pv 3) (pa_cons (pv 4) (pa_cons (pe_or (pv 5) (pe_one (pe_cmp (pc_dinN (hu1 hr) (pv 3) (pv 1))))) pa_nil)))) pa_nil)))))
      (pss_one (ps_ret (pv 2)))))
theorem ok_is_finished {φ : Sem} {k : Nat} (D : Ds W mg base φ k) (C : Cs W mg) (D' : DefAt W.K mg "is_finished" "is_finished" s_is_finished [] []) (B : Blt mg) : ∀ b, (∀ i, b = some i -> i < 4) -> Df W.P W.w W.K mg base (L2.CX W.P W.w) (k + 4) "is_finished" A_is_finished (spR W 4 (runFn 4 (b_is_finished W φ)) b) := by
  intro b hb
  refine df_of D' sc_is_finished bp_is_finished spR_len fun f cdv A outer s H vs Q E hr hsp => ⟨(b_is_finished W φ).t (fun c d _ H => E c d H), ?_, fn_run (N := N_is_finished) hb hsp⟩
  dsimp? only [b_is_finished]
  exact (pss_cons (ps_if (pt_cmpR (opNe hr.units) (pe_fld (pv 1) rfl) pe_str (nomark _)) (pss_one (ps_ret (pe_cmpR (opEq hr.units) (pe_fld (pv 1) rfl) pe_str (nomark _)))) pss_nil)
      (pss_cons (ps_if (pt_truU (pv 2)) (pss_one (ps_ret (pe_cmp (pc_dinN (hu1 hr) (pe_ix ixU (pv 0) pe_int (fun _ _ => rfl)) (pv 3))))) pss_nil)
      (pss_one (ps_ret (pe_cmpR (opLt hr.units0) (pe_ix ixU (pv 0) pe_int (fun _ _ => rfl)) (pe_fld (pv 1) rfl) (nomark _))))))
theorem ok_make_pass {φ : Sem} {k : Nat} (D : Ds W mg base φ k) (C : Cs W mg) (D' : DefAt W.K mg "make_pass" "make_pass" s_make_pass [] []) (B : Blt mg) : ∀ b, (∀ i, b = some i -> i < 4) -> Df W.P W.w W.K mg base (L2.CX W.P W.w) (k + 4) "make_pass" A_make_pass (spR W 4 (runFn 18 (b_make_pass W φ)) b) := by
  intro b hb
  refine df_of D' sc_make_pass bp_make_pass spR_len fun f cdv A outer s H vs Q E hr hsp => ⟨(b_make_pass W φ).t (fun c d _ H => E c d H), ?_, fn_run (N := N_make_pass) hb hsp⟩
  dsimp? only [b_make_pass, l1_make_pass, l2_make_pass]
  exact (pss_cons (ps_set (i := 4) sc_make_pass.nd rfl (Or.inl rfl) (pe_alt (px_methX (D.m_build_side none (by nofun)) cx_tk (ro0 hr) rfl (pv 3) (pa_cons (pe_callB (CallR.or call_lenA (call_lenI (D.m___len__ none (by nofun)) (ro1 hr) rfl)) (by rfl) B.len (by decide +kernel) (pa_cons (pv 1) pa_nil)) (pa_cons (pe_callB (CallR.or call_lenA (call_lenI (D.m___len__ none (by nofun)) (ro1 hr) rfl)) (by rfl) B.len (by decide +kernel) (pa_cons (pv 2) pa_nil)) pa_nil))) (px_methX (D.m_build_side (some 0) (fun i h => by cases h; decide)) cx_tk (ro0 hr) rfl (pv 3) (pa_cons (pe_callB (CallR.or call_lenA (call_lenI (D.m___len__ none (by nofun)) (ro1 hr) rfl)) (by rfl) B.len (by decide +kernel) (pa_cons (pv 1) pa_nil)) (pa_cons (pe_callB (CallR.or call_lenA (call_lenI (D.m___len__ none (by nofun)) (ro1 hr) rfl)) (by rfl) B.len (by decide +kernel) (pa_cons (pv 2) pa_nil)) pa_nil)))))
      (pss_cons (ps_par (i := 5) (j := 6) rfl sc_make_pass.nd rfl rfl (by decide) rfl rfl (pa_cons (pv 2) (pa_cons (pv 1) pa_nil)) (by rfl))
      (pss_cons (ps_if (pt_cmpR (opEq hr.units) (pv 4) pe_str (nomark _)) (pss_one (ps_par (i := 5) (j := 6) rfl sc_make_pass.nd rfl rfl (by decide) rfl rfl (pa_cons (pv 1) (pa_cons (pv 2) pa_nil)) (by rfl))) pss_nil)
      (pss_cons (ps_asg (px_call (D.d_choose_kept none (by nofun)) (ro0 hr) rfl (pa_cons (pv 5) (pa_cons (pe_callB (CallR.or call_lenA (call_lenI (D.m___len__ none (by nofun)) (ro1 hr) rfl)) (by rfl) B.len (by decide +kernel) (pa_cons (pv 0) pa_nil)) (pa_cons (pv 3) pa_nil)))) (pg_tup rfl (pgs_cons (pg_name (i := 7) sc_make_pass.nd rfl (Or.inl rfl)) (pgs_cons (pg_name (i := 8) sc_make_pass.nd rfl (Or.inl rfl)) (pgs_cons (pg_name (i := 9) sc_make_pass.nd rfl (Or.inl rfl)) pgs_nil)))))
      (pss_cons (ps_set (i := 10) sc_make_pass.nd rfl (Or.inl rfl) (px_call (D.d_meetings none (by nofun)) (ro0 hr) rfl (pa_cons (pv 6) (pa_cons (pv 8) (pa_cons (pv 4) pa_nil)))))
      (pss_cons (ps_set (i := 13) sc_make_pass.nd rfl (Or.inl rfl) (px_make D.mk_Pass C.has_Pass (ro1 hr) rfl (pa_cons (pv 0) (pa_cons (pv 7) (pa_cons (pv 4) (pa_cons (pv 9) (pa_cons (pe_lc (own := [("key", 11), ("number", 12)]) rfl sc_make_pass.nd (pi_seqU (pv 8)) (blkOk_by (own := [("key", 11), ("number", 12)]) (N := N_make_pass) (sc := defScope s_make_pass) (by decide +kernel)) (fun _ _ _ _ _ => (pg_tup rfl (pgs_cons (pg_name (i := 11) sc_make_pass.nd rfl (Or.inl rfl)) (pgs_cons (pg_name (i := 12) sc_make_pass.nd rfl (Or.inl rfl)) pgs_nil)))) (fun _ _ _ _ _ => pts_nil) (fun _ _ _ _ _ => (pv 12))) (pa_cons (pv 10) pa_nil))))))))
      (pss_cons (ps_setDc (i := 14) (own := [("key", 11), ("number", 12)]) rfl sc_make_pass.nd rfl rfl (sw_trueD rfl rfl rfl (by decide +kernel)) (pi_seqU (pv 8)) (blkOk_by (own := [("key", 11), ("number", 12)]) (N := N_make_pass) (sc := defScope s_make_pass) (by decide +kernel)) (fun _ _ _ _ _ => (pg_tup rfl (pgs_cons (pg_name (i := 11) sc_make_pass.nd rfl (Or.inl rfl)) (pgs_cons (pg_name (i := 12) sc_make_pass.nd rfl (Or.inl rfl)) pgs_nil)))) (fun _ _ _ _ _ => pts_nil) (fun _ _ _ _ _ => (pv 12)) (fun _ _ _ _ _ => pe_bl))
      (pss_cons (ps_for cx_po rfl (pi_seqU (px_call (D.d_with_marks none (by nofun)) (ro0 hr) rfl (pa_cons (pv 1) (pa_cons (pe_dc (own := [("i", 15), ("j", 16)]) rfl sc_make_pass.nd (pi_seqU (pv 10)) (blkOk_by (own := [("i", 15), ("j", 16)]) (N := N_make_pass) (sc := defScope s_make_pass) (by decide +kernel)) (fun _ _ _ _ _ => (pg_tup rfl (pgs_cons (pg_name (i := 15) sc_make_pass.nd rfl (Or.inl rfl)) (pgs_cons (pg_name (i := 16) sc_make_pass.nd rfl (Or.inl rfl)) pgs_nil)))) (fun _ _ _ _ _ => pts_nil) (fun _ _ _ _ _ => (pv 15)) (fun _ _ _ _ _ => pe_bl)) pa_nil)))) (pg_name (i := 17) sc_make_pass.nd rfl (Or.inl rfl)) (pss_one (ps_if (pt_truU (px_call (D.d_is_finished none (by nofun)) (ro0 hr) rfl (pa_cons (pv 17) (pa_cons (pv 13) (pa_cons (pe_cmpR (opEq hr.units) (pv 4) pe_str (nomark _)) (pa_cons (pv 14) pa_nil)))))) (pss_one (ps_expr (pe_bm PySem.F.plainAttrs_list PySem.F.slot_list_append PySem.F.type_list_append mt_append (pe_fld (pv 13) rfl) (pa_cons (pv 17) pa_nil)))) (pss_one (ps_expr (pe_bm PySem.F.plainAttrs_list PySem.F.slot_list_append PySem.F.type_list_append mt_append (pe_fld (pv 13) rfl) (pa_cons (pv 17) pa_nil)))))))
      (pss_cons (ps_for cx_po rfl (pi_seqU (px_call (D.d_with_marks none (by nofun)) (ro0 hr) rfl (pa_cons (pv 2) (pa_cons (pe_dc (own := [("i", 15), ("j", 16)]) rfl sc_make_pass.nd (pi_seqU (pv 10)) (blkOk_by (own := [("i", 15), ("j", 16)]) (N := N_make_pass) (sc := defScope s_make_pass) (by decide +kernel)) (fun _ _ _ _ _ => (pg_tup rfl (pgs_cons (pg_name (i := 15) sc_make_pass.nd rfl (Or.inl rfl)) (pgs_cons (pg_name (i := 16) sc_make_pass.nd rfl (Or.inl rfl)) pgs_nil)))) (fun _ _ _ _ _ => pts_nil) (fun _ _ _ _ _ => (pv 16)) (fun _ _ _ _ _ => pe_bl)) pa_nil)))) (pg_name (i := 17) sc_make_pass.nd rfl (Or.inl rfl)) (pss_one (ps_if (pt_truU (px_call (D.d_is_finished none (by nofun)) (ro0 hr) rfl (pa_cons (pv 17) (pa_cons (pv 13) (pa_cons (pe_cmpR (opEq hr.units) (pv 4) pe_str (nomark _)) (pa_cons (pv 14) pa_nil)))))) (pss_one (ps_expr (pe_bm PySem.F.plainAttrs_list PySem.F.slot_list_append PySem.F.type_list_append mt_append (pe_fld (pv 13) rfl) (pa_cons (pv 17) pa_nil)))) (pss_one (ps_expr (pe_bm PySem.F.plainAttrs_list PySem.F.slot_list_append PySem.F.type_list_append mt_append (pe_fld (pv 13) rfl) (pa_cons (pv 17) pa_nil)))))))
      (pss_one (ps_ret (pv 13))))))))))))
theorem ok_is_integer {φ : Sem} {k : Nat} (D : Ds W mg base φ k) (C : Cs W mg) (D' : DefAt W.K mg "is_integer" "is_integer" s_is_integer [] []) (B : Blt mg) : ∀ b, (∀ i, b = some i -> i < 1) -> Df W.P W.w W.K mg base (L2.CX W.P W.w) (k + 4) "is_integer" A_is_integer (spR W 1 (runFn 1 (b_is_integer W φ)) b) := by
  intro b hb
  refine df_of D' sc_is_integer bp_is_integer spR_len fun f cdv A outer s H vs Q E hr hsp => ⟨(b_is_integer W φ).t (fun c d _ H => E c d H), ?_, fn_run (N := N_is_integer) hb hsp⟩
  dsimp? only [b_is_integer]
  exact (pss_one (ps_ret (pe_and (px_isi (n := "int") B.isinstance B.int (pv 0)) (pe_one (pe_not (px_isi (n := "bool") B.isinstance B.bool (pv 0)))))))
theorem ok_law_draws {φ : Sem} {k : Nat} (D : Ds W mg base φ k) (C : Cs W mg) (D' : DefAt W.K mg "_law_draws" "_law_draws" s_law_draws [] []) (B : Blt mg) : ∀ b, (∀ i, b = some i -> i < 3) -> Df W.P W.w W.K mg base (L2.CX W.P W.w) (k + 4) "_law_draws" A_law_draws (spR W 3 (runFn 9 (b_law_draws W φ)) b) := by
  intro b hb
  refine df_of D' sc_law_draws bp_law_draws spR_len fun f cdv A outer s H vs Q E hr hsp => ⟨(b_law_draws W φ).t (fun c d _ H => E c d H), ?_, fn_run (N := N_law_draws) hb hsp⟩
  dsimp? only [b_law_draws, l1_law_draws]
  exact (pss_cons (ps_set (i := 3) sc_law_draws.nd rfl (Or.inl rfl) pe_int)
      (pss_cons (ps_if (pt_cmpR (opLt hr.units0) (pv 1) (pe_callB (CallR.or call_lenA (call_lenI (D.m___len__ none (by nofun)) (ro1 hr) rfl)) (by rfl) B.len (by decide +kernel) (pa_cons (pv 0) pa_nil)) (nomark _)) (pss_one (ps_set (i := 3) sc_law_draws.nd rfl (Or.inl rfl) (pe_callB call_absU (by rfl) B.abs (by decide +kernel) (pa_cons (pe_ix ixU (pv 0) (pv 1) (fun _ _ => rfl)) pa_nil)))) pss_nil)
      (pss_cons (ps_set (i := 4) sc_law_draws.nd rfl (Or.inl rfl) (pe_cmpR op_ge (pv 3) (pe_op op_pow pe_int pe_int) (nomark _)))
      (pss_cons (ps_set (i := 5) sc_law_draws.nd rfl (Or.inl rfl) (pe_lst pa_nil))
      (pss_cons (ps_for cx_po rfl (pi_range1 rfl B.range (pa_cons (pv 2) pa_nil)) (pg_name (i := 6) sc_law_draws.nd rfl (Or.inl rfl)) (pss_cons (ps_set (i := 7) sc_law_draws.nd rfl (Or.inl rfl) pe_int)
      (pss_cons (ps_if (pt_truU (pv 4)) (pss_cons (ps_set (i := 7) sc_law_draws.nd rfl (Or.inl rfl) (pe_op op_mod (pe_callTy call_intU (by rfl) B.int (by decide +kernel) (pa_cons (pv 3) pa_nil)) pe_int))
      (pss_one (ps_set (i := 3) sc_law_draws.nd rfl (Or.inl rfl) (pe_op opDiv (pv 3) pe_int)))) (pss_one (ps_if (pt_cmpR op_gt (pv 3) pe_int (nomark _)) (pss_cons (ps_set (i := 8) sc_law_draws.nd rfl (Or.inl rfl) (pe_op op_mod (pe_callTy call_intU (by rfl) B.int (by decide +kernel) (pa_cons (pe_op opAdd (pe_op opMul (pv 3) (pe_op opAdd pe_int (pe_op opMul pe_int (pv 6)))) (pe_op opMul pe_int (pv 6))) pa_nil)) pe_int))
      (pss_cons (ps_set (i := 8) sc_law_draws.nd rfl (Or.inl rfl) (pe_op op_mod (pe_callTy call_intU (by rfl) B.int (by decide +kernel) (pa_cons (pe_op opAdd (pe_op opAdd (pe_op opMul (pv 8) (pv 8)) (pe_op opMul pe_int (pv 6))) pe_int) pa_nil)) pe_int))
      (pss_one (ps_set (i := 7) sc_law_draws.nd rfl (Or.inl rfl) (pe_op op_mod (pe_callTy call_intU (by rfl) B.int (by decide +kernel) (pa_cons (pv 8) pa_nil)) pe_int))))) pss_nil)))
      (pss_one (ps_expr (pe_bm PySem.F.plainAttrs_list PySem.F.slot_list_append PySem.F.type_list_append mt_append (pv 5) (pa_cons (pv 7) pa_nil)))))))
      (pss_one (ps_ret (pv 5))))))))
theorem ok_law_records {φ : Sem} {k : Nat} (D : Ds W mg base φ k) (C : Cs W mg) (D' : DefAt W.K mg "_law_records" "_law_records" s_law_records [] []) (B : Blt mg) : ∀ b, (∀ i, b = some i -> i < 4) -> Df W.P W.w W.K mg base (L2.CX W.P W.w) (k + 4) "_law_records" A_law_records (spR W 4 (runFn 8 (b_law_records W φ)) b) := by
  intro b hb
  refine df_of D' sc_law_records bp_law_records spR_len fun f cdv A outer s H vs Q E hr hsp => ⟨(b_law_records W φ).t (fun c d _ H => E c d H), ?_, fn_run (N := N_law_records) hb hsp⟩
  dsimp? only [b_law_records, l1_law_records]
  exact (pss_cons (ps_set (i := 4) sc_law_records.nd rfl (Or.inl rfl) (pe_lst pa_nil))
      (pss_cons (ps_for cx_po rfl (pi_range1 rfl B.range (pa_cons (pv 2) pa_nil)) (pg_name (i := 5) sc_law_records.nd rfl (Or.inl rfl)) (pss_cons (ps_set (i := 6) sc_law_records.nd rfl (Or.inl rfl) (px_call (D.d_law_draws none (by nofun)) (ro0 hr) rfl (pa_cons (pv 0) (pa_cons (pe_op opAdd (pv 1) (pv 5)) (pa_cons pe_int pa_nil)))))
      (pss_cons (ps_set (i := 7) sc_law_records.nd rfl (Or.inl rfl) (pe_tup (pa_cons (pe_op opAdd (pe_op opMul pe_int (pv 5)) (pe_op op_mod (pe_callTy call_intU (by rfl) B.int (by decide +kernel) (pa_cons (pe_ix ixU (pv 6) pe_int (fun _ _ => rfl)) pa_nil)) pe_int)) (pa_cons (pe_op op_sub (pe_op op_mod (pe_callTy call_intU (by rfl) B.int (by decide +kernel) (pa_cons (pe_ix ixU (pv 6) pe_int (fun _ _ => rfl)) pa_nil)) (pv 3)) (pe_op opDiv (pv 3) pe_int)) (pa_cons (pe_cmpR (opEq hr.units) (pe_op op_mod (pe_callTy call_intU (by rfl) B.int (by decide +kernel) (pa_cons (pe_ix ixU (pv 6) pe_int (fun _ _ => rfl)) pa_nil)) pe_int) pe_int (nomark _)) pa_nil)))))
      (pss_one (ps_expr (pe_bm PySem.F.plainAttrs_list PySem.F.slot_list_insert PySem.F.type_list_insert mt_insert (pv 4) (pa_cons (pe_op op_mod (pe_callTy call_intU (by rfl) B.int (by decide +kernel) (pa_cons (pe_ix ixU (pv 6) pe_int (fun _ _ => rfl)) pa_nil)) (pe_op opAdd (pe_callB (CallR.or call_lenA (call_lenI (D.m___len__ none (by nofun)) (ro1 hr) rfl)) (by rfl) B.len (by decide +kernel) (pa_cons (pv 4) pa_nil)) pe_int)) (pa_cons (pv 7) pa_nil))))))))
      (pss_one (ps_ret (pv 4)))))
theorem ok_law_fields {φ : Sem} {k : Nat} (D : Ds W mg base φ k) (C : Cs W mg) (D' : DefAt W.K mg "_law_fields" "_law_fields" s_law_fields [] []) (B : Blt mg) : ∀ b, (∀ i, b = some i -> i < 1) -> Df W.P W.w W.K mg base (L2.CX W.P W.w) (k + 4) "_law_fields" A_law_fields (spR W 1 (runFn 2 (b_law_fields W φ)) b) := by
  intro b hb
  refine df_of D' sc_law_fields bp_law_fields spR_len fun f cdv A outer s H vs Q E hr hsp => ⟨(b_law_fields W φ).t (fun c d _ H => E c d H), ?_, fn_run (N := N_law_fields) hb hsp⟩
  dsimp? only [b_law_fields]
  exact (pss_cons (ps_set (i := 1) sc_law_fields.nd rfl (Or.inl rfl) (pe_lst (pa_cons (pe_fld (pv 0) rfl) (pa_cons (pe_fld (pv 0) rfl) (pa_cons (pe_fld (pv 0) rfl) (pa_cons (pe_fld (pv 0) rfl) (pa_cons (pe_callTy call_listU (by rfl) B.list (by decide +kernel) (pa_cons (pe_fld (pv 0) rfl) pa_nil)) (pa_cons (pe_callTy call_listU (by rfl) B.list (by decide +kernel) (pa_cons (pe_fld (pv 0) rfl) pa_nil)) pa_nil))))))))
      (pss_one (ps_ret (pe_op opAdd (pv 1) (pe_lst (pa_cons (pe_callTy call_listU (by rfl) B.list (by decide +kernel) (pa_cons (pe_fld (pv 0) rfl) pa_nil)) (pa_cons (pe_callTy call_listU (by rfl) B.list (by decide +kernel) (pa_cons (pe_fld (pv 0) rfl) pa_nil)) (pa_cons (pe_callTy call_listU (by rfl) B.list (by decide +kernel) (pa_cons (pe_fld (pv 0) rfl) pa_nil)) (pa_cons (pe_callTy call_listU (by rfl) B.list (by decide +kernel) (pa_cons (pe_fld (pv 0) rfl) pa_nil)) pa_nil)))))))))
theorem ok_Keeper___init__ {φ : Sem} {k : Nat} (D : Ds W mg base φ k) (C : Cs W mg) {C0 : Addr} (D' : MethAt W.K C0 "__init__" "__init__" "Keeper.__init__" s_Keeper___init__ [] []) (B : Blt mg) : ∀ b, (∀ i, b = some i -> i < 2) -> MdOk W.P W.w W.K mg base (k + 4) C0 "__init__" 2 (spR W 2 (runFn 2 (b_Keeper___init__ W φ)) b) := by
  intro b hb
  refine md_of D' sc_Keeper___init__ bp_Keeper___init__ rfl spR_len fun f cdv A outer s H vs Q E hr hsp => ⟨(b_Keeper___init__ W φ).t (fun c d _ H => E c d H), ?_, fn_run (N := N_Keeper___init__) hb hsp⟩
  dsimp? only [b_Keeper___init__]
  exact (pss_cons (ps_fld (pv 0) (pv 1) rfl)
      (pss_cons (ps_fld (pv 0) (pe_lst pa_nil) rfl)
      (pss_one (ps_fld (pv 0) pe_non rfl))))
theorem ok_Keeper___len__ {φ : Sem} {k : Nat} (D : Ds W mg base φ k) (C : Cs W mg) {C0 : Addr} (D' : MethAt W.K C0 "__len__" "__len__" "Keeper.__len__" s_Keeper___len__ [] []) (B : Blt mg) : ∀ b, (∀ i, b = some i -> i < 1) -> MdOk W.P W.w W.K mg base (k + 4) C0 "__len__" 1 (spR W 1 (runFn 1 (b_Keeper___len__ W φ)) b) := by
  intro b hb
  refine md_of D' sc_Keeper___len__ bp_Keeper___len__ rfl spR_len fun f cdv A outer s H vs Q E hr hsp => ⟨(b_Keeper___len__ W φ).t (fun c d _ H => E c d H), ?_, fn_run (N := N_Keeper___len__) hb hsp⟩
  dsimp? only [b_Keeper___len__]
  exact (pss_one (ps_ret (pe_callB (CallR.or call_lenA (call_lenI (D.m___len__ none (by nofun)) (ro1 hr) rfl)) (by rfl) B.len (by decide +kernel) (pa_cons (pe_fld (pv 0) rfl) pa_nil))))
theorem ok_Keeper_offer {φ : Sem} {k : Nat} (D : Ds W mg base φ k) (C : Cs W mg) {C0 : Addr} (D' : MethAt W.K C0 "offer" "offer" "Keeper.offer" s_Keeper_offer [] []) (B : Blt mg) : ∀ b, (∀ i, b = some i -> i < 2) -> MdOk W.P W.w W.K mg base (k + 4) C0 "offer" 2 (spR W 2 (runFn 3 (b_Keeper_offer W φ)) b) := by
  intro b hb
  refine md_of D' sc_Keeper_offer bp_Keeper_offer rfl spR_len fun f cdv A outer s H vs Q E hr hsp => ⟨(b_Keeper_offer W φ).t (fun c d _ H => E c d H), ?_, fn_run (N := N_Keeper_offer) hb hsp⟩
  dsimp? only [b_Keeper_offer]
  exact (pss_cons (ps_if (pt_cmpR (opLt hr.units0) (pe_callB (CallR.or call_lenA (call_lenI (D.m___len__ none (by nofun)) (ro1 hr) rfl)) (by rfl) B.len (by decide +kernel) (pa_cons (pe_fld (pv 0) rfl) pa_nil)) (pe_fld (pv 0) rfl) (nomark _)) (pss_cons (ps_expr (pe_alt (px_methX (D.m__hold none (by nofun)) cx_tk (ro0 hr) rfl (pv 0) (pa_cons (pv 1) pa_nil)) (px_methX (D.m__hold (some 0) (fun i h => by cases h; decide)) cx_tk (ro0 hr) rfl (pv 0) (pa_cons (pv 1) pa_nil))))
      (pss_one (ps_ret pe_non))) pss_nil)
      (pss_cons (ps_set (i := 2) sc_Keeper_offer.nd rfl (Or.inl rfl) (pv 1))
      (pss_cons (ps_if (pt_cmpR (opLt hr.units0) (pv 1) (pe_ix ixU (pe_fld (pv 0) rfl) (pe_un un_neg pe_int) (fun _ _ => rfl)) (nomark _)) (pss_cons (ps_set (i := 2) sc_Keeper_offer.nd rfl (Or.inl rfl) (pe_bm0 PySem.F.plainAttrs_list PySem.F.slot_list_pop PySem.F.type_list_pop mt_pop (pe_fld (pv 0) rfl)))
      (pss_one (ps_expr (pe_alt (px_methX (D.m__hold none (by nofun)) cx_tk (ro0 hr) rfl (pv 0) (pa_cons (pv 1) pa_nil)) (px_methX (D.m__hold (some 0) (fun i h => by cases h; decide)) cx_tk (ro0 hr) rfl (pv 0) (pa_cons (pv 1) pa_nil)))))) pss_nil)
      (pss_cons (ps_if (PW.pt (pw_or (pt_cmpR op_isN (pe_fld (pv 0) rfl) pe_non (nomark _)) (pw_or1 (pt_cmpR (opLt hr.units0) (pv 2) (pe_fld (pv 0) rfl) (nomark _))))) (pss_one (ps_fld (pv 0) (pv 2) rfl)) pss_nil)
      (pss_one (ps_ret (pv 2)))))))
theorem ok_Keeper__hold {φ : Sem} {k : Nat} (D : Ds W mg base φ k) (C : Cs W mg) {C0 : Addr} (D' : MethAt W.K C0 "_hold" "_hold" "Keeper._hold" s_Keeper__hold [] []) (B : Blt mg) : ∀ b, (∀ i, b = some i -> i < 2) -> MdOk W.P W.w W.K mg base (k + 4) C0 "_hold" 2 (spR W 2 (runFn 3 (b_Keeper__hold W φ)) b) := by
  intro b hb
  refine md_of D' sc_Keeper__hold bp_Keeper__hold rfl spR_len fun f cdv A outer s H vs Q E hr hsp => ⟨(b_Keeper__hold W φ).t (fun c d _ H => E c d H), ?_, fn_run (N := N_Keeper__hold) hb hsp⟩
  dsimp? only [b_Keeper__hold, l1_Keeper__hold]
  exact (pss_cons (ps_set (i := 2) sc_Keeper__hold.nd rfl (Or.inl rfl) (pe_callB (CallR.or call_lenA (call_lenI (D.m___len__ none (by nofun)) (ro1 hr) rfl)) (by rfl) B.len (by decide +kernel) (pa_cons (pe_fld (pv 0) rfl) pa_nil)))
      (pss_cons (ps_while cx_po (PW.pt (pw_and (pt_cmpR op_gt (pv 2) pe_int (nomark _)) (pw_and1 (pt_cmpR (opLt hr.units0) (pv 1) (pe_ix ixU (pe_fld (pv 0) rfl) (pe_op op_sub (pv 2) pe_int) (fun _ _ => rfl)) (nomark _))))) (pss_one (ps_aug (i := 2) sc_Keeper__hold.nd rfl (Or.inl rfl) pe_int ip_sub)))
      (pss_one (ps_expr (pe_bm PySem.F.plainAttrs_list PySem.F.slot_list_insert PySem.F.type_list_insert mt_insert (pe_fld (pv 0) rfl) (pa_cons (pv 2) (pa_cons (pv 1) pa_nil)))))))
theorem ok_Keeper_held {φ : Sem} {k : Nat} (D : Ds W mg base φ k) (C : Cs W mg) {C0 : Addr} (D' : MethAt W.K C0 "held" "held" "Keeper.held" s_Keeper_held [] []) (B : Blt mg) : ∀ b, (∀ i, b = some i -> i < 1) -> MdOk W.P W.w W.K mg base (k + 4) C0 "held" 1 (spR W 1 (runFn 1 (b_Keeper_held W φ)) b) := by
  intro b hb
  refine md_of D' sc_Keeper_held bp_Keeper_held rfl spR_len fun f cdv A outer s H vs Q E hr hsp => ⟨(b_Keeper_held W φ).t (fun c d _ H => E c d H), ?_, fn_run (N := N_Keeper_held) hb hsp⟩
  dsimp? only [b_Keeper_held]
  exact (pss_one (ps_ret (pe_callTy call_listU (by rfl) B.list (by decide +kernel) (pa_cons (pe_fld (pv 0) rfl) pa_nil))))
theorem ok_Keeper_least_back {φ : Sem} {k : Nat} (D : Ds W mg base φ k) (C : Cs W mg) {C0 : Addr} (D' : MethAt W.K C0 "least_back" "least_back" "Keeper.least_back" s_Keeper_least_back [] []) (B : Blt mg) : ∀ b, (∀ i, b = some i -> i < 1) -> MdOk W.P W.w W.K mg base (k + 4) C0 "least_back" 1 (spR W 1 (runFn 1 (b_Keeper_least_back W φ)) b) := by
  intro b hb
  refine md_of D' sc_Keeper_least_back bp_Keeper_least_back rfl spR_len fun f cdv A outer s H vs Q E hr hsp => ⟨(b_Keeper_least_back W φ).t (fun c d _ H => E c d H), ?_, fn_run (N := N_Keeper_least_back) hb hsp⟩
  dsimp? only [b_Keeper_least_back]
  exact (pss_one (ps_ret (pe_fld (pv 0) rfl)))
theorem ok_Pass___init__ {φ : Sem} {k : Nat} (D : Ds W mg base φ k) (C : Cs W mg) {C0 : Addr} (D' : MethAt W.K C0 "__init__" "__init__" "Pass.__init__" s_Pass___init__ [] []) (B : Blt mg) : ∀ b, (∀ i, b = some i -> i < 7) -> MdOk W.P W.w W.K mg base (k + 4) C0 "__init__" 7 (spR W 7 (runFn 7 (b_Pass___init__ W φ)) b) := by
  intro b hb
  refine md_of D' sc_Pass___init__ bp_Pass___init__ rfl spR_len fun f cdv A outer s H vs Q E hr hsp => ⟨(b_Pass___init__ W φ).t (fun c d _ H => E c d H), ?_, fn_run (N := N_Pass___init__) hb hsp⟩
  dsimp? only [b_Pass___init__]
  exact (pss_cons (ps_fld (pv 0) (pv 1) rfl)
      (pss_cons (ps_fld (pv 0) (pv 2) rfl)
      (pss_cons (ps_fld (pv 0) (pv 3) rfl)
      (pss_cons (ps_fld (pv 0) (pv 4) rfl)
      (pss_cons (ps_fld (pv 0) (pv 5) rfl)
      (pss_cons (ps_fld (pv 0) (pv 6) rfl)
      (pss_cons (ps_fld (pv 0) (pe_lst pa_nil) rfl)
      (pss_cons (ps_fld (pv 0) (pe_lst pa_nil) rfl)
      (pss_cons (ps_fld (pv 0) (pe_lst pa_nil) rfl)
      (pss_one (ps_fld (pv 0) (pe_lst pa_nil) rfl)))))))))))
theorem ok_Plan___init__ {φ : Sem} {k : Nat} (D : Ds W mg base φ k) (C : Cs W mg) {C0 : Addr} {x0 : Str} {f00 : Addr} (M0 : Mk W.K C0 f00) (hm0 : mg x0 = some (.ref C0)) (D' : MethAt W.K C0 "__init__" "__init__" "Plan.__init__" s_Plan___init__ [] [("build", .str (so "right")), ("keep_from", .int 0)]) (B : Blt mg) : MkD W.P W.w W.K mg base (k + 4) x0 C0 "Plan.__init__" s_Plan___init__ [("build", .str (so "right")), ("keep_from", .int 0)] A_Plan___init__ (spR W 4 (runFn 4 (b_Plan___init__ W φ)) (some 0)) := by
  refine mkD_of M0 hm0 D' sc_Plan___init__ spR_len fun f cdv A outer s H vs Q E hr hsp => ⟨(b_Plan___init__ W φ).t (fun c d _ H => E c d H), ?_, fn_run (N := N_Plan___init__) (fun i h => by cases h; decide) hsp⟩
  dsimp? only [b_Plan___init__]
  exact (pss_cons (ps_if (PW.pt (pw_or (pt_not (pt_truU (px_call (D.d_is_integer none (by nofun)) (ro0 hr) rfl (pa_cons (pv 1) pa_nil)))) (pw_or (pt_cmpR (opLt hr.units0) (pv 1) pe_int (nomark _)) (pw_or1 (pt_cmpR op_gt (pv 1) (px_glI C.v_MOST_ROOM) (nomark _)))))) (pss_one ps_never) pss_nil)
      (pss_cons (ps_if (PW.pt (pw_and (pt_cmpR (opNe hr.units) (pv 2) pe_str (nomark _)) (pw_and (pt_cmpR (opNe hr.units) (pv 2) pe_str (nomark _)) (pw_and1 (pt_cmpR (opNe hr.units) (pv 2) pe_str (nomark _)))))) (pss_one ps_never) pss_nil)
      (pss_cons (ps_if (PW.pt (pw_or (pt_not (pt_truU (px_call (D.d_is_integer none (by nofun)) (ro0 hr) rfl (pa_cons (pv 3) pa_nil)))) (pw_or (pt_cmpR (opLt hr.units0) (pv 3) pe_int (nomark _)) (pw_or1 (pt_cmpR op_gt (pv 3) (px_glI C.v_DEEPEST_KEEP) (nomark _)))))) (pss_one ps_never) pss_nil)
      (pss_cons (ps_fld (pv 0) (pv 1) rfl)
      (pss_cons (ps_fld (pv 0) (pv 2) rfl)
      (pss_one (ps_fld (pv 0) (pv 3) rfl)))))))
theorem ok_Plan_build_side {φ : Sem} {k : Nat} (D : Ds W mg base φ k) (C : Cs W mg) {C0 : Addr} (D' : MethAt W.K C0 "build_side" "build_side" "Plan.build_side" s_Plan_build_side [] []) (B : Blt mg) : ∀ b, (∀ i, b = some i -> i < 3) -> MdOk W.P W.w W.K mg base (k + 4) C0 "build_side" 3 (spR W 3 (runFn 3 (b_Plan_build_side W φ)) b) := by
  intro b hb
  refine md_of D' sc_Plan_build_side bp_Plan_build_side rfl spR_len fun f cdv A outer s H vs Q E hr hsp => ⟨(b_Plan_build_side W φ).t (fun c d _ H => E c d H), ?_, fn_run (N := N_Plan_build_side) hb hsp⟩
  dsimp? only [b_Plan_build_side]
  exact (pss_cons (ps_if (pt_cmpR (opNe hr.units) (pe_fld (pv 0) rfl) pe_str (nomark _)) (pss_one (ps_ret (pe_fld (pv 0) rfl))) pss_nil)
      (pss_cons (ps_if (pt_cmpR (opLt hr.units0) (pv 1) (pv 2) (nomark _)) (pss_one (ps_ret pe_str)) pss_nil)
      (pss_one (ps_ret pe_str))))
theorem ok_law {φ : Sem} {k : Nat} (D : Ds W mg base φ k) (C : Cs W mg) {f0 : Addr} {fd0 : FuncData} (F0 : FunD W.K "law" "law" (defArgs s_law) (defBody s_law) (defScope s_law) [] [] f0 fd0) (B : Blt mg) (hL : ∀ vs H Q E, spL W.K vs H Q E -> spR W 1 (runFn 15 (b_law W φ)) none vs H Q E) : FnOk W.P W.w W.K mg base CX0 (k + 4) f0 fd0 A_law (spL W.K) := by
  refine lw_of F0 sc_law spL_len fun f cdv A outer s H vs Q E hr hsp => ⟨(b_law W φ).t (fun c d _ H => E0 c d H), ?_, fn_run (N := N_law) (by intro i h; cases h) (hL vs H Q E0 hsp)⟩
  dsimp? only [b_law, l1_law]
  exact (pss_cons (ps_set (i := 1) sc_law.nd rfl (Or.inl rfl) (px_call (D.d_law_draws none (by nofun)) (ro0 hr) rfl (pa_cons (pv 0) (pa_cons pe_int (pa_cons pe_int pa_nil)))))
      (pss_cons (ps_set (i := 2) sc_law.nd rfl (Or.inl rfl) (pe_op opAdd pe_int (pe_op op_mod (pe_callTy call_intU (by rfl) B.int (by decide +kernel) (pa_cons (pe_ix ixU (pv 1) pe_int (fun _ _ => rfl)) pa_nil)) pe_int)))
      (pss_cons (ps_set (i := 3) sc_law.nd rfl (Or.inl rfl) (px_call (D.d_law_records none (by nofun)) (ro0 hr) rfl (pa_cons (pv 0) (pa_cons pe_int (pa_cons (pe_op op_mod (pe_callTy call_intU (by rfl) B.int (by decide +kernel) (pa_cons (pe_ix ixU (pv 1) pe_int (fun _ _ => rfl)) pa_nil)) pe_int) (pa_cons (pv 2) pa_nil))))))
      (pss_cons (ps_set (i := 4) sc_law.nd rfl (Or.inl rfl) (px_call (D.d_law_records none (by nofun)) (ro0 hr) rfl (pa_cons (pv 0) (pa_cons pe_int (pa_cons (pe_op op_mod (pe_callTy call_intU (by rfl) B.int (by decide +kernel) (pa_cons (pe_ix ixU (pv 1) pe_int (fun _ _ => rfl)) pa_nil)) pe_int) (pa_cons (pv 2) pa_nil))))))
      (pss_cons (ps_set (i := 5) sc_law.nd rfl (Or.inl rfl) (pe_ix ixU (pe_lst (pa_cons pe_str (pa_cons pe_str (pa_cons pe_str pa_nil)))) (pe_op op_mod (pe_callTy call_intU (by rfl) B.int (by decide +kernel) (pa_cons (pe_ix ixU (pv 1) pe_int (fun _ _ => rfl)) pa_nil)) pe_int) (fun _ _ => rfl)))
      (pss_cons (ps_set (i := 6) sc_law.nd rfl (Or.inl rfl) (px_makeN0 D.mk_Plan ks_Plan___init___0 C.has_Plan (ro1 hr) rfl (pk_cons (pe_op opAdd pe_int (pe_op op_mod (pe_callTy call_intU (by rfl) B.int (by decide +kernel) (pa_cons (pe_ix ixU (pv 1) pe_int (fun _ _ => rfl)) pa_nil)) pe_int)) (pk_cons (pv 5) (pk_cons (pe_op op_mod (pe_callTy call_intU (by rfl) B.int (by decide +kernel) (pa_cons (pe_ix ixU (pv 1) pe_int (fun _ _ => rfl)) pa_nil)) pe_int) pk_nil)))))
      (pss_cons (ps_set (i := 8) sc_law.nd rfl (Or.inl rfl) (pe_callTy call_tupleU (by rfl) B.tuple (by decide +kernel) (pa_cons (pe_lc (own := [("_law_k", 7)]) rfl sc_law.nd (pi_range1 rfl B.range (pa_cons (pe_op op_mod (pe_callTy call_intU (by rfl) B.int (by decide +kernel) (pa_cons (pe_ix ixU (pv 1) pe_int (fun _ _ => rfl)) pa_nil)) pe_int) pa_nil)) (blkOk_by (own := [("_law_k", 7)]) (N := N_law) (sc := defScope s_law) (by decide +kernel)) (fun _ _ _ _ _ => (pg_name (i := 7) sc_law.nd rfl (Or.inl rfl))) (fun _ _ _ _ _ => pts_nil) (fun _ _ _ _ _ => pe_int)) pa_nil)))
      (pss_cons (ps_set (i := 9) sc_law.nd rfl (Or.inl rfl) (px_call (D.d_make_pass none (by nofun)) (ro0 hr) rfl (pa_cons (pv 8) (pa_cons (pv 3) (pa_cons (pv 4) (pa_cons (pv 6) pa_nil))))))
      (pss_cons (ps_set (i := 10) sc_law.nd rfl (Or.inl rfl) (px_call (D.d_law_fields none (by nofun)) (ro0 hr) rfl (pa_cons (pv 9) pa_nil)))
      (pss_cons (ps_set (i := 11) sc_law.nd rfl (Or.inl rfl) (pe_lst (pa_cons (pe_lst (pa_cons (pe_callB (cr_sortedD hr.units) (by rfl) B.sorted (by decide +kernel) (pa_cons (pv 3) pa_nil)) (pa_cons (pe_callB (cr_sortedD hr.units) (by rfl) B.sorted (by decide +kernel) (pa_cons (pv 4) pa_nil)) pa_nil))) (pa_cons (pe_lst (pa_cons (pe_callBK (cr_sortedDR hr.units) (by rfl) B.sorted (by decide +kernel) (pa_cons (pv 3) pa_nil) (pk_cons pe_bl pk_nil)) (pa_cons (pe_callBK (cr_sortedDR hr.units) (by rfl) B.sorted (by decide +kernel) (pa_cons (pv 4) pa_nil) (pk_cons pe_bl pk_nil)) pa_nil))) pa_nil))))
      (pss_cons (ps_expr (pe_bm PySem.F.plainAttrs_list PySem.F.slot_list_append PySem.F.type_list_append mt_append (pv 11) (pa_cons (pe_lst (pa_cons (pe_callBK (cr_sortedDR hr.units) (by rfl) B.sorted (by decide +kernel) (pa_cons (pv 3) pa_nil) (pk_cons pe_bl pk_nil)) (pa_cons (pe_callB (cr_sortedD hr.units) (by rfl) B.sorted (by decide +kernel) (pa_cons (pv 4) pa_nil)) pa_nil))) pa_nil)))
      (pss_cons (ps_expr (pe_bm PySem.F.plainAttrs_list PySem.F.slot_list_append PySem.F.type_list_append mt_append (pv 11) (pa_cons (pe_lst (pa_cons (pe_callTy call_listU (by rfl) B.list (by decide +kernel) (pa_cons (pv 3) pa_nil)) (pa_cons (pe_callTy call_listU (by rfl) B.list (by decide +kernel) (pa_cons (pv 4) pa_nil)) pa_nil))) pa_nil)))
      (pss_cons (ps_for PassesOwn.never rfl (pi_seqU (pv 11)) (pg_name (i := 12) sc_law.nd rfl (Or.inl rfl)) (pss_cons (ps_set (i := 13) sc_law.nd rfl (Or.inl rfl) (pe_lst (pa_cons (pe_callTy call_listU (by rfl) B.list (by decide +kernel) (pa_cons (pe_ix ixU (pv 12) pe_int (fun _ _ => rfl)) pa_nil)) (pa_cons (pe_callTy call_listU (by rfl) B.list (by decide +kernel) (pa_cons (pe_ix ixU (pv 12) pe_int (fun _ _ => rfl)) pa_nil)) pa_nil))))
      (pss_cons (ps_set (i := 14) sc_law.nd rfl (Or.inl rfl) (pe_lock (pe_lock (px_call (D.d_make_pass none (by nofun)) (ro0 hr) rfl (pa_cons (pv 8) (pa_cons (pe_ix ixU (pv 13) pe_int (fun _ _ => rfl)) (pa_cons (pe_ix ixU (pv 13) pe_int (fun _ _ => rfl)) (pa_cons (pv 6) pa_nil))))))))
      (pss_cons (ps_if (PW.pt (pw_or (pt_cmpR (opNe hr.units) (pv 13) (pv 12) (nomark _)) (pw_or1 (pt_cmpR (opNe hr.units) (px_call (D.d_law_fields none (by nofun)) (ro0 hr) rfl (pa_cons (pv 14) pa_nil)) (pv 10) (nomark _))))) (pss_one (ps_ret pe_bl)) pss_nil)
      (pss_cons (ps_expr (pe_bm PySem.F.plainAttrs_list PySem.F.slot_list_append PySem.F.type_list_append mt_append (pe_ix ixU (pv 13) pe_int (fun _ _ => rfl)) (pa_cons (pe_tup (pa_cons pe_int (pa_cons pe_int (pa_cons pe_bl pa_nil)))) pa_nil)))
      (pss_cons (ps_expr (pe_bm PySem.F.plainAttrs_list PySem.F.slot_list_append PySem.F.type_list_append mt_append (pe_ix ixU (pv 13) pe_int (fun _ _ => rfl)) (pa_cons (pe_tup (pa_cons pe_int (pa_cons pe_int (pa_cons pe_bl pa_nil)))) pa_nil)))
      (pss_one (ps_if (pt_cmpR (opNe hr.units) (px_call (D.d_law_fields none (by nofun)) (ro0 hr) rfl (pa_cons (pv 14) pa_nil)) (pv 10) (nomark _)) (pss_one (ps_ret pe_bl)) pss_nil))))))))
      (pss_one (ps_ret (pe_and (pe_cmpR (opEq hr.units) (px_call (D.d_law_fields none (by nofun)) (ro0 hr) rfl (pa_cons (pv 9) pa_nil)) (pv 10) (nomark _)) (pe_one (pe_cmpR (opEq hr.units) (px_call (D.d_law_fields none (by nofun)) (ro0 hr) rfl (pa_cons (px_call (D.d_make_pass none (by nofun)) (ro0 hr) rfl (pa_cons (pv 8) (pa_cons (pv 3) (pa_cons (pv 4) (pa_cons (pv 6) pa_nil))))) pa_nil)) (pv 10) (nomark _)))))))))))))))))))
theorem mt___len__ {φ : Sem} {k : Nat} {b : Option Nat} (C : Cs W mg) (h_Keeper : MdOk W.P W.w W.K mg base k (W.cA "Keeper") "__len__" 1 (spR W 1 (φ "Keeper.__len__") b)) : Mt W.P W.w W.K mg base W k "__len__" 1 φ b := by
  refine ⟨fun c nm hc hr => ?_⟩
  have hm := C.hasL c hc
  simp only [clsL, List.mem_cons, List.not_mem_nil, or_false] at hm
  rcases hm with rfl | rfl | rfl
  · rw [rs_Keeper___len__] at hr; cases hr; obtain ⟨g, fd, ps, x1, x2, x3, _⟩ := h_Keeper.ex; exact ⟨g, fd, ps, x1, x2, x3⟩
  · rw [rs_Pass___len__] at hr; cases hr
  · rw [rs_Plan___len__] at hr; cases hr
theorem mt__hold {φ : Sem} {k : Nat} {b : Option Nat} (C : Cs W mg) (h_Keeper : MdOk W.P W.w W.K mg base k (W.cA "Keeper") "_hold" 2 (spR W 2 (φ "Keeper._hold") b)) : Mt W.P W.w W.K mg base W k "_hold" 2 φ b := by
  refine ⟨fun c nm hc hr => ?_⟩
  have hm := C.hasL c hc
  simp only [clsL, List.mem_cons, List.not_mem_nil, or_false] at hm
  rcases hm with rfl | rfl | rfl
  · rw [rs_Keeper__hold] at hr; cases hr; obtain ⟨g, fd, ps, x1, x2, x3, _⟩ := h_Keeper.ex; exact ⟨g, fd, ps, x1, x2, x3⟩
  · rw [rs_Pass__hold] at hr; cases hr
  · rw [rs_Plan__hold] at hr; cases hr
theorem mt_build_side {φ : Sem} {k : Nat} {b : Option Nat} (C : Cs W mg) (h_Plan : MdOk W.P W.w W.K mg base k (W.cA "Plan") "build_side" 3 (spR W 3 (φ "Plan.build_side") b)) : Mt W.P W.w W.K mg base W k "build_side" 3 φ b := by
  refine ⟨fun c nm hc hr => ?_⟩
  have hm := C.hasL c hc
  simp only [clsL, List.mem_cons, List.not_mem_nil, or_false] at hm
  rcases hm with rfl | rfl | rfl
  · rw [rs_Keeper_build_side] at hr; cases hr
  · rw [rs_Pass_build_side] at hr; cases hr
  · rw [rs_Plan_build_side] at hr; cases hr; obtain ⟨g, fd, ps, x1, x2, x3, _⟩ := h_Plan.ex; exact ⟨g, fd, ps, x1, x2, x3⟩
theorem mt_held {φ : Sem} {k : Nat} {b : Option Nat} (C : Cs W mg) (h_Keeper : MdOk W.P W.w W.K mg base k (W.cA "Keeper") "held" 1 (spR W 1 (φ "Keeper.held") b)) : Mt W.P W.w W.K mg base W k "held" 1 φ b := by
  refine ⟨fun c nm hc hr => ?_⟩
  have hm := C.hasL c hc
  simp only [clsL, List.mem_cons, List.not_mem_nil, or_false] at hm
  rcases hm with rfl | rfl | rfl
  · rw [rs_Keeper_held] at hr; cases hr; obtain ⟨g, fd, ps, x1, x2, x3, _⟩ := h_Keeper.ex; exact ⟨g, fd, ps, x1, x2, x3⟩
  · rw [rs_Pass_held] at hr; cases hr
  · rw [rs_Plan_held] at hr; cases hr
theorem mt_least_back {φ : Sem} {k : Nat} {b : Option Nat} (C : Cs W mg) (h_Keeper : MdOk W.P W.w W.K mg base k (W.cA "Keeper") "least_back" 1 (spR W 1 (φ "Keeper.least_back") b)) : Mt W.P W.w W.K mg base W k "least_back" 1 φ b := by
  refine ⟨fun c nm hc hr => ?_⟩
  have hm := C.hasL c hc
  simp only [clsL, List.mem_cons, List.not_mem_nil, or_false] at hm
  rcases hm with rfl | rfl | rfl
  · rw [rs_Keeper_least_back] at hr; cases hr; obtain ⟨g, fd, ps, x1, x2, x3, _⟩ := h_Keeper.ex; exact ⟨g, fd, ps, x1, x2, x3⟩
  · rw [rs_Pass_least_back] at hr; cases hr
  · rw [rs_Plan_least_back] at hr; cases hr
theorem mt_offer {φ : Sem} {k : Nat} {b : Option Nat} (C : Cs W mg) (h_Keeper : MdOk W.P W.w W.K mg base k (W.cA "Keeper") "offer" 2 (spR W 2 (φ "Keeper.offer") b)) : Mt W.P W.w W.K mg base W k "offer" 2 φ b := by
  refine ⟨fun c nm hc hr => ?_⟩
  have hm := C.hasL c hc
  simp only [clsL, List.mem_cons, List.not_mem_nil, or_false] at hm
  rcases hm with rfl | rfl | rfl
  · rw [rs_Keeper_offer] at hr; cases hr; obtain ⟨g, fd, ps, x1, x2, x3, _⟩ := h_Keeper.ex; exact ⟨g, fd, ps, x1, x2, x3⟩
  · rw [rs_Pass_offer] at hr; cases hr
  · rw [rs_Plan_offer] at hr; cases hr
theorem ds_all (D0 : DefAt W.K mg "choose_kept" "choose_kept" s_choose_kept [] []) (D1 : DefAt W.K mg "meetings" "meetings" s_meetings [] []) (D2 : DefAt W.K mg "with_marks" "with_marks" s_with_marks [] []) (D3 : DefAt W.K mg "is_finished" "is_finished" s_is_finished [] []) (D4 : DefAt W.K mg "make_pass" "make_pass" s_make_pass [] []) (D5 : DefAt W.K mg "is_integer" "is_integer" s_is_integer [] []) (D6 : DefAt W.K mg "_law_draws" "_law_draws" s_law_draws [] []) (D7 : DefAt W.K mg "_law_records" "_law_records" s_law_records [] []) (D8 : DefAt W.K mg "_law_fields" "_law_fields" s_law_fields [] []) (C : Cs W mg) (B : Blt mg) : ∀ n, Ds W mg base (semT (tbl W) n) (4 * n)
  | 0 => ⟨it_all C B,
    fun b _ => df_no D0 bp_choose_kept spR_no,
    fun b _ => df_no D1 bp_meetings spR_no,
    fun b _ => df_no D2 bp_with_marks spR_no,
    fun b _ => df_no D3 bp_is_finished spR_no,
    fun b _ => df_no D4 bp_make_pass spR_no,
    fun b _ => df_no D5 bp_is_integer spR_no,
    fun b _ => df_no D6 bp_law_draws spR_no,
    fun b _ => df_no D7 bp_law_records spR_no,
    fun b _ => df_no D8 bp_law_fields spR_no,
    fun b _ => mt___len__ C (md_no C.a_Keeper___len__ bp_Keeper___len__ rfl spR_no),
    fun b _ => mt__hold C (md_no C.a_Keeper__hold bp_Keeper__hold rfl spR_no),
    fun b _ => mt_build_side C (md_no C.a_Plan_build_side bp_Plan_build_side rfl spR_no),
    fun b _ => mt_held C (md_no C.a_Keeper_held bp_Keeper_held rfl spR_no),
    fun b _ => mt_least_back C (md_no C.a_Keeper_least_back bp_Keeper_least_back rfl spR_no),
    fun b _ => mt_offer C (md_no C.a_Keeper_offer bp_Keeper_offer rfl spR_no),
    (let ⟨_, M⟩ := C.k_Keeper; mk_of M (md_no C.a_Keeper___init__ bp_Keeper___init__ rfl spR_no) C.g_Keeper),
    (let ⟨_, M⟩ := C.k_Pass; mk_of M (md_no C.a_Pass___init__ bp_Pass___init__ rfl spR_no) C.g_Pass),
    (let ⟨_, M⟩ := C.k_Plan; mkD_no M C.g_Plan C.a_Plan___init__ spR_no)⟩
  | n + 1 => ⟨it_all C B,
    ok_choose_kept (ds_all D0 D1 D2 D3 D4 D5 D6 D7 D8 C B n) C D0 B,
    ok_meetings (ds_all D0 D1 D2 D3 D4 D5 D6 D7 D8 C B n) C D1 B,
    ok_with_marks (ds_all D0 D1 D2 D3 D4 D5 D6 D7 D8 C B n) C D2 B,
    ok_is_finished (ds_all D0 D1 D2 D3 D4 D5 D6 D7 D8 C B n) C D3 B,
    ok_make_pass (ds_all D0 D1 D2 D3 D4 D5 D6 D7 D8 C B n) C D4 B,
    ok_is_integer (ds_all D0 D1 D2 D3 D4 D5 D6 D7 D8 C B n) C D5 B,
    ok_law_draws (ds_all D0 D1 D2 D3 D4 D5 D6 D7 D8 C B n) C D6 B,
    ok_law_records (ds_all D0 D1 D2 D3 D4 D5 D6 D7 D8 C B n) C D7 B,
    ok_law_fields (ds_all D0 D1 D2 D3 D4 D5 D6 D7 D8 C B n) C D8 B,
    fun b hb => mt___len__ C (ok_Keeper___len__ (ds_all D0 D1 D2 D3 D4 D5 D6 D7 D8 C B n) C C.a_Keeper___len__ B b hb),
    fun b hb => mt__hold C (ok_Keeper__hold (ds_all D0 D1 D2 D3 D4 D5 D6 D7 D8 C B n) C C.a_Keeper__hold B b hb),
    fun b hb => mt_build_side C (ok_Plan_build_side (ds_all D0 D1 D2 D3 D4 D5 D6 D7 D8 C B n) C C.a_Plan_build_side B b hb),
    fun b hb => mt_held C (ok_Keeper_held (ds_all D0 D1 D2 D3 D4 D5 D6 D7 D8 C B n) C C.a_Keeper_held B b hb),
    fun b hb => mt_least_back C (ok_Keeper_least_back (ds_all D0 D1 D2 D3 D4 D5 D6 D7 D8 C B n) C C.a_Keeper_least_back B b hb),
    fun b hb => mt_offer C (ok_Keeper_offer (ds_all D0 D1 D2 D3 D4 D5 D6 D7 D8 C B n) C C.a_Keeper_offer B b hb),
    (let ⟨_, M⟩ := C.k_Keeper; mk_of M (ok_Keeper___init__ (ds_all D0 D1 D2 D3 D4 D5 D6 D7 D8 C B n) C C.a_Keeper___init__ B (some 0) (fun i h => by cases h; decide)) C.g_Keeper),
    (let ⟨_, M⟩ := C.k_Pass; mk_of M (ok_Pass___init__ (ds_all D0 D1 D2 D3 D4 D5 D6 D7 D8 C B n) C C.a_Pass___init__ B (some 0) (fun i h => by cases h; decide)) C.g_Pass),
    (let ⟨_, M⟩ := C.k_Plan; ok_Plan___init__ (ds_all D0 D1 D2 D3 D4 D5 D6 D7 D8 C B n) C M C.g_Plan C.a_Plan___init__ B)⟩
end
end Py
namespace Py
open PySem L2
theorem fldL_ok (c f : String) (_ : c ∈ clsL) (h : TT.fOk c f = true) : f ∈ fldL c := List.contains_iff_mem.mp h
def HFt : Prop := ∀ {P : Program} {w : World} {K : PySem.W.Frag} {h : Heap} {mg : Str -> Option Value} {f : Addr} (X : K.In h) (G : h.Ns mainGlobals mg) (hfa : mg ("law" : Str) = some (.ref f)) (c : SaysX faL fnL K) (hPf : ((P.main.file : Str) == fileL) = true) (hPs : (P.main.scope.names.lookup ("super" : Str)).isSome = false), ∃ fd : FuncData, (∀ (s : Shared) (v : Value), BindsTo s fd ⟨[v], []⟩ [("_law_script", v)]) /\ ∀ base : Heap, K.In base -> base.Ns mainGlobals mg -> FnOk P w K mg base CX0 24 f fd A_law (spL K)
end Py
section
open PySem PySem.W PySem.Calls PyProof.Rows
theorem Py.headL (HF : Py.HFt) : PySem.Challenge.rw_anyhashes_k31_pass_any_record_order.Holds := by
  unfold Py.HFt at HF
  w_on; o_law
  refine HandSHeadRun.head_any (r := OpenLaw.row PySem.Challenge.rw_anyhashes_k31_pass_any_record_order) (q := view (OpenLaw.row PySem.Challenge.rw_anyhashes_k31_pass_any_record_order).prog [Py.lawAt]) (H := Py.hkL) (ob := Py.obL) (M := 12000) (loose := Py.nmL) (d := HandSHeadRun.topDef (OpenLaw.row PySem.Challenge.rw_anyhashes_k31_pass_any_record_order).prog Py.lawAt) (kwd := []) Py.obL_eq
    (by kernel_rfl) (fun s => by kernel_rfl) Py.runL (by kernel_rfl) (by kernel_rfl) (by kernel_rfl) (by rfl) (by first | assumption | decide +kernel) (by decide +kernel) ⟨rfl, rfl, rfl, rfl, rfl, by decide +kernel⟩ ?hw ?hc
  case hw => w_witness2
  case hc =>
    refine L2.walk_ofE (l := PySem.Challenge.rw_anyhashes_k31_pass_any_record_order) (n := 63) (k := 24) (x := "_law_script") (CX := L2.CX0) rfl (by decide) (by kernel_rfl) ⟨rfl, by decide, by decide⟩ ?F (fun _ _ _ _ z => z)
    intro w mg fa h Y G hmg0
    obtain ⟨K, KX, c⟩ := Y
    have hmg : mg ("law" : PySem.Str) = some (.ref fa) := by
      have e : (HandSHeadRun.topDef (OpenLaw.row PySem.Challenge.rw_anyhashes_k31_pass_any_record_order).prog Py.lawAt).name = ("law" : PySem.Str) := by kernel_rfl
      rw [<- e]
      exact hmg0
    obtain ⟨fd, hb, hF⟩ := HF (P := (PySem.Challenge.rw_anyhashes_k31_pass_any_record_order).prog) (w := w) KX G hmg c (by kernel_rfl) (by kernel_rfl)
    exact ⟨K, fd, Py.spL K, KX, hb, fun H a ns hl _ hS => Py.spL_in hl hS, hF⟩
end
namespace Py
open PySem L2
open Enc (enc)
local macro_rules | `(tactic| simp? only [$xs,*]) => `(tactic| try simp (maxSteps := 1000000) (disch := first | omega | decide) only [e_xsSeq, e_xsNext, e_xsNever, e_xsAsg, e_xsAsgG, e_xsExpr, e_xsRet, e_xsIf, e_xsFrz, e_xmP, e_xVar_V, e_xtV, e_xtTru, e_xtAnd, e_xtOr, e_xtNot, e_xtYes, e_xVar, e_xInt, e_xBl, e_xNon, e_xStr, e_xSub, e_xMul, e_xDiv, e_xMod, e_xPow, e_xNeg, e_xAdd, e_xEq, e_xNe, e_xLt, e_xGt, e_xGe, e_xIsN, e_xAnd, e_xOr, e_xNot, e_xTup, e_xLst, e_xInt1, e_xAbs, e_xIx, e_xFld, e_xList, e_xTuple, e_xIsi, e_xCall, e_xLc, e_xSorted, e_xmVar, e_xmMove, e_xmAppend, e_xmInsert, e_xmPop, e_xoNil, e_xoCons, e_plVar, r_plVar, r_plFld, r_plIx, e_plFld, e_plIx, e_xaNilV, e_xaNilF, e_xaConsV, e_xaConsF, e_xgN, e_xgsNil, e_xgsCons, e_xgT, o_xgN, o_xgT, o_xgsNil, o_xgsCons, e_xiSeqF, e_xiSeqP, e_xiR1F, e_xiR1P, e_xsFor, e_xsWhile, e_xsAug, e_evV, e_evK, e_evF, e_evO, e_evB, h_getS0, h_getS0n, h_getSs, h_toV, h_toVn, h_toKf, h_toKp, h_toKv, h_toKn, h_toFf, h_toFp, h_toFv, h_toFn, h_toOf, h_toOp, h_toOv, h_toOn, h_of_f, h_of_p, h_of_v, h_then_nx, h_then_rt, h_then_bk, h_then_ct, h_then_ex, h_then_no, h_thenS_ok, h_thenS_exn, h_thenS_no, h_ofO, h_ofOn, h_of, h_ofn, h_mofO, h_mofOn, h_iteF1, h_iteF0, h_iteFn, h_asgK, h_asgGK, h_forK, h_andF1, h_andF0, h_orF1, h_orF0, h_blD, h_turn, h_turnn, h_forE, h_forEn, h_callF, h_callV, h_rzF, h_rzV, h_fz_non, h_sh_non, h_fl_non, h_isN_non, h_fz_bl, h_sh_bl, h_fl_bl, h_fz_int, h_sh_int, h_fl_int, h_isN_int, h_fz_str, h_sh_str, h_fl_str, h_isN_str, h_fz_cls, h_sh_cls, h_fl_cls, h_isN_cls, h_fz_sei, h_sh_sei, h_fl_sei, h_isN_sei, h_fz_scr, h_sh_scr, h_fl_scr, h_isN_scr, h_fz_tup, h_sh_tup, h_fl_tup, h_isN_tup, h_fz_lst, h_sh_lst, h_fl_lst, h_isN_lst, h_fz_dic, h_sh_dic, h_fl_dic, h_isN_dic, h_fz_dit, h_sh_dit, h_fl_dit, h_isN_dit, h_fz_dig, h_sh_dig, h_fl_dig, h_isN_dig, h_fz_dlf, h_sh_dlf, h_fl_dlf, h_isN_dlf, h_fz_xt, h_sh_xt, h_fl_xt, h_isN_xt, h_fz_len, h_sh_len, h_fl_len, h_isN_len, h_fz_ins, h_sh_ins, h_fl_ins, h_isN_ins, h_isN_bl, h_fz_olst, h_sh_olst, h_fl_olst, h_fz_odic, h_sh_odic, h_fl_odic, h_fz_odit, h_sh_odit, h_fl_odit, h_fz_odig, h_sh_odig, h_fl_odig, h_fz_olf, h_sh_olf, h_fl_olf, h_fz_oxt, h_sh_oxt, h_fl_oxt, h_fz_otup, h_sh_otup, h_fl_otup, h_fz_oins, h_sh_oins, h_fl_oins, h_fzs_nil, h_fzs_cons, h_fzs_app, h_tru_bl, h_tru_non, h_tru_int, h_tru_lst, h_tru_tup, h_sub, h_neg, h_addI, h_addT, h_addL, h_addLo, h_addoL, h_addoo, h_eqD, h_neD, h_ok_non, h_ok_bl, h_ok_int, h_ok_str, h_ok_tup, h_ok_lst, h_oks_nil, h_oks_cons, h_eqB_ii, h_eqB_ss, h_eqB_bb, h_eqB_nn, h_eqB_ni, h_eqB_in, h_eqB_nt, h_eqB_tn, h_eqB_tt, h_eqB_ll, h_eqBs_nn, h_eqBs_cc, h_eqBs_nc, h_eqBs_cn, h_cmp, h_ltI, h_ltT, h_ints_nil, h_ints_cons, h_intI, h_intB, h_abs, h_lenL, h_lenT, h_lenS, h_ix, h_it_lst, h_it_olst, h_it_tup, h_it_scr, h_at0, h_at1, h_at2, h_at3, h_at4, h_at5, h_at6, h_at7, h_at8, h_at9, h_at10, h_at11, h_at12, h_atm1, h_seq_lst, h_seq_tup, h_seq_olst, h_seq_scr, h_sF_lst, h_sF_tup, h_sF_scr, h_ty_non, h_ty_bl, h_ty_int, h_ty_str, h_ty_lst, h_ty_tup, h_ty_ins, h_isi_bb, h_isi_bo, h_isi_ob, h_isi_oo, h_isiB_NoneType_bool, h_isiB_NoneType_int, h_isiB_NoneType_str, h_isiB_NoneType_list, h_isiB_NoneType_tuple, h_isiB_NoneType_dict, h_isiB_bool_bool, h_isiB_bool_int, h_isiB_bool_str, h_isiB_bool_list, h_isiB_bool_tuple, h_isiB_bool_dict, h_isiB_int_bool, h_isiB_int_int, h_isiB_int_str, h_isiB_int_list, h_isiB_int_tuple, h_isiB_int_dict, h_isiB_str_bool, h_isiB_str_int, h_isiB_str_str, h_isiB_str_list, h_isiB_str_tuple, h_isiB_str_dict, h_isiB_list_bool, h_isiB_list_int, h_isiB_list_str, h_isiB_list_list, h_isiB_list_tuple, h_isiB_list_dict, h_isiB_tuple_bool, h_isiB_tuple_int, h_isiB_tuple_str, h_isiB_tuple_list, h_isiB_tuple_tuple, h_isiB_tuple_dict, h_isiB_dict_bool, h_isiB_dict_int, h_isiB_dict_str, h_isiB_dict_list, h_isiB_dict_tuple, h_isiB_dict_dict, h_append, h_pop, h_insert, h_put0, h_rng1, h_guard1, h_guard0, h_forLn, h_forLc, h_forT_nx, h_forT_ct, h_forT_bk, h_forT_rt, h_forT_ex, h_lc1, h_lcK, h_lcJ1, h_lcJ0, h_wipe0, h_wipes, h_frz, h_frzO, h_frzOn, h_runR_rt, h_runR_nx, h_retZ, h_bGetn, h_bGets, h_setS, h_ipD, h_fldI, h_fldO, h_sfld, h_six, h_iteFd1, h_iteFd0, h_iteFe1, h_iteFe0, h_andFd1, h_andFd0, h_andFe1, h_andFe0, h_orFd1, h_orFd0, h_orFe1, h_orFe0, h_lcJd1, h_lcJd0, h_lcJe1, h_lcJe0, h_eMeth, h_methF, h_methV, h_methW, h_meth1, h_meth2, h_resE, h_resEn, h_posn, h_posc, h_eMmeth, h_methM1, h_methM0, h_rm0o, h_rm0x, h_rm0n, h_rm1o, h_rm1x, h_putc, h_putE, h_subF, h_subI, h_putF, h_putI, h_setOs, h_eSfld, h_fldK, h_setFD, h_setFn, h_setFc, h_eMake, h_makeF, h_makeV, h_mk1, h_mkR, h_eLenU, h_lenI_lst, h_lenI_tup, h_lenI_scr, h_lenI_ins, h_lenQ, h_lenR, h_eSortR, h_RTthen_ok, h_RTthenS_ok, h_RTthen_exn, h_RTthenS_exn, h_RTof, h_it_ins, h_lo_lst, h_lo_olst, h_seqFI_lst, h_seqFI_tup, h_seqFI_scr, h_seqFI_ins, h_ixD_ins, h_okD_ins, h_eqD_ins, h_addD_ins, h_addD_oins, h_eMakeN, h_makeNE_F, h_makeNE_V, h_makeNE_W, h_mkN, h_mgM_t, h_mgM_f, h_mgM_n, h_eDnew, h_eDget2, h_getE_non, h_getE_int, h_getE_str, h_getM_s, h_getM_n, h_eDin, h_inK_non, h_inK_int, h_inK_str, h_dicOf_d, h_dicOf_o, h_dputI, h_dputS, h_eDc, h_guardB_t, h_dc1, h_dcK, h_dcJ1, h_dcJ0, h_keyD_i, h_keyD_s, h_eDapp, h_dappI, h_dcL_n, h_putP_n, h_ePar, h_par2, h_qevO, h_qevB, h_qevF, h_toQf, h_toQp, h_toQv, h_toQn, h_runR_ex, h_retX, h_thenY1, h_thenY2, h_thenY3, h_look1, h_look2, h_div, h_mod, h_mulL, h_mulR, h_rngOk, List.zip_cons_cons, List.zip_nil_left, if_pos, if_neg, List.getElem?_cons_zero, List.getElem?_cons_succ, List.getElem?_nil, List.getLast?_append, List.getLast?_singleton, List.getLast?_cons_cons, runFn, env0, Option.toList, List.map_cons, List.map_nil, List.length_cons, List.length_nil, List.length_append, List.length_map, List.length_set, List.replicate, List.cons_append, List.nil_append, List.append_nil, Nat.reduceSub, Nat.reduceAdd, Nat.reduceLT, Nat.reduceLeDiff, Nat.reduceEqDiff, Nat.zero_add, Nat.add_zero, List.set_cons_zero, List.set_cons_succ, List.set_nil, Option.bind_some, Option.bind_none, Option.map_some, Option.map_none, List.foldl_cons, List.foldl_nil, not_false_eq_true, not_true_eq_false, and_true, true_and, and_self, and_false, false_and, if_true, if_false, ite_true, ite_false, reduceIte, List.not_mem_nil, reduceCtorEq, List.mem_cons, or_false, false_or, or_self, ne_eq, Bool.not_true, Bool.not_false, Bool.and_true, Bool.and_false, Bool.true_and, Bool.false_and, Bool.or_true, Bool.or_false, Bool.true_or, Bool.false_or, Bool.and_self, Bool.or_self, List.all_cons, List.all_nil, decide_true, decide_false, decide_not, decide_eq_true_eq, decide_eq_false_iff_not, Bool.not_not, Int.reduceLT, Int.reduceLE, Int.reduceEq, Int.reduceNe, Int.reduceAdd, Int.reduceMul, Int.reduceSub, Int.reduceNeg, List.isEmpty_cons, List.isEmpty_nil, Bool.false_eq_true, Bool.true_eq_false, String.reduceEq, Function.comp_apply, Option.isNone_none, Option.some_or, Option.isNone_some, List.getLast?_concat, List.dropLast_concat, List.all_append, $xs,*])
local macro_rules | `(tactic| dsimp? only [$xs,*]) => `(tactic| simp? only [ik_Keeper, fk_Keeper__room, fk_Keeper__held, fk_Keeper__least_back, rs_Keeper___len__, rs_Keeper__hold, rs_Keeper_build_side, rs_Keeper_held, rs_Keeper_least_back, rs_Keeper_offer, sb_Keeper_Keeper, sb_Keeper_Pass, sb_Keeper_Plan, ik_Pass, fk_Pass_path, fk_Pass_how, fk_Pass_build, fk_Pass_bound, fk_Pass_kept, fk_Pass_met, fk_Pass_left_done, fk_Pass_left_rest, fk_Pass_right_done, fk_Pass_right_rest, rs_Pass___len__, rs_Pass__hold, rs_Pass_build_side, rs_Pass_held, rs_Pass_least_back, rs_Pass_offer, sb_Pass_Keeper, sb_Pass_Pass, sb_Pass_Plan, ik_Plan, fk_Plan_room, fk_Plan_build, fk_Plan_keep_from, rs_Plan___len__, rs_Plan__hold, rs_Plan_build_side, rs_Plan_held, rs_Plan_least_back, rs_Plan_offer, sb_Plan_Keeper, sb_Plan_Pass, sb_Plan_Plan, $xs,*])
local macro_rules | `(tactic| walk_at "ev") => `(tactic| simp? only [])
section
variable {W : Wd TT}
theorem whileN_fin {c : Py.Env -> Option Bool} {f : Py.Env -> RS} {r : RS} (I : Nat -> Py.Env -> Prop) (J : Py.Env -> Prop) (hs : ∀ m e, I m e -> (c e = some false /\ J e) \/ ∃ m' e', m' < m /\ c e = some true /\ (f e = .nx e' \/ f e = .ct e') /\ I m' e')
    {n m : Nat} {env : Py.Env} (hm : m < n) (h : whileN c f n env = r) (h0 : I m env) : ∃ e', r = .nx e' /\ J e' := by
  obtain ⟨e', m', h1, h2, h3⟩ := whileN_gen I (fun m e h => (hs m e h).imp And.left id) hm h h0
  rcases hs m' e' h2 with h4 | ⟨_, _, _, h4, _⟩
  · exact ⟨e', h1, h4.2⟩
  · rw [h3] at h4; cases h4
def kD (r : Int) (h : List Pr) (l : Option Pr) : D := .oins "Keeper" ["_room", "_held", "_least_back"] [.int r, .olst (h.map eR), oR l]
def kS (r : Int) (h : List Pr) (l : Option Pr) : D := .ins "Keeper" ["_room", "_held", "_least_back"] [.int r, .lst (h.map eR), oR l]
local macro_rules | `(tactic| walk_at "evk") => `(tactic| dsimp? only [sh_eR, fz_eR, fl_eR, sh_oR, fz_oR, ok_eR, ok_oR, eq_eR, eq_oR, eq_eRn, eq_neR, isN_eR, isN_oR, ty_eR, len_eR, sF_eR, it_eR, lt_eR, okl_eR, eql_eR, shl_eR, fzl_eR])
theorem f_init (k : Nat) (r : Int) : semT (tbl W) (k + 1) "Keeper.__init__" [.oins "Keeper" [] [], .int r] (some 0) = .ok .non (some (kD r [] none)) := by
  rw [sem_Keeper___init__]
  unfold b_Keeper___init__
  walk_at "evk"
  rfl
theorem f_heldS (k : Nat) (r : Int) (h : List Pr) (l : Option Pr) : semT (tbl W) (k + 1) "Keeper.held" [kS r h l] none = .ok (.olst (h.map eR)) none := by
  rw [sem_Keeper_held]
  unfold b_Keeper_held kS
  walk_at "evk"
theorem f_lb (k : Nat) (r : Int) (h : List Pr) (l : Option Pr) : semT (tbl W) (k + 1) "Keeper.least_back" [kS r h l] none = .ok (oR l) none := by
  rw [sem_Keeper_least_back]
  unfold b_Keeper_least_back kS
  walk_at "evk"
theorem f_hold (k : Nat) (r : Int) (h : List Pr) (l : Option Pr) (p : Pr) (hl : h.length <= 1000) : semT (tbl W) (k + 1) "Keeper._hold" [kD r h l, eR p] (some 0) = .ok .non (some (kD r (insR p h) l)) := by
  rw [sem_Keeper__hold]
  unfold b_Keeper__hold kD
  walk_at "evk"
  generalize hW : whileN _ _ _ _ = rr
  obtain ⟨e', rfl, m, hm, rfl, hI⟩ := whileN_fin (fun m e => m <= h.length /\ e = [some (.oins "Keeper" ["_room", "_held", "_least_back"] [.int r, .olst (h.map eR), oR l]), some (eR p), some (.int (m : Int))] /\ insR p h = insR p (h.take m) ++ h.drop m)
    (fun e => ∃ m : Nat, m <= h.length /\ e = [some (.oins "Keeper" ["_room", "_held", "_least_back"] [.int r, .olst (h.map eR), oR l]), some (eR p), some (.int (m : Int))] /\ insR p h = h.take m ++ [p] ++ h.drop m) (by
    rintro m _ ⟨hm, rfl, hI⟩
    rcases m with _ | m
    · left
      refine ⟨by walk_at "evk", 0, by omega, rfl, by rw [hI]; rfl⟩
    · have hx : h[m]? = some (h[m]) := List.getElem?_eq_getElem (by omega)
      have ha : atI (h.map eR) (((m + 1 : Nat) : Int) - 1) = some (eR h[m]) := by
        rw [show (((m + 1 : Nat) : Int) - 1) = (m : Int) by omega, atI_map, atI_of hx]; rfl
      have ht : h.take (m + 1) = h.take m ++ [h[m]] := by rw [List.take_add_one, hx]; rfl
      have hd : h.drop m = h[m] :: h.drop (m + 1) := (List.drop_eq_getElem_cons (by omega))
      rw [ht, insR_snoc] at hI
      by_cases hlt : ltR p h[m] = true
      · right
        rw [if_pos hlt] at hI
        refine ⟨m, [some (.oins "Keeper" ["_room", "_held", "_least_back"] [.int r, .olst (h.map eR), oR l]), some (eR p), some (.int (m : Int))], by omega, ?_, .inl ?_, by omega, rfl, by rw [hI, hd]; simp⟩
        · walk_at "evk"
          rw [ha]
          walk_at "evk"
          rw [hlt]
        · unfold l1_Keeper__hold
          walk_at "evk"
          rw [show (((m + 1 : Nat) : Int) - 1) = (m : Int) by omega]
      · left
        rw [if_neg hlt] at hI
        refine ⟨?_, m + 1, by omega, rfl, by rw [hI, ht]⟩
        walk_at "evk"
        rw [ha]
        walk_at "evk"
        simpa using hlt) (n := fuel) (m := h.length) (by unfold fuel; omega) hW ⟨by omega, rfl, by simp⟩
  walk_at "evk"
  rw [hI, List.map_append, List.map_append, List.map_take, List.map_drop]
  walk_at "evk"
  rfl
def updR (l : Option Pr) (b : Pr) : Option Pr := match l with
  | none => some b
  | some q => if ltR b q = true then some b else some q
local macro_rules | `(tactic| walk_at "evh") => `(tactic| dsimp? only [List.getLast?_concat, List.dropLast_concat, List.map_append, sh_eR, fz_eR, fl_eR, sh_oR, fz_oR, ok_eR, ok_oR, eq_eR, eq_oR, eq_eRn, eq_neR, isN_eR, isN_oR, ty_eR, len_eR, sF_eR, it_eR, lt_eR, okl_eR, eql_eR, shl_eR, fzl_eR])
theorem f_offer1 (k : Nat) (r : Int) (h : List Pr) (l : Option Pr) (p : Pr) (hl : h.length <= 1000) (hr : (h.length : Int) < r) : semT (tbl W) (k + 2) "Keeper.offer" [kD r h l, eR p] (some 0) = .ok .non (some (kD r (insR p h) l)) := by
  have hh := f_hold (W := W) k r h l p hl
  rw [sem_Keeper_offer]
  unfold b_Keeper_offer kD
  unfold kD at hh
  walk_at "evk"
  rw [hh]
  walk_at "evk"
theorem f_offer2 (k : Nat) (r : Int) (h : List Pr) (l : Option Pr) (p : Pr) (hl : h.length <= 1000) (hr : ¬ (h.length : Int) < r) (h0 : 0 < h.length) : ∃ A b, insR p h = A ++ [b] /\ semT (tbl W) (k + 2) "Keeper.offer" [kD r h l, eR p] (some 0) = .ok (eR b) (some (kD r A (updR l b))) := by
  obtain ⟨g, x, rfl⟩ : ∃ g x, h = g ++ [x] := ⟨h.dropLast, h.getLast (by intro z; simp [z] at h0), (List.dropLast_concat_getLast _).symm⟩
  simp only [List.length_append, List.length_cons, List.length_nil] at hl hr
  rw [insR_snoc, sem_Keeper_offer]
  unfold b_Keeper_offer
  by_cases hlt : ltR p x = true
  · have hh := f_hold (W := W) k r g l p (by omega)
    refine ⟨insR p g, x, by rw [if_pos hlt], ?_⟩
    unfold kD at hh ⊢
    walk_at "evh"
    rw [hlt]
    walk_at "evh"
    rw [hh]
    cases l with
    | none =>
      unfold oR
      walk_at "evh"
      rfl
    | some q =>
      unfold oR
      walk_at "evh"
      cases hb : ltR x q <;> (walk_at "evh") <;> simp [updR, hb]
  · refine ⟨g ++ [x], p, by rw [if_neg hlt], ?_⟩
    have hlt : ltR p x = false := by simpa using hlt
    unfold kD
    walk_at "evh"
    rw [hlt]
    cases l with
    | none =>
      unfold oR
      walk_at "evh"
      unfold updR
      rfl
    | some q =>
      unfold oR
      walk_at "evh"
      cases hb : ltR p q <;> (walk_at "evh") <;> simp [updR, hb]
theorem snoc_ind {α : Type} {P : List α -> Prop} (h0 : P []) (h1 : ∀ xs x, P xs -> P (xs ++ [x])) (xs : List α) : P xs := by
  have : ∀ ys : List α, P ys.reverse := fun ys => by
    induction ys with
    | nil => exact h0
    | cons y ys ih => rw [List.reverse_cons]; exact h1 _ _ ih
  simpa using this xs.reverse
theorem insR_app1 (p x : Pr) (G : List Pr) (h : ltR p x = true) : ∀ rest : List Pr, AscR (x :: rest) -> insR p (G ++ x :: rest) = insR p G ++ x :: rest := by
  refine snoc_ind (fun _ => ?_) fun rest y ih hs => ?_
  · rw [insR_snoc, if_pos h]
  · have hs' : AscR (x :: rest) := hs.sublist (by simp)
    have hxy : leR x y = true := (List.pairwise_cons.mp hs).1 y (by simp)
    have hpy : ltR p y = true := by rw [ltR_iff] at *; rw [leR_iff] at hxy; omega
    rw [show G ++ x :: (rest ++ [y]) = (G ++ x :: rest) ++ [y] by simp, insR_snoc, if_pos hpy, ih hs']
    simp
theorem insR_app2 (p : Pr) (H : List Pr) (h : ∀ x ∈ H, ltR p x = false) : ∀ rest : List Pr, insR p (H ++ rest) = H ++ insR p rest := by
  refine snoc_ind ?_ fun rest y ih => ?_
  · rw [List.append_nil, insR_nil]
    revert h
    refine snoc_ind (P := fun H => (∀ x ∈ H, ltR p x = false) -> insR p H = H ++ [p]) (fun _ => rfl) (fun G x _ h => ?_) H
    rw [insR_snoc, h x (by simp)]; simp
  · rw [<- List.append_assoc, insR_snoc, insR_snoc]
    by_cases hp : ltR p y = true
    · rw [if_pos hp, if_pos hp, ih]; simp
    · rw [if_neg hp, if_neg hp]; simp
def stepK (r : Nat) (st : List Pr × Option Pr) (p : Pr) : List Pr × Option Pr := if st.1.length < r then (insR p st.1, st.2) else ((insR p st.1).dropLast, match (insR p st.1).getLast? with | some b => updR st.2 b | none => st.2)
theorem step_top (r : Nat) (hr : 0 < r) (S : List Pr) (hS : AscR S) (p : Pr) : stepK r (S.take r, S[r]?) p = ((insR p S).take r, (insR p S)[r]?) := by
  unfold stepK
  by_cases h : S.length < r
  · have h1 : S.take r = S := List.take_of_length_le (by omega)
    rw [h1, if_pos h]
    have h2 := insR_len p S
    rw [List.take_of_length_le (by omega), List.getElem?_eq_none (by omega), List.getElem?_eq_none (by omega)]
  · have hl : (S.take r).length = r := by rw [List.length_take]; omega
    rw [if_neg (show ¬ (S.take r).length < r by omega)]
    show ((insR p (S.take r)).dropLast, match (insR p (S.take r)).getLast? with | some b => updR S[r]? b | none => S[r]?) = _
    obtain ⟨G, x, hG⟩ : ∃ G x, S.take r = G ++ [x] := ⟨(S.take r).dropLast, (S.take r).getLast (by intro z; rw [z] at hl; simp at hl; omega), (List.dropLast_concat_getLast _).symm⟩
    have hGl : G.length + 1 = r := by rw [hG] at hl; simpa using hl
    generalize hR : S.drop r = R
    have hSe : S = G ++ x :: R := by rw [<- List.take_append_drop r S, hG, hR]; simp
    have hr2 : S[r]? = R.head? := by rw [<- hR, List.head?_drop]
    have hxR : AscR (x :: R) := by rw [hSe] at hS; exact (List.pairwise_append.mp hS).2.1
    rw [hr2, hG, insR_snoc]
    by_cases hlt : ltR p x = true
    · rw [if_pos hlt, hSe, insR_app1 p x G hlt R hxR]
      have hgl := insR_len p G
      rw [List.dropLast_concat, List.getLast?_concat, List.take_append_of_le_length (by omega), List.take_of_length_le (by omega), List.getElem?_append_right (by omega), show r - (insR p G).length = 0 by omega]
      show (insR p G, updR R.head? x) = (insR p G, some x)
      congr 1
      cases R with
      | nil => rfl
      | cons q R =>
        show (if ltR x q = true then some x else some q) = some x
        have := (List.pairwise_cons.mp hxR).1 q (by simp)
        split
        · rfl
        · rename_i hn
          have h3 : leR q x = true := by unfold leR; simpa using hn
          rw [leR_anti this h3]
    · have hall : ∀ y ∈ G ++ [x], ltR p y = false := fun y hy => by
        have hle : leR y x = true := by
          rcases List.mem_append.mp hy with m | m
          · rw [hSe] at hS; exact (List.pairwise_append.mp hS).2.2 y m x (by simp)
          · rw [List.mem_singleton.mp m]; exact leR_refl x
        rw [<- Bool.not_eq_true, ltR_iff] at *
        rw [leR_iff] at hle
        omega
      rw [if_neg hlt, hSe, show G ++ x :: R = (G ++ [x]) ++ R by simp, insR_app2 p _ hall]
      rw [List.dropLast_concat, List.getLast?_concat, List.take_append_of_le_length (by simp; omega), List.take_of_length_le (by simp; omega), List.getElem?_append_right (by simp; omega), show r - (G ++ [x]).length = 0 by simp; omega]
      show (G ++ [x], updR R.head? p) = (G ++ [x], (insR p R)[0]?)
      congr 1
      cases R with
      | nil => rfl
      | cons q R =>
        have hqR : AscR (q :: R) := (List.pairwise_cons.mp hxR).2
        show (if ltR p q = true then some p else some q) = _
        by_cases hq : ltR p q = true
        · rw [if_pos hq, show q :: R = [] ++ q :: R from rfl, insR_app1 p q [] hq R hqR, insR_nil]; rfl
        · rw [if_neg hq, show q :: R = [q] ++ R from rfl, insR_app2 p [q] (fun y hy => by rw [List.mem_singleton.mp hy]; simpa using hq)]; rfl
local macro_rules | `(tactic| walk_at "evc") => `(tactic| dsimp? only [])
theorem u_is_integer (k : Nat) (i : Int) : semT (tbl W) (k + 1) "is_integer" [.int i] none = .ok (.bl true) none := by
  rw [sem_is_integer]; unfold b_is_integer; walk_at "ev"
abbrev pD (room : Int) (build : String) (keep : Int) : D := .oins "Plan" ["room", "build", "keep_from"] [.int room, .str build, .int keep]
abbrev pS (room : Int) (build : String) (keep : Int) : D := .ins "Plan" ["room", "build", "keep_from"] [.int room, .str build, .int keep]
theorem f_plan_init (k : Nat) {room keep : Int} {build : String} (h1 : 1 <= room) (h2 : room <= 100) (h3 : 0 <= keep) (h4 : keep <= 8) (h5 : build = "left" \/ build = "right" \/ build = "lesser") :
    semT (tbl W) (k + 2) "Plan.__init__" [.oins "Plan" [] [], .int room, .str build, .int keep] (some 0) = .ok .non (some (pD room build keep)) := by
  have u := fun i => u_is_integer (W := W) k i
  rw [sem_Plan___init__]
  unfold b_Plan___init__
  walk_at "evc"
  rw [u]
  walk_at "evc"
  rcases h5 with rfl | rfl | rfl <;> (walk_at "evc"; try rw [u]; try walk_at "evc")
def sideB (b : String) (l r : Int) : String := if b = "lesser" then (if l < r then "left" else "right") else b
theorem f_build_side (k : Nat) {R K l r : Int} {b : String} (hb : b = "left" \/ b = "right" \/ b = "lesser") : semT (tbl W) (k + 1) "Plan.build_side" [pS R b K, .int l, .int r] none = .ok (.str (sideB b l r)) none := by
  rw [sem_Plan_build_side]
  unfold b_Plan_build_side sideB
  rcases hb with rfl | rfl | rfl
  · walk_at "evc"
    try rfl
  · walk_at "evc"
    try rfl
  · by_cases h : l < r
    · rw [if_pos rfl, if_pos h]
      walk_at "evc"
    · rw [if_pos rfl, if_neg h]
      walk_at "evc"
theorem side_lr {b : String} (hb : b = "left" \/ b = "right" \/ b = "lesser") (l r : Int) : sideB b l r = "left" \/ sideB b l r = "right" := by
  unfold sideB
  rcases hb with rfl | rfl | rfl
  · exact .inl rfl
  · exact .inr rfl
  · rw [if_pos rfl]; split; exact .inl rfl; exact .inr rfl
abbrev Rec := T3 Int Int Bool
def dT (r : Rec) : PyData := .tuple [.int r.a, .int r.b, .bool r.c]
theorem pd_Rec (r : Rec) : pd (enc r) = some (dT r) := by
  show pd (.tup [.int r.a, .int r.b, .bl r.c]) = _
  unfold dT; simp [pd, pds]
theorem sortOk_dT (rs : List Rec) : sortOk (rs.map dT) = true := by
  unfold sortOk
  simp only [Bool.and_eq_true, List.all_eq_true, Bool.or_eq_true]
  refine ⟨⟨?_, .inl ?_⟩, ?_⟩
  · intro a ha b hb
    obtain ⟨x, _, rfl⟩ := List.mem_map.mp ha
    obtain ⟨y, _, rfl⟩ := List.mem_map.mp hb
    simp [dT, PySem.W.alike, PySem.W.alikeAll]
  · intro a ha
    obtain ⟨x, _, rfl⟩ := List.mem_map.mp ha
    rfl
  · intro a ha
    obtain ⟨x, _, rfl⟩ := List.mem_map.mp ha
    simp [dT, PyData.depth, PyData.depthAll]
def srtT (rs : List Rec) : List Rec := rs.mergeSort (PySem.W.dataLe false dT)
theorem srt_Rec (rs : List Rec) : sortD (rs.map enc) = some ((srtT rs).map enc) := sortD_map pd_Rec rs (sortOk_dT rs)
theorem srtT_perm (rs : List Rec) : (srtT rs).Perm rs := List.mergeSort_perm _ _
theorem srtT_len (rs : List Rec) : (srtT rs).length = rs.length := (srtT_perm rs).length_eq
theorem xg_eR {T : Tbl} {W : Wd T} {gs : XGs W} {P : List Nat} {env : Py.Env} (p : Pr) : (xgT 2 gs).ev P (eR p) env = gs.ev P [.int p.1, .int p.2] env := by show (xgT 2 gs).ev P (.tup _) env = _; rw [e_xgT]; exact if_pos rfl
local macro_rules | `(tactic| walk_at "evp") => `(tactic| dsimp? only [xg_eR, rangeD_length, sh_eR, fz_eR, fl_eR, sh_oR, fz_oR, ok_eR, ok_oR, eq_eR, eq_oR, eq_eRn, eq_neR, isN_eR, isN_oR, ty_eR, len_eR, sF_eR, it_eR, lt_eR, okl_eR, eql_eR, shl_eR, fzl_eR, srt_eR, srt_Rec, it_t3, sF_t3, sFI_t3, ty_t3, len_t3, lenI_t3, fl_t3, xg_t3, enc_int, enc_bool, isN_opt, sh_enc, fz_enc, shl_enc, fzl_enc, fl_enc, ok_enc, okl_enc, eq_enc, eql_enc, en_enc, ne_enc, nn_enc, vE_length, kI_length])
theorem f_offer (k r : Nat) (hr : 0 < r) (h : List Pr) (l : Option Pr) (p : Pr) (hl : h.length <= 1000) : ∃ d, semT (tbl W) (k + 2) "Keeper.offer" [kD r h l, eR p] (some 0) = .ok d (some (kD r (stepK r (h, l) p).1 (stepK r (h, l) p).2)) := by
  unfold stepK
  by_cases hlt : h.length < r
  · rw [if_pos hlt]
    exact ⟨_, f_offer1 k r h l p hl (by omega)⟩
  · rw [if_neg hlt]
    obtain ⟨A, b, hA, ho⟩ := f_offer2 (W := W) k r h l p hl (by omega) (by omega)
    refine ⟨eR b, ho.trans ?_⟩
    rw [hA]
    simp only [List.dropLast_concat, List.getLast?_concat]
theorem offers (k r : Nat) (hr : 0 < r) (rs : List Rec) (hl : rs.length <= 1000) (x0 x1 x2 : Option D) : ∃ o4 o5 o6, forL (forK (xgT 3 (xgsCons (xgN W 4) (xgsCons (xgN W 5) (xgsCons (xgN W 6) (xgsNil W))))) (l1_choose_kept W (semT (tbl W) (k + 2))) []) (rs.map enc) [x0, x1, x2, some (kD r [] none), none, none, none, none] =
    .nx [x0, x1, x2, some (kD r ((srtR (rs.map fun q => (q.b, q.a))).take r) (srtR (rs.map fun q => (q.b, q.a)))[r]?), o4, o5, o6, none] := by
  generalize hF : forL _ _ _ = rr
  obtain ⟨e', rfl, o4, o5, o6, rfl⟩ := forL_enc (fun ys e => ∃ o4 o5 o6, e = [x0, x1, x2, some (kD r ((srtR (ys.map fun q : Rec => (q.b, q.a))).take r) (srtR (ys.map fun q : Rec => (q.b, q.a)))[r]?), o4, o5, o6, none]) hF ⟨none, none, none, by simp [srtR]⟩ (by
    rintro ys q zs _ hx ⟨o4, o5, o6, rfl⟩
    have hp := pre_le hx
    rw [List.map_append, List.map_singleton]
    generalize hps : ys.map (fun q : Rec => (q.b, q.a)) = ps
    have hpl : ps.length = ys.length := by rw [<- hps, List.length_map]
    have hS := srtR_asc ps
    have hT : srtR (ps ++ [(q.b, q.a)]) = insR (q.b, q.a) (srtR ps) := srtR_of (insR_asc _ hS) ((insR_perm _ _).trans ((srtR_perm _).append_right _))
    have hsl : (srtR ps).length = ps.length := srtR_len ps
    obtain ⟨d, ho⟩ := f_offer (W := W) k r hr ((srtR ps).take r) (srtR ps)[r]? (q.b, q.a) (by rw [List.length_take]; omega)
    rw [step_top r hr _ hS] at ho
    rw [hT]
    generalize (srtR ps).take r = H at ho ⊢
    generalize (srtR ps)[r]? = l at ho ⊢
    generalize (insR (q.b, q.a) (srtR ps)).take r = H' at ho ⊢
    generalize (insR (q.b, q.a) (srtR ps))[r]? = l' at ho ⊢
    have hee : (eR (q.b, q.a)) = .tup [.int q.b, .int q.a] := rfl
    rw [hee] at ho
    unfold l1_choose_kept
    unfold kD at ho ⊢
    refine ⟨_, .inl (by walk_at "evp"; rw [ho]; walk_at "evp"; rfl), _, _, _, rfl⟩)
  exact ⟨_, _, _, rfl⟩
def backO (H : List Pr) : Option Pr -> String × List Pr × Option Int
  | none => ("all", H, none)
  | some b => ("some", H, some b.1)
def chooseP (R K : Int) (depth : Int) (rs : List Rec) : String × List Pr × Option Int :=
  if R < rs.length /\ depth < K then ("none", [], none) else backO ((srtR (rs.map fun q => (q.b, q.a))).take R.toNat) (srtR (rs.map fun q => (q.b, q.a)))[R.toNat]?
theorem f_choose_kept (k : Nat) {R K depth : Int} {b : String} (hR : 1 <= R) (rs : List Rec) (hl : rs.length <= 1000) : semT (tbl W) (k + 3) "choose_kept" [.lst (rs.map enc), .int depth, pS R b K] none =
    .ok (.tup [.str (chooseP R K depth rs).1, .lst ((chooseP R K depth rs).2.1.map eR), enc (chooseP R K depth rs).2.2]) none := by
  obtain ⟨r, rfl⟩ : ∃ r : Nat, R = (r : Int) := ⟨R.toNat, by omega⟩
  have hi := f_init (W := W) (k + 1) r
  obtain ⟨o4, o5, o6, ho⟩ := offers (W := W) k r (by omega) rs hl (some (.lst (rs.map enc))) (some (.int depth)) (some (pS r b K))
  rw [sem_choose_kept]
  unfold b_choose_kept chooseP
  rw [Int.toNat_natCast]
  by_cases h : (r : Int) < rs.length /\ depth < K
  · rw [if_pos h]
    obtain ⟨h1, h2⟩ := h
    walk_at "evp"
    try rfl
  · rw [if_neg h]
    generalize hH : (srtR (rs.map fun q => (q.b, q.a))).take r = H at *
    generalize hb : (srtR (rs.map fun q => (q.b, q.a)))[r]? = l at *
    have f1 : semT (tbl W) (k + 1 + 1) "Keeper.least_back" [.ins "Keeper" ["_room", "_held", "_least_back"] [.int r, .lst (H.map eR), oR l]] none = .ok (oR l) none := f_lb (W := W) (k + 1) r H l
    have f2 : semT (tbl W) (k + 1 + 1) "Keeper.held" [.ins "Keeper" ["_room", "_held", "_least_back"] [.int r, .lst (H.map eR), oR l]] none = .ok (.olst (H.map eR)) none := f_heldS (W := W) (k + 1) r H l
    have hc : ¬ (r : Int) < rs.length \/ ((r : Int) < rs.length /\ ¬ depth < K) := by omega
    rcases hc with h1 | ⟨h1, h2⟩
    all_goals
      walk_at "evp"
      rw [hi]
      walk_at "evp"
      rw [ho]
      unfold kD
      walk_at "evp"
      rw [f1]
      cases l with
      | none =>
        unfold backO oR at *
        walk_at "evp"
        rw [f2]
        walk_at "evp"
        rfl
      | some p =>
        unfold backO oR at *
        walk_at "evp"
        rw [f2]
        walk_at "evp"
        rfl
def meetG (l : Bool) (kept : List Pr) (r : Rec) : List Pr := (kept.filter fun p => decide (p.1 = r.b)).map fun p => if l = true then (p.2, r.a) else (r.a, p.2)
def meetP (l : Bool) (kept : List Pr) (probe : List Rec) : List Pr := srtR (probe.flatMap (meetG l kept))
def byK (kept : List Pr) : List (Int × List Int) := kept.foldl (fun m p => alA m p.1 p.2) []
theorem byK_nk : ∀ (kept : List Pr) (m : List (Int × List Int)), Nk m -> Nk (kept.foldl (fun m p => alA m p.1 p.2) m)
  | [], m, h => h
  | p :: ps, m, h => byK_nk ps _ (Nk.put h)
theorem byK_get (k : Int) : ∀ (kept : List Pr) (m : List (Int × List Int)), ((alG (kept.foldl (fun m p => alA m p.1 p.2) m) k).getD []) = (alG m k).getD [] ++ (kept.filter fun p => decide (p.1 = k)).map (·.2)
  | [], m => by simp
  | p :: ps, m => by
    rw [List.foldl_cons, byK_get k ps]
    unfold alA
    rw [alG_alP]
    by_cases h : k = p.1
    · subst h
      rw [if_pos rfl, List.filter_cons_of_pos (by simp)]
      simp
    · rw [if_neg h, List.filter_cons_of_neg (by simpa using fun z => h z.symm)]
theorem byK_bd (N : Nat) : ∀ (kept : List Pr) (m : List (Int × List Int)), m.length + kept.length <= N -> (∀ q ∈ m, q.2.length + kept.length <= N) -> (kept.foldl (fun m p => alA m p.1 p.2) m).length <= N /\ ∀ q ∈ kept.foldl (fun m p => alA m p.1 p.2) m, q.2.length <= N
  | [], m, h, h2 => ⟨by simpa using h, fun q hq => by simpa using h2 q hq⟩
  | p :: ps, m, h, h2 => by
    rw [List.foldl_cons]
    simp only [List.length_cons] at h h2
    refine byK_bd N ps _ ?_ fun q hq => ?_
    · have : (alA m p.1 p.2).length <= m.length + 1 := alP_length
      omega
    · have hv : ((alG m p.1).getD []).length + (ps.length + 1) <= N := by
        unfold alG
        cases hf : m.find? (fun q => decide (q.1 = p.1)) with
        | none => simp; omega
        | some z => exact h2 z (List.mem_of_find?_eq_some hf)
      unfold alA alP at hq
      split at hq
      · obtain ⟨z, hz, rfl⟩ := List.mem_map.mp hq
        split
        · simp; omega
        · have := h2 z hz; omega
      · rcases List.mem_append.mp hq with hq | hq
        · have := h2 q hq; omega
        · rw [List.mem_singleton.mp hq]; simp; omega
abbrev gL (l : List Int) : D := .olst (l.map enc)
theorem by_loop (k : Nat) (kept : List Pr) (hl : kept.length <= 1000) (x0 x1 x2 : Option D) : ∃ o4 o5, forL (forK (xgT 2 (xgsCons (xgN W 4) (xgsCons (xgN W 5) (xgsNil W)))) (l1_meetings W (semT (tbl W) k)) []) (kept.map eR) [x0, x1, x2, some (.odic [] []), none, none, none, none, none] =
    .nx [x0, x1, x2, some (.odic (kI (byK kept)) (vE gL (byK kept))), o4, o5, none, none, none] := by
  generalize hF : forL _ _ _ = rr
  obtain ⟨e', rfl, o4, o5, rfl⟩ := forL_enc (fun ys e => ∃ o4 o5, e = [x0, x1, x2, some (.odic (kI (byK ys)) (vE gL (byK ys))), o4, o5, none, none, none]) hF ⟨none, none, rfl⟩ (by
    rintro ys p zs _ hx ⟨o4, o5, rfl⟩
    have hp := pre_le hx
    obtain ⟨b1, b2⟩ := byK_bd 1000 ys [] (by simp; omega) (fun q hq => nomatch hq)
    have hap := appK_al (g := (enc : Int -> D)) (k := p.1) (x := p.2) (byK_nk ys [] .nil) (Nat.lt_of_le_of_lt b1 (by decide)) fun q hq => Nat.lt_of_le_of_lt (b2 q hq) (by decide)
    have hb : byK (ys ++ [p]) = alA (byK ys) p.1 p.2 := by unfold byK; rw [List.foldl_append]; rfl
    have hap : appK (kI (byK ys)) (vE gL (byK ys)) (.inl p.1) (.int p.2) = some (.odic (kI (alA (byK ys) p.1 p.2)) (vE gL (alA (byK ys) p.1 p.2))) := hap
    rw [hb]
    refine ⟨_, .inl (by
      unfold l1_meetings eR
      walk_at "evp"
      rw [hap]
      walk_at "evp"
      rfl), _, _, rfl⟩)
  exact ⟨_, _, rfl⟩
abbrev gS (l : List Int) : D := .lst (l.map enc)
theorem fz_gL (l : List Int) : fz (gL l) = gS l := by
  show fz (.olst (l.map enc)) = .lst (l.map enc)
  rw [fz, fzl_enc]
theorem in_loop (k : Nat) (l : Bool) (b : String) (hb : b = if l = true then "left" else "right") (n : Int) (os : List Int) (ps : List Pr) (hl : ps.length + os.length <= 900000) (x0 x1 x3 x4 x7 x8 : Option D) : ∃ o8, forL (forK (xgN W 8) (l3_meetings W (semT (tbl W) k)) []) (os.map enc) [x0, x1, some (.str b), x3, x4, some (.int n), some (.olst (ps.map eR)), x7, x8] =
    .nx [x0, x1, some (.str b), x3, x4, some (.int n), some (.olst ((ps ++ os.map fun o => if l = true then (o, n) else (n, o)).map eR)), x7, o8] := by
  generalize hF : forL _ _ _ = rr
  obtain ⟨e', rfl, o8, rfl⟩ := forL_enc (fun ys e => ∃ o8, e = [x0, x1, some (.str b), x3, x4, some (.int n), some (.olst ((ps ++ ys.map fun o => if l = true then (o, n) else (n, o)).map eR)), x7, o8]) hF ⟨x8, by simp⟩ (by
    rintro ys o zs _ hx ⟨o8, rfl⟩
    have hp := pre_le hx
    have hm : (ps ++ (ys ++ [o]).map fun o => if l = true then (o, n) else (n, o)) = (ps ++ ys.map fun o => if l = true then (o, n) else (n, o)) ++ [if l = true then (o, n) else (n, o)] := by simp
    rw [hm]
    generalize hq : (ps ++ ys.map fun o => if l = true then (o, n) else (n, o)) = qs
    have hql : qs.length = ps.length + ys.length := by rw [<- hq]; simp
    refine ⟨_, .inl (?_ : _ = RS.nx [x0, x1, some (.str b), x3, x4, some (.int n), some (.olst ((qs ++ [if l = true then (o, n) else (n, o)]).map eR)), x7, some (.int o)]), _, rfl⟩
    unfold l3_meetings
    rw [List.map_append]
    cases l
    · subst hb
      simp only [if_neg (show ¬ false = true by decide)]
      walk_at "evp"
      rfl
    · subst hb
      simp only [if_pos (show true = true from rfl)]
      walk_at "evp"
      rfl)
  exact ⟨_, rfl⟩
theorem meetG_eq (l : Bool) (kept : List Pr) (r : Rec) : ((kept.filter fun p => decide (p.1 = r.b)).map (·.2)).map (fun o => if l = true then (o, r.a) else (r.a, o)) = meetG l kept r := by
  unfold meetG
  rw [List.map_map]; rfl
theorem meetG_len (l : Bool) (kept : List Pr) (r : Rec) : (meetG l kept r).length <= kept.length := by
  unfold meetG
  rw [List.length_map]
  exact List.length_filter_le _ _
theorem meets_len (l : Bool) (kept : List Pr) : ∀ rs : List Rec, (rs.flatMap (meetG l kept)).length <= rs.length * kept.length
  | [] => by simp
  | r :: rs => by
    rw [List.flatMap_cons, List.length_append, List.length_cons, Nat.succ_mul]
    have := meets_len l kept rs
    have := meetG_len l kept r
    omega
theorem f_meetings (k : Nat) (l : Bool) (b : String) (hb : b = if l = true then "left" else "right") (kept : List Pr) (probe : List Rec) (hk : kept.length <= 500) (hp : probe.length <= 500) :
    semT (tbl W) (k + 1) "meetings" [.lst (probe.map enc), .lst (kept.map eR), .str b] none = .ok (.olst ((meetP l kept probe).map eR)) none := by
  obtain ⟨o4, o5, ho⟩ := by_loop (W := W) k kept (by omega) (some (.lst (probe.map enc))) (some (.lst (kept.map eR))) (some (.str b))
  have hget : ∀ r : Rec, (alG (byK kept) r.b).getD [] = (kept.filter fun p => decide (p.1 = r.b)).map (·.2) := fun r => byK_get r.b kept []
  rw [sem_meetings]
  unfold b_meetings meetP
  walk_at "evp"
  rw [ho]
  generalize byK kept = m at *
  walk_at "evp"
  generalize hF : forL _ _ _ = rr
  obtain ⟨e', rfl, d3, o4, o5, o7, o8, hd3, rfl⟩ := forL_enc (fun ys e => ∃ d3 o4 o5 o7 o8, (d3 = .odic (kI m) (vE gL m) \/ d3 = .dic (kI m) (vE gS m)) /\ e = [some (.lst (probe.map enc)), some (.lst (kept.map eR)), some (.str b), some d3, o4, o5, some (.olst ((ys.flatMap (meetG l kept)).map eR)), o7, o8]) hF ⟨_, _, _, _, _, .inl rfl, rfl⟩ (by
    rintro ys r zs _ hx ⟨d3, o4, o5, o7, o8, hd3, rfl⟩
    have hpl := pre_le hx
    have hml := meets_len l kept ys
    have hml2 : ys.length * kept.length <= 500 * 500 := Nat.mul_le_mul (by omega) hk
    rw [flatMap_snoc, <- meetG_eq, <- hget]
    have hol : ((alG m r.b).getD []).length <= 500 := by
      rw [hget, List.length_map]
      exact Nat.le_trans (List.length_filter_le _ _) hk
    generalize ys.flatMap (meetG l kept) = ps at *
    have hfz : fzs (vE gL m) = vE gS m := fzs_vE fz_gL m
    have hdg := dg_al gS r.b m
    have go : ∃ q7 q8, (l2_meetings W (semT (tbl W) k)).ev [] [some (.lst (probe.map enc)), some (.lst (kept.map eR)), some (.str b), some d3, some (.int r.b), some (.int r.a), some (.olst (ps.map eR)), some (.bl r.c), o8] =
        .nx [some (.lst (probe.map enc)), some (.lst (kept.map eR)), some (.str b), some (.dic (kI m) (vE gS m)), some (.int r.b), some (.int r.a), some (.olst ((ps ++ ((alG m r.b).getD []).map fun o => if l = true then (o, r.a) else (r.a, o)).map eR)), q7, q8] := by
      unfold l2_meetings
      cases ha : alG m r.b with
      | none =>
        rw [ha] at hdg
        rcases hd3 with rfl | rfl
        · walk_at "evp"
          rw [hfz]
          walk_at "evp"
          rw [hdg]
          walk_at "evp"
          exact ⟨some (.bl r.c), o8, by simp [forL]⟩
        · walk_at "evp"
          rw [hdg]
          walk_at "evp"
          exact ⟨some (.bl r.c), o8, by simp [forL]⟩
      | some os =>
        rw [ha] at hdg hol
        have hol : os.length <= 500 := hol
        obtain ⟨q8, hq⟩ := in_loop (W := W) k l b hb r.a os ps (by omega) (some (.lst (probe.map enc))) (some (.lst (kept.map eR))) (some (.dic (kI m) (vE gS m))) (some (.int r.b)) (some (.bl r.c)) o8
        rcases hd3 with rfl | rfl
        · walk_at "evp"
          rw [hfz]
          walk_at "evp"
          rw [hdg]
          walk_at "evp"
          exact ⟨_, _, hq⟩
        · walk_at "evp"
          rw [hdg]
          walk_at "evp"
          exact ⟨_, _, hq⟩
    obtain ⟨q7, q8, hq⟩ := go
    refine ⟨_, .inl (?_ : _ = RS.nx [some (.lst (probe.map enc)), some (.lst (kept.map eR)), some (.str b), some (.dic (kI m) (vE gS m)), some (.int r.b), some (.int r.a), some (.olst ((ps ++ ((alG m r.b).getD []).map fun o => if l = true then (o, r.a) else (r.a, o)).map eR)), q7, q8]), _, _, _, _, _, .inr rfl, rfl⟩
    walk_at "evp"
    exact hq)
  walk_at "evp"
def markG (m : List (Int × Bool)) (r : Rec) : Rec := ⟨r.a, r.b, r.c || m.any fun p => decide (p.1 = r.a)⟩
theorem f_with_marks (k : Nat) (rs : List Rec) (hl : rs.length <= 1000) (m : List (Int × Bool)) : semT (tbl W) (k + 1) "with_marks" [.lst (rs.map enc), .dic (kI m) (vE enc m)] none = .ok (.olst (((srtT rs).map (markG m)).map enc)) none := by
  have hsl := srtT_len rs
  rw [sem_with_marks]
  unfold b_with_marks
  walk_at "evp"
  generalize srtT rs = ss at *
  generalize hF : forL _ _ _ = rr
  obtain ⟨e', rfl, o3, o4, o5, rfl⟩ := forL_enc (fun ys e => ∃ o3 o4 o5, e = [some (.lst (rs.map enc)), some (.dic (kI m) (vE enc m)), some (.olst ((ys.map (markG m)).map enc)), o3, o4, o5]) hF ⟨none, none, none, rfl⟩ (by
    rintro ys r zs _ hx ⟨o3, o4, o5, rfl⟩
    have hpl := pre_le hx
    have hml : (ys.map (markG m)).length = ys.length := List.length_map ..
    rw [List.map_append, List.map_singleton]
    generalize ys.map (markG m) = ms at *
    rw [List.map_append]
    have hmk : (enc (markG m r) : D) = .tup [.int r.a, .int r.b, .bl (r.c || m.any fun p => decide (p.1 = r.a))] := rfl
    have hk := hasK_al (β := Bool) r.a m
    obtain ⟨a, b, c⟩ := r
    rw [List.map_singleton, hmk]
    dsimp only at *
    refine ⟨_, .inl (?_ : _ = RS.nx [some (.lst (rs.map enc)), some (.dic (kI m) (vE enc m)), some (.olst (ms.map enc ++ [.tup [.int a, .int b, .bl (c || m.any fun p => decide (p.1 = a))]])), some (.int a), some (.int b), some (.bl c)]), _, _, _, rfl⟩
    unfold l1_with_marks
    cases c
    · walk_at "evp"
      rw [hk]
    · walk_at "evp")
  walk_at "evp"
def finG (how : String) (bound : Option Int) (builds : Bool) (kn : List (Int × Bool)) (r : Rec) : Bool :=
  if how = "some" then (if builds = true then kn.any fun p => decide (p.1 = r.a) else decide (r.b < bound.getD 0)) else decide (how = "all")
def psS (path : D) (how side : String) (bound : Option Int) (kept : List Int) (met : List Pr) (ld lr rd rr : List Rec) : D := .ins "Pass" ["path", "how", "build", "bound", "kept", "met", "left_done", "left_rest", "right_done", "right_rest"]
  [path, .str how, .str side, enc bound, .lst (kept.map enc), .lst (met.map eR), .lst (ld.map enc), .lst (lr.map enc), .lst (rd.map enc), .lst (rr.map enc)]
def psO (path : D) (how side : String) (bound : Option Int) (kept : List Int) (met : List Pr) (ld lr rd rr : List Rec) : D := .oins "Pass" ["path", "how", "build", "bound", "kept", "met", "left_done", "left_rest", "right_done", "right_rest"]
  [path, .str how, .str side, enc bound, .lst (kept.map enc), .lst (met.map eR), .olst (ld.map enc), .olst (lr.map enc), .olst (rd.map enc), .olst (rr.map enc)]
theorem f_is_finished (k : Nat) {how side : String} {bound : Option Int} (hb : how = "some" -> bound.isSome = true) {path : D} (hpa : isSh path = true) {kept : List Int} {met : List Pr} {ld lr rd rr : List Rec} {builds : Bool} {kn : List (Int × Bool)} (r : Rec) :
    semT (tbl W) (k + 1) "is_finished" [enc r, psS path how side bound kept met ld lr rd rr, .bl builds, .dic (kI kn) (vE enc kn)] none = .ok (.bl (finG how bound builds kn r)) none := by
  have hk := hasK_al (β := Bool) r.a kn
  rw [sem_is_finished]
  unfold b_is_finished finG psS
  by_cases h : how = "some"
  · subst h
    obtain ⟨z, rfl⟩ := Option.isSome_iff_exists.mp (hb rfl)
    have hz : (enc (some z) : D) = .int z := rfl
    rw [hz]
    cases builds
    · walk_at "evp"
      rfl
    · walk_at "evp"
      rw [hk]
  · rw [if_neg h]
    walk_at "evp"
theorem f_pass_init (k : Nat) (ps : List Int) (how side : String) (bound : Option Int) (kept : List Int) (met : List Pr) : semT (tbl W) (k + 1) "Pass.__init__" [.oins "Pass" [] [], .tup (ps.map enc), .str how, .str side, enc bound, .lst (kept.map enc), .lst (met.map eR)] (some 0) = .ok .non (some (psO (.tup (ps.map enc)) how side bound kept met [] [] [] [])) := by
  rw [sem_Pass___init__]
  unfold b_Pass___init__
  walk_at "evp"
  rfl
theorem fz_psO (path : D) (hp : fz path = path) (how side : String) (bound : Option Int) (kept : List Int) (met : List Pr) (ld lr rd rr : List Rec) : fz (psO path how side bound kept met ld lr rd rr) = psS path how side bound kept met ld lr rd rr := by
  unfold psO psS
  walk_at "evp"
  rw [hp]
theorem filt_snoc {p : Rec -> Bool} (ys : List Rec) (r : Rec) : (ys ++ [r]).filter p = if p r = true then ys.filter p ++ [r] else ys.filter p := by
  rw [List.filter_append]
  by_cases h : p r = true
  · rw [if_pos h, List.filter_cons_of_pos h]; rfl
  · rw [if_neg h, List.filter_cons_of_neg h]; simp
theorem l_loop (k : Nat) (l : Bool) (side : String) (hs : side = if l = true then "left" else "right") {how : String} {bound : Option Int} (hb : how = "some" -> bound.isSome = true) (ps : List Int) {kept : List Int} {met : List Pr} {rd rr : List Rec} {kn : List (Int × Bool)}
    (ms : List Rec) (hl : ms.length <= 1000) (x0 x1 x2 x3 x5 x6 x7 x8 x9 x10 x11 x12 x15 x16 : Option D) {x17 : Option D} : ∃ o17, forL (forK (xgN W 17) (l1_make_pass W (semT (tbl W) (k + 1))) []) (ms.map enc) [x0, x1, x2, x3, some (.str side), x5, x6, x7, x8, x9, x10, x11, x12, some (psO (.tup (ps.map enc)) how side bound kept met [] [] rd rr), some (.odic (kI kn) (vE enc kn)), x15, x16, x17] =
    .nx [x0, x1, x2, x3, some (.str side), x5, x6, x7, x8, x9, x10, x11, x12, some (psO (.tup (ps.map enc)) how side bound kept met (ms.filter (finG how bound l kn)) (ms.filter fun r => !finG how bound l kn r) rd rr), some (.odic (kI kn) (vE enc kn)), x15, x16, o17] := by
  generalize hF : forL _ _ _ = rr2
  obtain ⟨e', rfl, o17, rfl⟩ := forL_enc (fun ys e => ∃ o17, e = [x0, x1, x2, x3, some (.str side), x5, x6, x7, x8, x9, x10, x11, x12, some (psO (.tup (ps.map enc)) how side bound kept met (ys.filter (finG how bound l kn)) (ys.filter fun r => !finG how bound l kn r) rd rr), some (.odic (kI kn) (vE enc kn)), x15, x16, o17]) hF ⟨x17, rfl⟩ (by
    rintro ys r zs _ hx ⟨o17, rfl⟩
    have hpl := pre_le hx
    have h1 : (ys.filter (finG how bound l kn)).length <= ys.length := List.length_filter_le _ _
    have h2 : (ys.filter fun r => !finG how bound l kn r).length <= ys.length := List.length_filter_le _ _
    rw [filt_snoc, filt_snoc]
    have hf := f_is_finished (W := W) k hb (path := .tup (ps.map enc)) rfl (side := side) (kept := kept) (met := met) (ld := ys.filter (finG how bound l kn)) (lr := ys.filter fun r => !finG how bound l kn r) (rd := rd) (rr := rr) (builds := l) (kn := kn) r
    generalize ys.filter (finG how bound l kn) = ld at *
    generalize (ys.filter fun r => !finG how bound l kn r) = lr at *
    have hsd : decide (side = "left") = l := by subst hs; cases l <;> rfl
    have hv : fzs (vE (enc : Bool -> D) kn) = vE enc kn := fzs_vE (fun b => fz_enc b) kn
    generalize finG how bound l kn r = fin at *
    unfold l1_make_pass
    unfold psO
    unfold psS at hf
    cases fin
    · refine ⟨_, .inl (by
        walk_at "evp"
        rw [hsd, hv, hf]
        walk_at "evp"
        rfl), some (enc r), ?_⟩
      simp only [if_neg (show ¬ false = true by decide), Bool.not_false, if_true, List.map_append]
      rfl
    · refine ⟨_, .inl (by
        walk_at "evp"
        rw [hsd, hv, hf]
        walk_at "evp"
        rfl), some (enc r), ?_⟩
      simp only [if_neg (show ¬ false = true by decide), Bool.not_true, if_true, List.map_append]
      rfl)
  exact ⟨_, rfl⟩
theorem r_loop (k : Nat) (l : Bool) (side : String) (hs : side = if l = true then "left" else "right") {how : String} {bound : Option Int} (hb : how = "some" -> bound.isSome = true) (ps : List Int) {kept : List Int} {met : List Pr} {ld lr : List Rec} {kn : List (Int × Bool)}
    (ms : List Rec) (hl : ms.length <= 1000) (x0 x1 x2 x3 x5 x6 x7 x8 x9 x10 x11 x12 x15 x16 : Option D) {x17 : Option D} : ∃ o17, forL (forK (xgN W 17) (l2_make_pass W (semT (tbl W) (k + 1))) []) (ms.map enc) [x0, x1, x2, x3, some (.str side), x5, x6, x7, x8, x9, x10, x11, x12, some (psO (.tup (ps.map enc)) how side bound kept met ld lr [] []), some (.odic (kI kn) (vE enc kn)), x15, x16, x17] =
    .nx [x0, x1, x2, x3, some (.str side), x5, x6, x7, x8, x9, x10, x11, x12, some (psO (.tup (ps.map enc)) how side bound kept met ld lr (ms.filter (finG how bound (!l) kn)) (ms.filter fun r => !finG how bound (!l) kn r)), some (.odic (kI kn) (vE enc kn)), x15, x16, o17] := by
  generalize hF : forL _ _ _ = rr2
  obtain ⟨e', rfl, o17, rfl⟩ := forL_enc (fun ys e => ∃ o17, e = [x0, x1, x2, x3, some (.str side), x5, x6, x7, x8, x9, x10, x11, x12, some (psO (.tup (ps.map enc)) how side bound kept met ld lr (ys.filter (finG how bound (!l) kn)) (ys.filter fun r => !finG how bound (!l) kn r)), some (.odic (kI kn) (vE enc kn)), x15, x16, o17]) hF ⟨x17, rfl⟩ (by
    rintro ys r zs _ hx ⟨o17, rfl⟩
    have hpl := pre_le hx
    have h1 : (ys.filter (finG how bound (!l) kn)).length <= ys.length := List.length_filter_le _ _
    have h2 : (ys.filter fun r => !finG how bound (!l) kn r).length <= ys.length := List.length_filter_le _ _
    rw [filt_snoc, filt_snoc]
    have hf := f_is_finished (W := W) k hb (path := .tup (ps.map enc)) rfl (side := side) (kept := kept) (met := met) (ld := ld) (lr := lr) (rd := ys.filter (finG how bound (!l) kn)) (rr := ys.filter fun r => !finG how bound (!l) kn r) (builds := !l) (kn := kn) r
    generalize ys.filter (finG how bound (!l) kn) = rd at *
    generalize (ys.filter fun r => !finG how bound (!l) kn r) = rr at *
    have hsd : decide (side = "right") = !l := by subst hs; cases l <;> rfl
    have hv : fzs (vE (enc : Bool -> D) kn) = vE enc kn := fzs_vE (fun b => fz_enc b) kn
    generalize finG how bound (!l) kn r = fin at *
    unfold l2_make_pass
    unfold psO
    unfold psS at hf
    cases fin
    · refine ⟨_, .inl (by
        walk_at "evp"
        rw [hsd, hv, hf]
        walk_at "evp"
        rfl), some (enc r), ?_⟩
      simp only [if_neg (show ¬ false = true by decide), Bool.not_false, if_true, List.map_append]
      rfl
    · refine ⟨_, .inl (by
        walk_at "evp"
        rw [hsd, hv, hf]
        walk_at "evp"
        rfl), some (enc r), ?_⟩
      simp only [if_neg (show ¬ false = true by decide), Bool.not_true, if_true, List.map_append]
      rfl)
  exact ⟨_, rfl⟩
theorem meetP_len (l : Bool) (kept : List Pr) (probe : List Rec) (hk : kept.length <= 500) (hp : probe.length <= 500) : (meetP l kept probe).length <= 250000 := by
  unfold meetP
  rw [srtR_len]
  exact Nat.le_trans (meets_len l kept probe) (Nat.mul_le_mul hp hk)
def passF (R K : Int) (l : Bool) (ps : List Int) (left right : List Rec) : D :=
  let ch := chooseP R K ps.length (if l = true then left else right)
  let met := meetP l ch.2.1 (if l = true then right else left)
  let kn := dcM (·.2) (fun _ => true) ch.2.1
  let ml := (srtT left).map (markG (dcM (·.1) (fun _ => true) met))
  let mr := (srtT right).map (markG (dcM (·.2) (fun _ => true) met))
  psO (.tup (ps.map enc)) ch.1 (if l = true then "left" else "right") ch.2.2 (ch.2.1.map (·.2)) met (ml.filter (finG ch.1 ch.2.2 l kn)) (ml.filter fun r => !finG ch.1 ch.2.2 l kn r) (mr.filter (finG ch.1 ch.2.2 (!l) kn)) (mr.filter fun r => !finG ch.1 ch.2.2 (!l) kn r)
theorem backO_some (H : List Pr) (o : Option Pr) : (backO H o).1 = "some" -> (backO H o).2.2.isSome = true := by
  cases o with
  | none => intro h; exact absurd (show "all" = "some" from h) (by decide)
  | some p => intro _; rfl
theorem backO_kept (H : List Pr) (o : Option Pr) : (backO H o).2.1 = H := by cases o <;> rfl
theorem choose_some {R K depth : Int} {rs : List Rec} : (chooseP R K depth rs).1 = "some" -> (chooseP R K depth rs).2.2.isSome = true := by
  unfold chooseP
  split
  · intro h; exact absurd (show "none" = "some" from h) (by decide)
  · exact backO_some _ _
theorem choose_len {R K depth : Int} {rs : List Rec} : (chooseP R K depth rs).2.1.length <= rs.length := by
  unfold chooseP
  split
  · exact Nat.zero_le _
  · rw [backO_kept, List.length_take, srtR_len, List.length_map]
    exact Nat.min_le_right _ _
theorem f_make_pass (k : Nat) {R K : Int} {b : String} (hb : b = "left" \/ b = "right" \/ b = "lesser") (hR : 1 <= R) (ps : List Int) (left right : List Rec) (hl : left.length <= 500) (hr : right.length <= 500) (hps : ps.length <= 1000) (l : Bool) (hsd : sideB b left.length right.length = if l = true then "left" else "right") :
    semT (tbl W) (k + 4) "make_pass" [.tup (ps.map enc), .lst (left.map enc), .lst (right.map enc), pS R b K] none = .ok (passF R K l ps left right) none := by
  have c1 := f_build_side (W := W) (k + 2) (R := R) (K := K) (l := left.length) (r := right.length) hb
  rw [hsd] at c1
  rw [sem_make_pass]
  unfold b_make_pass passF
  cases l
  · simp only [if_neg (show ¬ false = true by decide)] at c1 ⊢
    have c2 := f_choose_kept (W := W) k (R := R) (K := K) (b := b) (depth := ps.length) hR right (by omega)
    have c3 := choose_some (R := R) (K := K) (depth := ps.length) (rs := right)
    have c4 := choose_len (R := R) (K := K) (depth := ps.length) (rs := right)
    generalize chooseP R K ps.length right = ch at *
    obtain ⟨how, kept, bound⟩ := ch
    dsimp only at *
    have c5 := f_meetings (W := W) (k + 2) false "right" rfl kept left (by omega) hl
    have c9 := meetP_len false kept left (by omega) hl
    generalize meetP false kept left = met at *
    have c6 := f_pass_init (W := W) (k + 2) ps how "right" bound (kept.map (·.2)) met
    have c7 := f_with_marks (W := W) (k + 2) left (by omega) (dcM (·.1) (fun _ => true) met)
    have c8 := f_with_marks (W := W) (k + 2) right (by omega) (dcM (·.2) (fun _ => true) met)
    walk_at "evp"
    rw [c1]
    walk_at "evp"
    rw [c2]
    walk_at "evp"
    rw [c5]
    walk_at "evp"
    rw [lcL_mapE (enc := eR) (enc2 := enc) (fun p : Pr => p.2) kept (fun p _ => by
      walk_at "evp"
      try rfl)]
    walk_at "evp"
    rw [c6]
    walk_at "evp"
    rw [dcL_al0 (c := eR) (g := (enc : Bool -> D)) (fun b => sh_enc b) (fun p : Pr => p.2) (fun _ => true) kept (fun p _ => by
      walk_at "evp"
      try rfl)]
    walk_at "evp"
    rw [dcL_al0 (c := eR) (g := (enc : Bool -> D)) (fun b => sh_enc b) (fun p : Pr => p.1) (fun _ => true) met (fun p _ => by
      walk_at "evp"
      try rfl)]
    walk_at "evp"
    rw [fzs_vE (h := (enc : Bool -> D)) (fun b => fz_enc b), c7]
    walk_at "evp"
    have q1 : (((srtT left).map (markG (dcM (fun p : Pr => p.1) (fun _ => true) met))).length <= 1000) := by rw [List.length_map, srtT_len]; omega
    generalize (srtT left).map (markG (dcM (fun p : Pr => p.1) (fun _ => true) met)) = ml at *
    obtain ⟨o17, hlo⟩ := l_loop (W := W) (k + 2) false "right" rfl c3 ps (kept := kept.map (·.2)) (met := met) (rd := []) (rr := []) (kn := dcM (·.2) (fun _ => true) kept) ml q1 (some (.tup (ps.map enc))) (some (.lst (left.map enc))) (some (.lst (right.map enc))) (some (pS R b K)) (some (.lst (right.map enc))) (some (.lst (left.map enc))) (some (.str how)) (some (.lst (kept.map eR))) (some (enc bound)) (some (.lst (met.map eR))) none none none none
    rw [hlo]
    walk_at "evp"
    rw [dcL_al0 (c := eR) (g := (enc : Bool -> D)) (fun b => sh_enc b) (fun p : Pr => p.2) (fun _ => true) met (fun p _ => by
      walk_at "evp"
      try rfl)]
    walk_at "evp"
    rw [fzs_vE (h := (enc : Bool -> D)) (fun b => fz_enc b), c8]
    walk_at "evp"
    have q2 : (((srtT right).map (markG (dcM (fun p : Pr => p.2) (fun _ => true) met))).length <= 1000) := by rw [List.length_map, srtT_len]; omega
    generalize (srtT right).map (markG (dcM (fun p : Pr => p.2) (fun _ => true) met)) = mr at *
    obtain ⟨p17, hro⟩ := r_loop (W := W) (k + 2) false "right" rfl c3 ps (kept := kept.map (·.2)) (met := met) (ld := ml.filter (finG how bound false (dcM (·.2) (fun _ => true) kept))) (lr := ml.filter fun r => !finG how bound false (dcM (·.2) (fun _ => true) kept) r) (kn := dcM (·.2) (fun _ => true) kept) mr q2 (some (.tup (ps.map enc))) (some (.lst (left.map enc))) (some (.lst (right.map enc))) (some (pS R b K)) (some (.lst (right.map enc))) (some (.lst (left.map enc))) (some (.str how)) (some (.lst (kept.map eR))) (some (enc bound)) (some (.lst (met.map eR))) none none none none
    rw [hro]
    walk_at "evp"
    try rfl
  · simp only [eq_self_iff_true, if_true] at c1 ⊢
    have c2 := f_choose_kept (W := W) k (R := R) (K := K) (b := b) (depth := ps.length) hR left (by omega)
    have c3 := choose_some (R := R) (K := K) (depth := ps.length) (rs := left)
    have c4 := choose_len (R := R) (K := K) (depth := ps.length) (rs := left)
    generalize chooseP R K ps.length left = ch at *
    obtain ⟨how, kept, bound⟩ := ch
    dsimp only at *
    have c5 := f_meetings (W := W) (k + 2) true "left" rfl kept right (by omega) hr
    have c9 := meetP_len true kept right (by omega) hr
    generalize meetP true kept right = met at *
    have c6 := f_pass_init (W := W) (k + 2) ps how "left" bound (kept.map (·.2)) met
    have c7 := f_with_marks (W := W) (k + 2) left (by omega) (dcM (·.1) (fun _ => true) met)
    have c8 := f_with_marks (W := W) (k + 2) right (by omega) (dcM (·.2) (fun _ => true) met)
    walk_at "evp"
    rw [c1]
    walk_at "evp"
    rw [c2]
    walk_at "evp"
    rw [c5]
    walk_at "evp"
    rw [lcL_mapE (enc := eR) (enc2 := enc) (fun p : Pr => p.2) kept (fun p _ => by
      walk_at "evp"
      try rfl)]
    walk_at "evp"
    rw [c6]
    walk_at "evp"
    rw [dcL_al0 (c := eR) (g := (enc : Bool -> D)) (fun b => sh_enc b) (fun p : Pr => p.2) (fun _ => true) kept (fun p _ => by
      walk_at "evp"
      try rfl)]
    walk_at "evp"
    rw [dcL_al0 (c := eR) (g := (enc : Bool -> D)) (fun b => sh_enc b) (fun p : Pr => p.1) (fun _ => true) met (fun p _ => by
      walk_at "evp"
      try rfl)]
    walk_at "evp"
    rw [fzs_vE (h := (enc : Bool -> D)) (fun b => fz_enc b), c7]
    walk_at "evp"
    have q1 : (((srtT left).map (markG (dcM (fun p : Pr => p.1) (fun _ => true) met))).length <= 1000) := by rw [List.length_map, srtT_len]; omega
    generalize (srtT left).map (markG (dcM (fun p : Pr => p.1) (fun _ => true) met)) = ml at *
    obtain ⟨o17, hlo⟩ := l_loop (W := W) (k + 2) true "left" rfl c3 ps (kept := kept.map (·.2)) (met := met) (rd := []) (rr := []) (kn := dcM (·.2) (fun _ => true) kept) ml q1 (some (.tup (ps.map enc))) (some (.lst (left.map enc))) (some (.lst (right.map enc))) (some (pS R b K)) (some (.lst (left.map enc))) (some (.lst (right.map enc))) (some (.str how)) (some (.lst (kept.map eR))) (some (enc bound)) (some (.lst (met.map eR))) none none none none
    rw [hlo]
    walk_at "evp"
    rw [dcL_al0 (c := eR) (g := (enc : Bool -> D)) (fun b => sh_enc b) (fun p : Pr => p.2) (fun _ => true) met (fun p _ => by
      walk_at "evp"
      try rfl)]
    walk_at "evp"
    rw [fzs_vE (h := (enc : Bool -> D)) (fun b => fz_enc b), c8]
    walk_at "evp"
    have q2 : (((srtT right).map (markG (dcM (fun p : Pr => p.2) (fun _ => true) met))).length <= 1000) := by rw [List.length_map, srtT_len]; omega
    generalize (srtT right).map (markG (dcM (fun p : Pr => p.2) (fun _ => true) met)) = mr at *
    obtain ⟨p17, hro⟩ := r_loop (W := W) (k + 2) true "left" rfl c3 ps (kept := kept.map (·.2)) (met := met) (ld := ml.filter (finG how bound true (dcM (·.2) (fun _ => true) kept))) (lr := ml.filter fun r => !finG how bound true (dcM (·.2) (fun _ => true) kept) r) (kn := dcM (·.2) (fun _ => true) kept) mr q2 (some (.tup (ps.map enc))) (some (.lst (left.map enc))) (some (.lst (right.map enc))) (some (pS R b K)) (some (.lst (left.map enc))) (some (.lst (right.map enc))) (some (.str how)) (some (.lst (kept.map eR))) (some (enc bound)) (some (.lst (met.map eR))) none none none none
    rw [hro]
    walk_at "evp"
    try rfl
theorem choose_lenR {R K depth : Int} {rs : List Rec} : (chooseP R K depth rs).2.1.length <= R.toNat := by
  unfold chooseP
  split
  · exact Nat.zero_le _
  · rw [backO_kept, List.length_take]
    exact Nat.min_le_left _ _
theorem passF_form (R K : Int) (l : Bool) (ps : List Int) (left right : List Rec) : ∃ how bound kept met ld lr rd rr, passF R K l ps left right = psO (.tup (ps.map enc)) how (if l = true then "left" else "right") bound kept met ld lr rd rr /\ kept.length <= R.toNat /\ kept.length <= (if l = true then left else right).length := by
  refine ⟨_, _, _, _, _, _, _, _, rfl, ?_, ?_⟩
  · rw [List.length_map]; exact choose_lenR
  · rw [List.length_map]; exact choose_len
theorem lcL_rangeE {α : Type} {enc2 : α -> D} {f : D -> Option (List D)} (g : Nat -> α) (n : Nat) (h : ∀ k, k < n -> f (.int (0 + (k : Int))) = some [enc2 (g k)]) : lcL f (rangeD 0 n) = some (((List.range n).map g).map enc2) := by
  rw [lcL_range n h]
  congr 1
  rw [List.map_map]
  exact flatMap_one _ _
def drawStep (big : Bool) (k : Int) (n : Int) : Int × Int :=
  if big = true then (n % 1000, n / 1000)
  else if 0 < n then
    ((((n * (48271 + 6 * k) + 69621 * k) % 2147483647 * ((n * (48271 + 6 * k) + 69621 * k) % 2147483647) + 40692 * k + 1) % 2147483629) % 1000, n)
  else (0, n)
def drawsGo (big : Bool) (n : Int) : Nat -> List Int × Int
  | 0 => ([], n)
  | i + 1 => ((drawsGo big n i).1 ++ [(drawStep big (0 + i) (drawsGo big n i).2).1], (drawStep big (0 + i) (drawsGo big n i).2).2)
def drawNum (ns : List Int) (at' : Int) : Int := if h : 0 <= at' /\ at' < ns.length then (if ns[at'.toNat]'(by omega) < 0 then -(ns[at'.toNat]'(by omega)) else ns[at'.toNat]'(by omega)) else 0
def draws (ns : List Int) (at' many : Int) : List Int := (drawsGo (decide (10 ^ 18 <= drawNum ns at')) (drawNum ns at') many.toNat).1
theorem drawStep_ok {big : Bool} {k n : Int} (h : 0 <= n) : 0 <= (drawStep big k n).1 /\ (drawStep big k n).1 < 1000 /\ 0 <= (drawStep big k n).2 /\ (drawStep big k n).2 <= n := by
  unfold drawStep
  split
  · simp only; omega
  · split
    · simp only; omega
    · simp only; omega
theorem drawsGo_ok {big : Bool} {n : Int} (h : 0 <= n) : ∀ i, (drawsGo big n i).1.length = i /\ (∀ d ∈ (drawsGo big n i).1, 0 <= d /\ d < 1000) /\ 0 <= (drawsGo big n i).2 /\ (drawsGo big n i).2 <= n
  | 0 => ⟨rfl, (fun _ m => nomatch m), h, Int.le_refl _⟩
  | i + 1 => by
    obtain ⟨h1, h2, h3, h4⟩ := drawsGo_ok (big := big) h i
    obtain ⟨q1, q2, q3, q4⟩ := drawStep_ok (big := big) (k := 0 + i) h3
    refine ⟨by rw [drawsGo]; simp [h1], fun d m => ?_, q3, Int.le_trans q4 h4⟩
    rw [drawsGo] at m
    rcases List.mem_append.mp m with m | m
    · exact h2 d m
    · rw [List.mem_singleton.mp m]; exact ⟨q1, q2⟩
theorem drawNum_nn (ns : List Int) (at' : Int) : 0 <= drawNum ns at' := by
  unfold drawNum
  split
  · split <;> omega
  · omega
theorem draws_length (ns : List Int) (at' many : Int) : (draws ns at' many).length = many.toNat := (drawsGo_ok (drawNum_nn ns at') _).1
theorem draws_ok (ns : List Int) (at' many : Int) : ∀ d ∈ draws ns at' many, 0 <= d /\ d < 1000 := (drawsGo_ok (drawNum_nn ns at') _).2.1
theorem f_law_draws (k : Nat) {ns : List Int} {i n : Int} (h0 : 0 <= i) (h1 : 0 <= n) (h2 : n <= 1000) : semT (tbl W) (k + 1) "_law_draws" [.scr ns, .int i, .int n] none = .ok (.olst ((draws ns i n).map .int)) none := by
  rw [sem_law_draws]
  unfold b_law_draws
  have loop : ∀ (b : Bool) (m : Int), 0 <= m -> ∀ e0, e0 = [some (.scr ns), some (.int i), some (.int n), some (.int m), some (.bl b), some (.olst []), none, none, none] -> ∀ r, forL (forK (xgN W 6) (l1_law_draws W (semT (tbl W) k)) []) (rangeD 0 n.toNat) e0 = r ->
      ∃ e', r = .nx e' /\ getS e' 5 = some (.olst ((drawsGo b m n.toNat).1.map .int)) /\ e'.length = 9 := by
    intro b m hm e0 he r hF
    obtain ⟨e', rfl, o6, o7, o8, h⟩ := forL_gen (fun j e => ∃ o6 o7 o8, e = [some (.scr ns), some (.int i), some (.int n), some (.int (drawsGo b m j).2), some (.bl b), some (.olst ((drawsGo b m j).1.map .int)), o6, o7, o8]) hF ⟨none, none, none, he⟩ (by
      rintro j d _ hd ⟨o6, o7, o8, rfl⟩
      obtain ⟨hj, rfl⟩ := rangeD_get hd
      obtain ⟨q1, q2, q3, q4⟩ := drawsGo_ok (big := b) hm j
      generalize hg : drawsGo b m j = g at q1 q2 q3 q4
      have hs : drawsGo b m (j + 1) = (g.1 ++ [(drawStep b (0 + j) g.2).1], (drawStep b (0 + j) g.2).2) := by rw [drawsGo, hg]
      rw [hs]
      have hj2 : (0 : Int) + (j : Int) < 1000 := by omega
      generalize hx : (0 : Int) + (j : Int) = x at hj2
      have hx0 : 0 <= x := by omega
      have hl : g.1.length < 1000000 := by omega
      clear hx hj hd hs hg q4 hF q2
      unfold drawStep l1_law_draws
      cases b with
      | true =>
        refine ⟨_, .inl (by walk_at "ev"; rfl), ?_⟩
        rw [List.map_append]
        exact ⟨_, _, _, rfl⟩
      | false =>
        by_cases hp : 0 < g.2
        · generalize hy : g.2 * (48271 + 6 * x) + 69621 * x = y
          have e1 : 0 <= y % 2147483647 := by omega
          have e2 : y % 2147483647 < 2147483647 := by omega
          generalize hz : y % 2147483647 = z at e1 e2
          refine ⟨_, .inl (by walk_at "ev"; rw [hy, hz]), ?_⟩
          rw [if_neg (by decide), if_pos hp, List.map_append]
          exact ⟨_, _, _, rfl⟩
        · refine ⟨_, .inl (by walk_at "ev"; rfl), ?_⟩
          rw [if_neg (by decide), if_neg hp, List.map_append]
          exact ⟨_, _, _, rfl⟩)
    rw [rangeD_length] at h
    exact ⟨e', rfl, by rw [h]; rfl, by rw [h]; rfl⟩
  have fin : ∀ e' : Py.Env, getS e' 5 = some (.olst ((draws ns i n).map .int)) -> runR none (RS.then (.nx e') ((xsRet (xmMove W 5)).ev [])) = .ok (.olst ((draws ns i n).map .int)) none := fun e' he => by
    walk_at "ev"
    rw [he]
    walk_at "ev"
  have hp : powD (.int 10) (.int 18) = some (.int 1000000000000000000) := rfl
  by_cases hi : i < ns.length
  · obtain ⟨x, hx1, hx2⟩ := atI_get h0 hi
    have en : drawNum ns i = if x < 0 then -x else x := by
      have : x = ns[i.toNat]'(by omega) := by rw [List.getElem?_eq_getElem (by omega)] at hx2; exact (Option.some.inj hx2).symm
      unfold drawNum
      rw [dif_pos ⟨h0, hi⟩, this]
    walk_at "ev"
    rw [atI_map, hx1]
    walk_at "ev"
    rw [hp]
    walk_at "ev"
    rw [<- en]
    have hn := drawNum_nn ns i
    have e0 : drawsGo (decide (1000000000000000000 <= drawNum ns i)) (drawNum ns i) n.toNat = drawsGo (decide (10 ^ 18 <= drawNum ns i)) (drawNum ns i) n.toNat := rfl
    generalize hF : forL _ _ _ = r
    obtain ⟨e', rfl, h5, _⟩ := loop _ _ hn _ rfl _ hF
    exact fin e' (by rw [h5, e0]; rfl)
  · have en : drawNum ns i = 0 := by
      unfold drawNum
      rw [dif_neg (by omega)]
    walk_at "ev"
    rw [hp]
    walk_at "ev"
    generalize hF : forL _ _ _ = r
    obtain ⟨e', rfl, h5, _⟩ := loop false 0 (Int.le_refl _) _ rfl _ hF
    exact fin e' (by rw [h5]; unfold draws; rw [en]; rfl)
structure RecOk (n : Nat) (rs : List Rec) : Prop where
  len : rs.length = n
  nd : (rs.map T3.a).Nodup
  bd : ∀ r ∈ rs, 0 <= r.a /\ r.a < 3 * (n : Int)
theorem ins_perm {α : Type} (xs : List α) (j : Nat) (x : α) : (xs.take j ++ [x] ++ xs.drop j).Perm (x :: xs) := by
  have h : (xs.take j ++ [x] ++ xs.drop j).Perm ([x] ++ xs.take j ++ xs.drop j) := List.Perm.append_right _ List.perm_append_comm
  have h2 : [x] ++ xs.take j ++ xs.drop j = x :: xs := by rw [List.append_assoc, List.take_append_drop]; rfl
  rw [h2] at h
  exact h
theorem f_law_records (k : Nat) {ns : List Int} {i s : Int} {n : Nat} (h0 : 0 <= i) (hn : n <= 40) (hs : 1 <= s) : ∃ rs, RecOk n rs /\ semT (tbl W) (k + 2) "_law_records" [.scr ns, .int i, .int (n : Int), .int s] none = .ok (.olst (rs.map enc)) none := by
  rw [sem_law_records]
  unfold b_law_records
  walk_at "evp"
  try rw [Int.toNat_natCast]
  generalize hF : forL _ _ _ = rr
  obtain ⟨e', rfl, rs, hD, o5, o6, o7, rfl⟩ := forL_range (fun j e => ∃ rs, RecOk j rs /\ ∃ o5 o6 o7, e = [some (.scr ns), some (.int i), some (.int (n : Int)), some (.int s), some (.olst (rs.map enc)), o5, o6, o7]) hF ⟨[], ⟨rfl, .nil, fun r hr => nomatch hr⟩, none, none, none, rfl⟩ (by
    rintro j _ hj ⟨rs, hD, o5, o6, o7, rfl⟩
    have h := f_law_draws (W := W) k (ns := ns) (i := i + (j : Int)) (n := 4) (by omega) (by omega) (by omega)
    have hlen := draws_length ns (i + (j : Int)) 4
    have ho := draws_ok ns (i + (j : Int)) 4
    have hdl := hD.len
    match hd : draws ns (i + (j : Int)) 4, hlen with
    | [x, y, z, w], _ =>
    rw [hd] at h ho
    have hx := ho x (by simp)
    have hy := ho y (by simp)
    have hz := ho z (by simp)
    have hw := ho w (by simp)
    let r : Rec := ⟨3 * (j : Int) + y % 3, x % s - s / 3, decide (z % 4 = 1)⟩
    have hr : (enc r : D) = .tup [.int (3 * (j : Int) + y % 3), .int (x % s - s / 3), .bl (decide (z % 4 = 1))] := rfl
    have hra : r.a = 3 * (j : Int) + y % 3 := rfl
    obtain ⟨q, hq⟩ : ∃ q : Nat, w % ((rs.length : Int) + 1) = (q : Int) := ⟨(w % ((rs.length : Int) + 1)).toNat, by have := Int.emod_nonneg w (show (rs.length : Int) + 1 ≠ 0 by omega); omega⟩
    have hql : (q : Int) < (rs.length : Int) + 1 := by rw [<- hq]; exact Int.emod_lt_of_pos _ (by omega)
    have hp := ins_perm rs q r
    refine ⟨_, .inl (?_ : _ = RS.nx [some (.scr ns), some (.int i), some (.int (n : Int)), some (.int s), some (.olst ((rs.take q ++ [r] ++ rs.drop q).map enc)), some (.int (j : Int)), some (.olst [.int x, .int y, .int z, .int w]), some (enc r)]), rs.take q ++ [r] ++ rs.drop q, ⟨by rw [hp.length_eq, List.length_cons, hdl], ?_, fun t ht => ?_⟩, _, _, _, rfl⟩
    · rw [List.map_append, List.map_append, List.map_take, List.map_drop, List.map_singleton, hr]
      unfold l1_law_records
      walk_at "evp"
      rw [h]
      walk_at "evp"
      rw [hq]
      walk_at "evp"
      try rw [Int.toNat_natCast]
    · rw [(hp.map T3.a).nodup_iff, List.map_cons, List.nodup_cons]
      refine ⟨fun hm => ?_, hD.nd⟩
      obtain ⟨t, ht, e⟩ := List.mem_map.mp hm
      have := hD.bd t ht
      omega
    · rcases List.mem_cons.mp (hp.subset ht) with rfl | m
      · rw [hra]; push_cast; omega
      · have := hD.bd t m; push_cast; omega)
  exact ⟨rs, hD, by walk_at "evp"⟩
def bI (b : Bool) : Int := if b = true then 1 else 0
theorem ltT_iff (x y : Rec) : PySem.W.dataLt (dT x) (dT y) = true ↔ x.a < y.a \/ x.a = y.a /\ (x.b < y.b \/ x.b = y.b /\ bI x.c < bI y.c) := by
  unfold dT
  rw [PySem.W.dataLt_tuple, PySem.W.dataLt_cons (by simp [PySem.W.alike]), PySem.W.dataLt_cons (by simp [PySem.W.alike]), PySem.W.dataLt_cons (by simp [PySem.W.alike])]
  have e : PyProof.Rows.lexLt PyProof.Rows.itemOrd (PySem.W.keyToksAll []) (PySem.W.keyToksAll []) = false := PyProof.Rows.lex_irrefl _
  rw [e, PySem.W.dataLt_int, PySem.W.dataLt_int, PySem.W.dataLt_bool]
  simp only [PyData.eqv, beq_iff_eq]
  obtain ⟨xa, xb, xc⟩ := x
  obtain ⟨ya, yb, yc⟩ := y
  by_cases h1 : xa = ya <;> by_cases h2 : xb = yb <;> cases xc <;> cases yc <;> simp [h1, h2, bI, PyProof.Rows.b2i] <;> omega
def leT (x y : Rec) : Bool := !PySem.W.dataLt (dT y) (dT x)
theorem leT_iff (x y : Rec) : leT x y = true ↔ x.a < y.a \/ x.a = y.a /\ (x.b < y.b \/ x.b = y.b /\ bI x.c <= bI y.c) := by
  unfold leT
  rw [Bool.not_eq_true', <- Bool.not_eq_true, ltT_iff]
  omega
theorem leT_trans {x y z : Rec} (h1 : leT x y = true) (h2 : leT y z = true) : leT x z = true := by rw [leT_iff] at *; omega
theorem leT_total (x y : Rec) : (leT x y || leT y x) = true := by rw [Bool.or_eq_true, leT_iff, leT_iff]; omega
theorem bI_inj {b c : Bool} (h : bI b = bI c) : b = c := by cases b <;> cases c <;> first | rfl | (exact absurd h (by decide))
theorem leT_anti {x y : Rec} (h1 : leT x y = true) (h2 : leT y x = true) : x = y := by
  rw [leT_iff] at *
  obtain ⟨xa, xb, xc⟩ := x
  obtain ⟨ya, yb, yc⟩ := y
  dsimp only at *
  have e1 : xa = ya := by omega
  have e2 : xb = yb := by omega
  have e3 : xc = yc := bI_inj (by omega)
  rw [e1, e2, e3]
abbrev AscT (xs : List Rec) : Prop := xs.Pairwise fun x y => leT x y = true
theorem srtT_le (xs : List Rec) : srtT xs = xs.mergeSort leT := by
  unfold srtT
  have : PySem.W.dataLe false dT = leT := by funext x y; rw [PySem.W.dataLe_eq]; rfl
  rw [this]
theorem srtT_asc (xs : List Rec) : AscT (srtT xs) := by rw [srtT_le]; exact List.pairwise_mergeSort (le := leT) (fun a b c => leT_trans) leT_total xs
theorem ascT_unique : ∀ {ps qs : List Rec}, AscT ps -> AscT qs -> ps.Perm qs -> ps = qs
  | [], qs, _, _, h => (h.symm.eq_nil).symm
  | p :: ps, [], _, _, h => absurd h.eq_nil (by simp)
  | p :: ps, q :: qs, h1, h2, h => by
    rw [AscT, List.pairwise_cons] at h1 h2
    have e : p = q := by
      rcases List.mem_cons.mp (h.subset (List.mem_cons_self ..)) with e | m
      · exact e
      · rcases List.mem_cons.mp (h.symm.subset (List.mem_cons_self ..)) with e | m2
        · exact e.symm
        · exact leT_anti (h1.1 q m2) (h2.1 p m)
    subst e
    rw [ascT_unique h1.2 h2.2 (List.Perm.cons_inv h)]
theorem srtT_of {ps qs : List Rec} (h : AscT qs) (hp : qs.Perm ps) : srtT ps = qs := ascT_unique (srtT_asc ps) h ((srtT_perm ps).trans hp.symm)
theorem srtT_eq {ps qs : List Rec} (h : ps.Perm qs) : srtT ps = srtT qs := srtT_of (srtT_asc qs) ((srtT_perm qs).trans h.symm)
theorem srtR_eq {ps qs : List Pr} (h : ps.Perm qs) : srtR ps = srtR qs := srtR_of (srtR_asc qs) ((srtR_perm qs).trans h.symm)
theorem choose_perm {R K depth : Int} {xs ys : List Rec} (h : xs.Perm ys) : chooseP R K depth xs = chooseP R K depth ys := by
  unfold chooseP
  rw [h.length_eq, srtR_eq (h.map fun q => (q.b, q.a))]
theorem meetP_perm {l : Bool} {kept : List Pr} {xs ys : List Rec} (h : xs.Perm ys) : meetP l kept xs = meetP l kept ys := srtR_eq (h.flatMap_right _)
theorem passF_perm {R K : Int} {l : Bool} {ps : List Int} {xs ys xs' ys' : List Rec} (h : xs.Perm xs') (h' : ys.Perm ys') : passF R K l ps xs ys = passF R K l ps xs' ys' := by
  unfold passF
  cases l
  · simp only [if_neg (show ¬ false = true by decide)]
    rw [choose_perm h', meetP_perm h, srtT_eq h, srtT_eq h']
  · simp only [if_pos]
    rw [choose_perm h, meetP_perm h', srtT_eq h, srtT_eq h']
end
local macro_rules | `(tactic| walk_at "ev") => `(tactic| simp? only [])
section
variable {W : Wd TT}
local macro_rules | `(tactic| walk_at "evp") => `(tactic| dsimp? only [xg_eR, rangeD_length, sh_eR, fz_eR, fl_eR, sh_oR, fz_oR, ok_eR, ok_oR, eq_eR, eq_oR, eq_eRn, eq_neR, isN_eR, isN_oR, ty_eR, len_eR, sF_eR, it_eR, lt_eR, okl_eR, eql_eR, shl_eR, fzl_eR, srt_eR, srt_Rec, it_t3, sF_t3, sFI_t3, ty_t3, len_t3, lenI_t3, fl_t3, xg_t3, enc_int, enc_bool, isN_opt, sh_enc, fz_enc, shl_enc, fzl_enc, fl_enc, ok_enc, okl_enc, eq_enc, eql_enc, en_enc, ne_enc, nn_enc, vE_length, kI_length])
local macro_rules | `(tactic| walk_at "evl") => `(tactic| dsimp? only [h_seq_len, h_sF_len, h_lenF, h_lenI_len, h_fz_len, h_sh_len, h_fl_len, xg_eR, rangeD_length, sh_eR, fz_eR, fl_eR, sh_oR, fz_oR, ok_eR, ok_oR, eq_eR, eq_oR, eq_eRn, eq_neR, isN_eR, isN_oR, ty_eR, len_eR, sF_eR, it_eR, lt_eR, okl_eR, eql_eR, shl_eR, fzl_eR, srt_eR, srt_Rec, it_t3, sF_t3, sFI_t3, ty_t3, len_t3, lenI_t3, fl_t3, xg_t3, enc_int, enc_bool, isN_opt, sh_enc, fz_enc, shl_enc, fzl_enc, fl_enc, ok_enc, okl_enc, eq_enc, eql_enc, en_enc, ne_enc, nn_enc, vE_length, kI_length])
theorem f_choose_keptL (k : Nat) {R K depth : Int} {b : String} (hR : 1 <= R) (rs : List Rec) (hl : rs.length <= 1000) : semT (tbl W) (k + 3) "choose_kept" [.len (rs.map enc), .int depth, pS R b K] none =
    .ok (.tup [.str (chooseP R K depth rs).1, .lst ((chooseP R K depth rs).2.1.map eR), enc (chooseP R K depth rs).2.2]) none := by
  obtain ⟨r, rfl⟩ : ∃ r : Nat, R = (r : Int) := ⟨R.toNat, by omega⟩
  have hi := f_init (W := W) (k + 1) r
  obtain ⟨o4, o5, o6, ho⟩ := offers (W := W) k r (by omega) rs hl (some (.len (rs.map enc))) (some (.int depth)) (some (pS r b K))
  rw [sem_choose_kept]
  unfold b_choose_kept chooseP
  rw [Int.toNat_natCast]
  by_cases h : (r : Int) < rs.length /\ depth < K
  · rw [if_pos h]
    obtain ⟨h1, h2⟩ := h
    walk_at "evl"
    try rfl
  · rw [if_neg h]
    generalize hH : (srtR (rs.map fun q => (q.b, q.a))).take r = H at *
    generalize hb : (srtR (rs.map fun q => (q.b, q.a)))[r]? = l at *
    have f1 : semT (tbl W) (k + 1 + 1) "Keeper.least_back" [.ins "Keeper" ["_room", "_held", "_least_back"] [.int r, .lst (H.map eR), oR l]] none = .ok (oR l) none := f_lb (W := W) (k + 1) r H l
    have f2 : semT (tbl W) (k + 1 + 1) "Keeper.held" [.ins "Keeper" ["_room", "_held", "_least_back"] [.int r, .lst (H.map eR), oR l]] none = .ok (.olst (H.map eR)) none := f_heldS (W := W) (k + 1) r H l
    have hc : ¬ (r : Int) < rs.length \/ ((r : Int) < rs.length /\ ¬ depth < K) := by omega
    rcases hc with h1 | ⟨h1, h2⟩
    all_goals
      walk_at "evl"
      rw [hi]
      walk_at "evl"
      rw [ho]
      unfold kD
      walk_at "evl"
      rw [f1]
      cases l with
      | none =>
        unfold backO oR at *
        walk_at "evl"
        rw [f2]
        walk_at "evl"
        rfl
      | some p =>
        unfold backO oR at *
        walk_at "evl"
        rw [f2]
        walk_at "evl"
        rfl
theorem f_meetingsL (k : Nat) (l : Bool) (b : String) (hb : b = if l = true then "left" else "right") (kept : List Pr) (probe : List Rec) (hk : kept.length <= 500) (hp : probe.length <= 500) :
    semT (tbl W) (k + 1) "meetings" [.len (probe.map enc), .lst (kept.map eR), .str b] none = .ok (.olst ((meetP l kept probe).map eR)) none := by
  obtain ⟨o4, o5, ho⟩ := by_loop (W := W) k kept (by omega) (some (.len (probe.map enc))) (some (.lst (kept.map eR))) (some (.str b))
  have hget : ∀ r : Rec, (alG (byK kept) r.b).getD [] = (kept.filter fun p => decide (p.1 = r.b)).map (·.2) := fun r => byK_get r.b kept []
  rw [sem_meetings]
  unfold b_meetings meetP
  walk_at "evl"
  rw [ho]
  generalize byK kept = m at *
  walk_at "evl"
  generalize hF : forL _ _ _ = rr
  obtain ⟨e', rfl, d3, o4, o5, o7, o8, hd3, rfl⟩ := forL_enc (fun ys e => ∃ d3 o4 o5 o7 o8, (d3 = .odic (kI m) (vE gL m) \/ d3 = .dic (kI m) (vE gS m)) /\ e = [some (.len (probe.map enc)), some (.lst (kept.map eR)), some (.str b), some d3, o4, o5, some (.olst ((ys.flatMap (meetG l kept)).map eR)), o7, o8]) hF ⟨_, _, _, _, _, .inl rfl, rfl⟩ (by
    rintro ys r zs _ hx ⟨d3, o4, o5, o7, o8, hd3, rfl⟩
    have hpl := pre_le hx
    have hml := meets_len l kept ys
    have hml2 : ys.length * kept.length <= 500 * 500 := Nat.mul_le_mul (by omega) hk
    rw [flatMap_snoc, <- meetG_eq, <- hget]
    have hol : ((alG m r.b).getD []).length <= 500 := by
      rw [hget, List.length_map]
      exact Nat.le_trans (List.length_filter_le _ _) hk
    generalize ys.flatMap (meetG l kept) = ps at *
    have hfz : fzs (vE gL m) = vE gS m := fzs_vE fz_gL m
    have hdg := dg_al gS r.b m
    have go : ∃ q7 q8, (l2_meetings W (semT (tbl W) k)).ev [] [some (.len (probe.map enc)), some (.lst (kept.map eR)), some (.str b), some d3, some (.int r.b), some (.int r.a), some (.olst (ps.map eR)), some (.bl r.c), o8] =
        .nx [some (.len (probe.map enc)), some (.lst (kept.map eR)), some (.str b), some (.dic (kI m) (vE gS m)), some (.int r.b), some (.int r.a), some (.olst ((ps ++ ((alG m r.b).getD []).map fun o => if l = true then (o, r.a) else (r.a, o)).map eR)), q7, q8] := by
      unfold l2_meetings
      cases ha : alG m r.b with
      | none =>
        rw [ha] at hdg
        rcases hd3 with rfl | rfl
        · walk_at "evl"
          rw [hfz]
          walk_at "evl"
          rw [hdg]
          walk_at "evl"
          exact ⟨some (.bl r.c), o8, by simp [forL]⟩
        · walk_at "evl"
          rw [hdg]
          walk_at "evl"
          exact ⟨some (.bl r.c), o8, by simp [forL]⟩
      | some os =>
        rw [ha] at hdg hol
        have hol : os.length <= 500 := hol
        obtain ⟨q8, hq⟩ := in_loop (W := W) k l b hb r.a os ps (by omega) (some (.len (probe.map enc))) (some (.lst (kept.map eR))) (some (.dic (kI m) (vE gS m))) (some (.int r.b)) (some (.bl r.c)) o8
        rcases hd3 with rfl | rfl
        · walk_at "evl"
          rw [hfz]
          walk_at "evl"
          rw [hdg]
          walk_at "evl"
          exact ⟨_, _, hq⟩
        · walk_at "evl"
          rw [hdg]
          walk_at "evl"
          exact ⟨_, _, hq⟩
    obtain ⟨q7, q8, hq⟩ := go
    refine ⟨_, .inl (?_ : _ = RS.nx [some (.len (probe.map enc)), some (.lst (kept.map eR)), some (.str b), some (.dic (kI m) (vE gS m)), some (.int r.b), some (.int r.a), some (.olst ((ps ++ ((alG m r.b).getD []).map fun o => if l = true then (o, r.a) else (r.a, o)).map eR)), q7, q8]), _, _, _, _, _, .inr rfl, rfl⟩
    walk_at "evl"
    exact hq)
  walk_at "evl"
theorem f_with_marksL (k : Nat) (rs : List Rec) (hl : rs.length <= 1000) (m : List (Int × Bool)) : semT (tbl W) (k + 1) "with_marks" [.len (rs.map enc), .dic (kI m) (vE enc m)] none = .ok (.olst (((srtT rs).map (markG m)).map enc)) none := by
  have hsl := srtT_len rs
  rw [sem_with_marks]
  unfold b_with_marks
  walk_at "evl"
  generalize srtT rs = ss at *
  generalize hF : forL _ _ _ = rr
  obtain ⟨e', rfl, o3, o4, o5, rfl⟩ := forL_enc (fun ys e => ∃ o3 o4 o5, e = [some (.len (rs.map enc)), some (.dic (kI m) (vE enc m)), some (.olst ((ys.map (markG m)).map enc)), o3, o4, o5]) hF ⟨none, none, none, rfl⟩ (by
    rintro ys r zs _ hx ⟨o3, o4, o5, rfl⟩
    have hpl := pre_le hx
    have hml : (ys.map (markG m)).length = ys.length := List.length_map ..
    rw [List.map_append, List.map_singleton]
    generalize ys.map (markG m) = ms at *
    rw [List.map_append]
    have hmk : (enc (markG m r) : D) = .tup [.int r.a, .int r.b, .bl (r.c || m.any fun p => decide (p.1 = r.a))] := rfl
    have hk := hasK_al (β := Bool) r.a m
    obtain ⟨a, b, c⟩ := r
    rw [List.map_singleton, hmk]
    dsimp only at *
    refine ⟨_, .inl (?_ : _ = RS.nx [some (.len (rs.map enc)), some (.dic (kI m) (vE enc m)), some (.olst (ms.map enc ++ [.tup [.int a, .int b, .bl (c || m.any fun p => decide (p.1 = a))]])), some (.int a), some (.int b), some (.bl c)]), _, _, _, rfl⟩
    unfold l1_with_marks
    cases c
    · walk_at "evl"
      rw [hk]
    · walk_at "evl")
  walk_at "evl"
theorem f_make_passL (k : Nat) {R K : Int} {b : String} (hb : b = "left" \/ b = "right" \/ b = "lesser") (hR : 1 <= R) (ps : List Int) (left right : List Rec) (hl : left.length <= 500) (hr : right.length <= 500) (hps : ps.length <= 1000) (l : Bool) (hsd : sideB b left.length right.length = if l = true then "left" else "right") :
    semT (tbl W) (k + 4) "make_pass" [.tup (ps.map enc), .len (left.map enc), .len (right.map enc), pS R b K] none = .ok (passF R K l ps left right) none := by
  have c1 := f_build_side (W := W) (k + 2) (R := R) (K := K) (l := left.length) (r := right.length) hb
  rw [hsd] at c1
  rw [sem_make_pass]
  unfold b_make_pass passF
  cases l
  · simp only [if_neg (show ¬ false = true by decide)] at c1 ⊢
    have c2 := f_choose_keptL (W := W) k (R := R) (K := K) (b := b) (depth := ps.length) hR right (by omega)
    have c3 := choose_some (R := R) (K := K) (depth := ps.length) (rs := right)
    have c4 := choose_len (R := R) (K := K) (depth := ps.length) (rs := right)
    generalize chooseP R K ps.length right = ch at *
    obtain ⟨how, kept, bound⟩ := ch
    dsimp only at *
    have c5 := f_meetingsL (W := W) (k + 2) false "right" rfl kept left (by omega) hl
    have c9 := meetP_len false kept left (by omega) hl
    generalize meetP false kept left = met at *
    have c6 := f_pass_init (W := W) (k + 2) ps how "right" bound (kept.map (·.2)) met
    have c7 := f_with_marksL (W := W) (k + 2) left (by omega) (dcM (·.1) (fun _ => true) met)
    have c8 := f_with_marksL (W := W) (k + 2) right (by omega) (dcM (·.2) (fun _ => true) met)
    walk_at "evl"
    rw [c1]
    walk_at "evl"
    rw [c2]
    walk_at "evl"
    rw [c5]
    walk_at "evl"
    rw [lcL_mapE (enc := eR) (enc2 := enc) (fun p : Pr => p.2) kept (fun p _ => by
      walk_at "evl"
      try rfl)]
    walk_at "evl"
    rw [c6]
    walk_at "evl"
    rw [dcL_al0 (c := eR) (g := (enc : Bool -> D)) (fun b => sh_enc b) (fun p : Pr => p.2) (fun _ => true) kept (fun p _ => by
      walk_at "evl"
      try rfl)]
    walk_at "evl"
    rw [dcL_al0 (c := eR) (g := (enc : Bool -> D)) (fun b => sh_enc b) (fun p : Pr => p.1) (fun _ => true) met (fun p _ => by
      walk_at "evl"
      try rfl)]
    walk_at "evl"
    rw [fzs_vE (h := (enc : Bool -> D)) (fun b => fz_enc b), c7]
    walk_at "evl"
    have q1 : (((srtT left).map (markG (dcM (fun p : Pr => p.1) (fun _ => true) met))).length <= 1000) := by rw [List.length_map, srtT_len]; omega
    generalize (srtT left).map (markG (dcM (fun p : Pr => p.1) (fun _ => true) met)) = ml at *
    obtain ⟨o17, hlo⟩ := l_loop (W := W) (k + 2) false "right" rfl c3 ps (kept := kept.map (·.2)) (met := met) (rd := []) (rr := []) (kn := dcM (·.2) (fun _ => true) kept) ml q1 (some (.tup (ps.map enc))) (some (.len (left.map enc))) (some (.len (right.map enc))) (some (pS R b K)) (some (.len (right.map enc))) (some (.len (left.map enc))) (some (.str how)) (some (.lst (kept.map eR))) (some (enc bound)) (some (.lst (met.map eR))) none none none none
    rw [hlo]
    walk_at "evl"
    rw [dcL_al0 (c := eR) (g := (enc : Bool -> D)) (fun b => sh_enc b) (fun p : Pr => p.2) (fun _ => true) met (fun p _ => by
      walk_at "evl"
      try rfl)]
    walk_at "evl"
    rw [fzs_vE (h := (enc : Bool -> D)) (fun b => fz_enc b), c8]
    walk_at "evl"
    have q2 : (((srtT right).map (markG (dcM (fun p : Pr => p.2) (fun _ => true) met))).length <= 1000) := by rw [List.length_map, srtT_len]; omega
    generalize (srtT right).map (markG (dcM (fun p : Pr => p.2) (fun _ => true) met)) = mr at *
    obtain ⟨p17, hro⟩ := r_loop (W := W) (k + 2) false "right" rfl c3 ps (kept := kept.map (·.2)) (met := met) (ld := ml.filter (finG how bound false (dcM (·.2) (fun _ => true) kept))) (lr := ml.filter fun r => !finG how bound false (dcM (·.2) (fun _ => true) kept) r) (kn := dcM (·.2) (fun _ => true) kept) mr q2 (some (.tup (ps.map enc))) (some (.len (left.map enc))) (some (.len (right.map enc))) (some (pS R b K)) (some (.len (right.map enc))) (some (.len (left.map enc))) (some (.str how)) (some (.lst (kept.map eR))) (some (enc bound)) (some (.lst (met.map eR))) none none none none
    rw [hro]
    walk_at "evl"
    try rfl
  · simp only [eq_self_iff_true, if_true] at c1 ⊢
    have c2 := f_choose_keptL (W := W) k (R := R) (K := K) (b := b) (depth := ps.length) hR left (by omega)
    have c3 := choose_some (R := R) (K := K) (depth := ps.length) (rs := left)
    have c4 := choose_len (R := R) (K := K) (depth := ps.length) (rs := left)
    generalize chooseP R K ps.length left = ch at *
    obtain ⟨how, kept, bound⟩ := ch
    dsimp only at *
    have c5 := f_meetingsL (W := W) (k + 2) true "left" rfl kept right (by omega) hr
    have c9 := meetP_len true kept right (by omega) hr
    generalize meetP true kept right = met at *
    have c6 := f_pass_init (W := W) (k + 2) ps how "left" bound (kept.map (·.2)) met
    have c7 := f_with_marksL (W := W) (k + 2) left (by omega) (dcM (·.1) (fun _ => true) met)
    have c8 := f_with_marksL (W := W) (k + 2) right (by omega) (dcM (·.2) (fun _ => true) met)
    walk_at "evl"
    rw [c1]
    walk_at "evl"
    rw [c2]
    walk_at "evl"
    rw [c5]
    walk_at "evl"
    rw [lcL_mapE (enc := eR) (enc2 := enc) (fun p : Pr => p.2) kept (fun p _ => by
      walk_at "evl"
      try rfl)]
    walk_at "evl"
    rw [c6]
    walk_at "evl"
    rw [dcL_al0 (c := eR) (g := (enc : Bool -> D)) (fun b => sh_enc b) (fun p : Pr => p.2) (fun _ => true) kept (fun p _ => by
      walk_at "evl"
      try rfl)]
    walk_at "evl"
    rw [dcL_al0 (c := eR) (g := (enc : Bool -> D)) (fun b => sh_enc b) (fun p : Pr => p.1) (fun _ => true) met (fun p _ => by
      walk_at "evl"
      try rfl)]
    walk_at "evl"
    rw [fzs_vE (h := (enc : Bool -> D)) (fun b => fz_enc b), c7]
    walk_at "evl"
    have q1 : (((srtT left).map (markG (dcM (fun p : Pr => p.1) (fun _ => true) met))).length <= 1000) := by rw [List.length_map, srtT_len]; omega
    generalize (srtT left).map (markG (dcM (fun p : Pr => p.1) (fun _ => true) met)) = ml at *
    obtain ⟨o17, hlo⟩ := l_loop (W := W) (k + 2) true "left" rfl c3 ps (kept := kept.map (·.2)) (met := met) (rd := []) (rr := []) (kn := dcM (·.2) (fun _ => true) kept) ml q1 (some (.tup (ps.map enc))) (some (.len (left.map enc))) (some (.len (right.map enc))) (some (pS R b K)) (some (.len (left.map enc))) (some (.len (right.map enc))) (some (.str how)) (some (.lst (kept.map eR))) (some (enc bound)) (some (.lst (met.map eR))) none none none none
    rw [hlo]
    walk_at "evl"
    rw [dcL_al0 (c := eR) (g := (enc : Bool -> D)) (fun b => sh_enc b) (fun p : Pr => p.2) (fun _ => true) met (fun p _ => by
      walk_at "evl"
      try rfl)]
    walk_at "evl"
    rw [fzs_vE (h := (enc : Bool -> D)) (fun b => fz_enc b), c8]
    walk_at "evl"
    have q2 : (((srtT right).map (markG (dcM (fun p : Pr => p.2) (fun _ => true) met))).length <= 1000) := by rw [List.length_map, srtT_len]; omega
    generalize (srtT right).map (markG (dcM (fun p : Pr => p.2) (fun _ => true) met)) = mr at *
    obtain ⟨p17, hro⟩ := r_loop (W := W) (k + 2) true "left" rfl c3 ps (kept := kept.map (·.2)) (met := met) (ld := ml.filter (finG how bound true (dcM (·.2) (fun _ => true) kept))) (lr := ml.filter fun r => !finG how bound true (dcM (·.2) (fun _ => true) kept) r) (kn := dcM (·.2) (fun _ => true) kept) mr q2 (some (.tup (ps.map enc))) (some (.len (left.map enc))) (some (.len (right.map enc))) (some (pS R b K)) (some (.len (left.map enc))) (some (.len (right.map enc))) (some (.str how)) (some (.lst (kept.map eR))) (some (enc bound)) (some (.lst (met.map eR))) none none none none
    rw [hro]
    walk_at "evl"
    try rfl
end
local macro_rules | `(tactic| walk_at "ev") => `(tactic| simp? only [])
section
variable {W : Wd TT}
local macro_rules | `(tactic| walk_at "evp") => `(tactic| dsimp? only [xg_eR, rangeD_length, sh_eR, fz_eR, fl_eR, sh_oR, fz_oR, ok_eR, ok_oR, eq_eR, eq_oR, eq_eRn, eq_neR, isN_eR, isN_oR, ty_eR, len_eR, sF_eR, it_eR, lt_eR, okl_eR, eql_eR, shl_eR, fzl_eR, srt_eR, srt_Rec, it_t3, sF_t3, sFI_t3, ty_t3, len_t3, lenI_t3, fl_t3, xg_t3, enc_int, enc_bool, isN_opt, sh_enc, fz_enc, shl_enc, fzl_enc, fl_enc, ok_enc, okl_enc, eq_enc, eql_enc, en_enc, ne_enc, nn_enc, vE_length, kI_length])
mutual
theorem eqB_self : ∀ (d : D) (n : Nat), okD n d = true -> eqB d d = true
  | .non, _, _ => rfl
  | .bl a, _, _ => by simp [eqB]
  | .int i, _, _ => by simp [eqB]
  | .str x, _, _ => by simp [eqB]
  | .tup xs, n, h => by
    cases n with
    | zero => simp [okD] at h
    | succ n => rw [eqB]; exact eqBs_self xs n (by simpa [okD] using h)
  | .lst xs, n, h => by
    cases n with
    | zero => simp [okD] at h
    | succ n => rw [eqB]; exact eqBs_self xs n (by simpa [okD] using h)
  | .cls _, n, h => by cases n <;> simp [okD] at h
  | .sei _, n, h => by cases n <;> simp [okD] at h
  | .scr _, n, h => by cases n <;> simp [okD] at h
  | .olst _, n, h => by cases n <;> simp [okD] at h
  | .dic _ _, n, h => by cases n <;> simp [okD] at h
  | .odic _ _, n, h => by cases n <;> simp [okD] at h
  | .dit _ _, n, h => by cases n <;> simp [okD] at h
  | .odit _ _, n, h => by cases n <;> simp [okD] at h
  | .dig _ _, n, h => by cases n <;> simp [okD] at h
  | .odig _ _, n, h => by cases n <;> simp [okD] at h
  | .ins _ _ _, n, h => by cases n <;> simp [okD] at h
  | .oins _ _ _, n, h => by cases n <;> simp [okD] at h
theorem eqBs_self : ∀ (ds : List D) (n : Nat), okDs n ds = true -> eqBs ds ds = true
  | [], _, _ => by rw [eqBs]
  | d :: ds, n, h => by
    rw [okDs, Bool.and_eq_true] at h
    rw [eqBs, eqB_self d n h.1, eqBs_self ds n h.2]
    rfl
end
def duF (ps : List Int) (how side : String) (bound : Option Int) (kept : List Int) (met : List Pr) (ld lr rd rr : List Rec) : List D :=
  [.tup (ps.map enc), .str how, .str side, enc bound, .lst (kept.map enc), .lst (met.map eR), .lst (ld.map enc), .lst (lr.map enc), .lst (rd.map enc), .lst (rr.map enc)]
theorem f_law_fields (k : Nat) (ps : List Int) (how side : String) (bound : Option Int) (kept : List Int) (met : List Pr) (ld lr rd rr : List Rec) :
    semT (tbl W) (k + 1) "_law_fields" [psS (.tup (ps.map enc)) how side bound kept met ld lr rd rr] none = .ok (.olst (duF ps how side bound kept met ld lr rd rr)) none := by
  rw [sem_law_fields]
  unfold b_law_fields psS duF
  walk_at "evp"
theorem sortRev_Rec (rs : List Rec) : sortDR (rs.map enc) = some ((rs.mergeSort (PySem.W.dataLe true dT)).map enc) := sortDR_map pd_Rec rs (sortOk_dT rs)
def srtB (rs : List Rec) : List Rec := rs.mergeSort (PySem.W.dataLe true dT)
theorem srtB_perm (rs : List Rec) : (srtB rs).Perm rs := List.mergeSort_perm _ _
theorem srtB_Rec (rs : List Rec) : sortDR (rs.map enc) = some ((srtB rs).map enc) := sortRev_Rec rs
theorem h_ix20 : ixN 2 0 = some 0 := rfl
theorem h_ix21 : ixN 2 1 = some 1 := rfl
theorem h_pt0 {a b z : D} : (D.olst [a, b]).putAt [Pst.idx 0] z = .olst [z, b] := rfl
theorem h_pt1 {a b z : D} : (D.olst [a, b]).putAt [Pst.idx 1] z = .olst [a, z] := rfl
theorem h_gt0 {a b : D} : [a, b][0]? = some a := rfl
theorem h_gt1 {a b : D} : [a, b][1]? = some b := rfl
local macro_rules | `(tactic| walk_at "evl") => `(tactic| dsimp? only [h_seq_len, h_sF_len, h_lenF, h_lenI_len, h_fz_len, h_sh_len, h_fl_len, e_xpLendI, e_xLst2O, h_lst2O, h_olA0, h_olA1, h_frLif, h_ix20, h_ix21, h_pt0, h_pt1, h_gt0, h_gt1, xg_eR, rangeD_length, sh_eR, fz_eR, fl_eR, sh_oR, fz_oR, ok_eR, ok_oR, eq_eR, eq_oR, eq_eRn, eq_neR, isN_eR, isN_oR, ty_eR, len_eR, sF_eR, it_eR, lt_eR, okl_eR, eql_eR, shl_eR, fzl_eR, srt_eR, srt_Rec, it_t3, sF_t3, sFI_t3, ty_t3, len_t3, lenI_t3, fl_t3, xg_t3, enc_int, enc_bool, isN_opt, sh_enc, fz_enc, shl_enc, fzl_enc, fl_enc, ok_enc, okl_enc, eq_enc, eql_enc, en_enc, ne_enc, nn_enc, vE_length, kI_length])
theorem ln_rec (rs : List Rec) : oLns (rs.map enc) = true := oLns_all fun d hd => by
  obtain ⟨r, _, rfl⟩ := List.mem_map.mp hd
  show oLn (.tup [.int r.a, .int r.b, .bl r.c]) = true
  simp [oLn, oLns]
theorem ln_int (rs : List Int) : oLns (rs.map enc) = true := oLns_all fun d hd => by
  obtain ⟨r, _, rfl⟩ := List.mem_map.mp hd
  show oLn (.int r) = true
  simp [oLn]
theorem ln_pr (rs : List Pr) : oLns (rs.map eR) = true := oLns_all fun d hd => by
  obtain ⟨r, _, rfl⟩ := List.mem_map.mp hd
  show oLn (.tup [.int r.1, .int r.2]) = true
  simp [oLn, oLns]
theorem ln_psO (ps : List Int) (how side : String) (bound : Option Int) (kept : List Int) (met : List Pr) (ld lr rd rr : List Rec) : oLn (psO (.tup (ps.map enc)) how side bound kept met ld lr rd rr) = true := by
  unfold psO
  have hb : oLn (enc bound) = true := by
    cases bound
    · show oLn .non = true; simp [oLn]
    · rename_i i; show oLn (.int i) = true; simp [oLn]
  simp [oLn, oLns, ln_rec, ln_int, ln_pr, hb]
theorem duF_fz (ps : List Int) (how side : String) (bound : Option Int) (kept : List Int) (met : List Pr) (ld lr rd rr : List Rec) : fzs (duF ps how side bound kept met ld lr rd rr) = duF ps how side bound kept met ld lr rd rr := by
  unfold duF
  walk_at "evp"
theorem duF_ok (ps : List Int) (how side : String) (bound : Option Int) (kept : List Int) (met : List Pr) (ld lr rd rr : List Rec) : okDs 59 (duF ps how side bound kept met ld lr rd rr) = true := by
  unfold duF
  walk_at "evp"
theorem du_eq {du : List D} (h : okDs 59 du = true) : okD 60 (.lst du) = true /\ eqB (.lst du) (.lst du) = true := by
  have h2 : okD 60 (.lst du) = true := by simpa [okD] using h
  exact ⟨h2, eqB_self _ 60 h2⟩
theorem psS_sh (ps : List Int) (how side : String) (bound : Option Int) (kept : List Int) (met : List Pr) (ld lr rd rr : List Rec) : isSh (psS (.tup (ps.map enc)) how side bound kept met ld lr rd rr) = true := by
  unfold psS
  walk_at "evp"
theorem turn31 {R K : Int} {b : String} (hb : b = "left" \/ b = "right" \/ b = "lesser") (hR : 1 <= R) (ps : List Int) (hps : ps.length <= 1000) (l : Bool) (A B : List Rec) (hA : A.length <= 500) (hB : B.length <= 500) (hsd : sideB b A.length B.length = if l = true then "left" else "right")
    {how side : String} {bound : Option Int} {kept : List Int} {met : List Pr} {ld lr rd rr : List Rec} (hF : passF R K l ps A B = psO (.tup (ps.map enc)) how side bound kept met ld lr rd rr) {x0 x1 x2 x3 x4 x5 x7 x9 x11 y13 y14 : Option D} :
    (l1_law W (semT (tbl W) 5)).ev [] [x0, x1, x2, x3, x4, x5, some (pS R b K), x7, some (.tup (ps.map enc)), x9, some (.olst (duF ps how side bound kept met ld lr rd rr)), x11, some (.lst [.lst (A.map enc), .lst (B.map enc)]), y13, y14] =
    .nx [x0, x1, x2, x3, x4, x5, some (pS R b K), x7, some (.tup (ps.map enc)), x9, some (.olst (duF ps how side bound kept met ld lr rd rr)), x11, some (.lst [.lst (A.map enc), .lst (B.map enc)]), some (.olst [.olst (A.map enc ++ [.tup [.int 99, .int 0, .bl true]]), .olst (B.map enc ++ [.tup [.int 99, .int 0, .bl true]])]), some (psS (.tup (ps.map enc)) how side bound kept met ld lr rd rr)] := by
  have c2 := f_make_passL (W := W) 1 (R := R) (K := K) (b := b) hb hR ps A B hA hB hps l hsd
  rw [hF] at c2
  have c3 := f_law_fields (W := W) 4 ps how side bound kept met ld lr rd rr
  have hn := ln_psO ps how side bound kept met ld lr rd rr
  have hfz : fz (psO (.tup (ps.map enc)) how side bound kept met ld lr rd rr) = psS (.tup (ps.map enc)) how side bound kept met ld lr rd rr := fz_psO _ (by walk_at "evp") how side bound kept met ld lr rd rr
  have hss := psS_sh ps how side bound kept met ld lr rd rr
  have hdz := duF_fz ps how side bound kept met ld lr rd rr
  have hdo := duF_ok ps how side bound kept met ld lr rd rr
  generalize duF ps how side bound kept met ld lr rd rr = du at *
  generalize psS (.tup (ps.map enc)) how side bound kept met ld lr rd rr = S at *
  generalize psO (.tup (ps.map enc)) how side bound kept met ld lr rd rr = O at *
  obtain ⟨hd6, hde⟩ := du_eq hdo
  rw [eqB] at hde
  have hsz := fz_isSh hss
  have hlA : (A.map (enc : Rec -> D)).length < 1000000 := by rw [List.length_map]; omega
  have hlB : (B.map (enc : Rec -> D)).length < 1000000 := by rw [List.length_map]; omega
  unfold l1_law
  walk_at "evl"
  rw [c2]
  walk_at "evl"
  rw [hfz, hsz]
  walk_at "evl"
  rw [c3]
  walk_at "evl"
  rw [hdz]
  walk_at "evl"
  rw [hde]
  walk_at "evl"
  rw [c3]
  walk_at "evl"
  rw [hdz]
  walk_at "evl"
  rw [hde]
  walk_at "evl"
  try rfl
end
local macro_rules | `(tactic| walk_at "ev") => `(tactic| simp? only [])
section
variable {W : Wd TT}
local macro_rules | `(tactic| walk_at "evp") => `(tactic| dsimp? only [xg_eR, rangeD_length, sh_eR, fz_eR, fl_eR, sh_oR, fz_oR, ok_eR, ok_oR, eq_eR, eq_oR, eq_eRn, eq_neR, isN_eR, isN_oR, ty_eR, len_eR, sF_eR, it_eR, lt_eR, okl_eR, eql_eR, shl_eR, fzl_eR, srt_eR, srt_Rec, it_t3, sF_t3, sFI_t3, ty_t3, len_t3, lenI_t3, fl_t3, xg_t3, enc_int, enc_bool, isN_opt, sh_enc, fz_enc, shl_enc, fzl_enc, fl_enc, ok_enc, okl_enc, eq_enc, eql_enc, en_enc, ne_enc, nn_enc, vE_length, kI_length])
local macro_rules | `(tactic| walk_at "evm") => `(tactic| dsimp? only [srtB_Rec, xg_eR, rangeD_length, sh_eR, fz_eR, fl_eR, sh_oR, fz_oR, ok_eR, ok_oR, eq_eR, eq_oR, eq_eRn, eq_neR, isN_eR, isN_oR, ty_eR, len_eR, sF_eR, it_eR, lt_eR, okl_eR, eql_eR, shl_eR, fzl_eR, srt_eR, srt_Rec, it_t3, sF_t3, sFI_t3, ty_t3, len_t3, lenI_t3, fl_t3, xg_t3, enc_int, enc_bool, isN_opt, sh_enc, fz_enc, shl_enc, fzl_enc, fl_enc, ok_enc, okl_enc, eq_enc, eql_enc, en_enc, ne_enc, nn_enc, vE_length, kI_length])
theorem turn31u {R K : Int} {b : String} (hb : b = "left" \/ b = "right" \/ b = "lesser") (hR : 1 <= R) (ps : List Int) (hps : ps.length <= 1000) (l : Bool) (A B : List Rec) (hA : A.length <= 500) (hB : B.length <= 500) (hsd : sideB b A.length B.length = if l = true then "left" else "right")
    {how side : String} {bound : Option Int} {kept : List Int} {met : List Pr} {ld lr rd rr : List Rec} (hF : passF R K l ps A B = psO (.tup (ps.map enc)) how side bound kept met ld lr rd rr) {x0 x1 x2 x3 x4 x5 x7 x9 x11 y13 y14 : Option D} :
    (l1_law W (semT (tbl W) 5)).ev [] [x0, x1, x2, x3, x4, x5, some (.ins "Plan" ["room", "build", "keep_from"] [.int R, .str b, .int K]), x7, some (.tup (ps.map enc)), x9, some (.olst (duF ps how side bound kept met ld lr rd rr)), x11, some (.lst [.lst (A.map enc), .lst (B.map enc)]), y13, y14] =
    .nx [x0, x1, x2, x3, x4, x5, some (.ins "Plan" ["room", "build", "keep_from"] [.int R, .str b, .int K]), x7, some (.tup (ps.map enc)), x9, some (.olst (duF ps how side bound kept met ld lr rd rr)), x11, some (.lst [.lst (A.map enc), .lst (B.map enc)]), some (.olst [.olst (A.map enc ++ [.tup [.int 99, .int 0, .bl true]]), .olst (B.map enc ++ [.tup [.int 99, .int 0, .bl true]])]), some (psS (.tup (ps.map enc)) how side bound kept met ld lr rd rr)] := turn31 hb hR ps hps l A B hA hB hsd hF
theorem law_true (W : Wd TT) (ns : List Int) (hns : ns.length <= 63) : runFn 15 (b_law W (semT (tbl W) 5)) [.scr ns] none = .ok (.bl true) none := by
  unfold b_law
  walk_at "evp"
  rw [f_law_draws 4 (by decide) (by decide) (by decide)]
  have hl := draws_length ns 0 7
  have ho := draws_ok ns 0 7
  match hd : draws ns 0 7, hl with
  | [a, b, c, d, e, f, g], _ =>
  rw [hd] at ho
  have ha := ho a (by simp)
  have hb := ho b (by simp)
  have hc := ho c (by simp)
  have hd := ho d (by simp)
  have he := ho e (by simp)
  have hf := ho f (by simp)
  have hg := ho g (by simp)
  obtain ⟨n1, hn1⟩ : ∃ n : Nat, a % 17 = (n : Int) := ⟨(a % 17).toNat, by omega⟩
  obtain ⟨n2, hn2⟩ : ∃ n : Nat, b % 17 = (n : Int) := ⟨(b % 17).toNat, by omega⟩
  obtain ⟨n3, hn3⟩ : ∃ n : Nat, g % 4 = (n : Int) := ⟨(g % 4).toNat, by omega⟩
  obtain ⟨left, hL, c1⟩ := f_law_records (W := W) 3 (ns := ns) (i := 1) (s := 1 + c % 6) (n := n1) (by omega) (by omega) (by omega)
  obtain ⟨right, hQ, c2⟩ := f_law_records (W := W) 3 (ns := ns) (i := 18) (s := 1 + c % 6) (n := n2) (by omega) (by omega) (by omega)
  have hLl := hL.len
  have hQl := hQ.len
  walk_at "evp"
  rw [hn1, c1]
  walk_at "evp"
  rw [hn2, c2]
  walk_at "evp"
  obtain ⟨bs, hbs, hat⟩ : ∃ bs : String, (bs = "left" \/ bs = "right" \/ bs = "lesser") /\ atI [D.str "right", D.str "left", D.str "lesser"] (d % 3) = some (.str bs) := by
    obtain h | h | h : d % 3 = 0 \/ d % 3 = 1 \/ d % 3 = 2 := by omega
    all_goals rw [h]
    · exact ⟨"right", by simp, rfl⟩
    · exact ⟨"left", by simp, rfl⟩
    · exact ⟨"lesser", by simp, rfl⟩
  rw [hat]
  walk_at "evp"
  generalize hR : 1 + e % 6 = R
  have hR1 : 1 <= R /\ R <= 6 := by omega
  generalize hK : f % 4 = K
  have hK1 : 0 <= K /\ K <= 3 := by omega
  have c1 := f_plan_init (W := W) 3 (room := R) (keep := K) (build := bs) hR1.1 (by omega) hK1.1 (by omega) hbs
  try rw [hR]
  try rw [hK]
  rw [c1]
  walk_at "evp"
  rw [hn3]
  walk_at "evp"
  try rw [Int.toNat_natCast]
  rw [lcL_rangeE (enc2 := enc) (fun _ => (3 : Int)) n3 (fun k hk => by
    walk_at "evp"
    try rfl)]
  walk_at "evp"
  have hpl : ((List.range n3).map fun _ => (3 : Int)).length <= 1000 := by simp; omega
  generalize (List.range n3).map (fun _ => (3 : Int)) = ps at *
  obtain ⟨l, hside⟩ : ∃ l : Bool, sideB bs left.length right.length = if l = true then "left" else "right" := by
    rcases side_lr hbs left.length right.length with h | h
    · exact ⟨true, h⟩
    · exact ⟨false, h⟩
  have c2 := f_make_pass (W := W) 1 (R := R) (K := K) (b := bs) hbs hR1.1 ps left right (by omega) (by omega) hpl l hside
  obtain ⟨how, bound, kept, met, ld, lr, rd, rr, hF, _, _⟩ := passF_form R K l ps left right
  generalize (if l = true then "left" else "right" : String) = side at hF
  rw [hF] at c2
  have c3 := f_law_fields (W := W) 4 ps how side bound kept met ld lr rd rr
  have hfz : fz (psO (.tup (ps.map enc)) how side bound kept met ld lr rd rr) = psS (.tup (ps.map enc)) how side bound kept met ld lr rd rr := fz_psO _ (by walk_at "evp") how side bound kept met ld lr rd rr
  have hss := psS_sh ps how side bound kept met ld lr rd rr
  have hsz := fz_isSh hss
  have hdz := duF_fz ps how side bound kept met ld lr rd rr
  have hdo := duF_ok ps how side bound kept met ld lr rd rr
  obtain ⟨hd6, hde⟩ := du_eq hdo
  rw [eqB] at hde
  walk_at "evm"
  rw [c2]
  walk_at "evm"
  rw [hfz]
  walk_at "evm"
  rw [hsz]
  walk_at "evm"
  rw [c3]
  walk_at "evm"
  have hA : ∀ A : List Rec, A.Perm left -> A.length <= 500 := fun A h => by rw [h.length_eq]; omega
  have hB : ∀ A : List Rec, A.Perm right -> A.length <= 500 := fun A h => by rw [h.length_eq]; omega
  have hsi : ∀ A B : List Rec, A.Perm left -> B.Perm right -> sideB bs A.length B.length = if l = true then "left" else "right" := fun A B h1 h2 => by rw [h1.length_eq, h2.length_eq]; exact hside
  have hFF : ∀ A B : List Rec, A.Perm left -> B.Perm right -> passF R K l ps A B = psO (.tup (ps.map enc)) how side bound kept met ld lr rd rr := fun A B h1 h2 => (passF_perm h1 h2).trans hF
  rw [turn31u (W := W) hbs hR1.1 ps hpl l (srtT left) (srtT right) (hA _ (srtT_perm _)) (hB _ (srtT_perm _)) (hsi _ _ (srtT_perm _) (srtT_perm _)) (hFF _ _ (srtT_perm _) (srtT_perm _))]
  walk_at "evm"
  rw [turn31u (W := W) hbs hR1.1 ps hpl l (srtB left) (srtB right) (hA _ (srtB_perm _)) (hB _ (srtB_perm _)) (hsi _ _ (srtB_perm _) (srtB_perm _)) (hFF _ _ (srtB_perm _) (srtB_perm _))]
  walk_at "evm"
  rw [turn31u (W := W) hbs hR1.1 ps hpl l (srtB left) (srtT right) (hA _ (srtB_perm _)) (hB _ (srtT_perm _)) (hsi _ _ (srtB_perm _) (srtT_perm _)) (hFF _ _ (srtB_perm _) (srtT_perm _))]
  walk_at "evm"
  rw [turn31u (W := W) hbs hR1.1 ps hpl l left right (hA _ (.refl _)) (hB _ (.refl _)) (hsi _ _ (.refl _) (.refl _)) (hFF _ _ (.refl _) (.refl _))]
  walk_at "evm"
  rw [c3]
  walk_at "evm"
  rw [hdz]
  walk_at "evm"
  rw [hde]
  walk_at "evm"
  rw [c2]
  walk_at "evm"
  rw [hfz]
  walk_at "evm"
  rw [c3]
  walk_at "evm"
  rw [hdz]
  walk_at "evm"
  rw [hde]
  walk_at "evm"
end
end Py
namespace Py
open PySem L2
theorem factsL {P : Program} {w : World} {K : PySem.W.Frag} {h : Heap} {mg : Str -> Option Value} {f : Addr} (X : K.In h) (G : h.Ns mainGlobals mg) (hfa : mg ("law" : Str) = some (.ref f)) (c : SaysX faL fnL K) (hPf : ((P.main.file : Str) == fileL) = true) (hPs : (P.main.scope.names.lookup ("super" : Str)).isSome = false) :
    ∃ fd : FuncData, (∀ (s : Shared) (v : Value), BindsTo s fd ⟨[v], []⟩ [("_law_script", v)]) /\ ∀ base : Heap, K.In base -> base.Ns mainGlobals mg -> FnOk P w K mg base CX0 24 f fd A_law (spL K) := by
  let W : Wd TT := fLaw TT P w K clsL fldL fldL_ok subT (fun _ _ => rfl) xL xsubT (fun _ _ => rfl) (c.fact 39 (f := fXm xL xsubT) rfl) (c.fact 40 (f := fXv xL) rfl) (c.fact 41 (f := fXc xL) rfl) (c.fact 32 (f := fCls clsL) rfl) (c.fact 33 (f := fNoat clsL fldL) rfl) (c.fact 34 (f := fIsT clsL) rfl) (c.fact 35 (f := fTO clsL) rfl) (c.fact 36 (f := fOT clsL) rfl) (c.fact 37 (f := fOO clsL subT) rfl)
  have D_choose_kept : DefAt K mg "choose_kept" "choose_kept" s_choose_kept [] [] := by
    obtain ⟨fd, F⟩ := c.def_ 0 (d := dd_choose_kept) rfl
    exact ⟨_, fd, F, He.glo_ok X G (c.fact 0 (f := fGlo "choose_kept") rfl)⟩
  have D_meetings : DefAt K mg "meetings" "meetings" s_meetings [] [] := by
    obtain ⟨fd, F⟩ := c.def_ 1 (d := dd_meetings) rfl
    exact ⟨_, fd, F, He.glo_ok X G (c.fact 1 (f := fGlo "meetings") rfl)⟩
  have D_with_marks : DefAt K mg "with_marks" "with_marks" s_with_marks [] [] := by
    obtain ⟨fd, F⟩ := c.def_ 2 (d := dd_with_marks) rfl
    exact ⟨_, fd, F, He.glo_ok X G (c.fact 2 (f := fGlo "with_marks") rfl)⟩
  have D_is_finished : DefAt K mg "is_finished" "is_finished" s_is_finished [] [] := by
    obtain ⟨fd, F⟩ := c.def_ 3 (d := dd_is_finished) rfl
    exact ⟨_, fd, F, He.glo_ok X G (c.fact 3 (f := fGlo "is_finished") rfl)⟩
  have D_make_pass : DefAt K mg "make_pass" "make_pass" s_make_pass [] [] := by
    obtain ⟨fd, F⟩ := c.def_ 4 (d := dd_make_pass) rfl
    exact ⟨_, fd, F, He.glo_ok X G (c.fact 4 (f := fGlo "make_pass") rfl)⟩
  have D_is_integer : DefAt K mg "is_integer" "is_integer" s_is_integer [] [] := by
    obtain ⟨fd, F⟩ := c.def_ 5 (d := dd_is_integer) rfl
    exact ⟨_, fd, F, He.glo_ok X G (c.fact 5 (f := fGlo "is_integer") rfl)⟩
  have D_law_draws : DefAt K mg "_law_draws" "_law_draws" s_law_draws [] [] := by
    obtain ⟨fd, F⟩ := c.def_ 6 (d := dd_law_draws) rfl
    exact ⟨_, fd, F, He.glo_ok X G (c.fact 6 (f := fGlo "_law_draws") rfl)⟩
  have D_law_records : DefAt K mg "_law_records" "_law_records" s_law_records [] [] := by
    obtain ⟨fd, F⟩ := c.def_ 7 (d := dd_law_records) rfl
    exact ⟨_, fd, F, He.glo_ok X G (c.fact 7 (f := fGlo "_law_records") rfl)⟩
  have D_law_fields : DefAt K mg "_law_fields" "_law_fields" s_law_fields [] [] := by
    obtain ⟨fd, F⟩ := c.def_ 8 (d := dd_law_fields) rfl
    exact ⟨_, fd, F, He.glo_ok X G (c.fact 8 (f := fGlo "_law_fields") rfl)⟩
  have B : Blt mg := ⟨He.free_ok X G (c.fact 10 (f := fFree "len") rfl), He.free_ok X G (c.fact 11 (f := fFree "range") rfl), He.free_ok X G (c.fact 12 (f := fFree "abs") rfl), He.free_ok X G (c.fact 13 (f := fFree "int") rfl), He.free_ok X G (c.fact 14 (f := fFree "bool") rfl), He.free_ok X G (c.fact 15 (f := fFree "str") rfl), He.free_ok X G (c.fact 16 (f := fFree "list") rfl), He.free_ok X G (c.fact 17 (f := fFree "tuple") rfl), He.free_ok X G (c.fact 18 (f := fFree "isinstance") rfl), He.free_ok X G (c.fact 19 (f := fFree "sorted") rfl), He.free_ok X G (c.fact 20 (f := fFree "enumerate") rfl), He.free_ok X G (c.fact 21 (f := fFree "zip") rfl), He.free_ok X G (c.fact 22 (f := fFree "sum") rfl), He.free_ok X G (c.fact 23 (f := fFree "any") rfl), He.free_ok X G (c.fact 24 (f := fFree "all") rfl), He.free_ok X G (c.fact 25 (f := fFree "max") rfl), He.free_ok X G (c.fact 26 (f := fFree "min") rfl), He.free_ok X G (c.fact 27 (f := fFree "dict") rfl), He.free_ok X G (c.fact 28 (f := fFree "set") rfl), He.free_ok X G (c.fact 29 (f := fFree "type") rfl), He.free_ok X G (c.fact 30 (f := fFree "iter") rfl), He.free_ok X G (c.fact 31 (f := fFree "super") rfl)⟩
  have C : Cs W mg := ⟨fun c h => h,
    fDun_ok (fun c h => h) (fun c => rfl) (c.fact 38 (f := fDun clsL) rfl),
    (by simp [W, fLaw, clsL]),
    He.glo_ok X G (c.fact 42 (f := fGlo "Keeper") rfl),
    (let ⟨fd, F⟩ := c.def_ 10 (d := de_Keeper___init__) rfl; ⟨_, fd, F, He.meth_ok (c.fact 43 (f := fMeth "Keeper" "__init__") rfl)⟩),
    (let ⟨fd, F⟩ := c.def_ 11 (d := de_Keeper___len__) rfl; ⟨_, fd, F, He.meth_ok (c.fact 44 (f := fMeth "Keeper" "__len__") rfl)⟩),
    (let ⟨fd, F⟩ := c.def_ 12 (d := de_Keeper_offer) rfl; ⟨_, fd, F, He.meth_ok (c.fact 45 (f := fMeth "Keeper" "offer") rfl)⟩),
    (let ⟨fd, F⟩ := c.def_ 13 (d := de_Keeper__hold) rfl; ⟨_, fd, F, He.meth_ok (c.fact 46 (f := fMeth "Keeper" "_hold") rfl)⟩),
    (let ⟨fd, F⟩ := c.def_ 14 (d := de_Keeper_held) rfl; ⟨_, fd, F, He.meth_ok (c.fact 47 (f := fMeth "Keeper" "held") rfl)⟩),
    (let ⟨fd, F⟩ := c.def_ 15 (d := de_Keeper_least_back) rfl; ⟨_, fd, F, He.meth_ok (c.fact 48 (f := fMeth "Keeper" "least_back") rfl)⟩),
    ⟨_, He.mkr_ok (c.fact 49 (f := fMkr "Keeper") rfl)⟩,
    (by simp [W, fLaw, clsL]),
    He.glo_ok X G (c.fact 50 (f := fGlo "Pass") rfl),
    (let ⟨fd, F⟩ := c.def_ 16 (d := de_Pass___init__) rfl; ⟨_, fd, F, He.meth_ok (c.fact 51 (f := fMeth "Pass" "__init__") rfl)⟩),
    ⟨_, He.mkr_ok (c.fact 52 (f := fMkr "Pass") rfl)⟩,
    (by simp [W, fLaw, clsL]),
    He.glo_ok X G (c.fact 53 (f := fGlo "Plan") rfl),
    (let ⟨fd, F⟩ := c.def_ 17 (d := de_Plan___init__) rfl; ⟨_, fd, F, He.meth_ok (c.fact 54 (f := fMeth "Plan" "__init__") rfl)⟩),
    (let ⟨fd, F⟩ := c.def_ 18 (d := de_Plan_build_side) rfl; ⟨_, fd, F, He.meth_ok (c.fact 55 (f := fMeth "Plan" "build_side") rfl)⟩),
    ⟨_, He.mkr_ok (c.fact 56 (f := fMkr "Plan") rfl)⟩,
    He.int_ok X G (c.fact 57 (f := fInt "MOST_ROOM" 100) rfl),
    He.int_ok X G (c.fact 58 (f := fInt "DEEPEST_KEEP" 8) rfl)⟩
  obtain ⟨fdL, FL⟩ := c.def_ 9 (d := dd_law) rfl
  have e := hfa.symm.trans (He.glo_ok X G (c.fact 9 (f := fGlo "law") rfl))
  cases e
  have b := FunD.bindsA (ps := A_law) FL bp_law
  refine ⟨fdL, fun s v => b s [v] rfl, fun base _ _ => ?_⟩
  exact ok_law (W := W) (ds_all (W := W) (base := base) D_choose_kept D_meetings D_with_marks D_is_finished D_make_pass D_is_integer D_law_draws D_law_records D_law_fields C B 5) C FL B (spL_spR (W := W) (law_true W))
end Py
open PySem PySem.W PySem.Calls PyProof.Rows
theorem PySem.Challenge.cw_anyhashes_k31_pass_any_record_order_holds : PySem.Challenge.rw_anyhashes_k31_pass_any_record_order.Holds :=
  Py.headL Py.factsL
