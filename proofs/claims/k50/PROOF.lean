import PyProof.Rows.All
import HandS.HeadHook2
import HandS.Head0
import HandS.Head1
import HandS.Head2
import HandS.HeadEnd
import HandS.HeadHook1
import HandS.HeadNt
import Wide.All
import OpenK.AllK
import Wide.FinOn
import KE.KFromBytes
import KE.KSuper
import KE.KExcSuper
import KE.KExcIs
import HandS.ForMost
import HandS.Exc
import HandS.ExcOwn
import HandS.ExcSuper
import HandS.TryOnly
import HandS.TryMany
import HandS.CallSlots
import HandS.ExcIs
import KE.KDictKeyed
import HandS.IsInst
import HandS.Wide
import HandS.Defaults
import HandS.Zip
import HandS.More
import KE.SortData
import HandS.Property
import HandS.MakeKwOnly
import HandS.SortKw
import HandS.IterVal
import HandS.OwnIter
import HandS.OwnEq
import KE.DataMinMax
import KE.KTupSum
import HandS.Deep
import HandS.Dict
import HandS.DictComp
import HandS.NoneIn
import HandS.SetKeys
import HandS.Iter
import HandS.SetFor
import HandS.Strs
import PyProof.Rows.SetFrom
import HandS.ExcField
import KE.GoesMore
import PyProof.Draws
import HandS.Conv
import HandS.TupLen
import KE.KWithOwn
import HandS.GenList
import HandS.GenYield
import HandS.TupAny
import HandS.Style
import HandS.ClsMeth
import HandS.Nested
import HandS.New0
import KE.GoesComp
import KE.GoesRaise
import HandS.GenOver
import PyProof.GenRules
import PyProof.Rows.Range3
import PySem.Challenge.RW_anyhashes_k50_counts_of_two_keys
set_option Elab.async false
set_option linter.all false
set_option maxRecDepth 100000
set_option maxHeartbeats 8000000
namespace Py
open PySem L2
inductive D where
  | non | bl (b : Bool) | int (i : Int) | str (x : String) | cls (c : String) | sei (xs : List Int)
  | scr (ns : List Int) | tup (xs : List D) | lst (xs : List D) | dic (ks : List Key) (xs : List D) | dit (ks : List (List Key)) (xs : List D) | dig (ks : List NestedKey) (xs : List D) | ins (c : String) (ns : List String) (xs : List D)
  | olst (xs : List D) | odic (ks : List Key) (xs : List D) | odit (ks : List (List Key)) (xs : List D) | odig (ks : List NestedKey) (xs : List D) | oins (c : String) (ns : List String) (xs : List D)
abbrev so : String -> Str := Str.ofString
abbrev FB := PySem.W.Frag -> Bool
abbrev ga (K : PySem.W.Frag) (c : String) : Addr := He.ga K (so c)
abbrev ma (K : PySem.W.Frag) (c m : String) : Addr := He.ma K (ga K c) (so m)
def pa (K : PySem.W.Frag) (c f : String) : Addr := match PySem.W.findIn K (.ref (ga K c)) (so f) with
  | some (some (.ref p)) => (match PySem.W.recIn K p "property" with
    | some (.ref g :: _) => g
    | _ => 0)
  | _ => 0
def pr (K : PySem.W.Frag) (c f : String) : Addr := match PySem.W.findIn K (.ref (ga K c)) (so f) with
  | some (some (.ref p)) => p
  | _ => 0
structure DefX where
  ad : PySem.W.Frag -> Addr
  name : Str
  qual : Str
  st : Stmt
  dfl : List He.Dv := []
  kwd : List (Str × He.Dv) := []
  /-- an __init__ that says super() -/
  cl : Bool := false
def fnX (K : PySem.W.Frag) (a : Addr) : He.FnW := match K.lookup a with
  | some ⟨_, _, .func fd, _⟩ => some (fd.name, fd.qualname, fd.params, fd.body, fd.scope, fd.globals, fd.closure, fd.builtins)
  | _ => none
def fnXc (K : PySem.W.Frag) (a : Addr) : He.FnW := match K.lookup a with
  | some ⟨_, _, .func fd, _⟩ => some (fd.name, fd.qualname, fd.params, fd.body, fd.scope, fd.globals, fd.closure.map fun p => (p.1, 0), fd.builtins)
  | _ => none
def fnXd (K : PySem.W.Frag) (d : DefX) : He.FnW := match d.cl with
  | true => fnXc K (d.ad K)
  | false => fnX K (d.ad K)
def DefX.val (d : DefX) : He.FnW := some (d.name, d.qual, defArgs d.st, .stmts (defBody d.st), defScope d.st, mainGlobals, (match d.cl with | true => [(("__class__" : Str), 0)] | false => []), builtinsNs)
def DefX.dvs (K : PySem.W.Frag) (d : DefX) : List V := d.dfl.map (He.Dv.v K)
def DefX.kws (K : PySem.W.Frag) (d : DefX) : List (Str × V) := d.kwd.map fun q => (q.1, q.2.v K)
def DefX.ok (K : PySem.W.Frag) (d : DefX) : Bool := PySem.W.keepIn K (.ref (d.ad K)) && (match K.lookup (d.ad K) with
  | some ⟨_, _, .func fd, _⟩ => PySem.W.codeIn K fd.code d.qual && (He.dflB K fd.defaults (d.dvs K) && He.kwdB K fd.kwdefaults (d.kws K))
  | _ => false)
def obsX (fa : List FB) (fn : List DefX) (K : PySem.W.Frag) : He.AlD := ((fa.all fun f => f K) && fn.all fun d => d.ok K, fn.map fun d => fnXd K d)
def valX (fn : List DefX) : He.AlD := (true, fn.map DefX.val)
def SaysX (fa : List FB) (fn : List DefX) (K : PySem.W.Frag) : Prop := obsX fa fn K = valX fn
def refsN (o : Obj) : List Addr := match o.data with
  | .cls cd => [cd.ns]
  | .func fd => He.refV fd.code ++ (He.refV fd.kwdefaults ++ fd.closure.map (·.2))
  | .dict es _ => es.toList.flatMap fun e => He.refV e.val
  | _ => []
def refsP (o : Obj) : List Addr := match o.data with
  | .fields vs => vs.toList.flatMap He.refV
  | _ => []
def isFnO (o : Obj) : Bool := match o.data with
  | .func _ => true
  | _ => false
def isClsO (o : Obj) : Bool := match o.data with
  | .cls _ => true
  | _ => false
def isFldO (o : Obj) : Bool := match o.data with
  | .fields _ => true
  | _ => false
def outG (g : Addr -> Option Obj) (p : Obj -> Bool) (f : Obj -> List Addr) (as : List Addr) : List Addr := as.flatMap fun a => match g a with
  | some o => (match p o with
    | true => f o
    | false => [])
  | none => []
def asN (g : Addr -> Option Obj) : List Addr :=
  let l1 := outG g (fun _ => true) refsN [mainGlobals]
  let c := outG g isClsO refsN l1
  let m := outG g (fun _ => true) refsN c
  let p := outG g isFldO refsP m
  mainGlobals :: (c ++ (l1 ++ (m ++ (outG g isFnO refsN m ++ (outG g isFnO refsN l1 ++ (p ++ outG g isFnO refsN p))))))
def obsXG (n : Nat) (fa : List FB) (fn : List DefX) (g : Addr -> Option Obj) : He.AlD := obsX fa fn (He.frG g (match n with
  | 0 => PySem.cStatics :: asN g
  | n => PySem.cStatics :: He.asD g n))
def hookX (n : Nat) (fa : List FB) (fn : List DefX) : PySem.W.Hook where
  α := He.AlD
  obs := fun s => obsXG n fa fn s.heap.get?
  val := fun _ => valX fn
  says := fun _ h => ∃ K : PySem.W.Frag, K.In h /\ SaysX fa fn K
  of := fun _ _ e => ⟨_, He.frG_in, e⟩
  keeps := fun _ _ _ ⟨K, hK, c⟩ k => ⟨K, PySem.W.Frag.In.keeps hK k, c⟩
def fXm (cs : List String) (sub : String -> String -> Bool) : FB := fun K => cs.all fun c => cs.all fun d => decide (PySem.W.exmOne K (.ref (ga K c)) (.ref (ga K d)) = some (sub c d)) && decide (PySem.W.kitOne K (.ref (ga K c)) (.ref (ga K d)) = some (sub c d))
def fXc (cs : List String) : FB := fun K => cs.all fun c => decide (PySem.W.findIn K (.ref (ga K c)) "__getattribute__" = some (some (.builtin "BaseException.__getattribute__"))) && (decide (PySem.W.findIn K (.ref (ga K c)) "__getattr__" = some none) && (decide (PySem.W.subIn K (.ref (ga K c)) (.type "BaseException") = some true) &&
  (PySem.W.hasDictIn K (ga K c) && (decide (PySem.W.findIn K (.ref (ga K c)) "__class__" = some (some (.builtin "object.__class__"))) && (decide (PySem.W.specialIn K (.builtin "object.__class__") "__get__" = some (some (.builtin "getset_descriptor.__get__"))) &&
  (decide (PySem.W.takesIn K (.builtin "object.__class__") = some true) && decide (PySem.W.mroIn K (ga K c) (.type "object") = some true)))))))
def fXv (cs : List String) : FB := fun K => cs.all fun c => decide (PySem.W.kitOne K (.ref (ga K c)) (.type "ValueError") = some true)
def fGlo (x : String) : FB := fun K => (He.Fa.glo (so x)).ok K
def fInt (x : String) (i : Int) : FB := fun K => (He.Fa.int (so x) i).ok K
def fFree (x : String) : FB := fun K => (He.Fa.free (so x)).ok K
def fCls (cs : List String) : FB := fun K => cs.all fun c => (He.Fa.cls (so c)).ok K
def fNoat (cs : List String) (fl : String -> List String) : FB := fun K => cs.all fun c => (fl c).all fun f => (He.Fa.noat (so c) (so f)).ok K
def fIsT (cs : List String) : FB := fun K => cs.all fun c => decide (PySem.W.findIn K (.ref (ga K c)) "__class__" = some (some (.builtin "object.__class__"))) && (decide (PySem.W.specialIn K (.builtin "object.__class__") "__get__" = some (some (.builtin "getset_descriptor.__get__"))) &&
  (decide (PySem.W.takesIn K (.builtin "object.__class__") = some true) && decide (PySem.W.mroIn K (ga K c) (.type "object") = some true)))
def tyTO : List String := ["NoneType", "bool", "int", "str", "list", "tuple", "dict"]
def tyOT : List String := ["int", "bool", "str", "list", "tuple", "dict"]
def fTO (cs : List String) : FB := fun K => tyTO.all fun t => cs.all fun c => decide (PySem.W.kitOne K (.type t) (.ref (ga K c)) = some false)
def fOT (cs : List String) : FB := fun K => cs.all fun c => tyOT.all fun t => decide (PySem.W.kitOne K (.ref (ga K c)) (.type t) = some false)
def fOO (cs : List String) (sub : String -> String -> Bool) : FB := fun K => cs.all fun c => cs.all fun d => decide (PySem.W.kitOne K (.ref (ga K c)) (.ref (ga K d)) = some (sub c d))
def fMeth (c m : String) : FB := fun K => (He.Fa.meth (so c) (so m)).ok K
def fMkr (c : String) : FB := fun K => (He.Fa.mkr (so c)).ok K
def fPr (c f : String) : FB := fun K => decide (PySem.W.findIn K (.ref (ga K c)) (so f) = some (some (.ref (pr K c f)))) && (decide (PySem.W.specialIn K (.ref (pr K c f)) "__get__" = some (some (.builtin "property.__get__"))) && (decide (PySem.W.takesIn K (.ref (pr K c f)) = some true) &&
  (match PySem.W.recIn K (pr K c f) "property" with
    | some (.ref g :: _) => decide (g = pa K c f)
    | _ => false)))
def fDun (cs : List String) : FB := fun K => cs.all fun c => PySem.W.selfFirst K (ga K c) && ((["NoneType", "bool", "int", "str", "list", "tuple", "dict"].all fun t => PySem.W.notFirst K (ga K c) (.type t)) && (match PySem.W.findIn K (.ref (ga K c)) (so "__getitem__") with
  | some (some (.ref f)) => PySem.W.fnIn K f
  | _ => true))
def clsL : List String := ["Counts", "HashFunction", "Family", "Plan"]
def fldL (c : String) : List String := if c = "Counts" then ["_rows"] else if c = "HashFunction" then ["fan_out", "other", "_parts"] else if c = "Family" then ["_functions"] else if c = "Plan" then ["room", "build", "keep_from"] else []
def resT (c m : String) : Option String := if c = "Counts" then (if m = "__len__" then some "Counts.__len__" else if m = "left_total" then some "Counts.left_total" else if m = "right_total" then some "Counts.right_total" else none) else if c = "HashFunction" then (if m = "__call__" then some "HashFunction.__call__" else if m = "part_of" then some "HashFunction.part_of" else none) else if c = "Family" then (if m = "__len__" then some "Family.__len__" else if m = "part_at" then some "Family.part_at" else none) else if c = "Plan" then (if m = "build_side" then some "Plan.build_side" else none) else none
def subT (c d : String) : Bool := if c = "Counts" then (["Counts"]).contains d else if c = "HashFunction" then (["HashFunction"]).contains d else if c = "Family" then (["Family"]).contains d else if c = "Plan" then (["Plan"]).contains d else false
def xL : List String := []
def xsubT (c d : String) : Bool :=  false
def top (i : Nat) : Stmt := PySem.Challenge.pw_anyhashes_k50_counts_of_two_keys.main.body.getD i (.Pass ⟨0, 0, 0, 0⟩)
def inClass (s : Stmt) (j : Nat) : Stmt := match s with
  | .ClassDef _ _ _ body _ _ _ _ _ _ _ => body.getD j (.Pass ⟨0, 0, 0, 0⟩)
  | s => s
abbrev s_is_integer : Stmt := top 9
abbrev s_is_triple : Stmt := top 11
abbrev s_counted_pass : Stmt := top 14
abbrev s_split_counts : Stmt := top 15
abbrev s_counted_passes : Stmt := top 16
abbrev s_rows_in : Stmt := top 17
abbrev s_writes_by_counts : Stmt := top 18
abbrev s_law_draws : Stmt := top 31
abbrev s_Counts___init__ : Stmt := inClass (top 12) 0
abbrev s_Counts___len__ : Stmt := inClass (top 12) 1
abbrev s_Counts_left_total : Stmt := inClass (top 12) 6
abbrev s_Counts_right_total : Stmt := inClass (top 12) 7
abbrev s_HashFunction___init__ : Stmt := inClass (top 21) 0
abbrev s_HashFunction___call__ : Stmt := inClass (top 21) 1
abbrev s_HashFunction_part_of : Stmt := inClass (top 21) 2
abbrev s_Family___init__ : Stmt := inClass (top 24) 0
abbrev s_Family___len__ : Stmt := inClass (top 24) 1
abbrev s_Family_part_at : Stmt := inClass (top 24) 6
abbrev s_Plan___init__ : Stmt := inClass (top 29) 0
abbrev s_Plan_build_side : Stmt := inClass (top 29) 2
abbrev s_Counts___iter__ : Stmt := inClass (top 12) 2
abbrev s_Family___iter__ : Stmt := inClass (top 24) 2
abbrev s_law : Stmt := top 32
def dd_is_integer : DefX := ⟨fun K => ga K "is_integer", "is_integer", "is_integer", s_is_integer, [], [], false⟩
def dd_is_triple : DefX := ⟨fun K => ga K "is_triple", "is_triple", "is_triple", s_is_triple, [], [], false⟩
def dd_counted_pass : DefX := ⟨fun K => ga K "counted_pass", "counted_pass", "counted_pass", s_counted_pass, [], [], false⟩
def dd_split_counts : DefX := ⟨fun K => ga K "split_counts", "split_counts", "split_counts", s_split_counts, [], [], false⟩
def dd_counted_passes : DefX := ⟨fun K => ga K "counted_passes", "counted_passes", "counted_passes", s_counted_passes, [], [], false⟩
def dd_rows_in : DefX := ⟨fun K => ga K "rows_in", "rows_in", "rows_in", s_rows_in, [], [], false⟩
def dd_writes_by_counts : DefX := ⟨fun K => ga K "writes_by_counts", "writes_by_counts", "writes_by_counts", s_writes_by_counts, [], [], false⟩
def dd_law_draws : DefX := ⟨fun K => ga K "_law_draws", "_law_draws", "_law_draws", s_law_draws, [], [], false⟩
def dd_law : DefX := ⟨fun K => ga K "law", "law", "law", s_law, [], [], false⟩
def de_Counts___init__ : DefX := ⟨fun K => ma K "Counts" "__init__", "__init__", "Counts.__init__", s_Counts___init__, [], [], false⟩
def de_Counts___len__ : DefX := ⟨fun K => ma K "Counts" "__len__", "__len__", "Counts.__len__", s_Counts___len__, [], [], false⟩
def de_Counts___iter__ : DefX := ⟨fun K => ma K "Counts" "__iter__", "__iter__", "Counts.__iter__", s_Counts___iter__, [], [], false⟩
def de_Counts_left_total : DefX := ⟨fun K => pa K "Counts" "left_total", "left_total", "Counts.left_total", s_Counts_left_total, [], [], false⟩
def de_Counts_right_total : DefX := ⟨fun K => pa K "Counts" "right_total", "right_total", "Counts.right_total", s_Counts_right_total, [], [], false⟩
def de_HashFunction___init__ : DefX := ⟨fun K => ma K "HashFunction" "__init__", "__init__", "HashFunction.__init__", s_HashFunction___init__, [], [("other", .int 0)], false⟩
def de_HashFunction___call__ : DefX := ⟨fun K => ma K "HashFunction" "__call__", "__call__", "HashFunction.__call__", s_HashFunction___call__, [], [], false⟩
def de_HashFunction_part_of : DefX := ⟨fun K => ma K "HashFunction" "part_of", "part_of", "HashFunction.part_of", s_HashFunction_part_of, [], [], false⟩
def de_Family___init__ : DefX := ⟨fun K => ma K "Family" "__init__", "__init__", "Family.__init__", s_Family___init__, [], [], false⟩
def de_Family___len__ : DefX := ⟨fun K => ma K "Family" "__len__", "__len__", "Family.__len__", s_Family___len__, [], [], false⟩
def de_Family___iter__ : DefX := ⟨fun K => ma K "Family" "__iter__", "__iter__", "Family.__iter__", s_Family___iter__, [], [], false⟩
def de_Family_part_at : DefX := ⟨fun K => ma K "Family" "part_at", "part_at", "Family.part_at", s_Family_part_at, [], [], false⟩
def de_Plan___init__ : DefX := ⟨fun K => ma K "Plan" "__init__", "__init__", "Plan.__init__", s_Plan___init__, [], [("build", .str (so "right")), ("keep_from", .int 0)], false⟩
def de_Plan_build_side : DefX := ⟨fun K => ma K "Plan" "build_side", "build_side", "Plan.build_side", s_Plan_build_side, [], [], false⟩
def fnL : List DefX := [dd_is_integer, dd_is_triple, dd_counted_pass, dd_split_counts, dd_counted_passes, dd_rows_in, dd_writes_by_counts, dd_law_draws, dd_law, de_Counts___init__, de_Counts___len__, de_Counts___iter__, de_Counts_left_total, de_Counts_right_total, de_HashFunction___init__, de_HashFunction___call__, de_HashFunction_part_of, de_Family___init__, de_Family___len__, de_Family___iter__, de_Family_part_at, de_Plan___init__, de_Plan_build_side]
def fileL : Str := PySem.Challenge.pw_anyhashes_k50_counts_of_two_keys.main.file
def faL : List FB := [fGlo "is_integer", fGlo "is_triple", fGlo "counted_pass", fGlo "split_counts", fGlo "counted_passes", fGlo "rows_in", fGlo "writes_by_counts", fGlo "_law_draws", fGlo "law", fFree "len", fFree "range", fFree "abs", fFree "int", fFree "bool", fFree "str", fFree "list", fFree "tuple", fFree "isinstance", fFree "sorted", fFree "enumerate", fFree "zip", fFree "sum", fFree "any", fFree "all", fFree "max", fFree "min", fFree "dict", fFree "set", fFree "type", fFree "iter", fFree "super", fCls clsL, fNoat clsL fldL, fIsT clsL, fTO clsL, fOT clsL, fOO clsL subT, fDun clsL, fXm xL xsubT, fXv xL, fXc xL, fGlo "Counts", fMeth "Counts" "__init__", fMeth "Counts" "__len__", fMeth "Counts" "__iter__", fPr "Counts" "left_total", fPr "Counts" "right_total", fMkr "Counts", fGlo "HashFunction", fMeth "HashFunction" "__init__", fMeth "HashFunction" "__call__", fMeth "HashFunction" "part_of", fMkr "HashFunction", fGlo "Family", fMeth "Family" "__init__", fMeth "Family" "__len__", fMeth "Family" "__iter__", fMeth "Family" "part_at", fMkr "Family", fGlo "Plan", fMeth "Plan" "__init__", fMeth "Plan" "build_side", fMkr "Plan", fInt "WIDEST" 64, fInt "MOST_LEVELS" 4, fInt "MOST_ROOM" 100, fInt "DEEPEST_KEEP" 8]
def nmL : List Str := (["_wall", "JoinError", "BadPlan", "BadFunction", "BadPart", "BadCounts", "TooMany", "is_integer", "is_triple", "Counts", "counted_pass", "split_counts", "counted_passes", "rows_in", "writes_by_counts", "WIDEST", "HashFunction", "MOST_LEVELS", "Family", "side_by_side", "MOST_ROOM", "DEEPEST_KEEP", "Plan", "_law_draws"] : List Str)
abbrev lawAt : Nat := 32
theorem obsXG_eq {n : Nat} {fa : List FB} {fn : List DefX} {g : Addr -> Option Obj} {s : Shared} (h : ∀ a, g a = s.heap.get? a) : obsXG n fa fn g = (hookX n fa fn).obs s := by
  have e : g = s.heap.get? := funext h
  rw [e] <;> rfl
abbrev RowL : PySem.W.OpenRow := PySem.W.OpenLaw.row PySem.Challenge.rw_anyhashes_k50_counts_of_two_keys
abbrev hkL : PySem.W.Hook := hookX 0 faL fnL
def obL (s : PySem.W.SharedT) : He.AlD := obsXG 0 faL fnL (HandSHeadRun.getT s)
theorem obL_eq (s : PySem.W.SharedT) : obL s = hkL.obs s.abs := obsXG_eq (HandSHeadRun.getT_eq s)
theorem runL (w : World) : HandSHeadRun.RunEq RowL (PySem.W.view RowL.prog [lawAt]) hkL obL 12000 nmL w := by
  intro os
  kernel_rfl
end Py
namespace PySem
namespace PxE
open PySem.W PySem.Calls PyProof.Rows PySem.HandSPX
abbrev selfN : Str := "self"
inductive IsAsgs : List Stmt -> List Str -> Prop
  | nil : IsAsgs [] []
  | cons {f : Str} {p1 p2 p3 p4 : Pos} {r : List Stmt} {fs : List Str} : IsAsgs r fs -> IsAsgs (.Assign [.Attribute (.Name "self" p1) f p2] (.Name f p3) p4 :: r) (f :: fs)
def IsSup (qual : Str) (scope : Scope) (msg : Str) (s : Stmt) : Prop := ∃ (p0 p1 p2 p3 p4 p5 : Pos) (k : Nat), s = .Expr (.Call (.Attribute (.Call (.Name "super" p0) [] [] p1) "__init__" p2) [.Constant (.str msg) k p3] [] p4) p5 /\
  ∀ (L a : Addr) (cd : Value) (cc : Addr), ∃ pl : PySem.Sem Bool, eval (.Call (.Attribute (.Call (.Name "super" p0) [] [] p1) "__init__" p2) [.Constant (.str msg) k p3] [] p4) (ksEnv qual scope L a cd cc) = (do
      let ov <- attributeBase (.Call (.Name "super" p0) [] [] p1) "__init__" (ksEnv qual scope L a cd cc) (eval (.Call (.Name "super" p0) [] [] p1) (ksEnv qual scope L a cd cc))
      standAt p2.atName
      let (f, first) <- holding [ov] (getMethod ov "__init__" pl)
      callWith p4 f first (backTo p4 (starEach [.Constant (.str msg) k p3] (ksEnv qual scope L a cd cc))) [])
structure ExTxt (P : Program) (K : Frag) (C fI : Addr) (qual : Str) (params : Arguments) (body : List Stmt) (scope : Scope) (fs : List Str) : Prop where
  cls : excInitIn K C veTail "ValueError.__new__" = true
  cdt : ∃ cd, clsIn K C = some cd /\ refsVE cd.mro = true /\ cd.hasDict = true
  sa : findIn K (.ref C) "__setattr__" = some (some (.builtin "object.__setattr__"))
  noN : ∀ f ∈ fs, findIn K (.ref C) f = some none
  iC : findIn K (.ref C) "__init__" = some (some (.ref fI))
  tC : typeIn K (.ref fI) = some (.type "function")
  exC : subIn K (.ref C) (.type "BaseException") = some true
  veC : subIn K (.ref C) (.type "ValueError") = some true
  tyC : typeIn K (.ref C) = some (.type "type")
  opq : nsIn K cStatics "thirdparty.any" = some none
  sup : ks_superIn K C C "__init__" = some (some (.builtin "ValueError.__init__"))
  slf : mroIn K C (.ref C) = some true
  fn : ∃ (oc : Value) (od : Option Addr) (doc pm : Value) (an : Option Addr) (ct : Value) (osl : Array (Option Value)) (cda cc : Addr) (ccl : Value) (cdd : Option Addr) (vs : Array Value) (ccs : Array (Option Value)) (file : Str) (tf : Tok) (cl : Value) (cld : Option Addr) (csl : Array (Option Value)),
    K.lookup fI = some ⟨oc, od, .func (ksFn "__init__" qual params body scope .none .none doc pm an (.ref cda) ct cc), osl⟩ /\ codeIn K (.ref cda) qual = true /\ K.lookup cda = some ⟨ccl, cdd, .fields vs, ccs⟩ /\ vs[2]? = some (.str file tf) /\ ((P.main.file : Str) == file) = true /\
      K.lookup cc = some ⟨cl, cld, .cell (some (.ref C)), csl⟩
section
open Builtin Builtin.ObjectAttr
variable {prog : Program} {w : World} {A : Around} {E : Value -> Shared -> Prop} {R : Result -> Shared -> Prop} {hp : Heap} {g : Array GenState} {d : Drawn} {t : Nat} {os : OsState}
end
structure Stored (h h' : Heap) (x C dx : Addr) (t1 : Addr) (m : Str -> Option Value) : Prop where
  keep : ∀ b o, b ≠ x -> b ≠ dx -> h.get? b = some o -> h'.get? b = some o
  obj : h'.get? x = some { cls := .ref C, dict := some dx, data := .fields #[.ref t1, .none, .none, .none, .bool false, .none] }
  ns : h'.Ns1 dx m
section
variable {prog : Program} {w : World} {A : Around} {E : Value -> Shared -> Prop} {K : Frag} {C : Addr}
structure OwnMade (h h' : Heap) (e C d : Addr) (m : Str -> Option Value) : Prop where
  keep : ∀ b o, h.get? b = some o -> h'.get? b = some o
  new : h.objs.size <= e
  obj : ∃ oe vs, h'.get? e = some oe /\ oe.cls = .ref C /\ oe.dict = some d /\ oe.data = .fields vs /\ vs[1]? = some .none
  dbig : h.objs.size <= d
  dne : d ≠ e
  ns : h'.Ns1 d m
structure InitEnd (h h' : Heap) (x C dx t1 : Addr) (m : Str -> Option Value) : Prop where
  keep : ∀ b o, b ≠ x -> h.get? b = some o -> h'.get? b = some o
  obj : h'.get? x = some { cls := .ref C, dict := some dx, data := .fields #[.ref t1, .none, .none, .none, .bool false, .none] }
  dbig : h.objs.size <= dx
  dne : dx ≠ x
  ns : h'.Ns1 dx m
end
end PxE
end PySem
namespace L2
open PySem PySem.Spec PyProof.Rows PySem.PxE
structure ExcD (P : Program) (K : PySem.W.Frag) (mg : Str -> Option Value) (x : Str) (C : Addr) (fs : List Str) : Prop where
  ex : ∃ (fI : Addr) (qual : Str) (params : Arguments) (body : List Stmt) (scope : Scope), ExTxt P K C fI qual params body scope fs /\ (∃ b0 ss msg, body = b0 :: ss /\ IsSup qual scope msg b0 /\ IsAsgs ss fs) /\
    (∃ ar : Arg, (params.posonlyargs ++ params.args).head? = some ar /\ ar.arg = selfN) /\
    (∀ f ∈ selfN :: fs, scope.names.lookup f = some .local /\ (f == ("__debug__" : Str)) = false) /\ scope.names.lookup ("super" : Str) = some .globalImplicit /\ scope.names.lookup ("__class__" : Str) = some .free /\
    (∀ x ∈ scope.names, x.2 ≠ .cell) /\ scope.isCoroutine = false /\ scope.isGenerator = false /\ scope.kind = .function /\
    (∀ (us : List Value), us.length = fs.length -> ∀ (x : Addr) (doc pm : Value) (an : Option Addr) (cdv ct : Value) (cc : Addr), bindArgs (PySem.W.ksFn "__init__" qual params body scope .none .none doc pm an cdv ct cc) ⟨.ref x :: us, []⟩ = pure ((selfN, .ref x) :: fs.zip us))
  nf : fs ≠ [] /\ fs.Nodup /\ fs.length <= 1000 /\ selfN ∉ fs
  top : (P.main.scope.names.lookup ("super" : Str)).isSome = false
  gC : mg x = some (.ref C)
  gs : mg "super" = none
  kC : PySem.W.keepIn K (.ref C) = true
section
variable {X : Cx} {C : Addr} {fs : List Str} {x : Str}
end
end L2
namespace Py
open PySem L2
theorem so_inj {x y : String} (h : so x = so y) : x = y := by
  unfold so at h
  rw [Str.ofString_eq_toList, Str.ofString_eq_toList] at h
  injection h with h
  have h2 : x.toList.map Char.toNat = y.toList.map Char.toNat := by
    have := congrArg Array.toList h
    simpa using this
  have h3 : x.toList = y.toList := by
    have inj : ∀ a b : Char, a.toNat = b.toNat -> a = b := fun a b e => Char.ext (UInt32.toNat_inj.mp e)
    revert h2
    generalize x.toList = l
    generalize y.toList = r
    intro h2
    induction l generalizing r with
    | nil => cases r with
      | nil => rfl
      | cons b r => cases h2
    | cons a l ih => cases r with
      | nil => cases h2
      | cons b r =>
        rw [List.map_cons, List.map_cons] at h2
        injection h2 with e1 e2
        rw [inj _ _ e1, ih r e2]
  exact String.toList_inj.mp h3
structure Tbl where
  fOk : String -> String -> Bool
  con : String -> String -> Option D
  sub : String -> String -> Bool
  /-- the def that a class's name (a method, a getter) stands for -/
  res : String -> String -> Option String := fun _ _ => none
  /-- the field whose list a class's __iter__ walks -/
  it : String -> Option String := fun _ => none
  /-- of exception classes: who derives from whom -/
  xsub : String -> String -> Bool := fun _ _ => false
structure Wd (T : Tbl) where
  K : PySem.W.Frag
  P : Program
  w : World
  cA : String -> Addr
  has : String -> Prop
  cl : ∀ c, has c -> Cls K (cA c)
  na : ∀ c f, has c -> T.fOk c f = true -> NoAttr K (cA c) (so f)
  isT : ∀ c, has c -> PySem.W.findIn K (.ref (cA c)) "__class__" = some (some (.builtin "object.__class__")) /\
    PySem.W.specialIn K (.builtin "object.__class__") "__get__" = some (some (.builtin "getset_descriptor.__get__")) /\ PySem.W.takesIn K (.builtin "object.__class__") = some true /\ PySem.W.mroIn K (cA c) (.type "object") = some true
  isTO : ∀ t c, t ∈ ["NoneType", "bool", "int", "str", "list", "tuple", "dict"] -> has c -> PySem.W.kitOne K (.type t) (.ref (cA c)) = some false
  isOT : ∀ c t, has c -> t ∈ ["int", "bool", "str", "list", "tuple", "dict"] -> PySem.W.kitOne K (.ref (cA c)) (.type t) = some false
  isOO : ∀ c d, has c -> has d -> PySem.W.kitOne K (.ref (cA c)) (.ref (cA d)) = some (T.sub c d)
  /-- the exception classes -/
  hasX : String -> Prop
  xm : ∀ c d, hasX c -> hasX d -> PySem.W.exmOne K (.ref (cA c)) (.ref (cA d)) = some (T.xsub c d)
  xk : ∀ c d, hasX c -> hasX d -> PySem.W.kitOne K (.ref (cA c)) (.ref (cA d)) = some (T.xsub c d)
  xv : ∀ c, hasX c -> PySem.W.kitOne K (.ref (cA c)) (.type "ValueError") = some true
  xc : ∀ c, hasX c -> ExcC K (cA c)
def nkD : NestedKey -> D
  | .none => .non
  | .num i => .int i
  | .text x => .str (String.ofList (x.cps.toList.map Char.ofNat))
  | .tup ks => .tup (nkDs ks)
where nkDs : List NestedKey -> List D
  | [] => []
  | k :: ks => nkD k :: nkDs ks
def digP (P : Program) (w : World) (a : Addr) (ks : List NestedKey) (kas : List Addr) (vs : List V) : Heap -> Prop := fun h =>
  (a == sysModules) = false /\ ∃ us : List Value, Vals vs us /\ ks.length = kas.length /\ ks.length = us.length /\ us.length <= sizeLine /\
    ∃ o es ep, h.get? a = some o /\ o.ExactDict /\ o.data = .dict es ep /\ es.toList = (ks.zip (kas.zip us)).map (entryOfKey (nestedKind P w)) /\ ks.Nodup
section
variable {T : Tbl} (W : Wd T)
mutual
inductive Shr : Hp -> D -> V -> Prop
  | non {F} : Shr F .non .non
  | bl {F b} : Shr F (.bl b) (.bl b)
  | int {F i} : Shr F (.int i) (.int i)
  | str {F x} : Shr F (.str x) (.str (so x))
  | cls {F c} : W.has c -> Shr F (.cls c) (.ref (W.cA c))
  | sei {F a xs} : F a = some (.set (fun i => decide (i ∈ xs)) xs.length) -> xs.Pairwise (· < ·) -> Shr F (.sei xs) (.ref a)
  | scr {F a ns} : SqL W.K F a (ns.map V.int) -> Shr F (.scr ns) (.ref a)
  | tup {F a xs vs} : F a = some (.tup vs) -> Shrs F xs vs -> Shr F (.tup xs) (.ref a)
  | lst {F a xs vs} : F a = some (.lst vs) -> Shrs F xs vs -> Shr F (.lst xs) (.ref a)
  | dic {F a ks xs vs} : Rd F a (.dK (ks.zip vs)) -> ks.length = vs.length -> ks.Nodup -> Shrs F xs vs -> Shr F (.dic ks xs) (.ref a)
  | dit {F a ks xs vs} : Rd F a (.dT (ks.zip vs)) -> ks.length = vs.length -> ks.Nodup -> Shrs F xs vs -> Shr F (.dit ks xs) (.ref a)
  | dig {F a ks kas xs vs} : F a = some (.ext (digP W.P W.w a ks kas vs)) -> Shrs F (ks.map nkD) (kas.map V.ref) -> ks.length = vs.length -> Shrs F xs vs -> Shr F (.dig ks xs) (.ref a)
  | ins {F a c dx ns xs vs} : F a = some (.ins (W.cA c) dx ((ns.map so).zip vs)) -> W.has c -> ns.length = vs.length -> Shrs F xs vs -> Shr F (.ins c ns xs) (.ref a)
inductive Shrs : Hp -> List D -> List V -> Prop
  | nil {F} : Shrs F [] []
  | cons {F d v ds vs} : Shr F d v -> Shrs F ds vs -> Shrs F (d :: ds) (v :: vs)
end
mutual
inductive Own : Hp -> Hp -> D -> V -> List Addr -> Prop
  | sh {F H d v} : Shr W F d v -> Own F H d v []
  | olst {F H a xs vs L} : H a = some (.lst vs) -> Owns F H xs vs L -> Own F H (.olst xs) (.ref a) (a :: L)
  | odic {F H a ks xs vs L} : H a = some (.dK (ks.zip vs)) -> ks.length = vs.length -> ks.Nodup -> Owns F H xs vs L -> Own F H (.odic ks xs) (.ref a) (a :: L)
  | odit {F H a ks xs vs L} : H a = some (.dT (ks.zip vs)) -> ks.length = vs.length -> ks.Nodup -> Owns F H xs vs L -> Own F H (.odit ks xs) (.ref a) (a :: L)
  | odig {F H a ks kas xs vs L} : H a = some (.ext (digP W.P W.w a ks kas vs)) -> Shrs W F (ks.map nkD) (kas.map V.ref) -> ks.length = vs.length -> Owns F H xs vs L -> Own F H (.odig ks xs) (.ref a) (a :: L)
  | oins {F H a c dx ns xs vs L} : H a = some (.ins (W.cA c) dx ((ns.map so).zip vs)) -> W.has c -> ns.length = vs.length -> Owns F H xs vs L -> Own F H (.oins c ns xs) (.ref a) (a :: L)
inductive Owns : Hp -> Hp -> List D -> List V -> List Addr -> Prop
  | nil {F H} : Owns F H [] [] []
  | cons {F H d v ds vs L M} : Own F H d v L -> Owns F H ds vs M -> Owns F H (d :: ds) (v :: vs) (L ++ M)
end
end
section
variable {T : Tbl} {W : Wd T} {F F' H H' : Hp}
theorem rd_same {F F' : Hp} (e : Same F F') {a : Addr} {u : HO} (h : Rd F a u) : Rd F' a u := h.elim (fun h => .inl (e _ _ h)) fun ⟨o, h⟩ => .inr ⟨o, e _ _ h⟩
mutual
theorem Shr.mono {F F' : Hp} (e : Same F F') : ∀ {d : D} {v : V}, Shr W F d v -> Shr W F' d v
  | _, _, .non => .non
  | _, _, .bl => .bl
  | _, _, .int => .int
  | _, _, .str => .str
  | _, _, .cls h => .cls h
  | _, _, .sei h n => .sei (e _ _ h) n
  | _, _, .scr h => .scr (e.seq h)
  | _, _, .tup h hs => .tup (e _ _ h) (Shrs.mono e hs)
  | _, _, .lst h hs => .lst (e _ _ h) (Shrs.mono e hs)
  | _, _, .dic h l n hs => .dic (rd_same e h) l n (Shrs.mono e hs)
  | _, _, .dit h l n hs => .dit (rd_same e h) l n (Shrs.mono e hs)
  | _, _, .dig h k l hs => .dig (e _ _ h) (Shrs.mono e k) l (Shrs.mono e hs)
  | _, _, .ins h c l hs => .ins (e _ _ h) c l (Shrs.mono e hs)
theorem Shrs.mono {F F' : Hp} (e : Same F F') : ∀ {d : List D} {v : List V}, Shrs W F d v -> Shrs W F' d v
  | _, _, .nil => .nil
  | _, _, .cons h t => .cons (Shr.mono e h) (Shrs.mono e t)
end
theorem Shrs.length {F : Hp} : ∀ {ds : List D} {vs : List V}, Shrs W F ds vs -> ds.length = vs.length
  | _, _, .nil => rfl
  | _, _, .cons _ t => congrArg (· + 1) (Shrs.length t)
theorem Shrs.get {F : Hp} : ∀ {ds : List D} {vs : List V} {i : Nat} {d : D}, Shrs W F ds vs -> ds[i]? = some d -> ∃ v, vs[i]? = some v /\ Shr W F d v
  | _, _, _, _, .nil, e => by simp at e
  | _, _, 0, _, .cons h _, e => by simp at e; subst e; exact ⟨_, rfl, h⟩
  | _, _, i + 1, _, .cons _ t, e => Shrs.get (i := i) t (by simpa using e)
theorem Shrs.append {F : Hp} : ∀ {ds es : List D} {vs ws : List V}, Shrs W F ds vs -> Shrs W F es ws -> Shrs W F (ds ++ es) (vs ++ ws)
  | _, _, _, _, .nil, h => h
  | _, _, _, _, .cons h t, q => .cons h (Shrs.append t q)
mutual
theorem Own.frame {F F' H H' : Hp} (e : Same F F') : ∀ {d : D} {v : V} {L : List Addr}, (∀ a ∈ L, ∀ o, H a = some o -> H' a = some o) -> Own W F H d v L -> Own W F' H' d v L
  | _, _, _, _, .sh h => .sh (h.mono e)
  | _, _, _, k, .olst h t => .olst (k _ (List.mem_cons_self ..) _ h) (Owns.frame e (fun a m => k a (List.mem_cons_of_mem _ m)) t)
  | _, _, _, k, .odic h l n t => .odic (k _ (List.mem_cons_self ..) _ h) l n (Owns.frame e (fun a m => k a (List.mem_cons_of_mem _ m)) t)
  | _, _, _, k, .odit h l n t => .odit (k _ (List.mem_cons_self ..) _ h) l n (Owns.frame e (fun a m => k a (List.mem_cons_of_mem _ m)) t)
  | _, _, _, k, .odig h s l t => .odig (k _ (List.mem_cons_self ..) _ h) (s.mono e) l (Owns.frame e (fun a m => k a (List.mem_cons_of_mem _ m)) t)
  | _, _, _, k, .oins h c l t => .oins (k _ (List.mem_cons_self ..) _ h) c l (Owns.frame e (fun a m => k a (List.mem_cons_of_mem _ m)) t)
theorem Owns.frame {F F' H H' : Hp} (e : Same F F') : ∀ {d : List D} {v : List V} {L : List Addr}, (∀ a ∈ L, ∀ o, H a = some o -> H' a = some o) -> Owns W F H d v L -> Owns W F' H' d v L
  | _, _, _, _, .nil => .nil
  | _, _, _, k, .cons h t => .cons (Own.frame e (fun a m => k a (List.mem_append_left _ m)) h) (Owns.frame e (fun a m => k a (List.mem_append_right _ m)) t)
end
mutual
theorem Own.lives {F H : Hp} : ∀ {d : D} {v : V} {L : List Addr}, Own W F H d v L -> ∀ a ∈ L, ∃ o, H a = some o
  | _, _, _, .sh _, a, m => nomatch m
  | _, _, _, .olst h t, a, m => by
    rcases List.mem_cons.mp m with rfl | m
    · exact ⟨_, h⟩
    · exact Owns.lives t a m
  | _, _, _, .odic h _ _ t, a, m => by
    rcases List.mem_cons.mp m with rfl | m
    · exact ⟨_, h⟩
    · exact Owns.lives t a m
  | _, _, _, .odit h _ _ t, a, m => by
    rcases List.mem_cons.mp m with rfl | m
    · exact ⟨_, h⟩
    · exact Owns.lives t a m
  | _, _, _, .odig h _ _ t, a, m => by
    rcases List.mem_cons.mp m with rfl | m
    · exact ⟨_, h⟩
    · exact Owns.lives t a m
  | _, _, _, .oins h _ _ t, a, m => by
    rcases List.mem_cons.mp m with rfl | m
    · exact ⟨_, h⟩
    · exact Owns.lives t a m
theorem Owns.lives {F H : Hp} : ∀ {d : List D} {v : List V} {L : List Addr}, Owns W F H d v L -> ∀ a ∈ L, ∃ o, H a = some o
  | _, _, _, .nil, a, m => nomatch m
  | _, _, _, .cons h t, a, m => (List.mem_append.mp m).elim (fun m => Own.lives h a m) fun m => Owns.lives t a m
end
theorem Owns.length {F H : Hp} : ∀ {ds : List D} {vs : List V} {L : List Addr}, Owns W F H ds vs L -> ds.length = vs.length
  | _, _, _, .nil => rfl
  | _, _, _, .cons _ t => congrArg (· + 1) (Owns.length t)
mutual
def fz : D -> D
  | .olst xs => .lst (fzs xs)
  | .odic ks xs => .dic ks (fzs xs)
  | .odit ks xs => .dit ks (fzs xs)
  | .odig ks xs => .dig ks (fzs xs)
  | .oins C ns xs => .ins C ns (fzs xs)
  | d => d
def fzs : List D -> List D
  | [] => []
  | d :: ds => fz d :: fzs ds
end
theorem fzs_eq : ∀ ds : List D, fzs ds = ds.map fz
  | [] => by rw [fzs]; rfl
  | d :: ds => by rw [fzs, fzs_eq ds]; rfl
def isSh : D -> Bool
  | .olst _ => false
  | .odic _ _ => false
  | .odit _ _ => false
  | .odig _ _ => false
  | .oins _ _ _ => false
  | _ => true
theorem fz_isSh {d : D} (h : isSh d = true) : fz d = d := by
  cases d <;> first | (cases h; done) | simp [fz]
theorem fz_shr {F : Hp} {d : D} {v : V} (h : Shr W F d v) : fz d = d := by
  refine fz_isSh ?_
  cases h <;> rfl
theorem Shr.isSh {F : Hp} {d : D} {v : V} (h : Shr W F d v) : isSh d = true := by cases h <;> rfl
theorem Shrs.isSh {F : Hp} : ∀ {d : List D} {v : List V}, Shrs W F d v -> d.all Py.isSh = true
  | _, _, .nil => rfl
  | _, _, .cons h t => by rw [List.all_cons, h.isSh, t.isSh]; rfl
mutual
theorem Own.view {F H G : Hp} (e : Same F G) : ∀ {d : D} {v : V} {L : List Addr}, (∀ a ∈ L, ∀ o, H a = some o -> G a = some o) -> Own W F H d v L -> Shr W G (fz d) v
  | _, _, _, _, .sh h => by rw [fz_shr h]; exact h.mono e
  | _, _, _, k, .olst h t => by rw [fz]; exact .lst (k _ (List.mem_cons_self ..) _ h) (Owns.view e (fun a m => k a (List.mem_cons_of_mem _ m)) t)
  | _, _, _, k, .odic h l n t => by rw [fz]; exact .dic (.inl (k _ (List.mem_cons_self ..) _ h)) l n (Owns.view e (fun a m => k a (List.mem_cons_of_mem _ m)) t)
  | _, _, _, k, .odit h l n t => by rw [fz]; exact .dit (.inl (k _ (List.mem_cons_self ..) _ h)) l n (Owns.view e (fun a m => k a (List.mem_cons_of_mem _ m)) t)
  | _, _, _, k, .odig h s l t => by rw [fz]; exact .dig (k _ (List.mem_cons_self ..) _ h) (s.mono e) l (Owns.view e (fun a m => k a (List.mem_cons_of_mem _ m)) t)
  | _, _, _, k, .oins h c l t => by rw [fz]; exact .ins (k _ (List.mem_cons_self ..) _ h) c l (Owns.view e (fun a m => k a (List.mem_cons_of_mem _ m)) t)
theorem Owns.view {F H G : Hp} (e : Same F G) : ∀ {d : List D} {v : List V} {L : List Addr}, (∀ a ∈ L, ∀ o, H a = some o -> G a = some o) -> Owns W F H d v L -> Shrs W G (fzs d) v
  | _, _, _, _, .nil => by rw [fzs]; exact .nil
  | _, _, _, k, .cons h t => by rw [fzs]; exact .cons (Own.view e (fun a m => k a (List.mem_append_left _ m)) h) (Owns.view e (fun a m => k a (List.mem_append_right _ m)) t)
end
theorem Shrs.owns {F H : Hp} : ∀ {ds : List D} {vs : List V}, Shrs W F ds vs -> Owns W F H ds vs []
  | _, _, .nil => .nil
  | _, _, .cons h t => Owns.cons (L := []) (M := []) (.sh h) (Shrs.owns t)
theorem Own.shr {F H : Hp} {d : D} {v : V} {L : List Addr} (o : Own W F H d v L) (h : Py.isSh d = true) : Shr W F d v := by
  cases o with
  | sh y => exact y
  | olst => cases h
  | odic => cases h
  | odit => cases h
  | odig => cases h
  | oins => cases h
theorem Own.shNil {F H : Hp} {d : D} {v : V} {L : List Addr} (o : Own W F H d v L) (h : Py.isSh d = true) : L = [] := by
  cases o with
  | sh y => rfl
  | olst => cases h
  | odic => cases h
  | odit => cases h
  | odig => cases h
  | oins => cases h
theorem Owns.shrs {F H : Hp} : ∀ {ds : List D} {vs : List V} {L : List Addr}, Owns W F H ds vs L -> ds.all Py.isSh = true -> Shrs W F ds vs
  | _, _, _, .nil, _ => .nil
  | _, _, _, .cons o t, h => by
    rw [List.all_cons, Bool.and_eq_true] at h
    exact .cons (o.shr h.1) (t.shrs h.2)
end
end Py
namespace Py
open PySem L2
abbrev Env := List (Option D)
inductive Slots {T : Tbl} (W : Wd T) : Hp -> Hp -> Py.Env -> St -> List Addr -> Prop
  | nil {F H} : Slots W F H [] [] []
  | so {F H d v env σ L M} : Own W F H d v L -> Slots W F H env σ M -> Slots W F H (some d :: env) (some v :: σ) (L ++ M)
  | no {F H o env σ M} : Slots W F H env σ M -> Slots W F H (none :: env) (o :: σ) M
section
variable {T : Tbl} {W : Wd T} {F F' H H' : Hp}
theorem Slots.frame (e : Same F F') : ∀ {env : Py.Env} {σ : St} {L : List Addr}, (∀ a ∈ L, ∀ o, H a = some o -> H' a = some o) -> Slots W F H env σ L -> Slots W F' H' env σ L
  | _, _, _, _, .nil => .nil
  | _, _, _, k, .so h t => .so (h.frame e fun a m => k a (List.mem_append_left _ m)) (t.frame e fun a m => k a (List.mem_append_right _ m))
  | _, _, _, k, .no t => .no (t.frame e k)
theorem Slots.lives : ∀ {env : Py.Env} {σ : St} {L : List Addr}, Slots W F H env σ L -> ∀ a ∈ L, ∃ o, H a = some o
  | _, _, _, .nil, _, m => nomatch m
  | _, _, _, .so h t, a, m => (List.mem_append.mp m).elim (fun m => h.lives a m) fun m => t.lives a m
  | _, _, _, .no t, a, m => t.lives a m
theorem Slots.length : ∀ {env : Py.Env} {σ : St} {L : List Addr}, Slots W F H env σ L -> env.length = σ.length
  | _, _, _, .nil => rfl
  | _, _, _, .so _ t => congrArg (· + 1) t.length
  | _, _, _, .no t => congrArg (· + 1) t.length
theorem Slots.take : ∀ {env : Py.Env} {σ : St} {L : List Addr} {i : Nat} {d : D}, Slots W F H env σ L -> L.Nodup -> env[i]? = some (some d) ->
    ∃ v Li Lr, σ[i]? = some (some v) /\ Own W F H d v Li /\ Slots W F H (env.set i none) σ Lr /\ (Li ++ Lr).Nodup /\ (∀ a, a ∈ Li \/ a ∈ Lr ↔ a ∈ L)
  | _, _, _, _, _, .nil, _, e => by simp at e
  | _, _, _, 0, _, .so (L := L1) (M := M1) h t, nd, e => by
    simp at e; subst e
    exact ⟨_, L1, M1, rfl, h, .no t, nd, fun a => List.mem_append.symm⟩
  | _, _, _, i + 1, _, .so (L := L1) (M := M1) h t, nd, e => by
    rw [List.nodup_append] at nd
    obtain ⟨n1, n2, n3⟩ := nd
    obtain ⟨v, Li, Lr, e1, o, s, nd', m⟩ := t.take (i := i) n2 (by simpa using e)
    refine ⟨v, Li, L1 ++ Lr, by simpa using e1, o, .so h s, ?_, fun a => ?_⟩
    · rw [List.nodup_append] at nd' ⊢
      obtain ⟨p1, p2, p3⟩ := nd'
      refine ⟨p1, ?_, ?_⟩
      · rw [List.nodup_append]
        exact ⟨n1, p2, fun a ha b hb => n3 a ha b ((m b).mp (.inr hb))⟩
      · intro a ha b hb
        rcases List.mem_append.mp hb with hb | hb
        · exact fun q => n3 b hb a ((m a).mp (.inl ha)) q.symm
        · exact p3 a ha b hb
    · simp only [List.mem_append, <- m a]
      constructor
      · rintro (h | h | h)
        · exact .inr (.inl h)
        · exact .inl h
        · exact .inr (.inr h)
      · rintro (h | h | h)
        · exact .inr (.inl h)
        · exact .inl h
        · exact .inr (.inr h)
  | _, _, _, 0, _, .no t, nd, e => by simp at e
  | _, _, _, i + 1, _, .no (o := o1) (M := M1) t, nd, e => by
    obtain ⟨v, Li, Lr, e1, o, s, nd', m⟩ := t.take (i := i) nd (by simpa using e)
    exact ⟨v, Li, Lr, by simpa using e1, o, .no s, nd', m⟩
theorem Slots.put : ∀ {env : Py.Env} {σ : St} {L : List Addr} {i : Nat} {d : D} {v : V} {Ld : List Addr}, Slots W F H env σ L -> Own W F H d v Ld -> (Ld ++ L).Nodup -> i < env.length ->
    ∃ L', Slots W F H (env.set i (some d)) (σ.set i (some v)) L' /\ L'.Nodup /\ (∀ a ∈ L', a ∈ Ld \/ a ∈ L)
  | _, _, _, _, _, _, _, .nil, _, _, hi => by simp at hi
  | _, _, _, 0, d, v, Ld, .so (L := L1) (M := M1) h t, o, nd, _ => by
    refine ⟨Ld ++ M1, .so o t, ?_, fun a m => ?_⟩
    · rw [List.nodup_append] at nd ⊢
      obtain ⟨n1, n2, n3⟩ := nd
      rw [List.nodup_append] at n2
      exact ⟨n1, n2.2.1, fun a ha b hb => n3 a ha b (List.mem_append_right _ hb)⟩
    · rcases List.mem_append.mp m with m | m
      · exact .inl m
      · exact .inr (List.mem_append_right _ m)
  | _, _, _, 0, d, v, Ld, .no (M := M1) t, o, nd, _ => by
    exact ⟨Ld ++ M1, .so o t, nd, fun a m => List.mem_append.mp m⟩
  | _, _, _, i + 1, d, v, Ld, .so (L := L1) (M := M1) h t, o, nd, hi => by
    rw [List.nodup_append] at nd
    obtain ⟨n1, n2, n3⟩ := nd
    rw [List.nodup_append] at n2
    obtain ⟨p1, p2, p3⟩ := n2
    obtain ⟨L', s, nd', m⟩ := t.put (i := i) o (by
      rw [List.nodup_append]
      exact ⟨n1, p2, fun a ha b hb => n3 a ha b (List.mem_append_right _ hb)⟩) (by simpa using hi)
    refine ⟨L1 ++ L', .so h s, ?_, fun a ha => ?_⟩
    · rw [List.nodup_append]
      refine ⟨p1, nd', fun a ha b hb => ?_⟩
      rcases m b hb with q | q
      · exact fun z => n3 b q a (List.mem_append_left _ ha) z.symm
      · exact p3 a ha b q
    · rcases List.mem_append.mp ha with q | q
      · exact .inr (List.mem_append_left _ q)
      · rcases m a q with q | q
        · exact .inl q
        · exact .inr (List.mem_append_right _ q)
  | _, _, _, i + 1, d, v, Ld, .no (M := M1) t, o, nd, hi => by
    obtain ⟨L', s, nd', m⟩ := t.put (i := i) o nd (by simpa using hi)
    exact ⟨L', .no s, nd', m⟩
structure Ent where
  F0 : Hp
  H0 : Hp
  L0 : List Addr
  pins : List (Nat × V)
structure Rel {T : Tbl} (W : Wd T) (e : Ent) (env : Py.Env) (F : Hp) (σ : St) (H : Hp) (L : List Addr) : Prop where
  sF : Same F H
  slots : Slots W F H env σ L
  nd : L.Nodup
  dj : ∀ a ∈ L, F a = none
  s0 : Same e.F0 F
  nw : ∀ a o, F a = some o -> e.F0 a = some o \/ e.H0 a = none \/ a ∈ e.L0
  fr : ∀ a o, a ∉ e.L0 -> e.H0 a = some o -> H a = some o
  ln : ∀ a ∈ L, a ∈ e.L0 \/ e.H0 a = none
  pin : ∀ p ∈ e.pins, σ[p.1]? = some (some p.2)
structure Ext (F H F' H' : Hp) : Prop where
  f : Same F F'
  s : Same F' H'
  h : Same H H'
  n : ∀ a o, F' a = some o -> F a = some o \/ H a = none
theorem Ext.refl (s : Same F H) : Ext F H F H := ⟨Same.refl _, s, Same.refl _, fun _ _ h => .inl h⟩
theorem Ext.trans {F1 H1 F2 H2 : Hp} (a : Ext F H F1 H1) (b : Ext F1 H1 F2 H2) : Ext F H F2 H2 :=
  ⟨a.f.trans b.f, b.s, a.h.trans b.h, fun x o h => by
    rcases b.n x o h with q | q
    · exact a.n x o q
    · exact .inr (a.h.free q)⟩
theorem same_new {H : Hp} {p : Addr} {o : HO} (h : H p = none) : Same H (upd H p o) := fun b u e => by
  rw [upd_ne (ne_of_none e h)]; exact e
theorem Ext.new (s : Same F H) {p : Addr} {o : HO} (h : H p = none) : Ext F H (upd F p o) (upd H p o) where
  f := same_new (s.free h)
  s := fun b u e => by
    by_cases q : b = p
    · subst q; rw [upd_same] at e ⊢; exact e
    · rw [upd_ne q] at e ⊢; exact s _ _ e
  h := same_new h
  n := fun b u e => by
    by_cases q : b = p
    · subst q; exact .inr h
    · rw [upd_ne q] at e; exact .inl e
theorem Ext.newH (s : Same F H) {p : Addr} {o : HO} (h : H p = none) : Ext F H F (upd H p o) where
  f := Same.refl _
  s := s.trans (same_new h)
  h := same_new h
  n := fun _ _ e => .inl e
theorem Rel.ext {e : Ent} {env : Py.Env} {σ : St} {L : List Addr} (R : Rel W e env F σ H L) (x : Ext F H F' H') : Rel W e env F' σ H' L where
  sF := x.s
  slots := R.slots.frame x.f fun a _ o q => x.h _ _ q
  nd := R.nd
  dj := fun a m => by
    obtain ⟨o, ho⟩ := R.slots.lives a m
    cases q : F' a with
    | none => rfl
    | some u =>
      rcases x.n a u q with z | z
      · rw [R.dj a m] at z; cases z
      · rw [ho] at z; cases z
  s0 := R.s0.trans x.f
  nw := fun a o q => by
    rcases x.n a o q with z | z
    · exact R.nw a o z
    · by_cases m : a ∈ e.L0
      · exact .inr (.inr m)
      · refine .inr (.inl ?_)
        cases y : e.H0 a with
        | none => rfl
        | some u => rw [R.fr a u m y] at z; cases z
  fr := fun a o m q => x.h _ _ (R.fr a o m q)
  ln := R.ln
  pin := R.pin
abbrev Res := Hp -> Hp -> Hp -> V -> Prop
def rF {T : Tbl} (W : Wd T) (d : D) : Res := fun F _ _ v => Shr W F d v
def rV {T : Tbl} (W : Wd T) (d : D) : Res := fun _ H _ v => Shr W H d v
def rO {T : Tbl} (W : Wd T) (d : D) : Res := fun F H H0 v => ∃ L, Own W F H d v L /\ L.Nodup /\ ∀ a ∈ L, H0 a = none /\ F a = none
def rL {T : Tbl} (W : Wd T) (ds : List D) : Res := fun F H _ v => ∃ a vs, v = .ref a /\ SqL W.K H a vs /\ Shrs W F ds vs
def AE {T : Tbl} (W : Wd T) (t : TE) (env : Py.Env) (R : Res) : Prop :=
  ∀ (e : Ent) (F : Hp) (σ : St) (H : Hp) (L : List Addr) (Q : VK), Rel W e env F σ H L -> (∀ v F' H', Ext F H F' H' -> R F' H' H v -> Q v H') -> t σ H Q
def AT {T : Tbl} (W : Wd T) (t : TT) (env : Py.Env) (b : Bool) : Prop :=
  ∀ (e : Ent) (F : Hp) (σ : St) (H : Hp) (L : List Addr) (Q : Bool -> Hp -> Prop), Rel W e env F σ H L -> (∀ F' H', Ext F H F' H' -> Q b H') -> t σ H Q
abbrev ResL := Hp -> Hp -> Hp -> List V -> Prop
def rFs {T : Tbl} (W : Wd T) (ds : List D) : ResL := fun F _ _ vs => Shrs W F ds vs
def rVs {T : Tbl} (W : Wd T) (ds : List D) : ResL := fun _ H _ vs => Shrs W H ds vs
def AA {T : Tbl} (W : Wd T) (t : TA) (env : Py.Env) (R : ResL) : Prop :=
  ∀ (e : Ent) (F : Hp) (σ : St) (H : Hp) (L : List Addr) (Q : List V -> Hp -> Prop), Rel W e env F σ H L -> (∀ v F' H', Ext F H F' H' -> R F' H' H v -> Q v H') -> t σ H Q
variable {env : Py.Env} {t ta tb : TE}
theorem AE.imp {R R' : Res} (h : AE W t env R) (k : ∀ F H H0 v, Same F H -> R F H H0 v -> R' F H H0 v) : AE W t env R' := fun e F σ H L Q r q =>
  h e F σ H L Q r fun v F' H' x y => q v F' H' x (k _ _ _ _ x.s y)
theorem AE.view {d : D} (h : AE W t env (rF W d)) : AE W t env (rV W d) := h.imp fun _ _ _ _ s y => Shr.mono s y
theorem AE.own {d : D} (h : AE W t env (rF W d)) : AE W t env (rO W d) := h.imp fun _ _ _ _ s y => ⟨[], .sh y, .nil, fun _ m => nomatch m⟩
theorem AE.list {ds : List D} (h : AE W t env (rF W (.lst ds))) : AE W t env (rL W ds) := h.imp fun _ _ _ _ s y => by
  cases y with
  | lst a b => exact ⟨_, _, rfl, .of (s _ _ a), b⟩
theorem freeze {F H : Hp} {d : D} {v : V} {L : List Addr} (s : Same F H) (o : Own W F H d v L) (k : ∀ a ∈ L, F a = none) :
    ∃ F', Same F F' /\ Same F' H /\ (∀ a o, F' a = some o -> F a = some o \/ a ∈ L) /\ Shr W F' (fz d) v := by
  refine ⟨fun a => if a ∈ L then H a else F a, fun a u q => ?_, fun a u q => ?_, fun a u q => ?_, o.view (fun a u q => ?_) fun a m u q => ?_⟩
  · show (if a ∈ L then H a else F a) = some u
    split
    · rename_i m; rw [k a m] at q; cases q
    · exact q
  · have q : (if a ∈ L then H a else F a) = some u := q
    split at q
    · exact q
    · exact s _ _ q
  · have q : (if a ∈ L then H a else F a) = some u := q
    split at q
    · exact .inr (by assumption)
    · exact .inl q
  · show (if a ∈ L then H a else F a) = some u
    split
    · rename_i m; rw [k a m] at q; cases q
    · exact q
  · show (if a ∈ L then H a else F a) = some u
    rw [if_pos m]; exact q
theorem AE.frz {d : D} (h : AE W t env (rO W d)) : AE W t env (rF W (fz d)) := fun e F σ H L Q r q =>
  h e F σ H L Q r fun v F' H' x ⟨M, o, nd, k⟩ => by
    obtain ⟨G, s1, s2, nw, y⟩ := freeze x.s o fun a m => (k a m).2
    refine q v G H' ⟨x.f.trans s1, s2, x.h, fun a o z => ?_⟩ y
    rcases nw a o z with z | z
    · exact x.n a o z
    · exact .inr (k a z).1
structure Exn where
  c : String
  fs : List (String × D)
structure AEnds where
  nx : Py.Env -> Prop
  rt : D -> Py.Env -> Prop
  bk : Py.Env -> Prop := fun _ => False
  ct : Py.Env -> Prop := fun _ => False
  ex : Exn -> Py.Env -> Prop := fun _ _ => False
def IsExn {T : Tbl} (W : Wd T) (F : Hp) (ex : Exn) (C : Value) (d : Option Addr) : Prop :=
  C = .ref (W.cA ex.c) /\ W.hasX ex.c /\ (ex.fs = [] \/ ∃ a vs, d = some a /\ F a = some (.xd (((ex.fs.map (·.1)).map so).zip vs)) /\ Shrs W F (ex.fs.map (·.2)) vs)
structure Sat {T : Tbl} (W : Wd T) (e : Ent) (E : WX) (A : AEnds) (Dn : Ends) : Prop where
  nx : ∀ env F σ H L, A.nx env -> Rel W e env F σ H L -> Dn.nx σ H
  rt : ∀ d env F σ H L v M, A.rt d env -> Rel W e env F σ H L -> Own W F H d v M -> (M ++ L).Nodup -> (∀ a ∈ M, F a = none /\ (a ∈ e.L0 \/ e.H0 a = none)) -> Dn.rt v H
  bk : ∀ env F σ H L, A.bk env -> Rel W e env F σ H L -> Dn.bk σ H
  ct : ∀ env F σ H L, A.ct env -> Rel W e env F σ H L -> Dn.ct σ H
  ex : ∀ x env F σ H L C d, A.ex x env -> Rel W e env F σ H L -> IsExn W F x C d -> E C d σ H
def AS {T : Tbl} (W : Wd T) (P : List Nat) (E : WX) (t : TS) (env : Py.Env) (A : AEnds) : Prop :=
  ∀ (e : Ent) (F : Hp) (σ : St) (H : Hp) (L : List Addr) (Dn : Ends), P = e.pins.map (·.1) -> Rel W e env F σ H L -> Sat W e E A Dn -> t Dn σ H
variable {P : List Nat} {E : WX} {A : AEnds}
theorem as_seq {t u : TS} (h : AS W P E t env { A with nx := fun env' => AS W P E u env' A }) : AS W P E (tSeq t u) env A := fun e F σ H L Dn hp r s =>
  h e F σ H L _ hp r ⟨fun env' F' σ' H' L' a r' => a e F' σ' H' L' Dn hp r' s, s.rt, s.bk, s.ct, s.ex⟩
theorem as_next (h : A.nx env) : AS W P E tNext env A := fun e F σ H L Dn hp r s => s.nx _ _ _ _ _ h r
theorem Rel.set {e : Ent} {σ : St} {L M : List Addr} {d : D} {v : V} {i : Nat} (r : Rel W e env F σ H L) (o : Own W F H d v M) (nd : (M ++ L).Nodup) (k : ∀ a ∈ M, F a = none /\ (a ∈ e.L0 \/ e.H0 a = none)) (hi : i < env.length)
    (hp : ∀ p ∈ e.pins, p.1 ≠ i) : ∃ L', Rel W e (env.set i (some d)) F (σ.set i (some v)) H L' := by
  obtain ⟨L', s, nd', m⟩ := r.slots.put o nd hi
  refine ⟨L', r.sF, s, nd', fun a ha => ?_, r.s0, r.nw, r.fr, fun a ha => ?_, fun p hm => ?_⟩
  · rcases m a ha with q | q
    · exact (k a q).1
    · exact r.dj a q
  · rcases m a ha with q | q
    · exact (k a q).2
    · exact r.ln a q
  · rw [List.getElem?_set_ne (fun z => hp p hm z.symm)]
    exact r.pin p hm
theorem Rel.h0 {e : Ent} {σ : St} {L : List Addr} (r : Rel W e env F σ H L) {a : Addr} (h : H a = none) : a ∈ e.L0 \/ e.H0 a = none := by
  by_cases m : a ∈ e.L0
  · exact .inl m
  · refine .inr ?_
    cases y : e.H0 a with
    | none => rfl
    | some u => rw [r.fr a u m y] at h; cases h
theorem nodup_new {L M : List Addr} {H : Hp} (h1 : L.Nodup) (h2 : M.Nodup) (hl : ∀ a ∈ L, ∃ o, H a = some o) (hm : ∀ a ∈ M, H a = none) : (M ++ L).Nodup := by
  rw [List.nodup_append]
  refine ⟨h2, h1, fun a ha b hb q => ?_⟩
  subst q
  obtain ⟨o, z⟩ := hl a hb
  rw [hm a ha] at z
  cases z
theorem as_if {tc : TT} {t u : TS} {b : Bool} (h : AT W tc env b) (h1 : b = true -> AS W P E t env A) (h2 : b = false -> AS W P E u env A) : AS W P E (tIfS tc t u) env A := fun e F σ H L Dn hP r s =>
  h e F σ H L _ r fun F' H' x => by
    have r' := r.ext x
    cases b with
    | true => exact h1 rfl e F' σ H' L Dn hP r' s
    | false => exact h2 rfl e F' σ H' L Dn hP r' s
end
end Py
namespace Py
open PySem L2
section
variable {T : Tbl} {W : Wd T} {env : Py.Env} {t ta tb tc : TE} {d d1 d2 d3 : D} {i j : Int} {n m : Nat}
theorem slot_get {e : Ent} {F H : Hp} {σ : St} {L : List Addr} (r : Rel W e env F σ H L) (h : env[n]? = some (some d)) : ∃ v M, σ[n]? = some (some v) /\ Own W F H d v M /\ ∀ a ∈ M, a ∈ L := by
  obtain ⟨v, Li, Lr, e1, o, _, _, m⟩ := r.slots.take r.nd h
  exact ⟨v, Li, e1, o, fun a ha => (m a).mp (.inl ha)⟩
theorem ae_c {v : V} (h : ∀ F, Shr W F d v) : AE W (tC v) env (rF W d) := fun e F σ H L Q r q => q v F H (.refl r.sF) (h F)
theorem AE.shr (h : AE W t env (rO W d)) (s : isSh d = true) : AE W t env (rF W d) := h.imp fun _ _ _ _ _ ⟨_, o, _⟩ => o.shr s
theorem rO_sh {F H H0 : Hp} {v : V} (h : Shr W F d v) : rO W d F H H0 v := ⟨[], .sh h, .nil, fun _ m => nomatch m⟩
theorem rO_back {F H H0 H1 : Hp} {v : V} (e : Same H0 H1) (h : rO W d F H H1 v) : rO W d F H H0 v := by
  obtain ⟨L, o, nd, k⟩ := h
  exact ⟨L, o, nd, fun a m => ⟨e.free (k a m).1, (k a m).2⟩⟩
def Op2 {T : Tbl} (W : Wd T) (r : R2) (d1 d2 d : D) : Prop := ∀ (F H : Hp) (v1 v2 : V) (Q : VK), Same F H -> Shr W H d1 v1 -> Shr W H d2 v2 -> (∀ v F' H', Ext F H F' H' -> rO W d F' H' H v -> Q v H') -> r v1 v2 H Q
def Op2L {T : Tbl} (W : Wd T) (r : R2) (ds es : List D) (d : D) : Prop := ∀ (F H : Hp) (a b : Addr) (vs ws : List V) (Q : VK), Same F H -> H a = some (.lst vs) -> Shrs W F ds vs -> H b = some (.lst ws) -> Shrs W F es ws -> (∀ v F' H', Ext F H F' H' -> rO W d F' H' H v -> Q v H') -> r (.ref a) (.ref b) H Q
theorem ae_op2 {r : R2} (ha : AE W ta env (rV W d1)) (hb : AE W tb env (rV W d2)) (h : Op2 W r d1 d2 d) : AE W (tOp r ta tb) env (rO W d) := fun e F σ H L Q rl q =>
  ha e F σ H L _ rl fun v F1 H1 x1 y1 => hb e F1 σ H1 L _ (rl.ext x1) fun u F2 H2 x2 y2 => h F2 H2 v u Q x2.s (y1.mono x2.h) y2 fun w F3 H3 x3 y3 => q w F3 H3 ((x1.trans x2).trans x3) (rO_back (x1.h.trans x2.h) y3)
theorem o2_l {r r' : R2} (h : Op2 W r d1 d2 d) : Op2 W (fun x y H Q => r x y H Q \/ r' x y H Q) d1 d2 d := fun F H v1 v2 Q s a b q => .inl (h F H v1 v2 Q s a b q)
theorem o2_r {r r' : R2} (h : Op2 W r' d1 d2 d) : Op2 W (fun x y H Q => r x y H Q \/ r' x y H Q) d1 d2 d := fun F H v1 v2 Q s a b q => .inr (h F H v1 v2 Q s a b q)
theorem o2_i {g : Int -> Int -> V} (hg : ∀ F, Shr W F d (g i j)) : Op2 W (rI0 g) (.int i) (.int j) d := fun F H v1 v2 Q s a b q => by
  cases a; cases b
  exact ⟨i, j, rfl, rfl, q _ F H (.refl s) (rO_sh (hg _))⟩
theorem o2_ic {C : Int -> Int -> Prop} {g : Int -> Int -> V} (hc : C i j) (hg : ∀ F, Shr W F d (g i j)) : Op2 W (rI C g) (.int i) (.int j) d := fun F H v1 v2 Q s a b q => by
  cases a; cases b
  exact ⟨i, j, rfl, rfl, hc, q _ F H (.refl s) (rO_sh (hg _))⟩
theorem ae_u {g : Int -> V} (ha : AE W ta env (rV W (.int i))) (hg : ∀ F, Shr W F d (g i)) : AE W (tUn (rU g) ta) env (rF W d) := fun e F σ H L Q r q =>
  ha e F σ H L _ r fun v F1 H1 x1 y1 => by
    cases y1
    exact ⟨i, rfl, q _ F1 H1 x1 (hg _)⟩
def fl : D -> Option V
  | .non => some .non
  | .bl b => some (.bl b)
  | .int i => some (.int i)
  | .str x => some (.str (so x))
  | _ => none
theorem Shr.fl {F : Hp} {v u : V} (h : Shr W F d v) (e : Py.fl d = some u) : v = u := by
  cases h <;> (first | (cases e; rfl) | cases e)
mutual
def pd : D -> Option PyData
  | .non => some .none
  | .bl b => some (.bool b)
  | .int i => some (.int i)
  | .str x => some (.str (so x))
  | .tup xs => (pds xs).map PyData.tuple
  | .lst xs => (pds xs).map PyData.list
  | _ => none
def pds : List D -> Option (List PyData)
  | [] => some []
  | d :: ds => match pd d, pds ds with
    | some x, some xs => some (x :: xs)
    | _, _ => none
end
mutual
theorem Shr.dp {H : Hp} : ∀ {d : D} {v : V} {x : PyData}, Shr W H d v -> pd d = some x -> Dp W.K H v x
  | _, _, _, .non, e => by rw [pd] at e; cases e; exact .non
  | _, _, _, .bl, e => by rw [pd] at e; cases e; exact .bl _
  | _, _, _, .int, e => by rw [pd] at e; cases e; exact .int _
  | _, _, _, .str, e => by rw [pd] at e; cases e; exact .str _
  | _, _, _, .scr _, e => by rw [pd] at e <;> cases e
  | .tup xs, _, _, .tup h hs, e => by
    rw [pd] at e
    cases q : pds xs with
    | none => rw [q] at e; cases e
    | some ys => rw [q] at e; cases e; exact .tup (.of h) (Shrs.dp hs q)
  | .lst xs, _, _, .lst h hs, e => by
    rw [pd] at e
    cases q : pds xs with
    | none => rw [q] at e; cases e
    | some ys => rw [q] at e; cases e; exact .lst (.of h) (Shrs.dp hs q)
  | _, _, _, .cls _, e => by rw [pd] at e <;> cases e
  | _, _, _, .sei _ _, e => by rw [pd] at e <;> cases e
  | _, _, _, .dic _ _ _ _, e => by rw [pd] at e <;> cases e
  | _, _, _, .dit _ _ _ _, e => by rw [pd] at e <;> cases e
  | _, _, _, .dig _ _ _ _, e => by rw [pd] at e <;> cases e
  | _, _, _, .ins _ _ _ _, e => by rw [pd] at e <;> cases e
theorem Shrs.dp {H : Hp} : ∀ {ds : List D} {vs : List V} {xs : List PyData}, Shrs W H ds vs -> pds ds = some xs -> DpAll W.K H vs xs
  | _, _, _, .nil, e => by rw [pds] at e; cases e; exact .nil
  | d :: ds, _, _, .cons h t, e => by
    rw [pds] at e
    cases q1 : pd d with
    | none => rw [q1] at e; cases e
    | some x =>
      cases q2 : pds ds with
      | none => rw [q1, q2] at e; cases e
      | some xs => rw [q1, q2] at e; cases e; exact .cons (Shr.dp h q1) (Shrs.dp t q2)
end
theorem o2_eqD {x y : PyData} (h1 : pd d1 = some x) (h2 : pd d2 = some y) (s1 : SeqAt.shaped x = true) (s2 : SeqAt.shaped y = true) : Op2 W (rEqD W.K) d1 d2 (.bl (PyData.eqv x y)) := fun F H v1 v2 Q s a b q =>
  ⟨x, y, a.dp h1, b.dp h2, s1, s2, q _ F H (.refl s) (rO_sh .bl)⟩
theorem o2_neD {x y : PyData} (h1 : pd d1 = some x) (h2 : pd d2 = some y) (s1 : SeqAt.shaped x = true) (s2 : SeqAt.shaped y = true) : Op2 W (rNeD W.K) d1 d2 (.bl (!PyData.eqv x y)) := fun F H v1 v2 Q s a b q =>
  ⟨x, y, a.dp h1, b.dp h2, s1, s2, q _ F H (.refl s) (rO_sh .bl)⟩
theorem o2L_cat {ds es : List D} (hl : ds.length + es.length <= 1000000) : Op2L W rCat ds es (.olst (ds ++ es)) := fun F H a b vs ws Q s ha sa hb sb q =>
  ⟨a, b, vs, ws, rfl, rfl, ha, hb, by rw [<- sa.length, <- sb.length]; exact Nat.le_trans hl (by decide), fun p hp => q _ F _ (.newH s hp) ⟨[p], .olst upd_same (sa.append sb).owns, by simp, fun x m => by
    rw [List.mem_singleton.mp m]; exact ⟨hp, s.free hp⟩⟩⟩
def Cb {T : Tbl} (W : Wd T) (r : List V -> Hp -> VK -> Prop) (ds : List D) (d : D) : Prop := ∀ (F H : Hp) (vs : List V) (Q : VK), Same F H -> Shrs W H ds vs -> (∀ v F' H', Ext F H F' H' -> rO W d F' H' H v -> Q v H') -> r vs H Q
theorem ae_cb {r : List V -> Hp -> VK -> Prop} {tr : TA} {ds : List D} (h : AA W tr env (rVs W ds)) (hc : Cb W r ds d) : AE W (tCB r tr) env (rO W d) := fun e F σ H L Q rl q =>
  h e F σ H L _ rl fun vs F1 H1 x1 y1 => hc F1 H1 vs Q x1.s y1 fun w F3 H3 x3 y3 => q w F3 H3 (x1.trans x3) (rO_back x1.h y3)
theorem cb_l {r r' : List V -> Hp -> VK -> Prop} {ds : List D} (h : Cb W r ds d) : Cb W (fun xs H Q => r xs H Q \/ r' xs H Q) ds d := fun F H vs Q s a q => .inl (h F H vs Q s a q)
def isNon : D -> Bool
  | .non => true
  | _ => false
theorem ae_andV {a b : Bool} (ha : AE W ta env (rV W (.bl a))) (hb : a = true -> AE W tb env (rV W (.bl b))) : AE W (tAndV ta tb) env (rF W (.bl (a && b))) := fun e F σ H L Q r q =>
  ha e F σ H L _ r fun v F1 H1 x1 y1 => by
    cases y1
    refine ⟨a, rfl, ?_⟩
    cases a with
    | true => exact hb rfl e F1 σ H1 L _ (r.ext x1) fun u F2 H2 x2 y2 => by cases y2; exact q _ F2 H2 (x1.trans x2) .bl
    | false => exact q _ F1 H1 x1 .bl
theorem ae_notV {a : Bool} (ha : AE W ta env (rV W (.bl a))) : AE W (tNotV ta) env (rF W (.bl (!a))) := fun e F σ H L Q r q =>
  ha e F σ H L _ r fun v F1 H1 x1 y1 => by
    cases y1
    exact ⟨a, rfl, q _ F1 H1 x1 .bl⟩
variable {tt tu : TT} {a b : Bool}
theorem at_test (h : AE W t env (rV W (.bl b))) : AT W (tTest t) env b := fun e F σ H L Q r q => h e F σ H L _ r fun v F1 H1 x1 y1 => by
  cases y1
  exact ⟨b, rfl, q F1 H1 x1⟩
theorem at_and (h1 : AT W tt env a) (h2 : a = true -> AT W tu env b) : AT W (tAnd tt tu) env (a && b) := fun e F σ H L Q r q => h1 e F σ H L _ r fun F1 H1 x1 => by
  cases a with
  | true => exact h2 rfl e F1 σ H1 L _ (r.ext x1) fun F2 H2 x2 => q F2 H2 (x1.trans x2)
  | false => exact q F1 H1 x1
theorem at_or (h1 : AT W tt env a) (h2 : a = false -> AT W tu env b) : AT W (tOr tt tu) env (a || b) := fun e F σ H L Q r q => h1 e F σ H L _ r fun F1 H1 x1 => by
  cases a with
  | false => exact h2 rfl e F1 σ H1 L _ (r.ext x1) fun F2 H2 x2 => q F2 H2 (x1.trans x2)
  | true => exact q F1 H1 x1
theorem at_not (h1 : AT W tt env a) : AT W (tNot tt) env (!a) := fun e F σ H L Q r q => h1 e F σ H L _ r fun F1 H1 x1 => q F1 H1 x1
theorem ae_ifR {R : Res} (h : AT W tt env b) (h1 : b = true -> AE W ta env R) (h2 : b = false -> AE W tb env R) (hm : ∀ F H H0 H1 v, Same H0 H1 -> R F H H1 v -> R F H H0 v) : AE W (tIf tt ta tb) env R := fun e F σ H L Q r q =>
  h e F σ H L _ r fun F1 H1 x1 => by
    cases b with
    | true => exact h1 rfl e F1 σ H1 L _ (r.ext x1) fun v F2 H2 x2 y2 => q v F2 H2 (x1.trans x2) (hm _ _ _ _ _ x1.h y2)
    | false => exact h2 rfl e F1 σ H1 L _ (r.ext x1) fun v F2 H2 x2 y2 => q v F2 H2 (x1.trans x2) (hm _ _ _ _ _ x1.h y2)
variable {tr : TA} {ds : List D}
theorem aa_nil : AA W tNil env (rFs W []) := fun e F σ H L Q r q => q [] F H (.refl r.sF) .nil
theorem aa_nilV : AA W tNil env (rVs W []) := fun e F σ H L Q r q => q [] F H (.refl r.sF) .nil
theorem aa_cons (ha : AE W t env (rF W d)) (hr : AA W tr env (rFs W ds)) : AA W (tCons t tr) env (rFs W (d :: ds)) := fun e F σ H L Q r q =>
  ha e F σ H L _ r fun v F1 H1 x1 y1 => hr e F1 σ H1 L _ (r.ext x1) fun vs F2 H2 x2 y2 => q _ F2 H2 (x1.trans x2) (.cons (y1.mono x2.f) y2)
theorem aa_consV (ha : AE W t env (rV W d)) (hr : AA W tr env (rVs W ds)) : AA W (tCons t tr) env (rVs W (d :: ds)) := fun e F σ H L Q r q =>
  ha e F σ H L _ r fun v F1 H1 x1 y1 => hr e F1 σ H1 L _ (r.ext x1) fun vs F2 H2 x2 y2 => q _ F2 H2 (x1.trans x2) (.cons (y1.mono x2.h) y2)
theorem AA.view (h : AA W tr env (rFs W ds)) : AA W tr env (rVs W ds) := fun e F σ H L Q r q => h e F σ H L _ r fun v F1 H1 x1 y1 => q v F1 H1 x1 (Shrs.mono x1.s y1)
theorem sz_le {n : Nat} (h : n <= 1000000) : n <= sizeLine := Nat.le_trans h (by decide)
theorem ae_tup (h : AA W tr env (rFs W ds)) (hl : ds.length <= 1000000) : AE W (tTup tr) env (rF W (.tup ds)) := fun e F σ H L Q r q =>
  h e F σ H L _ r fun vs F1 H1 x1 y1 => ⟨by rw [<- y1.length]; exact sz_le hl, fun p hp =>
    q _ (upd F1 p (.tup vs)) _ (x1.trans (.new x1.s hp)) (.tup upd_same (y1.mono (same_new (x1.s.free hp))))⟩
theorem ae_lst (h : AA W tr env (rFs W ds)) (hl : ds.length <= 1000000) : AE W (tLst tr) env (rO W (.olst ds)) := fun e F σ H L Q r q =>
  h e F σ H L _ r fun vs F1 H1 x1 y1 => ⟨by rw [<- y1.length]; exact sz_le hl, fun p hp =>
    q _ F1 _ (x1.trans (.newH x1.s hp)) ⟨[p], .olst upd_same y1.owns, by simp, fun a m => by
      rw [List.mem_singleton.mp m]; exact ⟨x1.h.free hp, x1.s.free hp⟩⟩⟩
abbrev rLenU (K : PySem.W.Frag) : List V -> Hp -> VK -> Prop := fun xs H Q => ∃ p ys, xs = [.ref p] /\ (SqL K H p ys \/ SqT K H p ys) /\ Q (.int ys.length) H
theorem cb_lenL {ds : List D} : Cb W (rLenU W.K) [.lst ds] (.int ds.length) := fun F H vs Q s a q => by
  cases a with
  | cons a b =>
    cases b
    cases a with
    | lst a b => exact ⟨_, _, rfl, .inl (.of a), q _ F H (.refl s) (rO_sh (by rw [b.length]; exact .int))⟩
theorem cb_lenT {ds : List D} : Cb W (rLenU W.K) [.tup ds] (.int ds.length) := fun F H vs Q s a q => by
  cases a with
  | cons a b =>
    cases b
    cases a with
    | tup a b => exact ⟨_, _, rfl, .inr (.of a), q _ F H (.refl s) (rO_sh (by rw [b.length]; exact .int))⟩
theorem cb_lenS {ns : List Int} : Cb W (rLenU W.K) [.scr ns] (.int ns.length) := fun F H vs Q s a q => by
  cases a with
  | cons a b =>
    cases b
    cases a with
    | scr a => exact ⟨_, _, rfl, .inl a, q _ F H (.refl s) (rO_sh (by rw [List.length_map]; exact .int))⟩
def rIxU (K : PySem.W.Frag) : R2 := fun x y H Q => rIxL K x y H Q \/ rIxT K x y H Q
theorem AT.is {tt : TT} {b c : Bool} (h : AT W tt env b) (e : b = c) : AT W tt env c := e ▸ h
theorem cb_int : Cb W (fun xs H Q => (∃ i, xs = [.int i] /\ Q (.int i) H) \/ ∃ k, xs = [.bl k] /\ Q (.int (if k then 1 else 0)) H) [.int i] (.int i) := fun F H vs Q s a q => by
  cases a with
  | cons a b =>
    cases b; cases a
    exact .inl ⟨i, rfl, q _ F H (.refl s) (rO_sh .int)⟩
theorem cb_abs : Cb W (fun xs H Q => ∃ i, xs = [.int i] /\ Q (.int (if i < 0 then -i else i)) H) [.int i] (.int (if i < 0 then -i else i)) := fun F H vs Q s a q => by
  cases a with
  | cons a b =>
    cases b; cases a
    exact ⟨i, rfl, q _ F H (.refl s) (rO_sh .int)⟩
variable {P : List Nat} {E : WX} {A : AEnds}
def AG {T : Tbl} (W : Wd T) (P : List Nat) (g : TG) (d : D) (env : Py.Env) (k : Py.Env -> Prop) : Prop :=
  ∀ (e : Ent) (F : Hp) (σ : St) (H : Hp) (L : List Addr) (v : V) (Q : St -> Hp -> Prop), P = e.pins.map (·.1) -> Rel W e env F σ H L -> Shr W F d v -> (∀ env' σ' L', k env' -> Rel W e env' F σ' H L' -> Q σ' H) -> g v σ H Q
def AGs {T : Tbl} (W : Wd T) (P : List Nat) (g : TGs) (ds : List D) (env : Py.Env) (k : Py.Env -> Prop) : Prop :=
  ∀ (e : Ent) (F : Hp) (σ : St) (H : Hp) (L : List Addr) (vs : List V) (Q : St -> Hp -> Prop), P = e.pins.map (·.1) -> Rel W e env F σ H L -> Shrs W F ds vs -> (∀ env' σ' L', k env' -> Rel W e env' F σ' H L' -> Q σ' H) -> g vs σ H Q
theorem ag_name {k : Nat} {o' : Option D} {q : Py.Env -> Prop} (hi' : env[k]? = some o') (hp : k ∉ P) (h : q (env.set k (some d))) : AG W P (gName k) d env q := fun e F σ H L v Q hP r s c => by
  have hi := (List.getElem?_eq_some_iff.mp hi').1
  obtain ⟨L', r2⟩ := r.set (i := k) (M := []) (.sh s) (by simpa using r.nd) (fun a m => nomatch m) hi fun p hm z => hp (by rw [hP]; exact List.mem_map.mpr ⟨p, hm, z⟩)
  exact c _ _ _ h r2
theorem ags_nil {q : Py.Env -> Prop} (h : q env) : AGs W P gNil [] env q := fun e F σ H L v Q hP r s c => by
  cases s
  exact ⟨rfl, c _ _ _ h r⟩
theorem ags_cons {g : TG} {gs : TGs} {q : Py.Env -> Prop} (h : AG W P g d env fun env' => AGs W P gs ds env' q) : AGs W P (gCons g gs) (d :: ds) env q := fun e F σ H L v Q hP r s c => by
  cases s with
  | cons a b => exact ⟨_, _, rfl, h e F σ H L _ _ hP r a fun env' σ' L' k r' => k e F σ' H L' _ Q hP r' b c⟩
theorem ag_tup {gs : TGs} {q : Py.Env -> Prop} {k : Nat} (hl : ds.length = k) (h : AGs W P gs ds env q) : AG W P (gTup W.K k gs) (.tup ds) env q := fun e F σ H L v Q hP r s c => by
  cases s with
  | tup a b => exact ⟨_, _, rfl, .of (r.sF _ _ a), by rw [<- b.length]; exact hl, h e F σ H L _ Q hP r b c⟩
theorem Rel.enter {e : Ent} {F H : Hp} {σ : St} {L : List Addr} (r : Rel W e env F σ H L) : Rel W { e with F0 := F } env F σ H L :=
  ⟨r.sF, r.slots, r.nd, r.dj, Same.refl _, fun _ _ h => .inl h, r.fr, r.ln, r.pin⟩
theorem Rel.leave {e : Ent} {F1 F H H1 : Hp} {σ σ1 : St} {L L1 : List Addr} {env1 : Py.Env} (r1 : Rel W e env1 F1 σ1 H1 L1) (r : Rel W { e with F0 := F1 } env F σ H L) : Rel W e env F σ H L :=
  ⟨r.sF, r.slots, r.nd, r.dj, r1.s0.trans r.s0, fun a o h => (r.nw a o h).elim (fun q => r1.nw a o q) .inr, r.fr, r.ln, r.pin⟩
end
end Py
namespace Py
open PySem L2
inductive Pst where
  | fld (f : String) | idx (k : Nat) | key (k : Key) | keyT (k : List Key)
def pos {α : Type} [DecidableEq α] (f : α) : List α -> Option Nat
  | [] => none
  | x :: xs => if x = f then some 0 else (pos f xs).map (· + 1)
theorem pos_get {α : Type} [DecidableEq α] {f : α} : ∀ {ns : List α} {j : Nat}, pos f ns = some j -> ns[j]? = some f
  | [], _, h => by cases h
  | x :: xs, j, h => by
    unfold pos at h
    split at h
    · rename_i e; cases h; rw [e]; rfl
    · cases q : pos f xs with
      | none => rw [q] at h; cases h
      | some k => rw [q] at h; cases h; exact pos_get (ns := xs) q
theorem zip_lookup {f : String} : ∀ {ns : List String} {vs : List V} {j : Nat}, pos f ns = some j -> ((ns.map so).zip vs).lookup (so f) = vs[j]?
  | [], _, _, h => by cases h
  | x :: xs, [], j, h => by simp
  | x :: xs, v :: vs, j, h => by
    unfold pos at h
    rw [List.map_cons, List.zip_cons_cons, List.lookup_cons]
    split at h
    · rename_i e; cases h; subst e; simp
    · rename_i e
      cases q : pos f xs with
      | none => rw [q] at h; cases h
      | some k =>
        rw [q] at h; cases h
        rw [beq_eq_false_iff_ne.mpr (fun z => e (so_inj z.symm))]
        exact zip_lookup (ns := xs) q
def D.place : D -> Pst -> Option Nat
  | .oins _ ns _, .fld f => pos f ns
  | .olst _, .idx k => some k
  | .odic ks _, .key k => pos k ks
  | .odit ks _, .keyT k => pos k ks
  | _, _ => none
def D.parts : D -> List D
  | .oins _ _ xs => xs
  | .olst xs => xs
  | .odic _ xs => xs
  | .odit _ xs => xs
  | _ => []
def D.withParts : D -> List D -> D
  | .oins C ns _, xs => .oins C ns xs
  | .olst _, xs => .olst xs
  | .odic ks _, xs => .odic ks xs
  | .odit ks _, xs => .odit ks xs
  | d, _ => d
def D.sub (d : D) (s : Pst) : Option D := (d.place s).bind fun j => d.parts[j]?
def D.put (d : D) (s : Pst) (n : D) : D := match d.place s with
  | some j => d.withParts (d.parts.set j n)
  | none => d
def D.at (d : D) : List Pst -> Option D
  | [] => some d
  | s :: st => (d.sub s).bind fun x => x.at st
def D.putAt (d : D) : List Pst -> D -> D
  | [], n => n
  | s :: st, n => match d.sub s with
    | some x => d.put s (x.putAt st n)
    | none => d
def VStep (H : Hp) (v : V) (s : Pst) (w : V) : Prop := match s with
  | .fld f => ∃ a C dx fs, v = .ref a /\ H a = some (.ins C dx fs) /\ fs.lookup (so f) = some w
  | .idx k => ∃ a vs, v = .ref a /\ H a = some (.lst vs) /\ vs[k]? = some w
  | .key k => ∃ a kvs, v = .ref a /\ H a = some (.dK kvs) /\ ∃ j : Nat, pos k (kvs.map (·.1)) = some j /\ (kvs.map (·.2))[j]? = some w
  | .keyT k => ∃ a kvs, v = .ref a /\ H a = some (.dT kvs) /\ ∃ j : Nat, pos k (kvs.map (·.1)) = some j /\ (kvs.map (·.2))[j]? = some w
def VPath (H : Hp) (v : V) : List Pst -> V -> Prop
  | [], w => v = w
  | s :: st, w => ∃ u, VStep H v s u /\ VPath H u st w
theorem VStep.mono {H H' : Hp} {v w : V} {s : Pst} (e : Same H H') (h : VStep H v s w) : VStep H' v s w := by
  cases s with
  | fld f => obtain ⟨a, C, dx, fs, h1, h2, h3⟩ := h; exact ⟨a, C, dx, fs, h1, e _ _ h2, h3⟩
  | idx k => obtain ⟨a, vs, h1, h2, h3⟩ := h; exact ⟨a, vs, h1, e _ _ h2, h3⟩
  | key k => obtain ⟨a, vs, h1, h2, h3⟩ := h; exact ⟨a, vs, h1, e _ _ h2, h3⟩
  | keyT k => obtain ⟨a, vs, h1, h2, h3⟩ := h; exact ⟨a, vs, h1, e _ _ h2, h3⟩
theorem VPath.mono {H H' : Hp} (e : Same H H') : ∀ {st : List Pst} {v w : V}, VPath H v st w -> VPath H' v st w
  | [], _, _, h => h
  | _ :: _, _, _, ⟨u, h1, h2⟩ => ⟨u, h1.mono e, VPath.mono e h2⟩
theorem VStep.det {H : Hp} {v w u : V} {s : Pst} (h : VStep H v s w) (q : VStep H v s u) : w = u := by
  cases s with
  | fld f =>
    obtain ⟨a, C, dx, fs, h1, h2, h3⟩ := h
    obtain ⟨b, C', dx', fs', q1, q2, q3⟩ := q
    rw [h1] at q1; cases q1
    rw [h2] at q2; cases q2
    rw [h3] at q3; exact Option.some.inj q3
  | idx k =>
    obtain ⟨a, vs, h1, h2, h3⟩ := h
    obtain ⟨b, ws, q1, q2, q3⟩ := q
    rw [h1] at q1; cases q1
    rw [h2] at q2; cases q2
    rw [h3] at q3; exact Option.some.inj q3
  | key k =>
    obtain ⟨a, vs, h1, h2, j, h3, h4⟩ := h
    obtain ⟨b, ws, q1, q2, j', q3, q4⟩ := q
    rw [h1] at q1; cases q1
    rw [h2] at q2; cases q2
    rw [h3] at q3; cases q3
    rw [h4] at q4; exact Option.some.inj q4
  | keyT k =>
    obtain ⟨a, vs, h1, h2, j, h3, h4⟩ := h
    obtain ⟨b, ws, q1, q2, j', q3, q4⟩ := q
    rw [h1] at q1; cases q1
    rw [h2] at q2; cases q2
    rw [h3] at q3; cases q3
    rw [h4] at q4; exact Option.some.inj q4
theorem VPath.det {H : Hp} : ∀ {st : List Pst} {v w u : V}, VPath H v st w -> VPath H v st u -> w = u
  | [], _, _, _, h, q => by cases h; cases q; rfl
  | _ :: _, _, _, _, ⟨x, h1, h2⟩, ⟨y, q1, q2⟩ => by
    cases h1.det q1
    exact VPath.det h2 q2
theorem VPath.snoc {H : Hp} : ∀ {st : List Pst} {v w u : V} {s : Pst}, VPath H v st w -> VStep H w s u -> VPath H v (st ++ [s]) u
  | [], _, _, _, _, h, q => by cases h; exact ⟨_, q, rfl⟩
  | _ :: _, _, _, _, _, ⟨x, h1, h2⟩, q => ⟨x, h1, VPath.snoc h2 q⟩
section
variable {T : Tbl} {W : Wd T} {F H : Hp}
theorem Owns.focus : ∀ {xs : List D} {vs : List V} {L : List Addr} {j : Nat} {n : D}, Owns W F H xs vs L -> L.Nodup -> xs[j]? = some n ->
    ∃ vn Ln Lr, vs[j]? = some vn /\ Own W F H n vn Ln /\ (Ln ++ Lr).Nodup /\ (∀ a, a ∈ Ln \/ a ∈ Lr ↔ a ∈ L) /\
      ∀ F' H' n' Ln', Same F F' -> (∀ a ∈ Lr, ∀ o, H a = some o -> H' a = some o) -> Own W F' H' n' vn Ln' -> (Ln' ++ Lr).Nodup -> ∃ L', Owns W F' H' (xs.set j n') vs L' /\ L'.Nodup /\ ∀ a, a ∈ L' ↔ a ∈ Ln' \/ a ∈ Lr
  | _, _, _, _, _, .nil, _, e => by simp at e
  | _, _, _, 0, n, .cons (L := L1) (M := M1) (v := v1) o t, nd, e => by
    simp at e; subst e
    refine ⟨v1, L1, M1, rfl, o, nd, fun a => List.mem_append.symm, fun F' H' n' Ln' s k o' nd' => ⟨Ln' ++ M1, ?_, nd', fun a => List.mem_append⟩⟩
    exact .cons o' (t.frame s k)
  | _, _, _, j + 1, n, .cons (L := L1) (M := M1) (v := v1) (d := d1) (ds := ds1) o t, nd, e => by
    rw [List.nodup_append] at nd
    obtain ⟨n1, n2, n3⟩ := nd
    obtain ⟨vn, Ln, Lr, h1, h2, h3, h4, h5⟩ := t.focus (j := j) n2 (by simpa using e)
    have hd : ∀ a ∈ L1, a ∉ Ln /\ a ∉ Lr := fun a ha => ⟨fun z => n3 a ha a ((h4 a).mp (.inl z)) rfl, fun z => n3 a ha a ((h4 a).mp (.inr z)) rfl⟩
    refine ⟨vn, Ln, L1 ++ Lr, by simpa using h1, h2, ?_, fun a => ?_, fun F' H' n' Ln' s k o' nd' => ?_⟩
    · rw [List.nodup_append] at h3 ⊢
      refine ⟨h3.1, ?_, fun a ha b hb q => ?_⟩
      · rw [List.nodup_append]
        exact ⟨n1, h3.2.1, fun a ha b hb q => (hd a ha).2 (q ▸ hb)⟩
      · subst q
        rcases List.mem_append.mp hb with z | z
        · exact (hd a z).1 ha
        · exact h3.2.2 a ha a z rfl
    · rw [List.mem_append, List.mem_append, <- h4 a]
      constructor
      · rintro (z | z | z)
        · exact .inr (.inl z)
        · exact .inl z
        · exact .inr (.inr z)
      · rintro (z | z | z)
        · exact .inr (.inl z)
        · exact .inl z
        · exact .inr (.inr z)
    · rw [List.nodup_append] at nd'
      obtain ⟨p1, p2, p3⟩ := nd'
      rw [List.nodup_append] at p2
      obtain ⟨L', q1, q2, q3⟩ := h5 F' H' n' Ln' s (fun a m => k a (List.mem_append_right _ m)) o' (by
        rw [List.nodup_append]
        exact ⟨p1, p2.2.1, fun a ha b hb => p3 a ha b (List.mem_append_right _ hb)⟩)
      refine ⟨L1 ++ L', .cons (o.frame s fun a m => k a (List.mem_append_left _ m)) q1, ?_, fun a => ?_⟩
      · rw [List.nodup_append]
        refine ⟨n1, q2, fun a ha b hb q => ?_⟩
        subst q
        rcases (q3 a).mp hb with z | z
        · exact p3 a z a (List.mem_append_left _ ha) rfl
        · exact p2.2.2 a ha a z rfl
      · rw [List.mem_append, List.mem_append, q3 a]
        constructor
        · rintro (z | z | z)
          · exact .inr (.inl z)
          · exact .inl z
          · exact .inr (.inr z)
        · rintro (z | z | z)
          · exact .inr (.inl z)
          · exact .inl z
          · exact .inr (.inr z)
theorem zipK_get {κ : Type} {ks : List κ} {vs : List V} (h : ks.length = vs.length) : ((ks.zip vs).map (·.1)) = ks /\ ((ks.zip vs).map (·.2)) = vs := ⟨by rw [List.map_fst_zip (by omega)], by rw [List.map_snd_zip (by omega)]⟩
theorem Own.focus1 {d n : D} {v : V} {L : List Addr} {s : Pst} (o : Own W F H d v L) (nd : L.Nodup) (h : d.sub s = some n) :
    ∃ vn Ln Lr, VStep H v s vn /\ Own W F H n vn Ln /\ (Ln ++ Lr).Nodup /\ (∀ a, a ∈ Ln \/ a ∈ Lr ↔ a ∈ L) /\
      ∀ F' H' n' Ln', Same F F' -> (∀ a ∈ Lr, ∀ o, H a = some o -> H' a = some o) -> Own W F' H' n' vn Ln' -> (Ln' ++ Lr).Nodup -> ∃ L', Own W F' H' (d.put s n') v L' /\ L'.Nodup /\ ∀ a, a ∈ L' ↔ a ∈ Ln' \/ a ∈ Lr := by
  have gen : ∀ {a : Addr} {xs : List D} {vs : List V} {M : List Addr} {j : Nat} {ho : HO} {G : List D -> D}, H a = some ho -> Owns W F H xs vs M -> (a :: M).Nodup -> xs[j]? = some n ->
      (∀ F' H' ys M', H' a = some ho -> Owns W F' H' ys vs M' -> Own W F' H' (G ys) (.ref a) (a :: M')) -> ∃ vn, vs[j]? = some vn /\ ∃ Ln Lr, Own W F H n vn Ln /\ (Ln ++ Lr).Nodup /\ (∀ b, b ∈ Ln \/ b ∈ Lr ↔ b ∈ a :: M) /\
      ∀ F' H' n' Ln', Same F F' -> (∀ a ∈ Lr, ∀ o, H a = some o -> H' a = some o) -> Own W F' H' n' vn Ln' -> (Ln' ++ Lr).Nodup -> ∃ L', Own W F' H' (G (xs.set j n')) (.ref a) L' /\ L'.Nodup /\ ∀ b, b ∈ L' ↔ b ∈ Ln' \/ b ∈ Lr := by
    intro a xs vs M j ho G ha os nd hj mk
    rw [List.nodup_cons] at nd
    obtain ⟨vn, Ln, Lr, h1, h2, h3, h4, h5⟩ := os.focus nd.2 hj
    have na : a ∉ Ln /\ a ∉ Lr := ⟨fun z => nd.1 ((h4 a).mp (.inl z)), fun z => nd.1 ((h4 a).mp (.inr z))⟩
    refine ⟨vn, h1, Ln, a :: Lr, h2, ?_, fun b => ?_, fun F' H' n' Ln' s k o' nd' => ?_⟩
    · rw [List.nodup_append] at h3 ⊢
      refine ⟨h3.1, List.nodup_cons.mpr ⟨na.2, h3.2.1⟩, fun x hx y hy q => ?_⟩
      subst q
      rcases List.mem_cons.mp hy with z | z
      · subst z; exact na.1 hx
      · exact h3.2.2 x hx x z rfl
    · rw [List.mem_cons, List.mem_cons, <- h4 b]
      constructor
      · rintro (z | z | z)
        · exact .inr (.inl z)
        · exact .inl z
        · exact .inr (.inr z)
      · rintro (z | z | z)
        · exact .inr (.inl z)
        · exact .inl z
        · exact .inr (.inr z)
    · rw [List.nodup_append] at nd'
      obtain ⟨p1, p2, p3⟩ := nd'
      rw [List.nodup_cons] at p2
      obtain ⟨L', q1, q2, q3⟩ := h5 F' H' n' Ln' s (fun b m => k b (List.mem_cons_of_mem _ m)) o' (by
        rw [List.nodup_append]
        exact ⟨p1, p2.2, fun x hx y hy => p3 x hx y (List.mem_cons_of_mem _ hy)⟩)
      refine ⟨a :: L', mk F' H' _ L' (k a (List.mem_cons_self ..) _ ha) q1, List.nodup_cons.mpr ⟨fun z => ?_, q2⟩, fun b => ?_⟩
      · rcases (q3 a).mp z with z | z
        · exact p3 a z a (List.mem_cons_self ..) rfl
        · exact p2.1 z
      · rw [List.mem_cons, List.mem_cons, q3 b]
        constructor
        · rintro (z | z | z)
          · exact .inr (.inl z)
          · exact .inl z
          · exact .inr (.inr z)
        · rintro (z | z | z)
          · exact .inr (.inl z)
          · exact .inl z
          · exact .inr (.inr z)
  unfold D.sub at h
  cases hp : d.place s with
  | none => rw [hp] at h; cases h
  | some j =>
    rw [hp] at h
    have h : d.parts[j]? = some n := h
    have hput : ∀ n', d.put s n' = d.withParts (d.parts.set j n') := fun n' => by unfold D.put; rw [hp]
    simp only [hput]
    cases o with
    | sh y =>
      cases y <;> (unfold D.place at hp; cases hp)
    | @olst a xs vs M ha os =>
      cases s with
      | idx k =>
        cases hp
        obtain ⟨vn, h1, Ln, Lr, h2⟩ := gen (G := .olst) ha os nd h fun F' H' ys M' q r => .olst q r
        exact ⟨vn, Ln, Lr, ⟨a, vs, rfl, ha, h1⟩, h2⟩
      | fld f => cases hp
      | key k => cases hp
      | keyT k => cases hp
    | @odic a ks xs vs M ha hl hn os =>
      cases s with
      | key k =>
        obtain ⟨vn, h1, Ln, Lr, h2⟩ := gen (G := .odic ks) ha os nd h fun F' H' ys M' q r => .odic q hl hn r
        obtain ⟨z1, z2⟩ := zipK_get hl
        exact ⟨vn, Ln, Lr, ⟨a, _, rfl, ha, j, by rw [z1]; exact hp, by rw [z2]; exact h1⟩, h2⟩
      | fld f => cases hp
      | idx k => cases hp
      | keyT k => cases hp
    | @odit a ks xs vs M ha hl hn os =>
      cases s with
      | keyT k =>
        obtain ⟨vn, h1, Ln, Lr, h2⟩ := gen (G := .odit ks) ha os nd h fun F' H' ys M' q r => .odit q hl hn r
        obtain ⟨z1, z2⟩ := zipK_get hl
        exact ⟨vn, Ln, Lr, ⟨a, _, rfl, ha, j, by rw [z1]; exact hp, by rw [z2]; exact h1⟩, h2⟩
      | fld f => cases hp
      | idx k => cases hp
      | key k => cases hp
    | odig => cases s <;> cases hp
    | @oins a C dx ns xs vs M ha hc hl os =>
      cases s with
      | fld f =>
        obtain ⟨vn, h1, Ln, Lr, h2⟩ := gen (G := .oins C ns) ha os nd h fun F' H' ys M' q r => .oins q hc hl r
        exact ⟨vn, Ln, Lr, ⟨a, _, dx, _, rfl, ha, by rw [zip_lookup hp]; exact h1⟩, h2⟩
      | idx k => cases hp
      | key k => cases hp
      | keyT k => cases hp
theorem Own.focus : ∀ {st : List Pst} {d n : D} {v : V} {L : List Addr}, Own W F H d v L -> L.Nodup -> d.at st = some n ->
    ∃ vn Ln Lr, VPath H v st vn /\ Own W F H n vn Ln /\ (Ln ++ Lr).Nodup /\ (∀ a, a ∈ Ln \/ a ∈ Lr ↔ a ∈ L) /\
      ∀ F' H' n' Ln', Same F F' -> (∀ a ∈ Lr, ∀ o, H a = some o -> H' a = some o) -> Own W F' H' n' vn Ln' -> (Ln' ++ Lr).Nodup -> ∃ L', Own W F' H' (d.putAt st n') v L' /\ L'.Nodup /\ ∀ a, a ∈ L' ↔ a ∈ Ln' \/ a ∈ Lr
  | [], d, n, v, L, o, nd, h => by
    cases h
    exact ⟨v, L, [], rfl, o, by simpa using nd, fun a => by simp, fun F' H' n' Ln' s k o' nd' => ⟨Ln', o', by simpa using nd', fun a => by simp⟩⟩
  | s :: st, d, n, v, L, o, nd, h => by
    unfold D.at at h
    cases hs : d.sub s with
    | none => rw [hs] at h; cases h
    | some x =>
      rw [hs] at h
      obtain ⟨vx, Lx, Ly, h1, h2, h3, h4, h5⟩ := o.focus1 nd hs
      obtain ⟨vn, Ln, Lr, k1, k2, k3, k4, k5⟩ := h2.focus (st := st) (List.nodup_append.mp h3).1 h
      have hput : ∀ n', d.putAt (s :: st) n' = d.put s (x.putAt st n') := fun n' => by
        show (match d.sub s with | some x => d.put s (x.putAt st n') | none => d) = _
        rw [hs]
      simp only [hput]
      rw [List.nodup_append] at h3
      obtain ⟨m1, m2, m3⟩ := h3
      refine ⟨vn, Ln, Lr ++ Ly, ⟨vx, h1, k1⟩, k2, ?_, fun a => ?_, fun F' H' n' Ln' sm k o' nd' => ?_⟩
      · rw [<- List.append_assoc, List.nodup_append]
        refine ⟨k3, m2, fun a ha b hb => m3 a ?_ b hb⟩
        exact (k4 a).mp (List.mem_append.mp ha)
      · rw [List.mem_append, <- h4 a, <- k4 a]
        constructor
        · rintro (z | z | z)
          · exact .inl (.inl z)
          · exact .inl (.inr z)
          · exact .inr z
        · rintro ((z | z) | z)
          · exact .inl z
          · exact .inr (.inl z)
          · exact .inr (.inr z)
      · rw [<- List.append_assoc, List.nodup_append] at nd'
        obtain ⟨p1, p2, p3⟩ := nd'
        obtain ⟨L', q1, q2, q3⟩ := k5 F' H' n' Ln' sm (fun a m => k a (List.mem_append_left _ m)) o' p1
        obtain ⟨L2, r1, r2, r3⟩ := h5 F' H' _ L' sm (fun a m => k a (List.mem_append_right _ m)) q1 (by
          rw [List.nodup_append]
          exact ⟨q2, p2, fun a ha b hb => p3 a (List.mem_append.mpr ((q3 a).mp ha)) b hb⟩)
        refine ⟨L2, r1, r2, fun a => ?_⟩
        rw [r3 a, q3 a, List.mem_append]
        constructor
        · rintro ((z | z) | z)
          · exact .inl z
          · exact .inr (.inl z)
          · exact .inr (.inr z)
        · rintro (z | z | z)
          · exact .inl (.inl z)
          · exact .inl (.inr z)
          · exact .inr z
theorem D.at_snoc {s : Pst} {x n : D} : ∀ {st : List Pst} {d : D}, d.at st = some n -> n.sub s = some x -> d.at (st ++ [s]) = some x
  | [], d, h, q => by
    have h : some d = some n := h
    cases h
    show (n.sub s).bind _ = _
    rw [q]; rfl
  | p :: st, d, h, q => by
    obtain ⟨y, h1, h2⟩ := Option.bind_eq_some_iff.mp h
    show (d.sub p).bind _ = _
    rw [h1]
    exact D.at_snoc h2 q
theorem Owns.snoc : ∀ {xs : List D} {vs : List V} {M M2 : List Addr} {d : D} {v : V}, Owns W F H xs vs M -> Own W F H d v M2 -> Owns W F H (xs ++ [d]) (vs ++ [v]) (M ++ M2)
  | _, _, _, M2, _, _, .nil, o => by
    have h := Owns.cons o (Owns.nil (W := W) (F := F) (H := H))
    rw [List.append_nil] at h
    exact h
  | _, _, _, M2, _, _, .cons (L := L) (M := M) h t, o => by
    have q := Owns.cons h (t.snoc o)
    rw [<- List.append_assoc] at q
    exact q
theorem Rel.focus {e : Ent} {env : Py.Env} {σ : St} {L : List Addr} {i : Nat} {d0 n : D} {st : List Pst} (r : Rel W e env F σ H L) (h0 : env[i]? = some (some d0)) (h1 : d0.at st = some n) :
    ∃ v0 vn Ln Lr, σ[i]? = some (some v0) /\ VPath H v0 st vn /\ Own W F H n vn Ln /\ (Ln ++ Lr).Nodup /\ (∀ a, a ∈ Ln \/ a ∈ Lr ↔ a ∈ L) /\
      ∀ F' H' n' Ln', Same F F' -> Same F' H' -> (∀ a o, a ∉ Ln -> H a = some o -> H' a = some o) -> (∀ a o, F' a = some o -> F a = some o \/ (H a = none \/ a ∉ L /\ (a ∈ e.L0 \/ e.H0 a = none)) \/ a ∈ Ln) -> Own W F' H' n' vn Ln' -> (Ln' ++ Lr).Nodup -> (∀ a ∈ Ln', F' a = none /\ (a ∈ Ln \/ a ∈ e.L0 \/ e.H0 a = none)) ->
        ∃ L', Rel W e (env.set i (some (d0.putAt st n'))) F' σ H' L' /\ ∀ a ∈ L', a ∈ Ln' \/ a ∈ Lr := by
  obtain ⟨v0, Li, Lj, e1, o, sl, nd, mem⟩ := r.slots.take r.nd h0
  obtain ⟨vn, Ln, Lr, k1, k2, k3, k4, k5⟩ := o.focus (List.nodup_append.mp nd).1 h1
  rw [List.nodup_append] at nd
  obtain ⟨m1, m2, m3⟩ := nd
  have tot : ∀ a, a ∈ Ln \/ a ∈ Lr ++ Lj ↔ a ∈ L := fun a => by
    rw [List.mem_append, <- mem a, <- k4 a]
    constructor
    · rintro (z | z | z)
      · exact .inl (.inl z)
      · exact .inl (.inr z)
      · exact .inr z
    · rintro ((z | z) | z)
      · exact .inl z
      · exact .inr (.inl z)
      · exact .inr (.inr z)
  have ndT : (Ln ++ (Lr ++ Lj)).Nodup := by
    rw [<- List.append_assoc, List.nodup_append]
    exact ⟨k3, m2, fun a ha b hb => m3 a ((k4 a).mp (List.mem_append.mp ha)) b hb⟩
  refine ⟨v0, vn, Ln, Lr ++ Lj, e1, k1, k2, ndT, tot, fun F' H' n' Ln' sF sH fr nw o' nd' hn => ?_⟩
  have notn : ∀ a ∈ Lr ++ Lj, a ∉ Ln := fun a ha z => (List.nodup_append.mp ndT).2.2 a z a ha rfl
  have keep : ∀ a ∈ Lr ++ Lj, ∀ o, H a = some o -> H' a = some o := fun a ha o q => fr a o (notn a ha) q
  rw [<- List.append_assoc, List.nodup_append] at nd'
  obtain ⟨p1, p2, p3⟩ := nd'
  obtain ⟨L', q1, q2, q3⟩ := k5 F' H' n' Ln' sF (fun a m => keep a (List.mem_append_left _ m)) o' p1
  have sl' := sl.frame (F' := F') (H' := H') sF fun a m => keep a (List.mem_append_right _ m)
  have hi : i < env.length := (List.getElem?_eq_some_iff.mp h0).1
  obtain ⟨L2, s1, s2, s3⟩ := sl'.put (i := i) (v := v0) q1 (by
    rw [List.nodup_append]
    exact ⟨q2, p2, fun a ha b hb => p3 a (List.mem_append.mpr ((q3 a).mp ha)) b hb⟩) (by simpa using hi)
  have hset : (env.set i none).set i (some (d0.putAt st n')) = env.set i (some (d0.putAt st n')) := by rw [List.set_set]
  have hσ : σ.set i (some v0) = σ := by
    apply List.ext_getElem?
    intro k
    by_cases hk : i = k
    · subst hk
      obtain ⟨hlt, _⟩ := List.getElem?_eq_some_iff.mp e1
      rw [List.getElem?_set_self hlt, e1]
    · rw [List.getElem?_set_ne hk]
  rw [hset, hσ] at s1
  have inL : ∀ a ∈ L2, (a ∈ Ln' \/ a ∈ Lr ++ Lj) := fun a ha => by
    rcases s3 a ha with z | z
    · rcases (q3 a).mp z with z | z
      · exact .inl z
      · exact .inr (List.mem_append_left _ z)
    · exact .inr (List.mem_append_right _ z)
  have nr : ∀ a ∈ Lr ++ Lj, F' a = none := fun a ha => by
    obtain ⟨o, ho⟩ := r.slots.lives a ((tot a).mp (.inr ha))
    cases q : F' a with
    | none => rfl
    | some u =>
      rcases nw a u q with z | (z | z) | z
      · rw [r.dj a ((tot a).mp (.inr ha))] at z; cases z
      · rw [ho] at z; cases z
      · exact absurd ((tot a).mp (.inr ha)) z.1
      · exact absurd z (notn a ha)
  refine ⟨L2, ⟨sH, s1, s2, fun a ha => ?_, r.s0.trans sF, fun a o q => ?_, fun a o m q => ?_, fun a ha => ?_, r.pin⟩, inL⟩
  · rcases inL a ha with z | z
    · exact (hn a z).1
    · exact nr a z
  · rcases nw a o q with z | (z | z) | z
    · exact r.nw a o z
    · exact .inr ((r.h0 z).elim .inr .inl)
    · exact .inr (z.2.elim .inr .inl)
    · exact .inr ((r.ln a ((tot a).mp (.inl z))).elim .inr .inl)
  · have h := r.fr a o m q
    refine fr a o (fun z => ?_) h
    rcases r.ln a ((tot a).mp (.inl z)) with y | y
    · exact m y
    · rw [q] at y; cases y
  · rcases inL a ha with z | z
    · rcases (hn a z).2 with y | y
      · exact r.ln a ((tot a).mp (.inl y))
      · exact y
    · exact r.ln a ((tot a).mp (.inr z))
end
end Py
namespace Py
open PySem L2
section
variable {T : Tbl} {W : Wd T} {env : Py.Env} {t ta tb tk : TE} {tr : TA} {d d0 d1 d2 : D} {i : Nat} {st : List Pst} {P : List Nat} {E : WX} {A : AEnds}
def ALoc {T : Tbl} (W : Wd T) (t : TE) (env : Py.Env) (i : Nat) (st : List Pst) : Prop :=
  ∀ (e : Ent) (F : Hp) (σ : St) (H : Hp) (L : List Addr) (v0 : V) (Q : VK), Rel W e env F σ H L -> σ[i]? = some (some v0) -> (∀ v F' H', Ext F H F' H' -> VPath H' v0 st v -> Q v H') -> t σ H Q
theorem loc_var : ALoc W (tVar i) env i [] := fun e F σ H L v0 Q r h q => ⟨v0, h, q v0 F H (.refl r.sF) rfl⟩
end
end Py
namespace Py
open PySem L2
section
variable {X : Cx}
def CMulU (i j : Int) : Prop := CMul i j \/ CMulW i j
def CDivU (i j : Int) : Prop := CDiv i j \/ CDivW i j
theorem cmul_l {i j : Int} (h1 : -(2 ^ 64) < i) (h2 : i < 2 ^ 64) : CMulU i j := .inl (.inl ⟨h1, h2⟩)
theorem cmul_r {i j : Int} (h1 : -(2 ^ 64) < j) (h2 : j < 2 ^ 64) : CMulU i j := .inl (.inr ⟨h1, h2⟩)
theorem cmul_w {i j : Int} (h1 : i.natAbs < 2 ^ 4000) (h2 : j.natAbs < 2 ^ 4000) : CMulU i j := .inr (wide_mul h1 h2 (by decide) (by decide) (by decide))
theorem cdiv_s {i j : Int} (h1 : 0 < j) (h2 : j < 1073741824) : CDivU i j := .inl ⟨h1, h2⟩
theorem cdiv_w {i j : Int} (h1 : 0 < j) (h2 : j.natAbs < 2 ^ 4000) : CDivU i j := .inr (wide_div h1 h2 (by decide) (by decide))
theorem op_mulU : OpR X (binaryOp .Mult) (rI CMulU fun i j => .int (i * j)) := opI fun _ _ _ _ _ _ _ hc q => PyProof.Rows.mul_int q (hc.elim CMul.ok CMulW.ok)
theorem op_divU : OpR X (binaryOp .FloorDiv) (rI CDivU fun i j => .int (i / j)) := fun pins s σ H x y v u Q I rx ry h => by
  obtain ⟨i, j, e1, e2, hc, q⟩ := h
  rcases hc with hc | hc
  · exact op_fdiv pins s σ H x y v u Q I rx ry ⟨i, j, e1, e2, hc, q⟩
  · exact op_fdivW pins s σ H x y v u Q I rx ry ⟨i, j, e1, e2, hc, q⟩
theorem opAdd : OpR X (binaryOp .Add) (fun x y H Q => rI0 (fun i j => .int (i + j)) x y H Q \/ (fun x y H Q => rCat x y H Q \/ rCatT X.K x y H Q) x y H Q) := OpR.or op_add (OpR.or op_cat op_catT)
theorem opMul : OpR X (binaryOp .Mult) (rI CMulU fun i j => .int (i * j)) := op_mulU
theorem opDiv : OpR X (binaryOp .FloorDiv) (rI CDivU fun i j => .int (i / j)) := op_divU
theorem opEq (hu : X.A.units + 64 < cLine) : OpR X (compareOp .Eq) (fun x y H Q => rEq x y H Q \/ rEqD X.K x y H Q) := OpR.or op_eq (op_eqD hu)
theorem opNe (hu : X.A.units + 64 < cLine) : OpR X (compareOp .NotEq) (fun x y H Q => rNe x y H Q \/ rNeD X.K x y H Q) := OpR.or op_ne (op_neD hu)
theorem opLt (hu : X.A.units < cLine) : OpR X (compareOp .Lt) (fun x y H Q => rI0 (fun i j => .bl (decide (i < j))) x y H Q \/ rLtT X.K x y H Q) := OpR.or op_lt (op_ltT hu)
theorem ixU : IxR X (rIxU X.K) := ix_list.or ix_tup
theorem call_intU : CallR X (.type "int") (fun xs H Q => (∃ i, xs = [.int i] /\ Q (.int i) H) \/ ∃ k, xs = [.bl k] /\ Q (.int (if k then 1 else 0)) H) := call_int1
theorem call_absU : CallR X (.builtin "abs") (fun xs H Q => ∃ i, xs = [.int i] /\ Q (.int (if i < 0 then -i else i)) H) := call_abs
theorem call_lenU : CallR X (.builtin "len") (rLenU X.K) := call_len_seq
theorem call_listU : CallR X (.type "list") (fun xs H Q => ∃ p ys, xs = [.ref p] /\ (SqL X.K H p ys \/ SqT X.K H p ys) /\ ∀ l, H l = none -> Q (.ref l) (upd H l (.lst ys))) := call_list_of
theorem pt_truU {a : Expr} {ta : TE} (ha : PE X a ta) (he : ∀ whole, isTrue a X.env whole = (do let v <- whole; standAt a.pos; holding [v] (truthy v)) := by intro _; rfl) :
    PT X a (fun σ H Q => ta σ H fun x H' => ∃ k, TruV X.K x H' k /\ Q k H') := pt_truth ha he
end
end Py
namespace Py
open PySem L2
section
variable {T : Tbl} {W : Wd T} {env : Py.Env} {t ta tb te : TE} {tr : TA} {d d0 d1 d2 : D} {ds es : List D} {i : Nat} {P : List Nat} {E : WX} {A : AEnds}
structure Seq {T : Tbl} (W : Wd T) (J : It) (ds : List D) (F0 : Hp) : Prop where
  go : ∀ (i : Nat) (d : D) (F H : Hp), Same F0 F -> Same F H -> ds[i]? = some d -> J.go i H /\ ∀ x H', J.yld i H x H' -> ∃ F', Ext F H F' H' /\ Shr W F' d x
  stop : ∀ (F H : Hp), Same F0 F -> Same F H -> J.stop ds.length H
def AIt {T : Tbl} (W : Wd T) (wi : TI) (env : Py.Env) (ds : List D) : Prop :=
  ∀ (e : Ent) (F : Hp) (σ : St) (H : Hp) (L : List Addr) (R : It -> Hp -> Prop), Rel W e env F σ H L -> (∀ J F' H', Ext F H F' H' -> Seq W J ds F' -> R J H') -> wi σ H R
theorem seq_list {F0 : Hp} {a : Addr} {vs : List V} (h : F0 a = some (.lst vs)) (hs : Shrs W F0 ds vs) : Seq W (Itl W.K a) ds F0 where
  go := fun i d F H s1 s2 hd => by
    obtain ⟨v, hv, sv⟩ := hs.get hd
    refine ⟨⟨vs, v, .of (s2 _ _ (s1 _ _ h)), hv⟩, fun x H' y => ?_⟩
    obtain ⟨rfl, y⟩ := y
    have := y vs (.of (s2 _ _ (s1 _ _ h)))
    rw [hv] at this; cases this
    exact ⟨F, .refl s2, sv.mono s1⟩
  stop := fun F H s1 s2 => ⟨vs, .of (s2 _ _ (s1 _ _ h)), by rw [hs.length]; exact Nat.le_refl _⟩
theorem seq_tup {F0 : Hp} {a : Addr} {vs : List V} (h : F0 a = some (.tup vs)) (hs : Shrs W F0 ds vs) : Seq W (Itt W.K a) ds F0 where
  go := fun i d F H s1 s2 hd => by
    obtain ⟨v, hv, sv⟩ := hs.get hd
    refine ⟨⟨vs, v, .of (s2 _ _ (s1 _ _ h)), hv⟩, fun x H' y => ?_⟩
    obtain ⟨rfl, y⟩ := y
    have := y vs (.of (s2 _ _ (s1 _ _ h)))
    rw [hv] at this; cases this
    exact ⟨F, .refl s2, sv.mono s1⟩
  stop := fun F H s1 s2 => ⟨vs, .of (s2 _ _ (s1 _ _ h)), by rw [hs.length]; exact Nat.le_refl _⟩
def rangeD (lo : Int) (n : Nat) : List D := (List.range n).map fun k : Nat => D.int (lo + (k : Nat))
theorem rangeD_length (lo : Int) (n : Nat) : (rangeD lo n).length = n := by simp [rangeD]
theorem rangeD_get {lo : Int} {n i : Nat} {d : D} (h : (rangeD lo n)[i]? = some d) : i < n /\ d = .int (lo + (i : Nat)) := by
  unfold rangeD at h
  rw [List.getElem?_map] at h
  by_cases hi : i < n
  · rw [List.getElem?_range hi] at h
    exact ⟨hi, (Option.some.inj h).symm⟩
  · rw [List.getElem?_eq_none (by simpa using hi)] at h; cases h
theorem seq_range {F0 : Hp} {lo : Int} {n : Nat} : Seq W (Itr lo n) (rangeD lo n) F0 where
  go := fun i d F H s1 s2 hd => by
    obtain ⟨hi, rfl⟩ := rangeD_get hd
    refine ⟨hi, fun x H' y => ?_⟩
    obtain ⟨rfl, rfl⟩ := y
    exact ⟨F, .refl s2, .int⟩
  stop := fun F H s1 s2 => by rw [rangeD_length]; exact Nat.le_refl n
theorem ait_list (h : AE W t env (rF W (.lst ds))) : AIt W (iList W.K t) env ds := fun e F σ H L R r q =>
  h e F σ H L _ r fun v F1 H1 x1 y1 => by
    cases y1 with
    | lst hF hS => exact ⟨_, rfl, ⟨_, .of (x1.s _ _ hF)⟩, q _ F1 H1 x1 (seq_list hF hS)⟩
theorem ait_tup (h : AE W t env (rF W (.tup ds))) : AIt W (iTup W.K t) env ds := fun e F σ H L R r q =>
  h e F σ H L _ r fun v F1 H1 x1 y1 => by
    cases y1 with
    | tup hF hS => exact ⟨_, rfl, ⟨_, .of (x1.s _ _ hF)⟩, q _ F1 H1 x1 (seq_tup hF hS)⟩
theorem ait_range {n : Int} (h : AA W tr env (rVs W [.int n])) (hb : -(2 ^ 62) <= n /\ n < 2 ^ 62) : AIt W (iRng1 tr) env (rangeD 0 n.toNat) := fun e F σ H L R r q =>
  h e F σ H L _ r fun vs F1 H1 x1 y1 => by
    cases y1 with
    | cons a b =>
      cases a; cases b
      exact ⟨n, rfl, hb.1, hb.2, q _ F1 H1 x1 seq_range⟩
theorem ait_range2 {lo n : Int} (h : AA W tr env (rVs W [.int lo, .int n])) (hb : -(2 ^ 62) <= lo /\ lo < 2 ^ 62 /\ -(2 ^ 62) <= n /\ n < 2 ^ 62) : AIt W (iRng2 tr) env (rangeD lo (n - lo).toNat) := fun e F σ H L R r q =>
  h e F σ H L _ r fun vs F1 H1 x1 y1 => by
    cases y1 with
    | cons a b =>
      cases a
      cases b with
      | cons a b =>
        cases a; cases b
        exact ⟨lo, n, rfl, hb, q _ F1 H1 x1 seq_range⟩
def enumD (ds : List D) : List D := ds.mapIdx fun k d => D.tup [.int (k : Nat), d]
theorem enumD_get {d : D} (h : (enumD ds)[i]? = some d) : ∃ y, ds[i]? = some y /\ d = .tup [.int (i : Nat), y] := by
  unfold enumD at h
  rw [List.getElem?_mapIdx] at h
  cases e : ds[i]? with
  | none => rw [e] at h; cases h
  | some y => rw [e] at h; exact ⟨y, rfl, (Option.some.inj h).symm⟩
theorem enumD_length : (enumD ds).length = ds.length := by simp [enumD]
theorem ait_enum (h : AE W t env (rF W (.lst ds))) : AIt W (iEnum W.K (tCons t tNil)) env (enumD ds) := fun e F σ H L R r q =>
  h e F σ H L _ r fun v F1 H1 x1 y1 => by
    cases y1 with
    | lst hF hS =>
      rename_i a vs
      refine ⟨a, vs, rfl, .of (x1.s _ _ hF), q _ F1 H1 x1 ⟨fun i d F H s1 s2 hd => ?_, fun F H s1 s2 => ?_⟩⟩
      · obtain ⟨y, hy, rfl⟩ := enumD_get hd
        obtain ⟨w, hw, sw⟩ := hS.get hy
        refine ⟨⟨vs, w, .of (s2 _ _ (s1 _ _ hF)), hw⟩, fun x H' yl => ?_⟩
        obtain ⟨T, y', rfl, hT, rfl, hy'⟩ := yl
        have := hy' vs (.of (s2 _ _ (s1 _ _ hF)))
        rw [hw] at this; cases this
        refine ⟨_, .new s2 hT, .tup upd_same (.cons .int (.cons ?_ .nil))⟩
        exact (sw.mono s1).mono (same_new (s2.free hT))
      · exact ⟨vs, .of (s2 _ _ (s1 _ _ hF)), by rw [enumD_length, hS.length]; exact Nat.le_refl _⟩
def iSeqU (K : PySem.W.Frag) (tl : TE) : TI := fun σ H R => iList K tl σ H R \/ iTup K tl σ H R
theorem pi_seqU {X : Cx} {tg l : Expr} {tl : TE} (hl : PE X l tl) : PI X tg l (iSeqU X.K tl) := ⟨fun pins s σ H R I h => h.elim (fun h => (pi_list hl).run pins s σ H R I h) fun h => (pi_tup hl).run pins s σ H R I h⟩
theorem at_yes : AT W tYes env true := fun e F σ H L Q r q => q F H (.refl r.sF)
theorem as_for {wi : TI} {g : TG} {tb : TS} (h : AIt W wi env ds) (Iv : Nat -> Py.Env -> Prop) (h0 : Iv 0 env)
    (hs : ∀ i d env', ds[i]? = some d -> Iv i env' -> AG W P g d env' fun e2 => AS W P E tb e2 { A with nx := Iv (i + 1), ct := Iv (i + 1), bk := A.nx })
    (hd : ∀ env', Iv ds.length env' -> A.nx env') : AS W P E (tFor wi g tb) env A := fun e F σ H L Dn hP r s =>
  h e F σ H L _ r fun J F1 H1 x1 sq => by
    have r1 := r.ext x1
    refine ⟨fun i m σ H => m = ds.length - i /\ i <= ds.length /\ ∃ env' F L, Iv i env' /\ Rel W { e with F0 := F1 } env' F σ H L, ⟨ds.length, rfl, Nat.zero_le _, env, F1, L, h0, r1.enter⟩, ?_⟩
    rintro i m σ H ⟨rfl, hi, env', F, L, hI, q⟩
    by_cases hlt : i < ds.length
    · have hd' : ds[i]? = some ds[i] := List.getElem?_eq_getElem hlt
      obtain ⟨g1, g2⟩ := sq.go i _ F H q.s0 q.sF hd'
      refine .inr ⟨g1, fun σ H => ∃ env' F L, Iv (i + 1) env' /\ Rel W { e with F0 := F1 } env' F σ H L, fun σ' H' p' => ⟨ds.length - (i + 1), by omega, rfl, hlt, p'⟩, fun x H' y => ?_⟩
      obtain ⟨F2, x2, sx⟩ := g2 x H' y
      refine hs i _ env' hd' hI { e with F0 := F1 } F2 σ H' L x _ hP (q.ext x2) sx fun env2 σ2 L2 k2 q2 => k2 { e with F0 := F1 } F2 σ2 H' L2 _ hP q2 ?_
      exact ⟨fun e3 F3 σ3 H3 L3 w q3 => ⟨e3, F3, L3, w, q3⟩, fun d e3 F3 σ3 H3 L3 v M w q3 => s.rt d e3 F3 σ3 H3 L3 v M w (r1.leave q3), fun e3 F3 σ3 H3 L3 w q3 => s.nx e3 F3 σ3 H3 L3 w (r1.leave q3),
        fun e3 F3 σ3 H3 L3 w q3 => ⟨e3, F3, L3, w, q3⟩, fun x e3 F3 σ3 H3 L3 C dd w q3 => s.ex x e3 F3 σ3 H3 L3 C dd w (r1.leave q3)⟩
    · have e0 : i = ds.length := by omega
      subst e0
      exact .inl ⟨sq.stop F H q.s0 q.sF, s.nx _ _ _ _ _ (hd env' hI) (r1.leave q)⟩
def wipeE (env : Py.Env) : List Nat -> Py.Env
  | [] => env
  | v :: vs => (wipeE env vs).set v none
theorem Slots.kill {F H : Hp} {o : Option V} : ∀ {env : Py.Env} {σ : St} {L : List Addr} {i : Nat}, Slots W F H env σ L -> L.Nodup -> ∃ L', Slots W F H (env.set i none) (σ.set i o) L' /\ L'.Nodup /\ ∀ a ∈ L', a ∈ L
  | _, _, _, i, .nil, nd => ⟨[], by simpa using Slots.nil, nd, fun a h => h⟩
  | _, _, _, 0, .so (L := L1) (M := M1) h t, nd => ⟨M1, .no t, (List.nodup_append.mp nd).2.1, fun a h => List.mem_append_right _ h⟩
  | _, _, _, 0, .no (M := M1) t, nd => ⟨M1, .no t, nd, fun a h => h⟩
  | _, _, _, i + 1, .so (L := L1) (M := M1) h t, nd => by
    rw [List.nodup_append] at nd
    obtain ⟨n1, n2, n3⟩ := nd
    obtain ⟨L', s, nd', m⟩ := t.kill (i := i) (o := o) n2
    refine ⟨L1 ++ L', .so h s, ?_, fun a ha => ?_⟩
    · rw [List.nodup_append]
      exact ⟨n1, nd', fun a ha b hb => n3 a ha b (m b hb)⟩
    · rcases List.mem_append.mp ha with q | q
      · exact List.mem_append_left _ q
      · exact List.mem_append_right _ (m a q)
  | _, _, _, i + 1, .no (M := M1) t, nd => by
    obtain ⟨L', s, nd', m⟩ := t.kill (i := i) (o := o) nd
    exact ⟨L', .no s, nd', m⟩
theorem Rel.wipe {e : Ent} {F H : Hp} {σ : St} {L : List Addr} (r : Rel W e env F σ H L) (hp : e.pins = []) : ∀ vs : List Nat, ∃ L', Rel W e (wipeE env vs) F (L2.wipe σ vs) H L' /\ ∀ a ∈ L', a ∈ L
  | [] => ⟨L, r, fun _ h => h⟩
  | v :: vs => by
    obtain ⟨L1, r1, m1⟩ := r.wipe hp vs
    obtain ⟨L2, s, nd, m⟩ := r1.slots.kill (i := v) (o := none) r1.nd
    exact ⟨L2, ⟨r1.sF, s, nd, fun a h => r1.dj a (m a h), r1.s0, r1.nw, r1.fr, fun a h => r1.ln a (m a h), fun p hm => by rw [hp] at hm; cases hm⟩, fun a h => m1 a (m a h)⟩
theorem Rel.nopin {e : Ent} {F H : Hp} {σ : St} {L : List Addr} (r : Rel W e env F σ H L) : Rel W { e with pins := [] } env F σ H L := ⟨r.sF, r.slots, r.nd, r.dj, r.s0, r.nw, r.fr, r.ln, fun _ h => nomatch h⟩
theorem Rel.free {e : Ent} {F H : Hp} {σ : St} {L : List Addr} {p : Addr} {o : HO} (r : Rel W e env F σ H L) (h1 : p ∉ L) (h2 : F p = none) (h3 : p ∈ e.L0 \/ e.H0 p = none) : Rel W e env F σ (upd H p o) L where
  sF := fun b u hb => by rw [upd_ne (fun z => by rw [z, h2] at hb; cases hb)]; exact r.sF _ _ hb
  slots := r.slots.frame (Same.refl _) fun a m u hu => by rw [upd_ne (fun z => h1 (by rw [<- z]; exact m))]; exact hu
  nd := r.nd
  dj := r.dj
  s0 := r.s0
  nw := r.nw
  fr := fun a u m hu => by
    rw [upd_ne (fun z => ?_)]
    · exact r.fr a u m hu
    · subst z
      rcases h3 with q | q
      · exact m q
      · rw [q] at hu; cases hu
  ln := r.ln
  pin := r.pin
def GW (g : TG) (vs : List Nat) : Prop := ∀ (v : V) (σ : St) (H : Hp) (Q : St -> Hp -> Prop), g v σ H Q -> g v σ H fun σ2 H2 => wipe σ2 vs = wipe σ vs /\ Q σ2 H2
def GWs (g : TGs) (vs : List Nat) : Prop := ∀ (v : List V) (σ : St) (H : Hp) (Q : St -> Hp -> Prop), g v σ H Q -> g v σ H fun σ2 H2 => wipe σ2 vs = wipe σ vs /\ Q σ2 H2
theorem wipe_comm {n : Nat} {o : Option V} : ∀ (vs : List Nat) (σ : St), n ∉ vs -> wipe (σ.set n o) vs = (wipe σ vs).set n o
  | [], σ, _ => rfl
  | w :: ws, σ, hn => by
    unfold wipe
    rw [wipe_comm ws σ (fun z => hn (List.mem_cons_of_mem _ z)), List.set_comm _ _ (fun z => hn (by rw [z]; exact List.mem_cons_self ..))]
theorem wipe_set {σ : St} {n : Nat} {o : Option V} : ∀ {vs : List Nat}, n ∈ vs -> wipe (σ.set n o) vs = wipe σ vs
  | [], h => nomatch h
  | v :: vs, h => by
    unfold wipe
    by_cases hv : n ∈ vs
    · rw [wipe_set hv]
    · rcases List.mem_cons.mp h with z | z
      · subst z
        rw [wipe_comm vs σ hv, List.set_set]
      · exact absurd z hv
theorem wipe_wipe {σ : St} : ∀ {vs : List Nat}, wipe (wipe σ vs) vs = wipe σ vs
  | [] => rfl
  | v :: vs => by
    have e : wipe σ (v :: vs) = (wipe σ vs).set v none := rfl
    rw [e]
    show (wipe ((wipe σ vs).set v none) vs).set v none = _
    by_cases hv : v ∈ vs
    · rw [wipe_set hv, wipe_wipe]
    · rw [wipe_comm vs _ hv, wipe_wipe, List.set_set]
theorem gw_name {n : Nat} {vs : List Nat} (h : n ∈ vs) : GW (gName n) vs := fun v σ H Q q => ⟨wipe_set h, q⟩
theorem gws_nil {vs : List Nat} : GWs gNil vs := fun v σ H Q ⟨h, q⟩ => ⟨h, rfl, q⟩
theorem gw_tup {k : Nat} {gs : TGs} {vs : List Nat} (h : GWs gs vs) : GW (gTup W.K k gs) vs := fun v σ H Q ⟨a, xs, e1, e2, e3, q⟩ => ⟨a, xs, e1, e2, e3, h xs σ H Q q⟩
structure SeqP {T : Tbl} (W : Wd T) (J : It) (ds : List D) (F0 H0 : Hp) : Prop where
  go : ∀ (i : Nat) (d : D) (F H : Hp), Same F0 F -> Same H0 H -> Same F H -> ds[i]? = some d -> J.go i H /\ ∀ x H', J.yld i H x H' -> ∃ F', Ext F H F' H' /\ Shr W F' d x
  stop : ∀ (F H : Hp), Same F0 F -> Same H0 H -> Same F H -> J.stop ds.length H
def AIp {T : Tbl} (W : Wd T) (wi : TI) (env : Py.Env) (ds : List D) : Prop :=
  ∀ (e : Ent) (F : Hp) (σ : St) (H : Hp) (L : List Addr) (R : It -> Hp -> Prop), Rel W e env F σ H L -> (∀ J F' H', Ext F H F' H' -> SeqP W J ds F' H' -> R J H') -> wi σ H R
theorem AIt.p {wi : TI} (h : AIt W wi env ds) : AIp W wi env ds := fun e F σ H L R r q => h e F σ H L R r fun J F' H' x s => q J F' H' x ⟨fun i d F1 H1 a _ c e => s.go i d F1 H1 a c e, fun F1 H1 a _ c => s.stop F1 H1 a c⟩
theorem ae_lc {wi : TI} {g : TG} {tt : TT} {vs : List Nat} (h : AIp W wi env ds) (hg : GW g vs) (rs : Nat -> List D) (h0 : rs 0 = [])
    (hs : ∀ (i : Nat) (d : D), ds[i]? = some d -> AG W [] g d (wipeE env vs) fun e2 => ∃ b, AT W tt e2 b /\ (b = true -> ∃ y, AE W te e2 (rO W y) /\ rs (i + 1) = rs i ++ [y]) /\ (b = false -> rs (i + 1) = rs i))
    (hz : ∀ i, i <= ds.length -> (rs i).length < 1000000) : AE W (tLc wi g tt te vs) env (rO W (.olst (rs ds.length))) := fun e F σ H L Q r q =>
  h e F σ H L _ r fun J F1 H1 x1 sq => by
    intro Dl hD
    have r1 := (r.ext x1).nopin
    obtain ⟨Lw, rw', mw⟩ := r1.wipe rfl vs
    have hF1 : F1 Dl = none := x1.s.free hD
    have hH : H Dl = none := x1.h.free hD
    refine ⟨fun i m H' => m = ds.length - i /\ i <= ds.length /\ ∃ F' ws M, Ext F H F' H' /\ (Same F1 F' /\ Same H1 H') /\ Rel W { e with pins := [] } (wipeE env vs) F' (wipe σ vs) H' Lw /\ H' Dl = some (.lst ws) /\ F' Dl = none /\ Owns W F' H' (rs i) ws M /\ (Dl :: M).Nodup /\ ∀ a ∈ M, H a = none /\ F' a = none,
      ⟨ds.length, rfl, Nat.zero_le _, F1, [], [], ?_, ⟨Same.refl _, same_new hD⟩, ?_, upd_same, hF1, by rw [h0]; exact .nil, by simp, fun a h => nomatch h⟩, ?_⟩
    · exact x1.trans (.newH x1.s hD)
    · exact rw'.ext (.newH x1.s hD)
    rintro i m H' ⟨rfl, hi, F', ws, M, xE, s1, rr, hl, hFD, os, nd, hM⟩
    have hDL : Dl ∉ Lw := fun z => by
      obtain ⟨o, ho⟩ := rw'.slots.lives Dl z
      rw [hD] at ho; cases ho
    by_cases hlt : i < ds.length
    · have hd' : ds[i]? = some ds[i] := List.getElem?_eq_getElem hlt
      obtain ⟨g1, g2⟩ := sq.go i _ F' H' s1.1 s1.2 rr.sF hd'
      refine .inr ⟨g1, fun H'' => ∃ F' ws M, Ext F H F' H'' /\ (Same F1 F' /\ Same H1 H'') /\ Rel W { e with pins := [] } (wipeE env vs) F' (wipe σ vs) H'' Lw /\ H'' Dl = some (.lst ws) /\ F' Dl = none /\ Owns W F' H'' (rs (i + 1)) ws M /\ (Dl :: M).Nodup /\ ∀ a ∈ M, H a = none /\ F' a = none,
        fun H'' p' => ⟨ds.length - (i + 1), by omega, rfl, hlt, p'⟩, fun x H2 y => ?_⟩
      obtain ⟨F2, x2, sx⟩ := g2 x H2 y
      have rr2 := rr.ext x2
      have fin : ∀ {Fa Ha}, Ext F2 H2 Fa Ha -> Ext F H Fa Ha /\ (Same F1 Fa /\ Same H1 Ha) /\ Rel W { e with pins := [] } (wipeE env vs) Fa (wipe σ vs) Ha Lw /\ Ha Dl = some (.lst ws) /\ Fa Dl = none /\ Owns W Fa Ha (rs i) ws M /\ ∀ a ∈ M, H a = none /\ Fa a = none := fun {Fa Ha} xa => by
        have x3 := x2.trans xa
        have nn : ∀ a, (∃ o, H' a = some o) -> F' a = none -> Fa a = none := fun a ⟨o, ho⟩ hf => by
          cases z : Fa a with
          | none => rfl
          | some u =>
            rcases x3.n a u z with w | w
            · rw [hf] at w; cases w
            · rw [ho] at w; cases w
        exact ⟨xE.trans x3, ⟨s1.1.trans x3.f, s1.2.trans x3.h⟩, rr.ext x3, x3.h _ _ hl, nn Dl ⟨_, hl⟩ hFD, os.frame x3.f fun a _ o ho => x3.h _ _ ho, fun a ha => ⟨(hM a ha).1, nn a (os.lives a ha) (hM a ha).2⟩⟩
      have step := hg x (wipe σ vs) H2 _ (hs i _ hd' { e with pins := [] } F2 (wipe σ vs) H2 Lw x (fun σ2 H2 => tt σ2 H2 fun b H3 => if b = true then te σ2 H3 fun y H4 => ∃ acc, H4 Dl = some (.lst acc) /\ acc.length < sizeLine /\
          (fun H'' => ∃ F' ws M, Ext F H F' H'' /\ (Same F1 F' /\ Same H1 H'') /\ Rel W { e with pins := [] } (wipeE env vs) F' (wipe σ vs) H'' Lw /\ H'' Dl = some (.lst ws) /\ F' Dl = none /\ Owns W F' H'' (rs (i + 1)) ws M /\ (Dl :: M).Nodup /\ ∀ a ∈ M, H a = none /\ F' a = none) (upd H4 Dl (.lst (acc ++ [y]))) else
          (fun H'' => ∃ F' ws M, Ext F H F' H'' /\ (Same F1 F' /\ Same H1 H'') /\ Rel W { e with pins := [] } (wipeE env vs) F' (wipe σ vs) H'' Lw /\ H'' Dl = some (.lst ws) /\ F' Dl = none /\ Owns W F' H'' (rs (i + 1)) ws M /\ (Dl :: M).Nodup /\ ∀ a ∈ M, H a = none /\ F' a = none) H3) rfl rr2 sx fun env2 σ2 L2 k2 q2 => ?_)
      · rw [wipe_wipe] at step
        exact step
      obtain ⟨b, hb, hy, hn⟩ := k2
      refine hb _ F2 σ2 H2 L2 _ q2 fun F3 H3 x3 => ?_
      cases b with
      | false =>
        obtain ⟨a1, a2, a3, a4, a5, a6, a7⟩ := fin x3
        rw [hn rfl]
        exact ⟨F3, ws, M, a1, a2, a3, a4, a5, a6, nd, a7⟩
      | true =>
        obtain ⟨y, hte, hacc⟩ := hy rfl
        refine hte _ F3 σ2 H3 L2 _ (q2.ext x3) fun w F4 H4 x4 ⟨My, oy, ndy, ky⟩ => ?_
        obtain ⟨a1, a2, a3, a4, a5, a6, a7⟩ := fin (x3.trans x4)
        have hlen : (rs i).length < 1000000 := hz i hi
        refine ⟨ws, a4, by rw [<- a6.length]; exact Nat.lt_of_lt_of_le hlen (by decide), F4, ws ++ [w], M ++ My, ?_, ⟨a2.1, fun b u hb => by rw [upd_ne (fun z => by rw [z, hD] at hb; cases hb)]; exact a2.2 _ _ hb⟩, a3.free hDL a5 (rw'.h0 hD), upd_same, a5, ?_, ?_, ?_⟩
        · exact ⟨a1.f, fun b u hb => by rw [upd_ne (fun z => by rw [z, a5] at hb; cases hb)]; exact a1.s _ _ hb, fun b u hb => by rw [upd_ne (fun z => by rw [z, hH] at hb; cases hb)]; exact a1.h _ _ hb, a1.n⟩
        · have nD : ∀ b ∈ My, b ≠ Dl := fun b hb z => by
            have := (x2.trans x3).h _ _ hl
            rw [<- z, (ky b hb).1] at this; cases this
          rw [hacc]
          refine Owns.snoc (a6.frame (Same.refl _) fun b hb u hu => ?_) (oy.frame (Same.refl _) fun b hb u hu => ?_)
          · rw [upd_ne (fun z => (List.nodup_cons.mp nd).1 (by rw [<- z]; exact hb))]; exact hu
          · rw [upd_ne (nD b hb)]; exact hu
        · have fr : ∀ b ∈ My, b ∉ Dl :: M := fun b hb z => by
            have : ∃ o, H3 b = some o := by
              rcases List.mem_cons.mp z with z | z
              · exact ⟨_, by rw [z]; exact (x2.trans x3).h _ _ hl⟩
              · obtain ⟨o, ho⟩ := os.lives b z
                exact ⟨o, (x2.trans x3).h _ _ ho⟩
            obtain ⟨o, ho⟩ := this
            rw [(ky b hb).1] at ho; cases ho
          have : ((Dl :: M) ++ My).Nodup := by
            rw [List.nodup_append]
            exact ⟨nd, ndy, fun b hb c hc z => fr c hc (by rw [<- z]; exact hb)⟩
          exact this
        · intro b hb
          rcases List.mem_append.mp hb with z | z
          · exact a7 b z
          · exact ⟨(xE.trans (x2.trans x3)).h.free (ky b z).1, (ky b z).2⟩
    · have e0 : i = ds.length := by omega
      subst e0
      refine .inl ⟨sq.stop F' H' s1.1 s1.2 rr.sF, q _ F' H' xE ⟨Dl :: M, .olst hl os, nd, fun a ha => ?_⟩⟩
      rcases List.mem_cons.mp ha with z | z
      · subst z; exact ⟨hH, hFD⟩
      · exact hM a z
end
end Py
namespace Py
open PySem L2
inductive Kd where
  | fr | pl | vw
def isFlat : D -> Bool
  | .non | .bl _ | .int _ | .str _ | .cls _ => true
  | _ => false
section
variable {T : Tbl} {W : Wd T} {env : Py.Env} {t ta tb : TE} {d d1 d2 : D}
theorem Shr.flat {F F' : Hp} {d : D} {v : V} (h : Shr W F d v) (e : isFlat d = true) : Shr W F' d v := by
  cases h <;> first | (cases e; done) | exact .non | exact .bl | exact .int | exact .str | (apply Shr.cls; assumption)
theorem isSh_flat {d : D} (e : isFlat d = true) : isSh d = true := by cases d <;> first | rfl | cases e
def rP {T : Tbl} (W : Wd T) (d : D) : Res := fun F H _ v => ∃ L, Own W F H d v L
def rK {T : Tbl} (W : Wd T) : Kd -> D -> Res
  | .fr, d => rO W d
  | .pl, d => rP W d
  | .vw, d => rV W d
theorem ite_some {α : Type} {c : Prop} [Decidable c] {a b : α} (h : (if c then some a else none) = some b) : c /\ a = b := by
  split at h
  · exact ⟨by assumption, Option.some.inj h⟩
  · cases h
theorem rK_view {F H H0 : Hp} {k : Kd} {v : V} (s : Same F H) (h : rK W k d F H H0 v) : Shr W H (fz d) v := by
  cases k with
  | fr => obtain ⟨L, o, _⟩ := h; exact o.view s fun _ _ _ z => z
  | pl => obtain ⟨L, o⟩ := h; exact o.view s fun _ _ _ z => z
  | vw => have h : Shr W H d v := h; rw [fz_shr h]; exact h
def basis (k : Kd) (F H : Hp) : Hp := match k with | .vw => H | _ => F
theorem basis_same {k : Kd} {F H : Hp} (s : Same F H) : Same (basis k F H) H := by cases k <;> first | exact s | exact Same.refl _
theorem rK_own {F H H0 : Hp} {k : Kd} {v : V} (h : rK W k d F H H0 v) : ∃ L, Own W (basis k F H) H d v L := by
  cases k with
  | fr => obtain ⟨L, o, _⟩ := h; exact ⟨L, o⟩
  | pl => exact h
  | vw => exact ⟨[], .sh h⟩
def Kd.part : Kd -> Kd
  | .vw => .vw
  | _ => .pl
def Kd.of (k : Kd) (d : D) : Kd × D := match k with | .vw => (.vw, fz d) | _ => (.pl, d)
theorem rK_of {F H H0 : Hp} {k k' : Kd} {d' : D} {v : V} {L : List Addr} (s : Same F H) (h : Own W (basis k F H) H d v L) (e : k.of d = (k', d')) : rK W k' d' F H H0 v := by
  cases k with
  | fr => cases e; exact ⟨L, h⟩
  | pl => cases e; exact ⟨L, h⟩
  | vw => cases e; exact h.view (Same.refl _) fun _ _ _ z => z
theorem Ext.basis {k : Kd} {F H F' H' : Hp} (x : Ext F H F' H') : Same (basis k F H) (basis k F' H') := by
  cases k <;> first | exact x.f | exact x.h
theorem Own.ext {k : Kd} {F H F' H' : Hp} {v : V} {L : List Addr} (o : Own W (basis k F H) H d v L) (x : Ext F H F' H') : Own W (basis k F' H') H' d v L := o.frame x.basis fun a _ o q => x.h _ _ q
structure XP {T : Tbl} (W : Wd T) where
  t : TE
  ev : Py.Env -> Option (Kd × D)
  snd : ∀ {env k d}, ev env = some (k, d) -> AE W t env (rK W k d)
def toV : Option (Kd × D) -> Option D
  | some (_, d) => some (fz d)
  | none => none
def toK : Option (Kd × D) -> Option D
  | some (.vw, d) => if isFlat d then some d else none
  | some (_, d) => some d
  | none => none
def toF : Option (Kd × D) -> Option D
  | some (.fr, d) => some (fz d)
  | some (.pl, d) => if isSh d then some d else none
  | some (.vw, d) => if isFlat d then some d else none
  | none => none
def toO : Option (Kd × D) -> Option D
  | some (.fr, d) => some d
  | some (.pl, d) => if isSh d then some d else none
  | some (.vw, d) => if isFlat d then some d else none
  | none => none
def XP.evV (x : XP W) (env : Py.Env) : Option D := toV (x.ev env)
def XP.evK (x : XP W) (env : Py.Env) : Option D := toK (x.ev env)
def XP.evF (x : XP W) (env : Py.Env) : Option D := toF (x.ev env)
def XP.evO (x : XP W) (env : Py.Env) : Option D := toO (x.ev env)
theorem XP.sV (x : XP W) (h : x.evV env = some d) : AE W x.t env (rV W d) := by
  unfold XP.evV at h
  match e : x.ev env, h with
  | some (k, d0), h =>
    cases h
    exact (x.snd e).imp fun F H H0 v s q => rK_view s q
theorem XP.sK (x : XP W) (h : x.evK env = some d) : AE W x.t env (rP W d) := by
  unfold XP.evK at h
  match e : x.ev env, h with
  | some (.fr, d0), h => cases h; exact (x.snd e).imp fun F H H0 v s ⟨L, o, _⟩ => ⟨L, o⟩
  | some (.pl, d0), h => cases h; exact x.snd e
  | some (.vw, d0), h =>
    have h : (if isFlat d0 = true then some d0 else none) = some d := h
    split at h
    · cases h; exact (x.snd e).imp fun F H H0 v s q => ⟨[], .sh (Shr.flat q (by assumption))⟩
    · cases h
theorem XP.sF (x : XP W) (h : x.evF env = some d) : AE W x.t env (rF W d) := by
  unfold XP.evF at h
  match e : x.ev env, h with
  | some (.fr, d0), h => cases h; exact (AE.frz (d := d0) (x.snd e))
  | some (.pl, d0), h =>
    have h : (if isSh d0 = true then some d0 else none) = some d := h
    split at h
    · cases h; exact (x.snd e).imp fun F H H0 v s ⟨L, o⟩ => o.shr (by assumption)
    · cases h
  | some (.vw, d0), h =>
    have h : (if isFlat d0 = true then some d0 else none) = some d := h
    split at h
    · cases h; exact (x.snd e).imp fun F H H0 v s q => (Shr.flat q (by assumption))
    · cases h
theorem XP.sO (x : XP W) (h : x.evO env = some d) : AE W x.t env (rO W d) := by
  unfold XP.evO at h
  match e : x.ev env, h with
  | some (.fr, d0), h => cases h; exact x.snd e
  | some (.pl, d0), h =>
    have h : (if isSh d0 = true then some d0 else none) = some d := h
    split at h
    · cases h; exact (x.snd e).imp fun F H H0 v s ⟨L, o⟩ => rO_sh (o.shr (by assumption))
    · cases h
  | some (.vw, d0), h =>
    have h : (if isFlat d0 = true then some d0 else none) = some d := h
    split at h
    · cases h; exact (x.snd e).imp fun F H H0 v s q => rO_sh (Shr.flat q (by assumption))
    · cases h
def getS (env : Py.Env) (i : Nat) : Option D := (env[i]?).join
theorem getS_some (h : getS env i = some d) : env[i]? = some (some d) := by
  unfold getS at h
  match e : env[i]?, h with
  | some (some x), h => cases h; rfl
def xVar {T : Tbl} (W : Wd T) (i : Nat) : XP W where
  t := tVar i
  ev env := (getS env i).map (Prod.mk .pl)
  snd := fun {env k d} h => by
    match e : getS env i, h with
    | some x, h =>
      cases h
      exact fun e' F σ H L Q r q => by
        obtain ⟨v, M, e1, o, _⟩ := slot_get r (getS_some e)
        exact ⟨v, e1, q v F H (.refl r.sF) ⟨M, o⟩⟩
def xC {T : Tbl} (W : Wd T) (v : V) (d : D) (h : ∀ F, Shr W F d v) : XP W where
  t := tC v
  ev _ := some (.fr, d)
  snd := fun e => by cases e; exact (ae_c h).own
def xInt {T : Tbl} (W : Wd T) (i : Int) : XP W := xC W (.int i) (.int i) fun _ => .int
def xBl {T : Tbl} (W : Wd T) (b : Bool) : XP W := xC W (.bl b) (.bl b) fun _ => .bl
def xStr {T : Tbl} (W : Wd T) (x : String) : XP W := xC W (.str (so x)) (.str x) fun _ => .str
def xOp (r : R2) (f : D -> D -> Option D) (h : ∀ {x y d}, f x y = some d -> Op2 W r x y d) (a b : XP W) : XP W where
  t := tOp r a.t b.t
  ev env := (a.evV env).bind fun x => (b.evV env).bind fun y => (f x y).map (Prod.mk .fr)
  snd := fun {env k d} e => by
    obtain ⟨x, e1, e⟩ := Option.bind_eq_some_iff.mp e
    obtain ⟨y, e2, e⟩ := Option.bind_eq_some_iff.mp e
    obtain ⟨z, e3, e⟩ := Option.map_eq_some_iff.mp e
    cases e
    exact ae_op2 (a.sV e1) (b.sV e2) (h e3)
def subD : D -> D -> Option D
  | .int i, .int j => some (.int (i - j))
  | _, _ => none
def xSub (a b : XP W) : XP W := xOp (rI0 fun i j => .int (i - j)) subD (fun {x y d} e => by
  cases x <;> cases y <;> first | (cases e; done) | (cases e; exact o2_i fun _ => .int)) a b
def b4000 : Nat := 2 ^ 4000
def mulOk (i j : Int) : Prop := (-18446744073709551616 < i /\ i < 18446744073709551616) \/ (-18446744073709551616 < j /\ j < 18446744073709551616) \/ (i.natAbs < b4000 /\ j.natAbs < b4000)
instance (i j : Int) : Decidable (mulOk i j) := by unfold mulOk; infer_instance
theorem mulOk_u {i j : Int} (h : mulOk i j) : CMulU i j := by
  rcases h with h | h | h
  · exact cmul_l h.1 h.2
  · exact cmul_r h.1 h.2
  · exact cmul_w h.1 h.2
def mulD : D -> D -> Option D
  | .int i, .int j => if mulOk i j then some (.int (i * j)) else none
  | _, _ => none
def xMul (a b : XP W) : XP W := xOp (rI CMulU fun i j => .int (i * j)) mulD (fun {x y d} e => by
  cases x <;> first | (cases e; done) | skip
  cases y <;> first | (cases e; done) | skip
  obtain ⟨hc, rfl⟩ := ite_some e
  exact o2_ic (mulOk_u hc) fun _ => .int) a b
def divOk (j : Int) : Prop := 0 < j /\ (j < 1073741824 \/ j.natAbs < b4000)
instance (j : Int) : Decidable (divOk j) := by unfold divOk; infer_instance
def divD : D -> D -> Option D
  | .int i, .int j => if divOk j then some (.int (i / j)) else none
  | _, _ => none
def xDiv (a b : XP W) : XP W := xOp (rI CDivU fun i j => .int (i / j)) divD (fun {x y d} e => by
  cases x <;> first | (cases e; done) | skip
  cases y <;> first | (cases e; done) | skip
  obtain ⟨⟨h0, h⟩, rfl⟩ := ite_some e
  refine o2_ic ?_ fun _ => .int
  rcases h with h | h
  · exact cdiv_s h0 h
  · exact cdiv_w h0 h) a b
def modD : D -> D -> Option D
  | .int i, .int j => if 0 < j then some (.int (i % j)) else none
  | _, _ => none
def xMod (a b : XP W) : XP W := xOp (rI (fun _ j => 0 < j) fun i j => .int (i % j)) modD (fun {x y d} e => by
  cases x <;> first | (cases e; done) | skip
  cases y <;> first | (cases e; done) | skip
  obtain ⟨hc, rfl⟩ := ite_some e
  exact o2_ic (hc) fun _ => .int) a b
def powOk (i j : Int) : Prop := 0 <= j /\ j <= 1000000 /\ i.natAbs < 18446744073709551616
instance (i j : Int) : Decidable (powOk i j) := by unfold powOk; infer_instance
def powD : D -> D -> Option D
  | .int i, .int j => if powOk i j then some (.int (i ^ j.toNat)) else none
  | _, _ => none
def xPow (a b : XP W) : XP W := xOp (rI CPow fun i j => .int (i ^ j.toNat)) powD (fun {x y d} e => by
  cases x <;> first | (cases e; done) | skip
  cases y <;> first | (cases e; done) | skip
  obtain ⟨hc, rfl⟩ := ite_some e
  exact o2_ic (⟨hc.1, hc.2.1, hc.2.2⟩) fun _ => .int) a b
def negD : D -> Option D
  | .int i => some (.int (-i))
  | _ => none
def xNeg (a : XP W) : XP W where
  t := tUn (rU fun i => .int (-i)) a.t
  ev env := match a.evV env with
    | some x => (negD x).map (Prod.mk .fr)
    | none => none
  snd := fun {env k d} e => by
    match e1 : a.evV env, e with
    | some x, e =>
      cases x <;> first | (cases e; done) | skip
      cases e
      exact (ae_u (g := fun i => .int (-i)) (a.sV e1) fun _ => .int).own
def seqOf : D -> Option (Bool × List D)
  | .lst xs => some (false, xs)
  | .olst xs => if xs.all isSh then some (false, xs) else none
  | .tup xs => some (true, xs)
  | .scr ns => some (false, ns.map .int)
  | _ => none
theorem shrs_ints {F : Hp} : ∀ ns : List Int, Shrs W F (ns.map D.int) (ns.map V.int)
  | [] => .nil
  | _ :: ns => .cons .int (shrs_ints ns)
theorem seqOf_ok {F H : Hp} {v : V} {L : List Addr} {b : Bool} {xs : List D} (s : Same F H) (o : Own W F H d v L) (h : seqOf d = some (b, xs)) :
    ∃ a vs, v = .ref a /\ Shrs W F xs vs /\ if b = true then SqT W.K H a vs else SqL W.K H a vs := by
  cases o with
  | sh y =>
    cases y <;> first | (cases h; done) | skip
    · cases h; exact ⟨_, _, rfl, shrs_ints _, s.seq (by assumption)⟩
    · cases h; exact ⟨_, _, rfl, by assumption, .of (s _ _ (by assumption))⟩
    · cases h; exact ⟨_, _, rfl, by assumption, .of (s _ _ (by assumption))⟩
  | olst ha hs =>
    obtain ⟨hc, e⟩ := ite_some h
    cases e
    exact ⟨_, _, rfl, hs.shrs hc, .of ha⟩
  | odic => cases h
  | odit => cases h
  | odig => cases h
  | oins => cases h
def lstOf : D -> Option (List D)
  | .lst xs => some xs
  | .olst xs => if xs.all isSh then some xs else none
  | _ => none
theorem lstOf_ok {F H : Hp} {v : V} {L : List Addr} {xs : List D} (s : Same F H) (o : Own W F H d v L) (h : lstOf d = some xs) : ∃ a vs, v = .ref a /\ Shrs W F xs vs /\ H a = some (.lst vs) := by
  cases o with
  | sh y =>
    cases y <;> first | (cases h; done) | skip
    cases h; exact ⟨_, _, rfl, by assumption, s _ _ (by assumption)⟩
  | olst ha hs =>
    obtain ⟨hc, e⟩ := ite_some h
    cases e
    exact ⟨_, _, rfl, hs.shrs hc, ha⟩
  | odic => cases h
  | odit => cases h
  | odig => cases h
  | oins => cases h
def addD (x y : D) : Option D := match x, y with
  | .int i, .int j => some (.int (i + j))
  | .tup xs, .tup ys => if xs ≠ [] /\ xs.length + ys.length <= 1000000 then some (.tup (xs ++ ys)) else none
  | x, y => match lstOf x, lstOf y with
    | some xs, some ys => if xs.length + ys.length <= 1000000 then some (.olst (xs ++ ys)) else none
    | _, _ => none
def xAdd (a b : XP W) : XP W where
  t := tOp (fun x y H Q => rI0 (fun i j => .int (i + j)) x y H Q \/ (fun x y H Q => rCat x y H Q \/ rCatT W.K x y H Q) x y H Q) a.t b.t
  ev env := (a.evK env).bind fun x => (b.evK env).bind fun y => (addD x y).map (Prod.mk .fr)
  snd := fun {env k d} e => by
    obtain ⟨x, e1, e⟩ := Option.bind_eq_some_iff.mp e
    obtain ⟨y, e2, e⟩ := Option.bind_eq_some_iff.mp e
    obtain ⟨z, e3, e⟩ := Option.map_eq_some_iff.mp e
    cases e
    intro e' F σ H L Q r q
    refine a.sK e1 e' F σ H L _ r fun v F1 H1 x1 ⟨L1, y1⟩ => b.sK e2 e' F1 σ H1 L _ (r.ext x1) fun u F2 H2 x2 ⟨L2, y2⟩ => ?_
    have y1 : Own W F2 H2 x v L1 := y1.frame x2.f fun a _ o q => x2.h _ _ q
    have lists : ∀ {xs ys}, lstOf x = some xs -> lstOf y = some ys -> xs.length + ys.length <= 1000000 -> d = .olst (xs ++ ys) -> (fun x y H Q => rI0 (fun i j => V.int (i + j)) x y H Q \/ (fun x y H Q => rCat x y H Q \/ rCatT W.K x y H Q) x y H Q) v u H2 Q := by
      intro xs ys h1 h2 hl hz
      obtain ⟨a, vs, rfl, sa, ha⟩ := lstOf_ok x2.s y1 h1
      obtain ⟨b, ws, rfl, sb, hb⟩ := lstOf_ok x2.s y2 h2
      subst hz
      exact .inr (.inl (o2L_cat hl F2 H2 a b vs ws Q x2.s ha sa hb sb fun w F3 H3 x3 y3 => q w F3 H3 ((x1.trans x2).trans x3) (rO_back (x1.h.trans x2.h) y3)))
    unfold addD at e3
    split at e3
    · cases e3
      cases y1.shr rfl; cases y2.shr rfl
      exact .inl ⟨_, _, rfl, rfl, q _ F2 H2 (x1.trans x2) (rO_sh .int)⟩
    · obtain ⟨⟨hn, hl⟩, rfl⟩ := ite_some e3
      cases y1.shr rfl with
      | tup ha sa =>
        cases y2.shr rfl with
        | tup hb sb =>
          have z1 := sa.length
          have z2 := sb.length
          refine .inr (.inr ⟨_, _, _, _, rfl, rfl, .of (x2.s _ _ ha), .of (x2.s _ _ hb), fun z => ?_, by rw [<- z1, <- z2]; exact Nat.le_trans hl (by decide), fun z => ?_, fun z p hp => ?_⟩)
          · subst z; exact hn (List.eq_nil_of_length_eq_zero z1)
          · subst z
            have z2 := List.eq_nil_of_length_eq_zero z2
            subst z2
            refine q _ F2 H2 (x1.trans x2) ?_
            rw [List.append_nil]
            exact rO_sh (.tup ha sa)
          · exact q _ _ _ ((x1.trans x2).trans (.new x2.s hp)) (rO_sh (.tup upd_same ((sa.append sb).mono (same_new (x2.s.free hp)))))
    · rename_i hx hy
      cases h1 : lstOf x with
      | none => rw [h1] at e3; cases e3
      | some xs =>
        cases h2 : lstOf y with
        | none => rw [h1, h2] at e3; cases e3
        | some ys =>
          rw [h1, h2] at e3
          obtain ⟨hl, rfl⟩ := ite_some e3
          exact lists h1 h2 hl rfl
mutual
def okD : Nat -> D -> Bool
  | _, .non | _, .bl _ | _, .int _ | _, .str _ => true
  | n + 1, .tup xs => okDs n xs
  | n + 1, .lst xs => okDs n xs
  | _, _ => false
def okDs : Nat -> List D -> Bool
  | _, [] => true
  | n, x :: xs => okD n x && okDs n xs
end
mutual
def eqB : D -> D -> Bool
  | .non, .non => true
  | .bl a, .bl b => decide (a = b)
  | .bl a, .int j => decide ((if a then 1 else 0) = j)
  | .int i, .bl b => decide (i = if b then 1 else 0)
  | .int i, .int j => decide (i = j)
  | .str x, .str y => decide (x = y)
  | .tup xs, .tup ys => eqBs xs ys
  | .lst xs, .lst ys => eqBs xs ys
  | _, _ => false
def eqBs : List D -> List D -> Bool
  | [], [] => true
  | x :: xs, y :: ys => eqB x y && eqBs xs ys
  | _, _ => false
end
theorem okDs_all (n : Nat) : ∀ xs : List D, okDs n xs = xs.all (okD n)
  | [] => by rw [okDs]; rfl
  | x :: xs => by rw [okDs, okDs_all n xs]; rfl
theorem strOk_so (x : String) : PyData.strOk (so x) = true := by
  unfold PyData.strOk so
  rw [Str.ofString_eq_toList]
  simp only [List.all_toArray, List.all_map, List.all_eq_true, Function.comp_apply, decide_eq_true_eq]
  intro c _
  have := c.valid
  rcases this with h | h
  · have : c.toNat < 55296 := h
    omega
  · exact h.2
mutual
theorem okD_pd : ∀ {n : Nat} {d : D}, okD n d = true -> ∃ p, pd d = some p /\ p.canLay0 = true /\ p.depth <= n
  | n, .non, _ => ⟨_, by rw [pd], by rw [PyData.canLay0], by simp [PyData.depth]⟩
  | n, .bl _, _ => ⟨_, by rw [pd], by rw [PyData.canLay0], by simp [PyData.depth]⟩
  | n, .int _, _ => ⟨_, by rw [pd], by rw [PyData.canLay0], by simp [PyData.depth]⟩
  | n, .str _, h => ⟨_, by rw [pd], by rw [PyData.canLay0]; exact strOk_so _, by simp [PyData.depth]⟩
  | n + 1, .tup xs, h => by
    rw [okD] at h
    obtain ⟨ps, h1, h2, h3⟩ := okDs_pd h
    exact ⟨.tuple ps, by rw [pd, h1]; rfl, by rw [PyData.canLay0]; exact h2, by rw [PyData.depth]; omega⟩
  | n + 1, .lst xs, h => by
    rw [okD] at h
    obtain ⟨ps, h1, h2, h3⟩ := okDs_pd h
    exact ⟨.list ps, by rw [pd, h1]; rfl, by rw [PyData.canLay0]; exact h2, by rw [PyData.depth]; omega⟩
  | _, .scr _, h => by simp [okD] at h
  | 0, .tup _, h => by simp [okD] at h
  | 0, .lst _, h => by simp [okD] at h
  | _, .cls _, h => by simp [okD] at h
  | _, .sei _, h => by simp [okD] at h
  | _, .dic _ _, h => by simp [okD] at h
  | _, .dit _ _, h => by simp [okD] at h
  | _, .dig _ _, h => by simp [okD] at h
  | _, .ins _ _ _, h => by simp [okD] at h
  | _, .olst _, h => by simp [okD] at h
  | _, .odic _ _, h => by simp [okD] at h
  | _, .odit _ _, h => by simp [okD] at h
  | _, .odig _ _, h => by simp [okD] at h
  | _, .oins _ _ _, h => by simp [okD] at h
theorem okDs_pd : ∀ {n : Nat} {ds : List D}, okDs n ds = true -> ∃ ps, pds ds = some ps /\ PyData.canLayAll0 ps = true /\ PyData.depthAll ps <= n
  | n, [], _ => ⟨[], by rw [pds], by rw [PyData.canLayAll0], by simp [PyData.depthAll]⟩
  | n, d :: ds, h => by
    rw [okDs, Bool.and_eq_true] at h
    obtain ⟨p, h1, h2, h3⟩ := okD_pd h.1
    obtain ⟨ps, k1, k2, k3⟩ := okDs_pd h.2
    exact ⟨p :: ps, by rw [pds, h1, k1], by rw [PyData.canLayAll0, h2, k2]; rfl, by rw [PyData.depthAll]; omega⟩
end
theorem so_eq {x y : String} : (so x == so y) = decide (x = y) := by
  by_cases h : x = y
  · subst h; simp
  · rw [beq_eq_false_iff_ne.mpr fun z => h (so_inj z), decide_eq_false h]
mutual
theorem eqB_pd : ∀ (x : D) {y : D} {p q : PyData}, pd x = some p -> pd y = some q -> eqB x y = PyData.eqv p q
  | .tup xs, y, p, q, hx, hy => by
    rw [pd] at hx
    obtain ⟨ps, h1, rfl⟩ := Option.map_eq_some_iff.mp hx
    cases y <;> (simp only [pd, reduceCtorEq, Option.some.injEq, Option.map_eq_some_iff] at hy) <;> first | (obtain ⟨qs, h2, rfl⟩ := hy) | subst hy
    all_goals first | (simp only [eqB, PyData.eqv]; done) | (simp only [eqB, PyData.eqv]; exact eqBs_pd xs h1 h2)
  | .lst xs, y, p, q, hx, hy => by
    rw [pd] at hx
    obtain ⟨ps, h1, rfl⟩ := Option.map_eq_some_iff.mp hx
    cases y <;> (simp only [pd, reduceCtorEq, Option.some.injEq, Option.map_eq_some_iff] at hy) <;> first | (obtain ⟨qs, h2, rfl⟩ := hy) | subst hy
    all_goals first | (simp only [eqB, PyData.eqv]; done) | (simp only [eqB, PyData.eqv]; exact eqBs_pd xs h1 h2)
  | .non, y, p, q, hx, hy => by
    rw [pd] at hx; cases hx
    cases y <;> (simp only [pd, reduceCtorEq, Option.some.injEq, Option.map_eq_some_iff] at hy) <;> first | (obtain ⟨qs, h2, rfl⟩ := hy) | subst hy
    all_goals first | (simp only [eqB, PyData.eqv, so_eq]; done) | (simp only [eqB, PyData.eqv]; rw [Bool.eq_iff_iff]; simp; done)
  | .bl _, y, p, q, hx, hy => by
    rw [pd] at hx; cases hx
    cases y <;> (simp only [pd, reduceCtorEq, Option.some.injEq, Option.map_eq_some_iff] at hy) <;> first | (obtain ⟨qs, h2, rfl⟩ := hy) | subst hy
    all_goals first | (simp only [eqB, PyData.eqv, so_eq]; done) | (simp only [eqB, PyData.eqv]; rw [Bool.eq_iff_iff]; simp; done)
  | .int _, y, p, q, hx, hy => by
    rw [pd] at hx; cases hx
    cases y <;> (simp only [pd, reduceCtorEq, Option.some.injEq, Option.map_eq_some_iff] at hy) <;> first | (obtain ⟨qs, h2, rfl⟩ := hy) | subst hy
    all_goals first | (simp only [eqB, PyData.eqv, so_eq]; done) | (simp only [eqB, PyData.eqv]; rw [Bool.eq_iff_iff]; simp; done)
  | .str _, y, p, q, hx, hy => by
    rw [pd] at hx; cases hx
    cases y <;> (simp only [pd, reduceCtorEq, Option.some.injEq, Option.map_eq_some_iff] at hy) <;> first | (obtain ⟨qs, h2, rfl⟩ := hy) | subst hy
    all_goals first | (simp only [eqB, PyData.eqv, so_eq]; done) | (simp only [eqB, PyData.eqv]; rw [Bool.eq_iff_iff]; simp; done)
  | .cls _, y, p, q, hx, hy => by simp [pd] at hx
  | .sei _, y, p, q, hx, hy => by simp [pd] at hx
  | .scr _, y, p, q, hx, hy => by simp [pd] at hx
  | .dic _ _, y, p, q, hx, hy => by simp [pd] at hx
  | .dit _ _, y, p, q, hx, hy => by simp [pd] at hx
  | .dig _ _, y, p, q, hx, hy => by simp [pd] at hx
  | .ins _ _ _, y, p, q, hx, hy => by simp [pd] at hx
  | .olst _, y, p, q, hx, hy => by simp [pd] at hx
  | .odic _ _, y, p, q, hx, hy => by simp [pd] at hx
  | .odit _ _, y, p, q, hx, hy => by simp [pd] at hx
  | .odig _ _, y, p, q, hx, hy => by simp [pd] at hx
  | .oins _ _ _, y, p, q, hx, hy => by simp [pd] at hx
theorem eqBs_pd : ∀ (xs : List D) {ys : List D} {ps qs : List PyData}, pds xs = some ps -> pds ys = some qs -> eqBs xs ys = PyData.eqvAll ps qs
  | [], ys, ps, qs, hx, hy => by
    rw [pds] at hx; cases hx
    cases ys with
    | nil => rw [pds] at hy; cases hy; simp [eqBs, PyData.eqvAll]
    | cons y ys =>
      rw [pds] at hy
      split at hy
      · cases hy; simp [eqBs, PyData.eqvAll]
      · cases hy
  | x :: xs, ys, ps, qs, hx, hy => by
    rw [pds] at hx
    split at hx
    · rename_i p ps' h1 h2
      cases hx
      cases ys with
      | nil => rw [pds] at hy; cases hy; simp [eqBs, PyData.eqvAll]
      | cons y ys =>
        rw [pds] at hy
        split at hy
        · rename_i q qs' k1 k2
          cases hy
          rw [eqBs, PyData.eqvAll, eqB_pd x h1 k1, eqBs_pd xs h2 k2]
        · cases hy
    · cases hx
end
def eqD (x y : D) : Option D := if okD 60 x = true /\ okD 60 y = true then some (.bl (eqB x y)) else none
def neD (x y : D) : Option D := if okD 60 x = true /\ okD 60 y = true then some (.bl (!eqB x y)) else none
theorem okD_sh {x : D} {p : PyData} (h1 : p.canLay0 = true) (h2 : p.depth <= 60) : SeqAt.shaped p = true := by
  unfold SeqAt.shaped
  rw [h1, decide_eq_true (by omega)]; rfl
def xEq (a b : XP W) : XP W := xOp (fun x y H Q => rEq x y H Q \/ rEqD W.K x y H Q) eqD (fun {x y d} e => by
  obtain ⟨⟨h1, h2⟩, rfl⟩ := ite_some e
  obtain ⟨p, p1, p2, p3⟩ := okD_pd h1
  obtain ⟨q, q1, q2, q3⟩ := okD_pd h2
  rw [eqB_pd x p1 q1]
  exact o2_r (o2_eqD p1 q1 (okD_sh (x := x) p2 p3) (okD_sh (x := y) q2 q3))) a b
def xNe (a b : XP W) : XP W := xOp (fun x y H Q => rNe x y H Q \/ rNeD W.K x y H Q) neD (fun {x y d} e => by
  obtain ⟨⟨h1, h2⟩, rfl⟩ := ite_some e
  obtain ⟨p, p1, p2, p3⟩ := okD_pd h1
  obtain ⟨q, q1, q2, q3⟩ := okD_pd h2
  rw [eqB_pd x p1 q1]
  exact o2_r (o2_neD p1 q1 (okD_sh (x := x) p2 p3) (okD_sh (x := y) q2 q3))) a b
def intsOf : List D -> Option (List Int)
  | [] => some []
  | .int i :: ds => (intsOf ds).map (i :: ·)
  | _ => none
theorem intsOf_map (ns : List Int) : intsOf (ns.map D.int) = some ns := by
  induction ns with
  | nil => rfl
  | cons n ns ih => rw [List.map_cons, intsOf, ih]; rfl
theorem intsOf_ok : ∀ {ds : List D} {ns : List Int}, intsOf ds = some ns -> ds = ns.map D.int
  | [], _, h => by cases h; rfl
  | .int i :: ds, ns, h => by
    obtain ⟨ms, h1, rfl⟩ := Option.map_eq_some_iff.mp h
    rw [intsOf_ok h1]; rfl
theorem shrs_int {F : Hp} : ∀ {ns : List Int} {vs : List V}, Shrs W F (ns.map D.int) vs -> vs = ns.map V.int
  | [], _, .nil => rfl
  | n :: ns, _, .cons h t => by cases h; rw [shrs_int t]; rfl
def cmpD (f : Int -> Int -> Bool) : D -> D -> Option D
  | .int i, .int j => some (.bl (f i j))
  | _, _ => none
def ltD : D -> D -> Option D
  | .int i, .int j => some (.bl (decide (i < j)))
  | .tup xs, .tup ys => (intsOf xs).bind fun ns => (intsOf ys).map fun ms => .bl (HT.lexLt ns ms)
  | _, _ => none
def xLt (a b : XP W) : XP W := xOp (fun x y H Q => rI0 (fun i j => .bl (decide (i < j))) x y H Q \/ rLtT W.K x y H Q) ltD (fun {x y d} e => by
  unfold ltD at e
  split at e
  · cases e; exact o2_l (o2_i fun _ => .bl)
  · obtain ⟨ns, h1, e⟩ := Option.bind_eq_some_iff.mp e
    obtain ⟨ms, h2, rfl⟩ := Option.map_eq_some_iff.mp e
    cases intsOf_ok h1
    cases intsOf_ok h2
    refine o2_r fun F H v1 v2 Q s a b q => ?_
    cases a with
    | tup ha sa =>
      cases b with
      | tup hb sb =>
        cases shrs_int sa
        cases shrs_int sb
        exact ⟨_, _, _, _, rfl, rfl, .of ha, .of hb, q _ F H (.refl s) (rO_sh .bl)⟩
  · cases e) a b
def xCmp (f : Int -> Int -> Bool) (a b : XP W) : XP W := xOp (rI0 fun i j => .bl (f i j)) (cmpD f) (fun {x y d} e => by
  unfold cmpD at e
  split at e
  · cases e; exact o2_i fun _ => .bl
  · cases e) a b
def xLe (a b : XP W) : XP W := xCmp (fun i j => decide (i <= j)) a b
def xGt (a b : XP W) : XP W := xCmp (fun i j => decide (j < i)) a b
def xGe (a b : XP W) : XP W := xCmp (fun i j => decide (j <= i)) a b
def blD : D -> Option Bool
  | .bl b => some b
  | _ => none
theorem blD_ok {x : D} {b : Bool} (h : blD x = some b) : x = .bl b := by cases x <;> cases h; rfl
def XP.evB (a : XP W) (env : Py.Env) : Option Bool := (a.evV env).bind blD
theorem XP.sB (a : XP W) {b : Bool} (h : a.evB env = some b) : AE W a.t env (rV W (.bl b)) := by
  obtain ⟨x, e1, e⟩ := Option.bind_eq_some_iff.mp h
  cases blD_ok e
  exact a.sV e1
def andE (x : Option Bool) (y : Unit -> Option Bool) : Option Bool := match x with
  | some true => y ()
  | some false => some false
  | none => none
def orE (x : Option Bool) (y : Unit -> Option Bool) : Option Bool := match x with
  | some false => y ()
  | some true => some true
  | none => none
def xAnd (a b : XP W) : XP W where
  t := tAndV a.t b.t
  ev env := (andE (a.evB env) fun _ => b.evB env).map fun c => (.fr, .bl c)
  snd := fun {env k d} e => by
    obtain ⟨c, e1, e⟩ := Option.map_eq_some_iff.mp e
    cases e
    match ha : a.evB env, e1 with
    | some false, e1 => cases e1; exact (ae_andV (b := false) (a.sB ha) fun q => nomatch q).own
    | some true, e1 => exact (ae_andV (a.sB ha) fun q => b.sB e1).own
def xNot (a : XP W) : XP W where
  t := tNotV a.t
  ev env := (a.evB env).map fun c => (.fr, .bl (!c))
  snd := fun {env k d} e => by
    obtain ⟨c, e1, e⟩ := Option.map_eq_some_iff.mp e
    cases e
    exact (ae_notV (a.sB e1)).own
structure XT {T : Tbl} (W : Wd T) where
  t : TT
  ev : Py.Env -> Option Bool
  snd : ∀ {env b}, ev env = some b -> AT W t env b
def xtV (a : XP W) : XT W where
  t := tTest a.t
  ev env := a.evB env
  snd := fun e => at_test (a.sB e)
def truD : D -> Option Bool
  | .bl b => some b
  | .non => some false
  | .int i => some (decide (i ≠ 0))
  | .lst ds => some (!ds.isEmpty)
  | .tup ds => some (!ds.isEmpty)
  | _ => none
theorem isE {ds : List D} {vs : List V} {F : Hp} (b : Shrs W F ds vs) : (!ds.isEmpty) = !vs.isEmpty := by cases b <;> rfl
def xtTru (a : XP W) : XT W where
  t := fun σ H Q => a.t σ H fun x H' => ∃ k, TruV W.K x H' k /\ Q k H'
  ev env := (a.evV env).bind truD
  snd := fun {env b} e => by
    obtain ⟨x, e1, e⟩ := Option.bind_eq_some_iff.mp e
    intro e' F σ H L Q r q
    refine a.sV e1 e' F σ H L _ r fun v F1 H1 x1 y1 => ⟨b, ?_, q F1 H1 x1⟩
    cases y1 <;> first | (cases e; done) | (cases e; rfl) | skip
    · cases e
      show decide _ = (_ != 0)
      rw [Bool.eq_iff_iff]; simp
    · cases e; exact .inr (.inl ⟨_, .of (by assumption), isE (by assumption)⟩)
    · cases e; exact .inl ⟨_, .of (by assumption), isE (by assumption)⟩
def xtAnd (a b : XT W) : XT W where
  t := tAnd a.t b.t
  ev env := andE (a.ev env) fun _ => b.ev env
  snd := fun {env c} e => by
    match ha : a.ev env, e with
    | some false, e => cases e; exact at_and (b := false) (a.snd ha) fun q => nomatch q
    | some true, e => exact at_and (a.snd ha) fun q => b.snd e
def xtOr (a b : XT W) : XT W where
  t := tOr a.t b.t
  ev env := orE (a.ev env) fun _ => b.ev env
  snd := fun {env c} e => by
    match ha : a.ev env, e with
    | some true, e => cases e; exact at_or (b := false) (a.snd ha) fun q => nomatch q
    | some false, e => exact at_or (a.snd ha) fun q => b.snd e
def xtNot (a : XT W) : XT W where
  t := tNot a.t
  ev env := (a.ev env).map (!·)
  snd := fun {env c} e => by
    obtain ⟨b, e1, rfl⟩ := Option.map_eq_some_iff.mp e
    exact at_not (a.snd e1)
def xIf (c : XT W) (a b : XP W) : XP W where
  t := tIf c.t a.t b.t
  ev env := (c.ev env).bind fun k => if k = true then a.ev env else b.ev env
  snd := fun {env k d} e => by
    obtain ⟨x, e1, e⟩ := Option.bind_eq_some_iff.mp e
    refine ae_ifR (c.snd e1) (fun h => ?_) (fun h => ?_) fun F H H0 H1 v s q => ?_
    · subst h; exact a.snd e
    · subst h; exact b.snd e
    · cases k with
      | fr => exact rO_back s q
      | pl => exact q
      | vw => exact q
structure XA {T : Tbl} (W : Wd T) where
  t : TA
  evV : Py.Env -> Option (List D)
  evF : Py.Env -> Option (List D)
  sV : ∀ {env ds}, evV env = some ds -> AA W t env (rVs W ds)
  sF : ∀ {env ds}, evF env = some ds -> AA W t env (rFs W ds)
def xaNil {T : Tbl} (W : Wd T) : XA W where
  t := tNil
  evV _ := some []
  evF _ := some []
  sV := fun e => by cases e; exact aa_nilV
  sF := fun e => by cases e; exact aa_nil
def xaCons (a : XP W) (as : XA W) : XA W where
  t := tCons a.t as.t
  evV env := (a.evV env).bind fun x => (as.evV env).map (x :: ·)
  evF env := (a.evF env).bind fun x => (as.evF env).map (x :: ·)
  sV := fun {env ds} e => by
    obtain ⟨x, e1, e⟩ := Option.bind_eq_some_iff.mp e
    obtain ⟨xs, e2, rfl⟩ := Option.map_eq_some_iff.mp e
    exact aa_consV (a.sV e1) (as.sV e2)
  sF := fun {env ds} e => by
    obtain ⟨x, e1, e⟩ := Option.bind_eq_some_iff.mp e
    obtain ⟨xs, e2, rfl⟩ := Option.map_eq_some_iff.mp e
    exact aa_cons (a.sF e1) (as.sF e2)
def xTup (as : XA W) : XP W where
  t := tTup as.t
  ev env := (as.evF env).bind fun ds => if ds.length <= 1000000 then some (.fr, .tup ds) else none
  snd := fun {env k d} e => by
    obtain ⟨x, e1, e⟩ := Option.bind_eq_some_iff.mp e
    obtain ⟨h, e⟩ := ite_some e
    cases e
    exact (ae_tup (as.sF e1) h).own
def xLst (as : XA W) : XP W where
  t := tLst as.t
  ev env := (as.evF env).bind fun ds => if ds.length <= 1000000 then some (.fr, .olst ds) else none
  snd := fun {env k d} e => by
    obtain ⟨x, e1, e⟩ := Option.bind_eq_some_iff.mp e
    obtain ⟨h, e⟩ := ite_some e
    cases e
    exact ae_lst (as.sF e1) h
def xCb (r : List V -> Hp -> VK -> Prop) (f : List D -> Option D) (h : ∀ {ds d}, f ds = some d -> Cb W r ds d) (as : XA W) : XP W where
  t := tCB r as.t
  ev env := (as.evV env).bind fun ds => (f ds).map (Prod.mk .fr)
  snd := fun {env k d} e => by
    obtain ⟨x, e1, e⟩ := Option.bind_eq_some_iff.mp e
    obtain ⟨z, e2, e⟩ := Option.map_eq_some_iff.mp e
    cases e
    exact ae_cb (as.sV e1) (h e2)
def intD : List D -> Option D
  | [.int i] => some (.int i)
  | [.bl b] => some (.int (if b then 1 else 0))
  | _ => none
def xInt1 (as : XA W) : XP W := xCb (fun xs H Q => (∃ i, xs = [.int i] /\ Q (.int i) H) \/ ∃ k, xs = [.bl k] /\ Q (.int (if k then 1 else 0)) H) intD (fun {ds d} e => by
  unfold intD at e
  split at e
  · cases e; exact cb_int
  · cases e
    exact fun F H vs Q s a q => by
      cases a with
      | cons a b => cases b; cases a; exact .inr ⟨_, rfl, q _ F H (.refl s) (rO_sh .int)⟩
  · cases e) as
def absD : List D -> Option D
  | [.int i] => some (.int (if i < 0 then -i else i))
  | _ => none
def xAbs (as : XA W) : XP W := xCb (fun xs H Q => ∃ i, xs = [.int i] /\ Q (.int (if i < 0 then -i else i)) H) absD (fun {ds d} e => by
  unfold absD at e
  split at e
  · cases e; exact cb_abs
  · cases e) as
abbrev rLenA (K : PySem.W.Frag) : List V -> Hp -> VK -> Prop := fun xs H Q => (∃ p ys, xs = [.ref p] /\ (SqL K H p ys \/ SqT K H p ys) /\ Q (.int ys.length) H) \/ (∃ a kvs, xs = [V.ref a] /\ H a = some (.dK kvs) /\ Q (.int kvs.length) H)
def lenD : List D -> Option D
  | [.lst ds] => some (.int ds.length)
  | [.tup ds] => some (.int ds.length)
  | [.scr ns] => some (.int ns.length)
  | _ => none
theorem len_cb {ds : List D} {d : D} (e : lenD ds = some d) : Cb W (rLenA W.K) ds d := by
  unfold lenD at e
  split at e
  · cases e; exact cb_l cb_lenL
  · cases e; exact cb_l cb_lenT
  · cases e; exact cb_l cb_lenS
  · cases e
def itemsD : D -> Option (List D)
  | .lst xs => some xs
  | .olst xs => some xs
  | .tup xs => some xs
  | .scr ns => some (ns.map .int)
  | _ => none
def ixD (d y : D) : Option D := match y with
  | .int i => (itemsD d).bind fun xs => atI xs i
  | _ => none
theorem Owns.get {G H : Hp} : ∀ {ds : List D} {vs : List V} {L : List Addr} {i : Nat} {d : D}, Owns W G H ds vs L -> ds[i]? = some d -> ∃ v M, vs[i]? = some v /\ Own W G H d v M
  | _, _, _, _, _, .nil, e => by simp at e
  | _, _, _, 0, _, .cons h _, e => by simp at e; subst e; exact ⟨_, _, rfl, h⟩
  | _, _, _, i + 1, _, .cons _ t, e => Owns.get (i := i) t (by simpa using e)
theorem atI_own {G H : Hp} {ds : List D} {vs : List V} {L : List Addr} {i : Int} (h : Owns W G H ds vs L) (ha : atI ds i = some d) : ∃ v M, atI vs i = some v /\ Own W G H d v M := by
  unfold atI at ha ⊢
  rw [<- h.length]
  cases e : ixN ds.length i with
  | none => rw [e] at ha; cases ha
  | some j =>
    rw [e] at ha
    exact h.get ha
theorem ixD_ok {G H : Hp} {v : V} {L : List Addr} {i : Int} {x : D} (s : Same G H) (o : Own W G H d v L) (h : ixD d (.int i) = some x) : ∃ w M, Own W G H x w M /\ ∀ Q : VK, Q w H -> rIxU W.K v (.int i) H Q := by
  obtain ⟨xs, h1, h2⟩ := Option.bind_eq_some_iff.mp h
  cases o with
  | sh y =>
    cases y <;> first | (cases h1; done) | skip
    · cases h1
      obtain ⟨w, M, e1, e2⟩ := atI_own (Shrs.owns (H := H) (shrs_ints (W := W) (F := G) _)) h2
      exact ⟨w, M, e2, fun Q q => .inl ⟨_, _, i, w, rfl, rfl, s.seq (by assumption), e1, q⟩⟩
    · cases h1
      obtain ⟨w, M, e1, e2⟩ := atI_own (Shrs.owns (H := H) (by assumption)) h2
      exact ⟨w, M, e2, fun Q q => .inr ⟨_, _, i, w, rfl, rfl, .of (s _ _ (by assumption)), e1, q⟩⟩
    · cases h1
      obtain ⟨w, M, e1, e2⟩ := atI_own (Shrs.owns (H := H) (by assumption)) h2
      exact ⟨w, M, e2, fun Q q => .inl ⟨_, _, i, w, rfl, rfl, .of (s _ _ (by assumption)), e1, q⟩⟩
  | olst ha hs =>
    cases h1
    obtain ⟨w, M, e1, e2⟩ := atI_own hs h2
    exact ⟨w, M, e2, fun Q q => .inl ⟨_, _, i, w, rfl, rfl, .of ha, e1, q⟩⟩
  | odic => cases h1
  | odit => cases h1
  | odig => cases h1
  | oins => cases h1
def xIx (a b : XP W) : XP W where
  t := tOp (rIxU W.K) a.t b.t
  ev env := (a.ev env).bind fun p => (b.evV env).bind fun y => (ixD p.2 y).map p.1.of
  snd := fun {env k d} e => by
    obtain ⟨⟨k1, d1⟩, e1, e⟩ := Option.bind_eq_some_iff.mp e
    obtain ⟨y, e2, e⟩ := Option.bind_eq_some_iff.mp e
    obtain ⟨x, e3, e9⟩ := Option.map_eq_some_iff.mp e
    intro e' F σ H L Q r q
    refine a.snd e1 e' F σ H L _ r fun v F1 H1 x1 y1 => b.sV e2 e' F1 σ H1 L _ (r.ext x1) fun u F2 H2 x2 y2 => ?_
    obtain ⟨L1, o⟩ := rK_own y1
    have o2 := o.ext x2
    cases y <;> first | (cases e3; done) | skip
    cases y2
    obtain ⟨w, M, o3, c⟩ := ixD_ok (basis_same x2.s) o2 e3
    exact c _ (q w F2 H2 (x1.trans x2) (rK_of x2.s o3 e9))
def fldD (T : Tbl) (f : String) : D -> Option D
  | .ins c ns xs => if T.fOk c f = true then (pos f ns).bind fun j => xs[j]? else none
  | .oins c ns xs => if T.fOk c f = true then (pos f ns).bind fun j => xs[j]? else none
  | _ => none
theorem fldD_ok {G H : Hp} {v : V} {L : List Addr} {f : String} {x : D} (s : Same G H) (o : Own W G H d v L) (h : fldD T f d = some x) :
    ∃ a c dx fs w M, v = .ref a /\ H a = some (.ins (W.cA c) dx fs) /\ Cls W.K (W.cA c) /\ NoAttr W.K (W.cA c) (so f) /\ fs.lookup (so f) = some w /\ Own W G H x w M := by
  have gen : ∀ {c ns xs vs dx a M}, (if T.fOk c f = true then (pos f ns).bind fun j => xs[j]? else none) = some x -> H a = some (.ins (W.cA c) dx ((ns.map so).zip vs)) -> W.has c -> Owns W G H xs vs M ->
      ∃ a' c' dx fs w M, V.ref a = .ref a' /\ H a' = some (.ins (W.cA c') dx fs) /\ Cls W.K (W.cA c') /\ NoAttr W.K (W.cA c') (so f) /\ fs.lookup (so f) = some w /\ Own W G H x w M := by
    intro c ns xs vs dx a M e ha hc os
    split at e
    · rename_i hf
      obtain ⟨j, e1, e2⟩ := Option.bind_eq_some_iff.mp e
      obtain ⟨w, M', e3, o3⟩ := os.get e2
      exact ⟨a, c, dx, _, w, M', rfl, ha, W.cl c hc, W.na c f hc hf, (zip_lookup e1).trans e3, o3⟩
    · cases e
  cases o with
  | sh y =>
    cases y <;> first | (cases h; done) | skip
    exact gen h (s _ _ (by assumption)) (by assumption) (Shrs.owns (by assumption))
  | olst => cases h
  | odic => cases h
  | odit => cases h
  | odig => cases h
  | oins ha hc hl hs => exact gen h ha hc hs
def xFld (a : XP W) (f : String) : XP W where
  t := tFld W.K a.t (so f)
  ev env := (a.ev env).bind fun p => (fldD T f p.2).map p.1.of
  snd := fun {env k d} e => by
    obtain ⟨⟨k1, d1⟩, e1, e⟩ := Option.bind_eq_some_iff.mp e
    obtain ⟨x, e3, e⟩ := Option.map_eq_some_iff.mp e
    intro e' F σ H L Q r q
    refine a.snd e1 e' F σ H L _ r fun v F1 H1 x1 y1 => ?_
    obtain ⟨L1, o⟩ := rK_own y1
    obtain ⟨a, c, dx, fs, w, M, rfl, h1, h2, h3, h4, h5⟩ := fldD_ok (basis_same x1.s) o e3
    exact ⟨a, _, dx, fs, w, rfl, h1, h2, h3, h4, q w F1 H1 x1 (rK_of x1.s h5 e)⟩
def xList (a : XP W) : XP W where
  t := tCB (fun xs H Q => ∃ p ys, xs = [.ref p] /\ (SqL W.K H p ys \/ SqT W.K H p ys) /\ ∀ l, H l = none -> Q (.ref l) (upd H l (.lst ys))) (tCons a.t tNil)
  ev env := (a.evK env).bind fun d => (seqOf d).map fun p => (.fr, .olst p.2)
  snd := fun {env k d} e => by
    obtain ⟨d1, e1, e⟩ := Option.bind_eq_some_iff.mp e
    obtain ⟨⟨b, xs⟩, e3, e⟩ := Option.map_eq_some_iff.mp e
    cases e
    intro e' F σ H L Q r q
    refine a.sK e1 e' F σ H L _ r fun v F1 H1 x1 ⟨L1, o⟩ => ?_
    obtain ⟨a, vs, rfl, sh, sq⟩ := seqOf_ok x1.s o e3
    refine ⟨a, vs, rfl, ?_, fun p hp => q _ F1 _ (x1.trans (.newH x1.s hp)) ⟨[p], .olst upd_same sh.owns, by simp, fun x m => by
      rw [List.mem_singleton.mp m]; exact ⟨x1.h.free hp, x1.s.free hp⟩⟩⟩
    cases b with
    | true => exact .inr sq
    | false => exact .inl sq
def tyD : D -> Option (Bool × String)
  | .non => some (false, "NoneType")
  | .bl _ => some (false, "bool")
  | .int _ => some (false, "int")
  | .str _ => some (false, "str")
  | .lst _ => some (false, "list")
  | .tup _ => some (false, "tuple")
  | .ins c _ _ => some (true, c)
  | _ => none
def isiB (a b : String) : Bool := a == b || (a == "bool" && b == "int")
def isi1 (T : Tbl) (t c : Bool × String) : Bool := match t, c with
  | (false, a), (false, b) => isiB a b
  | (false, _), (true, _) => false
  | (true, _), (false, _) => false
  | (true, c), (true, d) => T.sub c d
def clsOk (W : Wd T) (c : Bool × String) : Prop := if c.1 = true then W.has c.2 else c.2 ∈ ["int", "bool", "str", "list", "tuple", "dict"]
def clsT (W : Wd T) (c : Bool × String) : Value := if c.1 = true then .ref (W.cA c.2) else .type c.2
def clsV (W : Wd T) (c : Bool × String) : V := if c.1 = true then .ref (W.cA c.2) else .ty c.2
theorem clsV_ok (c : Bool × String) : ClsV (clsV W c) (clsT W c) := by
  obtain ⟨b, n⟩ := c
  cases b with
  | true => exact .own _
  | false => exact .ty _
theorem kitB_ok : ∀ a ∈ ["NoneType", "bool", "int", "str", "list", "tuple", "dict"], ∀ b ∈ ["int", "bool", "str", "list", "tuple", "dict"], kitB a b = some (isiB a b) := by decide +kernel
theorem tyD_ok {F H : Hp} {v : V} {t : Bool × String} (s : Same F H) (h : Shr W F d v) (e : tyD d = some t) : TyX W.K H v (clsT W t) /\ if t.1 = true then W.has t.2 else t.2 ∈ ["NoneType", "bool", "int", "str", "list", "tuple", "dict"] := by
  cases h with
  | non => cases e; exact ⟨.base .non, by simp⟩
  | bl => cases e; exact ⟨.base (.bl _), by simp⟩
  | int => cases e; exact ⟨.base (.int _), by simp⟩
  | str => cases e; exact ⟨.base (.str _), by simp⟩
  | lst h => cases e; exact ⟨.base (.lst (s _ _ h)), by simp⟩
  | tup h => cases e; exact ⟨.base (.tup (s _ _ h)), by simp⟩
  | dic => cases e
  | dit => cases e
  | ins h hc => cases e; exact ⟨.base (.ins (s _ _ h) (W.cl _ hc) (W.isT _ hc).1 (W.isT _ hc).2.1 (W.isT _ hc).2.2.1 (W.isT _ hc).2.2.2), hc⟩
  | scr => cases e
  | cls => cases e
  | sei => cases e
  | dig => cases e
theorem kit_isi {t c : Bool × String} (ht : if t.1 = true then W.has t.2 else t.2 ∈ ["NoneType", "bool", "int", "str", "list", "tuple", "dict"]) (hc : clsOk W c) : PySem.W.kitOne W.K (clsT W t) (clsT W c) = some (isi1 T t c) := by
  obtain ⟨b, n⟩ := t
  obtain ⟨b', n'⟩ := c
  cases b <;> cases b'
  · exact kit_ty (kitB_ok n ht n' hc)
  · exact W.isTO n n' ht hc
  · exact W.isOT n n' ht hc
  · exact W.isOO n n' ht hc
def xIsi (c : Bool × String) (a : XP W) : XP W where
  t := fun σ H Q => clsOk W c -> tCB (rIsi W.K) (tCons a.t (tCons (tC (clsV W c)) tNil)) σ H Q
  ev env := (a.evV env).bind fun x => (tyD x).map fun t => (.fr, .bl (isi1 T t c))
  snd := fun {env k d} e => by
    obtain ⟨x, e1, e⟩ := Option.bind_eq_some_iff.mp e
    obtain ⟨t, e2, e⟩ := Option.map_eq_some_iff.mp e
    cases e
    intro e' F σ H L Q r q hc
    refine a.sV e1 e' F σ H L _ r fun v F1 H1 x1 y1 => ?_
    obtain ⟨z1, z2⟩ := tyD_ok (Same.refl _) y1 e2
    exact ⟨_, _, _, _, _, rfl, clsV_ok c, z1, kit_isi z2 hc, q _ F1 H1 x1 (rO_sh .bl)⟩
def isiA (T : Tbl) (t : Bool × String) : List (Bool × String) -> Bool
  | [] => false
  | c :: cs => isi1 T t c || isiA T t cs
theorem kitAny_isi {t : Bool × String} (ht : if t.1 = true then W.has t.2 else t.2 ∈ ["NoneType", "bool", "int", "str", "list", "tuple", "dict"]) : ∀ {cs : List (Bool × String)}, (∀ c ∈ cs, clsOk W c) -> PySem.W.kitAny W.K (clsT W t) (cs.map (clsT W)) = some (isiA T t cs)
  | [], _ => rfl
  | c :: cs, h => by
    have h1 := kit_isi ht (h c (List.mem_cons_self ..))
    have h2 := kitAny_isi ht (cs := cs) fun x m => h x (List.mem_cons_of_mem _ m)
    exact kitAny_cons h1 (fun hb => by rw [h2, isiA, hb]; rfl) fun hb => by rw [isiA, hb]; rfl
theorem paired_cls : ∀ cs : List (Bool × String), Paired ClsV (cs.map (clsV W)) (cs.map (clsT W))
  | [] => .nil
  | c :: cs => .cons (clsV_ok c) (paired_cls cs)
def tCls {T : Tbl} (W : Wd T) : List (Bool × String) -> TA
  | [] => tNil
  | c :: cs => tCons (tC (clsV W c)) (tCls W cs)
theorem tCls_run : ∀ (cs : List (Bool × String)) (σ : St) (H : Hp) (Q : List V -> Hp -> Prop), Q (cs.map (clsV W)) H -> tCls W cs σ H Q
  | [], _, _, _, q => q
  | _ :: cs, σ, H, _, q => tCls_run cs σ H _ q
def xIsiT (cs : List (Bool × String)) (a : XP W) : XP W where
  t := fun σ H Q => (∀ c ∈ cs, clsOk W c) -> cs.length <= 100 -> tCB (rIsiT W.K) (tCons a.t (tCons (tTup (tCls W cs)) tNil)) σ H Q
  ev env := (a.evV env).bind fun x => (tyD x).map fun t => (.fr, .bl (isiA T t cs))
  snd := fun {env k d} e => by
    obtain ⟨x, e1, e⟩ := Option.bind_eq_some_iff.mp e
    obtain ⟨t, e2, e⟩ := Option.map_eq_some_iff.mp e
    cases e
    intro e' F σ H L Q r q hc hl
    refine a.sV e1 e' F σ H L _ r fun v F1 H1 x1 y1 => tCls_run cs σ H1 _ ⟨by rw [List.length_map]; exact Nat.le_trans hl (by decide), fun p hp => ?_⟩
    obtain ⟨z1, z2⟩ := tyD_ok (same_new hp) y1 e2
    exact ⟨_, _, _, _, _, _, rfl, upd_same, paired_cls cs, z1, kitAny_isi z2 hc, q _ F1 _ (x1.trans (.newH x1.s hp)) (rO_sh .bl)⟩
inductive Rz where
  | ok (d : D) (b : Option D) | exn (x : Exn) (b : Option D) | no
abbrev Sem := String -> List D -> Option Nat -> Rz
structure Post (F H : Hp) (L0 : List Addr) (F' H' : Hp) : Prop where
  f : Same F F'
  s : Same F' H'
  h : ∀ a o, a ∉ L0 -> H a = some o -> H' a = some o
  n : ∀ a o, F' a = some o -> F a = some o \/ H a = none \/ a ∈ L0
def bOwn {T : Tbl} (W : Wd T) (F H : Hp) (vs : List V) : Option Nat -> Option D -> List Addr -> Prop
  | some i, some d, M => ∃ v, vs[i]? = some v /\ Own W F H d v M
  | _, _, M => M = []
def spR {T : Tbl} (W : Wd T) (n : Nat) (φ : List D -> Option Nat -> Rz) (b : Option Nat) : Sp := fun vs H Q E => ∃ F args L0, Same F H /\ Owns W F H args vs L0 /\ L0.Nodup /\ (∀ a ∈ L0, F a = none) /\ args.length = n /\ φ args b ≠ .no /\
  (∀ d bd, φ args b = .ok d bd -> ∀ F' H' v M Mb, Post F H L0 F' H' -> Own W F' H' d v M -> bOwn W F' H' vs b bd Mb -> (M ++ Mb).Nodup -> (∀ a ∈ M ++ Mb, F' a = none /\ (a ∈ L0 \/ H a = none)) -> Q v H') /\
  (∀ x bd, φ args b = .exn x bd -> ∀ F' H' C dd Mb, Post F H L0 F' H' -> IsExn W F' x C dd -> bOwn W F' H' vs b bd Mb -> Mb.Nodup -> (∀ a ∈ Mb, F' a = none /\ (a ∈ L0 \/ H a = none)) -> E C dd H')
theorem spR_len {n : Nat} {φ : List D -> Option Nat -> Rz} {b : Option Nat} : ∀ vs H Q E, spR W n φ b vs H Q E -> vs.length = n := by
  rintro vs H Q E ⟨F, args, L0, _, hS, _, _, hl, _⟩
  rw [<- hS.length, hl]
theorem Post.ext {F H F' H' : Hp} (p : Post F H [] F' H') : Ext F H F' H' := ⟨p.f, p.s, fun a o h => p.h a o (by simp) h, fun a o h => (p.n a o h).elim .inl fun z => z.elim .inr fun q => nomatch q⟩
def Rz.toF : Rz -> Option (Kd × D)
  | .ok d _ => some (.fr, d)
  | _ => none
def Rz.toV : Rz -> Option (Kd × D)
  | .ok d _ => some (if isFlat d = true then (.fr, d) else (.vw, fz d))
  | _ => none
theorem Rz.toF_ok {r : Rz} {k : Kd} {d : D} (h : r.toF = some (k, d)) : k = .fr /\ ∃ b, r = .ok d b := by cases r <;> cases h; exact ⟨rfl, _, rfl⟩
theorem Rz.toV_ok {r : Rz} {k : Kd} {d : D} (h : r.toV = some (k, d)) : ∃ d0 b, r = .ok d0 b /\ ((isFlat d0 = true /\ k = .fr /\ d = d0) \/ (k = .vw /\ d = fz d0)) := by
  cases r with
  | exn => cases h
  | no => cases h
  | ok d0 b =>
    have e : some (if isFlat d0 = true then (Kd.fr, d0) else (.vw, fz d0)) = some (k, d) := h
    have e := Option.some.inj e
    split at e
    · cases e; exact ⟨_, _, rfl, .inl ⟨by assumption, rfl, rfl⟩⟩
    · cases e; exact ⟨_, _, rfl, .inr ⟨rfl, rfl⟩⟩
theorem callF {n : Nat} {φ : List D -> Option Nat -> Rz} {F H : Hp} {vs : List V} {args : List D} {Q : VK} {E : XK} {b : Option D} (s : Same F H) (h : Shrs W F args vs) (hl : args.length = n) (hφ : φ args none = .ok d b)
    (q : ∀ v F' H', Ext F H F' H' -> rO W d F' H' H v -> Q v H') : spR W n φ none vs H Q E := by
  refine ⟨F, args, [], s, h.owns, .nil, ?_, hl, ?_, fun d' bd e F' H' v M Mb p o ob nd k => ?_, fun x bd e => ?_⟩
  · exact fun a m => nomatch m
  · rw [hφ]; exact fun z => nomatch z
  rotate_left
  · rw [hφ] at e; cases e
  rw [hφ] at e; cases e
  have ob : Mb = [] := ob
  subst ob
  rw [List.append_nil] at nd k
  exact q v F' H' p.ext ⟨M, o, nd, fun a m => ⟨(k a m).2.elim (fun z => nomatch z) id, (k a m).1⟩⟩
theorem callV {n : Nat} {φ : List D -> Option Nat -> Rz} {F H : Hp} {vs : List V} {args : List D} {Q : VK} {E : XK} {b : Option D} (s : Same F H) (h : Shrs W H args vs) (hl : args.length = n) (hφ : φ args none = .ok d b)
    (q : ∀ v H', Ext F H F H' -> Shr W H' (fz d) v -> Q v H') : spR W n φ none vs H Q E :=
  callF (Same.refl H) h hl hφ fun v F' H' x ⟨L, o, _, _⟩ => q v H' ⟨Same.refl _, s.trans (x.f.trans x.s), x.h, fun _ _ z => .inl z⟩ (o.view x.s fun _ _ _ z => z)
def xCall (φ : List D -> Option Nat -> Rz) (n : Nat) (as : XA W) (dds : List D) (dvs : List V) (hd : ∀ F, Shrs W F dds dvs) : XP W where
  t := tCall (spR W n φ none) dvs E0 as.t
  ev env := match as.evF env with
    | some ds => if (ds ++ dds).length = n then (φ (ds ++ dds) none).toF else none
    | none => match as.evV env with
      | some ds => if (ds ++ dds).length = n then (φ (ds ++ dds) none).toV else none
      | none => none
  snd := fun {env k d} e => by
    match e1 : as.evF env, e with
    | some ds, e =>
      dsimp only at e
      split at e
      · rename_i hl
        obtain ⟨rfl, b, h⟩ := Rz.toF_ok e
        exact fun e' F σ H L Q r q => as.sF e1 e' F σ H L _ r fun vs F1 H1 x1 y1 => callF x1.s (y1.append (hd F1)) hl h fun v F2 H2 x2 y2 => q v F2 H2 (x1.trans x2) (rO_back x1.h y2)
      · cases e
    | none, e =>
      match e2 : as.evV env, e with
      | some ds, e =>
        dsimp only at e
        split at e
        · rename_i hl
          obtain ⟨d0, b, h, hk⟩ := Rz.toV_ok e
          refine fun e' F σ H L Q r q => as.sV e2 e' F σ H L _ r fun vs F1 H1 x1 y1 => callV x1.s (Shrs.append y1 (hd H1)) hl h fun v H2 x2 y2 => q v F1 H2 (x1.trans x2) ?_
          rcases hk with ⟨hf, rfl, rfl⟩ | ⟨rfl, rfl⟩
          · rw [fz_isSh (isSh_flat hf)] at y2
            exact rO_sh (y2.flat hf)
          · exact y2
        · cases e
structure XG {T : Tbl} (W : Wd T) where
  t : TG
  ev : List Nat -> D -> Py.Env -> Option Py.Env
  own : List Nat
  snd : ∀ {P d env env'}, ev P d env = some env' -> AG W P t d env (· = env')
  mono : ∀ {v : V} {σ : St} {H : Hp} {Q Q' : St -> Hp -> Prop}, (∀ σ H, Q σ H -> Q' σ H) -> t v σ H Q -> t v σ H Q'
  gw : ∀ {vs : List Nat}, (∀ i ∈ own, i ∈ vs) -> GW t vs
structure XGs {T : Tbl} (W : Wd T) where
  t : TGs
  ev : List Nat -> List D -> Py.Env -> Option Py.Env
  own : List Nat
  snd : ∀ {P d env env'}, ev P d env = some env' -> AGs W P t d env (· = env')
  mono : ∀ {v : List V} {σ : St} {H : Hp} {Q Q' : St -> Hp -> Prop}, (∀ σ H, Q σ H -> Q' σ H) -> t v σ H Q -> t v σ H Q'
  gw : ∀ {vs : List Nat}, (∀ i ∈ own, i ∈ vs) -> GWs t vs
def setS (P : List Nat) (i : Nat) (d : D) (env : Py.Env) : Option Py.Env := if i < env.length /\ i ∉ P then some (env.set i (some d)) else none
def xgN {T : Tbl} (W : Wd T) (i : Nat) : XG W where
  t := gName i
  ev P d env := setS P i d env
  own := [i]
  snd := fun {P d env env'} e => by
    obtain ⟨⟨h1, h2⟩, rfl⟩ := ite_some e
    exact ag_name (List.getElem?_eq_getElem h1) h2 rfl
  mono := fun h q => h _ _ q
  gw := fun h => gw_name (h i (List.mem_cons_self ..))
def xgsNil {T : Tbl} (W : Wd T) : XGs W where
  t := gNil
  ev P ds env := match ds with
    | [] => some env
    | _ :: _ => none
  own := []
  snd := fun {P ds env env'} e => by
    cases ds with
    | nil => cases e; exact ags_nil rfl
    | cons => cases e
  mono := fun h q => ⟨q.1, h _ _ q.2⟩
  gw := fun h => gws_nil
def xgsCons (g : XG W) (gs : XGs W) : XGs W where
  t := gCons g.t gs.t
  ev P ds env := match ds with
    | [] => none
    | d :: ds => (g.ev P d env).bind fun env => gs.ev P ds env
  own := g.own ++ gs.own
  snd := fun {P ds env env'} e => by
    cases ds with
    | nil => cases e
    | cons d ds =>
      obtain ⟨env1, e1, e2⟩ := Option.bind_eq_some_iff.mp e
      refine ags_cons fun e0 F σ H L v Q hP r s c => g.snd e1 e0 F σ H L v Q hP r s fun env2 σ2 L2 h r2 => ?_
      subst h
      exact c _ σ2 L2 (gs.snd e2) r2
  mono := fun h ⟨v, r, e, q⟩ => ⟨v, r, e, g.mono (fun _ _ q => gs.mono h q) q⟩
  gw := fun {vs} h v σ H Q ⟨x, r, e, q⟩ => ⟨x, r, e, g.mono (fun σ2 H2 ⟨w, q2⟩ => gs.mono (fun σ3 H3 ⟨w3, q3⟩ => ⟨w3.trans w, q3⟩) (gs.gw (fun i m => h i (List.mem_append_right _ m)) r σ2 H2 Q q2)) (g.gw (fun i m => h i (List.mem_append_left _ m)) x σ H _ q)⟩
def xgT (n : Nat) (gs : XGs W) : XG W where
  t := gTup W.K n gs.t
  ev P d env := match d with
    | .tup ds => if ds.length = n then gs.ev P ds env else none
    | _ => none
  own := gs.own
  snd := fun {P d env env'} e => by
    cases d <;> first | (cases e; done) | skip
    dsimp only at e
    split at e
    · exact ag_tup (by assumption) (gs.snd e)
    · cases e
  mono := fun h ⟨a, xs, e1, e2, e3, q⟩ => ⟨a, xs, e1, e2, e3, gs.mono h q⟩
  gw := fun h => gw_tup (gs.gw h)
structure XI {T : Tbl} (W : Wd T) where
  t : TI
  evF : Py.Env -> Option (List D)
  evP : Py.Env -> Option (List D)
  sF : ∀ {env ds}, evF env = some ds -> AIt W t env ds
  sP : ∀ {env ds}, evP env = some ds -> AIp W t env ds
theorem seq_sql {F0 : Hp} {a : Addr} {ds : List D} {vs : List V} (h : SqL W.K F0 a vs) (hs : Shrs W F0 ds vs) : Seq W (Itl W.K a) ds F0 where
  go := fun i d F H s1 s2 hd => by
    obtain ⟨v, hv, sv⟩ := hs.get hd
    refine ⟨⟨vs, v, (s1.trans s2).seq h, hv⟩, fun x H' y => ?_⟩
    obtain ⟨rfl, y⟩ := y
    have := y vs ((s1.trans s2).seq h)
    rw [hv] at this; cases this
    exact ⟨F, .refl s2, sv.mono s1⟩
  stop := fun F H s1 s2 => ⟨vs, (s1.trans s2).seq h, by rw [hs.length]; exact Nat.le_refl _⟩
theorem seqP_sql {F0 H0 : Hp} {a : Addr} {ds : List D} {vs : List V} (h : SqL W.K H0 a vs) (hs : Shrs W F0 ds vs) : SeqP W (Itl W.K a) ds F0 H0 where
  go := fun i d F H s1 s0 s2 hd => by
    obtain ⟨v, hv, sv⟩ := hs.get hd
    refine ⟨⟨vs, v, s0.seq h, hv⟩, fun x H' y => ?_⟩
    obtain ⟨rfl, y⟩ := y
    have := y vs (s0.seq h)
    rw [hv] at this; cases this
    exact ⟨F, .refl s2, sv.mono s1⟩
  stop := fun F H s1 s0 s2 => ⟨vs, s0.seq h, by rw [hs.length]; exact Nat.le_refl _⟩
theorem sameT {H H' : Hp} (e : Same H H') {a : Addr} {xs : List V} (h : SqT W.K H a xs) : SqT W.K H' a xs := by
  rcases h with (h | ⟨o, h⟩) | h
  · exact .inl (.inl (e _ _ h))
  · exact .inl (.inr ⟨o, e _ _ h⟩)
  · exact .inr h
theorem seqP_sqt {F0 H0 : Hp} {a : Addr} {ds : List D} {vs : List V} (h : SqT W.K H0 a vs) (hs : Shrs W F0 ds vs) : SeqP W (Itt W.K a) ds F0 H0 where
  go := fun i d F H s1 s0 s2 hd => by
    obtain ⟨v, hv, sv⟩ := hs.get hd
    refine ⟨⟨vs, v, sameT s0 h, hv⟩, fun x H' y => ?_⟩
    obtain ⟨rfl, y⟩ := y
    have := y vs (sameT s0 h)
    rw [hv] at this; cases this
    exact ⟨F, .refl s2, sv.mono s1⟩
  stop := fun F H s1 s0 s2 => ⟨vs, sameT s0 h, by rw [hs.length]; exact Nat.le_refl _⟩
def seqF : D -> Option (List D)
  | .lst xs => some xs
  | .tup xs => some xs
  | .scr ns => some (ns.map .int)
  | _ => none
def xiSeq (a : XP W) : XI W where
  t := iSeqU W.K a.t
  evF env := (a.evF env).bind seqF
  evP env := (a.evK env).bind fun d => (seqOf d).map (·.2)
  sF := fun {env ds} e => by
    obtain ⟨d, e1, e⟩ := Option.bind_eq_some_iff.mp e
    intro e' F σ H L R r q
    cases d <;> first | (cases e; done) | skip
    · cases e
      refine .inl (a.sF e1 e' F σ H L _ r fun v F1 H1 x1 y1 => ?_)
      cases y1 with
      | scr h => exact ⟨_, rfl, ⟨_, x1.s.seq h⟩, q _ F1 H1 x1 (seq_sql h (shrs_ints _))⟩
    · cases e; exact .inr (ait_tup (a.sF e1) e' F σ H L R r q)
    · cases e; exact .inl (ait_list (a.sF e1) e' F σ H L R r q)
  sP := fun {env ds} e => by
    obtain ⟨d, e1, e⟩ := Option.bind_eq_some_iff.mp e
    obtain ⟨⟨b, xs⟩, e2, rfl⟩ := Option.map_eq_some_iff.mp e
    intro e' F σ H L R r q
    cases b with
    | true =>
      refine .inr (a.sK e1 e' F σ H L _ r fun v F1 H1 x1 ⟨M, o⟩ => ?_)
      obtain ⟨a, vs, rfl, sh, sq⟩ := seqOf_ok x1.s o e2
      exact ⟨a, rfl, ⟨vs, sq⟩, q _ F1 H1 x1 (seqP_sqt sq sh)⟩
    | false =>
      refine .inl (a.sK e1 e' F σ H L _ r fun v F1 H1 x1 ⟨M, o⟩ => ?_)
      obtain ⟨a, vs, rfl, sh, sq⟩ := seqOf_ok x1.s o e2
      exact ⟨a, rfl, ⟨vs, sq⟩, q _ F1 H1 x1 (seqP_sql sq sh)⟩
def guardB {α : Type} (b : Bool) (x : Option α) : Option α := match b with
  | true => x
  | false => none
theorem guardB_some {α : Type} {b : Bool} {x : Option α} {y : α} (h : guardB b x = some y) : b = true /\ x = some y := by
  cases b with
  | true => exact ⟨rfl, h⟩
  | false => cases h
def rngOk (i : Int) : Bool := Nat.ble i.natAbs 1000000000000000000
theorem rngOk_ok {i : Int} (h : rngOk i = true) : -4611686018427387904 <= i /\ i < 4611686018427387904 := by
  have h : i.natAbs <= 1000000000000000000 := Nat.le_of_ble_eq_true h
  omega
def rng1D : List D -> Option (List D)
  | [.int n] => guardB (rngOk n) (some (rangeD 0 n.toNat))
  | _ => none
def rng2D : List D -> Option (List D)
  | [.int m, .int n] => guardB (rngOk m && rngOk n) (some (rangeD m (n - m).toNat))
  | _ => none
theorem rng1_ok {as : XA W} {env : Py.Env} {ds : List D} (e : (as.evV env).bind rng1D = some ds) : AIt W (iRng1 as.t) env ds := by
  obtain ⟨xs, e1, e⟩ := Option.bind_eq_some_iff.mp e
  unfold rng1D at e
  split at e
  · obtain ⟨h, e⟩ := guardB_some e
    cases e
    exact ait_range (as.sV e1) (rngOk_ok h)
  · cases e
theorem rng2_ok {as : XA W} {env : Py.Env} {ds : List D} (e : (as.evV env).bind rng2D = some ds) : AIt W (iRng2 as.t) env ds := by
  obtain ⟨xs, e1, e⟩ := Option.bind_eq_some_iff.mp e
  unfold rng2D at e
  split at e
  · obtain ⟨h, e⟩ := guardB_some e
    cases e
    rw [Bool.and_eq_true] at h
    have h1 := rngOk_ok h.1
    have h2 := rngOk_ok h.2
    exact ait_range2 (as.sV e1) ⟨h1.1, h1.2, h2.1, h2.2⟩
  · cases e
def xiR1 (as : XA W) : XI W := ⟨iRng1 as.t, fun env => (as.evV env).bind rng1D, fun env => (as.evV env).bind rng1D, rng1_ok, fun e => (rng1_ok e).p⟩
def xiR2 (as : XA W) : XI W := ⟨iRng2 as.t, fun env => (as.evV env).bind rng2D, fun env => (as.evV env).bind rng2D, rng2_ok, fun e => (rng2_ok e).p⟩
def lstF : D -> Option (List D)
  | .lst xs => some xs
  | _ => none
theorem lstF_ok {d : D} {xs : List D} (h : lstF d = some xs) : d = .lst xs := by cases d <;> cases h; rfl
def xtYes {T : Tbl} (W : Wd T) : XT W := ⟨tYes, fun _ => some true, fun e => by cases e; exact at_yes⟩
def lc1 (g : XG W) (c : XT W) (x : XP W) (env : Py.Env) (d : D) : Option (List D) := (g.ev [] d env).bind fun e2 => (c.ev e2).bind fun b => if b = true then (x.evO e2).map fun y => [y] else some []
def lcL (f : D -> Option (List D)) : List D -> Option (List D)
  | [] => some []
  | d :: ds => (f d).bind fun y => (lcL f ds).map (y ++ ·)
theorem lcL_take {f : D -> Option (List D)} : ∀ {ds ys : List D}, lcL f ds = some ys -> ∃ rs : Nat -> List D, rs 0 = [] /\ rs ds.length = ys /\ (∀ (i : Nat) (d : D), ds[i]? = some d -> ∃ y, f d = some y /\ rs (i + 1) = rs i ++ y)
  | [], _, h => by cases h; exact ⟨fun _ => [], rfl, rfl, fun i d h => by simp at h⟩
  | d :: ds, ys, h => by
    obtain ⟨y, e1, h⟩ := Option.bind_eq_some_iff.mp h
    obtain ⟨zs, e2, rfl⟩ := Option.map_eq_some_iff.mp h
    obtain ⟨rs, r0, r1, r2⟩ := lcL_take e2
    refine ⟨fun i => match i with | 0 => [] | i + 1 => y ++ rs i, rfl, by rw [List.length_cons, <- r1], fun i d' hd => ?_⟩
    cases i with
    | zero =>
      simp at hd; subst hd
      exact ⟨y, e1, by simp [r0]⟩
    | succ i =>
      obtain ⟨z, h1, h2⟩ := r2 i d' (by simpa using hd)
      exact ⟨z, h1, by simp [h2]⟩
theorem lcL_pre {f : D -> Option (List D)} : ∀ {ds : List D} {rs : Nat -> List D}, (∀ d y, f d = some y -> y.length <= 1) -> rs 0 = [] -> (∀ (i : Nat) (d : D), ds[i]? = some d -> ∃ y, f d = some y /\ rs (i + 1) = rs i ++ y) -> ∀ i, i <= ds.length -> (rs i).length <= i
  | ds, rs, hf, r0, r2, 0, _ => by rw [r0]; exact Nat.le_refl _
  | ds, rs, hf, r0, r2, i + 1, h => by
    have ih := lcL_pre hf r0 r2 i (by omega)
    obtain ⟨y, e1, e2⟩ := r2 i ds[i] (List.getElem?_eq_getElem (by omega))
    have := hf _ _ e1
    rw [e2, List.length_append]
    omega
def xLc (it : XI W) (g : XG W) (c : XT W) (x : XP W) : XP W where
  t := tLc it.t g.t c.t x.t g.own
  ev env := (it.evP env).bind fun ds => if ds.length < 1000000 then (lcL (lc1 g c x (wipeE env g.own)) ds).map fun ys => (.fr, .olst ys) else none
  snd := fun {env k d} e => by
    obtain ⟨ds, e1, e⟩ := Option.bind_eq_some_iff.mp e
    split at e
    · rename_i hl
      obtain ⟨ys, e2, e⟩ := Option.map_eq_some_iff.mp e
      cases e
      obtain ⟨rs, r0, r1, r2⟩ := lcL_take e2
      have h1 : ∀ d y, lc1 g c x (wipeE env g.own) d = some y -> y.length <= 1 := fun d y h => by
        obtain ⟨e2, _, h⟩ := Option.bind_eq_some_iff.mp h
        obtain ⟨b, _, h⟩ := Option.bind_eq_some_iff.mp h
        split at h
        · obtain ⟨z, _, rfl⟩ := Option.map_eq_some_iff.mp h; simp
        · cases h; simp
      rw [<- r1]
      refine ae_lc (it.sP e1) (g.gw fun _ m => m) rs r0 (fun i d hd => ?_) fun i hi => ?_
      · obtain ⟨y, h, hr⟩ := r2 i d hd
        obtain ⟨env2, g1, h⟩ := Option.bind_eq_some_iff.mp h
        obtain ⟨b, c1, h⟩ := Option.bind_eq_some_iff.mp h
        intro e0 F σ H L v Q hP r s q
        refine g.snd g1 e0 F σ H L v Q hP r s fun env3 σ2 L2 z r3 => ?_
        subst z
        refine q _ σ2 L2 ⟨b, c.snd c1, fun hb => ?_, fun hb => ?_⟩ r3
        · subst hb
          obtain ⟨z, h8, rfl⟩ := Option.map_eq_some_iff.mp h
          exact ⟨z, x.sO h8, hr⟩
        · subst hb
          cases h
          rw [hr, List.append_nil]
      · have := lcL_pre h1 r0 r2 i hi
        omega
    · cases e
end
end Py
namespace Py
open PySem L2
section
variable {T : Tbl} {W : Wd T} {env : Py.Env} {d d0 d1 d2 : D} {P : List Nat} {E : WX} {A : AEnds}
theorem AS.weaken {t : TS} {A' : AEnds} (h : AS W P E t env A') (nx : ∀ e, A'.nx e -> A.nx e) (rt : ∀ d e, A'.rt d e -> A.rt d e) (bk : ∀ e, A'.bk e -> A.bk e) (ct : ∀ e, A'.ct e -> A.ct e) (ex : ∀ x e, A'.ex x e -> A.ex x e) : AS W P E t env A :=
  fun e F σ H L Dn hP r s => h e F σ H L Dn hP r ⟨fun _ _ _ _ _ a => s.nx _ _ _ _ _ (nx _ a), fun _ _ _ _ _ _ _ _ a => s.rt _ _ _ _ _ _ _ _ (rt _ _ a), fun _ _ _ _ _ a => s.bk _ _ _ _ _ (bk _ a), fun _ _ _ _ _ a => s.ct _ _ _ _ _ (ct _ a), fun _ _ _ _ _ _ _ _ a => s.ex _ _ _ _ _ _ _ _ (ex _ _ a)⟩
inductive RM where
  | ok (d : D) (env : Py.Env) | exn (x : Exn) (env : Py.Env) | no
def AMr {T : Tbl} (W : Wd T) (P : List Nat) (E : WX) (t : TE) (env : Py.Env) (r : RM) : Prop := r ≠ .no ->
  ∀ (e : Ent) (F : Hp) (σ : St) (H : Hp) (L : List Addr) (Q : VK), P = e.pins.map (·.1) -> Rel W e env F σ H L ->
    (∀ d env' v F' H' L' M, r = .ok d env' -> Rel W e env' F' σ H' L' -> Own W F' H' d v M -> (M ++ L').Nodup -> (∀ a ∈ M, F' a = none /\ (a ∈ e.L0 \/ e.H0 a = none)) -> Q v H') ->
    (∀ x env' F' H' L' C dd, r = .exn x env' -> Rel W e env' F' σ H' L' -> IsExn W F' x C dd -> E C dd σ H') -> t σ H Q
structure XM {T : Tbl} (W : Wd T) where
  t : WX -> TE
  ev : List Nat -> Py.Env -> RM
  snd : ∀ P E env, AMr W P E (t E) env (ev P env)
def RM.of (o : Option D) (env : Py.Env) : RM := match o with
  | some d => .ok d env
  | none => .no
theorem RM.of_ok {o : Option D} {env : Py.Env} (h : RM.of o env ≠ .no) : ∃ d, o = some d /\ RM.of o env = .ok d env := by
  cases o with
  | none => exact absurd rfl h
  | some d => exact ⟨d, rfl, rfl⟩
def xmP (p : XP W) : XM W where
  t _ := p.t
  ev _ env := RM.of (p.evO env) env
  snd := fun P E env hn e F σ H L Q hP r c _ => by
    obtain ⟨d, e1, e2⟩ := RM.of_ok hn
    exact p.sO e1 e F σ H L Q r fun v F' H' x ⟨M, o, nd, kk⟩ => c d env v F' H' L M e2 (r.ext x) o (nodup_new (H := H) r.nd nd r.slots.lives fun a m => (kk a m).1) fun a m => ⟨(kk a m).2, r.h0 (kk a m).1⟩
theorem Rel.freeze {e : Ent} {F H : Hp} {σ : St} {L : List Addr} {i : Nat} (r : Rel W e env F σ H L) (h : getS env i = some d) :
    ∃ v F' L', σ[i]? = some (some v) /\ Rel W e (env.set i (some (fz d))) F' σ H L' /\ Shr W F' (fz d) v := by
  obtain ⟨v, Li, Lr, e1, o, sl, nd, mem⟩ := r.slots.take r.nd (getS_some h)
  obtain ⟨F', s1, s2, nw, sh⟩ := Py.freeze r.sF o fun a ha => r.dj a ((mem a).mp (.inl ha))
  rw [List.nodup_append] at nd
  have hi : i < env.length := (List.getElem?_eq_some_iff.mp (getS_some h)).1
  have sl' := sl.frame (F' := F') (H' := H) s1 fun a _ o q => q
  obtain ⟨L', t1, t2, t3⟩ := sl'.put (i := i) (v := v) (Ld := []) (.sh sh) (by simpa using nd.2.1) (by simpa using hi)
  rw [List.set_set] at t1
  have hσ : σ.set i (some v) = σ := by
    apply List.ext_getElem?
    intro k
    by_cases hk : i = k
    · subst hk
      obtain ⟨hlt, _⟩ := List.getElem?_eq_some_iff.mp e1
      rw [List.getElem?_set_self hlt, e1]
    · rw [List.getElem?_set_ne hk]
  rw [hσ] at t1
  have inr : ∀ a ∈ L', a ∈ Lr := fun a ha => (t3 a ha).elim (fun z => nomatch z) id
  refine ⟨v, F', L', e1, ⟨s2, t1, t2, fun a ha => ?_, r.s0.trans s1, fun a o q => ?_, r.fr, fun a ha => r.ln a ((mem a).mp (.inr (inr a ha))), r.pin⟩, sh⟩
  · cases q : F' a with
    | none => rfl
    | some u =>
      rcases nw a u q with z | z
      · rw [r.dj a ((mem a).mp (.inr (inr a ha)))] at z; cases z
      · exact absurd rfl (nd.2.2 a z a (inr a ha))
  · rcases nw a o q with z | z
    · exact r.nw a o z
    · exact .inr ((r.ln a ((mem a).mp (.inl z))).elim .inr .inl)
def frzS (env : Py.Env) (i : Nat) : Py.Env := match getS env i with
  | some d => env.set i (some (fz d))
  | none => env
theorem Rel.frz1 {e : Ent} {F H : Hp} {σ : St} {L : List Addr} (r : Rel W e env F σ H L) (i : Nat) : ∃ F' L', Rel W e (frzS env i) F' σ H L' := by
  unfold frzS
  cases h : getS env i with
  | none => exact ⟨F, L, r⟩
  | some d =>
    obtain ⟨_, F', L', _, r', _⟩ := r.freeze h
    exact ⟨F', L', r'⟩
theorem Rel.frzs {e : Ent} {H : Hp} {σ : St} : ∀ (is : List Nat) (env : Py.Env) (F : Hp) (L : List Addr), Rel W e env F σ H L -> ∃ F' L', Rel W e (is.foldl frzS env) F' σ H L'
  | [], _, _, _, r => ⟨_, _, r⟩
  | i :: is, env, F, L, r => by
    obtain ⟨F', L', r'⟩ := r.frz1 i
    exact Rel.frzs is _ F' L' r'
def xmVar {T : Tbl} (W : Wd T) (i : Nat) : XM W where
  t _ := tVar i
  ev _ env := match getS env i with
    | some d => .ok (fz d) (if isSh d = true then env else env.set i (some (fz d)))
    | none => .no
  snd := fun P E env hn e F σ H L Q hP r c _ => by
    match h : getS env i, hn, c with
    | some d, hn, c =>
      by_cases hs : isSh d = true
      · obtain ⟨v, M, e1, o, _⟩ := slot_get r (getS_some h)
        have sh := o.shr hs
        refine ⟨v, e1, c (fz d) env v F H L [] (by dsimp only; rw [if_pos hs]) r (by rw [fz_isSh hs]; exact .sh sh) (by simpa using r.nd) fun a m => nomatch m⟩
      · obtain ⟨v, F', L', e1, r', sh⟩ := r.freeze h
        exact ⟨v, e1, c (fz d) _ v F' H L' [] (by dsimp only; rw [if_neg hs]) r' (.sh sh) (by simpa using r'.nd) fun a m => nomatch m⟩
def xmMove {T : Tbl} (W : Wd T) (i : Nat) : XM W where
  t _ := tVar i
  ev _ env := match getS env i with
    | some d => .ok d (env.set i none)
    | none => .no
  snd := fun P E env hn e F σ H L Q hP r c _ => by
    match h : getS env i, hn, c with
    | some d, hn, c =>
      obtain ⟨v, Li, Lr, e1, o, sl, nd, mem⟩ := r.slots.take r.nd (getS_some h)
      exact ⟨v, e1, c d _ v F H Lr Li rfl ⟨r.sF, sl, (List.nodup_append.mp nd).2.1, fun a ha => r.dj a ((mem a).mp (.inr ha)), r.s0, r.nw, r.fr, fun a ha => r.ln a ((mem a).mp (.inr ha)), r.pin⟩ o nd fun a ha => ⟨r.dj a ((mem a).mp (.inl ha)), r.ln a ((mem a).mp (.inl ha))⟩⟩
structure XPl {T : Tbl} (W : Wd T) where
  t : TE
  root : Nat
  ev : Py.Env -> Option (List Pst × D)
  at_ : ∀ {env st n}, ev env = some (st, n) -> ∃ d0, env[root]? = some (some d0) /\ d0.at st = some n
  loc : ∀ {env st n}, ev env = some (st, n) -> ALoc W t env root st
def plVar {T : Tbl} (W : Wd T) (i : Nat) : XPl W where
  t := tVar i
  root := i
  ev env := (getS env i).map fun d => ([], d)
  at_ := fun {env st n} e => by
    obtain ⟨d, e1, e2⟩ := Option.map_eq_some_iff.mp e
    cases e2
    exact ⟨_, getS_some e1, rfl⟩
  loc := fun {env st n} e => by
    obtain ⟨d, e1, e2⟩ := Option.map_eq_some_iff.mp e
    cases e2
    exact loc_var
def rOs {T : Tbl} (W : Wd T) (ds : List D) : ResL := fun F H H0 vs => ∃ L, Owns W F H ds vs L /\ L.Nodup /\ ∀ a ∈ L, H0 a = none /\ F a = none
structure XO {T : Tbl} (W : Wd T) where
  t : TA
  ev : Py.Env -> Option (List D)
  snd : ∀ {env ds}, ev env = some ds -> AA W t env (rOs W ds)
def xoNil {T : Tbl} (W : Wd T) : XO W where
  t := tNil
  ev _ := some []
  snd := fun e => by cases e; exact fun e F σ H L Q r q => q [] F H (.refl r.sF) ⟨[], .nil, .nil, fun _ m => nomatch m⟩
def xoCons (a : XP W) (as : XO W) : XO W where
  t := tCons a.t as.t
  ev env := (a.evO env).bind fun x => (as.ev env).map (x :: ·)
  snd := fun {env ds} e => by
    obtain ⟨x, e1, e⟩ := Option.bind_eq_some_iff.mp e
    obtain ⟨xs, e2, rfl⟩ := Option.map_eq_some_iff.mp e
    intro e F σ H L Q r q
    refine a.sO e1 e F σ H L _ r fun v F1 H1 x1 ⟨M1, o1, n1, k1⟩ => as.snd e2 e F1 σ H1 L _ (r.ext x1) fun vs F2 H2 x2 ⟨M2, o2, n2, k2⟩ => ?_
    have nn : ∀ a ∈ M1, F2 a = none := fun a ha => by
      obtain ⟨u, hu⟩ := o1.lives a ha
      cases z : F2 a with
      | none => rfl
      | some w =>
        rcases x2.n a w z with y | y
        · rw [(k1 a ha).2] at y; cases y
        · rw [hu] at y; cases y
    refine q _ F2 H2 (x1.trans x2) ⟨M1 ++ M2, .cons (o1.frame x2.f fun a _ o q => x2.h _ _ q) o2, ?_, fun a ha => ?_⟩
    · rw [List.nodup_append]
      refine ⟨n1, n2, fun a ha b hb z => ?_⟩
      subst z
      obtain ⟨u, hu⟩ := o1.lives a ha
      rw [(k2 a hb).1] at hu; cases hu
    · rcases List.mem_append.mp ha with z | z
      · exact ⟨(k1 a z).1, nn a z⟩
      · exact ⟨x1.h.free (k2 a z).1, (k2 a z).2⟩
def Mop {T : Tbl} (W : Wd T) (r : V -> List V -> Hp -> VK -> Prop) (f : D -> List D -> Option (D × D)) : Prop :=
  ∀ {n : D} {ds : List D} {n' d : D}, f n ds = some (n', d) -> ∀ (F H : Hp) (vn : V) (Ln : List Addr) (vs : List V) (Ms : List Addr) (Q : VK), Same F H -> Own W F H n vn Ln -> Owns W F H ds vs Ms -> (Ms ++ Ln).Nodup -> (∀ a ∈ Ms ++ Ln, F a = none) ->
    (∀ F' H' v' Ln' M', Same F F' -> Same F' H' -> (∀ a o, a ∉ Ln -> H a = some o -> H' a = some o) -> (∀ a o, F' a = some o -> F a = some o \/ H a = none) -> Own W F' H' n' vn Ln' -> Own W F' H' d v' M' -> (M' ++ Ln').Nodup ->
      (∀ a ∈ M' ++ Ln', F' a = none /\ (a ∈ Ln \/ a ∈ Ms \/ H a = none)) -> Q v' H') -> r vn vs H Q
theorem am_mop {r : V -> List V -> Hp -> VK -> Prop} {f : D -> List D -> Option (D × D)} (hf : Mop W r f) {e : Ent} {F H : Hp} {σ : St} {L : List Addr} {i : Nat} {st : List Pst} {n n' d d0 : D} {v0 vn : V} {vs : List V} {ds : List D} {Ms : List Addr} {Q : VK}
    (rl : Rel W e env F σ H L) (h0 : env[i]? = some (some d0)) (h1 : d0.at st = some n) (hs : σ[i]? = some (some v0)) (hp : VPath H v0 st vn) (hz : f n ds = some (n', d)) (os : Owns W F H ds vs Ms) (nM : Ms.Nodup) (kM : ∀ a ∈ Ms, a ∉ L /\ F a = none /\ (a ∈ e.L0 \/ e.H0 a = none))
    (c : ∀ v F' H' L' M, Rel W e (env.set i (some (d0.putAt st n'))) F' σ H' L' -> Own W F' H' d v M -> (M ++ L').Nodup -> (∀ a ∈ M, F' a = none /\ (a ∈ e.L0 \/ e.H0 a = none)) -> Q v H') : r vn vs H Q := by
  obtain ⟨v0', vn', Ln, Lr, e1, p2, o, nd, mem, put⟩ := rl.focus h0 h1
  rw [hs] at e1; cases e1
  cases hp.det p2
  rw [List.nodup_append] at nd
  obtain ⟨n1, n2, n3⟩ := nd
  refine hf hz F H vn Ln vs Ms Q rl.sF o os ?_ (fun a ha => ?_) fun F' H' v' Ln' M' s1 s2 fr nw on od nd' k' => ?_
  · rw [List.nodup_append]
    exact ⟨nM, n1, fun a ha b hb z => (kM a ha).1 ((mem a).mp (.inl (z ▸ hb)))⟩
  · rcases List.mem_append.mp ha with z | z
    · exact (kM a z).2.1
    · exact rl.dj a ((mem a).mp (.inl z))
  have org : ∀ a, (a ∈ Ln \/ a ∈ Ms \/ H a = none) -> a ∉ Lr /\ (a ∈ e.L0 \/ e.H0 a = none) := fun a h => by
    rcases h with z | z | z
    · exact ⟨fun y => n3 a z a y rfl, rl.ln a ((mem a).mp (.inl z))⟩
    · exact ⟨fun y => (kM a z).1 ((mem a).mp (.inr y)), (kM a z).2.2⟩
    · refine ⟨fun y => ?_, rl.h0 z⟩
      obtain ⟨o, ho⟩ := rl.slots.lives a ((mem a).mp (.inr y))
      rw [z] at ho; cases ho
  rw [List.nodup_append] at nd'
  obtain ⟨m1, m2, m3⟩ := nd'
  obtain ⟨L', r', inL⟩ := put F' H' n' Ln' s1 s2 fr (fun a o q => (nw a o q).elim .inl fun z => .inr (.inl (.inl z))) on (by
    rw [List.nodup_append]
    exact ⟨m2, n2, fun a ha b hb z => (org a (k' a (List.mem_append_right _ ha)).2).1 (z ▸ hb)⟩) (fun a ha => ⟨(k' a (List.mem_append_right _ ha)).1, .inr (org a (k' a (List.mem_append_right _ ha)).2).2⟩)
  refine c v' F' H' L' M' r' od ?_ fun a ha => ⟨(k' a (List.mem_append_left _ ha)).1, (org a (k' a (List.mem_append_left _ ha)).2).2⟩
  rw [List.nodup_append]
  refine ⟨m1, r'.nd, fun a ha b hb z => ?_⟩
  subst z
  rcases inL a hb with y | y
  · exact m3 a ha a y rfl
  · exact (org a (k' a (List.mem_append_left _ ha)).2).1 y
end
end Py
namespace Py
open PySem L2
section
variable {T : Tbl} {W : Wd T} {env : Py.Env} {d d0 d1 d2 : D} {P : List Nat} {E : WX} {A : AEnds}
theorem Owns.append {F H : Hp} : ∀ {xs ys : List D} {vs ws : List V} {L M : List Addr}, Owns W F H xs vs L -> Owns W F H ys ws M -> Owns W F H (xs ++ ys) (vs ++ ws) (L ++ M)
  | _, _, _, _, _, _, .nil, o => o
  | _, _, _, _, _, M, .cons (L := L1) (M := M1) h t, o => by
    have q := Owns.cons h (t.append o)
    rw [<- List.append_assoc] at q
    exact q
theorem Owns.one {F H : Hp} {x : D} {vs : List V} {L : List Addr} (h : Owns W F H [x] vs L) : ∃ v, vs = [v] /\ Own W F H x v L := by
  cases h with
  | cons a b => cases b; rw [List.append_nil]; exact ⟨_, rfl, a⟩
theorem Owns.two {F H : Hp} {x y : D} {vs : List V} {L : List Addr} (h : Owns W F H [x, y] vs L) : ∃ v w L1 L2, vs = [v, w] /\ Own W F H x v L1 /\ Own W F H y w L2 /\ L = L1 ++ L2 := by
  cases h with
  | cons a b =>
    obtain ⟨w, rfl, c⟩ := b.one
    exact ⟨_, _, _, _, rfl, a, c, rfl⟩
theorem Owns.unsnoc {F H : Hp} {x : D} : ∀ {xs : List D} {vs : List V} {L : List Addr}, Owns W F H (xs ++ [x]) vs L -> ∃ ws w L1 L2, vs = ws ++ [w] /\ L = L1 ++ L2 /\ Owns W F H xs ws L1 /\ Own W F H x w L2
  | [], vs, L, h => by
    obtain ⟨w, rfl, o⟩ := h.one
    exact ⟨[], w, [], L, rfl, rfl, .nil, o⟩
  | y :: xs, vs, L, h => by
    cases h with
    | @cons _ v _ ws L1 M1 a b =>
      obtain ⟨ws', w, L2, L3, rfl, rfl, c, o⟩ := b.unsnoc
      exact ⟨v :: ws', w, L1 ++ L2, L3, rfl, by rw [List.append_assoc], .cons a c, o⟩
theorem own_upd {F H : Hp} {a : Addr} {o : HO} {L : List Addr} {v : V} (h : Own W F H d v L) (n : a ∉ L) : Own W F (upd H a o) d v L := h.frame (Same.refl _) fun b hb u hu => by
  rw [upd_ne (fun z => n (by rw [<- z]; exact hb))]; exact hu
theorem owns_upd {F H : Hp} {a : Addr} {o : HO} {L : List Addr} {ds : List D} {vs : List V} (h : Owns W F H ds vs L) (n : a ∉ L) : Owns W F (upd H a o) ds vs L := h.frame (Same.refl _) fun b hb u hu => by
  rw [upd_ne (fun z => n (by rw [<- z]; exact hb))]; exact hu
theorem same_upd {F H : Hp} {a : Addr} {o : HO} (s : Same F H) (n : F a = none) : Same F (upd H a o) := fun b u hb => by
  rw [upd_ne (fun z => by rw [z, n] at hb; cases hb)]; exact s _ _ hb
theorem mop_list {F H : Hp} {a : Addr} {L : List Addr} {Ms : List Addr} {ys : List D} {ws : List V} {o : HO} {M' L2 : List Addr} {v' : V} {Q : VK} (s : Same F H) (nd : (Ms ++ (a :: L)).Nodup) (kF : ∀ b ∈ Ms ++ (a :: L), F b = none)
    (hl : o = .lst ws) (hs : Owns W F H ys ws L2) (od : Own W F H d v' M') (n2 : (M' ++ L2).Nodup) (sub : ∀ b ∈ M' ++ L2, b ∈ L \/ b ∈ Ms)
    (q : ∀ F' H' v' Ln' M', Same F F' -> Same F' H' -> (∀ b o, b ∉ a :: L -> H b = some o -> H' b = some o) -> (∀ b o, F' b = some o -> F b = some o \/ H b = none) -> Own W F' H' (.olst ys) (.ref a) Ln' -> Own W F' H' d v' M' -> (M' ++ Ln').Nodup ->
      (∀ b ∈ M' ++ Ln', F' b = none /\ (b ∈ a :: L \/ b ∈ Ms \/ H b = none)) -> Q v' H') : Q v' (upd H a o) := by
  subst hl
  rw [List.nodup_append] at nd
  obtain ⟨n3, n4, n5⟩ := nd
  rw [List.nodup_cons] at n4
  have na : ∀ b ∈ M' ++ L2, b ≠ a := fun b hb z => by
    subst z
    rcases sub _ hb with y | y
    · exact n4.1 y
    · exact n5 _ y _ (List.mem_cons_self ..) rfl
  have Fa : F a = none := kF a (List.mem_append_right _ (List.mem_cons_self ..))
  refine q F (upd H a (.lst ws)) v' (a :: L2) M' (Same.refl _) (same_upd s Fa) (fun b u hb hu => ?_) (fun b u hu => .inl hu) (.olst upd_same (owns_upd hs fun z => na a (List.mem_append_right _ z) rfl)) (own_upd od fun z => na a (List.mem_append_left _ z) rfl) ?_ (fun b hb => ?_)
  · rw [upd_ne (fun z => hb (by rw [z]; exact List.mem_cons_self ..))]; exact hu
  · rw [List.nodup_append] at n2 ⊢
    refine ⟨n2.1, List.nodup_cons.mpr ⟨fun z => na a (List.mem_append_right _ z) rfl, n2.2.1⟩, fun b hb c hc => ?_⟩
    rcases List.mem_cons.mp hc with z | z
    · rw [z]; exact na b (List.mem_append_left _ hb)
    · exact n2.2.2 b hb c z
  · rcases List.mem_append.mp hb with z | z
    · have := sub b (List.mem_append_left _ z)
      refine ⟨kF b ?_, ?_⟩
      · rcases this with y | y
        · exact List.mem_append_right _ (List.mem_cons_of_mem _ y)
        · exact List.mem_append_left _ y
      · rcases this with y | y
        · exact .inl (List.mem_cons_of_mem _ y)
        · exact .inr (.inl y)
    · rcases List.mem_cons.mp z with z | z
      · subst z; exact ⟨Fa, .inl (List.mem_cons_self ..)⟩
      · have := sub b (List.mem_append_right _ z)
        refine ⟨kF b ?_, ?_⟩
        · rcases this with y | y
          · exact List.mem_append_right _ (List.mem_cons_of_mem _ y)
          · exact List.mem_append_left _ y
        · rcases this with y | y
          · exact .inl (List.mem_cons_of_mem _ y)
          · exact .inr (.inl y)
theorem nd_swap {L M : List Addr} (h : (M ++ L).Nodup) : (L ++ M).Nodup := by
  rw [List.nodup_append] at h ⊢
  exact ⟨h.2.1, h.1, fun a ha b hb z => h.2.2 b hb a ha z.symm⟩
theorem nd_tail {a : Addr} {L M : List Addr} (h : (M ++ (a :: L)).Nodup) : (M ++ L).Nodup := by
  rw [List.nodup_append] at h ⊢
  exact ⟨h.1, (List.nodup_cons.mp h.2.1).2, fun b hb c hc => h.2.2 b hb c (List.mem_cons_of_mem _ hc)⟩
def appendD : D -> List D -> Option (D × D)
  | .olst xs, [d] => if xs.length < 1000000 then some (.olst (xs ++ [d]), .non) else none
  | _, _ => none
theorem mop_append : Mop W rAppend appendD := by
  intro n ds n' d hf F H vn Ln vs Ms Q s o os nd kF q
  unfold appendD at hf
  split at hf
  · obtain ⟨hz, e⟩ := ite_some hf
    cases e
    obtain ⟨u, rfl, o2⟩ := os.one
    cases o with
    | sh y => cases y
    | @olst a xs vs L ha hs =>
      refine ⟨a, vs, u, rfl, rfl, ha, by rw [<- hs.length]; exact Nat.lt_of_lt_of_le hz (by decide), ?_⟩
      exact mop_list s nd kF rfl (hs.append (.cons o2 .nil)) (.sh .non) (by simpa using nd_swap (nd_tail nd)) (fun b hb => by simpa using hb) q
  · cases hf
def popD : D -> List D -> Option (D × D)
  | .olst xs, [] => (xs.getLast?).map fun x => (.olst xs.dropLast, x)
  | _, _ => none
theorem mop_pop : Mop W rPop popD := by
  intro n ds n' d hf F H vn Ln vs Ms Q s o os nd kF q
  unfold popD at hf
  split at hf
  · rename_i xs
    obtain ⟨x, h1, e⟩ := Option.map_eq_some_iff.mp hf
    injection e with e e'
    subst e e'
    cases os
    cases o with
    | sh y => cases y
    | @olst a _ vs L ha hs =>
      obtain ⟨ini, rfl⟩ := List.getLast?_eq_some_iff.mp h1
      obtain ⟨ws, w, L1, L2, rfl, rfl, o1, o2⟩ := hs.unsnoc
      rw [List.dropLast_concat] at q
      refine ⟨a, ws ++ [w], w, rfl, rfl, ha, by simp, ?_⟩
      rw [List.dropLast_concat]
      have n0 := nd_tail nd
      exact mop_list s nd kF rfl o1 o2 (nd_swap (by simpa using n0)) (fun b hb => .inl (by
        rcases List.mem_append.mp hb with z | z
        · exact List.mem_append_right _ z
        · exact List.mem_append_left _ z)) q
  · cases hf
theorem Shrs.reverse {F : Hp} : ∀ {ds : List D} {vs : List V}, Shrs W F ds vs -> Shrs W F ds.reverse vs.reverse
  | _, _, .nil => .nil
  | _, _, .cons h t => by rw [List.reverse_cons, List.reverse_cons]; exact t.reverse.append (.cons h .nil)
theorem Shrs.take {F : Hp} : ∀ {ds : List D} {vs : List V} (k : Nat), Shrs W F ds vs -> Shrs W F (ds.take k) (vs.take k)
  | _, _, 0, _ => .nil
  | _, _, k + 1, .nil => .nil
  | _, _, k + 1, .cons h t => .cons h (t.take k)
theorem Shrs.drop {F : Hp} : ∀ {ds : List D} {vs : List V} (k : Nat), Shrs W F ds vs -> Shrs W F (ds.drop k) (vs.drop k)
  | _, _, 0, h => h
  | _, _, k + 1, .nil => .nil
  | _, _, k + 1, .cons h t => t.drop k
def RM.ofO : Option (D × Py.Env) -> RM
  | some (d, env) => .ok d env
  | none => .no
theorem RM.ofO_ok {o : Option (D × Py.Env)} (h : RM.ofO o ≠ .no) : ∃ d env, o = some (d, env) := by
  match o, h with
  | some (d, env), _ => exact ⟨d, env, rfl⟩
  | none, h => exact absurd rfl h
def xmBM (r : V -> List V -> Hp -> VK -> Prop) (f : D -> List D -> Option (D × D)) (hf : Mop W r f) (hl : ∀ {n ds z}, f n ds = some z -> ∃ xs, n = .olst xs) (p : XPl W) (as : XO W) : XM W where
  t _ := tBM W.K "list" r p.t as.t
  ev _ env := RM.ofO ((p.ev env).bind fun q => (as.ev env).bind fun ds => (f q.2 ds).bind fun z => (getS env p.root).map fun d0 => (z.2, env.set p.root (some (d0.putAt q.1 z.1))))
  snd := fun P E env hn e F σ H L Q hP r c _ => by
    obtain ⟨d, env', h⟩ := RM.ofO_ok hn
    rw [h] at c
    obtain ⟨⟨st, n⟩, e1, h⟩ := Option.bind_eq_some_iff.mp h
    obtain ⟨ds, e2, h⟩ := Option.bind_eq_some_iff.mp h
    obtain ⟨⟨n', d'⟩, e3, h⟩ := Option.bind_eq_some_iff.mp h
    obtain ⟨d0', e4, h⟩ := Option.map_eq_some_iff.mp h
    cases h
    obtain ⟨d0, h0, h1⟩ := p.at_ e1
    rw [getS_some e4] at h0
    cases h0
    obtain ⟨v0, _, _, _, hs, _⟩ := r.focus (getS_some e4) h1
    refine p.loc e1 e F σ H L v0 _ r hs fun v F1 H1 x1 p1 => ?_
    have r1 := r.ext x1
    refine ⟨?_, as.snd e2 e F1 σ H1 L _ r1 fun vs F2 H2 x2 ⟨M2, o2, nd2, k2⟩ => ?_⟩
    · obtain ⟨v0', vn, Ln, Lr, e5, p2, o, _⟩ := r1.focus (getS_some e4) h1
      rw [hs] at e5; cases e5
      cases p1.det p2
      obtain ⟨xs, rfl⟩ := hl e3
      cases o with
      | sh y => cases y
      | olst ha _ => exact .inl ⟨rfl, _, .of ha⟩
    · refine am_mop hf (r1.ext x2) (getS_some e4) h1 hs (p1.mono x2.h) e3 o2 nd2 (fun a ha => ⟨fun z => ?_, (k2 a ha).2, r1.h0 (k2 a ha).1⟩) fun v F' H' L' M r' o nd kk => c _ _ v F' H' L' M rfl r' o nd kk
      obtain ⟨w, hw⟩ := r1.slots.lives a z
      rw [(k2 a ha).1] at hw; cases hw
def xmBM0 (r : V -> List V -> Hp -> VK -> Prop) (f : D -> List D -> Option (D × D)) (hf : Mop W r f) (hl : ∀ {n ds z}, f n ds = some z -> ∃ xs, n = .olst xs) (p : XPl W) : XM W where
  t _ := tBM0 W.K "list" r p.t
  ev := (xmBM r f hf hl p (xoNil W)).ev
  snd := fun P E env hn e F σ H L Q hP rl c cx => (xmBM r f hf hl p (xoNil W)).snd P E env hn e F σ H L Q hP rl c cx
theorem lf_append {n : D} {ds : List D} {z : D × D} (h : appendD n ds = some z) : ∃ xs, n = .olst xs := by unfold appendD at h; split at h <;> first | exact ⟨_, rfl⟩ | cases h
theorem lf_pop {n : D} {ds : List D} {z : D × D} (h : popD n ds = some z) : ∃ xs, n = .olst xs := by unfold popD at h; split at h <;> first | exact ⟨_, rfl⟩ | cases h
def xmAppend (p : XPl W) (a : XP W) : XM W := xmBM rAppend appendD mop_append lf_append p (xoCons a (xoNil W))
def xmPop (p : XPl W) : XM W := xmBM0 rPop popD mop_pop lf_pop p
end
end Py
namespace Py
open PySem L2
inductive RS where
  | nx (env : Py.Env) | rt (d : D) (env : Py.Env) | bk (env : Py.Env) | ct (env : Py.Env) | ex (x : Exn) (env : Py.Env) | no
def ends (r : RS) : AEnds where
  nx e := r = .nx e
  rt d e := r = .rt d e
  bk e := r = .bk e
  ct e := r = .ct e
  ex x e := r = .ex x e
section
variable {T : Tbl} {W : Wd T} {env : Py.Env} {d d0 d1 d2 : D} {P : List Nat} {E : WX} {A : AEnds}
structure XS {T : Tbl} (W : Wd T) where
  t : WX -> TS
  ev : List Nat -> Py.Env -> RS
  snd : ∀ P E env, ev P env ≠ .no -> AS W P E (t E) env (ends (ev P env))
def RS.then (r : RS) (f : Py.Env -> RS) : RS := match r with
  | .nx e => f e
  | r => r
def xsSeq (s u : XS W) : XS W where
  t E := tSeq (s.t E) (u.t E)
  ev P env := (s.ev P env).then fun e => u.ev P e
  snd := fun P E env hn => by
    have hs := s.snd P E env
    match h : s.ev P env, hn, hs with
    | .nx e1, hn, hs =>
      refine as_seq ((hs (by simp)).weaken (fun e h2 => ?_) (fun d e h2 => nomatch h2) (fun e h2 => nomatch h2) (fun e h2 => nomatch h2) fun x e h2 => nomatch h2)
      cases h2
      exact u.snd P E e1 hn
    | .rt d e1, hn, hs => exact as_seq ((hs (by simp)).weaken (fun e h2 => nomatch h2) (fun d e h2 => h2) (fun e h2 => nomatch h2) (fun e h2 => nomatch h2) fun x e h2 => nomatch h2)
    | .bk e1, hn, hs => exact as_seq ((hs (by simp)).weaken (fun e h2 => nomatch h2) (fun d e h2 => nomatch h2) (fun e h2 => h2) (fun e h2 => nomatch h2) fun x e h2 => nomatch h2)
    | .ct e1, hn, hs => exact as_seq ((hs (by simp)).weaken (fun e h2 => nomatch h2) (fun d e h2 => nomatch h2) (fun e h2 => nomatch h2) (fun e h2 => h2) fun x e h2 => nomatch h2)
    | .ex x e1, hn, hs => exact as_seq ((hs (by simp)).weaken (fun e h2 => nomatch h2) (fun d e h2 => nomatch h2) (fun e h2 => nomatch h2) (fun e h2 => nomatch h2) fun x e h2 => h2)
    | .no, hn, hs => exact absurd rfl hn
def xsNext {T : Tbl} (W : Wd T) : XS W := ⟨fun _ => tNext, fun _ env => .nx env, fun _ _ _ _ => as_next rfl⟩
def xsNever {T : Tbl} (W : Wd T) : XS W := ⟨fun _ => tNever, fun _ _ => .no, fun _ _ _ h => absurd rfl h⟩
def RM.thenS (r : RM) (f : D -> Py.Env -> RS) : RS := match r with
  | .ok d e => f d e
  | .exn x e => .ex x e
  | .no => .no
theorem AMr.run {t : TE} {r : RM} (h : AMr W P E t env r) (hn : r ≠ .no) {e : Ent} {F H : Hp} {σ : St} {L : List Addr} {Q : VK} {Dn : Ends} (hP : P = e.pins.map (·.1)) (rl : Rel W e env F σ H L) (s : Sat W e E A Dn) (hx : ∀ x e1, r = .exn x e1 -> A.ex x e1)
    (c : ∀ d env' v F' H' L' M, r = .ok d env' -> Rel W e env' F' σ H' L' -> Own W F' H' d v M -> (M ++ L').Nodup -> (∀ a ∈ M, F' a = none /\ (a ∈ e.L0 \/ e.H0 a = none)) -> Q v H') : t σ H Q :=
  h hn e F σ H L Q hP rl c fun x env' F' H' L' C dd hr r' ie => s.ex x env' F' σ H' L' C dd (hx _ _ hr) r' ie
def RS.ofO : Option Py.Env -> RS
  | some e => .nx e
  | none => .no
def xsAsg (i : Nat) (m : XM W) : XS W where
  t E := tAsg (m.t E) (gName i)
  ev P env := (m.ev P env).thenS fun d e => RS.ofO (setS P i d e)
  snd := fun P E env hn e F σ H L Dn hP r s => by
    have hm : m.ev P env ≠ .no := fun z => hn (by rw [z]; rfl)
    refine (m.snd P E env).run hm hP r s (fun x e1 h => by rw [h]; rfl) fun d env' v F' H' L' M h r' o nd kk => ?_
    rw [h] at hn s
    have hn : RS.ofO (setS P i d env') ≠ .no := hn
    cases h2 : setS P i d env' with
    | none => rw [h2] at hn; exact absurd rfl hn
    | some e2 =>
      obtain ⟨⟨h3, h4⟩, rfl⟩ := ite_some h2
      obtain ⟨L2, r2⟩ := r'.set (i := i) o nd kk h3 fun p hm z => h4 (by rw [hP]; exact List.mem_map.mpr ⟨p, hm, z⟩)
      exact s.nx _ _ _ _ _ (show RS.ofO (setS P i d env') = .nx _ by rw [h2]; rfl) r2
theorem Rel.frzTmp {e : Ent} {F H : Hp} {σ : St} {L M : List Addr} {v : V} (r : Rel W e env F σ H L) (o : Own W F H d v M) (nd : (M ++ L).Nodup) (k : ∀ a ∈ M, F a = none /\ (a ∈ e.L0 \/ e.H0 a = none)) :
    ∃ F', Rel W e env F' σ H L /\ Shr W F' (fz d) v /\ Same F F' := by
  obtain ⟨F', s1, s2, nw, sh⟩ := Py.freeze r.sF o fun a ha => (k a ha).1
  refine ⟨F', ⟨s2, r.slots.frame s1 fun a _ o q => q, r.nd, fun a ha => ?_, r.s0.trans s1, fun a o q => ?_, r.fr, r.ln, r.pin⟩, sh, s1⟩
  · cases q : F' a with
    | none => rfl
    | some u =>
      rcases nw a u q with z | z
      · rw [r.dj a ha] at z; cases z
      · exact absurd rfl ((List.nodup_append.mp nd).2.2 a z a ha)
  · rcases nw a o q with z | z
    · exact r.nw a o z
    · exact .inr ((k a z).2.elim .inr .inl)
def xsAsgG (g : XG W) (m : XM W) : XS W where
  t E := tAsg (m.t E) g.t
  ev P env := (m.ev P env).thenS fun d e => RS.ofO (g.ev P (fz d) e)
  snd := fun P E env hn e F σ H L Dn hP r s => by
    have hm : m.ev P env ≠ .no := fun z => hn (by rw [z]; rfl)
    refine (m.snd P E env).run hm hP r s (fun x e1 h => by rw [h]; rfl) fun d env' v F' H' L' M h r' o nd kk => ?_
    rw [h] at hn s
    have hn : RS.ofO (g.ev P (fz d) env') ≠ .no := hn
    cases h2 : g.ev P (fz d) env' with
    | none => rw [h2] at hn; exact absurd rfl hn
    | some e2 =>
      obtain ⟨F2, r2, sh, _⟩ := r'.frzTmp o nd kk
      exact g.snd h2 e F2 σ H' L' v _ hP r2 sh fun env3 σ' L3 z r3 => s.nx _ _ _ _ _ (show RS.ofO (g.ev P (fz d) env') = .nx _ by rw [h2, z]; rfl) r3
def xsExpr (m : XM W) : XS W where
  t E := tDrop (m.t E)
  ev P env := (m.ev P env).thenS fun _ e => .nx e
  snd := fun P E env hn e F σ H L Dn hP r s => by
    have hm : m.ev P env ≠ .no := fun z => hn (by rw [z]; rfl)
    refine (m.snd P E env).run hm hP r s (fun x e1 h => by rw [h]; rfl) fun d env' v F' H' L' M h r' o nd kk => ?_
    rw [h] at s
    exact s.nx _ _ _ _ _ rfl r'
def xsRet (m : XM W) : XS W where
  t E := tRet (m.t E)
  ev P env := (m.ev P env).thenS fun d e => .rt d e
  snd := fun P E env hn e F σ H L Dn hP r s => by
    have hm : m.ev P env ≠ .no := fun z => hn (by rw [z]; rfl)
    refine (m.snd P E env).run hm hP r s (fun x e1 h => by rw [h]; rfl) fun d env' v F' H' L' M h r' o nd kk => ?_
    rw [h] at s
    exact s.rt _ _ _ _ _ _ _ _ rfl r' o nd kk
def iteR (b : Option Bool) (s u : RS) : RS := match b with
  | some true => s
  | some false => u
  | none => .no
def xsIf (c : XT W) (s u : XS W) : XS W where
  t E := tIfS c.t (s.t E) (u.t E)
  ev P env := iteR (c.ev env) (s.ev P env) (u.ev P env)
  snd := fun P E env hn => by
    match h : c.ev env, hn with
    | some true, hn => exact as_if (c.snd h) (fun _ => s.snd P E env hn) fun z => nomatch z
    | some false, hn => exact as_if (c.snd h) (fun z => nomatch z) fun _ => u.snd P E env hn
    | none, hn => exact absurd rfl hn
def xsFrz (is : List Nat) (s : XS W) : XS W where
  t := s.t
  ev P env := s.ev P (is.foldl frzS env)
  snd := fun P E env hn e F σ H L Dn hP r h => by
    obtain ⟨F', L', r'⟩ := Rel.frzs is env F L r
    exact s.snd P E _ hn e F' σ H L' Dn hP r' h
def forL (f : D -> Py.Env -> RS) : List D -> Py.Env -> RS
  | [], env => .nx env
  | d :: ds, env => match f d env with
    | .nx e => forL f ds e
    | .ct e => forL f ds e
    | .bk e => .nx e
    | r => r
def xsFor (it : XI W) (g : XG W) (b : XS W) : XS W where
  t E := tFor it.t g.t (b.t E)
  ev P env := match it.evF env with
    | some ds => forL (fun d e => match g.ev P d e with | some e2 => b.ev P e2 | none => .no) ds env
    | none => .no
  snd := fun P E env hn => by
    match h : it.evF env, hn with
    | some ds, hn =>
      have hn : forL (fun d e => match g.ev P d e with | some e2 => b.ev P e2 | none => .no) ds env ≠ .no := hn
      show AS W P E _ env (ends (forL (fun d e => match g.ev P d e with | some e2 => b.ev P e2 | none => .no) ds env))
      generalize hr : forL (fun d e => match g.ev P d e with | some e2 => b.ev P e2 | none => .no) ds env = r at hn ⊢
      refine as_for (it.sF h) (fun i e => forL (fun d e => match g.ev P d e with | some e2 => b.ev P e2 | none => .no) (ds.drop i) e = r) (by rw [List.drop_zero]; exact hr) (fun i d e' hd hi => ?_) fun e' he => ?_
      · rw [List.drop_eq_getElem?_toList_append, hd] at hi
        have hi : forL (fun d e => match g.ev P d e with | some e2 => b.ev P e2 | none => .no) (d :: ds.drop (i + 1)) e' = r := hi
        unfold forL at hi
        cases h1 : g.ev P d e' with
        | none => rw [h1] at hi; exact absurd hi.symm hn
        | some e2 =>
          rw [h1] at hi
          intro e0 F σ H L v Q hP rl sh q
          refine g.snd h1 e0 F σ H L v Q hP rl sh fun env3 σ2 L2 z r3 => q env3 σ2 L2 ?_ r3
          subst z
          have hb := b.snd P E env3
          dsimp only at hi
          match h2 : b.ev P env3, hb, hi with
          | .nx e3, hb, hi => exact (hb (by simp)).weaken (fun e h => by cases h; exact hi) (fun d e h => nomatch h) (fun e h => nomatch h) (fun e h => nomatch h) fun x e h => nomatch h
          | .ct e3, hb, hi => exact (hb (by simp)).weaken (fun e h => nomatch h) (fun d e h => nomatch h) (fun e h => nomatch h) (fun e h => by cases h; exact hi) fun x e h => nomatch h
          | .bk e3, hb, hi => exact (hb (by simp)).weaken (fun e h => nomatch h) (fun d e h => nomatch h) (fun e h => by cases h; exact hi.symm) (fun e h => nomatch h) fun x e h => nomatch h
          | .rt d3 e3, hb, hi => exact (hb (by simp)).weaken (fun e h => nomatch h) (fun d e h => by cases h; exact hi.symm) (fun e h => nomatch h) (fun e h => nomatch h) fun x e h => nomatch h
          | .ex x3 e3, hb, hi => exact (hb (by simp)).weaken (fun e h => nomatch h) (fun d e h => nomatch h) (fun e h => nomatch h) (fun e h => nomatch h) fun x e h => by cases h; exact hi.symm
          | .no, hb, hi => exact absurd hi.symm hn
      · rw [List.drop_length] at he
        exact he.symm
    | none, hn => exact absurd rfl hn
def fuel : Nat := 1000000
def env0 (N : Nat) (args : List D) : Py.Env := args.map some ++ List.replicate (N - args.length) none
def bGet (b : Option Nat) (env : Py.Env) : Option (Option D) := match b with
  | none => some none
  | some i => (getS env i).map some
def runR (b : Option Nat) (r : RS) : Rz := match r with
  | .rt d env => match bGet b env with
    | some x => .ok d x
    | none => .no
  | .nx env => match bGet b env with
    | some x => .ok .non x
    | none => .no
  | .ex x env => match bGet b env with
    | some y => .exn x y
    | none => .no
  | _ => .no
def runFn (N : Nat) (s : XS W) (args : List D) (b : Option Nat) : Rz := runR b (s.ev b.toList (env0 N args))
theorem slots_startO {F H : Hp} : ∀ {ds : List D} {vs : List V} {L : List Addr} (k : Nat), Owns W F H ds vs L -> Slots W F H (ds.map some ++ List.replicate k none) (vs.map some ++ List.replicate k none) L
  | [], [], _, 0, .nil => .nil
  | [], [], _, k + 1, .nil => .no (slots_startO k .nil)
  | _ :: _, _ :: _, _, k, .cons h t => Slots.so h (slots_startO k t)
theorem fn_run {n : Nat} {N : List Str} {s : XS W} {b : Option Nat} (hb : ∀ i, b = some i -> i < n) {vs : List V} {H : Hp} {Q : VK} {E : XK} (hsp : spR W n (runFn N.length s) b vs H Q E) :
    s.t (fun c d _ H => E c d H) { nx := fun _ H' => Q .non H', rt := Q } (L2.start N vs) H := by
  obtain ⟨F, args, L0, sF, os, nd, kF, hl, hn, ok, exn⟩ := hsp
  have hlen : vs.length = args.length := os.length.symm
  obtain ⟨pins, hp1, hp2⟩ : ∃ pins : List (Nat × V), b.toList = pins.map (·.1) /\ ∀ p ∈ pins, vs[p.1]? = some p.2 := by
    cases b with
    | none => exact ⟨[], rfl, fun _ h => nomatch h⟩
    | some i =>
      have hi : i < vs.length := by have := hb i rfl; omega
      exact ⟨[(i, vs[i])], rfl, fun p h => by rw [List.mem_singleton.mp h]; exact List.getElem?_eq_getElem hi⟩
  have hr : Rel W ⟨F, H, L0, pins⟩ (env0 N.length args) F (L2.start N vs) H L0 := {
    sF := sF
    slots := by unfold L2.start env0; rw [hlen]; exact slots_startO _ os
    nd := nd
    dj := kF
    s0 := Same.refl _
    nw := fun _ _ h => .inl h
    fr := fun _ _ _ h => h
    ln := fun _ m => .inl m
    pin := fun p m => by
      have h := hp2 p m
      have hlt := (List.getElem?_eq_some_iff.mp h).1
      unfold L2.start
      rw [List.getElem?_append_left (by rw [List.length_map]; exact hlt), List.getElem?_map, h]; rfl }
  have hne : s.ev b.toList (env0 N.length args) ≠ .no := fun z => hn (by unfold runFn; rw [z]; rfl)
  have post : ∀ {env' : Py.Env} {F' : Hp} {σ' : St} {H' : Hp} {L' : List Addr}, Rel W ⟨F, H, L0, pins⟩ env' F' σ' H' L' -> Post F H L0 F' H' := fun r =>
    ⟨r.s0, r.sF, r.fr, r.nw⟩
  have bor : ∀ {env' : Py.Env} {F' : Hp} {σ' : St} {H' : Hp} {L' : List Addr} {x : Option D}, bGet b env' = some x -> Rel W ⟨F, H, L0, pins⟩ env' F' σ' H' L' -> ∃ Mb, bOwn W F' H' vs b x Mb /\ Mb.Nodup /\ ∀ a ∈ Mb, a ∈ L' := by
    intro env' F' σ' H' L' x hx r
    cases b with
    | none => exact ⟨[], by cases hx; rfl, .nil, fun _ h => nomatch h⟩
    | some i =>
      obtain ⟨d, e1, e2⟩ := Option.map_eq_some_iff.mp hx
      subst e2
      obtain ⟨v, Li, Lr, h1, o, _, nd', mem⟩ := r.slots.take r.nd (getS_some e1)
      obtain ⟨v', hm⟩ : ∃ v', (i, v') ∈ pins := by
        have : i ∈ pins.map (·.1) := by rw [<- hp1]; simp
        obtain ⟨⟨j, v'⟩, h2, h3⟩ := List.mem_map.mp this
        cases h3; exact ⟨v', h2⟩
      have h4 := r.pin _ hm
      rw [h1] at h4
      cases h4
      exact ⟨Li, ⟨_, hp2 _ hm, o⟩, (List.nodup_append.mp nd').1, fun a h => (mem a).mp (.inl h)⟩
  have run := s.snd b.toList (fun c d _ H => E c d H) (env0 N.length args) hne ⟨F, H, L0, pins⟩ F (L2.start N vs) H L0 { nx := fun _ H' => Q .non H', rt := Q } hp1 hr
  have hn' : runR b (s.ev b.toList (env0 N.length args)) ≠ .no := hn
  have ok' : ∀ d bd, runR b (s.ev b.toList (env0 N.length args)) = .ok d bd -> _ := ok
  have exn' : ∀ x bd, runR b (s.ev b.toList (env0 N.length args)) = .exn x bd -> _ := exn
  generalize s.ev b.toList (env0 N.length args) = res at run hn' ok' exn'
  refine run ⟨fun env' F' σ' H' L' a r => ?_, fun d env' F' σ' H' L' v M a r o nd2 kk => ?_, fun env' F' σ' H' L' a r => ?_, fun env' F' σ' H' L' a r => ?_, fun x env' F' σ' H' L' C dd a r ie => ?_⟩
  · cases a
    cases hbg : bGet b env' with
    | none => exact absurd (show runR b (.nx env') = .no by unfold runR; simp only [hbg]) hn'
    | some x =>
      obtain ⟨Mb, ob, nb, sb⟩ := bor hbg r
      exact ok' .non x (by unfold runR; simp only [hbg]) F' H' .non [] Mb (post r) (.sh .non) ob (by simpa using nb) fun a ha => ⟨r.dj a (sb a (by simpa using ha)), r.ln a (sb a (by simpa using ha))⟩
  · cases a
    cases hbg : bGet b env' with
    | none => exact absurd (show runR b (.rt d env') = .no by unfold runR; simp only [hbg]) hn'
    | some x =>
      obtain ⟨Mb, ob, nb, sb⟩ := bor hbg r
      rw [List.nodup_append] at nd2
      refine ok' d x (by unfold runR; simp only [hbg]) F' H' v M Mb (post r) o ob ?_ fun a ha => ?_
      · rw [List.nodup_append]
        exact ⟨nd2.1, nb, fun a ha c hc => nd2.2.2 a ha c (sb c hc)⟩
      · rcases List.mem_append.mp ha with z | z
        · exact kk a z
        · exact ⟨r.dj a (sb a z), r.ln a (sb a z)⟩
  · cases a; exact absurd rfl hn'
  · cases a; exact absurd rfl hn'
  · cases a
    cases hbg : bGet b env' with
    | none => exact absurd (show runR b (.ex x env') = .no by unfold runR; simp only [hbg]) hn'
    | some y =>
      obtain ⟨Mb, ob, nb, sb⟩ := bor hbg r
      exact exn' x y (by unfold runR; simp only [hbg]) F' H' C dd Mb (post r) ie ob nb fun a ha => ⟨r.dj a (sb a ha), r.ln a (sb a ha)⟩
end
end Py
namespace L2
open PySem PySem.SeqAt PySem.W PySem.Calls PyProof.Rows
section
variable {A : Around} {s : Shared}
theorem call_tuple_lt' {prog : Program} {w : World} {E : Value -> Shared -> Prop} {Q : Value -> Shared -> Prop} {l b : Addr} {items items2 : Array Value} {e r : Nat -> Bool} (hl : s.heap.IsTuple l items) (hb : s.heap.IsTuple b items2)
    (he : ∀ j (h1 : j < items.size) (h2 : j < items2.size), EqAt A.in1 s items[j] items2[j] (e j)) (hr : ∀ j (h1 : j < items.size) (h2 : j < items2.size), e j = false -> RcLt A.in1 s items[j] items2[j] (r j))
    (h : Q (.bool (firstLt e r (decide (items.size < items2.size)) (List.range (min items.size items2.size)))) s) : wpAny (model prog w) A (call (.builtin "tuple.__lt__") [.ref l, .ref b]) Q E s := by
  obtain ⟨⟨cls, dd, data, sl⟩, ho, hc, n, hd⟩ := id hl
  obtain ⟨⟨cls2, dd2, data2, sl2⟩, ho2, hc2, n2, hd2⟩ := id hb
  simp only at hc hd hc2 hd2
  subst hc hd hc2 hd2
  exact call_meets F.slot_tuple_lt ⟨_, ho, rfl⟩ F.entry_tuple_lt (F.args_tuple_lt_2 _ _) (tuple_ltAt l b items items2 n n2 dd dd2 sl sl2 e r) ⟨ho, ho2, he, hr, h⟩
end
section
variable {prog : Program} {w : World} {A : Around} {E : Value -> Shared -> Prop} {s : Shared}
theorem oneLt_tuples {xs ys : List PyData} {a b : Value} {as bs : List Addr} {Q : Bool -> Shared -> Prop} (ra : Reads s.heap a (.tuple xs) as) (rb : Reads s.heap b (.tuple ys) bs) (h : alike (.tuple xs) (.tuple ys) = true)
    (hu : A.units + min (PyData.tuple xs).depth (PyData.tuple ys).depth < cLine) (hq : Q (dataLt (.tuple xs) (.tuple ys)) s) : wpAny (model prog w) A (oneLt' true a b) Q E s := by
  have hal : alikeAll xs ys = true := by simpa [alike] using h
  cases ra with
  | @tuple l o vs n _ as₁ h1 h2 h3 h4 =>
    cases rb with
    | @tuple l' o' vs' n' _ bs₁ k1 k2 k3 k4 =>
      have n1 : vs.size = xs.length := by simpa using ReadsAll.length _ _ _ h4
      have n2 : vs'.size = ys.length := by simpa using ReadsAll.length _ _ _ k4
      rw [dataLt_tuple, <- firstLt_toks xs ys hal, <- n1, <- n2] at hq
      rw [oneLt'_eq]
      simp only [if_true]
      refine wpAny_bind (wpAny_cRoomFor (room_here hu) ?_)
      refine wpAny_bind (wpAny_callSpecialIfBound?_slot (T := "tuple") ⟨_, h1, h2⟩ F.slot_tuple_lt (call_tuple_lt' (e := pairEq xs ys) (r := fun j => dataLt (xs.getD j .none) (ys.getD j .none)) ⟨_, h1, h2, _, h3⟩ ⟨_, k1, k2, _, k3⟩ (fun j j1 j2 => ?_) (fun j j1 j2 hj => ?_) ?_))
      · have := eqAt_alikeAll xs ys A.in1 s vs.toList vs'.toList _ _ h4 k4 hal (room_in hu) j (by simpa using j1) (by simpa using j2)
        simpa using this
      · have := rcLt_alikeAll xs ys A.in1 s vs.toList vs'.toList _ _ h4 k4 hal (room_in hu) j (by simpa using j1) (by simpa using j2) hj
        simpa using this
      · exact wpAny_truthy_bool hq
end
def KatT (h : Heap) : List Value -> List (Option Value) -> Prop
  | [], [] => True
  | v :: vs, f :: fs => (∃ a o xs n, v = .ref a /\ h.get? a = some o /\ o.cls = .type "tuple" /\ o.data = .seq xs n /\ xs[0]? = f) /\ KatT h vs fs
  | _, _ => False
section
variable {M : Model} {A : Around} {E : Value -> Shared -> Prop} {s : Shared}
theorem kat_firsts2 : ∀ (vs : List Value) (fs : List (Option Value)) {Q : List (Option Value) -> Shared -> Prop}, KatT s.heap vs fs -> Q fs s -> wpAny M A (vs.mapM firstOfTuple') Q E s
  | [], [], _, _, h => by rw [List.mapM_nil]; exact wpAny_pure h
  | [], _ :: _, _, t, _ => t.elim
  | _ :: _, [], _, t, _ => t.elim
  | v :: vs, f :: fs, Q, t, h => by
    obtain ⟨⟨a, o, xs, n, rfl, ho, hc, hd, hf⟩, t⟩ := t
    rw [List.mapM_cons]
    refine wpAny_bind ?_
    rw [kas_first_eq]
    refine wpAny_bind (Looks.here (show Looks M s.heap (typeOf (.ref a)) o.cls from (Looks.ld ho).andThen .now) ?_)
    rw [hc, if_neg (by first | decide | simp)]
    refine wpAny_bind (listItems_at ho hd (wpAny_pure ?_))
    rw [hf]
    exact wpAny_bind (kat_firsts2 vs fs (Q := fun bs s' => wpAny M A (pure (f :: bs)) Q E s') t (wpAny_pure h))
theorem kind_mixed {vs : List Value} {fs : List (Option Value)} {Q : SortKind -> Shared -> Prop} (t : KatT s.heap vs fs) (hn : none ∈ fs) (hT : ∀ v ∈ vs, Looks M s.heap (typeOf v) (Value.type "tuple"))
    (h : Q (if (fs.head?.bind id).isSome = true then general' else oneType') s) : wpAny M A (keyKind' vs.toArray) Q E s := by
  obtain ⟨v₁, vr, rfl⟩ : ∃ v₁ vr, vs = v₁ :: vr := by
    match vs, fs, t, hn with
    | v₁ :: vr, _, _, _ => exact ⟨v₁, vr, rfl⟩
    | [], [], _, hn => exact absurd hn (by simp)
    | [], _ :: _, t, _ => exact t.elim
  rw [kat_kind_eq, List.mapM_toArray, map_eq_pure_bind]
  refine wpAny_bind (wpAny_bind (kat_firsts2 (v₁ :: vr) fs t (wpAny_pure ?_)))
  have hall : ¬ (fs.toArray.all fun x => x.isSome) = true := by
    simp only [List.all_toArray, List.all_eq_true]
    exact fun z => absurd (z none hn) (by simp)
  rw [if_neg hall]
  have h0 : (fs.toArray[0]?.bind id).isSome = (fs.head?.bind id).isSome := by
    rw [List.head?_eq_getElem?]; simp
  rw [h0]
  by_cases hs : (fs.head?.bind id).isSome = true
  · rw [if_pos hs] at h ⊢
    exact wpAny_pure h
  · rw [if_neg hs] at h ⊢
    rw [oneTypeOnly'_eq, List.mapM_toArray, map_eq_pure_bind]
    refine wpAny_bind (wpAny_bind (wpAny_bind (kas_mapM (r := Value.type "tuple") _ (fun v hv Q' hq => (hT v hv).here hq) (wpAny_pure ?_))))
    have hall2 : ((List.map (fun _ => Value.type "tuple") (v₁ :: vr)).toArray.all fun x => x == Value.type "tuple") = true := by
      simp only [List.all_toArray, List.all_map, List.all_eq_true]
      intro _ _
      exact beq_self_eq_true _
    have h1 : (List.map (fun _ => Value.type "tuple") (v₁ :: vr)).toArray[0]? = some (Value.type "tuple") := by simp
    rw [h1]
    simp only [hall2, if_true]
    exact wpAny_pure (wpAny_pure h)
end
def Sortable2 (ds : List PyData) : Prop := (∀ d, d ∈ ds -> ∃ xs, d = .tuple xs) \/ ∀ d, d ∈ ds -> d ≠ .none /\ ∀ xs, d ≠ .tuple xs
theorem each_katT {h : Heap} : ∀ {vs : List Value} {ds : List PyData}, EachIs (fun v d => ∃ as, Reads h v d as) vs ds -> (∀ d, d ∈ ds -> ∃ xs, d = .tuple xs) -> ∃ fs, KatT h vs fs /\ (.tuple [] ∈ ds -> none ∈ fs)
  | _, _, .nil, _ => ⟨[], trivial, fun h => absurd h (by simp)⟩
  | _, _, .cons (b := d) ⟨as, r⟩ t, ht => by
    obtain ⟨fs, h1, h2⟩ := each_katT t fun d hd => ht d (List.mem_cons_of_mem _ hd)
    obtain ⟨xs0, rfl⟩ := ht d (List.mem_cons_self ..)
    cases r with
    | @tuple a o xs n _ _ ho hc hd hr =>
      refine ⟨xs[0]? :: fs, ⟨⟨a, o, xs, n, rfl, ho, hc, hd, rfl⟩, h1⟩, fun hm => ?_⟩
      rcases List.mem_cons.mp hm with e | hm
      · obtain rfl := PyData.tuple.inj e
        have : xs.toList = [] := by cases q : xs.toList with
          | nil => rfl
          | cons y ys => rw [q] at hr; cases hr
        have e0 : xs[0]? = none := by rw [<- Array.getElem?_toList, this]; rfl
        rw [e0]
        exact List.mem_cons_self ..
      · exact List.mem_cons_of_mem _ (h2 hm)
section
variable {prog : Program} {w : World} {A : Around} {s : Shared}
theorem sortsAt_data2 {vs : List Value} {ds : List PyData} (e : EachIs (fun v d => ∃ as, Reads s.heap v d as) vs ds) (hal : AllAlike ds) (hk : Sortable2 ds) (hu : ∀ d, d ∈ ds -> A.units + d.depth < cLine) : SortsAt prog w A s (dataKind s.heap ds) vs := by
  rcases hk with ht | hn
  · by_cases hne : PyData.tuple [] ∈ ds
    · have room : ∀ {d d' : PyData}, d ∈ ds -> A.units + min d.depth d'.depth < cLine := fun {d d'} hd => Nat.lt_of_le_of_lt (Nat.add_le_add_left (Nat.min_le_left _ _) _) (hu d hd)
      refine ⟨fun v hv => ?_, ?_⟩
      · obtain ⟨d, hd, as, r⟩ := e.left v hv
        exact ⟨_, dataKind_some hal hd r⟩
      · obtain ⟨fs, t1, t2⟩ := each_katT e ht
        refine ⟨if (fs.head?.bind id).isSome = true then general' else oneType', ?_, fun h2 E Q hq => kind_mixed t1 (t2 hne) (fun v hv => ?_) hq⟩
        · intro E x y a b Q ha hb hq
          obtain ⟨d, as, hd, ra, rfl⟩ := dataKind_inv ha
          obtain ⟨d', as', hd', rb, rfl⟩ := dataKind_inv hb
          have hdd := hal d hd d' hd'
          have hroom := room (d' := d') hd
          obtain ⟨x1, rfl⟩ := ht d hd
          obtain ⟨x2, rfl⟩ := ht d' hd'
          split
          · exact oneLt_alike (f := false) (by simp) ra rb hdd (by simp) hroom hq
          · rw [keyLt'_oneType]
            exact oneLt_tuples ra rb hdd hroom hq
        · obtain ⟨d, hd, as, r⟩ := e.left v hv
          obtain ⟨xs, rfl⟩ := ht d hd
          exact looks_reads r
    · refine SortsAt.data e hal (.inl fun d hd => ?_) hu
      obtain ⟨xs, rfl⟩ := ht d hd
      cases xs with
      | nil => exact absurd hd hne
      | cons x r => exact ⟨x, r, rfl⟩
  · exact SortsAt.data e hal (.inr hn) hu
end
section
variable {prog : Program} {w : World} {A : Around} {E : Value -> Shared -> Prop} {s : Shared} {β : Type} {vs : List Value} {bs : List β} {enc : β -> PyData} {R : Value -> β -> Prop}
theorem sorted_data2 {l : Addr} {Q : Value -> Shared -> Prop} (hl : s.heap.IsList l vs.toArray) (e : EachIs R vs bs) (er : EachIs (fun v b => ∃ as, Reads s.heap v (enc b) as) vs bs) (hal : AllAlike (bs.map enc)) (hk : Sortable2 (bs.map enc)) (hL : bs.length <= sizeLine)
    (hu : ∀ b, b ∈ bs -> A.units + 2 + (enc b).depth < cLine) (h : ∀ out, out.length = bs.length -> EachIs R out (bs.mergeSort (dataLe false enc)) -> Q (.ref (s.heap.objs.size + 1)) { s with heap := sortedAll s.heap vs (List.toArray out) }) :
    wpAny (model prog w) A (call (.builtin "sorted") [.ref l]) Q E s := by
  have er' : EachIs (fun v b => ∃ as, Reads (sortingHeap (copyHeap s.heap vs) (s.heap.objs.size + 1) vs) v (enc b) as) vs bs := er.mono fun _ _ ⟨as, r⟩ => ⟨as, PyProof.Rows.Reads.keeps (fun _ _ => sorting_copy_old) r⟩
  exact sorted_vals hl (sortsAt_data2 (s := { s with heap := sortingHeap (copyHeap s.heap vs) (s.heap.objs.size + 1) vs }) (each_map (R := fun v d => ∃ as, Reads (sortingHeap (copyHeap s.heap vs) (s.heap.objs.size + 1) vs) v d as) enc er') hal hk (bound_map hu)) (by rw [e.length]; exact hL)
    (h _ (by rw [sortVals_length false rfl]; exact e.length) (sortVals_data false e er' hal))
end
end L2
namespace L2
open PySem PySem.Spec PyProof.Rows
def rSortD (K : PySem.W.Frag) : List V -> Hp -> VK -> Prop := fun vs H Q => ∃ (a : Addr) (xs : List V) (ds : List PyData), vs = [V.ref a] /\ SqL K H a xs /\ DpAll K H xs ds /\ PySem.W.AllAlike ds /\ Sortable2 ds /\ (∀ d ∈ ds, d.depth <= 60) /\
  ∀ p, H p = none -> Q (.ref p) (upd H p (.lst (((xs.zip ds).mergeSort (PySem.W.dataLe false Prod.snd)).map Prod.fst)))
theorem DpAll.len {K : PySem.W.Frag} {H : Hp} : ∀ {xs : List V} {ds : List PyData}, DpAll K H xs ds -> xs.length = ds.length
  | _, _, .nil => rfl
  | _, _, .cons _ t => by rw [List.length_cons, List.length_cons, DpAll.len t]
section
variable {X : Cx} {pins : List (Addr × Obj)} {σ : St} {H : Hp} {s : Shared}
theorem each_dp (I : Inv X pins σ H s) : ∀ {xs : List V} {ds : List PyData} {us : List Value}, DpAll X.K H xs ds -> Vals xs us -> PySem.W.EachIs (fun u (b : V × PyData) => RelV b.1 u /\ ∃ as, Reads s.heap u b.2 as) us (xs.zip ds)
  | _, _, _, .nil, .nil => .nil
  | _, _, _, .cons h t, .cons r rs => .cons ⟨r, Dp.reads I _ _ _ h r⟩ (each_dp I t rs)
theorem each_vals {R : Value -> V × PyData -> Prop} (hR : ∀ u b, R u b -> RelV b.1 u) : ∀ {us : List Value} {bs : List (V × PyData)}, PySem.W.EachIs R us bs -> Vals (bs.map Prod.fst) us
  | _, _, .nil => .nil
  | _, _, .cons h t => .cons (hR _ _ h) (each_vals hR t)
theorem zip_snd {xs : List V} {ds : List PyData} (h : xs.length = ds.length) : (xs.zip ds).map Prod.snd = ds := List.map_snd_zip (by omega)
theorem cr_sortedD (hu : X.A.units + 64 < cLine) : CallR X (.builtin "sorted") (rSortD X.K) := by
  intro pins s σ H vs us Q I r h
  obtain ⟨a, xs, ds, rfl, hs, hd, ha, hk, hn, q⟩ := h
  obtain ⟨its, rv, hl, hz⟩ := I.list hs
  rw [Vals.ref1 r]
  have hlen := hd.len
  have hm := zip_snd hlen
  have e1 := each_dp I hd rv
  have hzl : (xs.zip ds).length = xs.length := by rw [List.length_zip]; omega
  refine sorted_data2 (enc := Prod.snd) (bs := xs.zip ds) hl.isList e1 (e1.mono fun _ _ h => h.2) (by rw [hm]; exact ha) (by rw [hm]; exact hk) (by rw [hzl]; exact hz) (fun b hb => ?_) fun out ho eo => ?_
  · have : b.2 ∈ ds := by rw [<- hm]; exact List.mem_map.mpr ⟨b, hb, rfl⟩
    have := hn _ this
    omega
  · obtain ⟨ep, he'⟩ := PyProof.Rows.sortedAll_at s.heap its out.toArray
    have hv := each_vals (fun _ _ h => h.1) eo
    refine ⟨.ref _, upd H (s.heap.objs.size + 1) (.lst (((xs.zip ds).mergeSort (PySem.W.dataLe false Prod.snd)).map Prod.fst)), I.laid (t' := s.toks) (fun _ _ => PyProof.Rows.sortedAll_old) (Nat.le_succ _) ⟨?_, out, ep, hv, he'⟩, rfl, q _ (I.hok.fresh (Nat.le_succ _))⟩
    rw [List.length_map, List.length_mergeSort, hzl]
    exact hz
end
end L2
namespace Py
open PySem L2
section
variable {T : Tbl} {W : Wd T} {env : Py.Env} {β : Type} {enc : β -> D} {dat : β -> PyData}
def tupNE : PyData -> Bool
  | .tuple _ => true
  | _ => false
def notTN : PyData -> Bool
  | .tuple _ => false
  | .none => false
  | _ => true
def sortOk (ps : List PyData) : Bool := (ps.all fun p => ps.all fun q => PySem.W.alike p q) && (ps.all tupNE || ps.all notTN) && ps.all fun p => decide (p.depth <= 60)
def sortD (xs : List D) : Option (List D) := (pds xs).bind fun ps => if sortOk ps = true then some (((xs.zip ps).mergeSort (PySem.W.dataLe false Prod.snd)).map Prod.fst) else none
theorem sortOk_ok {ps : List PyData} (h : sortOk ps = true) : PySem.W.AllAlike ps /\ Sortable2 ps /\ ∀ d ∈ ps, d.depth <= 60 := by
  unfold sortOk at h
  simp only [Bool.and_eq_true, Bool.or_eq_true, List.all_eq_true, decide_eq_true_eq] at h
  obtain ⟨⟨h1, h2⟩, h3⟩ := h
  refine ⟨h1, ?_, h3⟩
  rcases h2 with h2 | h2
  · refine .inl fun d hd => ?_
    have := h2 d hd
    cases d <;> first | (cases this; done) | skip
    exact ⟨_, rfl⟩
  · refine .inr fun d hd => ?_
    have := h2 d hd
    refine ⟨fun z => ?_, fun xs z => ?_⟩ <;> (subst z; cases this)
theorem shrs_zipD {F : Hp} : ∀ {xs : List D} {vs : List V}, Shrs W F xs vs -> ∀ p ∈ vs.zip xs, Shr W F p.2 p.1
  | [], _, .nil, p, m => nomatch m
  | b :: bs, _, .cons (v := v) (vs := vs) h t, p, m => by
    rw [List.zip_cons_cons] at m
    rcases List.mem_cons.mp m with rfl | m
    · exact h
    · exact shrs_zipD t p m
theorem shrs_pairsD {F : Hp} : ∀ (T : List (V × D)), (∀ p ∈ T, Shr W F p.2 p.1) -> Shrs W F (T.map Prod.snd) (T.map Prod.fst)
  | [], _ => .nil
  | p :: T, h => .cons (h p (List.mem_cons_self ..)) (shrs_pairsD T fun q m => h q (List.mem_cons_of_mem _ m))
theorem sort_two {α β : Type} {vs : List α} {xs : List β} {ps : List PyData} (h1 : vs.length = ps.length) (h2 : xs.length = ps.length) :
    ∃ T : List (α × β), T.Perm (vs.zip xs) /\ ((vs.zip ps).mergeSort (PySem.W.dataLe false Prod.snd)).map Prod.fst = T.map Prod.fst /\ ((xs.zip ps).mergeSort (PySem.W.dataLe false Prod.snd)).map Prod.fst = T.map Prod.snd := by
  let Z : List ((α × β) × PyData) := (vs.zip xs).zip ps
  have e1 : Z.map (fun z => (z.1.1, z.2)) = vs.zip ps := by
    apply List.ext_getElem?
    intro i
    simp only [Z, List.getElem?_map, List.getElem?_zip_eq_some, List.zip_eq_zipWith, List.getElem?_zipWith]
    cases vs[i]? <;> cases hx : xs[i]? <;> cases hp : ps[i]? <;> simp
    · have := List.getElem?_eq_none_iff.mp hx
      have := (List.getElem?_eq_some_iff.mp hp).1
      omega
  have e2 : Z.map (fun z => (z.1.2, z.2)) = xs.zip ps := by
    apply List.ext_getElem?
    intro i
    simp only [Z, List.getElem?_map, List.zip_eq_zipWith, List.getElem?_zipWith]
    cases hv : vs[i]? <;> cases hx : xs[i]? <;> cases hp : ps[i]? <;> simp
    · have := List.getElem?_eq_none_iff.mp hv
      have := (List.getElem?_eq_some_iff.mp hp).1
      omega
  refine ⟨(Z.mergeSort (PySem.W.dataLe false Prod.snd)).map (·.1), ?_, ?_, ?_⟩
  · have := (List.mergeSort_perm Z (PySem.W.dataLe false Prod.snd)).map (·.1)
    refine this.trans ?_
    rw [List.map_fst_zip (by rw [List.length_zip]; omega)]
  · rw [<- e1, <- PySem.W.sort_maps (r := PySem.W.dataLe false fun z : (α × β) × PyData => z.2) (s := PySem.W.dataLe false Prod.snd) (fun z : (α × β) × PyData => (z.1.1, z.2)) (fun _ _ _ _ => rfl), List.map_map, List.map_map]
    rfl
  · rw [<- e2, <- PySem.W.sort_maps (r := PySem.W.dataLe false fun z : (α × β) × PyData => z.2) (s := PySem.W.dataLe false Prod.snd) (fun z : (α × β) × PyData => (z.1.2, z.2)) (fun _ _ _ _ => rfl), List.map_map, List.map_map]
    rfl
theorem pds_len : ∀ {xs : List D} {ps : List PyData}, pds xs = some ps -> xs.length = ps.length
  | [], _, h => by rw [pds] at h; cases h; rfl
  | x :: xs, ps, h => by
    rw [pds] at h
    split at h
    · rename_i h2; cases h; rw [List.length_cons, List.length_cons, pds_len h2]
    · cases h
def xSorted (a : XP W) : XP W where
  t := tCB (rSortD W.K) (tCons a.t tNil)
  ev env := (a.evK env).bind fun d => (seqOf d).bind fun p => if p.1 = false then (sortD p.2).map fun ys => (.fr, .olst ys) else none
  snd := fun {env k d} e => by
    obtain ⟨d1, e1, e⟩ := Option.bind_eq_some_iff.mp e
    obtain ⟨⟨b, xs⟩, e3, e⟩ := Option.bind_eq_some_iff.mp e
    cases b with
    | true => cases e
    | false =>
      obtain ⟨ys, e4, e⟩ := Option.map_eq_some_iff.mp e
      cases e
      obtain ⟨ps, e5, e6⟩ := Option.bind_eq_some_iff.mp e4
      obtain ⟨ho, rfl⟩ := ite_some e6
      obtain ⟨s1, s2, s3⟩ := sortOk_ok ho
      intro e' F σ H L Q r q
      refine a.sK e1 e' F σ H L _ r fun v F1 H1 x1 ⟨L1, o⟩ => ?_
      obtain ⟨a, vs, rfl, sh, sq⟩ := seqOf_ok x1.s o e3
      have hl := pds_len e5
      obtain ⟨TT, hT, t1, t2⟩ := sort_two (vs := vs) (xs := xs) (ps := ps) (by rw [<- sh.length, hl]) hl
      refine ⟨a, vs, ps, rfl, sq, Shrs.dp (sh.mono x1.s) e5, s1, s2, s3, fun p hp => q _ F1 _ (x1.trans (.newH x1.s hp)) ⟨[p], ?_, by simp, fun x m => by
        rw [List.mem_singleton.mp m]; exact ⟨x1.h.free hp, x1.s.free hp⟩⟩⟩
      rw [t1, t2]
      exact .olst upd_same (shrs_pairsD TT fun p m => shrs_zipD sh p (hT.mem_iff.mp m)).owns
theorem pds_mapD (hp : ∀ b, pd (enc b) = some (dat b)) : ∀ bs : List β, pds (bs.map enc) = some (bs.map dat)
  | [] => by rw [List.map_nil, pds]; rfl
  | b :: bs => by rw [List.map_cons, pds, hp b, pds_mapD hp bs]; rfl
theorem sortD_map (hp : ∀ b, pd (enc b) = some (dat b)) (bs : List β) (ho : sortOk (bs.map dat) = true) : sortD (bs.map enc) = some ((bs.mergeSort (PySem.W.dataLe false dat)).map enc) := by
  unfold sortD
  rw [pds_mapD hp]
  show (if sortOk (bs.map dat) = true then _ else none) = _
  rw [if_pos ho]
  congr 1
  have e : (bs.map enc).zip (bs.map dat) = bs.map fun b => (enc b, dat b) := by rw [List.zip_map']
  rw [e, <- PySem.W.sort_maps (r := PySem.W.dataLe false dat) (s := PySem.W.dataLe false Prod.snd) (fun b => (enc b, dat b)) (fun _ _ _ _ => rfl), List.map_map]
  rfl
end
end Py
namespace Py
open PySem L2
structure Blt (mg : Str -> Option Value) : Prop where
  len : mg "len" = none
  range : mg "range" = none
  abs : mg "abs" = none
  int : mg "int" = none
  bool : mg "bool" = none
  str : mg "str" = none
  list : mg "list" = none
  tuple : mg "tuple" = none
  isinstance : mg "isinstance" = none
  sorted : mg "sorted" = none
  enumerate : mg "enumerate" = none
  zip : mg "zip" = none
  sum : mg "sum" = none
  any : mg "any" = none
  all : mg "all" = none
  max : mg "max" = none
  min : mg "min" = none
  dict : mg "dict" = none
  set : mg "set" = none
  type : mg "type" = none
  iter : mg "iter" = none
  super : mg "super" = none
structure DefAt (K : PySem.W.Frag) (mg : Str -> Option Value) (x qual : Str) (st : Stmt) (dvs : List V) (kws : List (Str × V)) : Prop where
  ex : ∃ f fd, FunD K x qual (defArgs st) (defBody st) (defScope st) dvs kws f fd /\ mg x = some (.ref f)
def BindsP (x qual : Str) (st : Stmt) (ps : List Str) : Prop := ∀ (kV doc pm : Value) (an : Option Addr) (cdv ct : Value) (us : List Value), us.length = ps.length -> bindArgs (PySem.W.fnOf x qual (defArgs st) (defBody st) (defScope st) .none kV doc pm an cdv ct) ⟨us, []⟩ = pure (ps.zip us)
structure Df (P : Program) (w : World) (K : PySem.W.Frag) (mg : Str -> Option Value) (base : Heap) (CX : CXT) (k : Nat) (x : Str) (ps : List Str) (sp : Sp) : Prop where
  ex : ∃ f fd, FnOk P w K mg base CX k f fd ps sp /\ mg x = some (.ref f) /\ PySem.W.keepIn K (.ref f) = true /\ Binds K fd ps []
section
variable {P : Program} {w : World} {K : PySem.W.Frag} {mg : Str -> Option Value} {base : Heap}
theorem df_of {x qual : Str} {st : Stmt} {N ps : List Str} {k : Nat} {sp : Sp} (D : DefAt K mg x qual st [] []) (S : FnScope N ps (defScope st)) (bp : BindsP x qual st ps) (len : ∀ vs H Q E, sp vs H Q E -> vs.length = ps.length)
    (hbody : ∀ (f : Addr) (cdv : Value) (A : Around) (outer : List PySem.Env) (s : Shared) (H : Hp) (vs : List V) (Q : VK) (E : XK), Room k (A.deeper (PyProof.Rows.envOfC qual (defScope st) s.heap.objs.size f cdv)) -> sp vs H Q E ->
      ∃ t, PSs (cxOf (L2.CX P w) P w K mg base N qual (defScope st) f cdv A outer s H E) (defBody st) t /\ t { nx := fun _ H' => Q .non H', rt := Q } (L2.start N vs) H) : Df P w K mg base (L2.CX P w) (k + 1) x ps sp := by
  obtain ⟨f, fd, F, hm⟩ := D.ex
  refine ⟨f, fd, F.ok S len fun cdv A outer s H vs Q E hr h => ?_, hm, F.kp, F.bindsN bp⟩
  obtain ⟨t, q1, q2⟩ := hbody f cdv A outer s H vs Q E hr h
  exact ⟨t, q1, q2⟩
theorem lw_of {x qual : Str} {st : Stmt} {N ps : List Str} {k : Nat} {sp : Sp} {f : Addr} {fd : FuncData} (F : FunD K x qual (defArgs st) (defBody st) (defScope st) [] [] f fd) (S : FnScope N ps (defScope st)) (len : ∀ vs H Q E, sp vs H Q E -> vs.length = ps.length)
    (hbody : ∀ (f : Addr) (cdv : Value) (A : Around) (outer : List PySem.Env) (s : Shared) (H : Hp) (vs : List V) (Q : VK) (E : XK), Room k (A.deeper (PyProof.Rows.envOfC qual (defScope st) s.heap.objs.size f cdv)) -> sp vs H Q E ->
      ∃ t, PSs (cxOf CX0 P w K mg base N qual (defScope st) f cdv A outer s H E).nox (defBody st) t /\ t { nx := fun _ H' => Q .non H', rt := Q } (L2.start N vs) H) : FnOk P w K mg base CX0 (k + 1) f fd ps sp := by
  refine F.ok S len fun cdv A outer s H vs Q E hr h => ?_
  obtain ⟨t, q1, q2⟩ := hbody f cdv A outer s H vs Q E hr h
  exact ⟨t, q1.nox, q2⟩
theorem cx_no {P : Program} {w : World} {o : List PySem.Env} {H : Hp} {s s' : Shared} {e : Value} (h : L2.CX P w o H s E0 e s') : False := by
  obtain ⟨_, _, _, _, _, _, _, _, _, _, _, _, z⟩ := h
  exact z.elim
theorem passE0 {X : Cx} : Passes (L2.CX X.prog X.w) X E0 := fun _ _ _ _ _ _ _ h => by
  obtain ⟨_, _, _, _, _, _, _, _, _, _, _, _, z⟩ := h
  exact z.elim
theorem px_call {X : Cx} {k : Nat} {x : Str} {ps : List Str} {sp : Sp} {p pos : Pos} {e : Expr} {es : List Expr} {t : TA} (D : Df X.prog X.w X.K X.mg X.base (L2.CX X.prog X.w) k x ps sp) (hr : Room k X.A) (hg : Gl X x)
    (ha : PA X (e :: es) t) (hdb : (x == ("__debug__" : Str)) = false := by decide) (he : starEach (e :: es) X.env = (false, eval e X.env) :: starEach es X.env := by rfl) (hpl : (backTo pos (starEach es X.env)).any (·.1) = false := by rfl) :
    PE X (.Call (.Name x p) (e :: es) [] pos) (tCall sp [] E0 t) := by
  obtain ⟨f, fd, F, hm, hk, hb⟩ := D.ex
  exact pe_call F hr hg hm hk hb .nil passE0 ha hdb he hpl
def gK {α : Type} (n m : Nat) (us ws : List α) : List α := if us.length = n /\ ws.length = m then us ++ ws else []
structure DfK (P : Program) (w : World) (K : PySem.W.Frag) (mg : Str -> Option Value) (base : Heap) (CX : CXT) (k : Nat) (x : Str) (ps ks : List Str) (n : Nat) (sp : Sp) : Prop where
  ex : ∃ f fd, FnOk P w K mg base CX k f fd ps sp /\ mg x = some (.ref f) /\ PySem.W.keepIn K (.ref f) = true /\ KBinds K fd ps ks (gK n ks.length) (gK n ks.length)
end
section
variable {X : Cx} {T : Tbl} {W : Wd T}
theorem call_lenA : CallR X (.builtin "len") (rLenA X.K) := CallR.or call_lenU call_lenD
theorem pe_imp {e : Expr} {t : TE} {c : Prop} (hc : c) (h : PE X e t) : PE X e (fun σ H Q => c -> t σ H Q) := ⟨fun pins s σ H Q I q => h.run pins s σ H Q I (q hc)⟩
theorem px_isi {a : Expr} {ta : TE} {c : Str} {n : String} {p1 p2 pos : Pos} (hm : X.mg "isinstance" = none) (hmc : X.mg c = none) (ha : PE X a ta) (hk : n ∈ ["int", "bool", "str", "list", "tuple", "dict"] := by decide) (hg : Gl X "isinstance" := by rfl) (hgc : Gl X c := by rfl)
    (hb : bootBuiltins c = some (.type n) := by decide +kernel) (hn : c ≠ "__name__" := by decide) (hd : (c == ("__debug__" : Str)) = false := by decide)
    (hs : starEach [a, .Name c p2] X.env = (false, eval a X.env) :: starEach [.Name c p2] X.env := by rfl) (hs2 : starEach [.Name c p2] X.env = (false, eval (.Name c p2) X.env) :: starEach [] X.env := by rfl)
    (hpl : (backTo pos (starEach [.Name c p2] X.env)).any (·.1) = false := by rfl) :
    PE X (.Call (.Name "isinstance" p1) [a, .Name c p2] [] pos) (fun σ H Q => clsOk W (false, n) -> tCB (rIsi X.K) (tCons ta (tCons (tC (clsV W (false, n))) tNil)) σ H Q) :=
  pe_imp hk (pe_callB call_isi hg hm (by decide +kernel) (pa_cons ha (pa_cons (pe_bltn hgc hc' hb rfl hn hd) pa_nil hs2) hs) (he := hs) (hpl := hpl))
where hc' := hmc
end
theorem df_no {P : Program} {w : World} {K : PySem.W.Frag} {mg : Str -> Option Value} {base : Heap} {x qual : Str} {st : Stmt} {ps : List Str} {k : Nat} (D : DefAt K mg x qual st [] []) (bp : BindsP x qual st ps) {sp : Sp} (h : ∀ vs H Q E, ¬ sp vs H Q E) : Df P w K mg base (L2.CX P w) k x ps sp := by
  obtain ⟨f, fd, F, hm⟩ := D.ex
  exact ⟨f, fd, ⟨fun vs H Q E z => absurd z (h vs H Q E), fun A outer s H args us vs Q E _ _ _ _ z => absurd z (h vs H Q E)⟩, hm, F.kp, F.bindsN bp⟩
theorem spR_no {T : Tbl} {W : Wd T} {n : Nat} {b : Option Nat} : ∀ vs H Q E, ¬ spR W n (fun _ _ => .no) b vs H Q E := fun vs H Q E ⟨_, _, _, _, _, _, _, _, h, _⟩ => h rfl
def semT (tbl : String -> Option (Sem -> List D -> Option Nat -> Rz)) : Nat -> Sem
  | 0 => fun _ _ _ => .no
  | k + 1 => fun f args b => match tbl f with
    | some g => g (semT tbl k) args b
    | none => .no
def spL (K : PySem.W.Frag) : Sp := fun vs H Q _ => ∃ (a : Addr) (ns : List Int), vs = [.ref a] /\ SqL K H a (ns.map V.int) /\ ns.length <= 63 /\ ∀ H', Q (.bl true) H'
theorem spL_in {K : PySem.W.Frag} {H : Hp} {a : Addr} {ns : List Int} (hl : ns.length <= 63) (hS : SqL K H a (ns.map V.int)) : spL K [.ref a] H (fun v _ => v = .bl true) fun _ _ _ => False := ⟨a, ns, rfl, hS, hl, fun _ => rfl⟩
theorem spL_spR {T : Tbl} {W : Wd T} {φ : List D -> Option Nat -> Rz} (h : ∀ ns : List Int, ns.length <= 63 -> φ [.scr ns] none = .ok (.bl true) none) : ∀ vs H Q E, spL W.K vs H Q E -> spR W 1 φ none vs H Q E := by
  rintro vs H Q E ⟨a, ns, rfl, hS, hl, q⟩
  refine callF (Same.refl H) (.cons (.scr hS) .nil) rfl (h ns hl) fun v F' H' x ⟨L, o, _, _⟩ => ?_
  cases o.shr rfl
  exact q H'
section
variable {T : Tbl} {W : Wd T}
end
end Py
namespace Py
open PySem L2
theorem pe_alt {X : Cx} {e : Expr} {t1 t2 : TE} (h1 : PE X e t1) (h2 : PE X e t2) : PE X e (fun σ H Q => t1 σ H Q \/ t2 σ H Q) :=
  ⟨fun pins s σ H Q I h => h.elim (h1.run pins s σ H Q I) (h2.run pins s σ H Q I)⟩
theorem lookup_zip_none {m : String} : ∀ {ns : List String} {vs : List V}, pos m ns = none -> ((ns.map so).zip vs).lookup (so m) = none
  | [], _, _ => by simp
  | n :: ns, [], _ => by simp
  | n :: ns, v :: vs, h => by
    have h : (if n = m then some 0 else (pos m ns).map (· + 1)) = none := h
    by_cases e : n = m
    · rw [if_pos e] at h; cases h
    · rw [if_neg e] at h
      have h : pos m ns = none := Option.map_eq_none_iff.mp h
      show (match so m == so n with | true => some v | false => _) = none
      have : (so m == so n) = false := by
        rw [Bool.eq_false_iff]
        intro z
        exact e (so_inj (eq_of_beq z)).symm
      rw [this]
      exact lookup_zip_none h
section
variable {T : Tbl} {W : Wd T}
structure Mt (P : Program) (w : World) (K : PySem.W.Frag) (mg : Str -> Option Value) (base : Heap) {T : Tbl} (W : Wd T) (k : Nat) (m : String) (n : Nat) (φ : Sem) (b : Option Nat) : Prop where
  ex : ∀ c nm, W.has c -> T.res c m = some nm -> ∃ g fd ps, Meth K (W.cA c) (so m) g /\ FnOk P w K mg base (L2.CX P w) k g fd ps (spR W n (φ nm) b) /\ Binds K fd ps []
def tMethD {T : Tbl} (W : Wd T) (φ : Sem) (m : String) (n : Nat) (b : Option Nat) (E : XK) (ta : TE) (t : TA) : TE := fun σ H Q => ta σ H fun x H1 => ∃ a c nm dx fs, x = .ref a /\ H1 a = some (.ins (W.cA c) dx fs) /\ W.has c /\ T.res c m = some nm /\ fs.lookup (so m) = none /\
  t σ H1 fun vs H2 => spR W n (φ nm) b (x :: vs) H2 Q E
theorem passAt0 {X : Cx} (σ : St) : PassesAt (L2.CX X.prog X.w) X σ E0 := fun pins H s e s' I c => passE0 pins σ H s e s' I c
theorem px_methS {X : Cx} {E : St -> XK} {k n : Nat} {m : String} {φ : Sem} {b : Option Nat} {o e : Expr} {es : List Expr} {ta : TE} {t : TA} {apos pos : Pos} {pl : PySem.Sem Bool} (M : Mt X.prog X.w X.K X.mg X.base W k m n φ b) (hx : ∀ σ, PassesAt (L2.CX X.prog X.w) X σ (E σ)) (hr : Room k X.A) (hK : W.K = X.K) (he : PE X o ta) (ha : PA X (e :: es) t)
    (hst : starEach (e :: es) X.env = (false, eval e X.env) :: starEach es X.env := by rfl) (hpl : (backTo pos (starEach es X.env)).any (·.1) = false := by rfl)
    (ht : eval (.Call (.Attribute o (so m) apos) (e :: es) [] pos) X.env = (do
      let ov <- eval o X.env
      standAt apos.atName
      let (f, first) <- holding [ov] (getMethod ov (so m) pl)
      callWith pos f first (backTo pos (starEach (e :: es) X.env)) (backToKw pos (keywordEach [] X.env))) := by rfl) :
    PE X (.Call (.Attribute o (so m) apos) (e :: es) [] pos) (fun σ H Q => tMethD W φ m n b (E σ) ta t σ H Q) := by
  refine ⟨fun pins s σ H Q I h => ?_⟩
  refine PySem.W.methodCall_KW (pl := pl) (thn (he.run pins s σ H _ I h) fun u s1 ⟨x, H1, I1, rx, a, c, nm, dx, fs, ex, ea, hc, hn, l, q⟩ => ?_) ht
  subst ex
  obtain rfl : u = Value.ref a := rx
  obtain ⟨g, fd, ps, hm, F, hb⟩ := M.ex c nm hc hn
  refine getmeth_ok I1 ea (hK ▸ W.cl c hc) hm l ?_
  refine PySem.W.callWith_K (first := [.ref a]) (h₀ := X.base) I.ok.mod.kin hm.kp (thn (ha.run pos pins s1 σ H1 _ I1 q) fun us s2 ⟨vs, H2, I2, r, q2⟩ => ⟨I2.kIn, ?_⟩) hst hpl
  exact run_fnS (E := E) (us := .ref a :: us) (vs := .ref a :: vs) F hr hb (hx σ) I2 (.cons rfl r) q2
theorem px_meth {X : Cx} {k n : Nat} {m : String} {φ : Sem} {b : Option Nat} {o e : Expr} {es : List Expr} {ta : TE} {t : TA} {apos pos : Pos} {pl : PySem.Sem Bool} (M : Mt X.prog X.w X.K X.mg X.base W k m n φ b) (hr : Room k X.A) (hK : W.K = X.K) (he : PE X o ta) (ha : PA X (e :: es) t)
    (hst : starEach (e :: es) X.env = (false, eval e X.env) :: starEach es X.env := by rfl) (hpl : (backTo pos (starEach es X.env)).any (·.1) = false := by rfl)
    (ht : eval (.Call (.Attribute o (so m) apos) (e :: es) [] pos) X.env = (do
      let ov <- eval o X.env
      standAt apos.atName
      let (f, first) <- holding [ov] (getMethod ov (so m) pl)
      callWith pos f first (backTo pos (starEach (e :: es) X.env)) (backToKw pos (keywordEach [] X.env))) := by rfl) :
    PE X (.Call (.Attribute o (so m) apos) (e :: es) [] pos) (tMethD W φ m n b E0 ta t) := px_methS (E := fun _ => E0) M passAt0 hr hK he ha hst hpl ht
theorem px_methX {X : Cx} {E : WX} {k n : Nat} {m : String} {φ : Sem} {b : Option Nat} {o e : Expr} {es : List Expr} {ta : TE} {t : TA} {apos pos : Pos} {pl : PySem.Sem Bool} (M : Mt X.prog X.w X.K X.mg X.base W k m n φ b) (tk : Takes X E) (hr : Room k X.A) (hK : W.K = X.K) (he : PE X o ta) (ha : PA X (e :: es) t)
    (hst : starEach (e :: es) X.env = (false, eval e X.env) :: starEach es X.env := by rfl) (hpl : (backTo pos (starEach es X.env)).any (·.1) = false := by rfl)
    (ht : eval (.Call (.Attribute o (so m) apos) (e :: es) [] pos) X.env = (do
      let ov <- eval o X.env
      standAt apos.atName
      let (f, first) <- holding [ov] (getMethod ov (so m) pl)
      callWith pos f first (backTo pos (starEach (e :: es) X.env)) (backToKw pos (keywordEach [] X.env))) := by rfl) :
    PE X (.Call (.Attribute o (so m) apos) (e :: es) [] pos) (fun σ H Q => tMethD W φ m n b (WE E σ) ta t σ H Q) := px_methS (E := fun σ => WE E σ) M (fun σ => L2.passAt tk σ) hr hK he ha hst hpl ht
def meth1 (T : Tbl) (φ : Sem) (m : String) (n : Nat) : List D -> Rz
  | .ins c ns xs :: ds => match T.res c m with
    | some nm => if pos m ns = none /\ ds.length + 1 = n then φ nm (.ins c ns xs :: ds) none else .no
    | none => .no
  | _ => .no
theorem meth1_ok {φ : Sem} {m : String} {n : Nat} {d : D} {ds : List D} (h : meth1 T φ m n (d :: ds) ≠ .no) : ∃ c ns xs nm, d = .ins c ns xs /\ T.res c m = some nm /\ pos m ns = none /\ (d :: ds).length = n /\ meth1 T φ m n (d :: ds) = φ nm (d :: ds) none := by
  cases d <;> first | (exact absurd rfl h) | skip
  rename_i c ns xs
  cases e : T.res c m with
  | none => exact absurd (by show (match T.res c m with | some nm => if pos m ns = none /\ ds.length + 1 = n then φ nm (.ins c ns xs :: ds) none else Rz.no | none => .no) = .no; rw [e]) h
  | some nm =>
    have e2 : meth1 T φ m n (.ins c ns xs :: ds) = if pos m ns = none /\ ds.length + 1 = n then φ nm (.ins c ns xs :: ds) none else Rz.no := by
      show (match T.res c m with | some nm => if pos m ns = none /\ ds.length + 1 = n then φ nm (.ins c ns xs :: ds) none else Rz.no | none => .no) = _
      rw [e]
    by_cases hh : pos m ns = none /\ ds.length + 1 = n
    · rw [if_pos hh] at e2
      exact ⟨c, ns, xs, nm, rfl, e, hh.1, hh.2, e2⟩
    · rw [if_neg hh] at e2
      exact absurd e2 h
theorem shr_ins {F : Hp} {c : String} {ns : List String} {xs : List D} {v : V} (h : Shr W F (.ins c ns xs) v) : ∃ a dx vs, v = .ref a /\ F a = some (.ins (W.cA c) dx ((ns.map so).zip vs)) /\ W.has c := by
  cases h with
  | ins ha hc _ _ => exact ⟨_, _, _, rfl, ha, hc⟩
def methE (T : Tbl) (φ : Sem) (m : String) (n : Nat) (f : Option D) (fs : Option (List D)) (v : Option D) (vs : Option (List D)) : Option (Kd × D) := match f, fs with
  | some d, some ds => (meth1 T φ m n (d :: ds)).toF
  | _, _ => match v, vs with
    | some d, some ds => (meth1 T φ m n (d :: ds)).toV
    | _, _ => none
def xMeth (φ : Sem) (m : String) (n : Nat) (a : XP W) (as : XA W) : XP W where
  t := tMethD W φ m n none E0 a.t as.t
  ev env := methE T φ m n (a.evF env) (as.evF env) (a.evV env) (as.evV env)
  snd := fun {env k d} e => by
    have viewed : ∀ {d0 ds}, a.evV env = some d0 -> as.evV env = some ds -> (meth1 T φ m n (d0 :: ds)).toV = some (k, d) -> AE W (tMethD W φ m n none E0 a.t as.t) env (rK W k d) := by
      intro d0 ds e1 e2 e
      obtain ⟨d2, b, h, hk⟩ := Rz.toV_ok e
      obtain ⟨c, ns, xs, nm, rfl, h1, h2, h3, h4⟩ := meth1_ok (T := T) (φ := φ) (m := m) (n := n) (d := d0) (ds := ds) (by rw [h]; exact fun z => nomatch z)
      rw [h4] at h
      refine fun e' F σ H L Q r q => a.sV e1 e' F σ H L _ r fun v F1 H1 x1 y1 => ?_
      obtain ⟨p, dx, vs, rfl, hp, hc⟩ := shr_ins y1
      refine ⟨p, c, nm, dx, _, rfl, hp, hc, h1, lookup_zip_none h2, as.sV e2 e' F1 σ H1 L _ (r.ext x1) fun ws F2 H2 x2 y2 => ?_⟩
      refine callV (x2.s) (.cons (y1.mono x2.h) y2) h3 h fun v H3 x3 y3 => q v F2 H3 ((x1.trans x2).trans x3) ?_
      rcases hk with ⟨hf, rfl, rfl⟩ | ⟨rfl, rfl⟩
      · rw [fz_isSh (isSh_flat hf)] at y3
        exact rO_sh (y3.flat hf)
      · exact y3
    unfold methE at e
    split at e
    · rename_i d0 ds e1 e2
      obtain ⟨rfl, b, h⟩ := Rz.toF_ok e
      obtain ⟨c, ns, xs, nm, rfl, h1, h2, h3, h4⟩ := meth1_ok (T := T) (φ := φ) (m := m) (n := n) (d := d0) (ds := ds) (by rw [h]; exact fun z => nomatch z)
      rw [h4] at h
      refine fun e' F σ H L Q r q => a.sF e1 e' F σ H L _ r fun v F1 H1 x1 y1 => ?_
      obtain ⟨p, dx, vs, rfl, hp, hc⟩ := shr_ins y1
      refine ⟨p, c, nm, dx, _, rfl, x1.s _ _ hp, hc, h1, lookup_zip_none h2, as.sF e2 e' F1 σ H1 L _ (r.ext x1) fun ws F2 H2 x2 y2 => ?_⟩
      exact callF x2.s (.cons (y1.mono x2.f) y2) h3 h fun v F3 H3 x3 y3 => q v F3 H3 ((x1.trans x2).trans x3) (rO_back (x1.trans x2).h y3)
    · split at e
      · exact viewed (by assumption) (by assumption) e
      · cases e
def mkR (r : Rz) : Option D := match r with
  | .ok .non (some d) => some d
  | _ => none
def mk1 (φ : Sem) (c ini : String) (n : Nat) (ds : List D) : Option D := if ds.length + 1 = n then mkR (φ ini (.oins c [] [] :: ds) (some 0)) else none
theorem mk1_ok {φ : Sem} {c ini : String} {n : Nat} {ds : List D} {d : D} (h : mk1 φ c ini n ds = some d) : (D.oins c [] [] :: ds).length = n /\ φ ini (.oins c [] [] :: ds) (some 0) = .ok .non (some d) := by
  obtain ⟨h1, h2⟩ : ds.length + 1 = n /\ mkR (φ ini (.oins c [] [] :: ds) (some 0)) = some d := by
    unfold mk1 at h
    split at h
    · exact ⟨by assumption, h⟩
    · cases h
  refine ⟨h1, ?_⟩
  unfold mkR at h2
  split at h2
  · cases h2; assumption
  · cases h2
theorem makeF {n : Nat} {φ : Sem} {c ini : String} {F H : Hp} {vs : List V} {ds : List D} {d : D} {Q : VK} {E : XK} (s : Same F H) (h : Shrs W F ds vs) (hc : W.has c) (hφ : mk1 φ c ini n ds = some d)
    (q : ∀ v F' H', Ext F H F' H' -> rO W d F' H' H v -> Q v H') (x dx : Addr) (hx : H x = none) (hd : H dx = none) (ne : dx ≠ x) :
    spR W n (φ ini) (some 0) (.ref x :: vs) (upd (upd H dx (.own x)) x (.ins (W.cA c) dx [])) (fun v H2 => v = .non /\ Q (.ref x) H2) E := by
  obtain ⟨hl, hφ⟩ := mk1_ok hφ
  have hs : Same H (upd (upd H dx (.own x)) x (.ins (W.cA c) dx [])) := (same_new hd).trans (same_new (by rw [upd_ne ne.symm]; exact hx))
  refine ⟨F, .oins c [] [] :: ds, [x] ++ [], s.trans hs, .cons (.oins (vs := []) (by rw [upd_same]; rfl) hc rfl .nil) h.owns, by simp, fun a m => ?_, hl, ?_, fun d' bd e F' H' v M Mb p o ob nd k => ?_, fun x' bd e => ?_⟩
  · obtain rfl : a = x := by simpa using m
    exact s.free hx
  · rw [hφ]; exact fun z => nomatch z
  · rw [hφ] at e; cases e
    have hv : v = .non := by cases o with | sh y => cases y; rfl
    have hM : M = [] := o.shNil rfl
    subst hM
    obtain ⟨w, hw, ow⟩ := ob
    cases hw
    refine ⟨hv, q _ F' H' ⟨p.f, p.s, fun a o ha => ?_, fun a o ha => ?_⟩ ⟨Mb, ow, by simpa using nd, fun a m => ⟨?_, (k a (by simpa using m)).1⟩⟩⟩
    · refine p.h a o (fun z => ?_) (hs _ _ ha)
      obtain rfl : a = x := by simpa using z
      rw [hx] at ha; cases ha
    · rcases p.n a o ha with z | z | z
      · exact .inl z
      · exact .inr (hs.free z)
      · obtain rfl : a = x := by simpa using z
        exact .inr hx
    · rcases (k a (by simpa using m)).2 with z | z
      · obtain rfl : a = x := by simpa using z
        exact hx
      · exact hs.free z
  · rw [hφ] at e; cases e
theorem makeV {n : Nat} {φ : Sem} {c ini : String} {F H : Hp} {vs : List V} {ds : List D} {d : D} {Q : VK} {E : XK} (s : Same F H) (h : Shrs W H ds vs) (hc : W.has c) (hφ : mk1 φ c ini n ds = some d)
    (q : ∀ v H', Ext F H F H' -> Shr W H' (fz d) v -> Q v H') (x dx : Addr) (hx : H x = none) (hd : H dx = none) (ne : dx ≠ x) :
    spR W n (φ ini) (some 0) (.ref x :: vs) (upd (upd H dx (.own x)) x (.ins (W.cA c) dx [])) (fun v H2 => v = .non /\ Q (.ref x) H2) E :=
  makeF (Same.refl H) h hc hφ (fun v F' H' x ⟨L, o, _, _⟩ => q v H' ⟨Same.refl _, s.trans (x.f.trans x.s), x.h, fun _ _ z => .inl z⟩ (o.view x.s fun _ _ _ z => z)) x dx hx hd ne
def makeE (φ : Sem) (c ini : String) (n : Nat) (dds : List D) (f v : Option (List D)) : Option (Kd × D) := match f with
  | some ds => (mk1 φ c ini n (ds ++ dds)).map (Prod.mk .fr)
  | none => match v with
    | some ds => (mk1 φ c ini n (ds ++ dds)).map fun d => (.vw, fz d)
    | none => none
def xMake (φ : Sem) (c ini : String) (n : Nat) (as : XA W) (dds : List D) (dvs : List V) (hd : ∀ F, Shrs W F dds dvs) : XP W where
  t := fun σ H Q => W.has c -> tMake (W.cA c) (spR W n (φ ini) (some 0)) dvs E0 as.t σ H Q
  ev env := makeE φ c ini n dds (as.evF env) (as.evV env)
  snd := fun {env k d} e e' F σ H L Q r q hc => by
    unfold makeE at e
    split at e
    · rename_i ds e1
      obtain ⟨d2, h, e⟩ := Option.map_eq_some_iff.mp e
      cases e
      exact as.sF e1 e' F σ H L _ r fun vs F1 H1 x1 y1 x dx hx hdx ne => makeF x1.s (y1.append (hd F1)) hc h (fun v F2 H2 x2 y2 => q v F2 H2 (x1.trans x2) (rO_back x1.h y2)) x dx hx hdx ne
    · split at e
      · rename_i ds e2
        obtain ⟨d2, h, e⟩ := Option.map_eq_some_iff.mp e
        cases e
        exact as.sV e2 e' F σ H L _ r fun vs F1 H1 x1 y1 x dx hx hdx ne => makeV x1.s (Shrs.append y1 (hd H1)) hc h (fun v H2 x2 y2 => q v F1 H2 (x1.trans x2) y2) x dx hx hdx ne
      · cases e
structure MkAt (P : Program) (w : World) (K : PySem.W.Frag) (mg : Str -> Option Value) (base : Heap) (k : Nat) (x : Str) (C : Addr) (n : Nat) (sp : Sp) : Prop where
  ex : ∃ f fd ps, Mk K C f /\ FnOk P w K mg base (L2.CX P w) k f fd ps sp /\ mg x = some (.ref C) /\ Binds K fd ps [] /\ ps.length = n
theorem px_make {X : Cx} {k n : Nat} {x : Str} {c : String} {sp : Sp} {e : Expr} {es : List Expr} {p pos : Pos} {t : TA} (M : MkAt X.prog X.w X.K X.mg X.base k x (W.cA c) n sp) (hc : W.has c) (hr : Room (k + 1) X.A) (hg : Gl X x)
    (ha : PA X (e :: es) t) (hdb : (x == ("__debug__" : Str)) = false := by decide) (he : starEach (e :: es) X.env = (false, eval e X.env) :: starEach es X.env := by rfl) (hpl : (backTo pos (starEach es X.env)).any (·.1) = false := by rfl) :
    PE X (.Call (.Name x p) (e :: es) [] pos) (fun σ H Q => W.has c -> tMake (W.cA c) sp [] E0 t σ H Q) := by
  obtain ⟨f, fd, ps, M, F, hm, hb, _⟩ := M.ex
  exact pe_imp hc (pe_make M F hr hg hm hb .nil passE0 ha hdb he hpl)
def rm0 (r : Rz) (e : Py.Env) : RM := match r with
  | .ok d _ => .ok d e
  | .exn x _ => .exn x e
  | .no => .no
def rm1 (r : Rz) (o : Option D) (i : Nat) (st : List Pst) (e : Py.Env) : RM := match r, o with
  | .ok d (some n), some d0 => .ok d (e.set i (some (d0.putAt st n)))
  | .exn x (some n), some d0 => .exn x (e.set i (some (d0.putAt st n)))
  | _, _ => .no
def meth2 (T : Tbl) (φ : Sem) (m : String) (n : Nat) : List D -> Rz
  | .oins c ns xs :: ds => match T.res c m with
    | some nm => if pos m ns = none /\ ds.length + 1 = n then φ nm (.oins c ns xs :: ds) (some 0) else .no
    | none => .no
  | _ => .no
theorem meth2_ok {φ : Sem} {m : String} {n : Nat} {d : D} {ds : List D} (h : meth2 T φ m n (d :: ds) ≠ .no) : ∃ c ns xs nm, d = .oins c ns xs /\ T.res c m = some nm /\ pos m ns = none /\ (d :: ds).length = n /\ meth2 T φ m n (d :: ds) = φ nm (d :: ds) (some 0) := by
  cases d <;> first | (exact absurd rfl h) | skip
  rename_i c ns xs
  cases e : T.res c m with
  | none => exact absurd (by show (match T.res c m with | some nm => if pos m ns = none /\ ds.length + 1 = n then φ nm (.oins c ns xs :: ds) (some 0) else Rz.no | none => .no) = .no; rw [e]) h
  | some nm =>
    have e2 : meth2 T φ m n (.oins c ns xs :: ds) = if pos m ns = none /\ ds.length + 1 = n then φ nm (.oins c ns xs :: ds) (some 0) else Rz.no := by
      show (match T.res c m with | some nm => if pos m ns = none /\ ds.length + 1 = n then φ nm (.oins c ns xs :: ds) (some 0) else Rz.no | none => .no) = _
      rw [e]
    by_cases hh : pos m ns = none /\ ds.length + 1 = n
    · rw [if_pos hh] at e2
      exact ⟨c, ns, xs, nm, rfl, e, hh.1, hh.2, e2⟩
    · rw [if_neg hh] at e2
      exact absurd e2 h
theorem call_put {φ : List D -> Option Nat -> Rz} {n : Nat} {e : Ent} {env : Py.Env} {F H : Hp} {σ : St} {L : List Addr} {i j : Nat} {st : List Pst} {nd d0 : D} {v0 vn : V} {as bs : List D} {vs ws : List V} {Q : VK} {E : XK}
    (rl : Rel W e env F σ H L) (h0 : env[i]? = some (some d0)) (h1 : d0.at st = some nd) (hs : σ[i]? = some (some v0)) (hp : VPath H v0 st vn) (os : Shrs W F as vs) (ot : Shrs W F bs ws) (hj : as.length = j) (hl : (as ++ nd :: bs).length = n) (hn : φ (as ++ nd :: bs) (some j) ≠ .no)
    (c : ∀ d n' v F' H' L' M, φ (as ++ nd :: bs) (some j) = .ok d (some n') -> Rel W e (env.set i (some (d0.putAt st n'))) F' σ H' L' -> Own W F' H' d v M -> (M ++ L').Nodup -> (∀ a ∈ M, F' a = none /\ (a ∈ e.L0 \/ e.H0 a = none)) -> Q v H')
    (cx : ∀ x n' F' H' L' C dd, φ (as ++ nd :: bs) (some j) = .exn x (some n') -> Rel W e (env.set i (some (d0.putAt st n'))) F' σ H' L' -> IsExn W F' x C dd -> E C dd H')
    (hok : ∀ d, φ (as ++ nd :: bs) (some j) ≠ .ok d none) (hex : ∀ x, φ (as ++ nd :: bs) (some j) ≠ .exn x none) : spR W n φ (some j) (vs ++ vn :: ws) H Q E := by
  obtain ⟨v0', vn', Ln, Lr, e1, p2, o, ndL, mem, put⟩ := rl.focus h0 h1
  rw [hs] at e1; cases e1
  cases hp.det p2
  rw [List.nodup_append] at ndL
  obtain ⟨n1, n2, n3⟩ := ndL
  have hO : Owns W F H (as ++ nd :: bs) (vs ++ vn :: ws) ([] ++ (Ln ++ [])) := Owns.append os.owns (.cons o ot.owns)
  rw [List.nil_append, List.append_nil] at hO
  have hjv : (vs ++ vn :: ws)[j]? = some vn := by
    rw [<- hj, os.length, List.getElem?_append_right (Nat.le_refl _), Nat.sub_self]; rfl
  have org : ∀ a, (a ∈ Ln \/ H a = none) -> a ∉ Lr /\ (a ∈ e.L0 \/ e.H0 a = none) := fun a h => by
    rcases h with z | z
    · exact ⟨fun y => n3 a z a y rfl, rl.ln a ((mem a).mp (.inl z))⟩
    · refine ⟨fun y => ?_, rl.h0 z⟩
      obtain ⟨o, ho⟩ := rl.slots.lives a ((mem a).mp (.inr y))
      rw [z] at ho; cases ho
  have back : ∀ {F' H' n' Mb}, Post F H Ln F' H' -> Own W F' H' n' vn Mb -> Mb.Nodup -> (∀ a ∈ Mb, F' a = none /\ (a ∈ Ln \/ H a = none)) -> ∃ L', Rel W e (env.set i (some (d0.putAt st n'))) F' σ H' L' /\ ∀ a ∈ L', a ∈ Mb \/ a ∈ Lr := by
    intro F' H' n' Mb p ow nb k
    refine put F' H' n' Mb p.f p.s p.h (fun a o q => (p.n a o q).elim .inl fun z => z.elim (fun z => .inr (.inl (.inl z))) fun z => .inr (.inr z)) ow ?_ fun a ha => ⟨(k a ha).1, .inr (org a (k a ha).2).2⟩
    rw [List.nodup_append]
    exact ⟨nb, n2, fun a ha b hb z => (org a (k a ha).2).1 (z ▸ hb)⟩
  refine ⟨F, as ++ nd :: bs, Ln, rl.sF, hO, n1, fun a m => rl.dj a ((mem a).mp (.inl m)), hl, hn, fun d bd eq F' H' v M Mb p o' ob nd' k => ?_, fun x bd eq F' H' C dd Mb p ie ob nb k => ?_⟩
  · cases bd with
    | none => exact absurd eq (hok d)
    | some n' =>
      obtain ⟨w, hw, ow⟩ := ob
      rw [hjv] at hw; cases hw
      rw [List.nodup_append] at nd'
      obtain ⟨m1, m2, m3⟩ := nd'
      obtain ⟨L', r', inL⟩ := back p ow m2 fun a ha => k a (List.mem_append_right _ ha)
      refine c d n' v F' H' L' M eq r' o' ?_ fun a ha => ⟨(k a (List.mem_append_left _ ha)).1, (org a (k a (List.mem_append_left _ ha)).2).2⟩
      rw [List.nodup_append]
      refine ⟨m1, r'.nd, fun a ha b hb z => ?_⟩
      subst z
      rcases inL a hb with y | y
      · exact m3 a ha a y rfl
      · exact (org a (k a (List.mem_append_left _ ha)).2).1 y
  · cases bd with
    | none => exact absurd eq (hex x)
    | some n' =>
      obtain ⟨w, hw, ow⟩ := ob
      rw [hjv] at hw; cases hw
      obtain ⟨L', r', inL⟩ := back p ow nb k
      exact cx x n' F' H' L' C dd eq r' ie
theorem callX {n : Nat} {φ : List D -> Option Nat -> Rz} {F H : Hp} {vs : List V} {args : List D} {Q : VK} {E : XK} (s : Same F H) (h : Shrs W F args vs) (hl : args.length = n) (hn : φ args none ≠ .no)
    (q : ∀ d b v F' H', φ args none = .ok d b -> Ext F H F' H' -> rO W d F' H' H v -> Q v H') (qx : ∀ x b F' H' C dd, φ args none = .exn x b -> Ext F H F' H' -> IsExn W F' x C dd -> E C dd H') : spR W n φ none vs H Q E := by
  refine ⟨F, args, [], s, h.owns, .nil, (fun a m => nomatch m), hl, hn, fun d' bd e F' H' v M Mb p o ob nd k => ?_, fun x bd e F' H' C dd Mb p ie ob nb k => ?_⟩
  · have ob : Mb = [] := ob
    subst ob
    rw [List.append_nil] at nd k
    exact q d' bd v F' H' e p.ext ⟨M, o, nd, fun a m => ⟨(k a m).2.elim (fun z => nomatch z) id, (k a m).1⟩⟩
  · exact qx x bd F' H' C dd e p.ext ie
def methM (T : Tbl) (φ : Sem) (m : String) (n i : Nat) (q : Option (List Pst × D)) (fs : Option (List D)) (env : Py.Env) : RM := match q, fs with
  | some (st, nd), some ds => if isSh nd = true then rm0 (meth1 T φ m n (nd :: ds)) env else rm1 (meth2 T φ m n (nd :: ds)) (getS env i) i st env
  | _, _ => .no
def xmMeth (φ : Sem) (m : String) (n : Nat) (p : XPl W) (as : XA W) : XM W where
  t E := fun σ H Q => tMethD W φ m n none (WE E σ) p.t as.t σ H Q \/ tMethD W φ m n (some 0) (WE E σ) p.t as.t σ H Q
  ev _ env := methM T φ m n p.root (p.ev env) (as.evF env) env
  snd := fun P E env hn e F σ H L Q hP r c cx => by
    match e1 : p.ev env, e2 : as.evF env, hn, c, cx with
    | none, _, hn, _, _ => exact absurd rfl hn
    | some _, none, hn, _, _ => exact absurd rfl hn
    | some (st, nd), some ds, hn, c, cx =>
      obtain ⟨d0, h0, h1⟩ := p.at_ e1
      obtain ⟨v0, _, _, _, hs, _⟩ := r.focus h0 h1
      unfold methM at hn c cx
      dsimp only at hn c cx
      by_cases hsh : isSh nd = true
      · rw [if_pos hsh] at hn c cx
        have hm : meth1 T φ m n (nd :: ds) ≠ .no := fun z => hn (by rw [z]; rfl)
        obtain ⟨cn, ns, xs, nm, rfl, h2, h3, h4, h5⟩ := meth1_ok hm
        rw [h5] at hn c cx hm
        refine .inl (p.loc e1 e F σ H L v0 _ r hs fun v F1 H1 x1 p1 => ?_)
        have r1 := r.ext x1
        obtain ⟨v0', vn, Ln, Lr, e5, p2, o, _⟩ := r1.focus h0 h1
        rw [hs] at e5; cases e5
        cases p1.det p2
        have sh := o.shr hsh
        obtain ⟨a, dx, vs, rfl, ha, hc⟩ := shr_ins sh
        refine ⟨a, cn, nm, dx, _, rfl, r1.sF _ _ ha, hc, h2, lookup_zip_none h3, as.sF e2 e F1 σ H1 L _ r1 fun ws F2 H2 x2 y2 => ?_⟩
        refine callX x2.s (.cons (sh.mono x2.f) y2) h4 hm (fun d b v F3 H3 eq x3 ⟨M, o3, nd3, k3⟩ => ?_) fun x b F3 H3 C dd eq x3 ie => ?_
        · rw [eq] at c
          have r2 := r1.ext x2
          exact c d env v F3 H3 L M rfl (r2.ext x3) o3 (nodup_new (H := H2) r2.nd nd3 r2.slots.lives fun a m => (k3 a m).1) fun a m => ⟨(k3 a m).2, r2.h0 (k3 a m).1⟩
        · rw [eq] at cx
          exact cx x env F3 H3 L C dd rfl ((r1.ext x2).ext x3) ie
      · rw [if_neg hsh] at hn c cx
        have hm : meth2 T φ m n (nd :: ds) ≠ .no := fun z => hn (by rw [z]; rfl)
        obtain ⟨cn, ns, xs, nm, rfl, h2, h3, h4, h5⟩ := meth2_ok hm
        rw [h5] at hn c cx hm
        have hg : getS env p.root = some d0 := by unfold getS; rw [h0]; rfl
        rw [hg] at hn c cx
        refine .inr (p.loc e1 e F σ H L v0 _ r hs fun v F1 H1 x1 p1 => ?_)
        have r1 := r.ext x1
        obtain ⟨v0', vn, Ln, Lr, e5, p2, o, _⟩ := r1.focus h0 h1
        rw [hs] at e5; cases e5
        cases p1.det p2
        cases o with
        | sh y => cases y
        | oins ha hc hl os =>
          refine ⟨_, cn, nm, _, _, rfl, ha, hc, h2, lookup_zip_none h3, as.sF e2 e F1 σ H1 L _ r1 fun ws F2 H2 x2 y2 => ?_⟩
          refine call_put (as := []) (vs := []) (r1.ext x2) h0 h1 hs (p1.mono x2.h) .nil y2 rfl h4 hm (fun d n' v F3 H3 L3 M eq r3 o3 nd3 k3 => ?_) (fun x n' F3 H3 L3 C dd eq r3 ie => ?_) (fun d z => ?_) fun x z => ?_
          · have eq : φ nm (.oins cn ns xs :: ds) (some 0) = .ok d (some n') := eq
            rw [eq] at c
            exact c d _ v F3 H3 L3 M rfl r3 o3 nd3 k3
          · have eq : φ nm (.oins cn ns xs :: ds) (some 0) = .exn x (some n') := eq
            rw [eq] at cx
            exact cx x _ F3 H3 L3 C dd rfl r3 ie
          · have z : φ nm (.oins cn ns xs :: ds) (some 0) = .ok d none := z
            rw [z] at hn
            exact hn rfl
          · have z : φ nm (.oins cn ns xs :: ds) (some 0) = .exn x none := z
            rw [z] at hn
            exact hn rfl
def setF (f : String) (d : D) : List String -> List D -> List String × List D
  | n :: ns, x :: xs => if n = f then (n :: ns, d :: xs) else ((n :: (setF f d ns xs).1), x :: (setF f d ns xs).2)
  | _, _ => ([f], [d])
def setFD (T : Tbl) (f : String) (n : D) (ds : List D) : Option (D × D) := match n, ds with
  | .oins c ns xs, [d] => if T.fOk c f = true /\ ns.length < 1000 then some (.oins c (setF f d ns xs).1 (setF f d ns xs).2, .non) else none
  | _, _ => none
def rSetF {T : Tbl} (W : Wd T) (f : Str) : V -> List V -> Hp -> VK -> Prop := fun x ys H Q => ∃ a C dx fs y, x = .ref a /\ ys = [y] /\ H a = some (.ins C dx fs) /\ Cls W.K C /\ NoAttr W.K C f /\ fs.length < 1000 /\ Q .non (upd H a (.ins C dx (putF f y fs)))
theorem mop_at {F H : Hp} {a : Addr} {L : List Addr} {Ms : List Addr} {n' d : D} {o : HO} {M' L2 : List Addr} {v' : V} {Q : VK} (s : Same F H) (nd : (Ms ++ (a :: L)).Nodup) (kF : ∀ b ∈ Ms ++ (a :: L), F b = none)
    (hn : a ∉ L2 -> Own W F (upd H a o) n' (.ref a) (a :: L2)) (od : Own W F H d v' M') (n2 : (M' ++ L2).Nodup) (sub : ∀ b ∈ M' ++ L2, b ∈ L \/ b ∈ Ms)
    (q : ∀ F' H' v' Ln' M', Same F F' -> Same F' H' -> (∀ b o, b ∉ a :: L -> H b = some o -> H' b = some o) -> (∀ b o, F' b = some o -> F b = some o \/ H b = none) -> Own W F' H' n' (.ref a) Ln' -> Own W F' H' d v' M' -> (M' ++ Ln').Nodup ->
      (∀ b ∈ M' ++ Ln', F' b = none /\ (b ∈ a :: L \/ b ∈ Ms \/ H b = none)) -> Q v' H') : Q v' (upd H a o) := by
  rw [List.nodup_append] at nd
  obtain ⟨n3, n4, n5⟩ := nd
  rw [List.nodup_cons] at n4
  have na : ∀ b ∈ M' ++ L2, b ≠ a := fun b hb z => by
    subst z
    rcases sub _ hb with y | y
    · exact n4.1 y
    · exact n5 _ y _ (List.mem_cons_self ..) rfl
  have Fa : F a = none := kF a (List.mem_append_right _ (List.mem_cons_self ..))
  have nL : a ∉ L2 := fun z => na a (List.mem_append_right _ z) rfl
  refine q F (upd H a o) v' (a :: L2) M' (Same.refl _) (same_upd s Fa) (fun b u hb hu => ?_) (fun b u hu => .inl hu) (hn nL) (own_upd od fun z => na a (List.mem_append_left _ z) rfl) ?_ (fun b hb => ?_)
  · rw [upd_ne (fun z => hb (by rw [z]; exact List.mem_cons_self ..))]; exact hu
  · rw [List.nodup_append] at n2 ⊢
    refine ⟨n2.1, List.nodup_cons.mpr ⟨fun z => na a (List.mem_append_right _ z) rfl, n2.2.1⟩, fun b hb c hc => ?_⟩
    rcases List.mem_cons.mp hc with z | z
    · rw [z]; exact na b (List.mem_append_left _ hb)
    · exact n2.2.2 b hb c z
  · rcases List.mem_append.mp hb with z | z
    · have := sub b (List.mem_append_left _ z)
      refine ⟨kF b ?_, ?_⟩
      · rcases this with y | y
        · exact List.mem_append_right _ (List.mem_cons_of_mem _ y)
        · exact List.mem_append_left _ y
      · rcases this with y | y
        · exact .inl (List.mem_cons_of_mem _ y)
        · exact .inr (.inl y)
    · rcases List.mem_cons.mp z with z | z
      · subst z; exact ⟨Fa, .inl (List.mem_cons_self ..)⟩
      · have := sub b (List.mem_append_right _ z)
        refine ⟨kF b ?_, ?_⟩
        · rcases this with y | y
          · exact List.mem_append_right _ (List.mem_cons_of_mem _ y)
          · exact List.mem_append_left _ y
        · rcases this with y | y
          · exact .inl (List.mem_cons_of_mem _ y)
          · exact .inr (.inl y)
theorem setF_owns {F H : Hp} {f : String} {d : D} {y : V} {M : List Addr} (o : Own W F H d y M) : ∀ {ns : List String} {xs : List D} {vs : List V} {L : List Addr}, Owns W F H xs vs L -> ns.length = vs.length -> (M ++ L).Nodup ->
    ∃ vs' L', putF (so f) y ((ns.map so).zip vs) = (((setF f d ns xs).1).map so).zip vs' /\ (setF f d ns xs).1.length = vs'.length /\ Owns W F H (setF f d ns xs).2 vs' L' /\ (∀ a ∈ L', a ∈ L \/ a ∈ M) /\ L'.Nodup
  | [], [], [], _, .nil, _, nd => ⟨[y], M ++ [], rfl, rfl, .cons o .nil, fun a m => .inr (by simpa using m), by simpa using nd⟩
  | n :: ns, x :: xs, v :: vs, _, .cons (L := L1) (M := L2) h t, hl, nd => by
    rw [List.nodup_append] at nd
    obtain ⟨n1, n2, n3⟩ := nd
    rw [List.nodup_append] at n2
    obtain ⟨p1, p2, p3⟩ := n2
    by_cases e : n = f
    · refine ⟨y :: vs, M ++ L2, ?_, ?_, ?_, fun a m => ?_, ?_⟩
      · subst e
        show (if so n = so n then (so n, y) :: (ns.map so).zip vs else _) = ((if n = n then (n :: ns, d :: xs) else ((n :: (setF n d ns xs).1), x :: (setF n d ns xs).2)).1.map so).zip (y :: vs)
        rw [if_pos rfl, if_pos rfl]; rfl
      · show ((if n = f then (n :: ns, d :: xs) else ((n :: (setF f d ns xs).1), x :: (setF f d ns xs).2)).1).length = _
        rw [if_pos e]; simpa using hl
      · show Owns W F H ((if n = f then (n :: ns, d :: xs) else ((n :: (setF f d ns xs).1), x :: (setF f d ns xs).2)).2) _ _
        rw [if_pos e]; exact .cons o t
      · rcases List.mem_append.mp m with m | m
        · exact .inr m
        · exact .inl (List.mem_append_right _ m)
      · rw [List.nodup_append]
        exact ⟨n1, p2, fun a ha b hb => n3 a ha b (List.mem_append_right _ hb)⟩
    · obtain ⟨vs', L', e1, e2, e3, e4, e5⟩ := setF_owns (f := f) o t (ns := ns) (by simpa using hl) (by
        rw [List.nodup_append]
        exact ⟨n1, p2, fun a ha b hb => n3 a ha b (List.mem_append_right _ hb)⟩)
      refine ⟨v :: vs', L1 ++ L', ?_, ?_, ?_, fun a m => ?_, ?_⟩
      · show (if so n = so f then (so n, y) :: (ns.map so).zip vs else (so n, v) :: putF (so f) y ((ns.map so).zip vs)) = ((if n = f then (n :: ns, d :: xs) else ((n :: (setF f d ns xs).1), x :: (setF f d ns xs).2)).1.map so).zip (v :: vs')
        rw [if_neg (fun z => e (so_inj z)), if_neg e, e1]; rfl
      · show ((if n = f then (n :: ns, d :: xs) else ((n :: (setF f d ns xs).1), x :: (setF f d ns xs).2)).1).length = _
        rw [if_neg e]; simpa using e2
      · show Owns W F H ((if n = f then (n :: ns, d :: xs) else ((n :: (setF f d ns xs).1), x :: (setF f d ns xs).2)).2) _ _
        rw [if_neg e]; exact .cons h e3
      · rcases List.mem_append.mp m with m | m
        · exact .inl (List.mem_append_left _ m)
        · exact (e4 a m).imp (List.mem_append_right _) id
      · rw [List.nodup_append]
        refine ⟨p1, e5, fun a ha b hb z => ?_⟩
        subst z
        rcases e4 a hb with q | q
        · exact p3 a ha a q rfl
        · exact n3 a q a (List.mem_append_left _ ha) rfl
  | [], _ :: _, _, _, .cons _ _, hl, _ => by simp at hl
  | _ :: _, [], _, _, .nil, hl, _ => by simp at hl
theorem mop_setF {f : String} : Mop W (rSetF W (so f)) (setFD T f) := by
  intro n ds n' d hf F H vn Ln vs Ms Q s o os nd kF q
  unfold setFD at hf
  split at hf
  · rename_i c ns xs d0
    obtain ⟨⟨hf1, hf2⟩, e⟩ := ite_some hf
    cases e
    obtain ⟨u, rfl, o2⟩ := os.one
    cases o with
    | sh y => cases y
    | @oins a c dx ns xs vs L ha hc hl hs =>
      obtain ⟨vs', L', e1, e2, e3, e4, e5⟩ := setF_owns (f := f) o2 hs hl (nd_tail nd)
      refine ⟨a, _, dx, _, u, rfl, rfl, ha, W.cl c hc, W.na c f hc hf1, by simp; omega, ?_⟩
      refine mop_at (L2 := L') (M' := []) (d := .non) s nd kF (fun na => .oins (by rw [upd_same, e1]) hc e2 (owns_upd e3 na)) (.sh .non) (by simpa using e5) (fun b hb => e4 b (by simpa using hb)) q
  · cases hf
def fldK (T : Tbl) {W : Wd T} (p : XPl W) (f : String) (d : D) (e : Py.Env) : RS := RS.ofO ((p.ev e).bind fun q => (setFD T f q.2 [d]).bind fun z => (getS e p.root).map fun d0 => e.set p.root (some (d0.putAt q.1 z.1)))
def xsFld (p : XPl W) (f : String) (m : XM W) : XS W where
  t E := sFld W.K p.t (m.t E) (so f)
  ev P env := (m.ev P env).thenS (fldK T p f)
  snd := fun P E env hn e F σ H L Dn hP r s => by
    have hm : m.ev P env ≠ .no := fun z => hn (by rw [z]; rfl)
    refine (m.snd P E env).run hm hP r s (fun x e1 h => by rw [h]; rfl) fun d env' v F' H' L' M h r' o nd kk => ?_
    rw [h] at hn s
    have hn : fldK T p f d env' ≠ .no := hn
    have s : Sat W e E (ends (fldK T p f d env')) Dn := s
    unfold fldK at hn s
    cases h2 : ((p.ev env').bind fun q => (setFD T f q.2 [d]).bind fun z => (getS env' p.root).map fun d0 => env'.set p.root (some (d0.putAt q.1 z.1))) with
    | none => rw [h2] at hn; exact absurd rfl hn
    | some e2 =>
      rw [h2] at s
      obtain ⟨⟨st, n⟩, e1, h3⟩ := Option.bind_eq_some_iff.mp h2
      obtain ⟨⟨n', d'⟩, e3, h4⟩ := Option.bind_eq_some_iff.mp h3
      obtain ⟨d0', e4, h5⟩ := Option.map_eq_some_iff.mp h4
      subst h5
      obtain ⟨d0, h0, h1⟩ := p.at_ e1
      rw [getS_some e4] at h0
      cases h0
      obtain ⟨v0, _, _, _, hs, _⟩ := r'.focus (getS_some e4) h1
      refine p.loc e1 e F' σ H' L' v0 _ r' hs fun vn F1 H1 x1 p1 => ?_
      rw [List.nodup_append] at nd
      obtain ⟨nd1, nd2, nd3⟩ := nd
      have go : rSetF W (so f) vn [v] H1 (fun _ H => Dn.nx σ H) := by
        refine am_mop mop_setF (r'.ext x1) (getS_some e4) h1 hs p1 e3 (Ms := M ++ []) (.cons (o.frame x1.f fun a _ o q => x1.h _ _ q) .nil) (by simpa using nd1) (fun a ha => ?_) fun v2 F2 H2 L2 M2 r2 o2 n2 k2 => s.nx _ _ _ _ _ rfl r2
        have ha : a ∈ M := by simpa using ha
        refine ⟨fun z => nd3 a ha a z rfl, ?_, (kk a ha).2⟩
        obtain ⟨u, hu⟩ := o.lives a ha
        cases z : F1 a with
        | none => rfl
        | some w =>
          rcases x1.n a w z with y | y
          · rw [(kk a ha).1] at y; cases y
          · rw [hu] at y; cases y
      obtain ⟨a, C, dx, fs, y, ex, ey, ha, c1, c2, c3, q⟩ := go
      cases ey
      exact ⟨a, C, dx, fs, ex, ha, c1, c2, c3, q⟩
structure MethAt (K : PySem.W.Frag) (C : Addr) (m : String) (x qual : Str) (st : Stmt) (dvs : List V) (kws : List (Str × V)) : Prop where
  ex : ∃ g fd, FunD K x qual (defArgs st) (defBody st) (defScope st) dvs kws g fd /\ Meth K C (so m) g
structure MdOk (P : Program) (w : World) (K : PySem.W.Frag) (mg : Str -> Option Value) (base : Heap) (k : Nat) (C : Addr) (m : String) (n : Nat) (sp : Sp) : Prop where
  ex : ∃ g fd ps, Meth K C (so m) g /\ FnOk P w K mg base (L2.CX P w) k g fd ps sp /\ Binds K fd ps [] /\ ps.length = n
section
variable {P : Program} {w : World} {K : PySem.W.Frag} {mg : Str -> Option Value} {base : Heap}
theorem md_of {C : Addr} {m : String} {x qual : Str} {st : Stmt} {N ps : List Str} {n k : Nat} {sp : Sp} (D : MethAt K C m x qual st [] []) (S : FnScope N ps (defScope st)) (bp : BindsP x qual st ps) (hn : ps.length = n) (len : ∀ vs H Q E, sp vs H Q E -> vs.length = ps.length)
    (hbody : ∀ (f : Addr) (cdv : Value) (A : Around) (outer : List PySem.Env) (s : Shared) (H : Hp) (vs : List V) (Q : VK) (E : XK), Room k (A.deeper (PyProof.Rows.envOfC qual (defScope st) s.heap.objs.size f cdv)) -> sp vs H Q E ->
      ∃ t, PSs (cxOf (L2.CX P w) P w K mg base N qual (defScope st) f cdv A outer s H E) (defBody st) t /\ t { nx := fun _ H' => Q .non H', rt := Q } (L2.start N vs) H) : MdOk P w K mg base (k + 1) C m n sp := by
  obtain ⟨f, fd, F, hm⟩ := D.ex
  refine ⟨f, fd, ps, hm, F.ok S len fun cdv A outer s H vs Q E hr h => ?_, F.bindsN bp, hn⟩
  obtain ⟨t, q1, q2⟩ := hbody f cdv A outer s H vs Q E hr h
  exact ⟨t, q1, q2⟩
theorem md_no {C : Addr} {m : String} {x qual : Str} {st : Stmt} {ps : List Str} {n k : Nat} (D : MethAt K C m x qual st [] []) (bp : BindsP x qual st ps) (hn : ps.length = n) {sp : Sp} (h : ∀ vs H Q E, ¬ sp vs H Q E) : MdOk P w K mg base k C m n sp := by
  obtain ⟨f, fd, F, hm⟩ := D.ex
  exact ⟨f, fd, ps, hm, ⟨fun vs H Q E z => absurd z (h vs H Q E), fun A outer s H args us vs Q E _ _ _ _ z => absurd z (h vs H Q E)⟩, F.bindsN bp, hn⟩
theorem mk_of {C : Addr} {x : Str} {f : Addr} {n k : Nat} {sp : Sp} (M : Mk K C f) (D : MdOk P w K mg base k C "__init__" n sp) (hm : mg x = some (.ref C)) : MkAt P w K mg base k x C n sp := by
  obtain ⟨g, fd, ps, hg, F, hb, hl⟩ := D.ex
  have e := M.init
  rw [hg.at_] at e
  cases e
  exact ⟨_, fd, ps, M, F, hm, hb, hl⟩
end
structure Pp (P : Program) (w : World) (K : PySem.W.Frag) (mg : Str -> Option Value) (base : Heap) {T : Tbl} (W : Wd T) (k : Nat) (m : String) (φ : Sem) : Prop where
  ex : ∀ c nm, W.has c -> T.res c m = some nm -> ∃ p g fd ps, PropOf K (W.cA c) (so m) p g /\ FnOk P w K mg base (L2.CX P w) k g fd ps (spR W 1 (φ nm) none) /\ Binds K fd ps []
def tPropD {T : Tbl} (W : Wd T) (φ : Sem) (m : String) (ta : TE) : TE := fun σ H Q => ta σ H fun x H1 => ∃ a c nm dx fs, x = .ref a /\ H1 a = some (.ins (W.cA c) dx fs) /\ W.has c /\ T.res c m = some nm /\ spR W 1 (φ nm) none [.ref a] H1 Q E0
theorem px_prop {X : Cx} {k : Nat} {m : String} {φ : Sem} {e : Expr} {ta : TE} {pos : Pos} (M : Pp X.prog X.w X.K X.mg X.base W k m φ) (hr : Room (k + 1) X.A) (hK : W.K = X.K) (he : PE X e ta) (hab : attributeBase e (so m) X.env (eval e X.env) = eval e X.env) :
    PE X (.Attribute e (so m) pos) (tPropD W φ m ta) := by
  refine ⟨fun pins s σ H Q I h => ?_⟩
  refine attr_of hab (thn (he.run pins s σ H _ I h) fun u s1 ⟨x, H1, I1, rx, a, c, nm, dx, fs, ex, ea, hc, hn, q⟩ => ?_)
  subst ex
  obtain rfl : u = Value.ref a := rx
  obtain ⟨p, g, fd, ps, hp, F, hb⟩ := M.ex c nm hc hn
  exact getprop_ok I1 ea (hK ▸ W.cl c hc) hp F hr hb .nil passE0 q
def prop1 (T : Tbl) (φ : Sem) (m : String) : D -> Rz
  | .ins c ns xs => match T.res c m with
    | some nm => φ nm [.ins c ns xs] none
    | none => .no
  | _ => .no
theorem prop1_ok {φ : Sem} {m : String} {d : D} (h : prop1 T φ m d ≠ .no) : ∃ c ns xs nm, d = .ins c ns xs /\ T.res c m = some nm /\ prop1 T φ m d = φ nm [d] none := by
  cases d <;> first | (exact absurd rfl h) | skip
  rename_i c ns xs
  cases e : T.res c m with
  | none => exact absurd (by show (match T.res c m with | some nm => φ nm [.ins c ns xs] none | none => Rz.no) = .no; rw [e]) h
  | some nm => exact ⟨c, ns, xs, nm, rfl, e, by show (match T.res c m with | some nm => φ nm [.ins c ns xs] none | none => Rz.no) = _; rw [e]⟩
def propE (T : Tbl) (φ : Sem) (m : String) (f v : Option D) : Option (Kd × D) := match f with
  | some d => (prop1 T φ m d).toF
  | none => match v with
    | some d => (prop1 T φ m d).toV
    | none => none
def xProp (φ : Sem) (m : String) (a : XP W) : XP W where
  t := tPropD W φ m a.t
  ev env := propE T φ m (a.evF env) (a.evV env)
  snd := fun {env k d} e => by
    unfold propE at e
    split at e
    · rename_i d0 e1
      obtain ⟨rfl, b, h⟩ := Rz.toF_ok e
      obtain ⟨c, ns, xs, nm, rfl, h1, h4⟩ := prop1_ok (T := T) (φ := φ) (m := m) (d := d0) (by rw [h]; exact fun z => nomatch z)
      rw [h4] at h
      refine fun e' F σ H L Q r q => a.sF e1 e' F σ H L _ r fun v F1 H1 x1 y1 => ?_
      obtain ⟨p, dx, vs, rfl, hp, hc⟩ := shr_ins y1
      exact ⟨p, c, nm, dx, _, rfl, x1.s _ _ hp, hc, h1, callF x1.s (.cons y1 .nil) rfl h fun v F3 H3 x3 y3 => q v F3 H3 (x1.trans x3) (rO_back x1.h y3)⟩
    · split at e
      · rename_i d0 e1
        obtain ⟨d2, b, h, hk⟩ := Rz.toV_ok e
        obtain ⟨c, ns, xs, nm, rfl, h1, h4⟩ := prop1_ok (T := T) (φ := φ) (m := m) (d := d0) (by rw [h]; exact fun z => nomatch z)
        rw [h4] at h
        refine fun e' F σ H L Q r q => a.sV e1 e' F σ H L _ r fun v F1 H1 x1 y1 => ?_
        obtain ⟨p, dx, vs, rfl, hp, hc⟩ := shr_ins y1
        refine ⟨p, c, nm, dx, _, rfl, hp, hc, h1, callV x1.s (.cons y1 .nil) rfl h fun v H3 x3 y3 => q v F1 H3 (x1.trans x3) ?_⟩
        rcases hk with ⟨hf, rfl, rfl⟩ | ⟨rfl, rfl⟩
        · rw [fz_isSh (isSh_flat hf)] at y3
          exact rO_sh (y3.flat hf)
        · exact y3
      · cases e
def rLenI {T : Tbl} (W : Wd T) (φ : Sem) : List V -> Hp -> VK -> Prop := fun xs H Q => ∃ a c nm dx fs, xs = [.ref a] /\ H a = some (.ins (W.cA c) dx fs) /\ W.has c /\ T.res c "__len__" = some nm /\ spR W 1 (φ nm) none [.ref a] H (fun v H' => ∃ i, v = .int i /\ 0 <= i /\ i < 2 ^ 63 /\ Q (.int i) H') E0
theorem len_own {prog : Program} {w : World} {A : Around} {E : Value -> Shared -> Prop} {s : Shared} {K : PySem.W.Frag} {x C f : Addr} {ox : Obj} {od : Option Obj} {Q : Value -> Shared -> Prop} (X : K.In s.heap) (I : PySem.W.InstAt s.heap x ox C od) (hs : PySem.W.findIn K (.ref C) "__len__" = some (some (.ref f))) (hf : PySem.W.isFn K (.ref f) = true)
    (h : wpAny (model prog w) A.in1 (call (.ref f) [.ref x]) (PySem.W.LenBack Q) E s) : wpAny (model prog w) A (call (.builtin "len") [.ref x]) Q E s := by
  refine Calls.call_function_entry PySem.kind_len PySem.plain_len PySem.entry_len (PySem.args_len1 _) ?_
  unfold Builtin.«len»
  refine wpAny_bind (m := oneArg "len" _) (wpAny_pure ?_)
  refine wpAny_bind (m := callSpecial? (.ref x) (Str.ofString "__len__")) (PySem.W.special_fn X I hs (beq_iff_eq.mp hf) (wpAny_mono h (fun r s' hr => ?_) fun _ _ y => y))
  cases r <;> first | exact hr.elim | skip
  rename_i n u
  obtain ⟨⟨h0, h1⟩, hq⟩ := hr
  refine wpAny_bind (wpAny_holding (wpAny_pure ?_))
  refine wpAny_bind (wpAny_letGo ?_)
  show wpAny _ _ (if n < 0 then _ else _) _ _ _
  rw [if_neg (by omega)]
  show wpAny _ _ (if n ≥ 2 ^ 63 then _ else _) _ _ _
  rw [if_neg (by omega)]
  exact wpAny_bind (wpAny_mkInt (wpAny_pure ⟨_, rfl, hq⟩))
theorem call_lenI {X : Cx} {k : Nat} {φ : Sem} (M : Mt X.prog X.w X.K X.mg X.base W k "__len__" 1 φ none) (hr : Room (k + 1) X.A) (hK : W.K = X.K) : CallR X (.builtin "len") (rLenI W φ) := by
  rintro pins s σ H xs us Q I rv ⟨a, c, nm, dx, fs, rfl, ea, hc, hn, h⟩
  cases rv with
  | @cons _ u _ _ ru rt =>
  cases rt
  obtain rfl : u = Value.ref a := ru
  obtain ⟨g, fd, ps, hm, F, hb⟩ := M.ex c nm hc hn
  obtain ⟨mA, O, _, _, _, _⟩ := ins_get I.hok ea
  obtain ⟨od, J, _⟩ := O.look
  have hl : ([Value.ref a] ++ []).length = ps.length := by rw [<- F.len _ _ _ _ h]; rfl
  refine len_own I.kIn J hm.at_ hm.fn (wpAny_call ?_)
  refine codeAny_mono (F.run X.A.in1 X.stack s H ⟨[.ref a], []⟩ [.ref a] [.ref a] _ E0 hr.in1 I.env0.in1 (hb s [.ref a] I.kIn hl) (.cons rfl .nil) h) fun r s' hq => ?_
  cases r with
  | error er => exact passE0 pins σ H s er s' I hq
  | ok fl =>
    cases fl with
    | ret u =>
      obtain ⟨v, H', I3, rv, i, rfl, h0, h1, q3⟩ := I.after hq
      obtain ⟨t, rfl⟩ := (show ∃ t, u = Value.int i t from rv)
      exact ⟨⟨h0, h1⟩, .int i, H', I3.tok _, ⟨_, rfl⟩, q3⟩
    | next => exact False.elim hq
    | brk => exact False.elim hq
    | cont => exact False.elim hq
def lenI1 (T : Tbl) (φ : Sem) : List D -> Option D
  | [.ins c ns xs] => match T.res c "__len__" with
    | some nm => match φ nm [.ins c ns xs] none with
      | .ok (.int i) _ => if 0 <= i /\ i <= 1000000 then some (.int i) else none
      | _ => none
    | none => none
  | ds => lenD ds
theorem lenI1_ok {φ : Sem} {ds : List D} {d : D} (h : lenI1 T φ ds = some d) : lenD ds = some d \/ ∃ c ns xs nm i b, ds = [.ins c ns xs] /\ T.res c "__len__" = some nm /\ φ nm ds none = .ok (.int i) b /\ 0 <= i /\ i <= 1000000 /\ d = .int i := by
  unfold lenI1 at h
  split at h
  · split at h
    · split at h
      · obtain ⟨⟨h0, h1⟩, e⟩ := ite_some h
        exact .inr ⟨_, _, _, _, _, _, rfl, by assumption, by assumption, h0, h1, e.symm⟩
      · cases h
    · cases h
  · exact .inl h
theorem lenI_cb {φ : Sem} {ds : List D} {d : D} (h : lenI1 T φ ds = some d) : Cb W (fun xs H Q => rLenA W.K xs H Q \/ rLenI W φ xs H Q) ds d := by
  rcases lenI1_ok h with h | ⟨c, ns, xs, nm, i, b, rfl, h1, h2, h3, h4, rfl⟩
  · exact fun F H vs Q s y q => .inl (len_cb h F H vs Q s y q)
  · refine fun F H vs Q s y q => .inr ?_
    cases y with
    | cons y t =>
      cases t
      obtain ⟨a, dx, vs, rfl, ha, hc⟩ := shr_ins y
      refine ⟨a, c, nm, dx, _, rfl, ha, hc, h1, callV s (.cons y .nil) rfl h2 fun v H2 x2 y2 => ?_⟩
      rw [fz_isSh rfl] at y2
      cases y2
      exact ⟨i, rfl, h3, by omega, q _ F H2 x2 (rO_sh .int)⟩
def xLenU (φ : Sem) (as : XA W) : XP W := xCb (fun xs H Q => rLenA W.K xs H Q \/ rLenI W φ xs H Q) (lenI1 T φ) lenI_cb as
end
end Py
namespace Py
open PySem L2
section
variable {M : Model} {A : Around} {E : Value -> Shared -> Prop} {s : Shared} {pos : Pos} {f : Value} {first : List Value} {Q : Value -> Shared -> Prop}
theorem callWith_caller {P : Heap -> Prop} {args : List (Bool × PySem.Sem Value)} {keywords : List (Option Str × PySem.Sem Value)} (hplain : (args.any (·.1) || keywords.any (·.1.isNone)) = false)
    (hk : ∀ h, P h -> PySem.W.Looks M h (keeperOf f) Keeper.caller)
    (h : wpAny M A (evalArgs f true args keywords) (fun a s₁ => P s₁.heap /\ wpAny M A (call f (first ++ a.pos) a.kw) Q E s₁) E s) : wpAny M A (callWith pos f first args keywords) Q E s := by
  unfold callWith
  refine wpAny_bind (wpAny_holding (wpAny_mono h (fun a s₁ h₁ => wpAny_bind (wpAny_standAt ?_)) fun _ _ x => x))
  have L := hk _ h₁.1
  simp only [hplain]
  refine wpAny_bind (L.here ?_)
  dsimp only
  exact wpAny_bind (wpAny_mono (PyProof.Rows.wpAny_operate' h₁.2) (fun r s₂ hr => wpAny_bind (wpAny_holding (wpAny_point (wpAny_pure hr)))) fun _ _ x => x)
theorem keeper_inst {h : Heap} {a C dx : Addr} (e : h.get? a = some (PySem.W.instObj C dx)) : PySem.W.Looks M h (keeperOf (.ref a)) Keeper.caller := by
  unfold keeperOf
  exact (PySem.W.Looks.ld (part := none) e).andThen .now
theorem plain_fn {K : PySem.W.Frag} {h : Heap} {g : Addr} (X : K.In h) (e : PySem.W.fnIn K g = true) : PySem.W.Looks M h (callAny.plainCallee (.ref g)) true := by
  unfold PySem.W.fnIn at e
  split at e
  · rename_i hlk
    exact (PySem.W.Looks.ld (part := none) (X _ _ hlk)).andThen .now
  · cases e
theorem code_inst {prog : Program} {w : World} {K : PySem.W.Frag} {a C dx g : Addr} {us : List Value} {R : Result -> Shared -> Prop} (X : K.In s.heap) (e : s.heap.get? a = some (PySem.W.instObj C dx)) (k : Meth K C "__call__" g) (hf : PySem.W.fnIn K g = true)
    (h : codeAny (model prog w) A (.call (.ref g) ⟨.ref a :: us, []⟩) R s) : codeAny (model prog w) A (.call (.ref a) ⟨us, []⟩) R s := by
  refine codeAny_of_tree ?_
  show wpAny _ _ (callAny (.ref a) _) _ _ _
  refine PySem.W.nd_load e ?_
  show wpAny _ _ (callAny.viaDunder (.ref a) _) _ _ _
  unfold callAny.viaDunder
  have ty : PySem.W.Looks (model prog w) s.heap (typeOf (.ref a)) (.ref C) := (PySem.W.Looks.ld e).andThen .now
  have cl : PySem.W.Looks (model prog w) s.heap (specialOf (.ref a) "__call__") (some (.ref g)) := ty.andThen (PySem.W.looks_findIn X k.at_)
  refine wpAny_bind (cl.here ?_)
  dsimp only
  refine wpAny_bind ((PySem.W.bind_fn X (.ref a) (beq_iff_eq.mp k.fn)).here ?_)
  dsimp only
  refine wpAny_bind ((plain_fn X hf).here ?_)
  rw [if_pos rfl]
  exact wpAny_pure (a := Fin.again (.call (.ref g) ⟨.ref a :: us, []⟩)) (And.intro rfl h)
end
section
variable {T : Tbl} {W : Wd T}
def CallFn {T : Tbl} (W : Wd T) (K : PySem.W.Frag) : Prop := ∀ c nm g, W.has c -> T.res c "__call__" = some nm -> Meth K (W.cA c) (so "__call__") g -> PySem.W.fnIn K g = true
theorem callFn_of {T : Tbl} {W : Wd T} {K : PySem.W.Frag} (h : ∀ c nm, W.has c -> T.res c "__call__" = some nm -> ∃ x qual st dvs kws, MethAt K (W.cA c) "__call__" x qual st dvs kws) : CallFn W K := fun c nm g hc hn hm => by
  obtain ⟨x, qual, st, dvs, kws, D⟩ := h c nm hc hn
  obtain ⟨g2, fd, F, hm2⟩ := D.ex
  have e := hm2.at_
  rw [hm.at_] at e
  cases e
  obtain ⟨oc, od, dV, kV, doc, pm, an, cdv, ct, osl, rfl, lk, _⟩ := F.ex
  unfold PySem.W.fnIn
  rw [lk]
def tCallO {T : Tbl} (W : Wd T) (φ : Sem) (n : Nat) (b : Option Nat) (E : XK) (ta : TE) (t : TA) : TE := fun σ H Q => ta σ H fun x H1 => ∃ a, x = .ref a /\ t σ H1 fun vs H2 => ∃ c nm dx fs, H2 a = some (.ins (W.cA c) dx fs) /\ W.has c /\ T.res c "__call__" = some nm /\
  spR W n (φ nm) b (x :: vs) H2 Q E
theorem px_callOS {X : Cx} {E : St -> XK} {k n : Nat} {φ : Sem} {b : Option Nat} {x : Str} {p : Pos} {e : Expr} {es : List Expr} {ta : TE} {t : TA} {pos : Pos} (M : Mt X.prog X.w X.K X.mg X.base W k "__call__" n φ b) (hF : CallFn W X.K) (hx : ∀ σ, PassesAt (L2.CX X.prog X.w) X σ (E σ)) (hr : Room k X.A) (hK : W.K = X.K) (he : PE X (.Name x p) ta) (ha : PA X (e :: es) t)
    (hst : starEach (e :: es) X.env = (false, eval e X.env) :: starEach es X.env := by rfl) (hpl : (backTo pos (starEach es X.env)).any (·.1) = false := by rfl) :
    PE X (.Call (.Name x p) (e :: es) [] pos) (fun σ H Q => tCallO W φ n b (E σ) ta t σ H Q) := by
  refine ⟨fun pins s σ H Q I h => ?_⟩
  refine wpAny_Call_Name_kw (thn (he.run pins s σ H _ I h) fun u s1 ⟨x, H1, I1, rx, a, ex, q⟩ => ?_)
  subst ex
  obtain rfl : u = Value.ref a := rx
  refine callWith_caller (P := fun h => ∃ C dx, h.get? a = some (PySem.W.instObj C dx)) (by rw [hst]; show ((false || (backTo pos (starEach es X.env)).any (·.1)) || false) = false; rw [hpl]; rfl) (fun h ⟨C, dx, e⟩ => keeper_inst e) ?_
  rw [hst]
  refine Calls.evalArgs_plain ?_
  have z := ha.run pos pins s1 σ H1 _ I1 q
  rw [hst] at z
  refine thn z fun us s2 ⟨vs, H2, I2, r, c, nm, dx, fs, ea, hc, hn, q2⟩ => ?_
  obtain ⟨g, fd, ps, hm, F, hb⟩ := M.ex c nm hc hn
  obtain ⟨mA, O, _, _, _, _⟩ := ins_get I2.hok ea
  refine ⟨⟨_, _, O.obj⟩, ?_⟩
  refine wpAny_call (code_inst I2.kIn O.obj hm (hF c nm g hc hn hm) ?_)
  have hl : (Value.ref a :: us ++ []).length = ps.length := by
    rw [<- F.len _ _ _ _ q2, List.append_nil, List.length_cons, List.length_cons, r.length]
  refine codeAny_mono (F.run X.A X.stack s2 H2 ⟨.ref a :: us, []⟩ (.ref a :: us ++ []) (.ref a :: vs) Q (E σ) hr I2.env0 (hb s2 (.ref a :: us) I2.kIn hl) (by rw [List.append_nil]; exact .cons rfl r) q2) fun r s' hq => ?_
  cases r with
  | error er => exact hx σ pins H2 s2 er s' I2 hq
  | ok fl =>
    cases fl with
    | ret u => exact I2.after hq
    | next => exact False.elim hq
    | brk => exact False.elim hq
    | cont => exact False.elim hq
theorem px_callO {X : Cx} {k n : Nat} {φ : Sem} {b : Option Nat} {x : Str} {p : Pos} {e : Expr} {es : List Expr} {ta : TE} {t : TA} {pos : Pos} (M : Mt X.prog X.w X.K X.mg X.base W k "__call__" n φ b) (hF : CallFn W X.K) (hr : Room k X.A) (hK : W.K = X.K) (he : PE X (.Name x p) ta) (ha : PA X (e :: es) t)
    (hst : starEach (e :: es) X.env = (false, eval e X.env) :: starEach es X.env := by rfl) (hpl : (backTo pos (starEach es X.env)).any (·.1) = false := by rfl) :
    PE X (.Call (.Name x p) (e :: es) [] pos) (tCallO W φ n b E0 ta t) := px_callOS (E := fun _ => E0) M hF passAt0 hr hK he ha hst hpl
def callO1 (T : Tbl) (φ : Sem) (n : Nat) : List D -> Rz
  | .ins c ns xs :: ds => match T.res c "__call__" with
    | some nm => if ds.length + 1 = n then φ nm (.ins c ns xs :: ds) none else .no
    | none => .no
  | _ => .no
theorem callO1_ok {φ : Sem} {n : Nat} {d : D} {ds : List D} (h : callO1 T φ n (d :: ds) ≠ .no) : ∃ c ns xs nm, d = .ins c ns xs /\ T.res c "__call__" = some nm /\ (d :: ds).length = n /\ callO1 T φ n (d :: ds) = φ nm (d :: ds) none := by
  cases d <;> first | (exact absurd rfl h) | skip
  rename_i c ns xs
  cases e : T.res c "__call__" with
  | none => exact absurd (by show (match T.res c "__call__" with | some nm => if ds.length + 1 = n then φ nm (.ins c ns xs :: ds) none else Rz.no | none => .no) = .no; rw [e]) h
  | some nm =>
    have e2 : callO1 T φ n (.ins c ns xs :: ds) = if ds.length + 1 = n then φ nm (.ins c ns xs :: ds) none else Rz.no := by
      show (match T.res c "__call__" with | some nm => if ds.length + 1 = n then φ nm (.ins c ns xs :: ds) none else Rz.no | none => .no) = _
      rw [e]
    by_cases hh : ds.length + 1 = n
    · rw [if_pos hh] at e2
      exact ⟨c, ns, xs, nm, rfl, e, hh, e2⟩
    · rw [if_neg hh] at e2
      exact absurd e2 h
def callOE (T : Tbl) (φ : Sem) (n : Nat) (f : Option D) (fs : Option (List D)) (v : Option D) (vs : Option (List D)) : Option (Kd × D) := match f, fs with
  | some d, some ds => (callO1 T φ n (d :: ds)).toF
  | _, _ => match v, vs with
    | some d, some ds => (callO1 T φ n (d :: ds)).toV
    | _, _ => none
def xCallO (φ : Sem) (n : Nat) (a : XP W) (as : XA W) : XP W where
  t := tCallO W φ n none E0 a.t as.t
  ev env := callOE T φ n (a.evF env) (as.evF env) (a.evV env) (as.evV env)
  snd := fun {env k d} e => by
    have viewed : ∀ {d0 ds}, a.evV env = some d0 -> as.evV env = some ds -> (callO1 T φ n (d0 :: ds)).toV = some (k, d) -> AE W (tCallO W φ n none E0 a.t as.t) env (rK W k d) := by
      intro d0 ds e1 e2 e
      obtain ⟨d2, b, h, hk⟩ := Rz.toV_ok e
      obtain ⟨c, ns, xs, nm, rfl, h1, h3, h4⟩ := callO1_ok (T := T) (φ := φ) (n := n) (d := d0) (ds := ds) (by rw [h]; exact fun z => nomatch z)
      rw [h4] at h
      refine fun e' F σ H L Q r q => a.sV e1 e' F σ H L _ r fun v F1 H1 x1 y1 => ?_
      obtain ⟨p, dx, vs, rfl, hp, hc⟩ := shr_ins y1
      refine ⟨p, rfl, as.sV e2 e' F1 σ H1 L _ (r.ext x1) fun ws F2 H2 x2 y2 => ?_⟩
      obtain ⟨p', dx', vs', hv, hp', hc'⟩ := shr_ins (y1.mono x2.h)
      cases hv
      refine ⟨c, nm, dx', _, hp', hc, h1, ?_⟩
      refine callV (x2.s) (.cons (y1.mono x2.h) y2) h3 h fun v H3 x3 y3 => q v F2 H3 ((x1.trans x2).trans x3) ?_
      rcases hk with ⟨hf, rfl, rfl⟩ | ⟨rfl, rfl⟩
      · rw [fz_isSh (isSh_flat hf)] at y3
        exact rO_sh (y3.flat hf)
      · exact y3
    unfold callOE at e
    split at e
    · rename_i d0 ds e1 e2
      obtain ⟨rfl, b, h⟩ := Rz.toF_ok e
      obtain ⟨c, ns, xs, nm, rfl, h1, h3, h4⟩ := callO1_ok (T := T) (φ := φ) (n := n) (d := d0) (ds := ds) (by rw [h]; exact fun z => nomatch z)
      rw [h4] at h
      refine fun e' F σ H L Q r q => a.sF e1 e' F σ H L _ r fun v F1 H1 x1 y1 => ?_
      obtain ⟨p, dx, vs, rfl, hp, hc⟩ := shr_ins y1
      refine ⟨p, rfl, as.sF e2 e' F1 σ H1 L _ (r.ext x1) fun ws F2 H2 x2 y2 => ?_⟩
      obtain ⟨p', dx', vs', hv, hp', hc'⟩ := shr_ins (y1.mono x2.f)
      cases hv
      refine ⟨c, nm, dx', _, x2.s _ _ hp', hc, h1, ?_⟩
      exact callF x2.s (.cons (y1.mono x2.f) y2) h3 h fun v F3 H3 x3 y3 => q v F3 H3 ((x1.trans x2).trans x3) (rO_back (x1.trans x2).h y3)
    · split at e
      · exact viewed (by assumption) (by assumption) e
      · cases e
end
end Py
namespace L2
open PySem PySem.Spec PyProof.Rows
end L2
namespace Py
open PySem L2
section
variable {T : Tbl} {W : Wd T}
def cutL {α : Type} (xs : List α) (lo hi : Option Int) : List α := (xs.drop (HT.sIx xs.length 0 lo)).take (HT.sIx xs.length xs.length hi - HT.sIx xs.length 0 lo)
theorem Shrs.cut {F : Hp} {ds : List D} {vs : List V} (h : Shrs W F ds vs) (lo hi : Option Int) : Shrs W F (cutL ds lo hi) (cutV vs lo hi) := by
  unfold cutL cutV
  rw [h.length]
  exact (Shrs.take _ (Shrs.drop _ h))
def intO : D -> Option (Option Int)
  | .int i => some (some i)
  | _ => none
def tO {T : Tbl} {W : Wd T} : Option (XP W) -> TO
  | none => tNoPart
  | some p => tPart p.t
def evI {T : Tbl} {W : Wd T} (o : Option (XP W)) (env : Py.Env) : Option (Option Int) := match o with
  | none => some none
  | some p => (p.evV env).bind intO
theorem evI_ok {o : Option (XP W)} {env : Py.Env} {i : Option Int} (h : evI o env = some i) : ∀ (e : Ent) (F : Hp) (σ : St) (H : Hp) (L : List Addr) (Q : Option Int -> Hp -> Prop), Rel W e env F σ H L -> (∀ F' H', Ext F H F' H' -> Q i H') -> tO o σ H Q := by
  intro e F σ H L Q r q
  cases o with
  | none => cases h; exact q F H (.refl r.sF)
  | some p =>
    obtain ⟨d, e1, e2⟩ := Option.bind_eq_some_iff.mp h
    refine p.sV e1 e F σ H L _ r fun v F1 H1 x1 y1 => ?_
    cases d <;> first | (cases e2; done) | skip
    cases e2
    cases y1
    exact ⟨_, rfl, q F1 H1 x1⟩
def slE (d : Option D) (lo hi : Option (Option Int)) : Option (Kd × D) := d.bind fun d => (seqOf d).bind fun p => if p.1 = false then lo.bind fun l => hi.map fun u => (.fr, .olst (cutL p.2 l u)) else none
def xSl (a : XP W) (lo hi : Option (XP W)) : XP W where
  t := tSl (rSlL W.K) a.t (tO lo) (tO hi)
  ev env := slE (a.evK env) (evI lo env) (evI hi env)
  snd := fun {env k d} e => by
    obtain ⟨d1, e1, e⟩ := Option.bind_eq_some_iff.mp e
    obtain ⟨⟨b, xs⟩, e3, e⟩ := Option.bind_eq_some_iff.mp e
    split at e
    · rename_i hb
      have hb : b = false := hb
      subst hb
      obtain ⟨l, e4, e⟩ := Option.bind_eq_some_iff.mp e
      obtain ⟨u, e5, e⟩ := Option.map_eq_some_iff.mp e
      cases e
      intro e' F σ H L Q r q
      refine a.sK e1 e' F σ H L _ r fun v F1 H1 x1 ⟨L1, o⟩ => ?_
      obtain ⟨a, vs, rfl, sh, sq⟩ := seqOf_ok x1.s o e3
      refine evI_ok e4 e' F1 σ H1 L _ (r.ext x1) fun F2 H2 x2 => evI_ok e5 e' F2 σ H2 L _ ((r.ext x1).ext x2) fun F3 H3 x3 => ?_
      refine ⟨a, vs, rfl, (x2.trans x3).h.seq sq, fun p hp => q _ F3 _ (((x1.trans x2).trans x3).trans (.newH x3.s hp)) ⟨[p], .olst upd_same ((sh.mono (x2.trans x3).f).cut l u).owns, by simp, fun x m => by
        rw [List.mem_singleton.mp m]; exact ⟨((x1.trans x2).trans x3).h.free hp, x3.s.free hp⟩⟩⟩
    · cases e
end
section
variable {T : Tbl} {W : Wd T} {env : Py.Env} {β : Type} {enc : β -> D} {dat : β -> PyData}
end
end Py
namespace Py
open PySem L2
section
variable {T : Tbl} {W : Wd T} {env env' : Py.Env} {P : List Nat} {E : WX}
theorem Rel.comp {e : Ent} {F F' H H' : Hp} {σ σ' : St} {L L' : List Addr} (r1 : Rel W e env F σ H L) (r2 : Rel W ⟨F, H, L, e.pins⟩ env' F' σ' H' L') : Rel W e env' F' σ' H' L' := by
  have up : ∀ a, (a ∈ L \/ H a = none) -> a ∈ e.L0 \/ e.H0 a = none := fun a h => h.elim (r1.ln a) r1.h0
  refine ⟨r2.sF, r2.slots, r2.nd, r2.dj, r1.s0.trans r2.s0, fun a o h => ?_, fun a o h1 h2 => r2.fr a o (fun z => ?_) (r1.fr a o h1 h2), fun a h => up a (r2.ln a h), r2.pin⟩
  · rcases r2.nw a o h with z | z | z
    · exact r1.nw a o z
    · rcases up a (.inr z) with y | y
      · exact .inr (.inr y)
      · exact .inr (.inl y)
    · rcases up a (.inl z) with y | y
      · exact .inr (.inr y)
      · exact .inr (.inl y)
  · rcases r1.ln a z with y | y
    · exact h1 y
    · rw [h2] at y; cases y
theorem Rel.base {e : Ent} {F H : Hp} {σ : St} {L : List Addr} (r : Rel W e env F σ H L) : Rel W ⟨F, H, L, e.pins⟩ env F σ H L :=
  ⟨r.sF, r.slots, r.nd, r.dj, Same.refl _, fun a o h => .inl h, fun a o _ h => h, fun a h => .inl h, r.pin⟩
inductive RL where
  | ok (ds : List D) (env : Py.Env) | exn (x : Exn) (env : Py.Env) | no
def ALr {T : Tbl} (W : Wd T) (P : List Nat) (E : WX) (t : TA) (env : Py.Env) (r : RL) : Prop := r ≠ .no ->
  ∀ (e : Ent) (F : Hp) (σ : St) (H : Hp) (L : List Addr) (Q : List V -> Hp -> Prop), P = e.pins.map (·.1) -> Rel W e env F σ H L ->
    (∀ ds env' vs F' H' L', r = .ok ds env' -> Rel W e env' F' σ H' L' -> Shrs W F' ds vs -> Q vs H') ->
    (∀ x env' F' H' L' C dd, r = .exn x env' -> Rel W e env' F' σ H' L' -> IsExn W F' x C dd -> E C dd σ H') -> t σ H Q
structure XMs {T : Tbl} (W : Wd T) where
  t : WX -> TA
  ev : List Nat -> Py.Env -> RL
  snd : ∀ P E env, ALr W P E (t E) env (ev P env)
inductive RT where
  | ok (b : Bool) (env : Py.Env) | exn (x : Exn) (env : Py.Env) | no
def ATr {T : Tbl} (W : Wd T) (P : List Nat) (E : WX) (t : TT) (env : Py.Env) (r : RT) : Prop := r ≠ .no ->
  ∀ (e : Ent) (F : Hp) (σ : St) (H : Hp) (L : List Addr) (Q : Bool -> Hp -> Prop), P = e.pins.map (·.1) -> Rel W e env F σ H L ->
    (∀ b env' F' H' L', r = .ok b env' -> Rel W e env' F' σ H' L' -> Q b H') ->
    (∀ x env' F' H' L' C dd, r = .exn x env' -> Rel W e env' F' σ H' L' -> IsExn W F' x C dd -> E C dd σ H') -> t σ H Q
structure XTM {T : Tbl} (W : Wd T) where
  t : WX -> TT
  ev : List Nat -> Py.Env -> RT
  snd : ∀ P E env, ATr W P E (t E) env (ev P env)
def RT.of (o : Option Bool) (e : Py.Env) : RT := match o with
  | some b => .ok b e
  | none => .no
def RT.then (r : RT) (f : Bool -> Py.Env -> RT) : RT := match r with
  | .ok d e => f d e
  | .exn x e => .exn x e
  | .no => .no
def RT.thenS (r : RT) (f : Bool -> Py.Env -> RS) : RS := match r with
  | .ok d e => f d e
  | .exn x e => .ex x e
  | .no => .no
theorem Sat.base {e : Ent} {F H : Hp} {σ : St} {L : List Addr} {A : AEnds} {Dn : Ends} (r : Rel W e env F σ H L) (s : Sat W e E A Dn) : Sat W ⟨F, H, L, e.pins⟩ E A Dn := by
  refine ⟨fun env' F' σ' H' L' a r' => s.nx _ _ _ _ _ a (r.comp r'), fun d env' F' σ' H' L' v M a r' o nd k => s.rt _ _ _ _ _ _ _ _ a (r.comp r') o nd fun b hb => ⟨(k b hb).1, ?_⟩, fun env' F' σ' H' L' a r' => s.bk _ _ _ _ _ a (r.comp r'), fun env' F' σ' H' L' a r' => s.ct _ _ _ _ _ a (r.comp r'), fun x env' F' σ' H' L' C dd a r' ie => s.ex _ _ _ _ _ _ _ _ a (r.comp r') ie⟩
  rcases (k b hb).2 with z | z
  · exact r.ln b z
  · exact r.h0 z
end
end Py
namespace Py
open PySem L2
section
variable {CX : CXT} {P : Program} {w : World} {K : PySem.W.Frag} {mg : Str -> Option Value} {base : Heap}
theorem fn_at {j : Nat} {g : Addr} {gd : FuncData} {nm qual : Str} {st : Stmt} {N ps : List Str} (G : FunD K nm qual (defArgs st) (defBody st) (defScope st) [] [] g gd) (S : FnScope N ps (defScope st))
    {A : Around} {out : List PySem.Env} {s0 : Shared} {H0 : Hp} {ar : Args} {ws : List Value} {xs : List V} {Q : VK} {E : XK} (room : Room (j + 1) A) (at0 : Env0 P w K mg base A out s0 H0) (bd : BindsTo s0 gd ar (ps.zip ws)) (rel : Vals xs ws) (len : xs.length = ps.length)
    (bdy : ∀ cdv : Value, ∃ t, PSs (cxOf CX P w K mg base N qual (defScope st) g cdv A out s0 H0 E) (defBody st) t /\ t { nx := fun _ h => Q .non h, rt := Q } (L2.start N xs) H0) :
    codeAny (model P w) A (.call (.ref g) ar) (CR CX out P w H0 s0 Q E) s0 := by
  obtain ⟨_, _, _, _, _, _, _, cdv, _, _, rfl, look, cod, _, _⟩ := G.ex
  have inK : K.In s0.heap := at0.mod.kin.keeps fun b o q => (at0.bs b o q).1
  have nl : s0.heap.NoLimit := at0.mod.nolimit.keeps fun b o q => (at0.bs b o q).1
  have kinds : ∀ z ∈ ps.zip ws, (defScope st).names.lookup z.1 = some .local \/ ((defScope st).names.lookup z.1 = some .cell /\ ((cellsFrom (s0.heap.objs.size + 1) (defScope st).names []).lookup z.1).isSome = true) := by
    rintro ⟨n, v⟩ hz
    refine (S.par n (List.of_mem_zip hz).1).imp id fun q => ⟨q, ?_⟩
    exact PySem.W.cellsFrom_some _ _ _ (.inl q)
  refine codeAny_call_function room.depth (inK _ _ look) rfl S.co S.gen rfl (PySem.W.codeRec_of inK cod) (bd _ _ _ _ ?_)
  refine wpAny_newFunctionEnv_cells S.kind kinds fun env1 e1 s1 ic => ?_
  subst e1
  refine ⟨nl.keeps ic.toInCall.keep, codeAny_func ?_⟩
  obtain ⟨t, hp, hq⟩ := bdy cdv
  have I := inv_start (CX := CX) (E := E) S room.hd at0 len rel ic
  refine wpAny_mono (hp.run [] s1 (L2.start N xs) H0 _ I hq) (fun fl s2 q => ?_) fun e s2 q => q
  have fin : ∀ {σ2 : St} {H2 : Hp} {v : V} {u : Value}, Inv (cxOf CX P w K mg base N qual (defScope st) g cdv A out s0 H0 E) [] σ2 H2 s2 -> RelV v u -> Q v H2 -> CE out P w H0 s0 Q u s2 := fun J rv q => ⟨_, _, J.os, J.bare, J.base, J.hok, rv, q⟩
  cases fl with
  | ret u => obtain ⟨v, _, _, J, rv, q⟩ := q; exact fin J rv q
  | next => obtain ⟨_, _, J, q⟩ := q; exact fin (v := .non) (u := .none) J rfl q
  | brk => obtain ⟨_, _, _, q⟩ := q; exact False.elim q
  | cont => obtain ⟨_, _, _, q⟩ := q; exact False.elim q
structure ItAt (P : Program) (w : World) (K : PySem.W.Frag) (mg : Str -> Option Value) (base : Heap) (C : Addr) (f : String) : Prop where
  ex : ∃ g, Meth K C "__iter__" g /\ ∀ (A : Around) (out : List PySem.Env) (s : Shared) (H : Hp) (a dx l : Addr) (fs : List (Str × V)) (zs : List V), Room 1 A -> Env0 P w K mg base A out s H -> H a = some (.ins C dx fs) -> fs.lookup (so f) = some (.ref l) -> SqL K H l zs ->
    codeAny (model P w) A (.call (.ref g) ⟨[.ref a], []⟩) (CR CX0 out P w H s (fun v H' => ∃ it, v = .ref it /\ H it = none /\ s.heap.objs.size <= it /\ H' = upd H it (ItO l it 0)) E0) s
theorem it_of {C : Addr} {f : String} {nm qual : Str} {st : Stmt} {N ps : List Str} (D : ∃ g fd, FunD K nm qual (defArgs st) (defBody st) (defScope st) [] [] g fd /\ Meth K C "__iter__" g) (S : FnScope N ps (defScope st)) (bp : BindsP nm qual st ps) (one : ps.length = 1) (hN : 0 < N.length) (hc : Cls K C) (hn : NoAttr K C (so f))
    (bdy : ∀ (g : Addr) (cdv : Value) (A : Around) (out : List PySem.Env) (s : Shared) (H : Hp), PSs (cxOf CX0 P w K mg base N qual (defScope st) g cdv A out s H E0) (defBody st) (tRet (tCB (ItX.rIterN K s.heap.objs.size) (tCons (tFld K (tVar 0) (so f)) tNil)))) : ItAt P w K mg base C f := by
  obtain ⟨g, fd, F, M⟩ := D
  refine ⟨g, M, fun A out s H a dx l fs zs room e0 ha hl hz => ?_⟩
  have b := F.bindsN bp s [.ref a] (e0.mod.kin.keeps fun b o q => (e0.bs b o q).1) (by simp [one])
  refine fn_at (j := 0) (xs := [V.ref a]) (ws := [Value.ref a]) F S room e0 (by simpa using b) (.cons (show RelV (V.ref a) (Value.ref a) from rfl) .nil) (by simp [one]) fun cdv => ⟨_, bdy g cdv A out s H, ?_⟩
  have h0 : (L2.start N [V.ref a])[0]? = some (some (.ref a)) := rfl
  exact ⟨_, h0, a, C, dx, fs, _, rfl, ha, hc, hn, hl, l, zs, rfl, hz, fun it h1 h2 => ⟨it, rfl, h1, h2, rfl⟩⟩
end
section
variable {X : Cx} {pins : List (Addr × Obj)} {σ : St} {H : Hp} {s : Shared}
theorem own_iter {A : Around} {a dx l C : Addr} {f : String} {fs : List (Str × V)} {zs : List V} {Q : Value -> Shared -> Prop} (M : ItAt X.prog X.w X.K X.mg X.base C f) (sb : Sub X 1 A) (I : Inv X pins σ H s) (ha : H a = some (.ins C dx fs)) (hl : fs.lookup (so f) = some (.ref l)) (hz : SqL X.K H l zs)
    (q : ∀ s' it, Inv X pins σ H s' -> s.heap.objs.size <= it -> s'.heap.get? it = some (GNX.itObj l 0) -> FpOk X pins H it -> Q (.ref it) s') : wpAny (model X.prog X.w) A (pyIter (.ref a)) Q X.xe s := by
  obtain ⟨g, mg, run⟩ := M.ex
  obtain ⟨mA, J, _⟩ := ins_get I.hok ha
  obtain ⟨od, J, _⟩ := J.look
  obtain ⟨m, hF⟩ := I.fr
  refine PySem.W.owit_iter hF I.ok.mod.kin J mg.at_ mg.fn ?_
  have e := I.env0
  have e0 : Env0 X.prog X.w X.K X.mg X.base A X.stack s H := ⟨by rw [sb.fr]; exact e.frames, e.mod, e.bs, e.bsz, e.funs, e.frf, e.hok, e.bare⟩
  refine wpAny_call (codeAny_mono (run A X.stack s H a dx l fs zs sb.room e0 ha hl hz) fun r s' hq => ?_)
  cases r with
  | error er => exact (fun _ _ _ _ _ _ _ h => h.elim : Passes CX0 X E0) pins σ H s er s' I hq
  | ok fl =>
    cases fl with
    | next => exact False.elim hq
    | brk => exact False.elim hq
    | cont => exact False.elim hq
    | ret u =>
      obtain ⟨v, H', I', rv, it, rfl, hn, hs, rfl⟩ := I.after hq
      obtain rfl : u = Value.ref it := rv
      have hg := itO_get I' upd_same
      have I2 := ItX.inv_drop I' (φ := _) upd_same
      rw [ItX.dropH_upd hn] at I2
      have hT : s'.TypeIs (.ref it) "list_iterator" := ⟨_, hg, rfl⟩
      unfold PySem.W.OwitIt
      refine wpAny_specialOf (name := Str.ofString "__next__") hT slot_listiter_next.lookup ?_
      refine q s' it I2 hs hg ?_
      have fp := ItX.inv_fp I' upd_same (Nat.le_trans I.sz hs)
      rw [ItX.dropH_upd hn] at fp
      exact fp
end
section
variable {prog : Program} {w : World}
theorem new_en (x : Value) : MeetsIn prog w (Builtin.«enumerate.__new__» ⟨[.type "enumerate", x], []⟩) (fun A R s => wpAny (model prog w) A.in1 (pyIter x)
    (fun itv s1 => R (.ok (.ret (.ref s1.heap.objs.size))) { s1 with heap := s1.heap.push { cls := .type "enumerate", data := .fields #[.none, .bool false, itv, rawInt 0, .none, .none] } }) (fun e s1 => R (.error e) s1) s) :=
  .of_wp fun A R s h => by
    have hsub := sub_enumerate
    have hi : ∀ {Q : Value -> Shared -> Prop} {E : Value -> Shared -> Prop}, (∀ itv s1, R (.ok (.ret (.ref s1.heap.objs.size))) { s1 with heap := s1.heap.push { cls := .type "enumerate", data := .fields #[.none, .bool false, itv, rawInt 0, .none, .none] } } -> Q itv s1) ->
        (∀ e s1, R (.error e) s1 -> E e s1) -> wpAny (model prog w) A.in1 (pyIter x) Q E s := fun q e => wpAny_mono h q e
    wp_walk using hi
    refine wpAny_stack_any fun st => wpAny_pure ?_
    split
    · rename_i c _ _ _ _ _
      cases (c == Value.type "enumerate")
      · wp_walk using hi
        all_goals first
          | exact fun _ _ q => q
          | (intro itv s1 hR; wp_walk; exact ⟨_, rfl, hR⟩)
      · wp_walk using hi
        all_goals first
          | exact fun _ _ q => q
          | (intro itv s1 hR; wp_walk; exact ⟨_, rfl, hR⟩)
    · wp_walk using hi
      all_goals first
        | exact fun _ _ q => q
        | (intro itv s1 hR; wp_walk; exact ⟨_, rfl, hR⟩)
theorem call_en {A : Around} {E : Value -> Shared -> Prop} {s : Shared} {x : Value} {Q : Value -> Shared -> Prop}
    (hr : wpAny (model prog w) A.in1.in1 (pyIter x) (fun itv s1 => ∃ it, itv = .ref it /\ ∀ h', IsEnum h' s1.heap.objs.size it 0 .none -> h'.objs.size = s1.heap.objs.size + 1 -> (∀ c o, s1.heap.get? c = some o -> h'.get? c = some o) -> Q (.ref s1.heap.objs.size) { s1 with heap := h' }) E s) :
    wpAny (model prog w) A (call (.type "enumerate") [x]) Q E s := by
  refine callType_newIn F.called_enumerate (by decide) (F.typeCall_enumerate_1 _) (F.newCall_enumerate_1 _) (fun obj => F.args_object_init_2 obj _) F.entry_enumerate_new (new_en x) ?_
  show wpAny (model prog w) A.in1.in1 (pyIter x) _ _ _
  refine wpAny_mono hr (fun itv s1 h => ?_) fun _ _ z => z
  obtain ⟨it, rfl, h⟩ := h
  have z : (s1.heap.push { cls := .type "enumerate", data := .fields #[.none, .bool false, .ref it, rawInt 0, .none, .none] }).objs.size = s1.heap.objs.size + 1 := Heap.size_push ..
  have g : IsEnum (s1.heap.push { cls := .type "enumerate", data := .fields #[.none, .bool false, .ref it, rawInt 0, .none, .none] }) s1.heap.objs.size it 0 .none := Heap.get?_push_size _ rfl
  show _ /\ _
  exact ⟨⟨_, g, rfl⟩, h _ g z fun c o e => Heap.get?_push_of_some _ e⟩
end
section
variable {T : Tbl} {W : Wd T}
structure Its (P : Program) (w : World) (K : PySem.W.Frag) (mg : Str -> Option Value) (base : Heap) {T : Tbl} (W : Wd T) : Prop where
  at_ : ∀ c f, W.has c -> T.it c = some f -> ItAt P w K mg base (W.cA c) f
def InsL {T : Tbl} (W : Wd T) (H : Hp) (a l : Addr) (zs : List V) : Prop := ∃ c f dx fs, W.has c /\ T.it c = some f /\ H a = some (.ins (W.cA c) dx fs) /\ fs.lookup (so f) = some (.ref l) /\ SqL W.K H l zs
def iOwn {T : Tbl} (W : Wd T) (tl : TE) : TI := fun σ H R => tl σ H fun x H1 => ∃ a l zs, x = .ref a /\ InsL W H1 a l zs /\ R (Itl W.K l) H1
theorem pi_own {X : Cx} {tg l : Expr} {tl : TE} (M : Its X.prog X.w X.K X.mg X.base W) (hr : Room 1 X.A) (hK : W.K = X.K) (hl : PE X l tl) : PI X tg l (iOwn W tl) := by
  refine ⟨fun pins s σ H R I h => ?_⟩
  refine thn (hl.run pins s σ H _ I h) fun v s1 ⟨x, H1, I1, r1, a, l, zs, e, ⟨c, f, dx, fs, hc, hf, ha, hlk, hz⟩, q⟩ => ?_
  subst e
  cases r1
  refine own_iter (M.at_ c f hc hf) ⟨hr, rfl⟩ I1 ha hlk (hK ▸ hz) fun s2 it I2 hs hg fp => ?_
  refine ⟨it, [it], _, _, H1, rfl, I2, turn_list l it, ⟨_, hg, rfl, rfl⟩, fun b hb => ?_, hK ▸ q⟩
  obtain rfl : b = it := by simpa using hb
  exact fp
def iEnumOwn {T : Tbl} (W : Wd T) (ta : TA) : TI := fun σ H R => ta σ H fun vs H1 => ∃ a l zs, vs = [.ref a] /\ InsL W H1 a l zs /\ R (Ite W.K l) H1
theorem pi_enumOwn {X : Cx} {e : Expr} {ta : TA} {p pos tpos : Pos} {elts : List Expr} {kk : Nat} (M : Its X.prog X.w X.K X.mg X.base W) (hr : Room 3 X.A) (hK : W.K = X.K) (hg : Gl X "enumerate") (hm : X.mg "enumerate" = none) (ha : PA X [e] ta) (hs : starEach [e] X.env = [(false, eval e X.env)] := by rfl) :
    PI X (.Tuple elts kk tpos) (.Call (.Name "enumerate" p) [e] [] pos) (iEnumOwn W ta) := by
  refine ⟨fun pins s σ H R I h => ?_⟩
  refine PyProof.Rows.Call_ (ld_blt I hg hm PyProof.Rows.boot_enumerate (PyProof.Rows.callWith_type1 (thn (ha.run pos pins s σ H _ I h) fun us s1 ⟨vs, H1, I1, r1, q1⟩ => ?_) hs rfl))
  obtain ⟨a, l, zs, ex, ⟨c, f, dx, fs, hc, hf, ha, hlk, hz⟩, q⟩ := q1
  subst ex
  cases r1 with
  | cons r rr =>
    cases rr
    cases r
    have go : wpAny (model X.prog X.w) X.A.in1.in1 (pyIter (.ref a)) (fun itv s2 => ∃ it, itv = .ref it /\ ∀ h', IsEnum h' s2.heap.objs.size it 0 .none -> h'.objs.size = s2.heap.objs.size + 1 -> (∀ b o, s2.heap.get? b = some o -> h'.get? b = some o) ->
        wpAny (model X.prog X.w) X.A (pyIter (.ref s2.heap.objs.size)) (PIE X pins σ (.Tuple elts kk tpos) R) X.xe { s2 with heap := h' }) X.xe s1 := by
      refine own_iter (M.at_ c f hc hf) (Sub.in1 (Sub.in1 ⟨hr, rfl⟩)) I1 ha hlk (hK ▸ hz) fun s2 it I2 hs hg fp => ⟨it, rfl, fun h' he hsz hk => wpAny_pyIter_enum he ?_⟩
      have I3 : Inv X pins σ H1 { s2 with heap := h' } := I2.kept (t' := s2.toks) hk
      have hlt : it < s2.heap.objs.size := Heap.lt_size hg
      refine ⟨s2.heap.objs.size, [s2.heap.objs.size, it], _, _, H1, rfl, I3, turn_enum l s2.heap.objs.size it, ⟨⟨.none, he⟩, ⟨_, hk _ _ hg, rfl, rfl⟩, Nat.ne_of_gt hlt⟩, fun b hb => ?_, hK ▸ q⟩
      have e' : b = s2.heap.objs.size \/ b = it := by simpa using hb
      rcases e' with z | z
      · subst z; exact I2.fpOk (Nat.le_refl _) (I2.hok.fresh (Nat.le_refl _))
      · subst z; exact fp
    exact call_en go
end
end Py
namespace Py
open PySem L2
section
variable {T : Tbl} {W : Wd T} {X : Cx} {pins : List (Addr × Obj)} {σ : St} {H : Hp} {s : Shared}
theorem sub_env {A : Around} {n : Nat} (sb : Sub X n A) (I : Inv X pins σ H s) : Env0 X.prog X.w X.K X.mg X.base A X.stack s H :=
  have e := I.env0
  ⟨by rw [sb.fr]; exact e.frames, e.mod, e.bs, e.bsz, e.funs, e.frf, e.hok, e.bare⟩
theorem own_len {A : Around} {k : Nat} {φ : Sem} {a dx : Addr} {c nm : String} {fs : List (Str × V)} {Q : Int -> Hp -> Prop} {E : Value -> Shared -> Prop} (M : Mt X.prog X.w X.K X.mg X.base W k "__len__" 1 φ none) (sb : Sub X (k + 1) A) (hK : W.K = X.K) (I : Inv X pins σ H s) (ea : H a = some (.ins (W.cA c) dx fs))
    (hc : W.has c) (hn : T.res c "__len__" = some nm) (h : spR W 1 (φ nm) none [.ref a] H (fun v H' => ∃ i, v = .int i /\ 0 <= i /\ i < 2 ^ 63 /\ Q i H') E0) :
    wpAny (model X.prog X.w) A (call (.builtin "len") [.ref a]) (fun u s' => ∃ i t H', u = .int i t /\ 0 <= i /\ i < 2 ^ 63 /\ Inv X pins σ H' s' /\ Q i H') E s := by
  obtain ⟨g, fd, ps, hm, F, hb⟩ := M.ex c nm hc hn
  obtain ⟨mA, O, _, _, _, _⟩ := ins_get I.hok ea
  obtain ⟨od, J, _⟩ := O.look
  have hl : ([Value.ref a] ++ []).length = ps.length := by rw [<- F.len _ _ _ _ h]; rfl
  have sb1 := Sub.in1 sb
  refine len_own I.kIn J hm.at_ hm.fn (wpAny_call ?_)
  refine codeAny_mono (F.run A.in1 X.stack s H ⟨[.ref a], []⟩ [.ref a] [.ref a] _ E0 sb1.room (sub_env sb1 I) (hb s [.ref a] I.kIn hl) (.cons rfl .nil) h) fun r s' hq => ?_
  cases r with
  | error er => exact (cx_no hq).elim
  | ok fl =>
    cases fl with
    | ret u =>
      obtain ⟨v, H', I3, rv, i, rfl, h0, h1, q3⟩ := I.after hq
      obtain ⟨t, rfl⟩ := (show ∃ t, u = Value.int i t from rv)
      exact ⟨⟨h0, h1⟩, i, _, H', rfl, h0, h1, I3.tok _, q3⟩
    | next => exact False.elim hq
    | brk => exact False.elim hq
    | cont => exact False.elim hq
theorem ext_loop {A : Around} {q it l : Addr} {zs : List V} {Rs : Result -> Shared -> Prop} (hh : A.in1.handled = none) (hz : zs.length <= sizeLine) (hne : it ≠ q) (hs : ∀ xs, SqL X.K (upd H q (.lst xs)) l zs) (hf : ∀ xs, FpOk X pins (upd H q (.lst xs)) it)
    (done : ∀ s', Inv X pins σ (upd H q (.lst zs)) s' -> Rs (.ok (.ret .none)) s') :
    ∀ (n i : Nat) (s : Shared), zs.length - i = n -> i <= zs.length -> Inv X pins σ (upd H q (.lst (zs.take i))) s -> s.heap.IsListIter it l i -> codeAny (model X.prog X.w) A (.builtin "list.extend.loop" ⟨[.ref q, .ref it, .none], []⟩) Rs s := by
  intro n
  induction n with
  | zero =>
    intro i s hn hi I st
    obtain rfl : i = zs.length := by omega
    obtain ⟨its, rv, p, hz'⟩ := I.list (hs _)
    have hl := rv.length
    obtain ⟨f0, f1, f2, f3, f4, f5⟩ := hf (zs.take zs.length)
    refine codeAny_builtin PySem.F.entry_extend_loop ?_
    rw [Around.under_plainId PySem.F.plain_extend_loop _]
    show wpAny _ A.in1 (pyNext (.ref it) >>= _) _ _ s
    refine wpAny_bind (wpAny_pyNext_list_end hh st p.isList (by simp; omega) fun h' eb => ?_)
    have I1 := I.turned (t' := s.toks) (fun b o hb e => eb b o hb e) f0 f1 f3 f4 f5
    rw [List.take_length] at I1
    exact wpAny_pure (done _ I1)
  | succ n ih =>
    intro i s hn hi I st
    obtain ⟨its, rv, p, hz'⟩ := I.list (hs _)
    have hx : zs[i]? = some (zs[i]'(by omega)) := List.getElem?_eq_getElem (by omega)
    obtain ⟨u, hu, ru⟩ := rv.get hx
    obtain ⟨f0, f1, f2, f3, f4, f5⟩ := hf (zs.take i)
    refine codeAny_builtin PySem.F.entry_extend_loop ?_
    rw [Around.under_plainId PySem.F.plain_extend_loop _]
    show wpAny _ A.in1 (pyNext (.ref it) >>= _) _ _ s
    refine wpAny_bind (wpAny_pyNext_list_item st p.isList (x := u) (by simpa using hu) fun h' st' sb => ?_)
    have I1 : Inv X pins σ (upd H q (.lst (zs.take i))) { s with heap := h' } := I.turned (t' := s.toks) (fun b o hb e => (sb.2 b hb).trans e) f0 f1 f3 f4 f5
    show wpAny _ A.in1 (updateSeq q (·.push u) >>= _) _ _ _
    obtain ⟨z, its2, k, r2, hl, e⟩ := I1.lstM upd_same
    have hlen : (zs.take i).length = i := by rw [List.length_take]; omega
    have ht : zs.take (i + 1) = zs.take i ++ [zs[i]'(by omega)] := by rw [List.take_add_one, hx]; rfl
    refine wpAny_bind (wpAny_updateSeq e rfl (wpAny_pure ⟨plainId_quiet PySem.F.plain_extend_loop _, ?_⟩) (by rw [List.size_toArray]; omega) (by show (its2.toArray.push u).size <= sizeLine + 1; rw [Array.size_push, List.size_toArray]; omega))
    have I2 := I1.lset (f := (·.push u)) (its' := its2 ++ [u]) (ys := zs.take (i + 1)) (t' := s.toks) upd_same e (by simp) (by rw [ht]; exact r2.append (.cons ru .nil)) (by rw [List.length_take]; omega)
    rw [upd_upd] at I2
    exact ih (i + 1) _ (by omega) (by omega) I2 (st'.at fun o e => (Heap.get?_update_other _ _ (Ne.symm hne)).trans e)
theorem own_hint {A : Around} {k : Nat} {φ : Sem} {a dx : Addr} {c nm : String} {fs : List (Str × V)} {Q : Hp -> Prop} {R : Bool -> Shared -> Prop} (M : Mt X.prog X.w X.K X.mg X.base W k "__len__" 1 φ none) (sb : Sub X (k + 1) A) (hK : W.K = X.K) (I : Inv X pins σ H s) (ea : H a = some (.ins (W.cA c) dx fs))
    (hc : W.has c) (hn : T.res c "__len__" = some nm) (h : spR W 1 (φ nm) none [.ref a] H (fun v H' => ∃ i, v = .int i /\ 0 <= i /\ i <= 1000000 /\ Q H') E0) (q : ∀ b s' H', Inv X pins σ H' s' -> Q H' -> R b s') :
    wpAny (model X.prog X.w) A (Builtin.List.listLengthHint (.ref a)) R X.xe s := by
  obtain ⟨g, fd, ps, hm, F, hb⟩ := M.ex c nm hc hn
  obtain ⟨mA, O, _, _, _, _⟩ := ins_get I.hok ea
  obtain ⟨od, J, _⟩ := O.look
  unfold Builtin.List.listLengthHint
  refine wpAny_bind (wpAny_bind (J.type.here ((PySem.W.looks_findIn I.kIn hm.at_).here ?_)))
  refine PySem.W.KFB.if_not rfl ?_
  show wpAny _ _ (rule "list.length-hint.len" >>= _) _ _ _
  refine wpAny_bind (wpAny_rule ?_)
  refine wpAny_bind (wpAny_attempt (wpAny_mono (own_len (E := fun _ _ => False) (Q := fun i H' => i <= 1000000 /\ Q H') M sb hK I ea hc hn ?_) (fun u s' hu => ?_) fun e s' he => (show False from he).elim))
  · obtain ⟨F', args, L0, h1, h2, h3, h4, h5, h6, h7, h8⟩ := h
    refine ⟨F', args, L0, h1, h2, h3, h4, h5, h6, fun d bd e F2 H2 v M Mb p o ob nd kk => ?_, h8⟩
    obtain ⟨i, rfl, z0, z1, z2⟩ := h7 d bd e F2 H2 v M Mb p o ob nd kk
    exact ⟨i, rfl, z0, by omega, z1, z2⟩
  · obtain ⟨i, t, H', rfl, h0, h1, I', hle, hq⟩ := hu
    show wpAny _ _ (if Builtin.List.listTooLong i.toNat = true then _ else _) _ _ _
    rw [if_neg (by rw [notLongL (Nat.le_trans (show i.toNat <= 1000000 by omega) (by decide))]; decide)]
    exact wpAny_pure (q _ s' H' I' hq)
def rLstO {T : Tbl} (W : Wd T) (φ : Sem) : List V -> Hp -> VK -> Prop := fun xs H Q => ∃ a c f l dx fs zs nm, xs = [.ref a] /\ W.has c /\ T.it c = some f /\ T.res c "__len__" = some nm /\ H a = some (.ins (W.cA c) dx fs) /\ fs.lookup (so f) = some (.ref l) /\ SqL W.K H l zs /\ zs.length <= 1000000 /\
  ∀ q, H q = none -> spR W 1 (φ nm) none [.ref a] (upd H q (.lst [])) (fun v H' => ∃ i, v = .int i /\ 0 <= i /\ i <= 1000000 /\ H' q = some (.lst []) /\ SqL W.K H' l zs /\ (∀ xs, SqL W.K (upd H' q (.lst xs)) l zs) /\ Q (.ref q) (upd H' q (.lst zs))) E0
theorem call_listI {k : Nat} {φ : Sem} (M : Mt X.prog X.w X.K X.mg X.base W k "__len__" 1 φ none) (N : Its X.prog X.w X.K X.mg X.base W) (hr : Room (k + 3) X.A) (hK : W.K = X.K) : CallR X (.type "list") (rLstO W φ) := by
  rintro pins s σ H xs us Q I rv ⟨a, c, f, l, dx, fs, zs, nm, rfl, hc, hf, hn, ea, hlk, hz, hzl, hq⟩
  cases rv with
  | @cons _ u _ _ ru rt =>
  cases rt
  obtain rfl : u = Value.ref a := ru
  have sb : Sub X (k + 1) X.A.in1.in1 := Sub.in1 (Sub.in1 (⟨hr, rfl⟩ : Sub X (k + 3) X.A))
  refine callType_codes (Q₁ := fun obj s₁ => obj = .ref s.heap.objs.size /\ s₁ = { s with heap := s.heap.push { cls := .type "list", data := .seq #[] } }) PySem.F.called_list (PySem.F.typeCall_list_1 _) PySem.F.entry_list_init
    (code_list_new _ ⟨rfl, rfl⟩) fun obj s₁ h₁ => ?_
  obtain ⟨rfl, rfl⟩ := h₁
  have hS : (s.heap.push { cls := .type "list", data := .seq #[] }).get? s.heap.objs.size = some { cls := .type "list", data := .seq #[] } := Heap.get?_push_size _ rfl
  refine ⟨⟨_, hS, rfl⟩, PySem.F.args_list_init_2 _ _, ?_⟩
  have fr : H s.heap.objs.size = none := I.hok.fresh (Nat.le_refl _)
  have hsp := hq _ fr
  generalize hqq : s.heap.objs.size = q at *
  have I1 : Inv X pins σ (upd H q (.lst [])) { s with heap := s.heap.push { cls := .type "list", data := .seq #[] } } := by rw [<- hqq]; exact I.lnew (its := []) (t' := s.toks) .nil (Nat.zero_le _)
  show wpAny _ _ (do let old <- Builtin.List.listItems (.ref q); Builtin.List.listUpdate (.ref q) (fun _ => #[]); letGo old.toList.reverse; Builtin.List.listExtendWith (.ref q) (.ref a) .none) _ _ _
  refine wpAny_bind ?_
  unfold Builtin.List.listItems
  refine wpAny_bind (wpAny_seqItems hS rfl (wpAny_pure ?_))
  show wpAny _ _ (updateSeq q (fun _ => #[]) >>= fun _ => letGo (#[] : Array Value).toList.reverse >>= fun _ => Builtin.List.listExtendWith (.ref q) (.ref a) .none) _ _ _
  refine wpAny_bind (wpAny_updateSeq hS rfl ?_)
  have I2 := I1.lset (f := fun _ => #[]) (its := []) (its' := []) (ys := []) (t' := s.toks) upd_same hS rfl .nil (Nat.zero_le _)
  rw [upd_upd] at I2
  refine wpAny_bind (wpAny_letGo ?_)
  have ea2 : upd H q (.lst []) a = some (.ins (W.cA c) dx fs) := by rw [upd_ne (ne_of_none ea fr)]; exact ea
  have hne : q ≠ a := fun z => by rw [z, ea] at fr; cases fr
  obtain ⟨mA, J, _⟩ := ins_get I2.hok ea2
  obtain ⟨od, J, _⟩ := J.look
  unfold Builtin.List.listExtendWith
  refine wpAny_bind (J.type.here ?_)
  have h1 : Builtin.List.listSameRef (.ref q) (.ref a) = false := by simp [Builtin.List.listSameRef, hne]
  have h2 : (Value.ref (W.cA c) == Value.type "list") = false := rfl
  have h3 : (Value.ref (W.cA c) == Value.type "tuple") = false := rfl
  simp only [h1, h2, h3, Bool.or_false, Bool.false_eq_true, if_false]
  have hz2 : SqL X.K (upd H q (.lst [])) l zs := hK ▸ (same_new fr).seq hz
  refine wpAny_bind (wpAny_mono (own_iter (N.at_ c f hc hf) (sb.mono (by omega)) I2 ea2 hlk hz2 fun s2 it I3 hs hg fp => ?_) (fun _ _ z => z) fun e s' he => he)
  have p1 : ∀ b ∈ [it], FpOk X pins (upd H q (.lst [])) b := fun b hb => by
    obtain rfl : b = it := by simpa using hb
    exact fp
  have p2 : ∀ b ∈ [it], ∃ o, s2.heap.get? b = some o /\ ∀ v, o.data ≠ .cell v := fun b hb => by
    obtain rfl : b = it := by simpa using hb
    exact ⟨_, hg, fun v z => nomatch z⟩
  have I3' := I3.pinned p1 p2
  have hpin : pinsAt [it] s2.heap = [(it, GNX.itObj l 0)] := by simp [pinsAt, hg]
  rw [hpin] at I3'
  have niq : it ≠ q := fun z => by
    have := fp.1
    rw [z, upd_same] at this
    cases this
  have hand : X.A.in1.in1.handled = none := sb.room.hd
  have go : ∀ (H' : Hp) (s' : Shared), Inv X (pins ++ [(it, GNX.itObj l 0)]) σ H' s' -> H' q = some (.lst []) -> (∀ xs, SqL W.K (upd H' q (.lst xs)) l zs) -> Q (.ref q) (upd H' q (.lst zs)) ->
      codeAny (model X.prog X.w) X.A.in1 (.builtin "list.extend.loop" ⟨[.ref q, .ref it, .none], []⟩) (wants (fun r s₂ => r = .none /\ EP X pins σ Q (.ref q) s₂) X.xe) s' := by
    intro H' s' I' e1 e2 e3
    have pn := I'.pin (it, GNX.itObj l 0) (List.mem_append_right _ (List.mem_append_right _ (by simp)))
    have hu : upd H' q (.lst (zs.take 0)) = H' := by
      funext b
      by_cases hb : b = q
      · subst hb; rw [upd_same, e1]; rfl
      · rw [upd_ne hb]
    refine ext_loop hand (Nat.le_trans hzl (by decide)) niq (hK ▸ e2) (fun xs => ⟨by rw [upd_ne niq]; exact pn.2.1, fp.2⟩) (fun s3 J3 => ⟨rfl, .ref q, _, J3, rfl, e3⟩) _ 0 s' rfl (Nat.zero_le _) (by rw [hu]; exact I'.unpinned) ⟨_, pn.1, rfl, rfl⟩
  refine wpAny_bind (wpAny_holding (wpAny_mono (own_hint M sb hK I3' ea2 hc hn hsp (R := fun b s' => ∃ H', Inv X (pins ++ [(it, GNX.itObj l 0)]) σ H' s' /\ H' q = some (.lst []) /\ SqL W.K H' l zs /\ (∀ xs, SqL W.K (upd H' q (.lst xs)) l zs) /\ Q (.ref q) (upd H' q (.lst zs))) fun b s' H' I' h => ⟨H', I', h⟩) (fun b s' h => ?_) fun e s' he => he))
  obtain ⟨H', I', e1, _, e2, e3⟩ := h
  refine wpAny_ite_split (fun _ => ?_) (fun _ => wpAny_pure ⟨plainId_quiet PySem.F.plain_extend_loop _, go H' s' I' e1 e2 e3⟩)
  refine wpAny_bind (wpAny_rule ?_)
  refine wpAny_bind ?_
  show wpAny _ _ (updateSeq q (·.push .none) >>= fun _ => updateSeq q (·.pop)) _ _ _
  obtain ⟨z4, its4, k4, r4, hl4, e4⟩ := I'.lstM e1
  cases r4
  refine wpAny_bind (wpAny_updateSeq e4 rfl ?_)
  have I5 := I'.lset (f := (·.push Value.none)) (its' := [Value.none]) (ys := [.non]) (t' := s'.toks) e1 e4 (by simp) (.cons rfl .nil) (by decide)
  obtain ⟨z6, its6, k6, r6, hl6, e6⟩ := I5.lstM upd_same
  obtain ⟨u6, rfl, ru6⟩ := r6.one
  refine wpAny_updateSeq e6 rfl ?_ (by show 1 <= sizeLine; decide) (by show 0 <= sizeLine + 1; exact Nat.zero_le _)
  have I7 := I5.lset (f := (·.pop)) (its := [u6]) (its' := []) (ys := []) (t' := s'.toks) upd_same e6 (by rfl) .nil (Nat.zero_le _)
  rw [upd_upd] at I7
  have hu : upd H' q (.lst []) = H' := by
    funext b
    by_cases hb : b = q
    · subst hb; rw [upd_same, e1]
    · rw [upd_ne hb]
  rw [hu] at I7
  exact wpAny_pure ⟨plainId_quiet PySem.F.plain_extend_loop _, go H' _ I7 e1 e2 e3⟩
end
end Py
namespace Py
open PySem L2
section
variable {T : Tbl} {W : Wd T} {env : Py.Env} {d : D}
def itOf (T : Tbl) : D -> Option (List D)
  | .ins c ns xs => (T.it c).bind fun f => (pos f ns).bind fun j => (xs[j]?).bind lstOf
  | .oins c ns xs => (T.it c).bind fun f => (pos f ns).bind fun j => (xs[j]?).bind lstOf
  | _ => none
theorem itOf_ok {F H : Hp} {v : V} {L : List Addr} {zs : List D} (s : Same F H) (o : Own W F H d v L) (h : itOf T d = some zs) :
    ∃ a c f l dx fs vs, v = .ref a /\ W.has c /\ T.it c = some f /\ H a = some (.ins (W.cA c) dx fs) /\ fs.lookup (so f) = some (.ref l) /\ H l = some (.lst vs) /\ Shrs W F zs vs /\ (∃ ns xs, fz d = .ins c ns xs) := by
  have gen : ∀ {c ns xs us dx a M}, ((T.it c).bind fun f => (pos f ns).bind fun j => (xs[j]?).bind lstOf) = some zs -> H a = some (.ins (W.cA c) dx ((ns.map so).zip us)) -> W.has c -> Owns W F H xs us M -> (∃ ns xs, fz d = .ins c ns xs) ->
      ∃ a' c f l dx fs vs, V.ref a = .ref a' /\ W.has c /\ T.it c = some f /\ H a' = some (.ins (W.cA c) dx fs) /\ fs.lookup (so f) = some (.ref l) /\ H l = some (.lst vs) /\ Shrs W F zs vs /\ (∃ ns xs, fz d = .ins c ns xs) := by
    intro c ns xs us dx a M e ha hc os hz
    obtain ⟨f, e1, e⟩ := Option.bind_eq_some_iff.mp e
    obtain ⟨j, e2, e⟩ := Option.bind_eq_some_iff.mp e
    obtain ⟨x, e3, e⟩ := Option.bind_eq_some_iff.mp e
    obtain ⟨u, M', e4, o'⟩ := os.get e3
    obtain ⟨l, vs, rfl, sh, hl⟩ := lstOf_ok s o' e
    exact ⟨a, c, f, l, dx, _, vs, rfl, hc, e1, ha, (zip_lookup e2).trans e4, hl, sh, hz⟩
  cases o with
  | sh y =>
    cases y <;> first | (cases h; done) | skip
    exact gen h (s _ _ (by assumption)) (by assumption) (Shrs.owns (by assumption)) ⟨_, _, by rw [fz_isSh rfl]⟩
  | olst => cases h
  | odic => cases h
  | odit => cases h
  | odig => cases h
  | oins ha hc hl hs => exact gen h ha hc hs ⟨_, _, by rw [fz]⟩
def lstE (T : Tbl) (φ : Sem) (d : D) : Option (Kd × D) := match seqOf d with
  | some p => some (.fr, .olst p.2)
  | none => (itOf T d).bind fun zs => (lenI1 T φ [fz d]).bind fun _ => if zs.length <= 1000000 then some (.fr, .olst zs) else none
def xListU (φ : Sem) (a : XP W) : XP W where
  t := tCB (fun xs H Q => (∃ p ys, xs = [.ref p] /\ (SqL W.K H p ys \/ SqT W.K H p ys) /\ ∀ l, H l = none -> Q (.ref l) (upd H l (.lst ys))) \/ rLstO W φ xs H Q) (tCons a.t tNil)
  ev env := (a.evK env).bind (lstE T φ)
  snd := fun {env k d} e => by
    obtain ⟨d1, e1, e⟩ := Option.bind_eq_some_iff.mp e
    unfold lstE at e
    split at e
    · rename_i p e3
      have h := (xList a).snd (show (xList a).ev env = some (k, d) by show (a.evK env).bind _ = _; rw [e1, Option.bind_some, e3]; exact e)
      exact fun e' F σ H L Q r q => a.sK e1 e' F σ H L _ r fun v F1 H1 x1 y1 => by
        obtain ⟨L1, o⟩ := y1
        cases e
        obtain ⟨b, xs⟩ := p
        obtain ⟨a', vs, rfl, sh, sq⟩ := seqOf_ok x1.s o e3
        refine .inl ⟨a', vs, rfl, ?_, fun p hp => q _ F1 _ (x1.trans (.newH x1.s hp)) ⟨[p], .olst upd_same sh.owns, by simp, fun x m => by
          rw [List.mem_singleton.mp m]; exact ⟨x1.h.free hp, x1.s.free hp⟩⟩⟩
        cases b with
        | true => exact .inr sq
        | false => exact .inl sq
    · obtain ⟨zs, e2, e⟩ := Option.bind_eq_some_iff.mp e
      obtain ⟨n, e3, e⟩ := Option.bind_eq_some_iff.mp e
      obtain ⟨hz, e⟩ := ite_some e
      cases e
      refine fun e' F σ H L Q r q => a.sK e1 e' F σ H L _ r fun v F1 H1 x1 y1 => ?_
      obtain ⟨L1, o⟩ := y1
      obtain ⟨a', c, f, l, dx, fs, vs, rfl, hc, hf, ha, hlk, hl, sh, ns, xs, hfz⟩ := itOf_ok x1.s o e2
      rw [hfz] at e3
      rcases lenI1_ok e3 with e3 | ⟨c', ns', xs', nm, i, b, e4, h1, h2, h3, h4, rfl⟩
      · cases e3
      cases e4
      refine .inr ⟨a', c, f, l, dx, fs, vs, nm, rfl, hc, hf, h1, ha, hlk, .of hl, by rw [<- sh.length]; exact hz, fun p hp => ?_⟩
      have nF : F1 p = none := x1.s.free hp
      have sv : Shr W (upd H1 p (.lst [])) (.ins c ns xs) (.ref a') := by
        rw [<- hfz]
        exact (o.view x1.s fun _ _ _ z => z).mono (same_new hp)
      have lp : l ≠ p := fun z => by rw [z, hp] at hl; cases hl
      refine callV (F := F1) (x1.s.trans (same_new hp)) (.cons sv .nil) rfl h2 fun u H2 x2 y2 => ?_
      rw [fz_isSh rfl] at y2
      cases y2
      have hl2 : H2 l = some (.lst vs) := x2.h _ _ (by rw [upd_ne lp]; exact hl)
      refine ⟨i, rfl, h3, h4, x2.h _ _ upd_same, .of hl2, fun ys => .of (by rw [upd_ne lp]; exact hl2), ?_⟩
      refine q _ F1 _ (x1.trans ⟨Same.refl _, same_upd x2.s nF, fun b u hb => ?_, fun _ _ z => .inl z⟩) ⟨[p], .olst upd_same sh.owns, by simp, fun x m => by
        rw [List.mem_singleton.mp m]; exact ⟨x1.h.free hp, nF⟩⟩
      have hb' : b ≠ p := fun z => by rw [z, hp] at hb; cases hb
      rw [upd_ne hb']
      exact x2.h _ _ (by rw [upd_ne hb']; exact hb)
theorem InsL.mono {H H' : Hp} (e : Same H H') {a l : Addr} {zs : List V} (h : InsL W H a l zs) : InsL W H' a l zs := by
  obtain ⟨c, f, dx, fs, h1, h2, h3, h4, h5⟩ := h
  exact ⟨c, f, dx, fs, h1, h2, e _ _ h3, h4, e.seq h5⟩
def seqFI (T : Tbl) (d : D) : Option (List D) := match seqF d with
  | some ds => some ds
  | none => guardB (isSh d) (itOf T d)
def seqKI (T : Tbl) (d : D) : Option (List D) := match seqOf d with
  | some p => some p.2
  | none => itOf T d
def xiSeqU (a : XP W) : XI W where
  t := fun σ H R => iSeqU W.K a.t σ H R \/ iOwn W a.t σ H R
  evF env := (a.evF env).bind (seqFI T)
  evP env := (a.evK env).bind (seqKI T)
  sF := fun {env ds} e => by
    obtain ⟨d, e1, e⟩ := Option.bind_eq_some_iff.mp e
    unfold seqFI at e
    split at e
    · rename_i ds' e2
      cases e
      exact fun e' F σ H L R r q => .inl ((xiSeq a).sF (show (xiSeq a).evF env = some ds by show (a.evF env).bind _ = _; rw [e1]; exact e2) e' F σ H L R r q)
    · obtain ⟨hs, e⟩ := guardB_some e
      refine fun e' F σ H L R r q => .inr (a.sF e1 e' F σ H L _ r fun v F1 H1 x1 y1 => ?_)
      obtain ⟨a', c, f, l, dx, fs, vs, rfl, hc, hf, ha, hlk, hl, sh, _⟩ := itOf_ok (H := F1) (Same.refl F1) (.sh y1) e
      exact ⟨a', l, vs, rfl, InsL.mono x1.s ⟨c, f, dx, fs, hc, hf, ha, hlk, .of hl⟩, q _ F1 H1 x1 (seq_list hl sh)⟩
  sP := fun {env ds} e => by
    obtain ⟨d, e1, e⟩ := Option.bind_eq_some_iff.mp e
    unfold seqKI at e
    split at e
    · rename_i p e2
      cases e
      exact fun e' F σ H L R r q => .inl ((xiSeq a).sP (show (xiSeq a).evP env = some p.2 by show (a.evK env).bind _ = _; rw [e1, Option.bind_some, e2]; rfl) e' F σ H L R r q)
    · refine fun e' F σ H L R r q => .inr (a.sK e1 e' F σ H L _ r fun v F1 H1 x1 ⟨M, o⟩ => ?_)
      obtain ⟨a', c, f, l, dx, fs, vs, rfl, hc, hf, ha, hlk, hl, sh, _⟩ := itOf_ok x1.s o e
      exact ⟨a', l, vs, rfl, ⟨c, f, dx, fs, hc, hf, ha, hlk, .of hl⟩, q _ F1 H1 x1 (seqP_sql (.of hl) sh)⟩
theorem seqP_enum {F0 H0 : Hp} {a : Addr} {ds : List D} {vs : List V} (h : SqL W.K H0 a vs) (hs : Shrs W F0 ds vs) : SeqP W (Ite W.K a) (enumD ds) F0 H0 where
  go := fun i d F H s1 s0 s2 hd => by
    obtain ⟨y, hy, rfl⟩ := enumD_get hd
    obtain ⟨w, hw, sw⟩ := hs.get hy
    refine ⟨⟨vs, w, s0.seq h, hw⟩, fun x H' yl => ?_⟩
    obtain ⟨T, y', rfl, hT, rfl, hy'⟩ := yl
    have := hy' vs (s0.seq h)
    rw [hw] at this; cases this
    exact ⟨_, .new s2 hT, .tup upd_same (.cons .int (.cons ((sw.mono s1).mono (same_new (s2.free hT))) .nil))⟩
  stop := fun F H s1 s0 s2 => ⟨vs, s0.seq h, by rw [enumD_length, hs.length]; exact Nat.le_refl _⟩
theorem seq_enum {F0 : Hp} {a : Addr} {ds : List D} {vs : List V} (h : SqL W.K F0 a vs) (hs : Shrs W F0 ds vs) : Seq W (Ite W.K a) (enumD ds) F0 where
  go := fun i d F H s1 s2 hd => (seqP_enum (H0 := F0) h hs).go i d F H s1 (s1.trans s2) s2 hd
  stop := fun F H s1 s2 => (seqP_enum (H0 := F0) h hs).stop F H s1 (s1.trans s2) s2
def enFI (T : Tbl) (d : D) : Option (List D) := match lstF d with
  | some ds => some (enumD ds)
  | none => guardB (isSh d) ((itOf T d).map enumD)
def enKI (T : Tbl) (d : D) : Option (List D) := match lstOf d with
  | some ds => some (enumD ds)
  | none => (itOf T d).map enumD
def xiEnumU (a : XP W) : XI W where
  t := fun σ H R => iEnum W.K (tCons a.t tNil) σ H R \/ iEnumOwn W (tCons a.t tNil) σ H R
  evF env := (a.evF env).bind (enFI T)
  evP env := (a.evK env).bind (enKI T)
  sF := fun {env ds} e => by
    obtain ⟨d, e1, e⟩ := Option.bind_eq_some_iff.mp e
    unfold enFI at e
    split at e
    · rename_i ds' e2
      cases e
      cases lstF_ok e2
      exact fun e' F σ H L R r q => .inl (ait_enum (a.sF e1) e' F σ H L R r q)
    · obtain ⟨hs, e⟩ := guardB_some e
      obtain ⟨zs, e9, rfl⟩ := Option.map_eq_some_iff.mp e
      refine fun e' F σ H L R r q => .inr (a.sF e1 e' F σ H L _ r fun v F1 H1 x1 y1 => ?_)
      obtain ⟨a', c, f, l, dx, fs, vs, rfl, hc, hf, ha, hlk, hl, sh, _⟩ := itOf_ok (H := F1) (Same.refl F1) (.sh y1) e9
      exact ⟨a', l, vs, rfl, InsL.mono x1.s ⟨c, f, dx, fs, hc, hf, ha, hlk, .of hl⟩, q _ F1 H1 x1 (seq_enum (.of hl) sh)⟩
  sP := fun {env ds} e => by
    obtain ⟨d, e1, e⟩ := Option.bind_eq_some_iff.mp e
    unfold enKI at e
    split at e
    · rename_i xs e2
      cases e
      refine fun e' F σ H L R r q => .inl (a.sK e1 e' F σ H L _ r fun v F1 H1 x1 ⟨M, o⟩ => ?_)
      obtain ⟨a', vs, rfl, sh, hl⟩ := lstOf_ok x1.s o e2
      exact ⟨a', vs, rfl, .of hl, q _ F1 H1 x1 (seqP_enum (.of hl) sh)⟩
    · obtain ⟨zs, e9, rfl⟩ := Option.map_eq_some_iff.mp e
      refine fun e' F σ H L R r q => .inr (a.sK e1 e' F σ H L _ r fun v F1 H1 x1 ⟨M, o⟩ => ?_)
      obtain ⟨a', c, f, l, dx, fs, vs, rfl, hc, hf, ha, hlk, hl, sh, _⟩ := itOf_ok x1.s o e9
      exact ⟨a', l, vs, rfl, ⟨c, f, dx, fs, hc, hf, ha, hlk, .of hl⟩, q _ F1 H1 x1 (seqP_enum (.of hl) sh)⟩
end
theorem pi_or {X : Cx} {tg e : Expr} {w1 w2 : TI} (h1 : PI X tg e w1) (h2 : PI X tg e w2) : PI X tg e (fun σ H R => w1 σ H R \/ w2 σ H R) :=
  ⟨fun pins s σ H R I h => h.elim (h1.run pins s σ H R I) (h2.run pins s σ H R I)⟩
theorem ro0 {k : Nat} {A : Around} (r : Room (k + 3) A) : Room k A := r.mono (by omega)
theorem ro1 {k : Nat} {A : Around} (r : Room (k + 3) A) : Room (k + 1) A := r.mono (by omega)
section
variable {T : Tbl} {W : Wd T} {X : Cx}
theorem px_ty {c : Str} {n : String} {p : Pos} (hm : X.mg c = none) (hg : Gl X c := by rfl) (hb : bootBuiltins c = some (.type n) := by decide +kernel) (hn : c ≠ "__name__" := by decide) (hd : (c == ("__debug__" : Str)) = false := by decide) :
    PE X (.Name c p) (tC (clsV W (false, n))) := pe_bltn hg hm hb rfl hn hd
theorem px_isiT {cs : List (Bool × String)} {a : Expr} {ta : TE} {es : List Expr} {kk : Nat} {p1 p2 pos : Pos} (hm : X.mg "isinstance" = none) (hk : ∀ c ∈ cs, c.1 = false /\ c.2 ∈ ["int", "bool", "str", "list", "tuple", "dict"]) (hl : cs.length <= 100) (ha : PE X a ta) (hc : PA X es (tCls W cs)) (hg : Gl X "isinstance" := by rfl)
    (hs : starEach [a, .Tuple es kk p2] X.env = (false, eval a X.env) :: starEach [.Tuple es kk p2] X.env := by rfl) (hs2 : starEach [.Tuple es kk p2] X.env = (false, eval (.Tuple es kk p2) X.env) :: starEach [] X.env := by rfl)
    (hpl : (backTo pos (starEach [.Tuple es kk p2] X.env)).any (·.1) = false := by rfl) (hplE : (starEach es X.env).any (·.1) = false := by rfl) :
    PE X (.Call (.Name "isinstance" p1) [a, .Tuple es kk p2] [] pos) (fun σ H Q => (∀ c ∈ cs, clsOk W c) -> cs.length <= 100 -> tCB (rIsiT X.K) (tCons ta (tCons (tTup (tCls W cs)) tNil)) σ H Q) :=
  pe_imp (fun c hc => by unfold clsOk; rw [if_neg (by rw [(hk c hc).1]; decide)]; exact (hk c hc).2) (pe_imp hl (pe_callB call_isiT hg hm (by decide +kernel) (pa_cons ha (pa_cons (pe_tup hc) pa_nil hs2) hs) (he := hs) (hpl := hpl)))
end
end Py
namespace Py
open PySem L2
structure Dun {T : Tbl} (W : Wd T) : Prop where
  sf : ∀ c, W.has c -> PySem.W.selfFirst W.K (W.cA c) = true
  nt : ∀ c t, W.has c -> t ∈ ["NoneType", "bool", "int", "str", "list", "tuple", "dict"] -> PySem.W.notFirst W.K (W.cA c) (.type t) = true
  gi : ∀ c g, W.has c -> PySem.W.findIn W.K (.ref (W.cA c)) (so "__getitem__") = some (some (.ref g)) -> PySem.W.fnIn W.K g = true
section
variable {T : Tbl} {W : Wd T}
section
variable {X : Cx} {pins : List (Addr × Obj)} {σ : St} {H : Hp} {s : Shared}
end
end
end Py
namespace L2
open PySem PySem.Spec PyProof.Rows
section
variable {prog : Program} {w : World} {A : Around} {E : Value -> Shared -> Prop} {s : Shared}
end
section
variable {X : Cx} {pins : List (Addr × Obj)} {σ : St} {H : Hp} {s : Shared}
end
section
variable {prog : Program} {w : World} {A : Around} {E : Value -> Shared -> Prop} {s : Shared} {l : Addr} {its : List Value} {ns : List Int} {Q : Value -> Shared -> Prop}
theorem sumT_raw (hh : A.handled = none) (hl : s.heap.IsTuple l its.toArray) (hi : IntsAre its ns)
    (h : ∀ h' tk t', (∀ b o, s.heap.get? b = some o -> h'.get? b = some o) -> Q (.int ns.sum t') { s with heap := h', toks := tk }) : wpAny (model prog w) A (call (.builtin "sum") [.ref l]) Q E s := by
  obtain ⟨xs, e⟩ := hi.allInts.items
  have hn : numsOf (intItems xs).toList = ns := by rw [<- e]; exact hi.numsOf
  rw [nums_intItems] at hn
  rw [e] at hl
  refine PySem.W.ktm_sumG hh hl fun h' tk t' hk => ?_
  have := h h' tk t' hk
  rw [preSum_eq, List.take_of_length_le (by simp), hn]; exact this
end
section
variable {X : Cx}
def rSum2 (K : PySem.W.Frag) : List V -> Hp -> VK -> Prop := fun vs H Q => ∃ (a : Addr) (ns : List Int), vs = [V.ref a] /\ (SqL K H a (ns.map V.int) \/ SqT K H a (ns.map V.int)) /\ Q (.int ns.sum) H
theorem cr_sum2 (hc : X.calm = true) : CallR X (.builtin "sum") (rSum2 X.K) := by
  intro pins s σ H vs us Q I r h
  obtain ⟨a, ns, rfl, hs | hs, q⟩ := h
  · obtain ⟨its, rv, hl, _⟩ := I.list hs
    rw [Vals.ref1 r]
    exact sum_raw (I.ok.hd hc) hl.isList rv.ints fun h' tk t' hk => ⟨.int _, H, I.kept hk, ⟨_, rfl⟩, q⟩
  · obtain ⟨its, rv, hl, _⟩ := I.tuple hs
    rw [Vals.ref1 r]
    exact sumT_raw (I.ok.hd hc) hl rv.ints fun h' tk t' hk => ⟨.int _, H, I.kept hk, ⟨_, rfl⟩, q⟩
end
end L2
namespace Py
open PySem L2
section
variable {T : Tbl} {W : Wd T} {env : Py.Env}
def sumI (xs : List D) : Option D := (intsOf xs).map fun ns => .int ns.sum
def xSum (a : XP W) : XP W where
  t := tCB (rSum2 W.K) (tCons a.t tNil)
  ev env := (a.evK env).bind fun d => (seqOf d).bind fun p => (sumI p.2).map (Prod.mk .fr)
  snd := fun {env k d} e => by
    obtain ⟨d1, e1, e⟩ := Option.bind_eq_some_iff.mp e
    obtain ⟨⟨b, xs⟩, e3, e⟩ := Option.bind_eq_some_iff.mp e
    obtain ⟨y, e4, e⟩ := Option.map_eq_some_iff.mp e
    cases e
    obtain ⟨ns, e5, rfl⟩ := Option.map_eq_some_iff.mp e4
    intro e' F σ H L Q r q
    refine a.sK e1 e' F σ H L _ r fun v F1 H1 x1 ⟨L1, o⟩ => ?_
    obtain ⟨a, vs, rfl, sh, sq⟩ := seqOf_ok x1.s o e3
    cases intsOf_ok e5
    cases shrs_int sh
    refine ⟨a, ns, rfl, ?_, q _ F1 _ x1 (rO_sh .int)⟩
    cases b with
    | true => exact .inr sq
    | false => exact .inl sq
end
end Py
namespace Py
open PySem L2
section
variable {T : Tbl} {W : Wd T} {env : Py.Env} {d : D}
def storeD (n : D) (ds : List D) : Option (D × D) := match n, ds with
  | .olst xs, [.int i, d] => if xs.all isSh = true then (ixN xs.length i).map fun j => (.olst (xs.set j d), .non) else none
  | _, _ => none
def rStore : V -> List V -> Hp -> VK -> Prop := fun x ys H Q => ∃ (p : Addr) (xs : List V) (k : Int) (j : Nat) (v : V), x = .ref p /\ ys = [.int k, v] /\ H p = some (.lst xs) /\ ixN xs.length k = some j /\ Q .non (upd H p (.lst (xs.set j v)))
theorem set_split {α : Type} {xs : List α} {j : Nat} (h : j < xs.length) (d : α) : xs.set j d = xs.take j ++ [d] ++ xs.drop (j + 1) := by
  rw [List.set_eq_take_append_cons_drop, if_pos h, List.append_assoc]; rfl
theorem mop_store : Mop W rStore storeD := by
  intro n ds n' d hf F H vn Ln vs Ms Q s o os nd kF q
  unfold storeD at hf
  split at hf
  · rename_i xs i d2
    split at hf
    · rename_i hz
      obtain ⟨j, hj, e⟩ := Option.map_eq_some_iff.mp hf
      cases e
      obtain ⟨v1, v2, L1, L2, rfl, o1, o2, rfl⟩ := os.two
      cases o1.shr rfl
      cases o1.shNil rfl
      cases o with
      | sh y => cases y
      | @olst a _ vs L ha hs =>
        have sh := hs.shrs hz
        have hlt := (ixN_seq hj).2.1
        have hlv : vs.length = xs.length := hs.length.symm
        refine ⟨a, vs, i, j, v2, rfl, rfl, ha, by rw [hlv]; exact hj, ?_⟩
        rw [set_split (by omega)]
        rw [set_split hlt] at q
        refine mop_list s nd kF rfl (((sh.take _).owns.append (.cons o2 .nil)).append (sh.drop _).owns) (.sh .non) ?_ (fun b hb => by simpa using Or.inr hb) q
        have := (List.nodup_append.mp nd).1
        simpa using this
    · cases hf
  · cases hf
end
end Py
namespace Py
open PySem L2
def mgM {α : Type} : List Bool -> List α -> List α -> List α
  | true :: bs, m :: ms, ws => m :: mgM bs ms ws
  | false :: bs, ms, w :: ws => w :: mgM bs ms ws
  | _, _, _ => []
theorem mgM_rel : ∀ {bs : List Bool} {mz zs : List V} {mv ws : List Value}, Vals mz mv -> Vals zs ws -> Vals (mgM bs mz zs) (mgM bs mv ws)
  | [], _, _, _, _, _, _ => .nil
  | true :: bs, _, _, _, _, .nil, _ => .nil
  | true :: bs, _, _, _, _, .cons h t, r => .cons h (mgM_rel t r)
  | false :: bs, _, _, _, _, r, .nil => by cases r <;> exact .nil
  | false :: bs, _, _, _, _, r, .cons h t => by cases r <;> exact .cons h (mgM_rel (by first | exact .nil | exact .cons (by assumption) (by assumption)) t)
def cV : D -> V
  | .int i => .int i
  | .str x => .str (so x)
  | .bl b => .bl b
  | _ => .non
def cst : D -> Bool
  | .int _ | .str _ | .bl _ | .non => true
  | _ => false
section
variable {T : Tbl} {W : Wd T}
theorem shr_cst {F : Hp} {d : D} (h : cst d = true) : Shr W F d (cV d) := by cases d <;> first | (cases h; done) | exact .int | exact .str | exact .bl | exact .non
theorem mgM_shr {F : Hp} : ∀ {bs : List Bool} {dd zs : List D} {ws : List V}, dd.all cst = true -> Shrs W F zs ws -> Shrs W F (mgM bs dd zs) (mgM bs (dd.map cV) ws)
  | [], _, _, _, _, _ => .nil
  | true :: bs, [], _, _, _, _ => .nil
  | true :: bs, d :: dd, _, _, h, r => by
    rw [List.all_cons, Bool.and_eq_true] at h
    exact .cons (shr_cst h.1) (mgM_shr h.2 r)
  | false :: bs, dd, _, _, h, .nil => by cases dd <;> exact .nil
  | false :: bs, dd, _, _, h, .cons x t => by cases dd <;> exact .cons x (mgM_shr h t)
def kwE (φ : List D -> Option Nat -> Rz) (n m N : Nat) (bs : List Bool) (dd : List D) (f g v w : Option (List D)) : Option (Kd × D) := match f, g with
  | some ds, some zs => if ds.length = n /\ zs.length = m /\ (ds ++ mgM bs dd zs).length = N then (φ (ds ++ mgM bs dd zs) none).toF else none
  | _, _ => match v, w with
    | some ds, some zs => if ds.length = n /\ zs.length = m /\ (ds ++ mgM bs dd zs).length = N then (φ (ds ++ mgM bs dd zs) none).toV else none
    | _, _ => none
theorem if_some' {α : Type} {c : Prop} [Decidable c] {a : Option α} {b : α} (h : (if c then a else none) = some b) : c /\ a = some b := by
  split at h
  · exact ⟨by assumption, h⟩
  · cases h
def xCallN (φ : List D -> Option Nat -> Rz) (n m N : Nat) (bs : List Bool) (dd : List D) (hd : dd.all cst = true) (as ks : XA W) : XP W where
  t := tCallN n m (spR W N φ none) (fun vs zs => vs ++ mgM bs (dd.map cV) zs) E0 as.t ks.t
  ev env := kwE φ n m N bs dd (as.evF env) (ks.evF env) (as.evV env) (ks.evV env)
  snd := fun {env k d} e => by
    have viewed : ∀ {ds zs}, as.evV env = some ds -> ks.evV env = some zs -> (if ds.length = n /\ zs.length = m /\ (ds ++ mgM bs dd zs).length = N then (φ (ds ++ mgM bs dd zs) none).toV else none) = some (k, d) -> AE W (tCallN n m (spR W N φ none) (fun vs zs => vs ++ mgM bs (dd.map cV) zs) E0 as.t ks.t) env (rK W k d) := by
      intro ds zs e1 e2 e
      obtain ⟨⟨l1, l2, l3⟩, e⟩ := if_some' e
      obtain ⟨d2, b, h, hk⟩ := Rz.toV_ok e
      refine fun e' F σ H L Q r q => as.sV e1 e' F σ H L _ r fun vs F1 H1 x1 y1 => ks.sV e2 e' F1 σ H1 L _ (r.ext x1) fun ws F2 H2 x2 y2 => ?_
      have y1 : Shrs W H1 ds vs := y1
      have y2 : Shrs W H2 zs ws := y2
      refine ⟨by rw [<- y1.length, l1], by rw [<- y2.length, l2], callV x2.s (Shrs.append (y1.mono x2.h) (mgM_shr hd y2)) l3 h fun v H3 x3 y3 => q v F2 H3 ((x1.trans x2).trans x3) ?_⟩
      rcases hk with ⟨hf, rfl, rfl⟩ | ⟨rfl, rfl⟩
      · rw [fz_isSh (isSh_flat hf)] at y3
        exact rO_sh (y3.flat hf)
      · exact y3
    unfold kwE at e
    split at e
    · rename_i ds zs e1 e2
      obtain ⟨⟨l1, l2, l3⟩, e⟩ := if_some' e
      obtain ⟨rfl, b, h⟩ := Rz.toF_ok e
      refine fun e' F σ H L Q r q => as.sF e1 e' F σ H L _ r fun vs F1 H1 x1 y1 => ks.sF e2 e' F1 σ H1 L _ (r.ext x1) fun ws F2 H2 x2 y2 => ?_
      have y1 : Shrs W F1 ds vs := y1
      have y2 : Shrs W F2 zs ws := y2
      exact ⟨by rw [<- y1.length, l1], by rw [<- y2.length, l2], callF x2.s (Shrs.append (y1.mono x2.f) (mgM_shr hd y2)) l3 h fun v F3 H3 x3 y3 => q v F3 H3 ((x1.trans x2).trans x3) (rO_back (x1.trans x2).h y3)⟩
    · split at e
      · exact viewed (by assumption) (by assumption) e
      · cases e
def mkN (φ : Sem) (c ini : String) (n m N : Nat) (bs : List Bool) (dd ds zs : List D) : Option D := if ds.length = n /\ zs.length = m then mk1 φ c ini N (ds ++ mgM bs dd zs) else none
def makeNE (φ : Sem) (c ini : String) (n m N : Nat) (bs : List Bool) (dd : List D) (f g v w : Option (List D)) : Option (Kd × D) := match f, g with
  | some ds, some zs => (mkN φ c ini n m N bs dd ds zs).map (Prod.mk .fr)
  | _, _ => match v, w with
    | some ds, some zs => (mkN φ c ini n m N bs dd ds zs).map fun d => (.vw, fz d)
    | _, _ => none
def xMakeN (φ : Sem) (c ini : String) (n m N : Nat) (bs : List Bool) (dd : List D) (hd : dd.all cst = true) (as ks : XA W) : XP W where
  t := fun σ H Q => W.has c -> tMakeK (W.cA c) n m (spR W N (φ ini) (some 0)) (fun vs zs => vs ++ mgM bs (dd.map cV) zs) E0 as.t ks.t σ H Q
  ev env := makeNE φ c ini n m N bs dd (as.evF env) (ks.evF env) (as.evV env) (ks.evV env)
  snd := fun {env k d} e e' F σ H L Q r q hc => by
    unfold makeNE at e
    split at e
    · rename_i ds zs e1 e2
      obtain ⟨d2, h, e⟩ := Option.map_eq_some_iff.mp e
      cases e
      obtain ⟨⟨l1, l2⟩, h⟩ := if_some' h
      refine as.sF e1 e' F σ H L _ r fun vs F1 H1 x1 y1 => ks.sF e2 e' F1 σ H1 L _ (r.ext x1) fun ws F2 H2 x2 y2 => ?_
      have y1 : Shrs W F1 ds vs := y1
      have y2 : Shrs W F2 zs ws := y2
      exact ⟨by rw [<- y1.length, l1], by rw [<- y2.length, l2], fun x dx hx hdx ne => makeF x2.s (Shrs.append (y1.mono x2.f) (mgM_shr hd y2)) hc h (fun v F3 H3 x3 y3 => q v F3 H3 ((x1.trans x2).trans x3) (rO_back (x1.trans x2).h y3)) x dx hx hdx ne⟩
    · split at e
      · rename_i ds zs e1 e2
        obtain ⟨d2, h, e⟩ := Option.map_eq_some_iff.mp e
        cases e
        obtain ⟨⟨l1, l2⟩, h⟩ := if_some' h
        refine as.sV e1 e' F σ H L _ r fun vs F1 H1 x1 y1 => ks.sV e2 e' F1 σ H1 L _ (r.ext x1) fun ws F2 H2 x2 y2 => ?_
        have y1 : Shrs W H1 ds vs := y1
        have y2 : Shrs W H2 zs ws := y2
        exact ⟨by rw [<- y1.length, l1], by rw [<- y2.length, l2], fun x dx hx hdx ne => makeV x2.s (Shrs.append (y1.mono x2.h) (mgM_shr hd y2)) hc h (fun v H3 x3 y3 => q v F2 H3 ((x1.trans x2).trans x3) y3) x dx hx hdx ne⟩
      · cases e
end
def KShape (K : PySem.W.Frag) (x qual : Str) (st : Stmt) (kws : List (Str × V)) (ps : List Str) (n : Nat) (ks : List Str) (bs : List Bool) (dvs : List V) : Prop :=
  ∀ f fd, FunD K x qual (defArgs st) (defBody st) (defScope st) [] kws f fd -> ∃ g, KBn K fd ps n ks g (fun vs zs => vs ++ mgM bs dvs zs)
theorem kshape0 {K : PySem.W.Frag} {x qual : Str} {st : Stmt} {ps : List Str} {n : Nat} {ks : List Str} {bs : List Bool}
    (h : ∀ (kV doc pm : Value) (an : Option Addr) (cdv ct : Value) (us ws : List Value), us.length = n -> ws.length = ks.length -> bindArgs (PySem.W.fnOf x qual (defArgs st) (defBody st) (defScope st) .none kV doc pm an cdv ct) ⟨us, ks.zip ws⟩ = pure (ps.zip (us ++ mgM bs [] ws))) :
    KShape K x qual st [] ps n ks bs [] := fun f fd F => by
  obtain ⟨oc, od, dV, kV, doc, pm, an, cdv, ct, osl, rfl, lk, hcd, hD, hK⟩ := F.ex
  rcases hD with ⟨_, rfl⟩ | ⟨e, _⟩
  · exact ⟨fun us ws => us ++ mgM bs [] ws, fun s us ws _ l1 l2 => .of_eq (h kV doc pm an cdv ct us ws l1 l2), fun r1 r2 => r1.append (mgM_rel .nil r2)⟩
  · exact absurd rfl e
theorem kshape1 {K : PySem.W.Frag} {x qual : Str} {st : Stmt} {kws : List (Str × V)} {ps : List Str} {n : Nat} {ks : List Str} {bs : List Bool} (ms : List (Str × V)) (hk : kws ≠ []) (hms : ∀ q ∈ ms, q ∈ kws)
    (h : ∀ (D : Addr) (doc pm : Value) (an : Option Addr) (cdv ct : Value) (us mv ws : List Value), us.length = n -> mv.length = ms.length -> ws.length = ks.length ->
      KwChain D ((ms.map (·.1)).zip mv) (bindArgs (PySem.W.fnOf x qual (defArgs st) (defBody st) (defScope st) .none (.ref D) doc pm an cdv ct) ⟨us, ks.zip ws⟩) (ps.zip (us ++ mgM bs mv ws))) :
    KShape K x qual st kws ps n ks bs (ms.map (·.2)) := fun f fd F => by
  obtain ⟨mv, hb⟩ := F.kbinds0 (ps := ps) n ks ms (fun us mz ws => us ++ mgM bs mz ws) hk hms (fun r1 r2 r3 => r1.append (mgM_rel r2 r3)) h
  exact ⟨_, hb⟩
structure DfD (P : Program) (w : World) (K : PySem.W.Frag) (mg : Str -> Option Value) (base : Heap) (k : Nat) (x qual : Str) (st : Stmt) (kws : List (Str × V)) (ps : List Str) (sp : Sp) : Prop where
  ex : ∃ f fd, FnOk P w K mg base (L2.CX P w) k f fd ps sp /\ mg x = some (.ref f) /\ PySem.W.keepIn K (.ref f) = true /\ FunD K x qual (defArgs st) (defBody st) (defScope st) [] kws f fd
structure MkD (P : Program) (w : World) (K : PySem.W.Frag) (mg : Str -> Option Value) (base : Heap) (k : Nat) (x : Str) (C : Addr) (qual : Str) (st : Stmt) (kws : List (Str × V)) (ps : List Str) (sp : Sp) : Prop where
  ex : ∃ f fd, Mk K C f /\ FnOk P w K mg base (L2.CX P w) k f fd ps sp /\ mg x = some (.ref C) /\ FunD K "__init__" qual (defArgs st) (defBody st) (defScope st) [] kws f fd
section
variable {P : Program} {w : World} {K : PySem.W.Frag} {mg : Str -> Option Value} {base : Heap}
theorem dfD_of {x qual : Str} {st : Stmt} {kws : List (Str × V)} {N ps : List Str} {k : Nat} {sp : Sp} (D : DefAt K mg x qual st [] kws) (S : FnScope N ps (defScope st)) (len : ∀ vs H Q E, sp vs H Q E -> vs.length = ps.length)
    (hbody : ∀ (f : Addr) (cdv : Value) (A : Around) (outer : List PySem.Env) (s : Shared) (H : Hp) (vs : List V) (Q : VK) (E : XK), Room k (A.deeper (PyProof.Rows.envOfC qual (defScope st) s.heap.objs.size f cdv)) -> sp vs H Q E ->
      ∃ t, PSs (cxOf (L2.CX P w) P w K mg base N qual (defScope st) f cdv A outer s H E) (defBody st) t /\ t { nx := fun _ H' => Q .non H', rt := Q } (L2.start N vs) H) : DfD P w K mg base (k + 1) x qual st kws ps sp := by
  obtain ⟨f, fd, F, hm⟩ := D.ex
  refine ⟨f, fd, F.ok S len fun cdv A outer s H vs Q E hr h => ?_, hm, F.kp, F⟩
  obtain ⟨t, q1, q2⟩ := hbody f cdv A outer s H vs Q E hr h
  exact ⟨t, q1, q2⟩
theorem dfD_no {x qual : Str} {st : Stmt} {kws : List (Str × V)} {ps : List Str} {k : Nat} {sp : Sp} (D : DefAt K mg x qual st [] kws) (h : ∀ vs H Q E, ¬ sp vs H Q E) : DfD P w K mg base k x qual st kws ps sp := by
  obtain ⟨f, fd, F, hm⟩ := D.ex
  exact ⟨f, fd, ⟨fun vs H Q E z => absurd z (h vs H Q E), fun A outer s H args us vs Q E _ _ _ _ z => absurd z (h vs H Q E)⟩, hm, F.kp, F⟩
theorem mkD_of {C : Addr} {x qual : Str} {st : Stmt} {kws : List (Str × V)} {N ps : List Str} {k : Nat} {sp : Sp} {f0 : Addr} (M : Mk K C f0) (hm : mg x = some (.ref C)) (D : MethAt K C "__init__" "__init__" qual st [] kws) (S : FnScope N ps (defScope st)) (len : ∀ vs H Q E, sp vs H Q E -> vs.length = ps.length)
    (hbody : ∀ (f : Addr) (cdv : Value) (A : Around) (outer : List PySem.Env) (s : Shared) (H : Hp) (vs : List V) (Q : VK) (E : XK), Room k (A.deeper (PyProof.Rows.envOfC qual (defScope st) s.heap.objs.size f cdv)) -> sp vs H Q E ->
      ∃ t, PSs (cxOf (L2.CX P w) P w K mg base N qual (defScope st) f cdv A outer s H E) (defBody st) t /\ t { nx := fun _ H' => Q .non H', rt := Q } (L2.start N vs) H) : MkD P w K mg base (k + 1) x C qual st kws ps sp := by
  obtain ⟨f, fd, F, hg⟩ := D.ex
  have e := M.init
  rw [hg.at_] at e
  cases e
  refine ⟨_, fd, M, F.ok S len fun cdv A outer s H vs Q E hr h => ?_, hm, F⟩
  obtain ⟨t, q1, q2⟩ := hbody _ cdv A outer s H vs Q E hr h
  exact ⟨t, q1, q2⟩
theorem mkD_no {C : Addr} {x qual : Str} {st : Stmt} {kws : List (Str × V)} {ps : List Str} {k : Nat} {sp : Sp} {f0 : Addr} (M : Mk K C f0) (hm : mg x = some (.ref C)) (D : MethAt K C "__init__" "__init__" qual st [] kws) (h : ∀ vs H Q E, ¬ sp vs H Q E) : MkD P w K mg base k x C qual st kws ps sp := by
  obtain ⟨f, fd, F, hg⟩ := D.ex
  have e := M.init
  rw [hg.at_] at e
  cases e
  exact ⟨_, fd, M, ⟨fun vs H Q E z => absurd z (h vs H Q E), fun A outer s H args us vs Q E _ _ _ _ z => absurd z (h vs H Q E)⟩, hm, F⟩
end
section
variable {X : Cx} {k n : Nat} {x qual : Str} {st : Stmt} {kws0 : List (Str × V)} {ps ks : List Str} {bs : List Bool} {dvs : List V} {sp : Sp} {p pos : Pos} {e : Expr} {es : List Expr} {kws : List Keyword} {t tk : TA}
theorem px_callN (D : DfD X.prog X.w X.K X.mg X.base k x qual st kws0 ps sp) (hb : KShape X.K x qual st kws0 ps n ks bs dvs) (hr : Room k X.A) (hg : Gl X x)
    (ha : PA X (e :: es) t) (hkw : PK X kws tk) (hall : (backToKw pos (keywordEach kws X.env)).all (·.1.isSome) = true := by rfl) (hks : (backToKw pos (keywordEach kws X.env)).filterMap (·.1) = ks := by rfl)
    (hdb : (x == ("__debug__" : Str)) = false := by decide) (he : starEach (e :: es) X.env = (false, eval e X.env) :: starEach es X.env := by rfl)
    (hpl : ((backTo pos (starEach (e :: es) X.env)).any (·.1) || (backToKw pos (keywordEach kws X.env)).any (·.1.isNone)) = false := by rfl) :
    PE X (.Call (.Name x p) (e :: es) kws pos) (tCallN n ks.length sp (fun vs zs => vs ++ mgM bs dvs zs) E0 t tk) := by
  obtain ⟨f, fd, F, hm, hk, FD⟩ := D.ex
  obtain ⟨g, hb⟩ := hb f fd FD
  exact pe_callN F hr hg hm hk hb passE0 ha hkw hall hks hdb he hpl
theorem px_makeN {C : String} {T : Tbl} {W : Wd T} (M : MkD X.prog X.w X.K X.mg X.base k x (W.cA C) qual st kws0 ps sp) (hb : KShape X.K "__init__" qual st kws0 ps (n + 1) ks bs dvs) (hc : W.has C) (hr : Room (k + 1) X.A) (hg : Gl X x)
    (ha : PA X (e :: es) t) (hkw : PK X kws tk) (hall : (backToKw pos (keywordEach kws X.env)).all (·.1.isSome) = true := by rfl) (hks : (backToKw pos (keywordEach kws X.env)).filterMap (·.1) = ks := by rfl)
    (hdb : (x == ("__debug__" : Str)) = false := by decide) (he : starEach (e :: es) X.env = (false, eval e X.env) :: starEach es X.env := by rfl)
    (hpl : ((backTo pos (starEach (e :: es) X.env)).any (·.1) || (backToKw pos (keywordEach kws X.env)).any (·.1.isNone)) = false := by rfl) :
    PE X (.Call (.Name x p) (e :: es) kws pos) (fun σ H Q => W.has C -> tMakeK (W.cA C) n ks.length sp (fun vs zs => vs ++ mgM bs dvs zs) E0 t tk σ H Q) := by
  obtain ⟨f, fd, M, F, hm, FD⟩ := M.ex
  obtain ⟨g, hb⟩ := hb f fd FD
  exact pe_imp hc (pe_makeK M F hr hg hm hb passE0 ha hkw hall hks hdb he hpl)
theorem px_makeN0 {C : String} {T : Tbl} {W : Wd T} (M : MkD X.prog X.w X.K X.mg X.base k x (W.cA C) qual st kws0 ps sp) (hb : KShape X.K "__init__" qual st kws0 ps 1 ks bs dvs) (hc : W.has C) (hr : Room (k + 1) X.A) (hg : Gl X x)
    (hkw : PK X kws tk) (hall : (backToKw pos (keywordEach kws X.env)).all (·.1.isSome) = true := by rfl) (hks : (backToKw pos (keywordEach kws X.env)).filterMap (·.1) = ks := by rfl)
    (hdb : (x == ("__debug__" : Str)) = false := by decide)
    (hpl : ((backTo pos (starEach [] X.env)).any (·.1) || (backToKw pos (keywordEach kws X.env)).any (·.1.isNone)) = false := by rfl) :
    PE X (.Call (.Name x p) [] kws pos) (fun σ H Q => W.has C -> tMakeK (W.cA C) 0 ks.length sp (fun vs zs => vs ++ mgM bs dvs zs) E0 tNil tk σ H Q) := by
  obtain ⟨f, fd, M, F, hm, FD⟩ := M.ex
  obtain ⟨g, hb⟩ := hb f fd FD
  exact pe_imp hc (pe_makeK0 M F hr hg hm hb passE0 hkw hall hks hdb hpl)
theorem px_glI {x : Str} {i : Int} {pos : Pos} (h : ∃ t, X.mg x = some (.int i t)) (hg : Gl X x := by rfl) (hd : (x == ("__debug__" : Str)) = false := by decide) : PE X (.Name x pos) (tC (.int i)) := by
  obtain ⟨t, h⟩ := h
  exact pe_glob hg h ⟨t, rfl⟩ hd
end
section
variable {P : Program} {w : World} {K : PySem.W.Frag} {mg : Str -> Option Value} {base : Heap}
theorem fn_no {k : Nat} {f : Addr} {fd : FuncData} {ps : List Str} {sp : Sp} (h : ∀ vs H Q E, ¬ sp vs H Q E) : FnOk P w K mg base (L2.CX P w) k f fd ps sp :=
  ⟨fun vs H Q E z => absurd z (h vs H Q E), fun A outer s H args us vs Q E _ _ _ _ z => absurd z (h vs H Q E)⟩
end
section
variable {T : Tbl} {W : Wd T}
end
end Py
namespace Py
open PySem L2
def keyD : D -> Option Key
  | .int i => some (.inl i)
  | .str x => some (.inr (so x))
  | _ => none
def dg : List Key -> List D -> Key -> Option D
  | k' :: ks, x :: xs, k => if k' = k then some x else dg ks xs k
  | _, _, _ => none
section
variable {T : Tbl} {W : Wd T} {env : Py.Env} {d : D}
theorem keyD_ok {F : Hp} {v : V} {k : Key} (h : Shr W F d v) (e : keyD d = some k) : v = kV k := by
  cases h <;> first | (cases e; rfl) | cases e
theorem dg_own {F H : Hp} {k : Key} : ∀ {ks : List Key} {xs : List D} {vs : List V} {L : List Addr}, Owns W F H xs vs L -> ks.length = vs.length ->
    (∀ d, dg ks xs k = some d -> ∃ v M, valV (ks.zip vs) k = some v /\ Own W F H d v M) /\ (dg ks xs k = none -> valV (ks.zip vs) k = none)
  | [], xs, vs, _, o, hl => by
    cases vs with
    | nil => cases o; exact ⟨fun d h => by simp [dg] at h, fun _ => rfl⟩
    | cons v vs => simp at hl
  | k' :: ks, _, _, _, .nil, hl => by simp at hl
  | k' :: ks, _, _, _, .cons (v := v) (vs := vs) (L := L1) h t, hl => by
    obtain ⟨i1, i2⟩ := dg_own (k := k) (ks := ks) t (by simpa using hl)
    rw [List.zip_cons_cons]
    by_cases e : k' = k
    · unfold dg
      rw [if_pos e, valV_pos (p := (k', v)) e]
      exact ⟨fun d hd => by cases hd; exact ⟨v, L1, rfl, h⟩, fun z => nomatch z⟩
    · unfold dg
      rw [if_neg e, valV_neg (p := (k', v)) e]
      exact ⟨i1, i2⟩
def dicOf : D -> Option (List Key × List D)
  | .dic ks xs => some (ks, xs)
  | .odic ks xs => some (ks, xs)
  | _ => none
theorem dicOf_ok {F H : Hp} {v : V} {L : List Addr} {ks : List Key} {xs : List D} (s : Same F H) (o : Own W F H d v L) (h : dicOf d = some (ks, xs)) : ∃ a vs M, v = .ref a /\ Rd H a (.dK (ks.zip vs)) /\ ks.length = vs.length /\ ks.Nodup /\ Owns W F H xs vs M := by
  cases o with
  | sh y =>
    cases y <;> first | (cases h; done) | skip
    rename_i a1 vs1 h1 h2 h3 h4
    cases h
    exact ⟨_, _, [], rfl, rd_same s h1, h2, h3, Shrs.owns h4⟩
  | odic ha hl hn hs => cases h; exact ⟨_, _, _, rfl, .inl ha, hl, hn, hs⟩
  | olst => cases h
  | odit => cases h
  | odig => cases h
  | oins => cases h
def xDnew {T : Tbl} (W : Wd T) : XP W where
  t := tDNewK
  ev _ := some (.fr, .odic [] [])
  snd := fun e => by
    cases e
    exact fun e' F σ H L Q r q p hp => q _ F _ (.newH r.sF hp) ⟨[p], .odic (vs := []) upd_same rfl .nil .nil, by simp, fun x m => by rw [List.mem_singleton.mp m]; exact ⟨hp, r.sF.free hp⟩⟩
def DGetN (H : Hp) (a : Addr) (y : V) (o : Option V) : Prop := DGet H a y o \/ (y = .non /\ (∃ kvs, Rd H a (.dK kvs)) /\ o = none)
section
variable {X : Cx} {pins : List (Addr × Obj)} {σ : St} {H : Hp} {s : Shared} {A : Around} {E : Value -> Shared -> Prop} {kvs : List (Key × V)} {a : Addr}
theorem d_get2None {z : V} {r : Value} {Q : Value -> Shared -> Prop} (I : Inv X pins σ H s) (e : Rd H a (.dK kvs)) (rd : RelV z r) (h : ∀ s', Inv X pins σ H s' -> Q r s') : wpAny (model X.prog X.w) A (call (.builtin "dict.get") [.ref a, .none, r]) Q E s := by
  obtain ⟨_, hd, vs, _, dd⟩ := dk_rd I.hok e
  obtain ⟨f, hm, hf⟩ := none_map dd
  have hk : (noneKind X.prog X.w).is none .none = true := rfl
  refine call_meetsIn PySem.F.slot_dict_get dd.typeIs PySem.F.entry_dict_get (PySem.F.args_dict_get_3 _ _ _) (meets_dict_get_default (noneKind X.prog X.w) a hk hd r) ⟨_, hm, ?_⟩
  rw [hf]
  exact h _ (I.tok _)
end
def tDGet2N (td ty tx : TE) : TE := fun σ H Q => td σ H fun x H1 => ∃ a, x = .ref a /\ IsD H1 a /\ ty σ H1 fun y H2 => tx σ H2 fun z H3 => ∃ o, DGetN H3 a y o /\ Q (o.getD z) H3
theorem pe_dget2N {X : Cx} {o e f : Expr} {td ty tx : TE} {apos cpos : Pos} (hu : X.A.units + 1 < cLine) (ho : PE X o td) (he : PE X e ty) (hf : PE X f tx) (m : M2 X o "get" apos e f cpos) : PE X (.Call (.Attribute o "get" apos) [e, f] [] cpos) (tDGet2N td ty tx) := by
  refine ⟨fun pins s σ H Q I h => ?_⟩
  refine wpAny_Call_method m.base m.few m.line PySem.F.plainAttrs_dict PySem.F.slot_dict_get PySem.F.type_dict_get (thn (ho.run pins s σ H _ I h) fun u s1 ⟨x, H1, I1, rx, a, ex, d, q1⟩ => ?_)
  subst ex
  obtain rfl : u = Value.ref a := rx
  obtain ⟨t1, t2, _⟩ := isD_at I1 d
  refine ⟨t1, t2, ?_⟩
  rw [m.trees]
  refine Calls.callWith_builtin rfl (Calls.evalArgs_plain (Calls.spliced_cons (thn (he.run pins s1 σ H1 _ I1 q1) fun iv s2 ⟨y, H2, I2, ry, q2⟩ =>
    Calls.spliced_cons (thn (hf.run pins s2 σ H2 _ I2 q2) fun fv s3 ⟨z, H3, I3, rz, o, g, q3⟩ => Calls.spliced_nil ?_))))
  rcases g with g | ⟨ey, ⟨kvs, e⟩, eo⟩
  · exact d_get2 hu I3 g ry rz fun w' s4 I4 rw' => ⟨_, H3, I4, rw', q3⟩
  · subst ey eo
    obtain rfl : iv = Value.none := ry
    exact d_get2None I3 e rz fun s4 I4 => ⟨_, H3, I4, rz, q3⟩
def getE (ks : List Key) (xs : List D) (p : Kd) (y : D) (z : Kd × D) : Option (Kd × D) := match y with
  | .non => some z
  | y => (keyD y).map fun k => match dg ks xs k with
    | some x => p.of x
    | none => z
theorem rK_back {F H H0 H1 : Hp} {k : Kd} {v : V} {d : D} (e : Same H0 H1) (h : rK W k d F H H1 v) : rK W k d F H H0 v := by
  cases k with
  | fr => exact rO_back e h
  | pl => exact h
  | vw => exact h
def xDget2 (a b c : XP W) : XP W where
  t := tDGet2N a.t b.t c.t
  ev env := (a.ev env).bind fun p => (dicOf p.2).bind fun q => (b.evV env).bind fun y => (c.ev env).bind fun z => getE q.1 q.2 p.1 y z
  snd := fun {env k d} e => by
    obtain ⟨⟨kp, dp⟩, e1, e⟩ := Option.bind_eq_some_iff.mp e
    obtain ⟨⟨ks, xs⟩, e2, e⟩ := Option.bind_eq_some_iff.mp e
    obtain ⟨y, e3, e⟩ := Option.bind_eq_some_iff.mp e
    obtain ⟨⟨kz, dz⟩, e4, e⟩ := Option.bind_eq_some_iff.mp e
    intro e' F σ H L Q r q
    refine a.snd e1 e' F σ H L _ r fun v F1 H1 x1 y1 => ?_
    obtain ⟨M, o⟩ := rK_own y1
    obtain ⟨da, vs, M1, rfl, rd, hl, hn, os⟩ := dicOf_ok (basis_same x1.s) o e2
    refine ⟨da, rfl, .inl ⟨_, rd⟩, b.sV e3 e' F1 σ H1 L _ (r.ext x1) fun u F2 H2 x2 y2 => c.snd e4 e' F2 σ H2 L _ ((r.ext x1).ext x2) fun w F3 H3 x3 y3 => ?_⟩
    have x12 := x2.trans x3
    have rd3 := rd_same x12.h rd
    have os3 := os.frame (F' := basis kp F3 H3) (H' := H3) x12.basis fun a _ o q => x12.h _ _ q
    have y2 : Shr W H2 y u := y2
    have y2 := y2.mono x3.h
    have back : ∀ {k d v}, rK W k d F3 H3 H2 v -> rK W k d F3 H3 H v := fun h => rK_back (x1.h.trans x2.h) h
    dsimp only at e
    by_cases hy : ∃ k, keyD y = some k
    · obtain ⟨ky, hk⟩ := hy
      have ee : (some (match dg ks xs ky with | some x => kp.of x | none => (kz, dz))) = some (k, d) := by
        rw [<- e]
        cases y <;> first | (cases hk; done) | (simp only [getE, hk, Option.map_some])
      have hv := keyD_ok y2 hk
      obtain ⟨g1, g2⟩ := dg_own (k := ky) os3 hl
      cases hg : dg ks xs ky with
      | none =>
        rw [hg] at ee
        cases ee
        refine ⟨none, .inl (.inl ⟨_, ky, rd3, hv, (g2 hg).symm⟩), ?_⟩
        exact q _ F3 H3 (x1.trans x12) (back y3)
      | some x =>
        rw [hg] at ee
        obtain ⟨v', M', hv', ov⟩ := g1 x hg
        refine ⟨some v', .inl (.inl ⟨_, ky, rd3, hv, hv'.symm⟩), ?_⟩
        exact q _ F3 H3 (x1.trans x12) (rK_of x3.s ov (Option.some.inj ee))
    · have hyn : y = .non := by
        cases y <;> first | rfl | skip
        all_goals first | (exact absurd ⟨_, rfl⟩ hy) | (simp [getE, keyD] at e)
      subst hyn
      cases e
      cases y2
      exact ⟨none, .inr ⟨rfl, ⟨_, rd3⟩, rfl⟩, q _ F3 H3 (x1.trans x12) (back y3)⟩
theorem ps_alt {X : Cx} {st : Stmt} {t1 t2 : TS} (h1 : PS X st t1) (h2 : PS X st t2) : PS X st (fun D σ H => t1 D σ H \/ t2 D σ H) :=
  ⟨fun pins s σ H D I h => h.elim (h1.run pins s σ H D I) (h2.run pins s σ H D I)⟩
theorem PSet.or {X : Cx} {r r' : TSet} (h : PSet X r) (h' : PSet X r') : PSet X (fun o i v H Q => r o i v H Q \/ r' o i v H Q) :=
  fun pins s σ H o i v ov iv u Q I ro ri rv q => q.elim (h pins s σ H o i v ov iv u Q I ro ri rv) (h' pins s σ H o i v ov iv u Q I ro ri rv)
def dgE (ks : List Key) (xs : List D) (p : Kd) (y : D) : Option (Kd × D) := (keyD y).bind fun k => (dg ks xs k).map p.of
def xDix (a b : XP W) : XP W where
  t := tDGet a.t b.t
  ev env := (a.ev env).bind fun p => (dicOf p.2).bind fun q => (b.evV env).bind fun y => dgE q.1 q.2 p.1 y
  snd := fun {env k d} e => by
    obtain ⟨⟨kp, dp⟩, e1, e⟩ := Option.bind_eq_some_iff.mp e
    obtain ⟨⟨ks, xs⟩, e2, e⟩ := Option.bind_eq_some_iff.mp e
    obtain ⟨y, e3, e⟩ := Option.bind_eq_some_iff.mp e
    obtain ⟨ky, hk, e⟩ := Option.bind_eq_some_iff.mp e
    obtain ⟨x, hx, e⟩ := Option.map_eq_some_iff.mp e
    intro e' F σ H L Q r q
    refine a.snd e1 e' F σ H L _ r fun v F1 H1 x1 y1 => b.sV e3 e' F1 σ H1 L _ (r.ext x1) fun u F2 H2 x2 y2 => ?_
    obtain ⟨M, o⟩ := rK_own y1
    have o2 : Own W (basis kp F2 H2) H2 dp v M := o.frame x2.basis fun a _ o q => x2.h _ _ q
    obtain ⟨da, vs, M1, rfl, rd, hl, hn, os⟩ := dicOf_ok (basis_same x2.s) o2 e2
    have y2 : Shr W H2 y u := y2
    obtain ⟨v', M', hv', ov⟩ := (dg_own (k := ky) os hl).1 x hx
    exact ⟨da, v', rfl, .inl ⟨_, ky, rd, keyD_ok y2 hk, hv'.symm⟩, q _ F2 H2 (x1.trans x2) (rK_of x2.s ov e)⟩
def fls : List D -> Option (List V)
  | [] => some []
  | d :: ds => (fl d).bind fun v => (fls ds).map (v :: ·)
def inL (neg : Bool) (x : D) (ys : List D) : Option D := (fl x).bind fun v => (fls ys).map fun vs => .bl (if neg then !inV v vs else inV v vs)
def hasK (ks : List Key) (k : Key) : Bool := ks.any fun j => decide (j = k)
def inK (neg : Bool) (ks : List Key) (y : D) : Option D := match y with
  | .non => some (.bl neg)
  | y => (keyD y).map fun k => .bl (if neg then !hasK ks k else hasK ks k)
theorem hasK_valV {k : Key} : ∀ {ks : List Key} {vs : List V}, ks.length = vs.length -> (valV (ks.zip vs) k).isSome = hasK ks k
  | [], [], _ => rfl
  | [], _ :: _, h => by simp at h
  | _ :: _, [], h => by simp at h
  | k' :: ks, v :: vs, h => by
    rw [List.zip_cons_cons]
    unfold hasK
    rw [List.any_cons]
    by_cases e : k' = k
    · rw [valV_pos (p := (k', v)) e, decide_eq_true e]; rfl
    · rw [valV_neg (p := (k', v)) e, decide_eq_false e, hasK_valV (by simpa using h)]; rfl
def kDs : List Key -> Option (List D)
  | [] => some []
  | .inl i :: ks => (kDs ks).map (.int i :: ·)
  | .inr _ :: _ => none
theorem kDs_ok {F : Hp} : ∀ {ks : List Key} {vs : List V} {ds : List D}, ks.length = vs.length -> kDs ks = some ds -> Shrs W F ds ((ks.zip vs).map fun kv => kV kv.1)
  | [], [], _, _, e => by cases e; exact .nil
  | [], _ :: _, _, h, _ => by simp at h
  | _ :: _, [], _, h, _ => by simp at h
  | .inl i :: ks, v :: vs, _, h, e => by
    obtain ⟨ds, e1, rfl⟩ := Option.map_eq_some_iff.mp e
    exact .cons .int (kDs_ok (by simpa using h) e1)
  | .inr _ :: _, _, _, _, e => by cases e
abbrev rListK : List V -> Hp -> VK -> Prop := fun xs H Q => ∃ (a : Addr) (kvs : List (Key × V)), xs = [.ref a] /\ Rd H a (.dK kvs) /\ ∀ p, H p = none -> Q (.ref p) (upd H p (.lst (kvs.map fun kv => kV kv.1)))
def xDlist (a : XP W) : XP W where
  t := tCB rListK (tCons a.t tNil)
  ev env := (a.ev env).bind fun p => (dicOf p.2).bind fun q => (kDs q.1).map fun ds => (.fr, .olst ds)
  snd := fun {env k d} e => by
    obtain ⟨⟨kp, dp⟩, e1, e⟩ := Option.bind_eq_some_iff.mp e
    obtain ⟨⟨ks, xs⟩, e2, e⟩ := Option.bind_eq_some_iff.mp e
    obtain ⟨ds, e3, e⟩ := Option.map_eq_some_iff.mp e
    cases e
    intro e' F σ H L Q r q
    refine a.snd e1 e' F σ H L _ r fun v F1 H1 x1 y1 => ?_
    obtain ⟨M, o⟩ := rK_own y1
    obtain ⟨da, vs, M1, rfl, rd, hl, hn, os⟩ := dicOf_ok (basis_same x1.s) o e2
    exact ⟨da, _, rfl, rd, fun p hp => q _ F1 _ (x1.trans (.newH x1.s hp)) ⟨[p], .olst upd_same (kDs_ok hl e3).owns, by simp, fun x m => by
      rw [List.mem_singleton.mp m]; exact ⟨x1.h.free hp, x1.s.free hp⟩⟩⟩
theorem pos_none_has {k : Key} : ∀ {ks : List Key}, pos k ks = none -> (∀ k' ∈ ks, k' ≠ k)
  | [], _, _, m => nomatch m
  | k1 :: ks, h, k', m => by
    have h : (if k1 = k then some 0 else (pos k ks).map (· + 1)) = none := h
    split at h
    · cases h
    · rename_i e
      rcases List.mem_cons.mp m with rfl | m
      · exact e
      · exact pos_none_has (Option.map_eq_none_iff.mp h) k' m
theorem putK_none {k : Key} {v : V} {ks : List Key} {vs : List V} (hl : ks.length = vs.length) (h : pos k ks = none) : putK (ks.zip vs) k v = (ks ++ [k]).zip (vs ++ [v]) := by
  have hn : valV (ks.zip vs) k = none := by
    cases e : valV (ks.zip vs) k with
    | none => rfl
    | some x =>
      have := hasK_valV (k := k) hl
      rw [e] at this
      have this : hasK ks k = true := this.symm
      unfold hasK at this
      obtain ⟨k', m, e'⟩ := List.any_eq_true.mp this
      exact absurd (of_decide_eq_true e') (pos_none_has h k' m)
  rw [putK_new v hn, List.zip_append hl]; rfl
theorem pos_has {k : Key} : ∀ {ks : List Key} {j : Nat}, pos k ks = some j -> hasK ks k = true
  | k1 :: ks, j, h => by
    have h : (if k1 = k then some 0 else (pos k ks).map (· + 1)) = some j := h
    unfold hasK
    rw [List.any_cons]
    split at h
    · rename_i e; rw [decide_eq_true e]; rfl
    · obtain ⟨i, h1, _⟩ := Option.map_eq_some_iff.mp h
      have := pos_has h1
      unfold hasK at this
      rw [this, Bool.or_true]
theorem putK_map {k : Key} {v : V} : ∀ {ks : List Key} {vs : List V} {j : Nat}, ks.length = vs.length -> ks.Nodup -> pos k ks = some j -> (ks.zip vs).map (fun kv => if kv.1 = k then (kv.1, v) else kv) = ks.zip (vs.set j v)
  | [], _, _, _, _, h => by cases h
  | _ :: _, [], _, h, _, _ => by simp at h
  | k1 :: ks, u :: vs, j, hl, hn, h => by
    have h : (if k1 = k then some 0 else (pos k ks).map (· + 1)) = some j := h
    rw [List.nodup_cons] at hn
    rw [List.zip_cons_cons, List.map_cons]
    split at h
    · rename_i e
      cases h
      rw [if_pos e, List.set_cons_zero, List.zip_cons_cons]
      congr 1
      have : ∀ kv ∈ ks.zip vs, (if kv.1 = k then (kv.1, v) else kv) = kv := fun kv m => by
        rw [if_neg]
        intro z
        have := (List.of_mem_zip (a := kv.1) (b := kv.2) m).1
        rw [z, <- e] at this
        exact hn.1 this
      exact (List.map_congr_left this).trans (List.map_id _)
    · rename_i e
      obtain ⟨i, h1, h2⟩ := Option.map_eq_some_iff.mp h
      subst h2
      rw [if_neg e, List.set_cons_succ, List.zip_cons_cons, putK_map (by simpa using hl) hn.2 h1]
theorem putK_some {k : Key} {v : V} {ks : List Key} {vs : List V} {j : Nat} (hl : ks.length = vs.length) (hn : ks.Nodup) (h : pos k ks = some j) : putK (ks.zip vs) k v = ks.zip (vs.set j v) := by
  unfold putK
  rw [if_pos, putK_map hl hn h]
  rw [valV_any, hasK_valV hl]
  exact pos_has h
theorem mop_atD {G : D} {F H : Hp} {a : Addr} {L : List Addr} {Ms : List Addr} {ys : List D} {ws : List V} {o : HO} {M' L2 : List Addr} {v' : V} {Q : VK} (s : Same F H) (nd : (Ms ++ (a :: L)).Nodup) (kF : ∀ b ∈ Ms ++ (a :: L), F b = none)
    (hG : ∀ (F' H' : Hp) (L' : List Addr), H' a = some o -> Owns W F' H' ys ws L' -> Own W F' H' G (.ref a) (a :: L')) (hs : Owns W F H ys ws L2) (od : Own W F H d v' M') (n2 : (M' ++ L2).Nodup) (sub : ∀ b ∈ M' ++ L2, b ∈ L \/ b ∈ Ms)
    (q : ∀ F' H' v' Ln' M', Same F F' -> Same F' H' -> (∀ b o, b ∉ a :: L -> H b = some o -> H' b = some o) -> (∀ b o, F' b = some o -> F b = some o \/ H b = none) -> Own W F' H' G (.ref a) Ln' -> Own W F' H' d v' M' -> (M' ++ Ln').Nodup ->
      (∀ b ∈ M' ++ Ln', F' b = none /\ (b ∈ a :: L \/ b ∈ Ms \/ H b = none)) -> Q v' H') : Q v' (upd H a o) := by
  rw [List.nodup_append] at nd
  obtain ⟨n3, n4, n5⟩ := nd
  rw [List.nodup_cons] at n4
  have na : ∀ b ∈ M' ++ L2, b ≠ a := fun b hb z => by
    subst z
    rcases sub _ hb with y | y
    · exact n4.1 y
    · exact n5 _ y _ (List.mem_cons_self ..) rfl
  have Fa : F a = none := kF a (List.mem_append_right _ (List.mem_cons_self ..))
  refine q F (upd H a o) v' (a :: L2) M' (Same.refl _) (same_upd s Fa) (fun b u hb hu => ?_) (fun b u hu => .inl hu) (hG F _ _ upd_same (owns_upd hs fun z => na a (List.mem_append_right _ z) rfl)) (own_upd od fun z => na a (List.mem_append_left _ z) rfl) ?_ (fun b hb => ?_)
  · rw [upd_ne (fun z => hb (by rw [z]; exact List.mem_cons_self ..))]; exact hu
  · rw [List.nodup_append] at n2 ⊢
    refine ⟨n2.1, List.nodup_cons.mpr ⟨fun z => na a (List.mem_append_right _ z) rfl, n2.2.1⟩, fun b hb c hc => ?_⟩
    rcases List.mem_cons.mp hc with z | z
    · rw [z]; exact na b (List.mem_append_left _ hb)
    · exact n2.2.2 b hb c z
  · rcases List.mem_append.mp hb with z | z
    · have := sub b (List.mem_append_left _ z)
      refine ⟨kF b ?_, ?_⟩
      · rcases this with y | y
        · exact List.mem_append_right _ (List.mem_cons_of_mem _ y)
        · exact List.mem_append_left _ y
      · rcases this with y | y
        · exact .inl (List.mem_cons_of_mem _ y)
        · exact .inr (.inl y)
    · rcases List.mem_cons.mp z with z | z
      · subst z; exact ⟨Fa, .inl (List.mem_cons_self ..)⟩
      · have := sub b (List.mem_append_right _ z)
        refine ⟨kF b ?_, ?_⟩
        · rcases this with y | y
          · exact List.mem_append_right _ (List.mem_cons_of_mem _ y)
          · exact List.mem_append_left _ y
        · rcases this with y | y
          · exact .inl (List.mem_cons_of_mem _ y)
          · exact .inr (.inl y)
def putP (ks : List Key) (xs : List D) (k : Key) (y : D) : Option (List Key × List D) := match pos k ks with
  | none => some (ks ++ [k], xs ++ [y])
  | some j => if xs.all isSh = true then some (ks, xs.set j y) else none
def dputD (n : D) (ds : List D) : Option (D × D) := match n, ds with
  | .odic ks xs, [i, d] => if xs.length < 1000000 then (keyD i).bind fun k => (putP ks xs k d).map fun q => (.odic q.1 q.2, .non) else none
  | _, _ => none
def rDput : V -> List V -> Hp -> VK -> Prop := fun x ys H Q => ∃ (a : Addr) (k v : V) (H' : Hp), x = .ref a /\ ys = [k, v] /\ DPut H a k v H' /\ Q .non H'
theorem mop_dput : Mop W rDput dputD := by
  intro n ds n' d hf F H vn Ln vs Ms Q s o os nd kF q
  unfold dputD at hf
  split at hf
  · rename_i ks xs i d2
    have hz : xs.length < 1000000 := by
      by_cases h : xs.length < 1000000
      · exact h
      · rw [if_neg h] at hf; cases hf
    rw [if_pos hz] at hf
    obtain ⟨k, hk, hf⟩ := Option.bind_eq_some_iff.mp hf
    obtain ⟨⟨ks', xs'⟩, hp, e⟩ := Option.map_eq_some_iff.mp hf
    cases e
    obtain ⟨v1, v2, L1, L2, rfl, o1, o2, rfl⟩ := os.two
    have hi : isSh i = true := by cases i <;> first | rfl | cases hk
    have hv := keyD_ok (o1.shr hi) hk
    cases o1.shNil hi
    cases o with
    | sh y => cases y
    | @odic a _ _ vs L ha hl hn hs =>
      have hz2 : (ks.zip vs).length < sizeLine := by
        rw [List.length_zip, <- hs.length]
        exact Nat.lt_of_le_of_lt (Nat.min_le_right _ _) (Nat.lt_of_lt_of_le hz (by decide))
      unfold putP at hp
      cases hpos : pos k ks with
      | none =>
        rw [hpos] at hp
        cases hp
        refine ⟨a, v1, v2, _, rfl, rfl, .inl ⟨_, k, ha, hv, hz2, rfl⟩, ?_⟩
        rw [putK_none hl hpos]
        refine mop_atD (ys := xs ++ [d2]) (ws := vs ++ [v2]) s nd kF (fun F' H' L' h1 h2 => .odic h1 (by simp [hl]) ?_ h2) (hs.append (.cons o2 .nil)) (.sh .non) ?_ (fun b hb => ?_) q
        · rw [List.nodup_append]
          exact ⟨hn, by simp, fun x hx y hy z => pos_none_has hpos x hx (by rw [z]; simpa using hy)⟩
        · have := nd_swap (nd_tail nd)
          simpa using this
        · simpa using hb
      | some j =>
        rw [hpos] at hp
        obtain ⟨hall, e⟩ := ite_some hp
        cases e
        refine ⟨a, v1, v2, _, rfl, rfl, .inl ⟨_, k, ha, hv, hz2, rfl⟩, ?_⟩
        rw [putK_some hl hn hpos]
        have sh := hs.shrs hall
        have hj : j < ks.length := by
          have := pos_get hpos
          exact (List.getElem?_eq_some_iff.mp this).1
        have hjx : j < xs.length := by have := hs.length; omega
        refine mop_atD (ys := xs.set j d2) (ws := vs.set j v2) (L2 := L2 ++ []) s nd kF (fun F' H' L' h1 h2 => .odic h1 (by simp [hl]) hn h2) ?_ (.sh .non) ?_ (fun b hb => ?_) q
        · rw [set_split hjx, set_split (by rw [<- hs.length]; exact hjx)]
          have h3 := ((sh.take j).owns (H := H)).append (.cons o2 ((sh.drop (j + 1)).owns))
          rw [List.nil_append] at h3
          rw [List.append_assoc, List.append_assoc]
          exact h3
        · have := (List.nodup_append.mp nd).1
          simpa using this
        · exact .inr (by simpa using hb)
  · cases hf
end
end Py
namespace Py
open PySem L2
section
variable {T : Tbl} {W : Wd T} {env : Py.Env} {d : D} {P : List Nat} {E : WX} {A : AEnds}
def SameL (F F' : Hp) : Prop := ∀ a o, F a = some o -> F' a = some o \/ (∃ kvs od, o = .dK kvs /\ F' a = some (.frz od (.dK kvs))) \/ ∃ kvs od, o = .frz od (.dK kvs) /\ F' a = some (.dK kvs)
theorem SameL.eq {F F' : Hp} (e : SameL F F') {a : Addr} {o : HO} (h : F a = some o) (h1 : ∀ kvs, o ≠ .dK kvs) (h2 : ∀ od kvs, o ≠ .frz od (.dK kvs)) : F' a = some o := by
  rcases e a o h with q | ⟨kvs, od, q, _⟩ | ⟨kvs, od, q, _⟩
  · exact q
  · exact absurd q (h1 kvs)
  · exact absurd q (h2 od kvs)
theorem SameL.rd {F F' : Hp} (e : SameL F F') {a : Addr} {kvs : List (Key × V)} (h : Rd F a (.dK kvs)) : Rd F' a (.dK kvs) := by
  rcases h with h | ⟨o, h⟩
  · rcases e a _ h with q | ⟨kvs', od, q, q2⟩ | ⟨kvs', od, q, _⟩
    · exact .inl q
    · cases q; exact .inr ⟨_, q2⟩
    · cases q
  · rcases e a _ h with q | ⟨kvs', od, q, q2⟩ | ⟨kvs', od, q, q2⟩
    · exact .inr ⟨_, q⟩
    · cases q
    · cases q; exact .inl q2
theorem SameL.rdT {F F' : Hp} (e : SameL F F') {a : Addr} {kvs : List (List Key × V)} (h : Rd F a (.dT kvs)) : Rd F' a (.dT kvs) := by
  rcases h with h | ⟨o, h⟩
  · exact .inl (e.eq h (fun _ z => nomatch z) fun _ _ z => nomatch z)
  · exact .inr ⟨_, e.eq h (fun _ z => nomatch z) fun _ _ z => nomatch z⟩
theorem SameL.seq {F F' : Hp} (e : SameL F F') {K : PySem.W.Frag} {a : Addr} {vs : List V} (h : SqL K F a vs) : SqL K F' a vs := by
  rcases h with (h | ⟨o, h⟩) | h
  · exact .inl (.inl (e.eq h (fun _ z => nomatch z) fun _ _ z => nomatch z))
  · exact .inl (.inr ⟨o, e.eq h (fun _ z => nomatch z) fun _ _ z => nomatch z⟩)
  · exact .inr h
mutual
theorem Shr.lock {F F' : Hp} (e : SameL F F') : ∀ {d : D} {v : V}, Shr W F d v -> Shr W F' d v
  | _, _, .non => .non
  | _, _, .bl => .bl
  | _, _, .int => .int
  | _, _, .str => .str
  | _, _, .cls h => .cls h
  | _, _, .sei h n => .sei (e.eq h (fun _ z => nomatch z) fun _ _ z => nomatch z) n
  | _, _, .scr h => .scr (e.seq h)
  | _, _, .tup h hs => .tup (e.eq h (fun _ z => nomatch z) fun _ _ z => nomatch z) (Shrs.lock e hs)
  | _, _, .lst h hs => .lst (e.eq h (fun _ z => nomatch z) fun _ _ z => nomatch z) (Shrs.lock e hs)
  | _, _, .dic h l n hs => .dic (e.rd h) l n (Shrs.lock e hs)
  | _, _, .dit h l n hs => .dit (e.rdT h) l n (Shrs.lock e hs)
  | _, _, .dig h k l hs => .dig (e.eq h (fun _ z => nomatch z) fun _ _ z => nomatch z) (Shrs.lock e k) l (Shrs.lock e hs)
  | _, _, .ins h c l hs => .ins (e.eq h (fun _ z => nomatch z) fun _ _ z => nomatch z) c l (Shrs.lock e hs)
theorem Shrs.lock {F F' : Hp} (e : SameL F F') : ∀ {d : List D} {v : List V}, Shrs W F d v -> Shrs W F' d v
  | _, _, .nil => .nil
  | _, _, .cons h t => .cons (Shr.lock e h) (Shrs.lock e t)
end
mutual
theorem Own.lock {F F' H H' : Hp} (e : SameL F F') : ∀ {d : D} {v : V} {L : List Addr}, (∀ a ∈ L, ∀ o, H a = some o -> H' a = some o) -> Own W F H d v L -> Own W F' H' d v L
  | _, _, _, _, .sh h => .sh (h.lock e)
  | _, _, _, k, .olst h t => .olst (k _ (List.mem_cons_self ..) _ h) (Owns.lock e (fun a m => k a (List.mem_cons_of_mem _ m)) t)
  | _, _, _, k, .odic h l n t => .odic (k _ (List.mem_cons_self ..) _ h) l n (Owns.lock e (fun a m => k a (List.mem_cons_of_mem _ m)) t)
  | _, _, _, k, .odit h l n t => .odit (k _ (List.mem_cons_self ..) _ h) l n (Owns.lock e (fun a m => k a (List.mem_cons_of_mem _ m)) t)
  | _, _, _, k, .odig h s l t => .odig (k _ (List.mem_cons_self ..) _ h) (s.lock e) l (Owns.lock e (fun a m => k a (List.mem_cons_of_mem _ m)) t)
  | _, _, _, k, .oins h c l t => .oins (k _ (List.mem_cons_self ..) _ h) c l (Owns.lock e (fun a m => k a (List.mem_cons_of_mem _ m)) t)
theorem Owns.lock {F F' H H' : Hp} (e : SameL F F') : ∀ {d : List D} {v : List V} {L : List Addr}, (∀ a ∈ L, ∀ o, H a = some o -> H' a = some o) -> Owns W F H d v L -> Owns W F' H' d v L
  | _, _, _, _, .nil => .nil
  | _, _, _, k, .cons h t => .cons (Own.lock e (fun a m => k a (List.mem_append_left _ m)) h) (Owns.lock e (fun a m => k a (List.mem_append_right _ m)) t)
end
theorem Slots.lock {F F' H H' : Hp} (e : SameL F F') : ∀ {env : Py.Env} {σ : St} {L : List Addr}, (∀ a ∈ L, ∀ o, H a = some o -> H' a = some o) -> Slots W F H env σ L -> Slots W F' H' env σ L
  | _, _, _, _, .nil => .nil
  | _, _, _, k, .so h t => .so (h.lock e fun a m => k a (List.mem_append_left _ m)) (t.lock e fun a m => k a (List.mem_append_right _ m))
  | _, _, _, k, .no t => .no (t.lock e k)
theorem sameL_lock {F : Hp} {a : Addr} {kvs : List (Key × V)} {od : Obj} (h : F a = some (.dK kvs)) : SameL F (upd F a (.frz od (.dK kvs))) := fun b o q => by
  by_cases z : b = a
  · subst z; rw [h] at q; cases q; exact .inr (.inl ⟨kvs, od, rfl, upd_same⟩)
  · rw [upd_ne z]; exact .inl q
theorem sameL_unlock {F : Hp} {a : Addr} {kvs : List (Key × V)} {od : Obj} (h : F a = some (.frz od (.dK kvs))) : SameL F (upd F a (.dK kvs)) := fun b o q => by
  by_cases z : b = a
  · subst z; rw [h] at q; cases q; exact .inr (.inr ⟨kvs, od, rfl, upd_same⟩)
  · rw [upd_ne z]; exact .inl q
theorem Rel.lock {e : Ent} {F H : Hp} {σ : St} {L : List Addr} {a : Addr} {kvs : List (Key × V)} {od : Obj} (r : Rel W e env F σ H L) (h : F a = some (.dK kvs)) :
    Rel W ⟨upd F a (.frz od (.dK kvs)), upd H a (.frz od (.dK kvs)), L, e.pins⟩ env (upd F a (.frz od (.dK kvs))) σ (upd H a (.frz od (.dK kvs))) L where
  sF := fun b o q => by
    by_cases z : b = a
    · subst z; rw [upd_same] at q ⊢; exact q
    · rw [upd_ne z] at q ⊢; exact r.sF _ _ q
  slots := r.slots.lock (sameL_lock h) fun b m o q => by
    have : b ≠ a := fun z => by rw [z] at m; rw [r.dj a m] at h; cases h
    rw [upd_ne this]; exact q
  nd := r.nd
  dj := fun b m => by
    have : b ≠ a := fun z => by rw [z] at m; rw [r.dj a m] at h; cases h
    rw [upd_ne this]; exact r.dj b m
  s0 := Same.refl _
  nw := fun b o q => .inl q
  fr := fun b o m q => q
  ln := fun b m => .inl m
  pin := r.pin
theorem Rel.unlock {e : Ent} {F H F' H' : Hp} {σ σ' : St} {L L' : List Addr} {a : Addr} {kvs : List (Key × V)} {od : Obj} {env' : Py.Env} (r : Rel W e env F σ H L) (h : F a = some (.dK kvs))
    (r2 : Rel W ⟨upd F a (.frz od (.dK kvs)), upd H a (.frz od (.dK kvs)), L, e.pins⟩ env' F' σ' H' L') : F' a = some (.frz od (.dK kvs)) /\ H' a = some (.frz od (.dK kvs)) /\ Rel W e env' (upd F' a (.dK kvs)) σ' (upd H' a (.dK kvs)) L' := by
  have hF' : F' a = some (.frz od (.dK kvs)) := r2.s0 _ _ upd_same
  have hH' : H' a = some (.frz od (.dK kvs)) := r2.sF _ _ hF'
  have na : ∀ b ∈ L', b ≠ a := fun b m z => by rw [z] at m; rw [r2.dj a m] at hF'; cases hF'
  refine ⟨hF', hH', ⟨fun b o q => ?_, r2.slots.lock (sameL_unlock hF') fun b m o q => by rw [upd_ne (na b m)]; exact q, r2.nd, fun b m => by rw [upd_ne (na b m)]; exact r2.dj b m, fun b o q => ?_, fun b o q => ?_, fun b o m q => ?_, fun b m => ?_, r2.pin⟩⟩
  · by_cases z : b = a
    · subst z; rw [upd_same] at q ⊢; exact q
    · rw [upd_ne z] at q ⊢; exact r2.sF _ _ q
  · have q1 := r.s0 _ _ q
    by_cases z : b = a
    · subst z; rw [h] at q1; cases q1; exact upd_same
    · rw [upd_ne z]
      exact r2.s0 b o (by show upd F a _ b = _; rw [upd_ne z]; exact q1)
  · by_cases z : b = a
    · subst z; rw [upd_same] at q; cases q; exact r.nw b _ h
    · rw [upd_ne z] at q
      rcases r2.nw b o q with y | y | y
      · have y : upd F a (.frz od (.dK kvs)) b = some o := y
        rw [upd_ne z] at y
        exact r.nw b o y
      · have y : upd H a (.frz od (.dK kvs)) b = none := y
        rw [upd_ne z] at y
        exact .inr ((r.h0 y).elim .inr .inl)
      · exact .inr ((r.ln b y).elim .inr .inl)
  · have q1 := r.fr b o m q
    have nL : b ∉ L := fun y => by
      rcases r.ln b y with w | w
      · exact m w
      · rw [q] at w; cases w
    by_cases z : b = a
    · subst z
      rw [r.sF _ _ h] at q1
      cases q1
      exact upd_same
    · rw [upd_ne z]
      exact r2.fr b o nL (by show upd H a _ b = _; rw [upd_ne z]; exact q1)
  · rcases r2.ln b m with y | y
    · exact r.ln b y
    · have y : upd H a (.frz od (.dK kvs)) b = none := y
      rw [upd_ne (na b m)] at y
      exact r.h0 y
theorem seq_keys {F0 : Hp} {a : Addr} {od : Obj} {ks : List Key} {vs : List V} {ds : List D} (h : F0 a = some (.frz od (.dK (ks.zip vs)))) (hl : ks.length = vs.length) (hk : kDs ks = some ds) : Seq W (Itk a od (ks.zip vs)) ds F0 := by
  have hn : ds.length = ks.length := by
    clear h hl
    induction ks generalizing ds with
    | nil => cases hk; rfl
    | cons k ks ih =>
      cases k with
      | inl i => obtain ⟨ds', e, rfl⟩ := Option.map_eq_some_iff.mp hk; rw [List.length_cons, List.length_cons, ih e]
      | inr x => cases hk
  have hz : (ks.zip vs).length = ks.length := by rw [List.length_zip, <- hl, Nat.min_self]
  refine ⟨fun i d F H s1 s2 hd => ?_, fun F H s1 s2 => ⟨s2 _ _ (s1 _ _ h), by rw [hz, hn]; exact Nat.le_refl _⟩⟩
  have hi := (List.getElem?_eq_some_iff.mp hd).1
  refine ⟨⟨s2 _ _ (s1 _ _ h), by rw [hz]; omega⟩, fun x H' y => ?_⟩
  obtain ⟨rfl, k, v, h1, rfl⟩ := y
  refine ⟨F, .refl s2, ?_⟩
  have sh := kDs_ok (W := W) (F := F) hl hk
  obtain ⟨u, hu, su⟩ := sh.get hd
  rw [List.getElem?_map, h1] at hu
  cases hu
  exact su
def dsK : Option D -> Option (List D)
  | some (.dic ks _) => kDs ks
  | _ => none
theorem dsK_ok {o : Option D} {ds : List D} (h : dsK o = some ds) : ∃ ks xs, o = some (.dic ks xs) /\ kDs ks = some ds := by
  match o, h with
  | some (.dic ks xs), h => exact ⟨ks, xs, rfl, h⟩
def Lk (i : Nat) (σ : St) (H : Hp) : Prop := ∃ a od kvs, σ[i]? = some (some (V.ref a)) /\ H a = some (.frz od (.dK kvs))
theorem ait_keysL {i : Nat} {ds : List D} (h : dsK (getS env i) = some ds) : AIt W (fun σ H R => Lk i σ H -> iKeys (tVar i) σ H R) env ds := fun e F σ H L R r q => by
  rintro ⟨a, od, kvs, h1, h2⟩
  obtain ⟨ks, xs, e1, e2⟩ := dsK_ok h
  obtain ⟨v, M, e3, o, _⟩ := slot_get r (getS_some e1)
  rw [h1] at e3
  cases e3
  have sh := o.shr rfl
  cases sh with
  | dic hd hl hn hs =>
    rcases hd with hd | ⟨od', hd⟩
    · rw [r.sF _ _ hd] at h2; cases h2
    · have := r.sF _ _ hd
      refine ⟨_, h1, a, od', rfl, .inl ⟨_, this, ?_⟩⟩
      exact q _ F H (.refl r.sF) (seq_keys hd hl e2)
def xiKeysL (i : Nat) : XI W where
  t := fun σ H R => Lk i σ H -> iKeys (tVar i) σ H R
  evF env := dsK (getS env i)
  evP env := dsK (getS env i)
  sF := fun e => ait_keysL e
  sP := fun e => (ait_keysL e).p
def isDic : Option D -> Bool
  | some (.dic _ _) => true
  | _ => false
theorem isDic_ok {o : Option D} (h : isDic o = true) : ∃ ks xs, o = some (.dic ks xs) := by
  match o, h with
  | some (.dic ks xs), h => exact ⟨ks, xs, rfl⟩
def xpLock (i : Nat) (x : XP W) (t : TE) (ht : ∀ σ H Q, Lk i σ H -> x.t σ H Q -> t σ H Q) : XP W where
  t := fun σ H Q => tLockE t σ H Q \/ t σ H Q
  ev env := guardB (isDic (getS env i)) (match x.ev env with
    | some (.fr, d) => some (.fr, d)
    | _ => none)
  snd := fun {env k d} e => by
    obtain ⟨h1, e⟩ := guardB_some e
    obtain ⟨ks, xs, e1⟩ := isDic_ok h1
    match e2 : x.ev env, e with
    | some (.fr, d'), e =>
      cases e
      intro e' F σ H L Q r q
      obtain ⟨v, M, e3, o, _⟩ := slot_get r (getS_some e1)
      have sh := o.shr rfl
      cases sh with
      | @dic a _ _ vs hd hl hn hs =>
        rcases hd with hd | ⟨od', hd⟩
        · refine .inl ⟨a, _, r.sF _ _ hd, trivial, fun od => ht _ _ _ ⟨a, od, _, e3, upd_same⟩ (x.snd e2 _ _ σ _ L _ (r.lock (od := od) hd) fun v F' H' x1 ⟨M, o, nd, kk⟩ => ?_)⟩
          have hF' : F' a = some (.frz od (.dK (ks.zip vs))) := x1.f _ _ upd_same
          have hH' := x1.s _ _ hF'
          have na : ∀ b ∈ M, b ≠ a := fun b m z => by have := (kk b m).2; rw [z, hF'] at this; cases this
          refine ⟨hH', q v (upd F' a (.dK (ks.zip vs))) _ ⟨fun b o q => ?_, fun b o q => ?_, fun b o q => ?_, fun b o q => ?_⟩ ⟨M, o.lock (sameL_unlock hF') fun b m o q => by rw [upd_ne (na b m)]; exact q, nd, fun b m => ⟨?_, by rw [upd_ne (na b m)]; exact (kk b m).2⟩⟩⟩
          · by_cases z : b = a
            · subst z; rw [hd] at q; cases q; exact upd_same
            · rw [upd_ne z]; exact x1.f _ _ (by rw [upd_ne z]; exact q)
          · by_cases z : b = a
            · subst z; rw [upd_same] at q ⊢; exact q
            · rw [upd_ne z] at q ⊢; exact x1.s _ _ q
          · by_cases z : b = a
            · subst z; rw [r.sF _ _ hd] at q; cases q; exact upd_same
            · rw [upd_ne z]; exact x1.h _ _ (by rw [upd_ne z]; exact q)
          · by_cases z : b = a
            · subst z; rw [upd_same] at q; cases q; exact .inl hd
            · rw [upd_ne z] at q
              rcases x1.n b o q with y | y
              · rw [upd_ne z] at y; exact .inl y
              · rw [upd_ne z] at y; exact .inr y
          · have := (kk b m).1
            rw [upd_ne (na b m)] at this
            exact this
        · exact .inr (ht _ _ _ ⟨a, od', _, e3, r.sF _ _ hd⟩ (x.snd e2 e' F σ H L Q r q))
def noEx : RS -> RS
  | .ex _ _ => .no
  | r => r
theorem noEx_ne {r : RS} (h : noEx r ≠ .no) : noEx r = r /\ r ≠ .no /\ ∀ x e, r ≠ .ex x e := by
  cases r <;> first | exact ⟨rfl, h, fun _ _ z => nomatch z⟩ | exact absurd rfl h
def xsLock (i : Nat) (s : XS W) (t : WX -> TS) (ht : ∀ E D σ H, Lk i σ H -> s.t E D σ H -> t E D σ H) : XS W where
  t E := fun D σ H => tLock (t E) D σ H \/ t E D σ H
  ev P env := match isDic (getS env i) with
    | true => noEx (s.ev P env)
    | false => .no
  snd := fun P E env hn e F σ H L Dn hP r st => by
    match h1 : isDic (getS env i), hn, st with
    | true, hn, st =>
    obtain ⟨hq, hn1, hx⟩ := noEx_ne hn
    dsimp only at st
    rw [hq] at st
    obtain ⟨ks, xs, e1⟩ := isDic_ok h1
    obtain ⟨v, M, e3, o, _⟩ := slot_get r (getS_some e1)
    have sh := o.shr rfl
    cases sh with
    | @dic a _ _ vs hd hl hnd hs =>
      rcases hd with hd | ⟨od', hd⟩
      · refine .inl ⟨a, _, r.sF _ _ hd, trivial, fun od => ht _ _ _ _ ⟨a, od, _, e3, upd_same⟩ (s.snd P E env hn1 ⟨upd F a (.frz od (.dK (ks.zip vs))), upd H a (.frz od (.dK (ks.zip vs))), L, e.pins⟩ _ σ _ L _ hP (r.lock (od := od) hd) ⟨fun env' F' σ' H' L' a' r' => ?_, fun d env' F' σ' H' L' v M a' r' o nd kk => ?_, fun env' F' σ' H' L' a' r' => ?_, fun env' F' σ' H' L' a' r' => ?_, fun x env' F' σ' H' L' C dd a' r' ie => absurd a' (hx _ _)⟩)⟩
        · obtain ⟨_, z, u⟩ := Rel.unlock r hd r'
          exact ⟨z, st.nx _ _ _ _ _ a' u⟩
        · obtain ⟨hF', z, u⟩ := Rel.unlock r hd r'
          have na : ∀ b ∈ M, b ≠ a := fun b m z => by have := (kk b m).1; rw [z, hF'] at this; cases this
          refine ⟨z, st.rt _ _ _ _ _ _ _ _ a' u (o.lock (sameL_unlock hF') fun b m o q => by rw [upd_ne (na b m)]; exact q) nd fun b m => ⟨by rw [upd_ne (na b m)]; exact (kk b m).1, ?_⟩⟩
          rcases (kk b m).2 with y | y
          · exact r.ln b y
          · have y : upd H a _ b = none := y
            rw [upd_ne (na b m)] at y
            exact r.h0 y
        · obtain ⟨_, z, u⟩ := Rel.unlock r hd r'
          exact ⟨z, st.bk _ _ _ _ _ a' u⟩
        · obtain ⟨_, z, u⟩ := Rel.unlock r hd r'
          exact ⟨z, st.ct _ _ _ _ _ a' u⟩
      · exact .inr (ht _ _ _ _ ⟨a, od', _, e3, r.sF _ _ hd⟩ (s.snd P E env hn1 e F σ H L Dn hP r st))
theorem tFor_lk {i : Nat} {g : TG} {tb : TS} {D : Ends} {σ : St} {H : Hp} (h : Lk i σ H) (q : tFor (fun σ H R => Lk i σ H -> iKeys (tVar i) σ H R) g tb D σ H) : tFor (iKeys (tVar i)) g tb D σ H := q h
def xsForD (i : Nat) (g : XG W) (b : XS W) : XS W := xsLock i (xsFor (xiKeysL i) g b) (fun E => tFor (iKeys (tVar i)) g.t (b.t E)) (fun _ _ _ _ h q => tFor_lk h q)
theorem ps_forD {X : Cx} {i : Nat} {st : Stmt} {g : TG} {tb : TS} (h : PS X st (tFor (iKeys (tVar i)) g tb)) : PS X st (fun D σ H => tLock (tFor (iKeys (tVar i)) g tb) D σ H \/ tFor (iKeys (tVar i)) g tb D σ H) := ps_alt (ps_lock h) h
theorem pe_lockU {X : Cx} {e : Expr} {t : TE} (h : PE X e t) : PE X e (fun σ H Q => tLockE t σ H Q \/ t σ H Q) := pe_alt (pe_lock h) h
def dc1 (g : XG W) (c : XT W) (k x : XP W) (env : Py.Env) (d : D) : Option (Option (Key × D)) := (g.ev [] d env).bind fun e2 => (c.ev e2).bind fun b => if b = true then ((k.evF e2).bind keyD).bind fun y => (x.evF e2).map fun z => some (y, z) else some none
def putO (acc : List Key × List D) : Option (Key × D) -> Option (List Key × List D)
  | some p => putP acc.1 acc.2 p.1 p.2
  | none => some acc
def dcL (f : D -> Option (Option (Key × D))) : List D -> List Key × List D -> Option (List Key × List D)
  | [], acc => some acc
  | d :: ds, acc => (f d).bind fun o => (putO acc o).bind (dcL f ds)
theorem dcL_take {f : D -> Option (Option (Key × D))} : ∀ {ds : List D} {acc r : List Key × List D}, dcL f ds acc = some r -> ∃ rs : Nat -> List Key × List D, rs 0 = acc /\ rs ds.length = r /\ (∀ (i : Nat) (d : D), ds[i]? = some d -> ∃ o, f d = some o /\ putO (rs i) o = some (rs (i + 1)))
  | [], acc, r, h => by cases h; exact ⟨fun _ => acc, rfl, rfl, fun i d h => by simp at h⟩
  | d :: ds, acc, r, h => by
    obtain ⟨o, e1, h⟩ := Option.bind_eq_some_iff.mp h
    obtain ⟨acc2, e2, h⟩ := Option.bind_eq_some_iff.mp h
    obtain ⟨rs, r0, r1, r2⟩ := dcL_take h
    refine ⟨fun i => match i with | 0 => acc | i + 1 => rs i, rfl, r1, fun i d' hd => ?_⟩
    cases i with
    | zero => simp at hd; subst hd; exact ⟨o, e1, by dsimp only; rw [r0]; exact e2⟩
    | succ i => exact r2 i d' (by simpa using hd)
theorem ae_dc {wi : TI} {g : TG} {tt : TT} {tk tv : TE} {vs : List Nat} {ds : List D} (h : AIp W wi env ds) (hg : GW g vs) (rs : Nat -> List Key × List D) (h0 : rs 0 = ([], []))
    (hs : ∀ (i : Nat) (d : D), ds[i]? = some d -> AG W [] g d (wipeE env vs) fun e2 => ∃ b, AT W tt e2 b /\ (b = true -> ∃ y k z, AE W tk e2 (rF W y) /\ keyD y = some k /\ AE W tv e2 (rF W z) /\ putP (rs i).1 (rs i).2 k z = some (rs (i + 1))) /\ (b = false -> rs (i + 1) = rs i))
    (hz : ds.length < 1000000) : AE W (tDc wi g tt tk tv vs) env (rO W (.odic (rs ds.length).1 (rs ds.length).2)) := fun e F σ H L Q r q =>
  h e F σ H L _ r fun J F1 H1 x1 sq => by
    intro Dl hD
    have r1 := (r.ext x1).nopin
    obtain ⟨Lw, rw', mw⟩ := r1.wipe rfl vs
    have hF1 : F1 Dl = none := x1.s.free hD
    have hH : H Dl = none := x1.h.free hD
    let Iv : Nat -> Hp -> Prop := fun i H' => ∃ F' ws, Ext F H F' H' /\ (Same F1 F' /\ Same H1 H') /\ Rel W { e with pins := [] } (wipeE env vs) F' (wipe σ vs) H' Lw /\ H' Dl = some (.dK ((rs i).1.zip ws)) /\ F' Dl = none /\ Shrs W F' (rs i).2 ws /\ (rs i).1.length = ws.length /\ (rs i).1.Nodup /\ (rs i).1.length <= i
    refine ⟨fun i m H' => m = ds.length - i /\ i <= ds.length /\ Iv i H', ⟨ds.length, rfl, Nat.zero_le _, F1, [], x1.trans (.newH x1.s hD), ⟨Same.refl _, same_new hD⟩, rw'.ext (.newH x1.s hD), by rw [h0]; exact upd_same, hF1, by rw [h0]; exact .nil, by rw [h0]; rfl, by rw [h0]; exact .nil, by rw [h0]; exact Nat.le_refl _⟩, ?_⟩
    rintro i m H' ⟨rfl, hi, F', ws, xE, s1, rr, hl, hFD, os, lk, nd, hle⟩
    have hDL : Dl ∉ Lw := fun z => by
      obtain ⟨o, ho⟩ := rw'.slots.lives Dl z
      rw [hD] at ho; cases ho
    by_cases hlt : i < ds.length
    · have hd' : ds[i]? = some ds[i] := List.getElem?_eq_getElem hlt
      obtain ⟨g1, g2⟩ := sq.go i _ F' H' s1.1 s1.2 rr.sF hd'
      refine .inr ⟨g1, Iv (i + 1), fun H'' p' => ⟨ds.length - (i + 1), by omega, rfl, hlt, p'⟩, fun x H2 y => ?_⟩
      obtain ⟨F2, x2, sx⟩ := g2 x H2 y
      have rr2 := rr.ext x2
      have fin : ∀ {Fa Ha}, Ext F2 H2 Fa Ha -> Ext F H Fa Ha /\ (Same F1 Fa /\ Same H1 Ha) /\ Rel W { e with pins := [] } (wipeE env vs) Fa (wipe σ vs) Ha Lw /\ Ha Dl = some (.dK ((rs i).1.zip ws)) /\ Fa Dl = none /\ Shrs W Fa (rs i).2 ws := fun {Fa Ha} xa => by
        have x3 := x2.trans xa
        refine ⟨xE.trans x3, ⟨s1.1.trans x3.f, s1.2.trans x3.h⟩, rr.ext x3, x3.h _ _ hl, ?_, os.mono x3.f⟩
        cases z : Fa Dl with
        | none => rfl
        | some u =>
          rcases x3.n Dl u z with w | w
          · rw [hFD] at w; cases w
          · rw [hl] at w; cases w
      have step := hg x (wipe σ vs) H2 _ (hs i _ hd' { e with pins := [] } F2 (wipe σ vs) H2 Lw x (fun σ2 H2 => tt σ2 H2 fun b H3 => if b = true then tk σ2 H3 fun y H4 => tv σ2 H4 fun z H5 => ∃ kvs k, y = kV k /\ H5 Dl = some (.dK kvs) /\ kvs.length < sizeLine /\ Iv (i + 1) (upd H5 Dl (.dK (putK kvs k z))) else Iv (i + 1) H3) rfl rr2 sx fun env2 σ2 L2 k2 q2 => ?_)
      · rw [wipe_wipe] at step
        exact step
      obtain ⟨b, hb, hy, hn⟩ := k2
      refine hb _ F2 σ2 H2 L2 _ q2 fun F3 H3 x3 => ?_
      cases b with
      | false =>
        obtain ⟨a1, a2, a3, a4, a5, a6⟩ := fin x3
        rw [if_neg (by decide)]
        refine ⟨F3, ws, a1, a2, a3, ?_, a5, ?_, ?_, ?_, ?_⟩
        · rw [hn rfl]; exact a4
        · rw [hn rfl]; exact a6
        · rw [hn rfl]; exact lk
        · rw [hn rfl]; exact nd
        · rw [hn rfl]; omega
      | true =>
        obtain ⟨y, k, z, htk, hk, htv, hput⟩ := hy rfl
        rw [if_pos rfl]
        refine htk _ F3 σ2 H3 L2 _ (q2.ext x3) fun w F4 H4 x4 sy => htv _ F4 σ2 H4 L2 _ ((q2.ext x3).ext x4) fun w2 F5 H5 x5 sz => ?_
        obtain ⟨a1, a2, a3, a4, a5, a6⟩ := fin ((x3.trans x4).trans x5)
        have hzl : ((rs i).1.zip ws).length < sizeLine := by
          rw [List.length_zip, <- lk, Nat.min_self]
          exact Nat.lt_of_le_of_lt hle (Nat.lt_of_lt_of_le (Nat.lt_trans hlt hz) (by decide))
        refine ⟨_, k, keyD_ok sy hk, a4, hzl, ?_⟩
        have ext2 : ∀ o, Ext F H F5 (upd H5 Dl o) := fun o => ⟨a1.f, fun b u hb => by rw [upd_ne (fun z => by rw [z, a5] at hb; cases hb)]; exact a1.s _ _ hb, fun b u hb => by rw [upd_ne (fun z => by rw [z, hH] at hb; cases hb)]; exact a1.h _ _ hb, a1.n⟩
        have same2 : ∀ o, Same F1 F5 /\ Same H1 (upd H5 Dl o) := fun o => ⟨a2.1, fun b u hb => by rw [upd_ne (fun z => by rw [z, hD] at hb; cases hb)]; exact a2.2 _ _ hb⟩
        unfold putP at hput
        cases hpos : pos k (rs i).1 with
        | none =>
          rw [hpos] at hput
          have hput := Option.some.inj hput
          have e1 : (rs (i + 1)).1 = (rs i).1 ++ [k] := by rw [<- hput]
          have e2 : (rs (i + 1)).2 = (rs i).2 ++ [z] := by rw [<- hput]
          rw [putK_none lk hpos]
          refine ⟨F5, ws ++ [w2], ext2 _, same2 _, a3.free hDL a5 (rw'.h0 hD), by rw [e1]; exact upd_same, a5, ?_, ?_, ?_, ?_⟩
          · rw [e2]; exact a6.append (.cons sz .nil)
          · rw [e1]; simp [lk]
          · rw [e1, List.nodup_append]
            exact ⟨nd, by simp, fun x hx y hy z => pos_none_has hpos x hx (by rw [z]; simpa using hy)⟩
          · rw [e1]; simp; exact hle
        | some j =>
          rw [hpos] at hput
          obtain ⟨hall, hput⟩ := ite_some hput
          have e1 : (rs (i + 1)).1 = (rs i).1 := by rw [<- hput]
          have e2 : (rs (i + 1)).2 = (rs i).2.set j z := by rw [<- hput]
          have hj : j < (rs i).1.length := (List.getElem?_eq_some_iff.mp (pos_get hpos)).1
          have hjx : j < (rs i).2.length := by have := a6.length; omega
          rw [putK_some lk nd hpos]
          refine ⟨F5, ws.set j w2, ext2 _, same2 _, a3.free hDL a5 (rw'.h0 hD), by rw [e1]; exact upd_same, a5, ?_, ?_, ?_, ?_⟩
          · rw [e2, set_split hjx, set_split (by rw [<- a6.length]; exact hjx), List.append_assoc, List.append_assoc]
            exact (a6.take j).append (.cons sz (a6.drop (j + 1)))
          · rw [e1, List.length_set]; exact lk
          · rw [e1]; exact nd
          · rw [e1]; omega
    · have e0 : i = ds.length := by omega
      subst e0
      refine .inl ⟨sq.stop F' H' s1.1 s1.2 rr.sF, q _ F' H' xE ⟨[Dl], .odic hl lk nd os.owns, by simp, fun a ha => ?_⟩⟩
      rw [List.mem_singleton.mp ha]; exact ⟨hH, hFD⟩
def xDc (it : XI W) (g : XG W) (c : XT W) (k x : XP W) : XP W where
  t := tDc it.t g.t c.t k.t x.t g.own
  ev env := (it.evP env).bind fun ds => if ds.length < 1000000 then (dcL (dc1 g c k x (wipeE env g.own)) ds ([], [])).map fun q => (.fr, .odic q.1 q.2) else none
  snd := fun {env kd d} e => by
    obtain ⟨ds, e1, e⟩ := Option.bind_eq_some_iff.mp e
    split at e
    · rename_i hl
      obtain ⟨q, e2, e⟩ := Option.map_eq_some_iff.mp e
      cases e
      obtain ⟨rs, r0, r1, r2⟩ := dcL_take e2
      rw [<- r1]
      refine ae_dc (it.sP e1) (g.gw fun _ m => m) rs r0 (fun i d hd => ?_) hl
      obtain ⟨o, h, hr⟩ := r2 i d hd
      obtain ⟨env2, g1, h⟩ := Option.bind_eq_some_iff.mp h
      obtain ⟨b, c1, h⟩ := Option.bind_eq_some_iff.mp h
      intro e0 F σ H L v Q hP r s q
      refine g.snd g1 e0 F σ H L v Q hP r s fun env3 σ2 L2 z r3 => ?_
      subst z
      refine q _ σ2 L2 ⟨b, c.snd c1, fun hb => ?_, fun hb => ?_⟩ r3
      · subst hb
        obtain ⟨y, h8, h⟩ := Option.bind_eq_some_iff.mp h
        obtain ⟨z, h9, rfl⟩ := Option.map_eq_some_iff.mp h
        obtain ⟨yd, h10, h11⟩ := Option.bind_eq_some_iff.mp h8
        exact ⟨yd, y, z, k.sF h10, h11, x.sF h9, hr⟩
      · subst hb
        cases h
        exact (Option.some.inj hr).symm
    · cases e
def xDcD (i : Nat) (g : XG W) (c : XT W) (k x : XP W) : XP W := xpLock i (xDc (xiKeysL i) g c k x) (tDc (iKeys (tVar i)) g.t c.t k.t x.t g.own) (fun _ _ _ h q => q h)
end
end Py
namespace Py
open PySem L2
section
variable {T : Tbl} {W : Wd T} {env : Py.Env} {d : D} {P : List Nat} {E : WX} {A : AEnds}
theorem D.putAt_snoc {s : Pst} {n x y : D} : ∀ {st : List Pst} {d : D}, d.at st = some n -> n.sub s = some x -> d.putAt (st ++ [s]) y = d.putAt st (n.put s y)
  | [], d, h, q => by
    have h : some d = some n := h
    cases h
    show (match n.sub s with | some x => n.put s (x.putAt [] y) | none => n) = _
    rw [q]; rfl
  | p :: st, d, h, q => by
    obtain ⟨z, h1, h2⟩ := Option.bind_eq_some_iff.mp h
    show (match d.sub p with | some x => d.put p (x.putAt (st ++ [s]) y) | none => d) = (match d.sub p with | some x => d.put p (x.putAt st (n.put s y)) | none => d)
    rw [h1]
    dsimp only
    rw [D.putAt_snoc h2 q]
theorem valV_at {k : Key} : ∀ {ks : List Key} {vs : List V} {j : Nat}, ks.length = vs.length -> pos k ks = some j -> valV (ks.zip vs) k = vs[j]?
  | [], _, _, _, h => by cases h
  | _ :: _, [], _, h, _ => by simp at h
  | k1 :: ks, u :: vs, j, hl, h => by
    have h : (if k1 = k then some 0 else (pos k ks).map (· + 1)) = some j := h
    rw [List.zip_cons_cons]
    split at h
    · rename_i e; cases h; rw [valV_pos (p := (k1, u)) e]; rfl
    · rename_i e
      obtain ⟨i, h1, rfl⟩ := Option.map_eq_some_iff.mp h
      rw [valV_neg (p := (k1, u)) e, valV_at (by simpa using hl) h1]; rfl
theorem valV_none {k : Key} {ks : List Key} {vs : List V} (hl : ks.length = vs.length) (h : pos k ks = none) : valV (ks.zip vs) k = none := by
  cases e : valV (ks.zip vs) k with
  | none => rfl
  | some x =>
    have := hasK_valV (k := k) hl
    rw [e] at this
    have this : hasK ks k = true := this.symm
    unfold hasK at this
    obtain ⟨k', m, e'⟩ := List.any_eq_true.mp this
    exact absurd (of_decide_eq_true e') (pos_none_has h k' m)
def appK (ks : List Key) (xs : List D) (k : Key) (x : D) : Option D := if xs.length < 1000000 then (match pos k ks with
  | none => some (.odic (ks ++ [k]) (xs ++ [.olst [x]]))
  | some i => match xs[i]? with
    | some (.olst ys) => if ys.length < 1000000 then some (.odic ks (xs.set i (.olst (ys ++ [x])))) else none
    | _ => none) else none
def dappE (n y x : D) : Option D := match n with
  | .odic ks xs => guardB (isSh x) ((keyD y).bind fun k => appK ks xs k x)
  | _ => none
theorem dappE_ok {n y x z : D} (h : dappE n y x = some z) : ∃ ks xs k, n = .odic ks xs /\ isSh x = true /\ keyD y = some k /\ appK ks xs k x = some z := by
  cases n <;> first | (cases h; done) | skip
  obtain ⟨h1, h⟩ := guardB_some h
  obtain ⟨k, h2, h3⟩ := Option.bind_eq_some_iff.mp h
  exact ⟨_, _, k, rfl, h1, h2, h3⟩
def xsDapp (p : XPl W) (k : XP W) (j : Nat) : XS W where
  t _ := tDrop (tBM W.K "list" rAppend (tDSetd p.t k.t (tLst tNil)) (tCons (tVar j) tNil))
  ev P env := RS.ofO ((p.ev env).bind fun q => (k.evF env).bind fun y => (getS env j).bind fun x => (dappE q.2 y x).bind fun z => (getS env p.root).map fun d0 => env.set p.root (some (d0.putAt q.1 z)))
  snd := fun P E env hn e F σ H L Dn hP r s => by
    cases h2 : ((p.ev env).bind fun q => (k.evF env).bind fun y => (getS env j).bind fun x => (dappE q.2 y x).bind fun z => (getS env p.root).map fun d0 => env.set p.root (some (d0.putAt q.1 z))) with
    | none => exact absurd (by rw [h2]; rfl) hn
    | some e2 =>
      rw [h2] at s
      obtain ⟨⟨st, n⟩, e1, h3⟩ := Option.bind_eq_some_iff.mp h2
      obtain ⟨y, ey, h3⟩ := Option.bind_eq_some_iff.mp h3
      obtain ⟨x, ex, h3⟩ := Option.bind_eq_some_iff.mp h3
      obtain ⟨z, ez, h4⟩ := Option.bind_eq_some_iff.mp h3
      obtain ⟨d0', e4, h5⟩ := Option.map_eq_some_iff.mp h4
      subst h5
      obtain ⟨d0, h0, h1⟩ := p.at_ e1
      rw [getS_some e4] at h0
      cases h0
      obtain ⟨ks, xs, kk, rfl, hsx, hk, ha⟩ := dappE_ok ez
      obtain ⟨v0, _, _, _, hs, _⟩ := r.focus (getS_some e4) h1
      obtain ⟨xv, Mx, hxv, ox, _⟩ := slot_get r (getS_some ex)
      have sx := ox.shr hsx
      refine p.loc e1 e F σ H L v0 _ r hs fun vn F1 H1 x1 p1 => ?_
      have r1 := r.ext x1
      obtain ⟨v0', vn', Ln, Lr, e5, p2, o, _⟩ := r1.focus (getS_some e4) h1
      rw [hs] at e5; cases e5
      cases p1.det p2
      cases o with
      | sh y => cases y
      | @odic a _ _ vs La hda hl hnd os =>
        refine ⟨a, rfl, .inl ⟨_, .inl hda⟩, k.sF ey e F1 σ H1 L _ r1 fun u F2 H2 x2 y2 => ⟨Nat.zero_le _, fun q hq => ?_⟩⟩
        have r2 := r1.ext x2
        have hd2 := x2.h _ _ hda
        have nq : F2 q = none := x2.s.free hq
        have aq : a ≠ q := fun z => by rw [z, hq] at hd2; cases hd2
        have sx2 := (sx.mono x1.f).mono x2.f
        have hd3 : upd H2 q (.lst []) a = some (.dK (ks.zip vs)) := by rw [upd_ne aq]; exact hd2
        have hzl : xs.length < sizeLine -> (ks.zip vs).length < sizeLine := fun h => by rw [List.length_zip, <- os.length]; exact Nat.lt_of_le_of_lt (Nat.min_le_right _ _) h
        have hkv := keyD_ok y2 hk
        unfold appK at ha
        have hz : xs.length < 1000000 := by
          by_cases h : xs.length < 1000000
          · exact h
          · rw [if_neg h] at ha; cases ha
        rw [if_pos hz] at ha
        cases hpos : pos kk ks with
        | none =>
          rw [hpos] at ha
          cases ha
          refine ⟨_, kk, hd3, hkv, hzl (Nat.lt_of_lt_of_le hz (by decide)), fun v hv => ?_, fun _ => ?_⟩
          · rw [valV_none hl hpos] at hv; cases hv
          · have hq4 : upd (upd H2 q (.lst [])) a (.dK (putK (ks.zip vs) kk (.ref q))) q = some (.lst []) := by rw [upd_ne (fun z => aq z.symm), upd_same]
            refine ⟨.inl ⟨rfl, _, .of hq4⟩, _, hxv, q, [], xv, rfl, rfl, hq4, by decide, ?_⟩
            have he : upd (upd (upd H2 q (.lst [])) a (.dK (putK (ks.zip vs) kk (.ref q)))) q (.lst ([] ++ [xv])) = upd (upd H2 q (.lst [xv])) a (.dK (putK (ks.zip vs) kk (.ref q))) := by
              funext b
              by_cases h1 : b = q
              · subst h1; rw [upd_same, upd_ne (fun z => aq z.symm), upd_same]; rfl
              · rw [upd_ne h1]
                by_cases h2 : b = a
                · subst h2; rw [upd_same, upd_same]
                · rw [upd_ne h2, upd_ne h2, upd_ne h1, upd_ne h1]
            rw [he]
            have ext3 : Ext F2 H2 F2 (upd H2 q (.lst [xv])) := .newH x2.s hq
            have go : rDput (.ref a) [u, .ref q] (upd H2 q (.lst [xv])) (fun _ H => Dn.nx σ H) := by
              refine am_mop mop_dput (n := .odic ks xs) (n' := .odic (ks ++ [kk]) (xs ++ [.olst [x]])) (d := .non) (ds := [y, .olst [x]]) (r2.ext ext3) (getS_some e4) h1 hs ((p1.mono x2.h).mono ext3.h) ?_ (Ms := [] ++ ([q] ++ [])) (.cons (.sh y2) (.cons (.olst upd_same (Shrs.owns (.cons sx2 .nil))) .nil)) (by simp) (fun b hb => ?_) fun v2 F2 H2 L2 M2 r2 o2 n2 k2 => s.nx _ _ _ _ _ rfl r2
              · show (if xs.length < 1000000 then (keyD y).bind fun k => (putP ks xs k (.olst [x])).map fun q => (D.odic q.1 q.2, D.non) else none) = _
                rw [if_pos hz, hk, Option.bind_some]
                unfold putP
                rw [hpos]
                rfl
              · have hb : b = q := by simpa using hb
                rw [hb]
                refine ⟨fun z => ?_, nq, r2.h0 hq⟩
                obtain ⟨w, hw⟩ := r2.slots.lives q z
                rw [hq] at hw; cases hw
            obtain ⟨a', k2, v', H', ex', ey', hd, q'⟩ := go
            cases ex'
            cases ey'
            rcases hd with ⟨kvs, k3, h3, h4, h5, h6⟩ | ⟨kvs, k3, b, h3, _⟩
            · rw [upd_ne aq, hd2] at h3
              cases h3
              rw [hkv] at h4
              cases kV_inj h4
              rw [h6] at q'
              exact q'
            · rw [upd_ne aq, hd2] at h3; cases h3
        | some i =>
          rw [hpos] at ha
          dsimp only at ha
          split at ha
          · rename_i ys hys
            obtain ⟨hzy, ha⟩ := ite_some ha
            cases ha
            have hi := (List.getElem?_eq_some_iff.mp hys).1
            have hsub : (D.odic ks xs).sub (.key kk) = some (.olst ys) := by
              show (pos kk ks).bind _ = _
              rw [hpos]; exact hys
            have hat : d0'.at (st ++ [.key kk]) = some (.olst ys) := D.at_snoc h1 hsub
            have ext3 : Ext F2 H2 F2 (upd H2 q (.lst [])) := .newH x2.s hq
            have r3 := r2.ext ext3
            have p3 := (p1.mono x2.h).mono ext3.h
            have hvl : i < vs.length := by have := os.length; omega
            have hstep : VStep (upd H2 q (.lst [])) (.ref a) (.key kk) vs[i] := by
              obtain ⟨z1, z2⟩ := zipK_get hl
              exact ⟨a, _, rfl, hd3, i, by rw [z1]; exact hpos, by rw [z2]; exact List.getElem?_eq_getElem hvl⟩
            have p4 := p3.snoc hstep
            refine ⟨_, kk, hd3, hkv, ?_, fun v hv => ?_, fun hv => ?_⟩
            · exact hzl (Nat.lt_of_lt_of_le hz (by decide))
            · rw [valV_at hl hpos, List.getElem?_eq_getElem hvl] at hv
              cases hv
              obtain ⟨w0, wn, Lw, Lv, e6, p5, ow, _⟩ := r3.focus (getS_some e4) hat
              rw [hs] at e6; cases e6
              cases p4.det p5
              have ap := am_mop mop_append r3 (getS_some e4) hat hs p4 (ds := [x]) (n' := .olst (ys ++ [x])) (d := .non) (by show (if ys.length < 1000000 then _ else none) = _; rw [if_pos hzy]) (Ms := []) (Shrs.owns (.cons (sx2) .nil)) .nil (fun _ m => nomatch m) (Q := fun _ H => Dn.nx σ H) fun v2 F2 H2 L2 M2 r2 o2 n2 k2 => s.nx _ _ _ _ _ (by
                rw [D.putAt_snoc h1 hsub]
                show RS.ofO _ = _
                unfold D.put
                have : (D.odic ks xs).place (.key kk) = some i := hpos
                rw [this]
                rfl) r2
              generalize vs[i] = w at *
              refine ⟨?_, _, hxv, ap⟩
              cases ow with
              | sh y => cases y
              | olst h _ => exact .inl ⟨rfl, _, .of h⟩
            · rw [valV_at hl hpos, List.getElem?_eq_getElem hvl] at hv; cases hv
          · cases ha
end
theorem hu1 {k : Nat} {A : Around} (r : Room k A) : A.units + 1 < cLine := by have := r.un; omega
end Py
namespace Py
open PySem L2
section
variable {T : Tbl} {W : Wd T} {env : Py.Env} {P : List Nat} {E : WX} {A : AEnds}
end
end Py
namespace Py
open PySem L2
section
variable {T : Tbl} {W : Wd T} {env : Py.Env}
def dispE : List (XP W × XP W) -> Py.Env -> Option (List (Key × D))
  | [], _ => some []
  | p :: r, env => (p.1.evF env).bind fun x => (keyD x).bind fun k => (p.2.evF env).bind fun y => (dispE r env).map ((k, y) :: ·)
theorem disp_pairs : ∀ (ps : List (XP W × XP W)) {kds : List (Key × D)}, dispE ps env = some kds -> ∀ (e : Ent) (F : Hp) (σ : St) (H : Hp) (L : List Addr) (Q : List (V × V) -> Hp -> Prop), Rel W e env F σ H L ->
    (∀ (kvs : List (Key × V)) F' H', Ext F H F' H' -> kvs.map (·.1) = kds.map (·.1) -> Shrs W F' (kds.map (·.2)) (kvs.map (·.2)) -> Q (kvs.map fun kv => (kV kv.1, kv.2)) H') -> tPairs (ps.map fun p => (p.1.t, p.2.t)) σ H Q
  | [], _, h, e, F, σ, H, L, Q, r, q => by
    cases h
    exact q [] F H (.refl r.sF) rfl .nil
  | p :: ps, _, h, e, F, σ, H, L, Q, r, q => by
    obtain ⟨x, e1, h⟩ := Option.bind_eq_some_iff.mp h
    obtain ⟨k, e2, h⟩ := Option.bind_eq_some_iff.mp h
    obtain ⟨y, e3, h⟩ := Option.bind_eq_some_iff.mp h
    obtain ⟨z, e4, rfl⟩ := Option.map_eq_some_iff.mp h
    refine p.1.sF e1 e F σ H L _ r fun v F1 H1 x1 y1 => p.2.sF e3 e F1 σ H1 L _ (r.ext x1) fun u F2 H2 x2 y2 => ?_
    refine disp_pairs ps e4 e F2 σ H2 L _ ((r.ext x1).ext x2) fun kvs F3 H3 x3 ek ev => ?_
    have hv := keyD_ok y1 e2
    subst hv
    exact q ((k, u) :: kvs) F3 H3 ((x1.trans x2).trans x3) (by simp [ek]) (.cons (y2.mono x3.f) ev)
theorem merge_nodup : ∀ (more kvs : List (Key × V)), ((kvs ++ more).map (·.1)).Nodup -> mergeK kvs more = kvs ++ more
  | [], kvs, _ => (List.append_nil kvs).symm
  | p :: r, kvs, h => by
    have hn : (kvs.any fun kv => decide (kv.1 = p.1)) = false := by
      rw [Bool.eq_false_iff]
      intro z
      obtain ⟨q, hq, e⟩ := List.any_eq_true.mp z
      rw [List.map_append, List.nodup_append] at h
      exact h.2.2 q.1 (List.mem_map.mpr ⟨q, hq, rfl⟩) p.1 (by simp) (of_decide_eq_true e)
    have e : mergeK kvs (p :: r) = mergeK (kvs ++ [(p.1, p.2)]) r := by
      show mergeK (putK kvs p.1 p.2) r = _
      unfold putK
      rw [if_neg (by rw [hn]; decide)]
    rw [e, merge_nodup r (kvs ++ [(p.1, p.2)]) (by simpa using h)]
    simp
theorem zip_self {α β : Type} : ∀ l : List (α × β), (l.map (·.1)).zip (l.map (·.2)) = l
  | [] => rfl
  | p :: l => by rw [List.map_cons, List.map_cons, List.zip_cons_cons, zip_self l]
def xDisp (ps : List (XP W × XP W)) : XP W where
  t := tDisp (ps.map fun p => (p.1.t, p.2.t))
  ev env := (dispE ps env).bind fun kds => if (kds.map (·.1)).Nodup /\ kds.length <= 15 then some (.fr, .odic (kds.map (·.1)) (kds.map (·.2))) else none
  snd := fun {env k d} h => by
    obtain ⟨kds, e1, h⟩ := Option.bind_eq_some_iff.mp h
    obtain ⟨⟨nd, hl⟩, e⟩ := ite_some h
    cases e
    intro e F σ H L Q r q p hp
    refine disp_pairs ps e1 e F σ (upd H p (.dK [])) L _ (r.ext (.newH r.sF hp)) fun kvs F2 H2 x2 ek ev => ?_
    have h2 : H2 p = some (.dK []) := x2.h _ _ upd_same
    have hF : F2 p = none := by
      cases z : F2 p with
      | none => rfl
      | some u =>
        rcases x2.n p u z with y | y
        · rw [r.sF.free hp] at y; cases y
        · rw [upd_same] at y; cases y
    have hlen : kvs.length = kds.length := by have := congrArg List.length ek; simpa using this
    refine ⟨h2, kvs, rfl, by omega, ?_⟩
    rw [merge_nodup kvs [] (by rw [List.nil_append, ek]; exact nd), List.nil_append]
    have ne : ∀ {b : Addr} {o : HO}, H b = some o -> b ≠ p := fun {b o} hb z => by rw [z, hp] at hb; cases hb
    refine q _ F2 _ ⟨x2.f, fun b o z => ?_, fun b o z => ?_, fun b o z => ?_⟩ ⟨[p], .odic (vs := kvs.map (·.2)) ?_ (by simp [hlen]) nd ev.owns, by simp, fun a m => ?_⟩
    · rw [upd_ne (fun e => by rw [e, hF] at z; cases z)]; exact x2.s _ _ z
    · rw [upd_ne (ne z)]; exact x2.h _ _ (by rw [upd_ne (ne z)]; exact z)
    · rcases x2.n b o z with y | y
      · exact .inl y
      · refine .inr ?_
        by_cases e : b = p
        · rw [e]; exact hp
        · rwa [upd_ne e] at y
    · rw [upd_same]
      congr 2
      rw [<- ek]
      exact (zip_self kvs).symm
    · rw [List.mem_singleton.mp m]
      exact ⟨hp, hF⟩
end
end Py
namespace Py
open PySem L2
section
variable {T : Tbl} {W : Wd T}
def okD0 (r : Rz) : Option D := match r with
  | .ok d _ => some d
  | _ => none
theorem okD0_ok {r : Rz} {d : D} (h : okD0 r = some d) : ∃ b, r = .ok d b := by
  cases r <;> cases h
  exact ⟨_, rfl⟩
end
end Py
namespace Py
open PySem L2 PyProof.Rows
section
variable {P : Program} {w : World} {A : Around} {E : Value -> Shared -> Prop} {s : Shared}
end
end Py
namespace Py
open PySem L2
section
variable {X : Cx} {k n : Nat} {f C : Addr} {fd : FuncData} {ps ks : List Str} {sp : Sp} {E : WX} {x : Str} {p pos : Pos} {e : Expr} {es : List Expr} {kws : List Keyword} {t tkw : TA} {g : List Value -> List Value -> List Value} {gV : List V -> List V -> List V} {dvs : List V} {ds : List Value}
end
section
variable {T : Tbl} {W : Wd T} {env : Py.Env} {P : List Nat} {E : WX} {A : AEnds} {d : D}
theorem zip_snd {fs : List String} {ds : List D} (h : ds.length = fs.length) : (fs.zip ds).map (·.2) = ds := List.map_snd_zip (by omega)
end
end Py
namespace Py
open PySem L2
section
variable {T : Tbl} {W : Wd T} {env : Py.Env} {P : List Nat} {E : WX} {A : AEnds} {d : D} {i : Nat}
theorem IsExn.mono {F F' : Hp} {x : Exn} {C : Value} {dd : Option Addr} (e : Same F F') (h : IsExn W F x C dd) : IsExn W F' x C dd := by
  obtain ⟨h1, h2, h3⟩ := h
  refine ⟨h1, h2, h3.imp id ?_⟩
  rintro ⟨a, vs, h4, h5, h6⟩
  exact ⟨a, vs, h4, e _ _ h5, h6.mono e⟩
def AQ {T : Tbl} (W : Wd T) (i : Nat) (x : Exn) (a : Addr) (cls : Value) (dd : Option Addr) (t : TE) (env : Py.Env) (R : Res) : Prop :=
  ∀ (e : Ent) (F : Hp) (σ : St) (H : Hp) (L : List Addr) (Q : VK), Rel W e env F σ H L -> IsExn W F x cls dd -> σ[i]? = some (some (.ref a)) -> (∀ v F' H', Ext F H F' H' -> R F' H' H v -> Q v H') -> t σ H Q
structure XQ {T : Tbl} (W : Wd T) (i : Nat) where
  t : Addr -> Value -> Option Addr -> TE
  ev : Exn -> Py.Env -> Option (Kd × D)
  snd : ∀ {x env k d}, ev x env = some (k, d) -> ∀ a cls dd, AQ W i x a cls dd (t a cls dd) env (rK W k d)
def XQ.evB (m : XQ W i) (x : Exn) (env : Py.Env) : Option Bool := (toV (m.ev x env)).bind blD
theorem XQ.sB (m : XQ W i) {x : Exn} {b : Bool} (h : m.evB x env = some b) (a : Addr) (cls : Value) (dd : Option Addr) : AQ W i x a cls dd (m.t a cls dd) env (rV W (.bl b)) := by
  obtain ⟨y, e1, e⟩ := Option.bind_eq_some_iff.mp h
  cases blD_ok e
  match e2 : m.ev x env, e1 with
  | some (k, d0), e1 =>
    have e1 : some (fz d0) = some (.bl b) := e1
    exact fun e F σ H L Q r ie hs q => m.snd e2 a cls dd e F σ H L Q r ie hs fun v F' H' x' y => q v F' H' x' (by
      have := rK_view x'.s y
      rwa [Option.some.inj e1] at this)
def toQ (o : Option (Kd × D)) : Option D := match o with
  | some (.fr, d) => if isSh d = true then some d else none
  | some (.pl, d) => if isSh d = true then some d else none
  | some (.vw, d) => if isFlat d = true then some d else none
  | none => none
def XQ.evF (m : XQ W i) (x : Exn) (env : Py.Env) : Option D := toQ (m.ev x env)
theorem XQ.sF (m : XQ W i) {x : Exn} (h : m.evF x env = some d) (a : Addr) (cls : Value) (dd : Option Addr) : AQ W i x a cls dd (m.t a cls dd) env (rF W d) := by
  unfold XQ.evF toQ at h
  intro e F σ H L Q r ie hs q
  split at h
  · rename_i d0 e2
    obtain ⟨h1, rfl⟩ := ite_some h
    exact m.snd e2 a cls dd e F σ H L Q r ie hs fun v F' H' x' ⟨M, o, _, _⟩ => q v F' H' x' (o.shr h1)
  · rename_i d0 e2
    obtain ⟨h1, rfl⟩ := ite_some h
    exact m.snd e2 a cls dd e F σ H L Q r ie hs fun v F' H' x' ⟨M, o⟩ => q v F' H' x' (o.shr h1)
  · rename_i d0 e2
    obtain ⟨h1, rfl⟩ := ite_some h
    exact m.snd e2 a cls dd e F σ H L Q r ie hs fun v F' H' x' y => q v F' H' x' (Shr.flat y h1)
  · cases h
structure XQs {T : Tbl} (W : Wd T) (i : Nat) where
  t : Addr -> Value -> Option Addr -> TA
  ev : Exn -> Py.Env -> Option (List D)
  snd : ∀ {x env ds}, ev x env = some ds -> ∀ a cls dd (e : Ent) (F : Hp) (σ : St) (H : Hp) (L : List Addr) (Q : List V -> Hp -> Prop), Rel W e env F σ H L -> IsExn W F x cls dd -> σ[i]? = some (some (.ref a)) -> (∀ vs F' H', Ext F H F' H' -> Shrs W F' ds vs -> Q vs H') -> t a cls dd σ H Q
structure XH {T : Tbl} (W : Wd T) (i : Nat) where
  t : Addr -> Value -> Option Addr -> TS
  ev : Exn -> List Nat -> Py.Env -> RS
  snd : ∀ {x P env} (a : Addr) (cls : Value) (dd : Option Addr), ev x P env ≠ .no -> ∀ (e : Ent) (F : Hp) (σ : St) (H : Hp) (L : List Addr) (E : WX) (Dn : Ends), P = e.pins.map (·.1) -> Rel W e env F σ H L -> IsExn W F x cls dd -> σ[i]? = some (some (.ref a)) -> Sat W e E (ends (ev x P env)) Dn -> t a cls dd Dn σ H
def XQ.evO (m : XQ W i) (x : Exn) (env : Py.Env) : Option D := toO (m.ev x env)
theorem XQ.sO (m : XQ W i) {x : Exn} (h : m.evO x env = some d) (a : Addr) (cls : Value) (dd : Option Addr) : AQ W i x a cls dd (m.t a cls dd) env (rO W d) := by
  unfold XQ.evO at h
  intro e F σ H L Q r ie hs q
  match e2 : m.ev x env, h with
  | some (.fr, d0), h => cases h; exact m.snd e2 a cls dd e F σ H L Q r ie hs q
  | some (.pl, d0), h =>
    obtain ⟨h1, rfl⟩ := ite_some h
    exact m.snd e2 a cls dd e F σ H L Q r ie hs fun v F' H' x' ⟨M, o⟩ => q v F' H' x' (rO_sh (o.shr h1))
  | some (.vw, d0), h =>
    obtain ⟨h1, rfl⟩ := ite_some h
    exact m.snd e2 a cls dd e F σ H L Q r ie hs fun v F' H' x' y => q v F' H' x' (rO_sh (Shr.flat y h1))
theorem Slots.len {F H : Hp} {env : Py.Env} {σ : St} {L : List Addr} (h : Slots W F H env σ L) : env.length = σ.length := h.length
end
section
variable {X : Cx} {T : Tbl} {W : Wd T} {E : WX}
theorem cx_tk {P : Program} {w : World} {K : PySem.W.Frag} {mg : Str -> Option Value} {base : Heap} {N : List Str} {qual : Str} {sc : Scope} {f : Addr} {cdv : Value} {A : Around} {outer : List PySem.Env} {s : Shared} {H : Hp} {E : XK} :
    Takes (cxOf (L2.CX P w) P w K mg base N qual sc f cdv A outer s H E) (fun c d _ H => E c d H) := takes_of rfl rfl rfl rfl
theorem cx_po {P : Program} {w : World} {K : PySem.W.Frag} {mg : Str -> Option Value} {base : Heap} {N : List Str} {qual : Str} {sc : Scope} {f : Addr} {cdv : Value} {A : Around} {outer : List PySem.Env} {s : Shared} {H : Hp} {E : XK} :
    PassesOwn (model P w) (cxOf (L2.CX P w) P w K mg base N qual sc f cdv A outer s H E).A (cxOf (L2.CX P w) P w K mg base N qual sc f cdv A outer s H E).env (cxOf (L2.CX P w) P w K mg base N qual sc f cdv A outer s H E).xe := passes_of (X := cxOf (L2.CX P w) P w K mg base N qual sc f cdv A outer s H E) rfl
theorem pw_of {P : Program} {w : World} {K : PySem.W.Frag} {mg : Str -> Option Value} {base : Heap} {x qual : Str} {st : Stmt} {N ps : List Str} {k : Nat} {sp : Sp} {f : Addr} {fd : FuncData} (F : FunD K x qual (defArgs st) (defBody st) (defScope st) [] [] f fd) (S : FnScope N ps (defScope st)) (len : ∀ vs H Q E, sp vs H Q E -> vs.length = ps.length)
    (hbody : ∀ (f : Addr) (cdv : Value) (A : Around) (outer : List PySem.Env) (s : Shared) (H : Hp) (vs : List V) (Q : VK) (E : XK), Room k (A.deeper (PyProof.Rows.envOfC qual (defScope st) s.heap.objs.size f cdv)) -> sp vs H Q E ->
      ∃ t, PSs (cxOf (L2.CX P w) P w K mg base N qual (defScope st) f cdv A outer s H E) (defBody st) t /\ t { nx := fun _ H' => Q .non H', rt := Q } (L2.start N vs) H) : FnOk P w K mg base (L2.CX P w) (k + 1) f fd ps sp :=
  F.ok S len fun cdv A outer s H vs Q E hr h => hbody f cdv A outer s H vs Q E hr h
theorem spL_len {K : PySem.W.Frag} : ∀ vs H Q E, spL K vs H Q E -> vs.length = 1 := fun vs H Q E h => by
  obtain ⟨_, _, rfl, _⟩ := h
  rfl
end
end Py
namespace Py
open PySem L2
def IteT (K : PySem.W.Frag) (a : Addr) : It :=
  ⟨fun i H => ∃ (xs : List V) (x : V), SqT K H a xs /\ xs[i]? = some x, fun i H v H' => ∃ T x, v = .ref T /\ H T = none /\ H' = upd H T (.tup [.int (i : Nat), x]) /\ ∀ xs, SqT K H a xs -> xs[i]? = some x, fun i H => ∃ xs : List V, SqT K H a xs /\ xs.length <= i⟩
theorem tup_ne_iter {h : Heap} {a it b : Addr} {xs} {i : Nat} (h1 : h.IsTuple a xs) (h2 : h.IsTupleIter it b i) : a ≠ it := by
  rintro rfl
  obtain ⟨o, e, c, d⟩ := h1
  obtain ⟨o', e', c', d'⟩ := h2
  rw [e] at e'; cases e'
  rw [c] at c'; exact absurd c' (by decide)
theorem tup_ne_enum {h : Heap} {a e b : Addr} {xs} {i : Int} {old : Value} (h1 : h.IsTuple a xs) (h2 : IsEnum h e b i old) : e ≠ a := by
  rintro rfl
  obtain ⟨o, e', c, d⟩ := h1
  have h2 : h.get? _ = some _ := h2
  rw [e'] at h2
  rw [Option.some.inj h2] at c
  have c : Value.type "enumerate" = Value.type "tuple" := c
  exact absurd c (by decide)
theorem turn_enumT {P : Program} {w : World} {K : PySem.W.Frag} {elts : List Expr} {kk : Nat} {tpos : Pos} (a e it : Addr) :
    Turn P w K (.Tuple elts kk tpos) (IteT K a) [e, it] e (fun i h => (∃ old, IsEnum h e it ((i : Nat) : Int) old) /\ h.IsTupleIter it a i /\ e ≠ it) where
  mem := by simp
  obj := fun i h st b hb => by
    obtain ⟨⟨old, he⟩, ⟨o, ho, hc, hd⟩, _⟩ := st
    have e' : b = e \/ b = it := by simpa using hb
    rcases e' with z | z
    · rw [z]; exact ⟨_, he, fun v q => nomatch q⟩
    · rw [z]; exact ⟨o, ho, fun v q => by rw [hd] at q; cases q⟩
  keep := fun i h h' st k => let ⟨⟨old, he⟩, hi, hne⟩ := st; ⟨⟨old, k e (by simp) _ he⟩, hi.at fun o q => k it (by simp) o q, hne⟩
  item := by
    intro X hP hw hK hc i pins s σ H E I hf st hg
    subst hP hw hK
    obtain ⟨⟨old, he⟩, hit, hne⟩ := st
    obtain ⟨xs, x, hq, hx⟩ := hg
    obtain ⟨its, rv, p, hz⟩ := I.tuple hq
    have p' : s.heap.IsTuple a its.toArray := p
    obtain ⟨u0, hu0, ru0⟩ := rv.get hx
    have hlen : i < its.toArray.size := by
      have := (List.getElem?_eq_some_iff.mp hu0).1
      simpa using this
    have hel : e < s.heap.objs.size := Heap.lt_size he
    have hil : it < s.heap.objs.size := by obtain ⟨_, q, _⟩ := hit; exact Heap.lt_size q
    refine wpAny_pyNext_enum_itemD (Draws.tuple (A := X.A.in1) (I.ok.hd hc) it a (tup_ne_iter p' hit) its.toArray) he ⟨hit, p'⟩ hlen hne (by
      have := tup_ne_enum p' he
      simp [hne, this]) fun u h' tk hu ho st' hT hsz hk => ?_
    have hu' : its[i]? = some u := by simpa using hu
    rw [hu0] at hu'; cases hu'
    obtain ⟨hit', _⟩ := st'
    refine ⟨_, rfl, wpAny_letOwnedTupleGo_enum (s := { s with heap := h', toks := tk + 1 }) ho fun h'' he' sb => ?_⟩
    have hT2 : h''.get? s.heap.objs.size = some { cls := .type "tuple", data := .seq #[.int i tk, u0] } := (sb.2 _ (Nat.ne_of_gt hel)).trans hT
    have new : ObjOk X.prog X.w (upd H s.heap.objs.size (.tup [.int (i : Nat), x])) h'' s.heap.objs.size (.tup [.int (i : Nat), x]) :=
      ⟨by show 2 <= sizeLine; decide, [.int i tk, u0], .cons ⟨_, rfl⟩ (.cons ru0 .nil), ⟨_, hT2, rfl, _, rfl⟩⟩
    have I1 : Inv X pins σ (upd H s.heap.objs.size (.tup [.int (i : Nat), x])) { s with heap := h'', toks := tk + 1 } :=
      I.turnedNew (ch := [e, it]) (fun b ob hb q => (sb.2 b (fun z => hb (by simp [z]))).trans (hk b ob (fun z => hb (by simp [z])) (fun z => hb (by simp [z])) q)) hf (Nat.le_refl _) new
    refine ⟨.ref s.heap.objs.size, _, I1, rfl, ⟨_, x, rfl, I.hok.fresh (Nat.le_refl _), rfl, fun ys hy => by rw [I.tuple_inj hy hq]; exact hx⟩, ⟨⟨u0, ?_⟩, hit'.at fun o q => (sb.2 it (Ne.symm hne)).trans q, hne⟩, fun b hb => ?_⟩
    · have e1 : ((i + 1 : Nat) : Int) = (i : Int) + 1 := by omega
      rw [e1]; exact he'
    · have hb' : b < s.heap.objs.size := by
        have e' : b = e \/ b = it := by simpa using hb
        rcases e' with z | z
        · rw [z]; exact hel
        · rw [z]; exact hil
      rw [upd_ne (Nat.ne_of_lt hb')]
      exact (hf b hb).1
  done := by
    intro X hP hw hK hc i pins s σ H E I hf st hg
    subst hP hw hK
    obtain ⟨⟨old, he⟩, hit, hne⟩ := st
    obtain ⟨xs, hq, hx⟩ := hg
    obtain ⟨its, rv, p, hz⟩ := I.tuple hq
    have p' : s.heap.IsTuple a its.toArray := p
    obtain ⟨f0, f1, f2, f3, f4, f5⟩ := hf it (by simp)
    have hl := rv.length
    have hnx : its.toArray[i]? = none := by simp; omega
    have D : Draws X.prog X.w X.A.in1 it [it, a] 0 (fun _ _ => True) (fun _ h => h.IsTupleIter it a i /\ h.IsTuple a its.toArray) := {
      live := fun _ _ st => let ⟨o, ho, _⟩ := st.1; ⟨o, ho⟩
      frame := fun _ _ _ st hk => ⟨st.1.at fun o e => hk it (by simp) o e, st.2.at fun o e => hk a (by simp) o e⟩
      item := fun j s Q E hi st hQ => absurd hi (Nat.not_lt_zero j)
      done := fun s Q E st hE => wpAny_nextOf_tuple_end (I.ok.hd hc) st.1 st.2 hnx hE }
    exact wpAny_pyNext_enum_endD D he ⟨hit, p'⟩ fun h' eb => ⟨rfl, I.turned (t' := s.toks) (fun b o hb q => eb b o hb q) f0 f1 f3 f4 f5⟩
  self := fun A i s Q E st h => let ⟨⟨_, he⟩, _⟩ := st; wpAny_pyIter_enum he h
def iEnumT (K : PySem.W.Frag) (ta : TA) : TI := fun σ H R => ta σ H fun vs H1 => ∃ a xs, vs = [.ref a] /\ SqT K H1 a xs /\ R (IteT K a) H1
theorem pi_enumT {X : Cx} {e : Expr} {ta : TA} {p pos tpos : Pos} {elts : List Expr} {kk : Nat} (hg : Gl X "enumerate") (hm : X.mg "enumerate" = none) (ha : PA X [e] ta) (hs : starEach [e] X.env = [(false, eval e X.env)] := by rfl) :
    PI X (.Tuple elts kk tpos) (.Call (.Name "enumerate" p) [e] [] pos) (iEnumT X.K ta) := by
  refine ⟨fun pins s σ H R I h => ?_⟩
  refine PyProof.Rows.Call_ (ld_blt I hg hm PyProof.Rows.boot_enumerate (PyProof.Rows.callWith_type1 (thn (ha.run pos pins s σ H _ I h) fun us s1 ⟨vs, H1, I1, r1, q1⟩ => ?_) hs rfl))
  obtain ⟨a, xs, ex, hq, q⟩ := q1
  subst ex
  cases r1 with
  | cons r rr =>
    cases rr
    cases r
    obtain ⟨its, rv, p', hz⟩ := I1.tuple hq
    have p2 : s1.heap.IsTuple a its.toArray := p'
    refine call_en ?_
    refine wpAny_pyIter_tuple p2 ?_
    refine ⟨_, rfl, fun h' he hsz hk => wpAny_pyIter_enum he ?_⟩
    generalize hh2 : s1.heap.push { cls := .type "tuple_iterator", data := .fields #[.ref a, .int 0 0] } = h2 at he hsz hk ⊢
    have hk2 : ∀ b o, s1.heap.get? b = some o -> h2.get? b = some o := fun b o q => by rw [<- hh2]; exact Heap.get?_push_of_some _ q
    have hz2 : h2.objs.size = s1.heap.objs.size + 1 := by rw [<- hh2]; exact Heap.size_push ..
    have hit : h2.IsTupleIter s1.heap.objs.size a 0 := ⟨_, by rw [<- hh2]; exact Heap.get?_push_size _ rfl, rfl, rfl⟩
    have I2 : Inv X pins σ H1 { s1 with heap := h' } := I1.kept (t' := s1.toks) fun b o q => hk b o (hk2 b o q)
    refine ⟨h2.objs.size, [h2.objs.size, s1.heap.objs.size], _, _, H1, rfl, I2, turn_enumT a h2.objs.size s1.heap.objs.size, ⟨⟨.none, he⟩, hit.at fun o q => hk _ _ q, by rw [hz2]; exact Nat.succ_ne_self _⟩, fun b hb => ?_, q⟩
    have e' : b = h2.objs.size \/ b = s1.heap.objs.size := by simpa using hb
    have hle : s1.heap.objs.size <= b := by
      rcases e' with z | z
      · rw [z, hz2]; exact Nat.le_add_right _ _
      · rw [z]; exact Nat.le_refl _
    exact I1.fpOk hle (I1.hok.fresh hle)
theorem seq_enumT {T : Tbl} {W : Wd T} {F0 : Hp} {a : Addr} {ds : List D} {vs : List V} (h : F0 a = some (.tup vs)) (hs : Shrs W F0 ds vs) : Seq W (IteT W.K a) (enumD ds) F0 where
  go := fun i d F H s1 s2 hd => by
    obtain ⟨y, hy, rfl⟩ := enumD_get hd
    obtain ⟨w, hw, sw⟩ := hs.get hy
    refine ⟨⟨vs, w, .of (s2 _ _ (s1 _ _ h)), hw⟩, fun x H' yl => ?_⟩
    obtain ⟨T, y', rfl, hT', rfl, hy'⟩ := yl
    have := hy' vs (.of (s2 _ _ (s1 _ _ h)))
    rw [hw] at this; cases this
    exact ⟨_, .new s2 hT', .tup upd_same (.cons .int (.cons ((sw.mono s1).mono (same_new (s2.free hT'))) .nil))⟩
  stop := fun F H s1 s2 => ⟨vs, .of (s2 _ _ (s1 _ _ h)), by rw [enumD_length, hs.length]; exact Nat.le_refl _⟩
theorem ait_enumT {T : Tbl} {W : Wd T} {t : TE} {env : Py.Env} {ds : List D} (h : AE W t env (rF W (.tup ds))) : AIt W (iEnumT W.K (tCons t tNil)) env (enumD ds) := fun e F σ H L R r q =>
  h e F σ H L _ r fun v F1 H1 x1 y1 => by
    cases y1 with
    | tup hF hS => exact ⟨_, _, rfl, .of (x1.s _ _ hF), q _ F1 H1 x1 (seq_enumT hF hS)⟩
section
variable {T : Tbl} {W : Wd T}
def enTI (T : Tbl) : D -> Option (List D)
  | .tup xs => some (enumD xs)
  | d => enFI T d
theorem enTI_cases {d : D} {ds : List D} (h : enTI T d = some ds) : (∃ xs, d = .tup xs /\ ds = enumD xs) \/ enFI T d = some ds := by
  unfold enTI at h
  split at h
  · exact .inl ⟨_, rfl, (Option.some.inj h).symm⟩
  · exact .inr h
def xiEnumT (a : XP W) : XI W where
  t := fun σ H R => (xiEnumU a).t σ H R \/ iEnumT W.K (tCons a.t tNil) σ H R
  evF env := (a.evF env).bind (enTI T)
  evP env := (xiEnumU a).evP env
  sF := fun {env ds} e => by
    obtain ⟨d, e1, e⟩ := Option.bind_eq_some_iff.mp e
    rcases enTI_cases e with ⟨xs, rfl, rfl⟩ | h
    · exact fun e' F σ H L R r q => .inr (ait_enumT (a.sF e1) e' F σ H L R r q)
    · exact fun e' F σ H L R r q => .inl ((xiEnumU a).sF (show (a.evF env).bind (enFI T) = some ds by rw [e1]; exact h) e' F σ H L R r q)
  sP := fun {env ds} e => fun e' F σ H L R r q => .inl ((xiEnumU a).sP e e' F σ H L R r q)
end
end Py
namespace Py
open PySem L2
mutual
def oNl : D -> Bool
  | .olst xs => oNls xs
  | .odic _ xs => oNls xs
  | .odit _ xs => oNls xs
  | .oins _ _ xs => oNls xs
  | .tup xs => oNls xs
  | .dic _ xs => oNls xs
  | .dit _ xs => oNls xs
  | .ins _ _ xs => oNls xs
  | .non | .bl _ | .int _ | .str _ | .cls _ => true
  | _ => false
def oNls : List D -> Bool
  | [] => true
  | d :: ds => oNl d && oNls ds
end
section
variable {T : Tbl} {W : Wd T}
theorem keep_at {F F' : Hp} (hF : ∀ b o, F b = some o -> F' b = some o \/ ∃ vs, o = .lst vs) {b : Addr} {o : HO} (h : F b = some o) (hn : ∀ vs, o ≠ .lst vs) : F' b = some o :=
  (hF b o h).elim id fun ⟨vs, e⟩ => absurd e (hn vs)
theorem keep_rd {F F' : Hp} (hF : ∀ b o, F b = some o -> F' b = some o \/ ∃ vs, o = .lst vs) {b : Addr} {u : HO} (h : Rd F b u) (hn : ∀ vs, u ≠ .lst vs) : Rd F' b u :=
  h.elim (fun h => .inl (keep_at hF h hn)) fun ⟨o, h⟩ => .inr ⟨o, keep_at hF h fun _ z => nomatch z⟩
mutual
theorem Shr.unl {F F' : Hp} (hF : ∀ b o, F b = some o -> F' b = some o \/ ∃ vs, o = .lst vs) : ∀ {d : D} {v : V}, Shr W F d v -> oNl d = true -> Shr W F' d v
  | _, _, .non, _ => .non
  | _, _, .bl, _ => .bl
  | _, _, .int, _ => .int
  | _, _, .str, _ => .str
  | _, _, .cls h, _ => .cls h
  | _, _, .sei h n, e => by simp [oNl] at e
  | _, _, .scr h, e => by simp [oNl] at e
  | _, _, .tup h hs, e => .tup (keep_at hF h fun _ z => nomatch z) (Shrs.unl hF hs (by rw [oNl] at e; exact e))
  | _, _, .lst h hs, e => by simp [oNl] at e
  | _, _, .dic h l n hs, e => .dic (keep_rd hF h fun _ z => nomatch z) l n (Shrs.unl hF hs (by rw [oNl] at e; exact e))
  | _, _, .dit h l n hs, e => .dit (keep_rd hF h fun _ z => nomatch z) l n (Shrs.unl hF hs (by rw [oNl] at e; exact e))
  | _, _, .dig h k l hs, e => by simp [oNl] at e
  | _, _, .ins h c l hs, e => .ins (keep_at hF h fun _ z => nomatch z) c l (Shrs.unl hF hs (by rw [oNl] at e; exact e))
theorem Shrs.unl {F F' : Hp} (hF : ∀ b o, F b = some o -> F' b = some o \/ ∃ vs, o = .lst vs) : ∀ {d : List D} {v : List V}, Shrs W F d v -> oNls d = true -> Shrs W F' d v
  | _, _, .nil, _ => .nil
  | _, _, .cons h t, e => by
    rw [oNls, Bool.and_eq_true] at e
    exact .cons (Shr.unl hF h e.1) (Shrs.unl hF t e.2)
end
mutual
theorem Own.unl {F F' H : Hp} (hF : ∀ b o, F b = some o -> F' b = some o \/ ∃ vs, o = .lst vs) : ∀ {d : D} {v : V} {L : List Addr}, Own W F H d v L -> oNl d = true -> Own W F' H d v L
  | _, _, _, .sh h, e => .sh (h.unl hF e)
  | _, _, _, .olst h t, e => .olst h (Owns.unl hF t (by rw [oNl] at e; exact e))
  | _, _, _, .odic h l n t, e => .odic h l n (Owns.unl hF t (by rw [oNl] at e; exact e))
  | _, _, _, .odit h l n t, e => .odit h l n (Owns.unl hF t (by rw [oNl] at e; exact e))
  | _, _, _, .odig h k l t, e => by simp [oNl] at e
  | _, _, _, .oins h c l t, e => .oins h c l (Owns.unl hF t (by rw [oNl] at e; exact e))
theorem Owns.unl {F F' H : Hp} (hF : ∀ b o, F b = some o -> F' b = some o \/ ∃ vs, o = .lst vs) : ∀ {d : List D} {v : List V} {L : List Addr}, Owns W F H d v L -> oNls d = true -> Owns W F' H d v L
  | _, _, _, .nil, _ => .nil
  | _, _, _, .cons h t, e => by
    rw [oNls, Bool.and_eq_true] at e
    exact .cons (Own.unl hF h e.1) (Owns.unl hF t e.2)
end
def ofB (o : Option D) : Option (Kd × D) := o.bind fun d => if oNl d = true then some (.fr, d) else none
theorem ofB_ok {o : Option D} {k : Kd} {d : D} (h : ofB o = some (k, d)) : o = some d /\ oNl d = true /\ k = .fr := by
  obtain ⟨x, e1, e⟩ := Option.bind_eq_some_iff.mp h
  obtain ⟨e2, e⟩ := ite_some e
  cases e
  exact ⟨e1, e2, rfl⟩
end
end Py
namespace Py
open PySem L2
section
variable {T : Tbl} {W : Wd T}
end
end Py
namespace Py
open PySem L2 PyProof.Rows
section
variable {T : Tbl} {W : Wd T}
end
end Py
namespace Py
open PySem L2 PyProof.Rows
section
variable {T : Tbl} {W : Wd T}
end
end Py
namespace Py
open PySem L2
section
variable {T : Tbl} {W : Wd T}
def onL (As : List Addr) (H F : Hp) : Hp := fun b => if b ∈ As then H b else F b
theorem onL_in {As : List Addr} {H F : Hp} {b : Addr} (h : b ∈ As) : onL As H F b = H b := if_pos h
theorem onL_out {As : List Addr} {H F : Hp} {b : Addr} (h : b ∉ As) : onL As H F b = F b := if_neg h
theorem onL_same {As : List Addr} {F H : Hp} (s : Same F H) : Same F (onL As H F) /\ Same (onL As H F) H := by
  constructor
  · intro b o h
    by_cases e : b ∈ As
    · rw [onL_in e]; exact s _ _ h
    · rw [onL_out e]; exact h
  · intro b o h
    by_cases e : b ∈ As
    · rw [onL_in e] at h; exact h
    · rw [onL_out e] at h; exact s _ _ h
theorem offL {As : List Addr} {F1 H1 F3 H3 : Hp} {d : D} {v : V} (s : Same F1 H1) (hA : ∀ b ∈ As, ∃ ws, H1 b = some (.lst ws)) (x : Ext (onL As H1 F1) H1 F3 H3) (y : rO W d F3 H3 H1 v) (hn : oNl d = true) :
    ∃ F', Ext F1 H1 F' H3 /\ rO W d F' H3 H1 v := by
  have h3 : ∀ b ∈ As, ∃ ws, F3 b = some (.lst ws) := fun b hb => by
    obtain ⟨ws, h⟩ := hA b hb
    exact ⟨ws, x.f _ _ (by rw [onL_in hb]; exact h)⟩
  refine ⟨onL As F1 F3, ⟨fun b o h => ?_, fun b o h => ?_, x.h, fun b o h => ?_⟩, ?_⟩
  · by_cases e : b ∈ As
    · rw [onL_in e]; exact h
    · rw [onL_out e]; exact x.f _ _ (by rw [onL_out e]; exact h)
  · by_cases e : b ∈ As
    · rw [onL_in e] at h; exact x.h _ _ (s _ _ h)
    · rw [onL_out e] at h; exact x.s _ _ h
  · by_cases e : b ∈ As
    · rw [onL_in e] at h; exact .inl h
    · rw [onL_out e] at h
      rcases x.n b o h with z | z
      · rw [onL_out e] at z; exact .inl z
      · exact .inr z
  · obtain ⟨L, o, nd, k⟩ := y
    refine ⟨L, o.unl (fun b o h => ?_) hn, nd, fun b m => ⟨(k b m).1, ?_⟩⟩
    · by_cases e : b ∈ As
      · obtain ⟨ws, h4⟩ := h3 b e
        rw [h4] at h; exact .inr ⟨ws, (Option.some.inj h).symm⟩
      · rw [onL_out e]; exact .inl h
    · have e : b ∉ As := fun e => by
        obtain ⟨ws, h4⟩ := h3 b e
        have := (k b m).2; rw [h4] at this; cases this
      rw [onL_out e]; exact (k b m).2
inductive Lents {T : Tbl} (W : Wd T) (F H : Hp) : List D -> List V -> List Addr -> Prop
  | nil : Lents W F H [] [] []
  | sh {d v ds vs As} : Shr W F d v -> Lents W F H ds vs As -> Lents W F H (d :: ds) (v :: vs) As
  | le {a xs ws ds vs As} : H a = some (.lst ws) -> Shrs W F xs ws -> Lents W F H ds vs As -> Lents W F H (.lst xs :: ds) (.ref a :: vs) (a :: As)
theorem Lents.ext {F H F' H' : Hp} (x : Ext F H F' H') : ∀ {ds : List D} {vs : List V} {As : List Addr}, Lents W F H ds vs As -> Lents W F' H' ds vs As
  | _, _, _, .nil => .nil
  | _, _, _, .sh h t => .sh (h.mono x.f) (t.ext x)
  | _, _, _, .le h s t => .le (x.h _ _ h) (s.mono x.f) (t.ext x)
theorem Lents.lists {F H : Hp} : ∀ {ds : List D} {vs : List V} {As : List Addr}, Lents W F H ds vs As -> ∀ b ∈ As, ∃ ws, H b = some (.lst ws)
  | _, _, _, .nil, b, m => nomatch m
  | _, _, _, .sh h t, b, m => t.lists b m
  | _, _, _, .le h s t, b, m => by
    rcases List.mem_cons.mp m with rfl | m
    · exact ⟨_, h⟩
    · exact t.lists b m
theorem Lents.shrs {F H : Hp} {Bs : List Addr} (s : Same F H) : ∀ {ds : List D} {vs : List V} {As : List Addr}, Lents W F H ds vs As -> (∀ b ∈ As, b ∈ Bs) -> Shrs W (onL Bs H F) ds vs
  | _, _, _, .nil, _ => .nil
  | _, _, _, .sh h t, k => .cons (h.mono (onL_same s).1) (t.shrs s k)
  | _, _, _, .le h u t, k => .cons (.lst (by rw [onL_in (k _ (List.mem_cons_self ..))]; exact h) (u.mono (onL_same s).1)) (t.shrs s fun b m => k b (List.mem_cons_of_mem _ m))
structure XB {T : Tbl} (W : Wd T) where
  t : TA
  ev : Py.Env -> Option (List D)
  snd : ∀ {env ds}, ev env = some ds -> ∀ (e : Ent) (F : Hp) (σ : St) (H : Hp) (L : List Addr) (Q : List V -> Hp -> Prop), Rel W e env F σ H L -> (∀ vs F' H' As, Ext F H F' H' -> Lents W F' H' ds vs As -> Q vs H') -> t σ H Q
def lendD : Option D -> Option D
  | some (.olst xs) => if xs.all isSh = true then some (.lst xs) else none
  | some d => if isSh d = true then some d else none
  | none => none
theorem lendD_ok {o : Option D} {d : D} (h : lendD o = some d) : (∃ xs, o = some (.olst xs) /\ xs.all isSh = true /\ d = .lst xs) \/ (o = some d /\ isSh d = true) := by
  unfold lendD at h
  split at h
  · obtain ⟨h1, rfl⟩ := ite_some h
    exact .inl ⟨_, rfl, h1, rfl⟩
  · obtain ⟨h1, rfl⟩ := ite_some h
    exact .inr ⟨rfl, h1⟩
  · cases h
def xbCons (x : XP W) (b : XB W) : XB W where
  t := tCons x.t b.t
  ev env := (lendD (x.evK env)).bind fun d => (b.ev env).map (d :: ·)
  snd := fun {env ds} e e' F σ H L Q r q => by
    obtain ⟨d, e1, e⟩ := Option.bind_eq_some_iff.mp e
    obtain ⟨ds2, e2, rfl⟩ := Option.map_eq_some_iff.mp e
    rcases lendD_ok e1 with ⟨xs, e3, hx, rfl⟩ | ⟨e3, hs⟩
    · refine x.sK e3 e' F σ H L _ r fun v F1 H1 x1 ⟨M, o⟩ => b.snd e2 e' F1 σ H1 L _ (r.ext x1) fun vs F2 H2 As x2 y2 => ?_
      cases o with
      | sh y => cases y
      | @olst a _ ws M' ha hs =>
        exact q _ F2 H2 _ (x1.trans x2) (.le (x2.h _ _ ha) ((hs.shrs hx).mono x2.f) y2)
    · refine x.sK e3 e' F σ H L _ r fun v F1 H1 x1 ⟨M, o⟩ => b.snd e2 e' F1 σ H1 L _ (r.ext x1) fun vs F2 H2 As x2 y2 => ?_
      exact q _ F2 H2 _ (x1.trans x2) (.sh ((o.shr hs).mono x2.f) y2)
def xCallB (φ : List D -> Option Nat -> Rz) (n : Nat) (as : XB W) : XP W where
  t := tCall (spR W n φ none) [] E0 as.t
  ev env := (as.ev env).bind fun ds => if ds.length = n then ofB (okD0 (φ ds none)) else none
  snd := fun {env k d} e => by
    obtain ⟨ds, e1, e⟩ := Option.bind_eq_some_iff.mp e
    obtain ⟨hl, e⟩ := if_some' e
    obtain ⟨e2, hf, rfl⟩ := ofB_ok e
    obtain ⟨b, h⟩ := okD0_ok e2
    refine fun e' F σ H L Q r q => as.snd e1 e' F σ H L _ r fun vs F1 H1 As x1 y1 => ?_
    show spR W n φ none (vs ++ []) H1 Q E0
    rw [List.append_nil]
    refine callF (onL_same (As := As) x1.s).2 (y1.shrs x1.s fun _ m => m) hl h fun v F3 H3 x3 y3 => ?_
    obtain ⟨F', x4, y4⟩ := offL x1.s y1.lists x3 y3 hf
    exact q v F' H3 (x1.trans x4) (rO_back x1.h y4)
end
end Py
namespace Py
open PySem L2
section
variable {T : Tbl} {W : Wd T} {P : Program} {w : World}
def DKeys (P : Program) (w : World) (H : Hp) (ks : List NestedKey) (kas : List Addr) : Prop := ∀ h, HOk P w H h -> ∀ (i : Nat) (k : NestedKey) (ka : Addr), ks[i]? = some k -> kas[i]? = some ka -> (nestedKind P w).is h k ka
def GD (P : Program) (w : World) (H : Hp) (a : Addr) (ks : List NestedKey) (kas : List Addr) (vs : List V) : Prop := H a = some (.ext (digP P w a ks kas vs)) /\ DKeys P w H ks kas
theorem zip3_get {α β γ : Type} {as : List α} {bs : List β} {cs : List γ} {i : Nat} {x : α × β × γ} (h : (as.zip (bs.zip cs))[i]? = some x) : as[i]? = some x.1 /\ bs[i]? = some x.2.1 /\ cs[i]? = some x.2.2 := by
  rw [List.getElem?_zip_eq_some, List.getElem?_zip_eq_some] at h
  exact ⟨h.1, h.2.1, h.2.2⟩
theorem zip3_fst {α β γ : Type} {as : List α} {bs : List β} {cs : List γ} (h1 : as.length = bs.length) (h2 : as.length = cs.length) : (as.zip (bs.zip cs)).map (·.1) = as := by
  rw [List.map_fst_zip]
  rw [List.length_zip]; omega
structure GOk (P : Program) (w : World) (h : Heap) (a : Addr) (ks : List NestedKey) (kas : List Addr) (vs : List V) (us : List Value) : Prop where
  ns : (a == sysModules) = false
  rv : Vals vs us
  l1 : ks.length = kas.length
  l2 : ks.length = us.length
  sz : us.length <= sizeLine
  at' : h.DictOfH (nestedKind P w) a (ks.zip (kas.zip us))
  nd : ks.Nodup
theorem GD.ok {H : Hp} {h : Heap} {a : Addr} {ks : List NestedKey} {kas : List Addr} {vs : List V} (g : GD P w H a ks kas vs) (ok : HOk P w H h) : ∃ us, GOk P w h a ks kas vs us := by
  obtain ⟨⟨ns, us, rv, l1, l2, sz, o, es, ep, ho, hx, hd, he, hn⟩, _⟩ := ok _ _ g.1
  refine ⟨us, ns, rv, l1, l2, sz, ⟨o, es, ep, ho, hx, hd, he, fun x hx => ?_, ?_⟩, hn⟩
  · obtain ⟨i, hi⟩ := List.mem_iff_getElem?.mp hx
    obtain ⟨h1, h2, _⟩ := zip3_get hi
    exact g.2 h ok i _ _ h1 h2
  · rw [zip3_fst l1 l2]; exact hn
theorem GOk.dig {h : Heap} {a : Addr} {ks : List NestedKey} {kas : List Addr} {vs : List V} {us : List Value} (g : GOk P w h a ks kas vs us) : digP P w a ks kas vs h := by
  obtain ⟨o, es, ep, ho, hx, hd, he, _, _⟩ := g.at'
  exact ⟨g.ns, us, g.rv, g.l1, g.l2, g.sz, o, es, ep, ho, hx, hd, he, g.nd⟩
theorem GOk.new {H : Hp} {h : Heap} {a : Addr} {ks : List NestedKey} {kas : List Addr} {vs : List V} {us : List Value} (g : GOk P w h a ks kas vs us) : ObjOk P w H h a (.ext (digP P w a ks kas vs)) := by
  have ⟨o, _, _, ho, _⟩ := g.at'
  refine ⟨g.dig, ⟨o, ho⟩, fun h1 h2 p k => ?_⟩
  obtain ⟨ns, us, rv, l1, l2, sz, o, es, ep, ho, r⟩ := p
  exact ⟨ns, us, rv, l1, l2, sz, o, es, ep, k o ho, r⟩
def gv (ks : List NestedKey) (vs : List V) (k : NestedKey) : Option V := (pos k ks).bind fun j => vs[j]?
section
variable {X : Cx} {pins : List (Addr × Obj)} {σ : St} {H : Hp} {s : Shared} {A : Around} {E : Value -> Shared -> Prop} {a : Addr} {ks : List NestedKey} {kas : List Addr} {vs : List V} {k : NestedKey} {ka : Addr} {y v : V} {u r : Value}
end
section
variable {X : Cx} {o e f i : Expr} {apos cpos pos' : Pos} {td ty tx : TE}
end
end
end Py
namespace Py
open PySem L2
section
variable {X : Cx} {o e f i : Expr} {apos cpos pos' : Pos} {td ty tx : TE}
end
section
variable {T : Tbl} {W : Wd T} {env : Py.Env} {d : D}
theorem GD.mono {P : Program} {w : World} {H H' : Hp} {a : Addr} {ks : List NestedKey} {kas : List Addr} {vs : List V} (g : GD P w H a ks kas vs) (e : Same H H') (k : DKeys P w H' ks kas) : GD P w H' a ks kas vs := ⟨e _ _ g.1, k⟩
end
end Py
namespace Py
open PySem L2
section
variable {T : Tbl} {W : Wd T} {env : Py.Env} {d : D}
end
end Py
namespace Py
open PySem L2
section
variable {T : Tbl} {W : Wd T} {env : Py.Env} {d : D}
end
end Py
namespace Py
open PySem L2
def spEn : Sp := fun vs H Q _ => ∃ x, vs = [x] /\ Q x H
def spEx (P : Program) (w : World) (K : PySem.W.Frag) (f : String) : Sp := fun vs H Q _ => ∃ a C dx fs d ks kas ws, vs = [.ref a, .non, .non, .non] /\ H a = some (.ins C dx fs) /\ Cls K C /\ NoAttr K C (so f) /\ fs.lookup (so f) = some (.ref d) /\ GD P w H d ks kas ws /\ Q .non (upd H d (.ext (digP P w d [] [] [])))
structure WiOk (P : Program) (w : World) (K : PySem.W.Frag) (mg : Str -> Option Value) (base : Heap) (k : Nat) (C : Addr) (f : String) : Prop where
  en : MdOk P w K mg base k C "__enter__" 1 spEn
  ex : MdOk P w K mg base k C "__exit__" 4 (spEx P w K f)
section
variable {T : Tbl} {W : Wd T} {env : Py.Env} {d : D}
theorem Rel.back {e : Ent} {F H : Hp} {σ : St} {L : List Addr} {i j : Nat} {v : V} (r : Rel W e env F σ H L) (h : env[i]? = some (some d)) (hv : σ[i]? = some (some v)) (hj : j < env.length) (hw : σ[j]? = some (some v)) :
    ∃ L', Rel W e ((env.set i none).set j (some d)) F σ H L' := by
  obtain ⟨v', Li, Lr, e1, o, sl, nd, m⟩ := r.slots.take r.nd h
  rw [hv] at e1
  cases e1
  obtain ⟨L', s, nd', m'⟩ := sl.put (i := j) o nd (by simpa using hj)
  have hσ : σ.set j (some v) = σ := by
    apply List.ext_getElem?
    intro k
    by_cases hk : j = k
    · subst hk
      obtain ⟨hlt, _⟩ := List.getElem?_eq_some_iff.mp hw
      rw [List.getElem?_set_self hlt, hw]
    · rw [List.getElem?_set_ne hk]
  rw [hσ] at s
  have inL : ∀ a ∈ L', a ∈ L := fun a ha => (m a).mp (m' a ha)
  exact ⟨L', r.sF, s, nd', fun a ha => r.dj a (inL a ha), r.s0, r.nw, r.fr, fun a ha => r.ln a (inL a ha), r.pin⟩
theorem Rel.pinned {e : Ent} {F H : Hp} {σ : St} {L : List Addr} {j : Nat} {v : V} (r : Rel W e env F σ H L) (h : σ[j]? = some (some v)) : Rel W { e with pins := (j, v) :: e.pins } env F σ H L :=
  ⟨r.sF, r.slots, r.nd, r.dj, r.s0, r.nw, r.fr, r.ln, fun p hp => by
    rcases List.mem_cons.mp hp with rfl | hp
    · exact h
    · exact r.pin p hp⟩
theorem Rel.unpinned {e : Ent} {F H : Hp} {σ : St} {L : List Addr} {j : Nat} {v : V} (r : Rel W { e with pins := (j, v) :: e.pins } env F σ H L) : Rel W e env F σ H L :=
  ⟨r.sF, r.slots, r.nd, r.dj, r.s0, r.nw, r.fr, r.ln, fun p hp => r.pin p (List.mem_cons_of_mem _ hp)⟩
end
end Py
namespace Py
open PySem L2 PyProof.Rows GenW
section
variable {M : Model} {A : Around} {R : GenEnd} {Y : Protocol} {n : Nat} {s₀ : Shared} {c : Code} {fs : List Frame} {s : Shared} {env : PySem.Env} {K : Flow -> PySem.Sem PySem.Fin} {H : Value -> PySem.Sem PySem.Fin} {gd : Bool -> Bool} {lv : List Value -> List Value}
end
section
variable {prog : Program} {w : World} {A : Around} {R : GenEnd} {Y : Protocol} {n : Nat} {s₀ : Shared} {fs : List Frame} {s : Shared} {env : PySem.Env}
end
section
variable {X : Cx}
end
end Py
namespace Py
open PySem L2 PyProof.Rows GenW
inductive RY where
  | nx (ys : List D) (env : Py.Env) | bk (ys : List D) (env : Py.Env) | ct (ys : List D) (env : Py.Env) | ex (x : Exn) (env : Py.Env) | no
structure YEnds where
  nx : List D -> Py.Env -> Prop
  bk : List D -> Py.Env -> Prop := fun _ _ => False
  ct : List D -> Py.Env -> Prop := fun _ _ => False
  ex : Exn -> Py.Env -> Prop := fun _ _ => False
def endsY (r : RY) : YEnds where
  nx ys e := r = .nx ys e
  bk ys e := r = .bk ys e
  ct ys e := r = .ct ys e
  ex x e := r = .ex x e
section
variable {T : Tbl} {W : Wd T} {env : Py.Env} {P : List Nat} {E : WX} {A : YEnds} {ys : List D}
structure SatY {T : Tbl} (W : Wd T) (e : Ent) (E : WX) (A : YEnds) (Dn : GEnds) : Prop where
  nx : ∀ ys env F σ H L vs, A.nx ys env -> Rel W e env F σ H L -> Shrs W F ys vs -> Dn.nx vs σ H
  bk : ∀ ys env F σ H L vs, A.bk ys env -> Rel W e env F σ H L -> Shrs W F ys vs -> Dn.bk vs σ H
  ct : ∀ ys env F σ H L vs, A.ct ys env -> Rel W e env F σ H L -> Shrs W F ys vs -> Dn.ct vs σ H
  ex : ∀ x env F σ H L C d, A.ex x env -> Rel W e env F σ H L -> IsExn W F x C d -> E C d σ H
def AY {T : Tbl} (W : Wd T) (P : List Nat) (E : WX) (t : TGn) (ys : List D) (env : Py.Env) (A : YEnds) : Prop :=
  ∀ (e : Ent) (F : Hp) (σ : L2.St) (H : Hp) (L : List Addr) (vs : List V) (Dn : GEnds), P = e.pins.map (·.1) -> Rel W e env F σ H L -> Shrs W F ys vs -> SatY W e E A Dn -> t Dn vs σ H
theorem SatY.weaken {A' : YEnds} {e : Ent} {Dn : GEnds} (s : SatY W e E A Dn) (nx : ∀ ys e, A'.nx ys e -> A.nx ys e) (bk : ∀ ys e, A'.bk ys e -> A.bk ys e) (ct : ∀ ys e, A'.ct ys e -> A.ct ys e) (ex : ∀ x e, A'.ex x e -> A.ex x e) : SatY W e E A' Dn :=
  ⟨fun _ _ _ _ _ _ _ a => s.nx _ _ _ _ _ _ _ (nx _ _ a), fun _ _ _ _ _ _ _ a => s.bk _ _ _ _ _ _ _ (bk _ _ a), fun _ _ _ _ _ _ _ a => s.ct _ _ _ _ _ _ _ (ct _ _ a), fun _ _ _ _ _ _ _ _ a => s.ex _ _ _ _ _ _ _ _ (ex _ _ a)⟩
theorem AY.weaken {t : TGn} {A' : YEnds} (h : AY W P E t ys env A') (nx : ∀ ys e, A'.nx ys e -> A.nx ys e) (bk : ∀ ys e, A'.bk ys e -> A.bk ys e) (ct : ∀ ys e, A'.ct ys e -> A.ct ys e) (ex : ∀ x e, A'.ex x e -> A.ex x e) : AY W P E t ys env A :=
  fun e F σ H L vs Dn hP r sh s => h e F σ H L vs Dn hP r sh (s.weaken nx bk ct ex)
structure XY {T : Tbl} (W : Wd T) where
  t : WX -> TGn
  ev : List Nat -> List D -> Py.Env -> RY
  snd : ∀ P E ys env, ev P ys env ≠ .no -> AY W P E (t E) ys env (endsY (ev P ys env))
def RY.then (r : RY) (f : List D -> Py.Env -> RY) : RY := match r with
  | .nx ys e => f ys e
  | r => r
end
end Py
namespace Py
open PySem L2 PyProof.Rows GenW
section
variable {T : Tbl} {W : Wd T}
end
structure MgOk (P : Program) (w : World) (K : PySem.W.Frag) (mg : Str -> Option Value) (base : Heap) (k : Nat) (C : Addr) (m : String) (n : Nat) (sp : SpG) : Prop where
  ex : ∃ g fd ps, Meth K C (so m) g /\ GFn P w K mg base k g fd ps sp /\ Binds K fd ps [] /\ ps.length = n
section
variable {P : Program} {w : World} {K : PySem.W.Frag} {mg : Str -> Option Value} {base : Heap}
end
section
variable {T : Tbl} {W : Wd T} {X : Cx}
end
end Py
namespace Py
open PySem L2
section
variable {T : Tbl} {W : Wd T}
def catD (x y : D) : Option D := match x, y with
  | .tup xs, .tup ys => guardB (Nat.ble (xs.length + ys.length) 1000000) (some (.tup (xs ++ ys)))
  | _, _ => none
def xCatT (a b : XP W) : XP W where
  t := tOp (rCatA W.K) a.t b.t
  ev env := (a.evK env).bind fun x => (b.evK env).bind fun y => (catD x y).map (Prod.mk .fr)
  snd := fun {env k d} e => by
    obtain ⟨x, e1, e⟩ := Option.bind_eq_some_iff.mp e
    obtain ⟨y, e2, e⟩ := Option.bind_eq_some_iff.mp e
    obtain ⟨z, e3, e⟩ := Option.map_eq_some_iff.mp e
    cases e
    intro e' F σ H L Q r q
    refine a.sK e1 e' F σ H L _ r fun v F1 H1 x1 ⟨L1, y1⟩ => b.sK e2 e' F1 σ H1 L _ (r.ext x1) fun u F2 H2 x2 ⟨L2, y2⟩ => ?_
    have y1 : Own W F2 H2 x v L1 := y1.frame x2.f fun a _ o q => x2.h _ _ q
    unfold catD at e3
    split at e3
    · obtain ⟨hl, e3⟩ := guardB_some e3
      cases e3
      have hl := Nat.le_of_ble_eq_true hl
      cases y1.shr rfl with
      | tup ha sa =>
        cases y2.shr rfl with
        | tup hb sb =>
          have z1 := sa.length
          have z2 := sb.length
          refine ⟨_, _, _, _, rfl, rfl, .of (x2.s _ _ ha), .of (x2.s _ _ hb), by rw [<- z1, <- z2]; exact Nat.le_trans hl (by decide), fun z => ?_, fun z1' z => ?_, fun z1' z p hp => ?_⟩
          · subst z
            have z1 := List.eq_nil_of_length_eq_zero z1
            subst z1
            exact q _ F2 H2 (x1.trans x2) (rO_sh (.tup hb sb))
          · subst z
            have z2 := List.eq_nil_of_length_eq_zero z2
            subst z2
            refine q _ F2 H2 (x1.trans x2) ?_
            rw [List.append_nil]
            exact rO_sh (.tup ha sa)
          · exact q _ _ _ ((x1.trans x2).trans (.new x2.s hp)) (rO_sh (.tup upd_same ((sa.append sb).mono (same_new (x2.s.free hp)))))
    · cases e3
end
end Py
namespace Py
open PySem L2
section
variable {T : Tbl} {W : Wd T}
end
end Py
namespace Py
open PySem L2
section
variable {T : Tbl} {W : Wd T}
end
end Py
namespace Py
open PySem L2
section
variable {T : Tbl} {W : Wd T}
end
end Py
namespace Py
open PySem L2 PyProof.Rows GenW
end Py
namespace Py
open PySem L2
section
variable {T : Tbl} {W : Wd T} {env : Py.Env}
end
end Py
namespace Py
open PySem L2
section
variable {T : Tbl} {W : Wd T}
end
end Py
namespace Py
open PySem L2
section
variable {T : Tbl} {W : Wd T}
end
end Py
namespace Py
open PySem L2
structure CmAt (K : PySem.W.Frag) (C : Addr) (m : String) (x qual : Str) (st : Stmt) : Prop where
  ex : ∃ p g fd mc, FunD K x qual (defArgs st) (defBody st) (defScope st) [] [] g fd /\ ClX.CRead K C mc /\ ClX.CMet K C mc (so m) p g
structure CmOk (P : Program) (w : World) (K : PySem.W.Frag) (mg : Str -> Option Value) (base : Heap) (k : Nat) (C : Addr) (m : String) (n : Nat) (sp : Sp) : Prop where
  ex : ∃ p g fd ps mc, ClX.CRead K C mc /\ ClX.CMet K C mc (so m) p g /\ FnOk P w K mg base (L2.CX P w) k g fd ps sp /\ Binds K fd ps [] /\ ps.length = n
section
variable {P : Program} {w : World} {K : PySem.W.Frag} {mg : Str -> Option Value} {base : Heap}
end
section
variable {X : Cx} {T : Tbl} {W : Wd T}
end
end Py
namespace Py
open PySem L2
section
variable {T : Tbl} {W : Wd T}
end
end Py
namespace Py
open PySem L2 NdefX
structure SupT (P : Program) (K : PySem.W.Frag) (D g : Addr) (fd : FuncData) (cda cc : Addr) : Prop where
  look : ∃ oc od osl, K.lookup g = some ⟨oc, od, .func fd, osl⟩
  head : ∃ ar : Arg, (fd.params.posonlyargs ++ fd.params.args).head? = some ar /\ ar.arg = ("self" : Str)
  code : ∃ ccl cdd vs ccs file tf, K.lookup cda = some ⟨ccl, cdd, .fields vs, ccs⟩ /\ vs[2]? = some (.str file tf) /\ ((P.main.file : Str) == file) = true
  cell : ∃ cl cld csl, K.lookup cc = some ⟨cl, cld, .cell (some (.ref D)), csl⟩
  dcl : ∃ cd, PySem.W.clsIn K D = some cd
  top : (P.main.scope.names.lookup ("super" : Str)).isSome = false
section
variable {M : Model} {A : Around} {E : Value -> Shared -> Prop} {s : Shared} {env : PySem.Env} {c0 : Code}
end
structure SupM (P : Program) (w : World) (K : PySem.W.Frag) (mg : Str -> Option Value) (base : Heap) {T : Tbl} (W : Wd T) (k : Nat) (φ : Sem) (D : Addr) (m : Str) (r : String -> Option String) : Prop where
  at_ : ∀ c nm, W.has c -> r c = some nm -> ∃ g2 fd2 ps2, PySem.W.ks_superIn K (W.cA c) D m = some (some (.ref g2)) /\ PySem.W.typeIn K (.ref g2) = some (.type "function") /\ PySem.W.mroIn K (W.cA c) (.ref D) = some true /\ PySem.W.fnIn K g2 = true /\
    FnOk P w K mg base (L2.CX P w) k g2 fd2 ps2 (spR W 2 (φ nm) none) /\ Binds K fd2 ps2 []
end Py
namespace Py
open PySem L2
structure Mk0 (K : PySem.W.Frag) (C : Addr) : Prop where
  makes : PySem.W.makesIn K C = true
  init : PySem.W.findIn K (.ref C) "__init__" = some (some (.builtin "object.__init__"))
  top : PySem.W.mroIn K C (.type "object") = some true
  kp : PySem.W.keepIn K (.ref C) = true
section
variable {X : Cx} {C : Addr} {pins : List (Addr × Obj)} {σ : L2.St} {H : Hp} {s : Shared} {Q : VK}
end
section
variable {T : Tbl} {W : Wd T}
end
end Py
namespace Py
open PySem L2 NdefX
section
variable {T : Tbl} {W : Wd T}
end
open PySem.W in
structure SupAt (P : Program) (K : Frag) (C : Addr) (m : String) (qual : Str) (st : Stmt) (D : Addr) : Prop where
  ex : ∃ (g cda cc : Addr) (doc pm ct : Value) (an : Option Addr), Meth K C (so m) g /\ codeIn K (.ref cda) qual = true /\ SupT P K D g (ksFn (so m) qual (defArgs st) (defBody st) (defScope st) .none .none doc pm an (.ref cda) ct cc) cda cc
open PySem.W in
structure SupC (K : Frag) (C D : Addr) (m : String) (E : Addr) : Prop where
  ex : ∃ g2, ks_superIn K C D (so m) = some (some (.ref g2)) /\ findIn K (.ref E) (so m) = some (some (.ref g2)) /\ typeIn K (.ref g2) = some (.type "function") /\ mroIn K C (.ref D) = some true /\ fnIn K g2 = true
section
variable {P : Program} {w : World} {K : PySem.W.Frag} {mg : Str -> Option Value} {base : Heap} {T : Tbl} {W : Wd T}
end
end Py
namespace Py
open PySem L2 PyProof.Rows
theorem getD_none {owner : Array (Option Nat)} {j : Nat} : owner.getD j (some 0) = none ↔ owner.toList[j]? = some none := by
  rw [Array.getD_eq_getD_getElem?, Array.getElem?_toList]
  cases owner[j]? with
  | none => simp
  | some x => simp
end Py
namespace Py
open PySem L2 PyProof.Rows
section
variable {P : Program} {w : World} {A : Around} {E : Value -> Shared -> Prop} {s : Shared} {a b : Addr}
end
end Py
namespace Py
open PySem L2 PyProof.Rows
section
variable {P : Program} {w : World} {A : Around} {E : Value -> Shared -> Prop} {s : Shared} {a b : Addr}
end
end Py
namespace Py
open PySem L2 PyProof.Rows
section
variable {T : Tbl} {W : Wd T}
end
end Py
namespace Py
open PySem L2
def getM (p : Kd) (z : Kd × D) : Option D -> Kd × D
  | some x => p.of x
  | none => z
def lockR (b : Bool) (r : RS) : RS := match b with
  | true => noEx r
  | false => .no
def frE (o : Option (Kd × D)) : Option (Kd × D) := match o with
  | some (.fr, d) => some (.fr, d)
  | _ => none
def dcJ {T : Tbl} {W : Wd T} (k x : XP W) (b : Option Bool) (e : Py.Env) : Option (Option (Key × D)) := b.bind fun b => if b = true then ((k.evF e).bind keyD).bind fun y => (x.evF e).map fun z => some (y, z) else some none
def dcK {T : Tbl} {W : Wd T} (c : XT W) (k x : XP W) (o : Option Py.Env) : Option (Option (Key × D)) := o.bind fun e => dcJ k x (c.ev e) e
theorem nr {α : Type} {a b : α} (h : a = b) : a = b := h
theorem atI_litN {α : Type} {xs : List α} (n : Nat) : atI xs (n : Int) = xs[n]? := by
  unfold atI ixN
  rw [if_pos (by omega)]
  by_cases h : (n : Int) < xs.length
  · rw [if_pos h]; rfl
  · rw [if_neg h, List.getElem?_eq_none (by omega)]; rfl
theorem atI_last {α : Type} {xs : List α} : atI xs (-1) = xs.getLast? := by
  unfold atI ixN
  rw [if_neg (by omega)]
  cases xs with
  | nil => rfl
  | cons x xs =>
    rw [if_pos (by simp; omega), List.getLast?_eq_getElem?]
    show (x :: xs)[_]? = _
    congr 1
    simp
    omega
def callE (φ : List D -> Option Nat -> Rz) (n : Nat) (dds : List D) (f v : Option (List D)) : Option (Kd × D) := match f with
  | some ds => if (ds ++ dds).length = n then (φ (ds ++ dds) none).toF else none
  | none => match v with
    | some ds => if (ds ++ dds).length = n then (φ (ds ++ dds) none).toV else none
    | none => none
def turnE (o : Option Py.Env) (f : Py.Env -> RS) : RS := match o with
  | some e => f e
  | none => .no
def forE (f : D -> Py.Env -> RS) (o : Option (List D)) (env : Py.Env) : RS := match o with
  | some ds => forL f ds env
  | none => .no
def frzO (env : Py.Env) (i : Nat) : Option D -> Py.Env
  | some d => env.set i (some (fz d))
  | none => env
def resE (o : Option String) (f : String -> Rz) : Rz := match o with
  | some nm => f nm
  | none => .no
def lenQ (o : Option String) (f : String -> Option D) : Option D := match o with
  | some nm => f nm
  | none => none
def lenR : Rz -> Option D
  | .ok (.int i) _ => if 0 <= i /\ i <= 1000000 then some (.int i) else none
  | _ => none
def itQ (o : Option (List D)) (f : List D -> Option (Kd × D)) : Option (Kd × D) := match o with
  | some zs => f zs
  | none => none
def setO (xs : List D) (o : Option Nat) (y : D) : List D := match o with
  | some j => xs.set j y
  | none => xs
def putE (d : D) (s : Pst) (st : List Pst) (n : D) (o : Option D) : D := match o with
  | some x => d.put s (x.putAt st n)
  | none => d
def retZ (o : Option (Option D)) (d : D) : Rz := match o with
  | some x => .ok d x
  | none => .no
def retX (o : Option (Option D)) (x : Exn) : Rz := match o with
  | some y => .exn x y
  | none => .no
def forT (f : D -> Py.Env -> RS) (ds : List D) : RS -> RS
  | .nx e => forL f ds e
  | .ct e => forL f ds e
  | .bk e => .nx e
  | r => r
def asgK (P : List Nat) (i : Nat) (d : D) (e : Py.Env) : RS := RS.ofO (setS P i d e)
def asgGK {T : Tbl} {W : Wd T} (P : List Nat) (g : XG W) (d : D) (e : Py.Env) : RS := RS.ofO (g.ev P (fz d) e)
def iteF (b : Option Bool) (s u : Py.Env -> RS) (e : Py.Env) : RS := match b with
  | some true => s e
  | some false => u e
  | none => .no
def andF (b : Option Bool) (f : Py.Env -> Option Bool) (e : Py.Env) : Option Bool := match b with
  | some true => f e
  | some false => some false
  | none => none
def orF (b : Option Bool) (f : Py.Env -> Option Bool) (e : Py.Env) : Option Bool := match b with
  | some false => f e
  | some true => some true
  | none => none
def ifF (b : Option Bool) (s u : Py.Env -> Option (Kd × D)) (e : Py.Env) : Option (Kd × D) := b.bind fun k => if k = true then s e else u e
def forK {T : Tbl} {W : Wd T} (g : XG W) (b : XS W) (P : List Nat) (d : D) (e : Py.Env) : RS := turnE (g.ev P d e) (b.ev P)
def lcJ {T : Tbl} {W : Wd T} (x : XP W) (b : Option Bool) (e : Py.Env) : Option (List D) := b.bind fun k => if k = true then (x.evO e).map fun y => [y] else some []
def lcK {T : Tbl} {W : Wd T} (c : XT W) (x : XP W) (o : Option Py.Env) : Option (List D) := o.bind fun e => lcJ x (c.ev e) e
theorem e_xsSeq {T : Tbl} {W : Wd T} {s u : XS W} {P env} : (xsSeq s u).ev P env = (s.ev P env).then (u.ev P) := nr rfl
theorem e_xsNext {T : Tbl} {W : Wd T} {P env} : (xsNext W).ev P env = .nx env := nr rfl
theorem e_xsNever {T : Tbl} {W : Wd T} {P env} : (xsNever W).ev P env = .no := nr rfl
theorem e_xsAsg {T : Tbl} {W : Wd T} {i} {m : XM W} {P env} : (xsAsg i m).ev P env = (m.ev P env).thenS (asgK P i) := nr rfl
theorem e_xsAsgG {T : Tbl} {W : Wd T} {g : XG W} {m : XM W} {P env} : (xsAsgG g m).ev P env = (m.ev P env).thenS (asgGK P g) := nr rfl
theorem e_xsExpr {T : Tbl} {W : Wd T} {m : XM W} {P env} : (xsExpr m).ev P env = (m.ev P env).thenS fun _ => RS.nx := nr rfl
theorem e_xsRet {T : Tbl} {W : Wd T} {m : XM W} {P env} : (xsRet m).ev P env = (m.ev P env).thenS RS.rt := nr rfl
theorem e_xsIf {T : Tbl} {W : Wd T} {c : XT W} {s u : XS W} {P env} : (xsIf c s u).ev P env = iteF (c.ev env) (s.ev P) (u.ev P) env := nr rfl
theorem e_xsFrz {T : Tbl} {W : Wd T} {is} {s : XS W} {P env} : (xsFrz is s).ev P env = s.ev P (is.foldl frzS env) := nr rfl
theorem e_xmP {T : Tbl} {W : Wd T} {p : XP W} {P env} : (xmP p).ev P env = RM.of (p.evO env) env := nr rfl
theorem e_xVar_V {T : Tbl} {W : Wd T} {i env} : (xVar W i).evV env = (getS env i).map fz := by show toV ((getS env i).map _) = _; cases getS env i <;> rfl
theorem e_xtV {T : Tbl} {W : Wd T} {a : XP W} {env} : (xtV a).ev env = (a.evV env).bind blD := nr rfl
theorem e_xtTru {T : Tbl} {W : Wd T} {a : XP W} {env} : (xtTru a).ev env = (a.evV env).bind truD := nr rfl
theorem e_xtAnd {T : Tbl} {W : Wd T} {a b : XT W} {env} : (xtAnd a b).ev env = andF (a.ev env) b.ev env := nr rfl
theorem e_xtOr {T : Tbl} {W : Wd T} {a b : XT W} {env} : (xtOr a b).ev env = orF (a.ev env) b.ev env := nr rfl
theorem e_xtNot {T : Tbl} {W : Wd T} {a : XT W} {env} : (xtNot a).ev env = (a.ev env).map (!·) := nr rfl
theorem e_xtYes {T : Tbl} {W : Wd T} {env} : (xtYes W).ev env = some true := nr rfl
theorem e_xVar {T : Tbl} {W : Wd T} {i env} : (xVar W i).ev env = (getS env i).map (Prod.mk .pl) := nr rfl
theorem e_xInt {T : Tbl} {W : Wd T} {i env} : (xInt W i).ev env = some (.fr, .int i) := nr rfl
theorem e_xBl {T : Tbl} {W : Wd T} {b env} : (xBl W b).ev env = some (.fr, .bl b) := nr rfl
theorem e_xStr {T : Tbl} {W : Wd T} {x env} : (xStr W x).ev env = some (.fr, .str x) := nr rfl
theorem e_xSub {T : Tbl} {W : Wd T} {a b : XP W} {env} : (xSub a b).ev env = (a.evV env).bind fun x => (b.evV env).bind fun y => (subD x y).map (Prod.mk .fr) := nr rfl
theorem e_xMul {T : Tbl} {W : Wd T} {a b : XP W} {env} : (xMul a b).ev env = (a.evV env).bind fun x => (b.evV env).bind fun y => (mulD x y).map (Prod.mk .fr) := nr rfl
theorem e_xDiv {T : Tbl} {W : Wd T} {a b : XP W} {env} : (xDiv a b).ev env = (a.evV env).bind fun x => (b.evV env).bind fun y => (divD x y).map (Prod.mk .fr) := nr rfl
theorem e_xMod {T : Tbl} {W : Wd T} {a b : XP W} {env} : (xMod a b).ev env = (a.evV env).bind fun x => (b.evV env).bind fun y => (modD x y).map (Prod.mk .fr) := nr rfl
theorem e_xPow {T : Tbl} {W : Wd T} {a b : XP W} {env} : (xPow a b).ev env = (a.evV env).bind fun x => (b.evV env).bind fun y => (powD x y).map (Prod.mk .fr) := nr rfl
theorem e_xNeg {T : Tbl} {W : Wd T} {a : XP W} {env} : (xNeg a).ev env = (a.evV env).bind fun x => (negD x).map (Prod.mk .fr) := by show (match a.evV env with | some x => _ | none => _) = _; cases a.evV env <;> rfl
theorem e_xAdd {T : Tbl} {W : Wd T} {a b : XP W} {env} : (xAdd a b).ev env = (a.evK env).bind fun x => (b.evK env).bind fun y => (addD x y).map (Prod.mk .fr) := nr rfl
theorem e_xEq {T : Tbl} {W : Wd T} {a b : XP W} {env} : (xEq a b).ev env = (a.evV env).bind fun x => (b.evV env).bind fun y => (eqD x y).map (Prod.mk .fr) := nr rfl
theorem e_xNe {T : Tbl} {W : Wd T} {a b : XP W} {env} : (xNe a b).ev env = (a.evV env).bind fun x => (b.evV env).bind fun y => (neD x y).map (Prod.mk .fr) := nr rfl
theorem e_xLt {T : Tbl} {W : Wd T} {a b : XP W} {env} : (xLt a b).ev env = (a.evV env).bind fun x => (b.evV env).bind fun y => (ltD x y).map (Prod.mk .fr) := nr rfl
theorem e_xLe {T : Tbl} {W : Wd T} {a b : XP W} {env} : (xLe a b).ev env = (a.evV env).bind fun x => (b.evV env).bind fun y => (cmpD (fun i j => decide (i <= j)) x y).map (Prod.mk .fr) := nr rfl
theorem e_xGt {T : Tbl} {W : Wd T} {a b : XP W} {env} : (xGt a b).ev env = (a.evV env).bind fun x => (b.evV env).bind fun y => (cmpD (fun i j => decide (j < i)) x y).map (Prod.mk .fr) := nr rfl
theorem e_xGe {T : Tbl} {W : Wd T} {a b : XP W} {env} : (xGe a b).ev env = (a.evV env).bind fun x => (b.evV env).bind fun y => (cmpD (fun i j => decide (j <= i)) x y).map (Prod.mk .fr) := nr rfl
theorem e_xAnd {T : Tbl} {W : Wd T} {a b : XP W} {env} : (xAnd a b).ev env = (andF (a.evB env) b.evB env).map fun c => (.fr, .bl c) := nr rfl
theorem e_xNot {T : Tbl} {W : Wd T} {a : XP W} {env} : (xNot a).ev env = (a.evB env).map fun c => (.fr, .bl (!c)) := nr rfl
theorem e_xIf {T : Tbl} {W : Wd T} {c : XT W} {a b : XP W} {env} : (xIf c a b).ev env = ifF (c.ev env) a.ev b.ev env := nr rfl
theorem e_xTup {T : Tbl} {W : Wd T} {as : XA W} {env} : (xTup as).ev env = (as.evF env).bind fun ds => if ds.length <= 1000000 then some (.fr, .tup ds) else none := nr rfl
theorem e_xLst {T : Tbl} {W : Wd T} {as : XA W} {env} : (xLst as).ev env = (as.evF env).bind fun ds => if ds.length <= 1000000 then some (.fr, .olst ds) else none := nr rfl
theorem e_xInt1 {T : Tbl} {W : Wd T} {as : XA W} {env} : (xInt1 as).ev env = (as.evV env).bind fun ds => (intD ds).map (Prod.mk .fr) := nr rfl
theorem e_xAbs {T : Tbl} {W : Wd T} {as : XA W} {env} : (xAbs as).ev env = (as.evV env).bind fun ds => (absD ds).map (Prod.mk .fr) := nr rfl
theorem e_xIx {T : Tbl} {W : Wd T} {a b : XP W} {env} : (xIx a b).ev env = (a.ev env).bind fun p => (b.evV env).bind fun y => (ixD p.2 y).map p.1.of := nr rfl
theorem e_xFld {T : Tbl} {W : Wd T} {a : XP W} {f env} : (xFld a f).ev env = (a.ev env).bind fun p => (fldD T f p.2).map p.1.of := nr rfl
theorem e_xList {T : Tbl} {W : Wd T} {a : XP W} {env} : (xList a).ev env = (a.evK env).bind fun d => (seqOf d).map fun p => (.fr, .olst p.2) := nr rfl
theorem e_xIsi {T : Tbl} {W : Wd T} {c} {a : XP W} {env} : (xIsi c a).ev env = (a.evV env).bind fun x => (tyD x).map fun t => (.fr, .bl (isi1 T t c)) := nr rfl
theorem e_xIsiT {T : Tbl} {W : Wd T} {cs} {a : XP W} {env} : (xIsiT cs a).ev env = (a.evV env).bind fun x => (tyD x).map fun t => (.fr, .bl (isiA T t cs)) := nr rfl
theorem e_xCall {T : Tbl} {W : Wd T} {φ n} {as : XA W} {dds dvs hd env} : (xCall φ n as dds dvs hd).ev env = callE φ n dds (as.evF env) (as.evV env) := by show (match as.evF env with | some ds => _ | none => _) = _; unfold callE; cases as.evF env <;> first | rfl | (cases as.evV env <;> rfl)
theorem e_xLc {T : Tbl} {W : Wd T} {it : XI W} {g : XG W} {c x env} : (xLc it g c x).ev env = (it.evP env).bind fun ds => if ds.length < 1000000 then (lcL (lc1 g c x (wipeE env g.own)) ds).map fun ys => (.fr, .olst ys) else none := nr rfl
theorem e_xSorted {T : Tbl} {W : Wd T} {a : XP W} {env} : (xSorted a).ev env = (a.evK env).bind fun d => (seqOf d).bind fun p => if p.1 = false then (sortD p.2).map fun ys => (.fr, .olst ys) else none := nr rfl
theorem e_xmVar {T : Tbl} {W : Wd T} {i P env} : (xmVar W i).ev P env = RM.ofO ((getS env i).map fun d => (fz d, if isSh d = true then env else env.set i (some (fz d)))) := by show (match getS env i with | some d => _ | none => _) = _; cases getS env i <;> rfl
theorem e_xmMove {T : Tbl} {W : Wd T} {i P env} : (xmMove W i).ev P env = RM.ofO ((getS env i).map fun d => (d, env.set i none)) := by show (match getS env i with | some d => _ | none => _) = _; cases getS env i <;> rfl
theorem e_xmAppend {T : Tbl} {W : Wd T} {p : XPl W} {a : XP W} {P env} : (xmAppend p a).ev P env = RM.ofO ((p.ev env).bind fun q => ((xoCons a (xoNil W)).ev env).bind fun ds => (appendD q.2 ds).bind fun z => (getS env p.root).map fun d0 => (z.2, env.set p.root (some (d0.putAt q.1 z.1)))) := nr rfl
theorem e_xmPop {T : Tbl} {W : Wd T} {p : XPl W} {P env} : (xmPop p).ev P env = RM.ofO ((p.ev env).bind fun q => ((xoNil W).ev env).bind fun ds => (popD q.2 ds).bind fun z => (getS env p.root).map fun d0 => (z.2, env.set p.root (some (d0.putAt q.1 z.1)))) := nr rfl
theorem e_xoNil {T : Tbl} {W : Wd T} {env} : (xoNil W).ev env = some [] := nr rfl
theorem e_xoCons {T : Tbl} {W : Wd T} {a : XP W} {as : XO W} {env} : (xoCons a as).ev env = (a.evO env).bind fun x => (as.ev env).map (x :: ·) := nr rfl
theorem e_plVar {T : Tbl} {W : Wd T} {i env} : (plVar W i).ev env = (getS env i).map fun d => ([], d) := nr rfl
theorem r_plVar {T : Tbl} {W : Wd T} {i} : (plVar W i).root = i := nr rfl
theorem e_xaNilV {T : Tbl} {W : Wd T} {env} : (xaNil W).evV env = some [] := nr rfl
theorem e_xaNilF {T : Tbl} {W : Wd T} {env} : (xaNil W).evF env = some [] := nr rfl
theorem e_xaConsV {T : Tbl} {W : Wd T} {a : XP W} {as : XA W} {env} : (xaCons a as).evV env = (a.evV env).bind fun x => (as.evV env).map (x :: ·) := nr rfl
theorem e_xaConsF {T : Tbl} {W : Wd T} {a : XP W} {as : XA W} {env} : (xaCons a as).evF env = (a.evF env).bind fun x => (as.evF env).map (x :: ·) := nr rfl
theorem e_xgN {T : Tbl} {W : Wd T} {i P d env} : (xgN W i).ev P d env = setS P i d env := nr rfl
theorem e_xgsNil {T : Tbl} {W : Wd T} {P env} : (xgsNil W).ev P [] env = some env := nr rfl
theorem e_xgsCons {T : Tbl} {W : Wd T} {g : XG W} {gs : XGs W} {P d ds env} : (xgsCons g gs).ev P (d :: ds) env = (g.ev P d env).bind (gs.ev P ds) := nr rfl
theorem e_xgT {T : Tbl} {W : Wd T} {n} {gs : XGs W} {P ds env} : (xgT n gs).ev P (.tup ds) env = if ds.length = n then gs.ev P ds env else none := nr rfl
theorem o_xgN {T : Tbl} {W : Wd T} {i} : (xgN W i).own = [i] := nr rfl
theorem o_xgT {T : Tbl} {W : Wd T} {n} {gs : XGs W} : (xgT n gs).own = gs.own := nr rfl
theorem o_xgsNil {T : Tbl} {W : Wd T}  : (xgsNil W).own = [] := nr rfl
theorem o_xgsCons {T : Tbl} {W : Wd T} {g : XG W} {gs : XGs W} : (xgsCons g gs).own = g.own ++ gs.own := nr rfl
theorem e_xiSeqF {T : Tbl} {W : Wd T} {a : XP W} {env} : (xiSeq a).evF env = (a.evF env).bind seqF := nr rfl
theorem e_xiSeqP {T : Tbl} {W : Wd T} {a : XP W} {env} : (xiSeq a).evP env = (a.evK env).bind fun d => (seqOf d).map (·.2) := nr rfl
theorem e_xiR1F {T : Tbl} {W : Wd T} {as : XA W} {env} : (xiR1 as).evF env = (as.evV env).bind rng1D := nr rfl
theorem e_xiR1P {T : Tbl} {W : Wd T} {as : XA W} {env} : (xiR1 as).evP env = (as.evV env).bind rng1D := nr rfl
theorem e_xiR2F {T : Tbl} {W : Wd T} {as : XA W} {env} : (xiR2 as).evF env = (as.evV env).bind rng2D := nr rfl
theorem e_xiR2P {T : Tbl} {W : Wd T} {as : XA W} {env} : (xiR2 as).evP env = (as.evV env).bind rng2D := nr rfl
theorem e_xsFor {T : Tbl} {W : Wd T} {it : XI W} {g : XG W} {b : XS W} {P env} : (xsFor it g b).ev P env = forE (forK g b P) (it.evF env) env := by show (match it.evF env with | some ds => _ | none => _) = _; unfold forE forK turnE; cases it.evF env <;> rfl
theorem e_evV {T : Tbl} {W : Wd T} {x : XP W} {env} : x.evV env = toV (x.ev env) := nr rfl
theorem e_evK {T : Tbl} {W : Wd T} {x : XP W} {env} : x.evK env = toK (x.ev env) := nr rfl
theorem e_evF {T : Tbl} {W : Wd T} {x : XP W} {env} : x.evF env = toF (x.ev env) := nr rfl
theorem e_evO {T : Tbl} {W : Wd T} {x : XP W} {env} : x.evO env = toO (x.ev env) := nr rfl
theorem e_evB {T : Tbl} {W : Wd T} {x : XP W} {env} : x.evB env = (x.evV env).bind blD := nr rfl
theorem h_getS0 {d e} : getS (some d :: e) 0 = some d := nr rfl
theorem h_getS0n {e} : getS (none :: e) 0 = none := nr rfl
theorem h_getSs {x e} {n : Nat} : getS (x :: e) (n + 1) = getS e n := nr rfl
theorem h_toV {k d} : toV (some (k, d)) = some (fz d) := nr rfl
theorem h_toVn  : toV none = none := nr rfl
theorem h_toKf {d} : toK (some (.fr, d)) = some d := nr rfl
theorem h_toKp {d} : toK (some (.pl, d)) = some d := nr rfl
theorem h_toKv {d} : toK (some (.vw, d)) = if isFlat d = true then some d else none := nr rfl
theorem h_toKn  : toK none = none := nr rfl
theorem h_toFf {d} : toF (some (.fr, d)) = some (fz d) := nr rfl
theorem h_toFp {d} : toF (some (.pl, d)) = if isSh d = true then some d else none := nr rfl
theorem h_toFv {d} : toF (some (.vw, d)) = if isFlat d = true then some d else none := nr rfl
theorem h_toFn  : toF none = none := nr rfl
theorem h_toOf {d} : toO (some (.fr, d)) = some d := nr rfl
theorem h_toOp {d} : toO (some (.pl, d)) = if isSh d = true then some d else none := nr rfl
theorem h_toOv {d} : toO (some (.vw, d)) = if isFlat d = true then some d else none := nr rfl
theorem h_toOn  : toO none = none := nr rfl
theorem h_of_f {d} : Kd.of .fr d = (.pl, d) := nr rfl
theorem h_of_p {d} : Kd.of .pl d = (.pl, d) := nr rfl
theorem h_of_v {d} : Kd.of .vw d = (.vw, fz d) := nr rfl
theorem h_then_nx {e f} : RS.then (.nx e) f = f e := nr rfl
theorem h_then_rt {d e f} : RS.then (.rt d e) f = .rt d e := nr rfl
theorem h_then_bk {e f} : RS.then (.bk e) f = .bk e := nr rfl
theorem h_then_ct {e f} : RS.then (.ct e) f = .ct e := nr rfl
theorem h_then_ex {x e f} : RS.then (.ex x e) f = .ex x e := nr rfl
theorem h_then_no {f} : RS.then .no f = .no := nr rfl
theorem h_thenS_ok {d e f} : RM.thenS (.ok d e) f = f d e := nr rfl
theorem h_thenS_exn {x e f} : RM.thenS (.exn x e) f = .ex x e := nr rfl
theorem h_thenS_no {f} : RM.thenS .no f = .no := nr rfl
theorem h_ofO {e} : RS.ofO (some e) = .nx e := nr rfl
theorem h_ofOn  : RS.ofO none = .no := nr rfl
theorem h_of {d e} : RM.of (some d) e = .ok d e := nr rfl
theorem h_ofn {e} : RM.of none e = .no := nr rfl
theorem h_mofO {d e} : RM.ofO (some (d, e)) = .ok d e := nr rfl
theorem h_mofOn  : RM.ofO none = .no := nr rfl
theorem h_iteF1 {s u e} : iteF (some true) s u e = s e := nr rfl
theorem h_iteF0 {s u e} : iteF (some false) s u e = u e := nr rfl
theorem h_iteFn {s u e} : iteF none s u e = .no := nr rfl
theorem h_asgK {P i d e} : asgK P i d e = RS.ofO (setS P i d e) := nr rfl
theorem h_asgGK {T : Tbl} {W : Wd T} {P} {g : XG W} {d e} : asgGK P g d e = RS.ofO (g.ev P (fz d) e) := nr rfl
theorem h_ifF1 {s u e} : ifF (some true) s u e = s e := nr rfl
theorem h_ifF0 {s u e} : ifF (some false) s u e = u e := nr rfl
theorem h_forK {T : Tbl} {W : Wd T} {g : XG W} {b : XS W} {P d e} : forK g b P d e = turnE (g.ev P d e) (b.ev P) := nr rfl
theorem h_andF1 {f e} : andF (some true) f e = f e := nr rfl
theorem h_andF0 {f e} : andF (some false) f e = some false := nr rfl
theorem h_orF1 {f e} : orF (some true) f e = some true := nr rfl
theorem h_orF0 {f e} : orF (some false) f e = f e := nr rfl
theorem h_blD {b} : blD (.bl b) = some b := nr rfl
theorem h_turn {e f} : turnE (some e) f = f e := nr rfl
theorem h_turnn {f} : turnE none f = .no := nr rfl
theorem h_forE {f ds env} : forE f (some ds) env = forL f ds env := nr rfl
theorem h_forEn {f env} : forE f none env = .no := nr rfl
theorem h_callF {φ : List D -> Option Nat -> Rz} {n dds ds v} : callE φ n dds (some ds) v = if (ds ++ dds).length = n then (φ (ds ++ dds) none).toF else none := nr rfl
theorem h_callV {φ : List D -> Option Nat -> Rz} {n dds ds} : callE φ n dds none (some ds) = if (ds ++ dds).length = n then (φ (ds ++ dds) none).toV else none := nr rfl
theorem h_rzF {d b} : (Rz.ok d b).toF = some (.fr, d) := nr rfl
theorem h_rzV {d b} : (Rz.ok d b).toV = some (if isFlat d = true then (.fr, d) else (.vw, fz d)) := nr rfl
theorem h_fz_non  : fz (.non) = .non := by simp [fz]
theorem h_sh_non  : isSh (.non) = true := nr rfl
theorem h_fl_non  : isFlat (.non) = true := nr rfl
theorem h_isN_non  : isNon (.non) = true := nr rfl
theorem h_fz_bl {b} : fz (.bl b) = .bl b := by simp [fz]
theorem h_sh_bl {b} : isSh (.bl b) = true := nr rfl
theorem h_fl_bl {b} : isFlat (.bl b) = true := nr rfl
theorem h_fz_int {i} : fz (.int i) = .int i := by simp [fz]
theorem h_sh_int {i} : isSh (.int i) = true := nr rfl
theorem h_fl_int {i} : isFlat (.int i) = true := nr rfl
theorem h_isN_int {i} : isNon (.int i) = false := nr rfl
theorem h_fz_str {x} : fz (.str x) = .str x := by simp [fz]
theorem h_sh_str {x} : isSh (.str x) = true := nr rfl
theorem h_fl_str {x} : isFlat (.str x) = true := nr rfl
theorem h_isN_str {x} : isNon (.str x) = false := nr rfl
theorem h_fz_cls {c} : fz (.cls c) = .cls c := by simp [fz]
theorem h_sh_cls {c} : isSh (.cls c) = true := nr rfl
theorem h_fl_cls {c} : isFlat (.cls c) = true := nr rfl
theorem h_isN_cls {c} : isNon (.cls c) = false := nr rfl
theorem h_fz_sei {xs} : fz (.sei xs) = .sei xs := by simp [fz]
theorem h_sh_sei {xs} : isSh (.sei xs) = true := nr rfl
theorem h_fl_sei {xs} : isFlat (.sei xs) = false := nr rfl
theorem h_isN_sei {xs} : isNon (.sei xs) = false := nr rfl
theorem h_fz_scr {ns} : fz (.scr ns) = .scr ns := by simp [fz]
theorem h_sh_scr {ns} : isSh (.scr ns) = true := nr rfl
theorem h_fl_scr {ns} : isFlat (.scr ns) = false := nr rfl
theorem h_isN_scr {ns} : isNon (.scr ns) = false := nr rfl
theorem h_fz_tup {xs} : fz (.tup xs) = .tup xs := by simp [fz]
theorem h_sh_tup {xs} : isSh (.tup xs) = true := nr rfl
theorem h_fl_tup {xs} : isFlat (.tup xs) = false := nr rfl
theorem h_isN_tup {xs} : isNon (.tup xs) = false := nr rfl
theorem h_fz_lst {xs} : fz (.lst xs) = .lst xs := by simp [fz]
theorem h_sh_lst {xs} : isSh (.lst xs) = true := nr rfl
theorem h_fl_lst {xs} : isFlat (.lst xs) = false := nr rfl
theorem h_isN_lst {xs} : isNon (.lst xs) = false := nr rfl
theorem h_fz_dic {ks xs} : fz (.dic ks xs) = .dic ks xs := by simp [fz]
theorem h_sh_dic {ks xs} : isSh (.dic ks xs) = true := nr rfl
theorem h_fl_dic {ks xs} : isFlat (.dic ks xs) = false := nr rfl
theorem h_isN_dic {ks xs} : isNon (.dic ks xs) = false := nr rfl
theorem h_fz_dit {ks xs} : fz (.dit ks xs) = .dit ks xs := by simp [fz]
theorem h_sh_dit {ks xs} : isSh (.dit ks xs) = true := nr rfl
theorem h_fl_dit {ks xs} : isFlat (.dit ks xs) = false := nr rfl
theorem h_isN_dit {ks xs} : isNon (.dit ks xs) = false := nr rfl
theorem h_fz_dig {ks xs} : fz (.dig ks xs) = .dig ks xs := by simp [fz]
theorem h_sh_dig {ks xs} : isSh (.dig ks xs) = true := nr rfl
theorem h_fl_dig {ks xs} : isFlat (.dig ks xs) = false := nr rfl
theorem h_isN_dig {ks xs} : isNon (.dig ks xs) = false := nr rfl
theorem h_fz_ins {c ns xs} : fz (.ins c ns xs) = .ins c ns xs := by simp [fz]
theorem h_sh_ins {c ns xs} : isSh (.ins c ns xs) = true := nr rfl
theorem h_fl_ins {c ns xs} : isFlat (.ins c ns xs) = false := nr rfl
theorem h_isN_ins {c ns xs} : isNon (.ins c ns xs) = false := nr rfl
theorem h_isN_bl {b} : isNon (.bl b) = false := nr rfl
theorem h_fz_olst {xs} : fz (.olst xs) = .lst (fzs xs) := by rw [fz]
theorem h_sh_olst {xs} : isSh (.olst xs) = false := nr rfl
theorem h_fl_olst {xs} : isFlat (.olst xs) = false := nr rfl
theorem h_fz_odic {ks xs} : fz (.odic ks xs) = .dic ks (fzs xs) := by rw [fz]
theorem h_sh_odic {ks xs} : isSh (.odic ks xs) = false := nr rfl
theorem h_fl_odic {ks xs} : isFlat (.odic ks xs) = false := nr rfl
theorem h_fz_odit {ks xs} : fz (.odit ks xs) = .dit ks (fzs xs) := by rw [fz]
theorem h_sh_odit {ks xs} : isSh (.odit ks xs) = false := nr rfl
theorem h_fl_odit {ks xs} : isFlat (.odit ks xs) = false := nr rfl
theorem h_fz_odig {ks xs} : fz (.odig ks xs) = .dig ks (fzs xs) := by rw [fz]
theorem h_sh_odig {ks xs} : isSh (.odig ks xs) = false := nr rfl
theorem h_fl_odig {ks xs} : isFlat (.odig ks xs) = false := nr rfl
theorem h_fz_oins {c ns xs} : fz (.oins c ns xs) = .ins c ns (fzs xs) := by rw [fz]
theorem h_sh_oins {c ns xs} : isSh (.oins c ns xs) = false := nr rfl
theorem h_fl_oins {c ns xs} : isFlat (.oins c ns xs) = false := nr rfl
theorem h_fzs_nil  : fzs [] = [] := by rw [fzs]
theorem h_fzs_cons {x xs} : fzs (x :: xs) = fz x :: fzs xs := by rw [fzs]
theorem h_fzs_app {xs ys} : fzs (xs ++ ys) = fzs xs ++ fzs ys := by rw [fzs_eq, fzs_eq, fzs_eq, List.map_append]
theorem h_tru_bl {b} : truD (.bl b) = some b := nr rfl
theorem h_tru_non  : truD .non = some false := nr rfl
theorem h_tru_int {i} : truD (.int i) = some (decide (i ≠ 0)) := nr rfl
theorem h_tru_lst {ds} : truD (.lst ds) = some (!ds.isEmpty) := nr rfl
theorem h_tru_tup {ds} : truD (.tup ds) = some (!ds.isEmpty) := nr rfl
theorem h_sub {i j} : subD (.int i) (.int j) = some (.int (i - j)) := nr rfl
theorem h_neg {i} : negD (.int i) = some (.int (-i)) := nr rfl
theorem h_addI {i j} : addD (.int i) (.int j) = some (.int (i + j)) := nr rfl
theorem h_addT {xs ys} : addD (.tup xs) (.tup ys) = if xs ≠ [] /\ xs.length + ys.length <= 1000000 then some (.tup (xs ++ ys)) else none := nr rfl
theorem h_addL {xs ys} : addD (.lst xs) (.lst ys) = if xs.length + ys.length <= 1000000 then some (.olst (xs ++ ys)) else none := nr rfl
theorem h_addLo {xs ys} : addD (.lst xs) (.olst ys) = if ys.all isSh = true then (if xs.length + ys.length <= 1000000 then some (.olst (xs ++ ys)) else none) else none := by by_cases h1 : xs.all isSh = true <;> by_cases h2 : ys.all isSh = true <;> simp only [addD, lstOf, h1, h2, if_true, if_false, and_self, and_true, true_and, and_false, false_and, Bool.false_eq_true]
theorem h_addoL {xs ys} : addD (.olst xs) (.lst ys) = if xs.all isSh = true then (if xs.length + ys.length <= 1000000 then some (.olst (xs ++ ys)) else none) else none := by by_cases h1 : xs.all isSh = true <;> by_cases h2 : ys.all isSh = true <;> simp only [addD, lstOf, h1, h2, if_true, if_false, and_self, and_true, true_and, and_false, false_and, Bool.false_eq_true]
theorem h_addoo {xs ys} : addD (.olst xs) (.olst ys) = if xs.all isSh = true /\ ys.all isSh = true then (if xs.length + ys.length <= 1000000 then some (.olst (xs ++ ys)) else none) else none := by by_cases h1 : xs.all isSh = true <;> by_cases h2 : ys.all isSh = true <;> simp only [addD, lstOf, h1, h2, if_true, if_false, and_self, and_true, true_and, and_false, false_and, Bool.false_eq_true]
theorem h_mulL {i j} (h1 : -18446744073709551616 < i) (h2 : i < 18446744073709551616) : mulD (.int i) (.int j) = some (.int (i * j)) := if_pos (.inl ⟨h1, h2⟩)
theorem h_mulR {i j} (h1 : -18446744073709551616 < j) (h2 : j < 18446744073709551616) : mulD (.int i) (.int j) = some (.int (i * j)) := if_pos (.inr (.inl ⟨h1, h2⟩))
theorem h_div {i j} (h1 : 0 < j) (h2 : j < 1073741824) : divD (.int i) (.int j) = some (.int (i / j)) := if_pos ⟨h1, .inl h2⟩
theorem h_mod {i j} (h1 : 0 < j) : modD (.int i) (.int j) = some (.int (i % j)) := if_pos h1
theorem h_eqD {x y} : eqD x y = if okD 60 x = true /\ okD 60 y = true then some (.bl (eqB x y)) else none := nr rfl
theorem h_neD {x y} : neD x y = if okD 60 x = true /\ okD 60 y = true then some (.bl (!eqB x y)) else none := nr rfl
theorem h_ok_non {n} : okD n (.non) = true := by cases n <;> simp [okD]
theorem h_ok_bl {n}{b} : okD n (.bl b) = true := by cases n <;> simp [okD]
theorem h_ok_int {n}{i} : okD n (.int i) = true := by cases n <;> simp [okD]
theorem h_ok_str {n}{x} : okD n (.str x) = true := by cases n <;> simp [okD]
theorem h_ok_tup {n xs} : okD (n + 1) (.tup xs) = okDs n xs := by rw [okD]
theorem h_ok_lst {n xs} : okD (n + 1) (.lst xs) = okDs n xs := by rw [okD]
theorem h_oks_nil {n} : okDs n [] = true := by rw [okDs]
theorem h_oks_cons {n x xs} : okDs n (x :: xs) = (okD n x && okDs n xs) := by rw [okDs]
theorem h_eqB_ii {i j} : eqB (.int i) (.int j) = decide (i = j) := by rw [eqB]
theorem h_eqB_ss {x y} : eqB (.str x) (.str y) = decide (x = y) := by rw [eqB]
theorem h_eqB_bb {a b} : eqB (.bl a) (.bl b) = decide (a = b) := by rw [eqB]
theorem h_eqB_nn  : eqB .non .non = true := by rw [eqB]
theorem h_eqB_ni {i} : eqB .non (.int i) = false := by simp [eqB]
theorem h_eqB_in {i} : eqB (.int i) .non = false := by simp [eqB]
theorem h_eqB_nt {xs} : eqB .non (.tup xs) = false := by simp [eqB]
theorem h_eqB_tn {xs} : eqB (.tup xs) .non = false := by simp [eqB]
theorem h_eqB_tt {xs ys} : eqB (.tup xs) (.tup ys) = eqBs xs ys := by rw [eqB]
theorem h_eqB_ll {xs ys} : eqB (.lst xs) (.lst ys) = eqBs xs ys := by rw [eqB]
theorem h_eqBs_nn  : eqBs [] [] = true := by rw [eqBs]
theorem h_eqBs_cc {x xs y ys} : eqBs (x :: xs) (y :: ys) = (eqB x y && eqBs xs ys) := by rw [eqBs]
theorem h_eqBs_nc {y ys} : eqBs [] (y :: ys) = false := by simp [eqBs]
theorem h_eqBs_cn {y ys} : eqBs (y :: ys) [] = false := by simp [eqBs]
theorem h_cmp {f i j} : cmpD f (.int i) (.int j) = some (.bl (f i j)) := nr rfl
theorem h_ltI {i j} : ltD (.int i) (.int j) = some (.bl (decide (i < j))) := nr rfl
theorem h_ltT {xs ys} : ltD (.tup xs) (.tup ys) = (intsOf xs).bind fun ns => (intsOf ys).map fun ms => .bl (HT.lexLt ns ms) := nr rfl
theorem h_ints_nil  : intsOf [] = some [] := nr rfl
theorem h_ints_cons {i ds} : intsOf (.int i :: ds) = (intsOf ds).map (i :: ·) := nr rfl
theorem h_intI {i} : intD [.int i] = some (.int i) := nr rfl
theorem h_intB {b} : intD [.bl b] = some (.int (if b = true then 1 else 0)) := nr rfl
theorem h_abs {i} : absD [.int i] = some (.int (if i < 0 then -i else i)) := nr rfl
theorem h_lenL {ds} : lenD [.lst ds] = some (.int ds.length) := nr rfl
theorem h_lenT {ds} : lenD [.tup ds] = some (.int ds.length) := nr rfl
theorem h_lenS {ns} : lenD [.scr ns] = some (.int ns.length) := nr rfl
theorem h_ix {d i} : ixD d (.int i) = (itemsD d).bind fun xs => atI xs i := nr rfl
theorem h_it_lst {xs} : itemsD (.lst xs) = some xs := nr rfl
theorem h_it_olst {xs} : itemsD (.olst xs) = some xs := nr rfl
theorem h_it_tup {xs} : itemsD (.tup xs) = some xs := nr rfl
theorem h_it_scr {ns} : itemsD (.scr ns) = some (ns.map .int) := nr rfl
theorem h_at0 {α : Type} {x : α} {xs} : atI (x :: xs) 0 = some x := by simp [atI, ixN]
theorem h_at1 {α : Type} {xs : List α} : atI xs 1 = xs[1]? := atI_litN 1
theorem h_at2 {α : Type} {xs : List α} : atI xs 2 = xs[2]? := atI_litN 2
theorem h_at3 {α : Type} {xs : List α} : atI xs 3 = xs[3]? := atI_litN 3
theorem h_at4 {α : Type} {xs : List α} : atI xs 4 = xs[4]? := atI_litN 4
theorem h_at5 {α : Type} {xs : List α} : atI xs 5 = xs[5]? := atI_litN 5
theorem h_at6 {α : Type} {xs : List α} : atI xs 6 = xs[6]? := atI_litN 6
theorem h_at7 {α : Type} {xs : List α} : atI xs 7 = xs[7]? := atI_litN 7
theorem h_at8 {α : Type} {xs : List α} : atI xs 8 = xs[8]? := atI_litN 8
theorem h_at9 {α : Type} {xs : List α} : atI xs 9 = xs[9]? := atI_litN 9
theorem h_at10 {α : Type} {xs : List α} : atI xs 10 = xs[10]? := atI_litN 10
theorem h_at11 {α : Type} {xs : List α} : atI xs 11 = xs[11]? := atI_litN 11
theorem h_at12 {α : Type} {xs : List α} : atI xs 12 = xs[12]? := atI_litN 12
theorem h_atm1 {α : Type} {xs : List α} : atI xs (-1) = xs.getLast? := atI_last
theorem h_seq_lst {xs} : seqOf (.lst xs) = some (false, xs) := nr rfl
theorem h_seq_tup {xs} : seqOf (.tup xs) = some (true, xs) := nr rfl
theorem h_seq_olst {xs} : seqOf (.olst xs) = if xs.all isSh = true then some (false, xs) else none := nr rfl
theorem h_seq_scr {ns} : seqOf (.scr ns) = some (false, ns.map .int) := nr rfl
theorem h_sF_lst {xs} : seqF (.lst xs) = some xs := nr rfl
theorem h_sF_tup {xs} : seqF (.tup xs) = some xs := nr rfl
theorem h_sF_scr {ns} : seqF (.scr ns) = some (ns.map .int) := nr rfl
theorem h_lF_lst {xs} : lstF (.lst xs) = some xs := nr rfl
theorem h_ty_non  : tyD (.non) = some (false, "NoneType") := nr rfl
theorem h_ty_bl {b} : tyD (.bl b) = some (false, "bool") := nr rfl
theorem h_ty_int {i} : tyD (.int i) = some (false, "int") := nr rfl
theorem h_ty_str {x} : tyD (.str x) = some (false, "str") := nr rfl
theorem h_ty_lst {xs} : tyD (.lst xs) = some (false, "list") := nr rfl
theorem h_ty_tup {xs} : tyD (.tup xs) = some (false, "tuple") := nr rfl
theorem h_ty_ins {c ns xs} : tyD (.ins c ns xs) = some (true, c) := nr rfl
theorem h_isi_bb {T : Tbl} {a b} : isi1 T (false, a) (false, b) = isiB a b := nr rfl
theorem h_isi_bo {T : Tbl} {a b} : isi1 T (false, a) (true, b) = false := nr rfl
theorem h_isi_ob {T : Tbl} {a b} : isi1 T (true, a) (false, b) = false := nr rfl
theorem h_isi_oo {T : Tbl} {a b} : isi1 T (true, a) (true, b) = T.sub a b := nr rfl
theorem h_isiA_n {T : Tbl} {t} : isiA T t [] = false := nr rfl
theorem h_isiA_c {T : Tbl} {t c cs} : isiA T t (c :: cs) = (isi1 T t c || isiA T t cs) := nr rfl
theorem h_isiB_NoneType_bool  : isiB "NoneType" "bool" = false := by decide
theorem h_isiB_NoneType_int  : isiB "NoneType" "int" = false := by decide
theorem h_isiB_NoneType_str  : isiB "NoneType" "str" = false := by decide
theorem h_isiB_NoneType_list  : isiB "NoneType" "list" = false := by decide
theorem h_isiB_NoneType_tuple  : isiB "NoneType" "tuple" = false := by decide
theorem h_isiB_NoneType_dict  : isiB "NoneType" "dict" = false := by decide
theorem h_isiB_bool_bool  : isiB "bool" "bool" = true := by decide
theorem h_isiB_bool_int  : isiB "bool" "int" = true := by decide
theorem h_isiB_bool_str  : isiB "bool" "str" = false := by decide
theorem h_isiB_bool_list  : isiB "bool" "list" = false := by decide
theorem h_isiB_bool_tuple  : isiB "bool" "tuple" = false := by decide
theorem h_isiB_bool_dict  : isiB "bool" "dict" = false := by decide
theorem h_isiB_int_bool  : isiB "int" "bool" = false := by decide
theorem h_isiB_int_int  : isiB "int" "int" = true := by decide
theorem h_isiB_int_str  : isiB "int" "str" = false := by decide
theorem h_isiB_int_list  : isiB "int" "list" = false := by decide
theorem h_isiB_int_tuple  : isiB "int" "tuple" = false := by decide
theorem h_isiB_int_dict  : isiB "int" "dict" = false := by decide
theorem h_isiB_str_bool  : isiB "str" "bool" = false := by decide
theorem h_isiB_str_int  : isiB "str" "int" = false := by decide
theorem h_isiB_str_str  : isiB "str" "str" = true := by decide
theorem h_isiB_str_list  : isiB "str" "list" = false := by decide
theorem h_isiB_str_tuple  : isiB "str" "tuple" = false := by decide
theorem h_isiB_str_dict  : isiB "str" "dict" = false := by decide
theorem h_isiB_list_bool  : isiB "list" "bool" = false := by decide
theorem h_isiB_list_int  : isiB "list" "int" = false := by decide
theorem h_isiB_list_str  : isiB "list" "str" = false := by decide
theorem h_isiB_list_list  : isiB "list" "list" = true := by decide
theorem h_isiB_list_tuple  : isiB "list" "tuple" = false := by decide
theorem h_isiB_list_dict  : isiB "list" "dict" = false := by decide
theorem h_isiB_tuple_bool  : isiB "tuple" "bool" = false := by decide
theorem h_isiB_tuple_int  : isiB "tuple" "int" = false := by decide
theorem h_isiB_tuple_str  : isiB "tuple" "str" = false := by decide
theorem h_isiB_tuple_list  : isiB "tuple" "list" = false := by decide
theorem h_isiB_tuple_tuple  : isiB "tuple" "tuple" = true := by decide
theorem h_isiB_tuple_dict  : isiB "tuple" "dict" = false := by decide
theorem h_isiB_dict_bool  : isiB "dict" "bool" = false := by decide
theorem h_isiB_dict_int  : isiB "dict" "int" = false := by decide
theorem h_isiB_dict_str  : isiB "dict" "str" = false := by decide
theorem h_isiB_dict_list  : isiB "dict" "list" = false := by decide
theorem h_isiB_dict_tuple  : isiB "dict" "tuple" = false := by decide
theorem h_isiB_dict_dict  : isiB "dict" "dict" = true := by decide
theorem h_append {xs d} : appendD (.olst xs) [d] = if xs.length < 1000000 then some (.olst (xs ++ [d]), .non) else none := nr rfl
theorem h_pop {xs} : popD (.olst xs) [] = (xs.getLast?).map fun x => (.olst xs.dropLast, x) := nr rfl
theorem h_put0 {d n : D} : D.putAt d [] n = n := nr rfl
theorem h_rng1 {n} : rng1D [.int n] = guardB (rngOk n) (some (rangeD 0 n.toNat)) := nr rfl
theorem h_rng2 {m n} : rng2D [.int m, .int n] = guardB (rngOk m && rngOk n) (some (rangeD m (n - m).toNat)) := nr rfl
theorem h_guard1 {α : Type} {x : Option α} : guardB true x = x := nr rfl
theorem h_guard0 {α : Type} {x : Option α} : guardB false x = none := nr rfl
theorem h_rngOk {i : Int} (h1 : -1000000000000000000 <= i) (h2 : i <= 1000000000000000000) : rngOk i = true := Nat.ble_eq_true_of_le (by omega)
theorem h_forLn {f env} : forL f [] env = .nx env := nr rfl
theorem h_forLc {f d ds env} : forL f (d :: ds) env = forT f ds (f d env) := by show (match f d env with | .nx e => _ | .ct e => _ | .bk e => _ | r => r) = _; cases f d env <;> rfl
theorem h_forT_nx {f ds e} : forT f ds (.nx e) = forL f ds e := nr rfl
theorem h_forT_ct {f ds e} : forT f ds (.ct e) = forL f ds e := nr rfl
theorem h_forT_bk {f ds e} : forT f ds (.bk e) = .nx e := nr rfl
theorem h_forT_rt {f ds d e} : forT f ds (.rt d e) = .rt d e := nr rfl
theorem h_forT_ex {f ds x e} : forT f ds (.ex x e) = .ex x e := nr rfl
theorem h_lc1 {T : Tbl} {W : Wd T} {g : XG W} {c : XT W} {x : XP W} {env d} : lc1 g c x env d = lcK c x (g.ev [] d env) := by show (g.ev [] d env).bind _ = _; cases g.ev [] d env <;> rfl
theorem h_lcK {T : Tbl} {W : Wd T} {c : XT W} {x : XP W} {e} : lcK c x (some e) = lcJ x (c.ev e) e := nr rfl
theorem h_lcJ1 {T : Tbl} {W : Wd T} {x : XP W} {e} : lcJ x (some true) e = (x.evO e).map fun y => [y] := nr rfl
theorem h_lcJ0 {T : Tbl} {W : Wd T} {x : XP W} {e} : lcJ x (some false) e = some [] := nr rfl
theorem h_wipe0 {env} : wipeE env [] = env := nr rfl
theorem h_wipes {env v vs} : wipeE env (v :: vs) = (wipeE env vs).set v none := nr rfl
theorem h_frz {env i} : frzS env i = frzO env i (getS env i) := by unfold frzS frzO; cases getS env i <;> rfl
theorem h_frzO {env i d} : frzO env i (some d) = env.set i (some (fz d)) := nr rfl
theorem h_frzOn {env i} : frzO env i none = env := nr rfl
theorem h_runR_rt {b d env} : runR b (.rt d env) = retZ (bGet b env) d := by cases hb : bGet b env <;> simp [runR, retZ, hb]
theorem h_runR_nx {b env} : runR b (.nx env) = retZ (bGet b env) .non := by cases hb : bGet b env <;> simp [runR, retZ, hb]
theorem h_retZ {x d} : retZ (some x) d = .ok d x := nr rfl
theorem h_bGetn {env} : bGet none env = some none := nr rfl
theorem h_bGets {i env} : bGet (some i) env = (getS env i).map some := nr rfl
theorem h_setS {P i d env} : setS P i d env = if i < env.length /\ i ∉ P then some (env.set i (some d)) else none := nr rfl
theorem h_fldI {T : Tbl} {f c ns xs} : fldD T f (.ins c ns xs) = if T.fOk c f = true then (pos f ns).bind fun j => xs[j]? else none := nr rfl
theorem h_fldO {T : Tbl} {f c ns xs} : fldD T f (.oins c ns xs) = if T.fOk c f = true then (pos f ns).bind fun j => xs[j]? else none := nr rfl
theorem h_iteFd1 {p : Prop} [Decidable p] {s u e} (h : p) : iteF (some (decide p)) s u e = s e := by rw [decide_eq_true h]; rfl
theorem h_iteFd0 {p : Prop} [Decidable p] {s u e} (h : ¬ p) : iteF (some (decide p)) s u e = u e := by rw [decide_eq_false h]; rfl
theorem h_iteFe1 {p : Prop} [Decidable p] {s u e} (h : ¬ p) : iteF (some (!decide p)) s u e = s e := by rw [decide_eq_false h]; rfl
theorem h_iteFe0 {p : Prop} [Decidable p] {s u e} (h : p) : iteF (some (!decide p)) s u e = u e := by rw [decide_eq_true h]; rfl
theorem h_andFd1 {p : Prop} [Decidable p] {s e} (h : p) : andF (some (decide p)) s e = s e := by rw [decide_eq_true h]; rfl
theorem h_andFd0 {p : Prop} [Decidable p] {s e} (h : ¬ p) : andF (some (decide p)) s e = some false := by rw [decide_eq_false h]; rfl
theorem h_andFe1 {p : Prop} [Decidable p] {s e} (h : ¬ p) : andF (some (!decide p)) s e = s e := by rw [decide_eq_false h]; rfl
theorem h_andFe0 {p : Prop} [Decidable p] {s e} (h : p) : andF (some (!decide p)) s e = some false := by rw [decide_eq_true h]; rfl
theorem h_orFd1 {p : Prop} [Decidable p] {s e} (h : p) : orF (some (decide p)) s e = some true := by rw [decide_eq_true h]; rfl
theorem h_orFd0 {p : Prop} [Decidable p] {s e} (h : ¬ p) : orF (some (decide p)) s e = s e := by rw [decide_eq_false h]; rfl
theorem h_orFe1 {p : Prop} [Decidable p] {s e} (h : ¬ p) : orF (some (!decide p)) s e = some true := by rw [decide_eq_false h]; rfl
theorem h_orFe0 {p : Prop} [Decidable p] {s e} (h : p) : orF (some (!decide p)) s e = s e := by rw [decide_eq_true h]; rfl
theorem h_ifFd1 {p : Prop} [Decidable p] {s u e} (h : p) : ifF (some (decide p)) s u e = s e := by rw [decide_eq_true h]; rfl
theorem h_ifFd0 {p : Prop} [Decidable p] {s u e} (h : ¬ p) : ifF (some (decide p)) s u e = u e := by rw [decide_eq_false h]; rfl
theorem h_ifFe1 {p : Prop} [Decidable p] {s u e} (h : ¬ p) : ifF (some (!decide p)) s u e = s e := by rw [decide_eq_false h]; rfl
theorem h_ifFe0 {p : Prop} [Decidable p] {s u e} (h : p) : ifF (some (!decide p)) s u e = u e := by rw [decide_eq_true h]; rfl
theorem h_lcJd1 {T : Tbl} {W : Wd T} {x : XP W} {e} {p : Prop} [Decidable p] (h : p) : lcJ x (some (decide p)) e = (x.evO e).map fun y => [y] := by rw [decide_eq_true h]; rfl
theorem h_lcJd0 {T : Tbl} {W : Wd T} {x : XP W} {e} {p : Prop} [Decidable p] (h : ¬ p) : lcJ x (some (decide p)) e = some [] := by rw [decide_eq_false h]; rfl
theorem h_lcJe1 {T : Tbl} {W : Wd T} {x : XP W} {e} {p : Prop} [Decidable p] (h : ¬ p) : lcJ x (some (!decide p)) e = (x.evO e).map fun y => [y] := by rw [decide_eq_false h]; rfl
theorem h_lcJe0 {T : Tbl} {W : Wd T} {x : XP W} {e} {p : Prop} [Decidable p] (h : p) : lcJ x (some (!decide p)) e = some [] := by rw [decide_eq_true h]; rfl
theorem h_eMeth {T : Tbl} {W : Wd T} {φ : Sem} {m n} {a : XP W} {as : XA W} {env} : (xMeth φ m n a as).ev env = methE T φ m n (a.evF env) (as.evF env) (a.evV env) (as.evV env) := nr rfl
theorem h_methF {T : Tbl} {φ : Sem} {m n d ds v vs} : methE T φ m n (some d) (some ds) v vs = (meth1 T φ m n (d :: ds)).toF := nr rfl
theorem h_methV {T : Tbl} {φ : Sem} {m n fs d ds} : methE T φ m n none fs (some d) (some ds) = (meth1 T φ m n (d :: ds)).toV := nr rfl
theorem h_methW {T : Tbl} {φ : Sem} {m n f d ds} : methE T φ m n (some f) none (some d) (some ds) = (meth1 T φ m n (d :: ds)).toV := nr rfl
theorem h_eCallO {T : Tbl} {W : Wd T} {φ : Sem} {n} {a : XP W} {as : XA W} {env} : (xCallO φ n a as).ev env = callOE T φ n (a.evF env) (as.evF env) (a.evV env) (as.evV env) := nr rfl
theorem h_callOF {T : Tbl} {φ : Sem} {n d ds v vs} : callOE T φ n (some d) (some ds) v vs = (callO1 T φ n (d :: ds)).toF := nr rfl
theorem h_callOV {T : Tbl} {φ : Sem} {n fs d ds} : callOE T φ n none fs (some d) (some ds) = (callO1 T φ n (d :: ds)).toV := nr rfl
theorem h_callOW {T : Tbl} {φ : Sem} {n f d ds} : callOE T φ n (some f) none (some d) (some ds) = (callO1 T φ n (d :: ds)).toV := nr rfl
theorem h_callO1 {T : Tbl} {φ : Sem} {n c ns xs ds} : callO1 T φ n (.ins c ns xs :: ds) = resE (T.res c "__call__") fun nm => if ds.length + 1 = n then φ nm (.ins c ns xs :: ds) none else .no := by show (match T.res c "__call__" with | some nm => _ | none => _) = _; cases T.res c "__call__" <;> rfl
theorem h_meth1 {T : Tbl} {φ : Sem} {m n c ns xs ds} : meth1 T φ m n (.ins c ns xs :: ds) = resE (T.res c m) fun nm => if pos m ns = none /\ ds.length + 1 = n then φ nm (.ins c ns xs :: ds) none else .no := by show (match T.res c m with | some nm => _ | none => _) = _; cases T.res c m <;> rfl
theorem h_meth2 {T : Tbl} {φ : Sem} {m n c ns xs ds} : meth2 T φ m n (.oins c ns xs :: ds) = resE (T.res c m) fun nm => if pos m ns = none /\ ds.length + 1 = n then φ nm (.oins c ns xs :: ds) (some 0) else .no := by show (match T.res c m with | some nm => _ | none => _) = _; cases T.res c m <;> rfl
theorem h_resE {nm f} : resE (some nm) f = f nm := nr rfl
theorem h_resEn {f} : resE none f = .no := nr rfl
theorem h_posn {m : String} : pos m [] = none := nr rfl
theorem h_posc {m n : String} {ns} : pos m (n :: ns) = if n = m then some 0 else (pos m ns).map (· + 1) := nr rfl
theorem h_eMmeth {T : Tbl} {W : Wd T} {φ : Sem} {m n} {p : XPl W} {as : XA W} {P env} : (xmMeth φ m n p as).ev P env = methM T φ m n p.root (p.ev env) (as.evF env) env := nr rfl
theorem h_methM1 {T : Tbl} {φ : Sem} {m n i st c ns xs ds env} : methM T φ m n i (some (st, .oins c ns xs)) (some ds) env = rm1 (meth2 T φ m n (.oins c ns xs :: ds)) (getS env i) i st env := nr rfl
theorem h_methM0 {T : Tbl} {φ : Sem} {m n i st c ns xs ds env} : methM T φ m n i (some (st, .ins c ns xs)) (some ds) env = rm0 (meth1 T φ m n (.ins c ns xs :: ds)) env := nr rfl
theorem h_rm0o {d b e} : rm0 (.ok d b) e = .ok d e := nr rfl
theorem h_rm0x {x b e} : rm0 (.exn x b) e = .exn x e := nr rfl
theorem h_rm0n {e} : rm0 .no e = .no := nr rfl
theorem h_rm1o {d n d0 i st e} : rm1 (.ok d (some n)) (some d0) i st e = .ok d (e.set i (some (d0.putAt st n))) := nr rfl
theorem h_rm1x {x n d0 i st e} : rm1 (.exn x (some n)) (some d0) i st e = .exn x (e.set i (some (d0.putAt st n))) := nr rfl
theorem h_putc {d : D} {s st n} : D.putAt d (s :: st) n = putE d s st n (d.sub s) := by show (match d.sub s with | some x => _ | none => _) = _; cases d.sub s <;> rfl
theorem h_putE {d : D} {s st n x} : putE d s st n (some x) = d.put s (x.putAt st n) := nr rfl
theorem h_subF {c ns xs f} : D.sub (.oins c ns xs) (.fld f) = (pos f ns).bind fun j => xs[j]? := nr rfl
theorem h_subI {xs k} : D.sub (.olst xs) (.idx k) = xs[k]? := nr rfl
theorem h_putF {c ns xs f y} : D.put (.oins c ns xs) (.fld f) y = .oins c ns (setO xs (pos f ns) y) := by show (match pos f ns with | some j => _ | none => _) = _; cases pos f ns <;> rfl
theorem h_putI {xs k y} : D.put (.olst xs) (.idx k) y = .olst (xs.set k y) := nr rfl
theorem h_setOs {xs : List D} {j y} : setO xs (some j) y = xs.set j y := nr rfl
theorem h_eSfld {T : Tbl} {W : Wd T} {p : XPl W} {f} {m : XM W} {P env} : (xsFld p f m).ev P env = (m.ev P env).thenS (fldK T p f) := nr rfl
theorem h_fldK {T : Tbl} {W : Wd T} {p : XPl W} {f d e} : fldK T p f d e = RS.ofO ((p.ev e).bind fun q => (setFD T f q.2 [d]).bind fun z => (getS e p.root).map fun d0 => e.set p.root (some (d0.putAt q.1 z.1))) := nr rfl
theorem h_setFD {T : Tbl} {f c ns xs d} : setFD T f (.oins c ns xs) [d] = if T.fOk c f = true /\ ns.length < 1000 then some (.oins c (setF f d ns xs).1 (setF f d ns xs).2, .non) else none := nr rfl
theorem h_setFn {f d} : setF f d [] [] = ([f], [d]) := nr rfl
theorem h_setFc {f d n ns x xs} : setF f d (n :: ns) (x :: xs) = if n = f then (n :: ns, d :: xs) else ((n :: (setF f d ns xs).1), x :: (setF f d ns xs).2) := nr rfl
theorem h_eMake {T : Tbl} {W : Wd T} {φ : Sem} {c ini n} {as : XA W} {dds dvs hd env} : (xMake φ c ini n as dds dvs hd).ev env = makeE φ c ini n dds (as.evF env) (as.evV env) := nr rfl
theorem h_makeF {φ : Sem} {c ini n dds ds v} : makeE φ c ini n dds (some ds) v = (mk1 φ c ini n (ds ++ dds)).map (Prod.mk .fr) := nr rfl
theorem h_makeV {φ : Sem} {c ini n dds ds} : makeE φ c ini n dds none (some ds) = (mk1 φ c ini n (ds ++ dds)).map fun d => (.vw, fz d) := nr rfl
theorem h_mk1 {φ : Sem} {c ini n ds} : mk1 φ c ini n ds = if ds.length + 1 = n then mkR (φ ini (.oins c [] [] :: ds) (some 0)) else none := nr rfl
theorem h_mkR {d} : mkR (.ok .non (some d)) = some d := nr rfl
theorem h_eProp {T : Tbl} {W : Wd T} {φ : Sem} {m} {a : XP W} {env} : (xProp φ m a).ev env = propE T φ m (a.evF env) (a.evV env) := nr rfl
theorem h_propF {T : Tbl} {φ : Sem} {m d v} : propE T φ m (some d) v = (prop1 T φ m d).toF := nr rfl
theorem h_propV {T : Tbl} {φ : Sem} {m d} : propE T φ m none (some d) = (prop1 T φ m d).toV := nr rfl
theorem h_prop1 {T : Tbl} {φ : Sem} {m c ns xs} : prop1 T φ m (.ins c ns xs) = resE (T.res c m) fun nm => φ nm [.ins c ns xs] none := by show (match T.res c m with | some nm => _ | none => _) = _; cases T.res c m <;> rfl
theorem h_eLenU {T : Tbl} {W : Wd T} {φ : Sem} {as : XA W} {env} : (xLenU φ as).ev env = (as.evV env).bind fun ds => (lenI1 T φ ds).map (Prod.mk .fr) := nr rfl
theorem h_lenI_lst {T : Tbl} {φ : Sem} {xs} : lenI1 T φ [.lst xs] = lenD [.lst xs] := nr rfl
theorem h_lenI_tup {T : Tbl} {φ : Sem} {xs} : lenI1 T φ [.tup xs] = lenD [.tup xs] := nr rfl
theorem h_lenI_scr {T : Tbl} {φ : Sem} {xs} : lenI1 T φ [.scr xs] = lenD [.scr xs] := nr rfl
theorem h_lenI_ins {T : Tbl} {φ : Sem} {c ns xs} : lenI1 T φ [.ins c ns xs] = lenQ (T.res c "__len__") fun nm => lenR (φ nm [.ins c ns xs] none) := by show (match T.res c "__len__" with | some nm => _ | none => _) = _; cases T.res c "__len__" <;> rfl
theorem h_lenQ {nm f} : lenQ (some nm) f = f nm := nr rfl
theorem h_lenR {i b} : lenR (.ok (.int i) b) = if 0 <= i /\ i <= 1000000 then some (.int i) else none := nr rfl
theorem h_eSl {T : Tbl} {W : Wd T} {a : XP W} {lo hi env} : (xSl a lo hi).ev env = slE (a.evK env) (evI lo env) (evI hi env) := nr rfl
theorem h_slE {d l u} : slE (some d) (some l) (some u) = (seqOf d).bind fun p => if p.1 = false then some (.fr, .olst (cutL p.2 l u)) else none := nr rfl
theorem h_evI0 {T : Tbl} {W : Wd T} {env} : evI (W := W) none env = some none := nr rfl
theorem h_evI1 {T : Tbl} {W : Wd T} {p : XP W} {env} : evI (some p) env = (p.evV env).bind intO := nr rfl
theorem h_intO {i} : intO (.int i) = some (some i) := nr rfl
theorem h_RTthen_ok {d e f} : RT.then (.ok d e) f = f d e := nr rfl
theorem h_RTthenS_ok {d e f} : RT.thenS (.ok d e) f = f d e := nr rfl
theorem h_RTthen_exn {x e f} : RT.then (.exn x e) f = .exn x e := nr rfl
theorem h_RTthenS_exn {x e f} : RT.thenS (.exn x e) f = .ex x e := nr rfl
theorem h_RTof {b e} : RT.of (some b) e = .ok b e := nr rfl
theorem h_eListU {T : Tbl} {W : Wd T} {φ : Sem} {a : XP W} {env} : (xListU φ a).ev env = (a.evK env).bind (lstE T φ) := nr rfl
theorem h_lstE_lst {T : Tbl} {φ : Sem} {xs} : lstE T φ (.lst xs) = some (.fr, .olst xs) := nr rfl
theorem h_lstE_tup {T : Tbl} {φ : Sem} {xs} : lstE T φ (.tup xs) = some (.fr, .olst xs) := nr rfl
theorem h_lstE_scr {T : Tbl} {φ : Sem} {ns} : lstE T φ (.scr ns) = some (.fr, .olst (ns.map .int)) := nr rfl
theorem h_lstE_olst {T : Tbl} {φ : Sem} {xs} : lstE T φ (.olst xs) = if xs.all isSh = true then some (.fr, .olst xs) else none := by by_cases h : xs.all isSh = true <;> simp only [lstE, seqOf, itOf, h, if_true, if_false, Option.bind_none, Bool.false_eq_true]
theorem h_lstE_ins {T : Tbl} {φ : Sem} {c ns xs} : lstE T φ (.ins c ns xs) = itQ (itOf T (.ins c ns xs)) fun zs => (lenI1 T φ [.ins c ns xs]).bind fun _ => if zs.length <= 1000000 then some (.fr, .olst zs) else none := by unfold lstE; show (itOf T (.ins c ns xs)).bind _ = _; rw [fz_isSh rfl]; cases itOf T (.ins c ns xs) <;> rfl
theorem h_itQ {zs f} : itQ (some zs) f = f zs := nr rfl
theorem h_it_ins {T : Tbl} {c ns xs} : itOf T (.ins c ns xs) = (T.it c).bind fun f => (pos f ns).bind fun j => (xs[j]?).bind lstOf := nr rfl
theorem h_lo_lst {xs} : lstOf (.lst xs) = some xs := nr rfl
theorem h_lo_olst {xs} : lstOf (.olst xs) = if xs.all isSh = true then some xs else none := nr rfl
theorem h_eiSeqUF {T : Tbl} {W : Wd T} {a : XP W} {env} : (xiSeqU a).evF env = (a.evF env).bind (seqFI T) := nr rfl
theorem h_eiSeqUP {T : Tbl} {W : Wd T} {a : XP W} {env} : (xiSeqU a).evP env = (a.evK env).bind (seqKI T) := nr rfl
theorem h_eiEnumUF {T : Tbl} {W : Wd T} {a : XP W} {env} : (xiEnumU a).evF env = (a.evF env).bind (enFI T) := nr rfl
theorem h_eiEnumUP {T : Tbl} {W : Wd T} {a : XP W} {env} : (xiEnumU a).evP env = (a.evK env).bind (enKI T) := nr rfl
theorem h_eiEnumTF {T : Tbl} {W : Wd T} {a : XP W} {env} : (xiEnumT a).evF env = (a.evF env).bind (enTI T) := nr rfl
theorem h_eiEnumTP {T : Tbl} {W : Wd T} {a : XP W} {env} : (xiEnumT a).evP env = (a.evK env).bind (enKI T) := nr rfl
theorem h_enTI_tup {T : Tbl} {xs} : enTI T (.tup xs) = some (enumD xs) := nr rfl
theorem h_enTI_lst {T : Tbl} {xs} : enTI T (.lst xs) = some (enumD xs) := nr rfl
theorem h_enTI_ins {T : Tbl} {c ns xs} : enTI T (.ins c ns xs) = (itOf T (.ins c ns xs)).map enumD := nr rfl
theorem h_seqFI_lst {T : Tbl} {xs} : seqFI T (.lst xs) = some xs := nr rfl
theorem h_seqFI_tup {T : Tbl} {xs} : seqFI T (.tup xs) = some xs := nr rfl
theorem h_seqFI_scr {T : Tbl} {ns} : seqFI T (.scr ns) = some (ns.map .int) := nr rfl
theorem h_seqFI_ins {T : Tbl} {c ns xs} : seqFI T (.ins c ns xs) = itOf T (.ins c ns xs) := nr rfl
theorem h_seqKI_lst {T : Tbl} {xs} : seqKI T (.lst xs) = some xs := nr rfl
theorem h_seqKI_tup {T : Tbl} {xs} : seqKI T (.tup xs) = some xs := nr rfl
theorem h_seqKI_scr {T : Tbl} {ns} : seqKI T (.scr ns) = some (ns.map .int) := nr rfl
theorem h_seqKI_ins {T : Tbl} {c ns xs} : seqKI T (.ins c ns xs) = itOf T (.ins c ns xs) := nr rfl
theorem h_seqKI_olst {T : Tbl} {xs} : seqKI T (.olst xs) = if xs.all isSh = true then some xs else none := by by_cases h : xs.all isSh = true <;> simp only [seqKI, seqOf, itOf, h, if_true, if_false, Bool.false_eq_true]
theorem h_enFI_lst {T : Tbl} {xs} : enFI T (.lst xs) = some (enumD xs) := nr rfl
theorem h_enFI_ins {T : Tbl} {c ns xs} : enFI T (.ins c ns xs) = (itOf T (.ins c ns xs)).map enumD := nr rfl
theorem h_enKI_lst {T : Tbl} {xs} : enKI T (.lst xs) = some (enumD xs) := nr rfl
theorem h_enKI_ins {T : Tbl} {c ns xs} : enKI T (.ins c ns xs) = (itOf T (.ins c ns xs)).map enumD := nr rfl
theorem h_enKI_olst {T : Tbl} {xs} : enKI T (.olst xs) = if xs.all isSh = true then some (enumD xs) else none := by by_cases h : xs.all isSh = true <;> simp only [enKI, lstOf, itOf, h, if_true, if_false, Option.map_none, Bool.false_eq_true]
theorem h_ixD_ins {c ns xs i} : ixD (.ins c ns xs) (.int i) = none := nr rfl
theorem h_okD_ins {n c ns xs} : okD n (.ins c ns xs) = false := by cases n <;> simp [okD]
theorem h_eqD_ins {c ns xs y} : eqD (.ins c ns xs) y = none := by show (if okD 60 (.ins c ns xs) = true /\ okD 60 y = true then _ else _) = _; rw [if_neg (fun z => nomatch z.1)]
theorem h_addD_ins {c ns xs y} : addD (.ins c ns xs) y = none := nr rfl
theorem h_addD_oins {c ns xs y} : addD (.oins c ns xs) y = none := nr rfl
theorem h_eSum {T : Tbl} {W : Wd T} {a : XP W} {env} : (xSum a).ev env = (a.evK env).bind fun d => (seqOf d).bind fun p => (sumI p.2).map (Prod.mk .fr) := nr rfl
theorem h_sumI {ns : List Int} : sumI (ns.map .int) = some (.int ns.sum) := by unfold sumI; rw [intsOf_map]; rfl
theorem h_storeD {xs i d} : storeD (.olst xs) [.int i, d] = if xs.all isSh = true then (ixN xs.length i).map fun j => (.olst (xs.set j d), .non) else none := nr rfl
theorem h_eCallN {T : Tbl} {W : Wd T} {φ n m N bs dd hd} {as ks : XA W} {env} : (xCallN φ n m N bs dd hd as ks).ev env = kwE φ n m N bs dd (as.evF env) (ks.evF env) (as.evV env) (ks.evV env) := nr rfl
theorem h_kwE_F {φ n m N bs dd ds zs v w} : kwE φ n m N bs dd (some ds) (some zs) v w = if ds.length = n /\ zs.length = m /\ (ds ++ mgM bs dd zs).length = N then (φ (ds ++ mgM bs dd zs) none).toF else none := nr rfl
theorem h_kwE_V {φ n m N bs dd g ds zs} : kwE φ n m N bs dd none g (some ds) (some zs) = if ds.length = n /\ zs.length = m /\ (ds ++ mgM bs dd zs).length = N then (φ (ds ++ mgM bs dd zs) none).toV else none := nr rfl
theorem h_kwE_W {φ n m N bs dd f ds zs} : kwE φ n m N bs dd (some f) none (some ds) (some zs) = if ds.length = n /\ zs.length = m /\ (ds ++ mgM bs dd zs).length = N then (φ (ds ++ mgM bs dd zs) none).toV else none := nr rfl
theorem h_eMakeN {T : Tbl} {W : Wd T} {φ c ini n m N bs dd hd} {as ks : XA W} {env} : (xMakeN φ c ini n m N bs dd hd as ks).ev env = makeNE φ c ini n m N bs dd (as.evF env) (ks.evF env) (as.evV env) (ks.evV env) := nr rfl
theorem h_makeNE_F {φ c ini n m N bs dd ds zs v w} : makeNE φ c ini n m N bs dd (some ds) (some zs) v w = (mkN φ c ini n m N bs dd ds zs).map (Prod.mk .fr) := nr rfl
theorem h_makeNE_V {φ c ini n m N bs dd g ds zs} : makeNE φ c ini n m N bs dd none g (some ds) (some zs) = (mkN φ c ini n m N bs dd ds zs).map fun d => (.vw, fz d) := nr rfl
theorem h_makeNE_W {φ c ini n m N bs dd f ds zs} : makeNE φ c ini n m N bs dd (some f) none (some ds) (some zs) = (mkN φ c ini n m N bs dd ds zs).map fun d => (.vw, fz d) := nr rfl
theorem h_mkN {φ c ini n m N bs dd ds zs} : mkN φ c ini n m N bs dd ds zs = if ds.length = n /\ zs.length = m then mk1 φ c ini N (ds ++ mgM bs dd zs) else none := nr rfl
theorem h_mgM_t {bs m} {ms ws : List D} : mgM (true :: bs) (m :: ms) ws = m :: mgM bs ms ws := nr rfl
theorem h_mgM_f {bs w} {ms ws : List D} : mgM (false :: bs) ms (w :: ws) = w :: mgM bs ms ws := by cases ms <;> rfl
theorem h_mgM_n {ms ws : List D} : mgM [] ms ws = [] := by cases ms <;> rfl
theorem h_eDnew {T : Tbl} {W : Wd T} {env} : (xDnew W).ev env = some (.fr, .odic [] []) := nr rfl
theorem h_eDget2 {T : Tbl} {W : Wd T} {a b c : XP W} {env} : (xDget2 a b c).ev env = (a.ev env).bind fun p => (dicOf p.2).bind fun q => (b.evV env).bind fun y => (c.ev env).bind fun z => getE q.1 q.2 p.1 y z := nr rfl
theorem h_getE_non {ks xs p z} : getE ks xs p .non z = some z := nr rfl
theorem h_getE_int {ks xs p i z} : getE ks xs p (.int i) z = some (getM p z (dg ks xs (.inl i))) := by simp only [getE, keyD, Option.map_some]; cases dg ks xs (Sum.inl i) <;> rfl
theorem h_getE_str {ks xs p x z} : getE ks xs p (.str x) z = some (getM p z (dg ks xs (.inr (so x)))) := by simp only [getE, keyD, Option.map_some]; cases dg ks xs (Sum.inr (so x)) <;> rfl
theorem h_getM_s {p : Kd} {z x} : getM p z (some x) = p.of x := nr rfl
theorem h_getM_n {p : Kd} {z} : getM p z none = z := nr rfl
theorem h_eDix {T : Tbl} {W : Wd T} {a b : XP W} {env} : (xDix a b).ev env = (a.ev env).bind fun p => (dicOf p.2).bind fun q => (b.evV env).bind fun y => dgE q.1 q.2 p.1 y := nr rfl
theorem h_dgE_int {ks xs p i} : dgE ks xs p (.int i) = (dg ks xs (.inl i)).map p.of := nr rfl
theorem h_dgE_str {ks xs p x} : dgE ks xs p (.str x) = (dg ks xs (.inr (so x))).map p.of := nr rfl
theorem h_inK_non {neg ks} : inK neg ks .non = some (.bl neg) := nr rfl
theorem h_inK_int {neg ks i} : inK neg ks (.int i) = some (.bl (if neg = true then !hasK ks (.inl i) else hasK ks (.inl i))) := nr rfl
theorem h_inK_str {neg ks x} : inK neg ks (.str x) = some (.bl (if neg = true then !hasK ks (.inr (so x)) else hasK ks (.inr (so x)))) := nr rfl
theorem h_eDlist {T : Tbl} {W : Wd T} {a : XP W} {env} : (xDlist a).ev env = (a.ev env).bind fun p => (dicOf p.2).bind fun q => (kDs q.1).map fun ds => (.fr, .olst ds) := nr rfl
theorem h_dicOf_d {ks xs} : dicOf (.dic ks xs) = some (ks, xs) := nr rfl
theorem h_dicOf_o {ks xs} : dicOf (.odic ks xs) = some (ks, xs) := nr rfl
theorem h_dputI {ks xs i d} : dputD (.odic ks xs) [.int i, d] = if xs.length < 1000000 then (putP ks xs (.inl i) d).map fun q => (.odic q.1 q.2, .non) else none := nr rfl
theorem h_dputS {ks xs x d} : dputD (.odic ks xs) [.str x, d] = if xs.length < 1000000 then (putP ks xs (.inr (so x)) d).map fun q => (.odic q.1 q.2, .non) else none := nr rfl
theorem h_eForD {T : Tbl} {W : Wd T} {i} {g : XG W} {b : XS W} {P env} : (xsForD i g b).ev P env = lockR (isDic (getS env i)) (forE (forK g b P) (dsK (getS env i)) env) := by show (match isDic (getS env i) with | true => noEx ((xsFor (xiKeysL i) g b).ev P env) | false => RS.no) = _; rw [e_xsFor]; cases isDic (getS env i) <;> rfl
theorem h_lockR {r} : lockR true r = noEx r := nr rfl
theorem h_noEx_nx {e} : noEx (.nx e) = .nx e := nr rfl
theorem h_noEx_rt {d e} : noEx (.rt d e) = .rt d e := nr rfl
theorem h_isDic {ks xs} : isDic (some (.dic ks xs)) = true := nr rfl
theorem h_dsK {ks xs} : dsK (some (.dic ks xs)) = kDs ks := nr rfl
theorem h_eDc {T : Tbl} {W : Wd T} {it : XI W} {g : XG W} {c : XT W} {k x : XP W} {env} : (xDc it g c k x).ev env = (it.evP env).bind fun ds => if ds.length < 1000000 then (dcL (dc1 g c k x (wipeE env g.own)) ds ([], [])).map fun q => (.fr, .odic q.1 q.2) else none := nr rfl
theorem h_eDcD {T : Tbl} {W : Wd T} {i} {g : XG W} {c : XT W} {k x : XP W} {env} : (xDcD i g c k x).ev env = guardB (isDic (getS env i)) (frE ((dsK (getS env i)).bind fun ds => if ds.length < 1000000 then (dcL (dc1 g c k x (wipeE env g.own)) ds ([], [])).map fun q => (.fr, .odic q.1 q.2) else none)) := by rfl
theorem h_frE_s {d} : frE (some (.fr, d)) = some (.fr, d) := nr rfl
theorem h_frE_n  : frE none = none := nr rfl
theorem h_guardB_t {α : Type} {x : Option α} : guardB true x = x := nr rfl
theorem h_dc1 {T : Tbl} {W : Wd T} {g : XG W} {c : XT W} {k x : XP W} {env d} : dc1 g c k x env d = dcK c k x (g.ev [] d env) := nr rfl
theorem h_dcK {T : Tbl} {W : Wd T} {c : XT W} {k x : XP W} {e} : dcK c k x (some e) = dcJ k x (c.ev e) e := nr rfl
theorem h_dcJ1 {T : Tbl} {W : Wd T} {k x : XP W} {e} : dcJ k x (some true) e = ((k.evF e).bind keyD).bind fun y => (x.evF e).map fun z => some (y, z) := nr rfl
theorem h_dcJ0 {T : Tbl} {W : Wd T} {k x : XP W} {e} : dcJ k x (some false) e = some none := nr rfl
theorem h_keyD_i {i} : keyD (.int i) = some (.inl i) := nr rfl
theorem h_keyD_s {x} : keyD (.str x) = some (.inr (so x)) := nr rfl
theorem h_eDapp {T : Tbl} {W : Wd T} {p : XPl W} {k : XP W} {j P env} : (xsDapp p k j).ev P env = RS.ofO ((p.ev env).bind fun q => (k.evF env).bind fun y => (getS env j).bind fun x => (dappE q.2 y x).bind fun z => (getS env p.root).map fun d0 => env.set p.root (some (d0.putAt q.1 z))) := nr rfl
theorem h_dappI {ks xs i x} : dappE (.odic ks xs) (.int i) x = guardB (isSh x) (appK ks xs (.inl i) x) := nr rfl
theorem h_kDs_n  : kDs [] = some [] := nr rfl
theorem h_kDs_c {i ks} : kDs (.inl i :: ks) = (kDs ks).map (.int i :: ·) := nr rfl
theorem h_dcL_n {f acc} : dcL f [] acc = some acc := nr rfl
theorem h_putP_n {k y} : putP [] [] k y = some ([k], [y]) := nr rfl
theorem h_eCallB {T : Tbl} {W : Wd T} {φ : List D -> Option Nat -> Rz} {n} {as : XB W} {env} : (xCallB φ n as).ev env = (as.ev env).bind fun ds => if ds.length = n then ofB (okD0 (φ ds none)) else none := nr rfl
theorem h_ebCons {T : Tbl} {W : Wd T} {x : XP W} {b : XB W} {env} : (xbCons x b).ev env = (lendD (x.evK env)).bind fun d => (b.ev env).map (d :: ·) := nr rfl
theorem h_lend_olst {xs} : lendD (some (.olst xs)) = if xs.all isSh = true then some (.lst xs) else none := nr rfl
theorem h_lend_int {i} : lendD (some (.int i)) = some (.int i) := nr rfl
theorem h_lend_str {i} : lendD (some (.str i)) = some (.str i) := nr rfl
theorem h_lend_bl {i} : lendD (some (.bl i)) = some (.bl i) := nr rfl
theorem h_lend_non  : lendD (some (.non)) = some (.non) := nr rfl
theorem h_lend_tup {xs} : lendD (some (.tup xs)) = some (.tup xs) := nr rfl
theorem h_lend_lst {xs} : lendD (some (.lst xs)) = some (.lst xs) := nr rfl
theorem h_lend_ins {c ns xs} : lendD (some (.ins c ns xs)) = some (.ins c ns xs) := nr rfl
theorem h_lend_dic {ks xs} : lendD (some (.dic ks xs)) = some (.dic ks xs) := nr rfl
theorem h_ofBs {d} : ofB (some d) = if oNl d = true then some (.fr, d) else none := nr rfl
theorem h_ofBn  : ofB none = none := nr rfl
theorem h_oNl_int {i} : oNl (.int i) = true := by simp [oNl]
theorem h_oNl_str {i} : oNl (.str i) = true := by simp [oNl]
theorem h_oNl_bl {i} : oNl (.bl i) = true := by simp [oNl]
theorem h_oNl_n  : oNl .non = true := by simp [oNl]
theorem h_oNl_ins {c ns xs} : oNl (.ins c ns xs) = oNls xs := by rw [oNl]
theorem h_oNl_oins {c ns xs} : oNl (.oins c ns xs) = oNls xs := by rw [oNl]
theorem h_oNl_dic {ks xs} : oNl (.dic ks xs) = oNls xs := by rw [oNl]
theorem h_oNl_odic {ks xs} : oNl (.odic ks xs) = oNls xs := by rw [oNl]
theorem h_oNl_tup {xs} : oNl (.tup xs) = oNls xs := by rw [oNl]
theorem h_oNl_olst {xs} : oNl (.olst xs) = oNls xs := by rw [oNl]
theorem h_oNls_n  : oNls [] = true := by rw [oNls]
theorem h_oNls_c {x xs} : oNls (x :: xs) = (oNl x && oNls xs) := by rw [oNls]
theorem h_okD0s {d b} : okD0 (.ok d b) = some d := nr rfl
theorem h_eDisp {T : Tbl} {W : Wd T} {ps : List (XP W × XP W)} {env} : (xDisp ps).ev env = (dispE ps env).bind fun kds => if (kds.map (·.1)).Nodup /\ kds.length <= 15 then some (.fr, .odic (kds.map (·.1)) (kds.map (·.2))) else none := nr rfl
theorem h_dispEn {T : Tbl} {W : Wd T} {env} : dispE ([] : List (XP W × XP W)) env = some [] := nr rfl
theorem h_dispEc {T : Tbl} {W : Wd T} {a b : XP W} {r env} : dispE ((a, b) :: r) env = (a.evF env).bind fun x => (keyD x).bind fun k => (b.evF env).bind fun y => (dispE r env).map ((k, y) :: ·) := nr rfl
theorem h_qevO {T : Tbl} {W : Wd T} {i} {m : XQ W i} {x env} : m.evO x env = toO (m.ev x env) := nr rfl
theorem h_qevB {T : Tbl} {W : Wd T} {i} {m : XQ W i} {x env} : m.evB x env = (toV (m.ev x env)).bind blD := nr rfl
theorem h_qevF {T : Tbl} {W : Wd T} {i} {m : XQ W i} {x env} : m.evF x env = toQ (m.ev x env) := nr rfl
theorem h_toQf {d} : toQ (some (.fr, d)) = if isSh d = true then some d else none := nr rfl
theorem h_toQp {d} : toQ (some (.pl, d)) = if isSh d = true then some d else none := nr rfl
theorem h_toQv {d} : toQ (some (.vw, d)) = if isFlat d = true then some d else none := nr rfl
theorem h_toQn  : toQ none = none := nr rfl
theorem h_runR_ex {b x env} : runR b (.ex x env) = retX (bGet b env) x := by cases hb : bGet b env <;> simp [runR, retX, hb]
theorem h_retX {o x} : retX (some o) x = .exn x o := nr rfl
theorem h_thenY1 {ys e f} : (RY.nx ys e).then f = f ys e := nr rfl
theorem h_thenY2 {ys e f} : (RY.ct ys e).then f = .ct ys e := nr rfl
theorem h_thenY3 {ys e f} : (RY.bk ys e).then f = .bk ys e := nr rfl
theorem h_eCatT {T : Tbl} {W : Wd T} {a b : XP W} {env} : (xCatT a b).ev env = (a.evK env).bind fun x => (b.evK env).bind fun y => (catD x y).map (Prod.mk .fr) := nr rfl
theorem h_catD {xs ys} : catD (.tup xs) (.tup ys) = guardB (Nat.ble (xs.length + ys.length) 1000000) (some (.tup (xs ++ ys))) := nr rfl
theorem h_look1 {k : String} {d : D} {r} : List.lookup k ((k, d) :: r) = some d := by simp
theorem h_look2 {k f : String} {d : D} {r} (h : ¬ f = k) : List.lookup f ((k, d) :: r) = List.lookup f r := by rw [List.lookup_cons, beq_eq_false_iff_ne.mpr h]
end Py
namespace Py
open PySem L2
section
variable {T : Tbl} {W : Wd T} {env : Py.Env}
end
end Py
namespace Py
open PySem L2
section
variable {T : Tbl} {W : Wd T} {env : Py.Env} {P : List Nat} {E : WX}
end
end Py
namespace Py
open PySem L2
section
variable {T : Tbl} {W : Wd T}
end
end Py
namespace Py
open PySem L2
section
variable {T : Tbl} {W : Wd T}
end
end Py
namespace Py
open PySem L2
section
variable {X : Cx} {T : Tbl} {W : Wd T} {E : WX}
end
end Py
namespace Py
open PySem L2
section
variable {T : Tbl} {W : Wd T} {env : Py.Env} {P : List Nat} {E : WX}
end
end Py
namespace Py
open PySem L2
section
variable {T : Tbl} {W : Wd T} {env : Py.Env} {P : List Nat} {E : WX}
end
end Py
namespace Py
open PySem L2
section
variable {T : Tbl} {W : Wd T} {env : Py.Env} {ds : List D}
structure Acc2 {T : Tbl} (W : Wd T) (F H F1 H1 : Hp) (Dl : Addr) (acc : List D) (F' H' : Hp) : Prop where
  x : Ext F H F' H'
  s1 : Same F1 F'
  s2 : Same H1 H'
  nl : F' Dl = none
  at_ : ∃ ws M, H' Dl = some (.lst ws) /\ Owns W F' H' acc ws M /\ (Dl :: M).Nodup /\ ∀ a ∈ M, H a = none /\ F' a = none
theorem Acc2.ext {F H F1 H1 F' H' F2 H2 : Hp} {Dl : Addr} {acc : List D} (c : Acc2 W F H F1 H1 Dl acc F' H') (x3 : Ext F' H' F2 H2) : Acc2 W F H F1 H1 Dl acc F2 H2 := by
  obtain ⟨ws, M, hl, os, nd, hM⟩ := c.at_
  have nn : ∀ a, (∃ o, H' a = some o) -> F' a = none -> F2 a = none := fun a ⟨o, ho⟩ hf => by
    cases z : F2 a with
    | none => rfl
    | some u =>
      rcases x3.n a u z with w | w
      · rw [hf] at w; cases w
      · rw [ho] at w; cases w
  exact ⟨c.x.trans x3, c.s1.trans x3.f, c.s2.trans x3.h, nn Dl ⟨_, hl⟩ c.nl, ws, M, x3.h _ _ hl, os.frame x3.f fun a _ o ho => x3.h _ _ ho, nd, fun a ha => ⟨(hM a ha).1, nn a (os.lives a ha) (hM a ha).2⟩⟩
theorem Acc2.push {F H F1 H1 F3 H3 F4 H4 : Hp} {Dl : Addr} {acc : List D} {y : D} {w : V} {My : List Addr} (c : Acc2 W F H F1 H1 Dl acc F3 H3) (x4 : Ext F3 H3 F4 H4) (hD : H1 Dl = none) (hH : H Dl = none) (oy : Own W F4 H4 y w My) (ndy : My.Nodup) (ky : ∀ a ∈ My, H3 a = none /\ F4 a = none) :
    ∃ ws, H4 Dl = some (.lst ws) /\ ws.length = acc.length /\ Acc2 W F H F1 H1 Dl (acc ++ [y]) F4 (upd H4 Dl (.lst (ws ++ [w]))) := by
  have c4 := c.ext x4
  obtain ⟨ws3, M3, hl3, os3, nd3, hM3⟩ := c.at_
  obtain ⟨ws, M, hl, os, nd, hM⟩ := c4.at_
  have e3 : ws = ws3 := by
    have := x4.h _ _ hl3
    rw [hl] at this
    cases this; rfl
  subst e3
  have nD : ∀ b ∈ My, b ≠ Dl := fun b hb z => by rw [<- z, (ky b hb).1] at hl3; cases hl3
  have os3' : Owns W F4 H4 acc ws M3 := os3.frame x4.f fun a _ o ho => x4.h _ _ ho
  refine ⟨ws, hl, os.length.symm, ⟨?_, c4.s1, fun b u hb => by rw [upd_ne (fun z => by rw [z, hD] at hb; cases hb)]; exact c4.s2 _ _ hb, c4.nl, ws ++ [w], M3 ++ My, upd_same, ?_, ?_, ?_⟩⟩
  · exact ⟨c4.x.f, fun b u hb => by rw [upd_ne (fun z => by rw [z, c4.nl] at hb; cases hb)]; exact c4.x.s _ _ hb, fun b u hb => by rw [upd_ne (fun z => by rw [z, hH] at hb; cases hb)]; exact c4.x.h _ _ hb, c4.x.n⟩
  · refine Owns.snoc (os3'.frame (Same.refl _) fun b hb u hu => ?_) (oy.frame (Same.refl _) fun b hb u hu => ?_)
    · rw [upd_ne (fun z => (List.nodup_cons.mp nd3).1 (by rw [<- z]; exact hb))]; exact hu
    · rw [upd_ne (nD b hb)]; exact hu
  · have fr : ∀ b ∈ My, b ∉ Dl :: M3 := fun b hb z => by
      have : ∃ o, H3 b = some o := by
        rcases List.mem_cons.mp z with z | z
        · exact ⟨_, by rw [z]; exact hl3⟩
        · exact os3.lives b z
      obtain ⟨o, ho⟩ := this
      rw [(ky b hb).1] at ho; cases ho
    have : ((Dl :: M3) ++ My).Nodup := by
      rw [List.nodup_append]
      exact ⟨nd3, ndy, fun b hb c hc z => fr c hc (by rw [<- z]; exact hb)⟩
    exact this
  · intro b hb
    rcases List.mem_append.mp hb with z | z
    · refine ⟨(hM3 b z).1, ?_⟩
      cases q : F4 b with
      | none => rfl
      | some u =>
        obtain ⟨o, ho⟩ := os3.lives b z
        rcases x4.n b u q with v | v
        · rw [(hM3 b z).2] at v; cases v
        · rw [ho] at v; cases v
    · exact ⟨c.x.h.free (ky b z).1, (ky b z).2⟩
end
end Py
namespace Py
open PySem PySem.Spec PyProof.Rows L2
structure ZAp (z TI TO i1 i2 : Addr) (f1 f2 : List Addr) : Prop where
  TIz : TI ≠ z
  TOz : TO ≠ z
  i1z : i1 ≠ z
  i2z : i2 ≠ z
  TITO : TI ≠ TO
  TIi1 : TI ≠ i1
  TIi2 : TI ≠ i2
  TOi1 : TO ≠ i1
  TOi2 : TO ≠ i2
  i12 : i1 ≠ i2
  zf1 : z ∉ f1
  TOf1 : TO ∉ f1
  i2f1 : i2 ∉ f1
  zf2 : z ∉ f2
  TOf2 : TO ∉ f2
  i1f2 : i1 ∉ f2
section
variable {prog : Program} {w : World} {A : Around} {E : Value -> Shared -> Prop} {s : Shared} {z TI TO i1 i2 : Addr} {f1 f2 : List Addr} {n1 n2 k1 k2 : Nat} {P1 P2 : Nat -> Value -> Prop} {S1 S2 : Nat -> Heap -> Prop} {a b : Value}
end
section
variable {prog : Program} {w : World} {A : Around} {E : Value -> Shared -> Prop} {s : Shared}
end
theorem ZAp.of {z TI TO i1 i2 a b : Addr} (D : ZipApart z TI TO i1 i2 a b) : ZAp z TI TO i1 i2 [i1, a] [i2, b] where
  TIz := D.TIz
  TOz := D.TOz
  i1z := D.i1z
  i2z := D.i2z
  TITO := D.TITO
  TIi1 := D.TIi1
  TIi2 := D.TIi2
  TOi1 := D.TOi1
  TOi2 := D.TOi2
  i12 := D.i12
  zf1 := by simp [D.i1z.symm, D.l1z.symm]
  TOf1 := by simp [D.TOi1, D.l1TO.symm]
  i2f1 := by simp [D.i12.symm, D.l1i2.symm]
  zf2 := by simp [D.i2z.symm, D.l2z.symm]
  TOf2 := by simp [D.TOi2, D.l2TO.symm]
  i1f2 := by simp [D.i12, D.l2i1.symm]
section
variable {T : Tbl} {W : Wd T} {env : Py.Env} {ta tb : TE} {ds es : List D}
end
end Py
namespace Py
open PySem L2
section
variable {T : Tbl} {W : Wd T} {X : Cx} {pins : List (Addr × Obj)} {σ : St} {H : Hp} {s : Shared}
end
section
variable {T : Tbl} {W : Wd T}
end
end Py
namespace Py
open PySem L2
section
variable {T : Tbl} {W : Wd T}
end
end Py
namespace L2
open PySem PySem.Spec PyProof.Rows
inductive HdsA (X : Cx) (n : Str) : List ExceptHandler -> List (Value × (Addr -> Value -> Option Addr -> TS)) -> Prop
  | nil : HdsA X n [] []
  | cons {x : Str} {c : Value} {ts : Addr -> Value -> Option Addr -> TS} {b₀ : Stmt} {suite : List Stmt} {np pos' : Pos} {hds : List ExceptHandler} {l : List (Value × (Addr -> Value -> Option Addr -> TS))} (hc : Names X x c)
      (hsu : ∀ (a : Addr) (oe : Obj) (cls : Value) (d : Option Addr) (pn : List (Addr × Obj)), Zc cls d oe -> (∃ vs, oe.data = .fields vs) -> PSs (X.suite a ((a, oe) :: pn)) (b₀ :: suite) (ts a cls d)) (r : HdsA X n hds l) :
      HdsA X n (.ExceptHandler (some (.Name x np)) (some n) (b₀ :: suite) pos' :: hds) ((c, ts) :: l)
section
variable {X : Cx} {n : Str} {i : Nat} {body : List Stmt} {h₀ : ExceptHandler} {hds : List ExceptHandler} {l : List (Value × (Addr -> Value -> Option Addr -> TS))} {pos : Pos} {tb : WX -> TS} {Wout : WX}
end
end L2
namespace Py
open PySem L2
section
variable {T : Tbl} {W : Wd T}
section
variable {X : Cx} {pins : List (Addr × Obj)} {σ : St} {H : Hp} {s : Shared}
end
def q2 (r : R2) (Q : VK) : List V -> Hp -> Prop := fun vs H => match vs with
  | [x, y] => r x y H Q
  | _ => False
end
end Py
namespace L2
open PySem PySem.Spec PyProof.Rows
theorem inv_xe {X : Cx} {xe : Value -> Shared -> Prop} {pins : List (Addr × Obj)} {σ : St} {H : Hp} {s : Shared} (I : Inv X pins σ H s) : Inv { X with xe := xe } pins σ H s :=
  ⟨⟨I.ok.mod, I.ok.kind, I.ok.glob, I.ok.blt, I.ok.above, I.ok.inj, I.ok.has, I.ok.cab, I.ok.hd, I.ok.frames, I.ok.stk, I.ok.exf, I.ok.bs, I.ok.bsz, I.ok.noex, I.ok.exfs, I.ok.funs, I.ok.frf⟩,
    I.os, I.bare, I.base, I.loc, I.cell, I.free, I.freeC, I.pin, I.hok, I.len⟩
section
variable {M : Model} {A : Around} {E : Value -> Shared -> Prop} {s : Shared} {Z : Obj -> Prop} {base : Heap} {env : Env} {outer l : List Env} {L e : Addr}
end
section
variable {X : Cx}
def tLcX (wi : TI) (g : TG) (te : WX -> TE) (vs : List Nat) (W : WX) : TE := fun σ H Q => wi σ H fun J H1 => ∀ D, H1 D = none -> ∃ Wt : Nat -> Nat -> Hp -> Prop, (∃ m, Wt 0 m (upd H1 D (.lst []))) /\ ∀ i m H, Wt i m H ->
  (J.stop i H /\ Q (.ref D) H) \/ (J.go i H /\ ∃ Nx : Hp -> Prop, (∀ H', Nx H' -> ∃ m', m' < m /\ Wt (i + 1) m' H') /\ ∀ x H', J.yld i H x H' -> g x (wipe σ vs) H' fun σ2 H2 => wipe σ2 vs = wipe σ vs /\
    te (fun cls d _ H => W cls d σ H) σ2 H2 fun y H4 => ∃ acc, H4 D = some (.lst acc) /\ acc.length < sizeLine /\ Nx (upd H4 D (.lst (acc ++ [y]))))
end
end L2
namespace Py
open PySem L2
structure XEl {T : Tbl} (W : Wd T) where
  t : WX -> TE
  ev : Py.Env -> Rz
  snd : ∀ (E : WX) (env : Py.Env) (e : Ent) (F : Hp) (σ : St) (H : Hp) (L : List Addr) (Q : VK), ev env ≠ .no -> Rel W e env F σ H L ->
    (∀ d b v F' H', ev env = .ok d b -> Ext F H F' H' -> rO W d F' H' H v -> Q v H') -> (∀ x b F' H' C dd, ev env = .exn x b -> Ext F H F' H' -> IsExn W F' x C dd -> E C dd σ H') -> t E σ H Q
section
variable {T : Tbl} {W : Wd T} {env : Py.Env} {E : WX}
def xeMeth (φ : Sem) (m : String) (n : Nat) (o : XP W) (as : XA W) : XEl W where
  t E := fun σ H Q => tMethD W φ m n none (WE E σ) o.t as.t σ H Q
  ev env := match o.evF env, as.evF env with
    | some nd, some ds => meth1 T φ m n (nd :: ds)
    | _, _ => .no
  snd := fun E env e F σ H L Q hn r q qx => by
    match e1 : o.evF env, e2 : as.evF env, hn, q, qx with
    | none, _, hn, _, _ => exact absurd rfl hn
    | some _, none, hn, _, _ => exact absurd rfl hn
    | some nd, some ds, hn, q, qx =>
      have hm : meth1 T φ m n (nd :: ds) ≠ .no := hn
      dsimp only at q qx
      obtain ⟨cn, ns, xs, nm, rfl, h2, h3, h4, h5⟩ := meth1_ok hm
      rw [h5] at q qx hm
      refine o.sF e1 e F σ H L _ r fun v F1 H1 x1 sh => ?_
      have r1 := r.ext x1
      obtain ⟨a, dx, vs, rfl, ha, hc⟩ := shr_ins sh
      refine ⟨a, cn, nm, dx, _, rfl, r1.sF _ _ ha, hc, h2, lookup_zip_none h3, as.sF e2 e F1 σ H1 L _ r1 fun ws F2 H2 x2 y2 => ?_⟩
      refine callX x2.s (.cons (sh.mono x2.f) y2) h4 hm (fun d b v F3 H3 eq x3 ⟨M, o3, nd3, k3⟩ => ?_) fun x b F3 H3 C dd eq x3 ie => ?_
      · exact q d b v F3 H3 eq ((x1.trans x2).trans x3) ⟨M, o3, nd3, fun a m => ⟨(x1.trans x2).h.free (k3 a m).1, (k3 a m).2⟩⟩
      · exact qx x b F3 H3 C dd eq ((x1.trans x2).trans x3) ie
def xmEl (a : XEl W) : XM W where
  t E := a.t E
  ev P env := match a.ev env with | .ok d _ => .ok d env | .exn x _ => .exn x env | .no => .no
  snd := fun P E env hn e F σ H L Q hP r c cx => by
    refine a.snd E env e F σ H L Q (fun z => hn (by rw [z])) r (fun d b v F' H' h x ⟨M, o, nd, k⟩ => ?_) fun x b F' H' C dd h xx ie => ?_
    · exact c d env v F' H' L M (by rw [h]) (r.ext x) o (nodup_new (H := H) r.nd nd r.slots.lives fun a m => (k a m).1) fun a m => ⟨(k a m).2, r.h0 (k a m).1⟩
    · exact cx x env F' H' L C dd (by rw [h]) (r.ext xx) ie
def tupZ : Rz -> Rz
  | .ok d _ => match seqOf d with | some p => .ok (.tup p.2) none | none => .no
  | r => r
def xeTup (a : XEl W) : XEl W where
  t E := tCB (fun xs H Q => ∃ p ys, xs = [.ref p] /\ ((SqL W.K H p ys /\ ∀ l, H l = none -> Q (.ref l) (upd H l (.tup ys))) \/ (SqT W.K H p ys /\ Q (.ref p) H))) (tCons (a.t E) tNil)
  ev env := tupZ (a.ev env)
  snd := fun E env e' F σ H L Q hn r q qx => by
    refine a.snd E env e' F σ H L _ (fun z => hn (by rw [z]; rfl)) r (fun d1 b0 v F1 H1 h x1 ⟨L1, o, nd1, k1⟩ => ?_) fun x b F' H' C dd h xx ie => ?_
    · rw [h] at hn q
      cases e3 : seqOf d1 with
      | none => exact absurd (show (match seqOf d1 with | some p => Rz.ok (.tup p.2) none | none => .no) = .no by rw [e3]) hn
      | some p =>
        obtain ⟨b, xs⟩ := p
        have q1 := fun v F' H' => q (.tup xs) none v F' H' (show (match seqOf d1 with | some p => Rz.ok (.tup p.2) none | none => .no) = _ by rw [e3])
        cases b with
        | true =>
          have o1 : ∃ a vs, d1 = .tup xs /\ v = .ref a /\ F1 a = some (.tup vs) /\ Shrs W F1 xs vs := by
            unfold seqOf at e3
            split at e3 <;> first | (cases e3; done) | skip
            · split at e3 <;> cases e3
            · cases e3
              cases o.shr rfl with
              | tup ha hs => exact ⟨_, _, rfl, rfl, ha, hs⟩
          obtain ⟨a, vs, rfl, rfl, ha, hs⟩ := o1
          exact ⟨a, vs, rfl, .inr ⟨.of (x1.s _ _ ha), q1 _ F1 H1 x1 (rO_sh (.tup ha hs))⟩⟩
        | false =>
          obtain ⟨a, vs, rfl, sh, sq⟩ := seqOf_ok x1.s o e3
          exact ⟨a, vs, rfl, .inl ⟨sq, fun p hp => q1 _ (upd F1 p (.tup vs)) _ (x1.trans (.new x1.s hp)) (rO_sh (.tup upd_same (sh.mono (same_new (x1.s.free hp)))))⟩⟩
    · exact qx x b F' H' C dd (by rw [h]; rfl) xx ie
def lst1Z : Rz -> Rz
  | .ok d _ => .ok (.olst [fz d]) none
  | r => r
def xeLst1 (a : XEl W) : XEl W where
  t E := tLst (tCons (a.t E) tNil)
  ev env := lst1Z (a.ev env)
  snd := fun E env e' F σ H L Q hn r q qx => by
    refine a.snd E env e' F σ H L _ (fun z => hn (by rw [z]; rfl)) r (fun d1 b0 v F1 H1 h x1 ⟨M, o, nd, k⟩ => ?_) fun x b F' H' C dd h xx ie => ?_
    · rw [h] at q
      obtain ⟨G, s1, s2, nw, y⟩ := freeze x1.s o fun a m => (k a m).2
      have x2 : Ext F H G H1 := ⟨x1.f.trans s1, s2, x1.h, fun a o z => by
        rcases nw a o z with z | z
        · exact x1.n a o z
        · exact .inr (k a z).1⟩
      refine ⟨by show 1 <= sizeLine; decide, fun p hp => ?_⟩
      exact q (.olst [fz d1]) none _ G _ rfl (x2.trans (.newH x2.s hp)) ⟨[p], .olst upd_same (Shrs.owns (.cons y .nil)), by simp, fun a m => by
        rw [List.mem_singleton.mp m]; exact ⟨x2.h.free hp, x2.s.free hp⟩⟩
    · exact qx x b F' H' C dd (by rw [h]; rfl) xx ie
theorem ex_lc {wi : TI} {g : TG} {te : WX -> TE} {vs : List Nat} {ds : List D} {x : Exn} (h : AIp W wi env ds) (hg : GW g vs) (el : Py.Env -> Rz)
    (hel : ∀ (E : WX) (env : Py.Env) (e : Ent) (F : Hp) (σ : St) (H : Hp) (L : List Addr) (Q : VK), el env ≠ .no -> Rel W e env F σ H L ->
      (∀ d b v F' H', el env = .ok d b -> Ext F H F' H' -> rO W d F' H' H v -> Q v H') -> (∀ x b F' H' C dd, el env = .exn x b -> Ext F H F' H' -> IsExn W F' x C dd -> E C dd σ H') -> te E σ H Q)
    (rs : Nat -> List D) (h0 : rs 0 = []) (n : Nat) (hn : n <= ds.length)
    (hs : ∀ (i : Nat) (d : D), i < n -> ds[i]? = some d -> AG W [] g d (wipeE env vs) fun e2 => ∃ y b, el e2 = .ok y b /\ rs (i + 1) = rs i ++ [y])
    (hx : n < ds.length -> ∀ d, ds[n]? = some d -> AG W [] g d (wipeE env vs) fun e2 => ∃ b, el e2 = .exn x b)
    (hz : ∀ i, i <= n -> (rs i).length < 1000000) (e : Ent) (F : Hp) (σ : St) (H : Hp) (L : List Addr) (Q : VK) (r : Rel W e env F σ H L)
    (q : n = ds.length -> ∀ v F' H', Ext F H F' H' -> rO W (.olst (rs n)) F' H' H v -> Q v H') (qx : n < ds.length -> ∀ F' H' C dd, Ext F H F' H' -> IsExn W F' x C dd -> E C dd σ H') : tLcX wi g te vs E σ H Q :=
  h e F σ H L _ r fun J F1 H1 x1 sq => by
    intro Dl hD
    have r1 := (r.ext x1).nopin
    obtain ⟨Lw, rw', mw⟩ := r1.wipe rfl vs
    have hF1 : F1 Dl = none := x1.s.free hD
    have hH : H Dl = none := x1.h.free hD
    refine ⟨fun i m H' => m = n - i /\ i <= n /\ ∃ F' ws M, Ext F H F' H' /\ (Same F1 F' /\ Same H1 H') /\ Rel W { e with pins := [] } (wipeE env vs) F' (wipe σ vs) H' Lw /\ H' Dl = some (.lst ws) /\ F' Dl = none /\ Owns W F' H' (rs i) ws M /\ (Dl :: M).Nodup /\ ∀ a ∈ M, H a = none /\ F' a = none,
      ⟨n, rfl, Nat.zero_le _, F1, [], [], ?_, ⟨Same.refl _, same_new hD⟩, ?_, upd_same, hF1, by rw [h0]; exact .nil, by simp, fun a h => nomatch h⟩, ?_⟩
    · exact x1.trans (.newH x1.s hD)
    · exact rw'.ext (.newH x1.s hD)
    rintro i m H' ⟨rfl, hi, F', ws, M, xE, s1, rr, hl, hFD, os, nd, hM⟩
    have hDL : Dl ∉ Lw := fun z => by
      obtain ⟨o, ho⟩ := rw'.slots.lives Dl z
      rw [hD] at ho; cases ho
    by_cases hlt : i < n
    · have hd' : ds[i]? = some ds[i] := List.getElem?_eq_getElem (by omega)
      obtain ⟨g1, g2⟩ := sq.go i _ F' H' s1.1 s1.2 rr.sF hd'
      refine .inr ⟨g1, fun H'' => ∃ F' ws M, Ext F H F' H'' /\ (Same F1 F' /\ Same H1 H'') /\ Rel W { e with pins := [] } (wipeE env vs) F' (wipe σ vs) H'' Lw /\ H'' Dl = some (.lst ws) /\ F' Dl = none /\ Owns W F' H'' (rs (i + 1)) ws M /\ (Dl :: M).Nodup /\ ∀ a ∈ M, H a = none /\ F' a = none,
        fun H'' p' => ⟨n - (i + 1), by omega, rfl, hlt, p'⟩, fun x H2 y => ?_⟩
      obtain ⟨F2, x2, sx⟩ := g2 x H2 y
      have rr2 := rr.ext x2
      have fin : ∀ {Fa Ha}, Ext F2 H2 Fa Ha -> Ext F H Fa Ha /\ (Same F1 Fa /\ Same H1 Ha) /\ Rel W { e with pins := [] } (wipeE env vs) Fa (wipe σ vs) Ha Lw /\ Ha Dl = some (.lst ws) /\ Fa Dl = none /\ Owns W Fa Ha (rs i) ws M /\ ∀ a ∈ M, H a = none /\ Fa a = none := fun {Fa Ha} xa => by
        have x3 := x2.trans xa
        have nn : ∀ a, (∃ o, H' a = some o) -> F' a = none -> Fa a = none := fun a ⟨o, ho⟩ hf => by
          cases z : Fa a with
          | none => rfl
          | some u =>
            rcases x3.n a u z with w | w
            · rw [hf] at w; cases w
            · rw [ho] at w; cases w
        exact ⟨xE.trans x3, ⟨s1.1.trans x3.f, s1.2.trans x3.h⟩, rr.ext x3, x3.h _ _ hl, nn Dl ⟨_, hl⟩ hFD, os.frame x3.f fun a _ o ho => x3.h _ _ ho, fun a ha => ⟨(hM a ha).1, nn a (os.lives a ha) (hM a ha).2⟩⟩
      have step := hg x (wipe σ vs) H2 _ (hs i _ hlt hd' { e with pins := [] } F2 (wipe σ vs) H2 Lw x (fun σ2 H2 => te (fun cls d _ H => E cls d σ H) σ2 H2 fun y H4 => ∃ acc, H4 Dl = some (.lst acc) /\ acc.length < sizeLine /\
          (fun H'' => ∃ F' ws M, Ext F H F' H'' /\ (Same F1 F' /\ Same H1 H'') /\ Rel W { e with pins := [] } (wipeE env vs) F' (wipe σ vs) H'' Lw /\ H'' Dl = some (.lst ws) /\ F' Dl = none /\ Owns W F' H'' (rs (i + 1)) ws M /\ (Dl :: M).Nodup /\ ∀ a ∈ M, H a = none /\ F' a = none) (upd H4 Dl (.lst (acc ++ [y])))) rfl rr2 sx fun env2 σ2 L2 k2 q2 => ?_)
      · rw [wipe_wipe] at step
        exact step
      obtain ⟨y, b, hel', hacc⟩ := k2
      refine hel _ env2 _ F2 σ2 H2 L2 _ (fun z => by rw [hel'] at z; cases z) q2 (fun d' b' w F4 H4 eq x4 ⟨My, oy, ndy, ky⟩ => ?_) fun x' b' F4 H4 C dd eq _ _ => by rw [hel'] at eq; cases eq
      rw [hel'] at eq
      cases eq
      obtain ⟨a1, a2, a3, a4, a5, a6, a7⟩ := fin x4
      have hlen : (rs i).length < 1000000 := hz i hi
      refine ⟨ws, a4, by rw [<- a6.length]; exact Nat.lt_of_lt_of_le hlen (by decide), F4, ws ++ [w], M ++ My, ?_, ⟨a2.1, fun b u hb => by rw [upd_ne (fun z => by rw [z, hD] at hb; cases hb)]; exact a2.2 _ _ hb⟩, a3.free hDL a5 (rw'.h0 hD), upd_same, a5, ?_, ?_, ?_⟩
      · exact ⟨a1.f, fun b u hb => by rw [upd_ne (fun z => by rw [z, a5] at hb; cases hb)]; exact a1.s _ _ hb, fun b u hb => by rw [upd_ne (fun z => by rw [z, hH] at hb; cases hb)]; exact a1.h _ _ hb, a1.n⟩
      · have nD : ∀ b ∈ My, b ≠ Dl := fun b hb z => by
          have := x2.h _ _ hl
          rw [<- z, (ky b hb).1] at this; cases this
        rw [hacc]
        refine Owns.snoc (a6.frame (Same.refl _) fun b hb u hu => ?_) (oy.frame (Same.refl _) fun b hb u hu => ?_)
        · rw [upd_ne (fun z => (List.nodup_cons.mp nd).1 (by rw [<- z]; exact hb))]; exact hu
        · rw [upd_ne (nD b hb)]; exact hu
      · have fr : ∀ b ∈ My, b ∉ Dl :: M := fun b hb z => by
          have : ∃ o, H2 b = some o := by
            rcases List.mem_cons.mp z with z | z
            · exact ⟨_, by rw [z]; exact x2.h _ _ hl⟩
            · obtain ⟨o, ho⟩ := os.lives b z
              exact ⟨o, x2.h _ _ ho⟩
          obtain ⟨o, ho⟩ := this
          rw [(ky b hb).1] at ho; cases ho
        have : ((Dl :: M) ++ My).Nodup := by
          rw [List.nodup_append]
          exact ⟨nd, ndy, fun b hb c hc z => fr c hc (by rw [<- z]; exact hb)⟩
        exact this
      · intro b hb
        rcases List.mem_append.mp hb with z | z
        · exact a7 b z
        · exact ⟨(xE.trans x2).h.free (ky b z).1, (ky b z).2⟩
    · have e0 : i = n := by omega
      subst e0
      by_cases he : i = ds.length
      · refine .inl ⟨by have := sq.stop F' H' s1.1 s1.2 rr.sF; rw [he]; exact this, q he _ F' H' xE ⟨Dl :: M, .olst hl os, nd, fun a ha => ?_⟩⟩
        rcases List.mem_cons.mp ha with z | z
        · subst z; exact ⟨hH, hFD⟩
        · exact hM a z
      · have hlt2 : i < ds.length := by omega
        have hd' : ds[i]? = some ds[i] := List.getElem?_eq_getElem hlt2
        obtain ⟨g1, g2⟩ := sq.go i _ F' H' s1.1 s1.2 rr.sF hd'
        refine .inr ⟨g1, fun _ => False, fun _ z => False.elim z, fun x' H2 y => ?_⟩
        obtain ⟨F2, x2, sx⟩ := g2 x' H2 y
        have step := hg x' (wipe σ vs) H2 _ (hx hlt2 _ hd' { e with pins := [] } F2 (wipe σ vs) H2 Lw x' (fun σ2 H2 => te (fun cls d _ H => E cls d σ H) σ2 H2 fun y H4 => ∃ acc, H4 Dl = some (.lst acc) /\ acc.length < sizeLine /\ (fun _ => False) (upd H4 Dl (.lst (acc ++ [y])))) rfl (rr.ext x2) sx fun env2 σ2 L2 k2 q2 => ?_)
        · rw [wipe_wipe] at step
          exact step
        obtain ⟨b, hel'⟩ := k2
        refine hel _ env2 _ F2 σ2 H2 L2 _ (fun z => by rw [hel'] at z; cases z) q2 (fun d' b' w F4 H4 eq _ _ => by rw [hel'] at eq; cases eq) fun x2' b' F4 H4 C dd eq x4 ie => ?_
        rw [hel'] at eq
        cases eq
        exact qx hlt2 F4 H4 C dd ((xE.trans x2).trans x4) ie
def lcZ (g : XG W) (x : XEl W) (e0 : Py.Env) (d : D) : Rz := match g.ev [] d e0 with
  | some e2 => x.ev e2
  | none => .no
def lcGo (g : XG W) (x : XEl W) (e0 : Py.Env) : List D -> List D -> Rz
  | [], acc => .ok (.olst acc) none
  | d :: ds, acc => match lcZ g x e0 d with
    | .ok y _ => lcGo g x e0 ds (acc ++ [y])
    | .exn z _ => .exn z none
    | .no => .no
theorem lcGo_take {g : XG W} {x : XEl W} {e0 : Py.Env} : ∀ {ds acc : List D}, lcGo g x e0 ds acc ≠ .no -> ∃ (rs : Nat -> List D) (n : Nat) (z : Exn), rs 0 = acc /\ n <= ds.length /\ (∀ i, i <= n -> (rs i).length = acc.length + i) /\
    (∀ i d, i < n -> ds[i]? = some d -> ∃ y b, lcZ g x e0 d = .ok y b /\ rs (i + 1) = rs i ++ [y]) /\ (n < ds.length -> ∀ d, ds[n]? = some d -> ∃ b, lcZ g x e0 d = .exn z b) /\
    lcGo g x e0 ds acc = (if n = ds.length then .ok (.olst (rs n)) none else .exn z none)
  | [], acc, _ => ⟨fun _ => acc, 0, ⟨"", []⟩, rfl, Nat.le_refl _, fun i hi => by (show acc.length = acc.length + i); omega, (fun i d hi => absurd hi (Nat.not_lt_zero i)), fun h => absurd h (Nat.not_lt_zero 0), (if_pos rfl).symm⟩
  | d :: ds, acc, hn => by
    match h : lcZ g x e0 d with
    | .ok y b =>
      have e : lcGo g x e0 (d :: ds) acc = lcGo g x e0 ds (acc ++ [y]) := by
        show (match lcZ g x e0 d with | .ok y _ => lcGo g x e0 ds (acc ++ [y]) | .exn z _ => .exn z none | .no => .no) = _
        rw [h]
      rw [e] at hn ⊢
      obtain ⟨rs, n, z, r0, r1, r2, r3, r4, r5⟩ := lcGo_take hn
      refine ⟨fun i => match i with | 0 => acc | i + 1 => rs i, n + 1, z, rfl, by rw [List.length_cons]; omega, fun i hi => ?_, fun i d' hi hd => ?_, fun hlt d' hd => ?_, ?_⟩
      · cases i with
        | zero => rfl
        | succ i =>
          have := r2 i (by omega)
          rw [List.length_append, List.length_singleton] at this
          show (rs i).length = _
          omega
      · cases i with
        | zero =>
          rw [List.getElem?_cons_zero] at hd
          cases hd
          exact ⟨y, b, h, r0⟩
        | succ i =>
          rw [List.getElem?_cons_succ] at hd
          exact r3 i d' (by omega) hd
      · rw [List.getElem?_cons_succ] at hd
        exact r4 (by rw [List.length_cons] at hlt; omega) d' hd
      · rw [r5, List.length_cons]
        by_cases hh : n = ds.length
        · rw [if_pos hh, if_pos (by omega)]
        · rw [if_neg hh, if_neg (by omega)]
    | .exn z b =>
      have e : lcGo g x e0 (d :: ds) acc = .exn z none := by
        show (match lcZ g x e0 d with | .ok y _ => lcGo g x e0 ds (acc ++ [y]) | .exn z _ => .exn z none | .no => .no) = _
        rw [h]
      refine ⟨fun _ => acc, 0, z, rfl, Nat.zero_le _, fun i hi => by (show acc.length = acc.length + i); omega, (fun i d hi => absurd hi (Nat.not_lt_zero i)), fun _ d' hd => ?_, ?_⟩
      · rw [List.getElem?_cons_zero] at hd
        cases hd
        exact ⟨b, h⟩
      · rw [e, if_neg (by rw [List.length_cons]; omega)]
    | .no =>
      refine absurd ?_ hn
      show (match lcZ g x e0 d with | .ok y _ => lcGo g x e0 ds (acc ++ [y]) | .exn z _ => .exn z none | .no => .no) = _
      rw [h]
theorem lcZ_ag {g : XG W} {x : XEl W} {e0 : Py.Env} {d : D} {k : Rz -> Prop} (h : lcZ g x e0 d ≠ .no) (hk : k (lcZ g x e0 d)) : AG W [] g.t d e0 fun e2 => k (x.ev e2) := by
  unfold lcZ at h hk
  match h1 : g.ev [] d e0, h, hk with
  | none, h, _ => exact absurd rfl h
  | some e2, h, hk =>
    intro e F σ H L v Q hP r sh q
    exact g.snd h1 e F σ H L v Q hP r sh fun env' σ' L' z r' => q env' σ' L' (by subst z; exact hk) r'
def lcE (g : XG W) (x : XEl W) (e0 : Py.Env) : Option (List D) -> Rz
  | some ds => if ds.length < 1000000 then lcGo g x e0 ds [] else .no
  | none => .no
def xeLcX (it : XI W) (g : XG W) (x : XEl W) : XEl W where
  t E := tLcX it.t g.t x.t g.own E
  ev env := lcE g x (wipeE env g.own) (it.evP env)
  snd := fun E env e F σ H L Q hn r q qx => by
    match e1 : it.evP env, hn, q, qx with
    | none, hn, _, _ => exact absurd rfl hn
    | some ds, hn, q, qx =>
      unfold lcE at hn q qx
      dsimp only at hn q qx
      by_cases hl : ds.length < 1000000
      · rw [if_pos hl] at hn q qx
        obtain ⟨rs, n, z, r0, r1, r2, r3, r4, r5⟩ := lcGo_take hn
        rw [r5] at q qx
        refine ex_lc (it.sP e1) (g.gw fun _ m => m) x.ev x.snd rs r0 n r1 (x := z) (fun i d hi hd => ?_) (fun hlt d hd => ?_) (fun i hi => ?_) e F σ H L Q r (fun hh v F' H' x1 y1 => ?_) fun hlt F' H' C dd x1 ie => ?_
        · obtain ⟨y, b, h1, h2⟩ := r3 i d hi hd
          exact lcZ_ag (k := fun rz => ∃ y b, rz = .ok y b /\ rs (i + 1) = rs i ++ [y]) (by rw [h1]; intro q; cases q) ⟨y, b, h1, h2⟩
        · obtain ⟨b, h1⟩ := r4 hlt d hd
          exact lcZ_ag (k := fun rz => ∃ b, rz = .exn z b) (by rw [h1]; intro q; cases q) ⟨b, h1⟩
        · have := r2 i hi
          rw [this, List.length_nil]
          omega
        · exact q (.olst (rs n)) none v F' H' (by rw [if_pos hh]) x1 y1
        · exact qx z none F' H' C dd (by rw [if_neg (by omega)]) x1 ie
      · rw [if_neg hl] at hn; exact absurd rfl hn
theorem e_xeLst1 {a : XEl W} {env} : (xeLst1 a).ev env = lst1Z (a.ev env) := rfl
theorem h_lst1Zo {d b} : lst1Z (.ok d b) = .ok (.olst [fz d]) none := rfl
theorem h_lst1Zx {x b} : lst1Z (.exn x b) = .exn x b := rfl
def elM (r : Rz) (env : Py.Env) : RM := match r with | .ok d _ => .ok d env | .exn x _ => .exn x env | .no => .no
theorem e_xmEl {a : XEl W} {P env} : (xmEl a).ev P env = elM (a.ev env) env := rfl
theorem h_elMo {d b env} : elM (.ok d b) env = .ok d env := rfl
theorem h_elMx {x b env} : elM (.exn x b) env = .exn x env := rfl
theorem e_xeTup {a : XEl W} {env} : (xeTup a).ev env = tupZ (a.ev env) := rfl
theorem h_tupZx {x b} : tupZ (.exn x b) = .exn x b := rfl
theorem h_tupZo {ys b} (h : ys.all isSh = true) : tupZ (.ok (.olst ys) b) = .ok (.tup ys) none := by
  unfold tupZ
  dsimp only
  rw [show seqOf (.olst ys) = if ys.all isSh = true then some (false, ys) else none from rfl, if_pos h]
def elMe (T : Tbl) (φ : Sem) (m : String) (n : Nat) : Option D -> Option (List D) -> Rz
  | some nd, some ds => meth1 T φ m n (nd :: ds)
  | _, _ => .no
theorem e_xeMeth {φ : Sem} {m : String} {n : Nat} {o : XP W} {as : XA W} {env} : (xeMeth φ m n o as).ev env = elMe T φ m n (o.evF env) (as.evF env) := by
  show (match o.evF env, as.evF env with | some nd, some ds => meth1 T φ m n (nd :: ds) | _, _ => Rz.no) = _
  cases o.evF env <;> cases as.evF env <;> rfl
theorem h_elMe {φ : Sem} {m : String} {n : Nat} {nd : D} {ds : List D} : elMe T φ m n (some nd) (some ds) = meth1 T φ m n (nd :: ds) := rfl
theorem e_xeLcX {it : XI W} {g : XG W} {x : XEl W} {env} : (xeLcX it g x).ev env = lcE g x (wipeE env g.own) (it.evP env) := rfl
theorem h_lcE {g : XG W} {x : XEl W} {e0 : Py.Env} {ds : List D} (h : ds.length < 1000000) : lcE g x e0 (some ds) = lcGo g x e0 ds [] := if_pos h
end
end Py
namespace L2
open PySem PySem.Spec PyProof.Rows
def napped : GenState -> GenState
  | .suspended _ l c p fs cl => .suspended (fun _ => .unsupported "asleep") l c p fs cl
  | x => x
def sleeps : GenState -> Bool
  | .suspended .. => true
  | _ => false
def isRet : Frame -> Bool
  | .ret .. => true
  | .gen .. => false
def endRets : End -> Bool
  | .ret _ => true
  | .susp _ _ _ _ _ _ fs => fs.all isRet
theorem napped_seen (x : GenState) : (napped x).seen = x.seen := by cases x <;> rfl
theorem napped_bare (x : GenState) : (napped x).bare = x.bare := by cases x <;> rfl
theorem split_rets : ∀ {fs : List Frame}, fs.all isRet = true -> splitAtGen fs = none
  | [], _ => rfl
  | .ret .. :: fs, h => by
    rw [List.all_cons, Bool.and_eq_true] at h
    show (splitAtGen fs).map _ = none
    rw [split_rets h.2]; rfl
  | .gen .. :: fs, h => by
    rw [List.all_cons, Bool.and_eq_true] at h
    exact Bool.noConfusion (show false = true from h.1)
structure Nap (rl : Nat -> Option GenState) (v s : Shared) : Prop where
  hp : s.heap = v.heap
  dr : s.drawn = v.drawn
  tk : s.toks = v.toks
  os : s.os = v.os
  sz : s.gens.size = v.gens.size
  sl : ∀ i st, rl i = some st -> sleeps st = true
  at' : ∀ i st, rl i = some st -> s.gens[i]? = some st /\ v.gens[i]? = some (napped st)
  ot : ∀ i, rl i = none -> s.gens[i]? = v.gens[i]?
  ng : ∀ i k l c p fs cl, rl i = none -> v.gens[i]? = some (.suspended k l c p fs cl) -> fs.all isRet = true
section
variable {M : Model} {rl : Nat -> Option GenState} {v s v' : Shared} {Γ : PySem.Ctx} {p : Pos} {fs : List Frame} {e : End}
theorem Nap.heap (n : Nap rl v s) (h : Heap) : Nap rl { v with heap := h } { s with heap := h } := ⟨rfl, n.dr, n.tk, n.os, n.sz, n.sl, n.at', n.ot, n.ng⟩
theorem Nap.toks (n : Nap rl v s) (h : Nat) : Nap rl { v with toks := h } { s with toks := h } := ⟨n.hp, n.dr, rfl, n.os, n.sz, n.sl, n.at', n.ot, n.ng⟩
theorem Nap.drawn (n : Nap rl v s) (h : Drawn) : Nap rl { v with drawn := h } { s with drawn := h } := ⟨n.hp, rfl, n.tk, n.os, n.sz, n.sl, n.at', n.ot, n.ng⟩
theorem Nap.oss (n : Nap rl v s) (h : OsState) : Nap rl { v with os := h } { s with os := h } := ⟨n.hp, n.dr, n.tk, rfl, n.sz, n.sl, n.at', n.ot, n.ng⟩
theorem Nap.set (n : Nap rl v s) {g : Nat} {x : GenState} (hg : rl g = none) (hx : ∀ k l c p fs cl, x = .suspended k l c p fs cl -> fs.all isRet = true) : Nap rl (v.setGen g x) (s.setGen g x) := by
  have nx : ∀ i st, rl i = some st -> i ≠ g := fun i st h z => by rw [z, hg] at h; cases h
  have o : ∀ (u : Shared) i, i ≠ g -> (u.setGen g x).gens[i]? = u.gens[i]? := fun u i h => by
    show (u.gens.setIfInBounds g x)[i]? = _
    rw [Array.getElem?_setIfInBounds_ne (Ne.symm h)]
  have self : ∀ (u : Shared), g < u.gens.size -> (u.setGen g x).gens[g]? = some x := fun u h => by
    show (u.gens.setIfInBounds g x)[g]? = _
    simp [h]
  have out : ∀ (u : Shared), ¬ g < u.gens.size -> (u.setGen g x).gens[g]? = none := fun u h => by
    show (u.gens.setIfInBounds g x)[g]? = _
    rw [Array.getElem?_eq_none (by rw [Array.size_setIfInBounds]; omega)]
  refine ⟨n.hp, n.dr, n.tk, n.os, ?_, n.sl, fun i st h => ?_, fun i h => ?_, fun i k l c p fs cl h hv => ?_⟩
  · show (s.gens.setIfInBounds g x).size = (v.gens.setIfInBounds g x).size
    rw [Array.size_setIfInBounds, Array.size_setIfInBounds, n.sz]
  · rw [o _ _ (nx i st h), o _ _ (nx i st h)]
    exact n.at' i st h
  · by_cases z : i = g
    · subst z
      by_cases hb : i < v.gens.size
      · rw [self _ hb, self _ (by rw [n.sz]; exact hb)]
      · rw [out _ hb, out _ (by rw [n.sz]; exact hb)]
    · rw [o _ _ z, o _ _ z]
      exact n.ot i h
  · by_cases z : i = g
    · subst z
      by_cases hb : i < v.gens.size
      · rw [self _ hb] at hv
        exact hx k l c p fs cl (Option.some.inj hv)
      · rw [out _ hb] at hv; cases hv
    · rw [o _ _ z] at hv
      exact n.ng i k l c p fs cl h hv
theorem Nap.push (n : Nap rl v s) (c : Code) : Nap rl { v with gens := v.gens.push (.fresh c) } { s with gens := s.gens.push (.fresh c) } := by
  have lt : ∀ i st, rl i = some st -> i < v.gens.size := fun i st h => (Array.getElem?_eq_some_iff.mp (n.at' i st h).2).1
  have pu : ∀ (a : Array GenState) i, i < a.size -> (a.push (.fresh c))[i]? = a[i]? := fun a i h => by
    rw [Array.getElem?_push, if_neg (by omega)]
  refine ⟨n.hp, n.dr, n.tk, n.os, by show (s.gens.push _).size = (v.gens.push _).size; rw [Array.size_push, Array.size_push, n.sz], n.sl, fun i st h => ?_, fun i h => ?_, fun i k l c' p fs cl h hv => ?_⟩
  · show (s.gens.push _)[i]? = _ /\ (v.gens.push _)[i]? = _
    rw [pu _ _ (lt i st h), pu _ _ (by rw [n.sz]; exact lt i st h)]
    exact n.at' i st h
  · show (s.gens.push _)[i]? = (v.gens.push _)[i]?
    rw [Array.getElem?_push, Array.getElem?_push, n.sz, n.ot i h]
  · have hv : (v.gens.push (.fresh c))[i]? = some (.suspended k l c' p fs cl) := hv
    rw [Array.getElem?_push] at hv
    by_cases z : i = v.gens.size
    · rw [if_pos z] at hv
      have := Option.some.inj hv
      cases this
    · rw [if_neg z] at hv
      exact n.ng i k l c' p fs cl h hv
theorem Nap.awake (n : Nap rl v s) {g : Nat} {x : GenState} (h : v.gens[g]? = some x) (hx : sleeps x = false) : rl g = none := by
  cases e : rl g with
  | none => rfl
  | some st =>
    have := (n.at' g st e).2
    rw [h] at this
    have z := n.sl g st e
    rw [Option.some.inj this] at hx
    cases st <;> first | exact Bool.noConfusion (show false = true from z) | exact Bool.noConfusion (show true = false from hx)
theorem Nap.get (n : Nap rl v s) {g : Nat} {x : GenState} (h : v.gens[g]? = some x) (hx : sleeps x = false) : s.gens[g]? = some x := by
  rw [n.ot g (n.awake h hx)]; exact h
theorem Nap.look (n : Nap rl v s) {g : Nat} {x : GenState} (h : v.gens[g]? = some x) : ∃ x', s.gens[g]? = some x' /\ x'.seen = x.seen := by
  cases e : rl g with
  | none => exact ⟨x, by rw [n.ot g e]; exact h, rfl⟩
  | some st0 =>
    obtain ⟨a, b⟩ := n.at' g st0 e
    rw [h] at b
    exact ⟨st0, a, by rw [Option.some.inj b, napped_seen]⟩
theorem Nap.rise (n : Nap rl v s) {g : Nat} {k₀ : Resume -> Sem PySem.Fin} {l₀ : List Value} {c₀ : Code} {p₀ : Pos} {cl : Bool} (h : v.gens[g]? = some (.suspended k₀ l₀ c₀ p₀ fs cl)) :
    k₀ = (fun _ => .unsupported "asleep") \/ (rl g = none /\ s.gens[g]? = some (.suspended k₀ l₀ c₀ p₀ fs cl) /\ fs.all isRet = true) := by
  cases e : rl g with
  | some st0 =>
    obtain ⟨a, b⟩ := n.at' g st0 e
    rw [h] at b
    have z := n.sl g st0 e
    have b := Option.some.inj b
    cases st0 with
    | suspended k l c p fs cl' => exact .inl (by injection b)
    | _ => exact Bool.noConfusion (show false = true from z)
  | none => exact .inr ⟨rfl, by rw [n.ot g e]; exact h, n.ng g _ _ _ _ _ _ e h⟩
theorem no_runs {what : String} (h : Runs M Γ p (.unsupported what) fs s e v') : False := by
  generalize ht : (Sem.unsupported what : Sem PySem.Fin) = t at h
  induction h with
  | segRet _ _ ih _ => exact ih ht
  | segGen _ _ ih _ => exact ih ht
  | segSuspOut _ _ ih => exact ih ht
  | segSuspGen _ _ _ _ ih _ => exact ih ht
  | _ => cases ht
theorem rets_end {e : End} (h : endRets e = true) : ∀ k l c p fs cl, e.genState = .suspended k l c p fs cl -> fs.all isRet = true := by
  intro k l c p fs cl q
  cases e with
  | ret r => cases q
  | susp v g l' k' c' p' fs' => cases q; exact h
theorem nap_runs {t : Sem PySem.Fin} (h : Runs M Γ p t fs v e v') : ∀ {rl : Nat -> Option GenState} {s : Shared}, Nap rl v s -> fs.all isRet = true -> ∃ s', Runs M Γ p t fs s e s' /\ Nap rl v' s' /\ endRets e = true := by
  induction h with
  | done => exact fun n _ => ⟨_, .done, n, rfl⟩
  | raise => exact fun n _ => ⟨_, .raise, n, rfl⟩
  | again hq _ ih => exact fun n _ => let ⟨s', r, n', x⟩ := ih n rfl; ⟨s', .again hq r, n', x⟩
  | rule _ ih => exact fun n _ => let ⟨s', r, n', x⟩ := ih n rfl; ⟨s', .rule r, n', x⟩
  | «at» _ ih => exact fun n _ => let ⟨s', r, n', x⟩ := ih n rfl; ⟨s', .at r, n', x⟩
  | load hl _ ih => exact fun n _ => let ⟨s', r, n', x⟩ := ih n rfl; ⟨s', .load (by rw [n.hp]; exact hl) r, n', x⟩
  | update hl _ ih =>
    intro rl s n _
    obtain ⟨s', r, n', x⟩ := ih (n.heap _) rfl
    refine ⟨s', .update (by rw [n.hp]; exact hl) ?_, n', x⟩
    rw [n.hp]; exact r
  | loadIfAlive _ ih =>
    intro rl s n _
    obtain ⟨s', r, n', x⟩ := ih n rfl
    exact ⟨s', .loadIfAlive (by rw [n.hp]; exact r), n', x⟩
  | point _ ih => exact fun n _ => let ⟨s', r, n', x⟩ := ih n rfl; ⟨s', .point r, n', x⟩
  | alloc _ ih =>
    intro rl s n _
    obtain ⟨s', r, n', x⟩ := ih (n.heap _) rfl
    refine ⟨s', .alloc ?_, n', x⟩
    rw [n.hp]; exact r
  | fresh _ ih =>
    intro rl s n _
    obtain ⟨s', r, n', x⟩ := ih (n.toks _) rfl
    refine ⟨s', .fresh ?_, n', x⟩
    rw [n.tk]; exact r
  | ask _ ih => exact fun n _ => let ⟨s', r, n', x⟩ := ih n rfl; ⟨s', .ask r, n', x⟩
  | choose hn _ ih =>
    intro rl s n _
    obtain ⟨s', r, n', x⟩ := ih (n.drawn _) rfl
    refine ⟨s', .choose hn ?_, n', x⟩
    rw [n.dr]; exact r
  | os _ ih =>
    intro rl s n _
    obtain ⟨s', r, n', x⟩ := ih (n.oss _) rfl
    refine ⟨s', .os ?_, n', x⟩
    rw [n.os]; exact r
  | handled _ ih => exact fun n _ => let ⟨s', r, n', x⟩ := ih n rfl; ⟨s', .handled r, n', x⟩
  | genState hg _ ih =>
    intro rl s n _
    obtain ⟨s', r, n', x⟩ := ih n rfl
    obtain ⟨st', a, b⟩ := n.look hg
    exact ⟨s', .genState a (by rw [b]; exact r), n', x⟩
  | stack _ ih => exact fun n _ => let ⟨s', r, n', x⟩ := ih n rfl; ⟨s', .stack r, n', x⟩
  | thread _ ih => exact fun n _ => let ⟨s', r, n', x⟩ := ih n rfl; ⟨s', .thread r, n', x⟩
  | newGen _ ih =>
    intro rl s n _
    obtain ⟨s', r, n', x⟩ := ih (n.push _) rfl
    refine ⟨s', .newGen ?_, n', x⟩
    rw [n.sz]; exact r
  | call _ _ ih1 ih2 =>
    intro rl s n _
    obtain ⟨s1, r1, n1, _⟩ := ih1 n rfl
    obtain ⟨s2, r2, n2, x⟩ := ih2 n1 rfl
    exact ⟨s2, .call r1 r2, n2, x⟩
  | callSusp _ ih =>
    intro rl s n _
    obtain ⟨s1, r1, n1, x⟩ := ih n rfl
    refine ⟨s1, .callSusp r1, n1, ?_⟩
    show List.all (_ ++ _) _ = true
    rw [List.all_append, Bool.and_eq_true]
    exact ⟨x, rfl⟩
  | yield => exact fun n _ => ⟨_, .yield, n, rfl⟩
  | resumeFresh hg _ hq _ ih1 ih2 =>
    intro rl s n _
    have hr := n.awake hg rfl
    obtain ⟨s1, r1, n1, x1⟩ := ih1 (n.set hr fun _ _ _ _ _ _ q => nomatch q) rfl
    obtain ⟨s2, r2, n2, x2⟩ := ih2 (n1.set hr (rets_end x1)) rfl
    exact ⟨s2, .resumeFresh (n.get hg rfl) r1 hq r2, n2, x2⟩
  | resumeSuspended hg h1 hq _ ih1 ih2 =>
    intro rl s n _
    rcases n.rise hg with hk | ⟨hr, a, hf⟩
    · rw [hk] at h1
      exact (no_runs h1).elim
    · obtain ⟨s1, r1, n1, x1⟩ := ih1 (n.set hr fun _ _ _ _ _ _ q => nomatch q) hf
      obtain ⟨s2, r2, n2, x2⟩ := ih2 (n1.set hr (rets_end x1)) rfl
      exact ⟨s2, .resumeSuspended a r1 hq r2, n2, x2⟩
  | resumeJustStarted hg hv _ ih => exact fun n _ => let ⟨s', r, n', x⟩ := ih n rfl; ⟨s', .resumeJustStarted (n.get hg rfl) hv r, n', x⟩
  | resumeThrowFresh hg _ ih =>
    intro rl s n _
    obtain ⟨s', r, n', x⟩ := ih (n.set (n.awake hg rfl) fun _ _ _ _ _ _ q => nomatch q) rfl
    exact ⟨s', .resumeThrowFresh (n.get hg rfl) r, n', x⟩
  | resumeRunning hg _ ih => exact fun n _ => let ⟨s', r, n', x⟩ := ih n rfl; ⟨s', .resumeRunning (n.get hg rfl) r, n', x⟩
  | resumeFinished hg _ ih => exact fun n _ => let ⟨s', r, n', x⟩ := ih n rfl; ⟨s', .resumeFinished (n.get hg rfl) r, n', x⟩
  | segRet _ _ ih1 ih2 =>
    intro rl s n hf
    rw [List.all_cons, Bool.and_eq_true] at hf
    obtain ⟨s1, r1, n1, _⟩ := ih1 n rfl
    obtain ⟨s2, r2, n2, x⟩ := ih2 n1 hf.2
    exact ⟨s2, .segRet r1 r2, n2, x⟩
  | segGen _ _ _ _ =>
    intro rl s n hf
    rw [List.all_cons, Bool.and_eq_true] at hf
    exact Bool.noConfusion (show false = true from hf.1)
  | segSuspOut hsp _ ih =>
    intro rl s n hf
    obtain ⟨s1, r1, n1, x⟩ := ih n rfl
    refine ⟨s1, .segSuspOut hsp r1, n1, ?_⟩
    show List.all (_ ++ _) _ = true
    rw [List.all_append, Bool.and_eq_true]
    exact ⟨x, hf⟩
  | segSuspGen hsp _ _ _ _ _ =>
    intro rl s n hf
    rw [split_rets hf] at hsp
    cases hsp
theorem nap_returns {r : Result} (h : Returns M Γ p v r v') (n : Nap rl v s) : ∃ s', Returns M Γ p s r s' /\ Nap rl v' s' := by
  obtain ⟨s', a, b, _⟩ := nap_runs h n rfl
  exact ⟨s', a, b⟩
theorem nap_wakes {g : Nat} {r : Resume} {res : GenResult} (h : Wakes M Γ p g r v res v') (n : Nap rl v s) : ∃ s', Wakes M Γ p g r s res s' /\ Nap rl v' s' := by
  unfold Wakes at h
  cases hg : v.gens[g]? with
  | none => rw [hg] at h; exact h.elim
  | some st =>
    rw [hg] at h
    cases st with
    | fresh c =>
      have a := n.get hg rfl
      have hr := n.awake hg rfl
      unfold Wakes
      rw [a]
      cases r with
      | send u =>
        cases u <;> first
          | (obtain ⟨e₁, s₁, h1, hq, h2, h3⟩ := h
             obtain ⟨s2, r2, n2, x2⟩ := nap_runs h1 (n.set hr fun _ _ _ _ _ _ q => nomatch q) rfl
             exact ⟨_, ⟨e₁, s2, r2, hq, h2, rfl⟩, by rw [h3]; exact n2.set hr (rets_end x2)⟩)
          | (obtain ⟨h1, h2⟩ := h
             exact ⟨s, ⟨h1, rfl⟩, by rw [h2]; exact n⟩)
      | throw x =>
        obtain ⟨h1, h2⟩ := h
        exact ⟨_, ⟨h1, rfl⟩, by rw [h2]; exact n.set hr fun _ _ _ _ _ _ q => nomatch q⟩
    | suspended k₀ l₀ c₀ p₀ fs₀ cl =>
      obtain ⟨e₁, s₁, h1, hq, h2, h3⟩ := h
      rcases n.rise hg with hk | ⟨hr, a, hf⟩
      · rw [hk] at h1
        exact (no_runs h1).elim
      · obtain ⟨s2, r2, n2, x2⟩ := nap_runs h1 (n.set hr fun _ _ _ _ _ _ q => nomatch q) hf
        unfold Wakes
        rw [a]
        exact ⟨_, ⟨e₁, s2, r2, hq, h2, rfl⟩, by rw [h3]; exact n2.set hr (rets_end x2)⟩
    | running =>
      obtain ⟨h1, h2⟩ := h
      unfold Wakes
      rw [n.get hg rfl]
      exact ⟨s, ⟨h1, rfl⟩, by rw [h2]; exact n⟩
    | finished =>
      obtain ⟨h1, h2⟩ := h
      unfold Wakes
      rw [n.get hg rfl]
      exact ⟨s, ⟨h1, rfl⟩, by rw [h2]; exact n⟩
open Sem (wp) in
theorem nap_wp {α : Type} (t : Sem α) : ∀ (Q : α -> PySem.Pos -> Shared -> Prop) (E : Value -> PySem.Pos -> Shared -> Prop) (p : PySem.Pos) (v s : Shared), Nap rl v s -> wp M Γ t Q E p v ->
    wp M Γ t (fun a p' s' => ∃ v', Nap rl v' s' /\ Q a p' v') (fun e p' s' => ∃ v', Nap rl v' s' /\ E e p' v') p s := by
  induction t with
  | pure a => exact fun Q E p v s n h => ⟨v, n, h⟩
  | raise e => exact fun Q E p v s n h => ⟨v, n, h⟩
  | unsupported _ => exact fun Q E p v s _ h => h
  | finish _ => exact fun Q E p v s _ h => h
  | rule _ k ih => exact fun Q E p v s n h => ih () Q E p v s n h
  | «at» p' k ih => exact fun Q E p v s n h => ih () Q E p' v s n h
  | load a _ k ih => intro Q E p v s n h; obtain ⟨o, ho, h⟩ := h; exact ⟨o, by rw [n.hp]; exact ho, ih o Q E p v s n h⟩
  | update a _ f k ih =>
    intro Q E p v s n h
    refine ⟨by rw [n.hp]; exact h.1, ?_⟩
    have := ih () Q E p _ _ (n.heap (v.heap.update a f)) h.2
    rw [<- n.hp] at this
    exact this
  | loadIfAlive a k ih =>
    intro Q E p v s n h
    have := ih _ Q E p v s n h
    rw [<- n.hp] at this
    exact this
  | point _ k ih => exact fun Q E p v s n h => ih () Q E p v s n h
  | register _ _ => exact fun Q E p v s _ h => h
  | alloc o k ih =>
    intro Q E p v s n h
    have := ih _ Q E p _ _ (n.heap (v.heap.push o)) h
    rw [<- n.hp] at this
    exact this
  | fresh k ih =>
    intro Q E p v s n h
    have := ih _ Q E p _ _ (n.toks (v.toks + 1)) h
    rw [<- n.tk] at this
    exact this
  | ask k ih => exact fun Q E p v s n h => ih _ Q E p v s n h
  | choose src m k ih =>
    intro Q E p v s n h
    refine ⟨h.1, ?_⟩
    have := ih _ Q E p _ _ (n.drawn (v.drawn.bump src)) h.2
    rw [<- n.dr] at this
    exact this
  | os q _ k ih =>
    intro Q E p v s n h
    have := ih _ Q E p _ _ (n.oss (Os.step v.os q).1) h
    rw [<- n.os] at this
    exact this
  | call c hd _ _ k ih => intro Q E p v s n h; obtain ⟨r, v1, hr, h⟩ := h; obtain ⟨s1, r1, n1⟩ := nap_returns hr n; exact ⟨r, s1, r1, ih r Q E p v1 s1 n1 h⟩
  | handled own k ih => exact fun Q E p v s n h => ih _ Q E p v s n h
  | genState g k ih =>
    intro Q E p v s n h
    obtain ⟨st, hs, h⟩ := h
    obtain ⟨st', a, b⟩ := n.look hs
    refine ⟨st', a, ?_⟩
    rw [b]
    exact ih _ Q E p v s n h
  | newGen c k ih =>
    intro Q E p v s n h
    have := ih _ Q E p _ _ (n.push c) h
    rw [<- n.sz] at this
    exact this
  | resume g r _ k ih => intro Q E p v s n h; obtain ⟨res, v1, hw, h⟩ := h; obtain ⟨s1, w1, n1⟩ := nap_wakes hw n; exact ⟨res, s1, w1, ih res Q E p v1 s1 n1 h⟩
  | yield _ _ _ _ => exact fun Q E p v s _ h => h
  | stack k ih => exact fun Q E p v s n h => ih _ Q E p v s n h
  | fork _ _ => exact fun Q E p v s _ h => h
  | thread k ih => exact fun Q E p v s n h => ih _ Q E p v s n h
  | await _ _ _ _ _ => exact fun Q E p v s _ h => h
end
theorem nap_any {α : Type} {M : Model} {A : Around} {t : Sem α} {Q : α -> Shared -> Prop} {E : Value -> Shared -> Prop} {rl : Nat -> Option GenState} {v s : Shared} (n : Nap rl v s) (h : wpAny M A t Q E v) :
    wpAny M A t (fun a s' => ∃ v', Nap rl v' s' /\ Q a v') (fun e s' => ∃ v', Nap rl v' s' /\ E e v') s := fun Γ p hΓ => nap_wp (rl := rl) t _ _ p v s n (h Γ p hΓ)
def doze (s : Shared) : Shared := { s with gens := s.gens.map napped }
def dozers (s : Shared) (i : Nat) : Option GenState := match s.gens[i]? with
  | some x => if sleeps x = true then some x else none
  | none => none
theorem nap_doze (s : Shared) : Nap (dozers s) (doze s) s := by
  have gv : ∀ i : Nat, (doze s).gens[i]? = (s.gens[i]?).map napped := fun i => by
    show (s.gens.map napped)[i]? = _
    rw [Array.getElem?_map]
  refine ⟨rfl, rfl, rfl, rfl, by show _ = (s.gens.map napped).size; rw [Array.size_map], fun i st h => ?_, fun i st h => ?_, fun i h => ?_, fun i k l c p fs cl h hv => ?_⟩
  · unfold dozers at h
    cases e : s.gens[i]? with
    | none => rw [e] at h; cases h
    | some x =>
      rw [e] at h
      by_cases z : sleeps x = true
      · have h : (if sleeps x = true then some x else none) = some st := h
        rw [if_pos z] at h; cases h; exact z
      · have h : (if sleeps x = true then some x else none) = some st := h
        rw [if_neg z] at h; cases h
  · unfold dozers at h
    rw [gv]
    cases e : s.gens[i]? with
    | none => rw [e] at h; cases h
    | some x =>
      rw [e] at h
      by_cases z : sleeps x = true
      · have h : (if sleeps x = true then some x else none) = some st := h
        rw [if_pos z] at h; cases h; exact ⟨rfl, rfl⟩
      · have h : (if sleeps x = true then some x else none) = some st := h
        rw [if_neg z] at h; cases h
  · unfold dozers at h
    rw [gv]
    cases e : s.gens[i]? with
    | none => rfl
    | some x =>
      rw [e] at h
      by_cases z : sleeps x = true
      · have h : (if sleeps x = true then some x else none) = none := h
        rw [if_pos z] at h; cases h
      · cases x <;> first | rfl | exact absurd rfl z
  · unfold dozers at h
    rw [gv] at hv
    cases e : s.gens[i]? with
    | none => rw [e] at hv; cases hv
    | some x =>
      rw [e] at h hv
      by_cases z : sleeps x = true
      · have h : (if sleeps x = true then some x else none) = none := h
        rw [if_pos z] at h; cases h
      · have hv := Option.some.inj hv
        cases x <;> first | (exact absurd rfl z) | cases hv
theorem doze_bare {s : Shared} (h : AllBare s.gens) : AllBare (doze s).gens := fun y hy => by
  obtain ⟨x, hx, rfl⟩ := Array.mem_map.mp (show y ∈ s.gens.map napped from hy)
  rw [napped_bare]
  exact h x hx
theorem Nap.bare {rl : Nat -> Option GenState} {v s : Shared} (n : Nap rl v s) (h : AllBare v.gens) : AllBare s.gens := fun y hy => by
  obtain ⟨i, hi, e⟩ := Array.mem_iff_getElem.mp hy
  have e1 : s.gens[i]? = some y := by rw [Array.getElem?_eq_getElem hi, e]
  cases q : rl i with
  | none =>
    rw [n.ot i q] at e1
    exact h y (Array.mem_of_getElem? e1)
  | some st =>
    obtain ⟨a, b⟩ := n.at' i st q
    rw [e1] at a
    cases a
    have := h _ (Array.mem_of_getElem? b)
    rw [napped_bare] at this
    exact this
end L2
namespace L2
open PySem PySem.Spec PyProof.Rows
def Sg (M : Model) (A : Around) (Φ : End -> Shared -> Prop) (c : Code) (t : Sem PySem.Fin) (fs : List Frame) (s : Shared) : Prop :=
  ∀ (Γ : PySem.Ctx) (p : PySem.Pos), Γ.code = c -> Γ.Woken A -> ∃ e s', Runs M Γ p t fs s e s' /\ Φ e s'
section
variable {M : Model} {A : Around} {Φ Φ' : End -> Shared -> Prop} {c : Code} {fs : List Frame} {s : Shared}
theorem Sg.mono {t : Sem PySem.Fin} (h : Sg M A Φ c t fs s) (k : ∀ e s', Φ e s' -> Φ' e s') : Sg M A Φ' c t fs s := fun Γ p hc hΓ =>
  let ⟨e, s', r, q⟩ := h Γ p hc hΓ
  ⟨e, s', r, k e s' q⟩
theorem sg_wrap {α : Type} {m : Sem α} {K : α -> Sem PySem.Fin} {J : Value -> Sem PySem.Fin} {gd : Bool -> Bool} {lv : List Value -> List Value}
    (h : wpAny M (A.over c fs) m (fun a s' => Sg M A Φ c (K a) fs s') (fun x s' => Sg M A Φ c (J x) fs s') s) : Sg M A Φ c (m.wrap K J gd lv) fs s := by
  rintro Γ p rfl hΓ
  exact runs_wrap_of_wp K J gd lv m (h (Γ.over fs) p (hΓ.over fs)) (fun a p' s' h' => h' Γ p' rfl hΓ) fun x p' s' h' => h' Γ p' rfl hΓ
theorem sg_at {p' : PySem.Pos} {k : Unit -> Sem PySem.Fin} (h : Sg M A Φ c (k ()) fs s) : Sg M A Φ c (.at p' k) fs s :=
  sg_wrap (m := standAt p') (K := k) (J := .raise) (gd := id) (lv := id) (wpAny_standAt h)
theorem sg_point {l : List Value} {k : Unit -> Sem PySem.Fin} (h : Sg M A Φ c (k ()) fs s) : Sg M A Φ c (.point l k) fs s :=
  sg_wrap (m := point) (K := k) (J := .raise) (gd := id) (lv := fun _ => l) (wpAny_point h)
theorem sg_call {c' : Code} {h : Option Value} {g : Bool} {l : List Value} {k : Result -> Sem PySem.Fin} (hc : ∀ p, Sg M A Φ c' (M.den c') (.ret k h g l c p [] :: fs) s) : Sg M A Φ c (.call c' h g l k) fs s := by
  rintro Γ p rfl hΓ
  obtain ⟨e, s', hr, he⟩ := hc p (Γ.goto c') p rfl (hΓ.goto c')
  exact ⟨e, s', runs_call_seg hr, he⟩
theorem sg_leaf {k : Result -> Sem PySem.Fin} {h : Option Value} {g : Bool} {l kp : List Value} {c₁ : Code} {p₁ : PySem.Pos} (r : Result) (hk : Sg M A Φ c₁ (k r) fs s) : Sg M A Φ c (leafOf r) (.ret k h g l c₁ p₁ kp :: fs) s := by
  rintro Γ p rfl hΓ
  obtain ⟨e, s', hr, he⟩ := hk (Γ.goto c₁) p₁ rfl (hΓ.goto c₁)
  exact ⟨e, s', Runs.pop r hr, he⟩
theorem sg_again {c' : Code} (hq : c'.quiet = true) (hc : Sg M A Φ c' (M.den c') fs s) : Sg M A Φ c (.pure (.again c')) fs s := by
  rintro Γ p rfl hΓ
  obtain ⟨e, s', hr, he⟩ := hc (Γ.goto c') p rfl (hΓ.goto c')
  exact ⟨e, s', Runs.head (c₁ := c') (fun _ _ x => .again hq x) hr, he⟩
theorem sg_end (r : Result) (h : Φ (.ret r) s) : Sg M A Φ c (leafOf r) [] s := by
  rintro Γ p rfl _
  exact ⟨.ret r, s, Runs.leaf r, h⟩
theorem sg_yield {v : Value} {g : Bool} {l : List Value} {k : Resume -> Sem PySem.Fin} (hfs : splitAtGen fs = none) (h : ∀ p, Φ (.susp v g l k c p fs) s) : Sg M A Φ c (.yield v g l k) fs s := by
  rintro Γ p rfl _
  exact ⟨_, s, Runs.yield' fs hfs, h p⟩
end
section
variable {M : Model} {A : Around} {Φ : End -> Shared -> Prop} {c : Code} {fs : List Frame} {s : Shared} {env : PySem.Env} {K : Flow -> Sem PySem.Fin} {J : Value -> Sem PySem.Fin} {gd : Bool -> Bool} {lv : List Value -> List Value}
theorem sg_execs_cons {st : Stmt} {rest : List Stmt} (h : Sg M A Φ c ((exec st env).wrap (fun f => match f with | .next => (execs rest env).wrap K J gd lv | f => K f) J gd lv) fs s) : Sg M A Φ c ((execs (st :: rest) env).wrap K J gd lv) fs s := by
  rw [execs_cons_wrap]; exact h
theorem sg_Yield {e : Expr} {ypos pos : PySem.Pos} (hfs : splitAtGen fs = none) (hgd : gd false = false) (hfg : fs.any Frame.guarded = false)
    (h : wpAny M (A.over c fs) (eval e env) (fun v s' => ∀ (g : Bool) (l : List Value) (k : Resume -> Sem PySem.Fin) (p : PySem.Pos), (End.susp v g l k c p fs).quiet = true ->
        (∀ Φ' s'', Sg M A Φ' c (K .next) fs s'' -> Sg M A Φ' c (k (.send .none)) fs s'') -> Φ (.susp v g l k c p fs) s')
      (fun x s' => Sg M A Φ c (J x) fs s') s) (hco : env.scope.isCoroutine = false := by rfl) (hi : interactive env = false := by rfl) :
    Sg M A Φ c ((exec (.Expr (.Yield (some e) ypos) pos) env).wrap K J gd lv) fs s := by
  rw [exec_Expr env _ pos hi rfl]
  show Sg M A Φ c (.at pos fun _ => ((eval e env >>= fun v => (standAt ypos >>= fun _ => yieldOut env v)) >>= fun x => dropValue (.Yield (some e) ypos) pos x).wrap K J gd lv) fs s
  have hy : ∀ v, yieldOut env v = yieldValue v := fun v => by simp only [yieldOut, hco, Bool.false_eq_true, if_false]
  simp only [hy]
  refine sg_at ?_
  rw [Sem.bind_eq_wrap', Sem.bind_eq_wrap', Sem.wrap_wrap, Sem.wrap_wrap]
  refine sg_wrap (wpAny_mono h (fun v s' h' => ?_) fun _ _ x => x)
  refine sg_at (sg_yield hfs fun p => ?_)
  exact h' _ _ _ p (by simp [End.quiet, hgd, hfg]) fun Φ' s'' q => q
theorem sg_While {test : Expr} {body orelse : List Stmt} {pos : PySem.Pos}
    (h : ∀ p, Sg M A Φ (.whileLoop test body orelse env) (M.den (.whileLoop test body orelse env))
      (.ret (fun r => ((match r with | .ok f => (.pure f : Sem Flow) | .error e => .raise e).onRaise (cameBack env)).wrap K J gd lv) none (gd false) (lv []) c p [] :: fs) s) :
    Sg M A Φ c ((exec (.While test body orelse pos) env).wrap K J gd lv) fs s := sg_at (sg_call h)
end
section
variable {prog : Program} {w : World} {A : Around} {Φ : End -> Shared -> Prop} {fs : List Frame} {s : Shared} {env : PySem.Env}
abbrev outOf (env : PySem.Env) (e : Value) : Sem PySem.Fin := (do noteFrame e env; theTreesLotGoes e : Sem Unit).wrap (fun _ => .raise e) .raise id id
theorem sg_whileLoop {test : Expr} {body orelse : List Stmt}
    (h : wpAny (model prog w) (A.over (.whileLoop test body orelse env) fs) (isTrue test env (eval test env)) (fun b s' =>
        if b = true then Sg (model prog w) A Φ (.whileLoop test body orelse env) ((execs body env).wrap (fun f => match f with
            | .next | .cont => .pure (.again (.whileLoop test body orelse env))
            | .brk => .pure (.done .next)
            | .ret v => .pure (.done (.ret v))) (outOf env) id id) fs s'
        else Sg (model prog w) A Φ (.whileLoop test body orelse env) ((execs orelse env).wrap (fun f => .pure (.done f)) (outOf env) id id) fs s')
      (fun x s' => Sg (model prog w) A Φ (.whileLoop test body orelse env) (outOf env x) fs s') s) :
    Sg (model prog w) A Φ (.whileLoop test body orelse env) ((model prog w).den (.whileLoop test body orelse env)) fs s := by
  show Sg _ A Φ _ ((whileTurn test body orelse env).onRaise (fun x => do noteFrame x env; theTreesLotGoes x)) fs s
  unfold whileTurn
  rw [Sem.onRaise_eq_wrap, Sem.bind_eq_wrap', Sem.wrap_wrap]
  have eh : ∀ e : Value, ((do noteFrame e env; theTreesLotGoes e : Sem Unit).bind fun _ => (Sem.raise e : Sem PySem.Fin)) = outOf env e := fun e => by rw [Sem.bind_eq_wrap]
  refine sg_wrap (wpAny_mono h (fun b s' hb => ?_) fun x s' hx => ?_)
  · cases b with
    | true =>
      rw [if_pos rfl] at hb
      show Sg _ A Φ _ (Sem.wrap _ _ _ _ (if true = true then _ else _)) fs s'
      rw [if_pos rfl, Sem.bind_eq_wrap', Sem.wrap_wrap]
      have e1 := Sem.wrap_congr (execs body env) (K := fun a => Sem.wrap Sem.pure (fun e => (do noteFrame e env; theTreesLotGoes e : Sem Unit).bind fun _ => (Sem.raise e : Sem PySem.Fin)) id id (match a with
            | .next | .cont => (Sem.pure (PySem.Fin.again (.whileLoop test body orelse env)) : Sem PySem.Fin)
            | .brk => .pure (.done .next)
            | .ret v => .pure (.done (.ret v)))) (K' := fun f => match f with
            | .next | .cont => .pure (.again (.whileLoop test body orelse env))
            | .brk => .pure (.done .next)
            | .ret v => .pure (.done (.ret v))) (H := fun e => Sem.wrap Sem.pure (fun e => (do noteFrame e env; theTreesLotGoes e : Sem Unit).bind fun _ => (Sem.raise e : Sem PySem.Fin)) id id (Sem.raise e)) (H' := outOf env) id id (fun f => by cases f <;> rfl) (fun e => eh e)
      first
        | exact e1 ▸ hb
        | (rw [Sem.wrap_congr (execs body env) _ _ (K' := fun f => match f with
            | .next | .cont => .pure (.again (.whileLoop test body orelse env))
            | .brk => .pure (.done .next)
            | .ret v => .pure (.done (.ret v))) (H' := outOf env) (fun f => by cases f <;> rfl) (fun e => eh e)]
           exact hb)
    | false =>
      rw [if_neg Bool.false_ne_true] at hb
      show Sg _ A Φ _ (Sem.wrap _ _ _ _ (if false = true then _ else _)) fs s'
      rw [if_neg Bool.false_ne_true, Sem.bind_eq_wrap', Sem.wrap_wrap]
      rw [Sem.wrap_congr (execs orelse env) _ _ (K' := fun f => (.pure (.done f) : Sem PySem.Fin)) (H' := outOf env) (fun f => by rfl) (fun e => by exact eh e)]
      exact hb
  · show Sg _ A Φ _ ((do noteFrame x env; theTreesLotGoes x : Sem Unit).bind fun _ => .raise x) fs s'
    rw [eh]; exact hx
theorem sg_func {body : List Stmt}
    (h : Sg (model prog w) A Φ (.func body env) ((execs body env).wrap (fun f => .pure (.done (.ret (match f with | .ret v => v | _ => .none)))) (fun e => (leaving env e).wrap (fun _ => .raise e) .raise id id) id id) fs s) :
    Sg (model prog w) A Φ (.func body env) ((model prog w).den (.func body env)) fs s := by
  show Sg _ A Φ _ (.point [] fun _ => ((execs body env).onRaise (leaving env)) >>= _) fs s
  refine sg_point ?_
  rw [Sem.onRaise_eq_wrap, Sem.bind_eq_wrap', Sem.wrap_wrap]
  rw [Sem.wrap_congr (execs body env) _ _ (K' := fun f => .pure (.done (.ret (match f with | .ret v => v | _ => .none))))
    (H' := fun e => (leaving env e).wrap (fun _ => .raise e) .raise id id) (fun f => by cases f <;> rfl)
    (fun e => by rw [Sem.bind_eq_wrap, Sem.wrap_wrap]; rfl)]
  exact h
end
def GoesS (M : Model) (A : Around) (Φ : End -> Shared -> Prop) (gs : GenState) (s : Shared) : Prop := match gs with
  | .fresh c => Sg M A Φ c (M.den c) [] s
  | .suspended k _ c _ fs _ => Sg M A Φ c (k (.send .none)) fs s
  | _ => False
theorem wpAny_resumeS {M : Model} {A : Around} {Φ : End -> Shared -> Prop} {E : Value -> Shared -> Prop} {s : Shared} {g : Nat} {gs : GenState} {l : List Value} {α : Type} {k : GenResult -> Sem α} {Q : α -> Shared -> Prop} (hg : s.gens[g]? = some gs)
    (hgo : GoesS M A Φ gs (s.setGen g .running)) (hq : ∀ e s₁, Φ e s₁ -> e.quiet = true) (h : ∀ e s₁, Φ e s₁ -> wpAny M A (k e.result) Q E (s₁.setGen g e.genState)) : wpAny M A (.resume g (.send .none) l k) Q E s := by
  intro Γ p hΓ
  rw [Sem.wp_resume]
  cases gs with
  | fresh c =>
    obtain ⟨e₁, s₁, hr, he⟩ := hgo (Γ.wake c p) p rfl (hΓ.wake c p)
    exact ⟨_, _, by unfold Wakes; rw [hg]; exact ⟨e₁, s₁, hr, hq e₁ s₁ he, rfl, rfl⟩, h e₁ s₁ he Γ p hΓ⟩
  | suspended k₀ l₀ c₀ p₀ fs₀ cl =>
    obtain ⟨e₁, s₁, hr, he⟩ := hgo (Γ.wake c₀ p) p₀ rfl (hΓ.wake c₀ p)
    exact ⟨_, _, by unfold Wakes; rw [hg]; exact ⟨e₁, s₁, hr, hq e₁ s₁ he, rfl, rfl⟩, h e₁ s₁ he Γ p hΓ⟩
  | running => exact hgo.elim
  | finished => exact hgo.elim
end L2
namespace L2
open PySem PySem.Spec PyProof.Rows GenW
def upTo (s : Shared) (n : Nat) : Shared := { s with heap := { s.heap with objs := s.heap.objs.extract 0 n } }
theorem cut_lt {s : Shared} {n b : Nat} (h : b < n) : (upTo s n).heap.get? b = s.heap.get? b := by
  show (Heap.get? { s.heap with objs := s.heap.objs.extract 0 n } b) = _
  unfold Heap.get?
  dsimp only
  by_cases hb : b < s.heap.objs.size
  · rw [show (s.heap.objs.extract 0 n)[b]? = s.heap.objs[b]? from by
      rw [Array.getElem?_extract]; simp; omega]
  · rw [show (s.heap.objs.extract 0 n)[b]? = s.heap.objs[b]? from by
      rw [Array.getElem?_eq_none (xs := s.heap.objs.extract 0 n) (by rw [Array.size_extract]; omega), Array.getElem?_eq_none (xs := s.heap.objs) (by omega)]]
theorem cut_size {s : Shared} {n : Nat} (h : n <= s.heap.objs.size) : (upTo s n).heap.objs.size = n := by
  show (s.heap.objs.extract 0 n).size = n
  rw [Array.size_extract]; omega
theorem cut_some {s : Shared} {n b : Nat} {o : Obj} (h : n <= s.heap.objs.size) (e : (upTo s n).heap.get? b = some o) : b < n /\ s.heap.get? b = some o := by
  have hb : b < n := by have := Heap.lt_size e; rw [cut_size h] at this; exact this
  exact ⟨hb, by rw [<- cut_lt hb]; exact e⟩
theorem funFrames_cut {s : Shared} {base : Heap} {n : Nat} : ∀ {l : List PySem.Env}, (∀ L ∈ frs l, L < n) -> s.heap.FunFrames base l -> (upTo s n).heap.FunFrames base l
  | [], _, _ => trivial
  | e :: l, hL, ⟨hk, ⟨L, o, hf, hb, ho, hd⟩, hr⟩ => by
    refine ⟨hk, ⟨L, o, hf, hb, ?_, hd⟩, funFrames_cut (fun L' m => hL L' ?_) hr⟩
    · rw [cut_lt (hL L (List.mem_filterMap.mpr ⟨e, List.mem_cons_self, hf⟩))]; exact ho
    · obtain ⟨e', me, q⟩ := List.mem_filterMap.mp m
      exact List.mem_filterMap.mpr ⟨e', List.mem_cons_of_mem _ me, q⟩
structure Gx where
  prog : Program
  w : World
  K : PySem.W.Frag
  mg : Str -> Option Value
  base : Heap
  N : List Str
  qual : Str
  scope : Scope
  f : Addr
  cd : Value
  A : Around
  outer : List PySem.Env
  n0 : Nat
  a : Addr
  go : Obj
  g : Nat
abbrev Gx.env (X : Gx) : PySem.Env := envOfC X.qual X.scope X.n0 X.f X.cd
def Gx.cx (X : Gx) (s : Shared) (H : Hp) : Cx where
  prog := X.prog
  w := X.w
  K := X.K
  mg := X.mg
  base := X.base
  A := X.A.deeper X.env
  N := X.N
  s_0 := s
  H_0 := H
  env := X.env
  outer := X.outer
  stack := X.env :: X.outer
  ex := []
  calm := true
  fn := fun _ => true
  pn := [(X.a, X.go)]
  xe := fun _ _ => False
structure Gx.Ok (X : Gx) : Prop where
  go : ∃ nm qn, X.go.cls = .type "generator" /\ X.go.data = .fields #[.int X.g 0, nm, qn] /\ X.go.slots = #[]
  young : X.n0 <= X.a
  frl : ∀ L ∈ frs X.outer, L < X.n0
  bsz : X.base.objs.size <= X.n0
structure Woke (X : Gx) (H : Hp) (s : Shared) (H' : Hp) (s' : Shared) : Prop where
  env : Env0 X.prog X.w X.K X.mg X.base X.A X.outer s' H'
  os : s'.os = s.os
  keep : ∀ b o, X.n0 <= b -> H b = none -> s.heap.get? b = some o -> s'.heap.get? b = some o /\ H' b = none
section
variable {X : Gx} {ip : List (Addr × Obj)} {σ : St} {H H' Hs : Hp} {s s' ss : Shared}
theorem Woke.size (k : Woke X H s H' s') {b : Nat} (hb : X.n0 <= b) {o : Obj} (hn : H b = none) (e : s.heap.get? b = some o) : X.n0 <= s'.heap.objs.size :=
  Nat.le_trans hb (Nat.le_of_lt (Heap.lt_size (k.keep b o hb hn e).1))
theorem inv_woke (hx : X.Ok) (hn : X.n0 <= ss.heap.objs.size) (hip : ∀ p ∈ ip, X.n0 <= p.1) (I : Inv (X.cx (upTo ss X.n0) Hs) ip σ H s) (k : Woke X H s H' s') : Inv (X.cx (upTo s' X.n0) H') ip σ H' s' := by
  obtain ⟨m, hm, hl⟩ := I.loc
  have hL : H X.n0 = none := I.free
  obtain ⟨oL, es, ep, eL, rL⟩ := id hm
  have eL : s.heap.get? X.n0 = some oL := eL
  have hn' : X.n0 <= s'.heap.objs.size := k.size (Nat.le_refl _) hL eL
  have above : ∀ y c, X.env.cells.lookup y = some c -> X.n0 <= c := fun y c e => by
    rcases cells_mem (names := X.scope.names) (h := { objs := Array.replicate (X.n0 + 1) default, life := {} }) (acc := []) (x := y) (c := c) (by
      have := PySem.mem_of_lookup e
      simpa [Gx.env, envOfC] using this) with z | ⟨_, z, _⟩
    · cases z
    · have z : X.n0 + 1 <= c := by simpa using z
      omega
  have kc : ∀ y c v, X.env.cells.lookup y = some c -> s.heap.IsCell c v -> s'.heap.IsCell c v := fun y c v e z => by
    obtain ⟨o, eo, ro⟩ := z
    exact ⟨o, (k.keep c o (above y c e) (I.freeC y c e) eo).1, ro⟩
  have tr : ∀ b o, (upTo s' X.n0).heap.get? b = some o -> s'.heap.get? b = some o := fun b o e => (cut_some hn' e).2
  refine ⟨⟨k.env.mod, I.ok.kind, rfl, rfl, by show (upTo s' X.n0).heap.objs.size <= X.n0; rw [cut_size hn']; exact Nat.le_refl _, I.ok.inj, I.ok.has, fun y c _ e => ?_, fun _ => I.ok.hd rfl, Around.frames_deeper k.env.frames, .inr ⟨rfl, rfl⟩, fun b z => absurd (show b ∈ ([] : List Addr) from z) (by simp), fun b o e => ?_, ?_, fun b o _ z => absurd (show b ∈ ([] : List Addr) from z) (by simp), fun b z => absurd (show b ∈ ([] : List Addr) from z) (by simp), ?_, k.env.frf⟩,
    rfl, k.env.bare, Un.kept tr, ⟨m, ?_, fun i y v e1 e2 e3 => ?_⟩, fun y c e => ?_, ?_, fun y c e => ?_, fun p hp => ?_, k.env.hok, I.len⟩
  · show (upTo s' X.n0).heap.objs.size <= c
    rw [cut_size hn']; exact above y c e
  · obtain ⟨e1, e2⟩ := k.env.bs b o e
    refine ⟨?_, e2⟩
    show (upTo s' X.n0).heap.get? b = some o
    rw [cut_lt (Nat.lt_of_lt_of_le (Heap.lt_size e) hx.bsz)]; exact e1
  · show X.base.objs.size <= (upTo s' X.n0).heap.objs.size
    rw [cut_size hn']; exact hx.bsz
  · exact funFrames_cut hx.frl k.env.funs
  · exact ⟨oL, es, ep, (k.keep X.n0 oL (Nat.le_refl _) hL eL).1, rL⟩
  · obtain ⟨u, r, q⟩ := hl i y v e1 e2 e3
    refine ⟨u, r, ?_⟩
    rcases q with q | ⟨q1, c, q2, q3⟩
    · exact .inl q
    · exact .inr ⟨q1, c, q2, kc y c _ q2 q3⟩
  · obtain ⟨v, z⟩ := I.cell y c e
    exact ⟨v, kc y c v e z⟩
  · show H' X.n0 = none
    exact (k.keep X.n0 oL (Nat.le_refl _) hL eL).2
  · obtain ⟨v, o, eo, _⟩ := I.cell y c e
    exact (k.keep c o (above y c e) (I.freeC y c e) eo).2
  · obtain ⟨e1, e2, e3, e4, e5⟩ := I.pin p hp
    have hpy : X.n0 <= p.1 := by
      rcases List.mem_append.mp hp with z | z
      · have z : p ∈ [(X.a, X.go)] := z
        rw [List.mem_singleton.mp z]
        exact hx.young
      · exact hip p z
    obtain ⟨f1, f2⟩ := k.keep p.1 p.2 hpy e2 e1
    exact ⟨f1, f2, e3, e4, e5⟩
structure Moved (X : Gx) (Hs : Hp) (ss : Shared) (H : Hp) (s : Shared) : Prop where
  os : s.os = ss.os
  bare : AllBare s.gens
  hok : HOk X.prog X.w H s.heap
  lim : s.heap.NoLimit
  gen : s.heap.IsGen X.a X.g
  gn : H X.a = none
  un : Un (frs X.outer) ((List.range ss.heap.objs.size).filter fun b => decide (X.n0 <= b)) Hs H ss.heap s.heap
theorem Inv.moved (hx : X.Ok) (hn : X.n0 <= ss.heap.objs.size) (I : Inv (X.cx (upTo ss X.n0) Hs) ip σ H s) : Moved X Hs ss H s := by
  obtain ⟨e1, e2, _⟩ := I.pin (X.a, X.go) (List.mem_append_left _ (List.mem_singleton.mpr rfl))
  obtain ⟨nm, qn, q1, q2, q3⟩ := hx.go
  have u : Un (frs X.outer) [] Hs H (upTo ss X.n0).heap s.heap := I.base
  have old : ∀ b o, ss.heap.get? b = some o -> b ∉ (List.range ss.heap.objs.size).filter (fun b => decide (X.n0 <= b)) -> (upTo ss X.n0).heap.get? b = some o := fun b o e hb => by
    have hlt : b < X.n0 := Nat.lt_of_not_le fun z => hb (List.mem_filter.mpr ⟨List.mem_range.mpr (Heap.lt_size e), by simpa using z⟩)
    rw [cut_lt hlt]; exact e
  exact ⟨I.os, I.bare, I.hok, I.nolimit, ⟨X.go, nm, qn, e1, q1, q2, q3⟩, e2,
    ⟨fun b o e n hf hc => u.keep b o (old b o e hc) n hf (by simp), fun b o e n hf hc => u.slot b o (old b o e hc) n hf (by simp), fun b o e n hc => u.free b o (old b o e hc) n (by simp), fun b o e hc => u.there b o (old b o e hc) (by simp), u.tups, u.frzs, u.tbls⟩⟩
end
end L2
namespace L2
open PySem PySem.Spec PyProof.Rows GenW
def GP : Nat -> Type
  | 0 => Hp -> Prop
  | n + 1 => (V -> Hp -> (GP n -> Hp -> Prop) -> Prop) × (Hp -> Prop)
def GP.en : {n : Nat} -> GP n -> Hp -> Prop
  | 0, G => G
  | _ + 1, G => G.2
def GP.yl {n : Nat} (G : GP (n + 1)) : V -> Hp -> (GP n -> Hp -> Prop) -> Prop := G.1
def Phi (X : Gx) : (n : Nat) -> GP n -> Hp -> Shared -> End -> Shared -> Prop
  | 0, G, Hs, ss, .ret r, s' => (r = .ok (.ret .none) \/ r = .ok .next) /\ ∃ H', Moved X Hs ss H' s' /\ GP.en G H'
  | 0, _, _, _, .susp .., _ => False
  | _ + 1, G, Hs, ss, .ret r, s' => (r = .ok (.ret .none) \/ r = .ok .next) /\ ∃ H', Moved X Hs ss H' s' /\ GP.en G H'
  | n + 1, G, Hs, ss, .susp v g l k c p fs, s' => (End.susp v g l k c p fs).quiet = true /\ ∃ x H' fut, RelV x v /\ Moved X Hs ss H' s' /\ GP.yl G x H' fut /\
      ∀ s'' H'', Woke X H' s' H'' s'' -> ∀ G' : GP n, fut G' H'' -> Sg (model X.prog X.w) X.A (Phi X n G' H'' s'') c (k (.send .none)) fs s''
theorem phi_ret {X : Gx} {n : Nat} {G : GP n} {Hs : Hp} {ss : Shared} {r : Result} {s' : Shared} : Phi X n G Hs ss (.ret r) s' ↔ ((r = .ok (.ret .none) \/ r = .ok .next) /\ ∃ H', Moved X Hs ss H' s' /\ GP.en G H') := by
  cases n <;> exact Iff.rfl
theorem phi_quiet {X : Gx} {n : Nat} {G : GP n} {Hs : Hp} {ss : Shared} {e : End} {s' : Shared} (h : Phi X n G Hs ss e s') : e.quiet = true := by
  cases e with
  | ret r => rfl
  | susp v g l k c p fs =>
    cases n with
    | zero => exact h.elim
    | succ n => exact h.1
structure TEnds where
  nx : (n : Nat) -> GP n -> St -> Hp -> Prop
  rt : (n : Nat) -> GP n -> V -> Hp -> Prop
  bk : (n : Nat) -> GP n -> St -> Hp -> Prop := fun _ _ _ _ => False
  ct : (n : Nat) -> GP n -> St -> Hp -> Prop := fun _ _ _ _ => False
abbrev TGt := TEnds -> (n : Nat) -> GP n -> St -> Hp -> Prop
def TEnds.at (D : TEnds) (n : Nat) (G : GP n) : Ends := { nx := D.nx n G, rt := D.rt n G, bk := D.bk n G, ct := D.ct n G }
structure GCt (X : Gx) (c : Code) (fs : List Frame) (gd : Bool -> Bool) : Prop where
  over : X.A.over c fs = X.A.deeper X.env
  split : splitAtGen fs = none
  guard : fs.any Frame.guarded = false
  gd : gd false = false
def SPt (X : Gx) (ip : List (Addr × Obj)) (D : TEnds) (n : Nat) (G : GP n) (Hs : Hp) (ss : Shared) (f : Flow) (s : Shared) : Prop := SP (X.cx (upTo ss X.n0) Hs) ip (D.at n G) f s
def GKt (X : Gx) (ip : List (Addr × Obj)) (c : Code) (fs : List Frame) (K : Flow -> Sem PySem.Fin) (D : TEnds) : Prop :=
  ∀ (n : Nat) (G : GP n) (Hs : Hp) (ss s : Shared) (f : Flow), X.n0 <= ss.heap.objs.size -> SPt X ip D n G Hs ss f s -> Sg (model X.prog X.w) X.A (Phi X n G Hs ss) c (K f) fs s
structure GT (X : Gx) (st : Stmt) (t : TGt) : Prop where
  run : ∀ (ip : List (Addr × Obj)) (c : Code) (fs : List Frame) (K : Flow -> Sem PySem.Fin) (J : Value -> Sem PySem.Fin) (gd : Bool -> Bool) (lv : List Value -> List Value) (D : TEnds) (n : Nat) (G : GP n) (Hs : Hp) (ss s : Shared) (σ : St) (H : Hp),
    GCt X c fs gd -> GKt X ip c fs K D -> X.n0 <= ss.heap.objs.size -> (∀ p ∈ ip, X.n0 <= p.1) -> Inv (X.cx (upTo ss X.n0) Hs) ip σ H s -> t D n G σ H -> Sg (model X.prog X.w) X.A (Phi X n G Hs ss) c ((exec st X.env).wrap K J gd lv) fs s
structure GTs (X : Gx) (st : List Stmt) (t : TGt) : Prop where
  run : ∀ (ip : List (Addr × Obj)) (c : Code) (fs : List Frame) (K : Flow -> Sem PySem.Fin) (J : Value -> Sem PySem.Fin) (gd : Bool -> Bool) (lv : List Value -> List Value) (D : TEnds) (n : Nat) (G : GP n) (Hs : Hp) (ss s : Shared) (σ : St) (H : Hp),
    GCt X c fs gd -> GKt X ip c fs K D -> X.n0 <= ss.heap.objs.size -> (∀ p ∈ ip, X.n0 <= p.1) -> Inv (X.cx (upTo ss X.n0) Hs) ip σ H s -> t D n G σ H -> Sg (model X.prog X.w) X.A (Phi X n G Hs ss) c ((execs st X.env).wrap K J gd lv) fs s
section
variable {X : Gx} {st : Stmt} {rest : List Stmt}
def tTPlain (t : TS) : TGt := fun D n G σ H => t (D.at n G) σ H
theorem gt_ps {t : TS} (h : ∀ s H, PS (X.cx s H) st t) : GT X st (tTPlain t) := by
  refine ⟨fun ip c fs K J gd lv D n G Hs ss s σ H g k hn hip I ht => ?_⟩
  refine sg_wrap ?_
  rw [g.over]
  exact wpAny_mono ((h (upTo ss X.n0) Hs).run ip s σ H (D.at n G) I ht) (fun f s' hs => k n G Hs ss s' f hn hs) fun x s' hx => False.elim hx
def tT0 : TGt := fun D n G σ H => D.nx n G σ H
theorem gts_nil : GTs X [] tT0 := by
  refine ⟨fun ip c fs K J gd lv D n G Hs ss s σ H g k hn hip I ht => ?_⟩
  exact k n G Hs ss s .next hn ⟨σ, H, I, ht⟩
def tTThen (t u : TGt) : TGt := fun D n G σ H => t { D with nx := fun n' G' σ' H' => u D n' G' σ' H' } n G σ H
theorem gts_cons {t u : TGt} (a : GT X st t) (b : GTs X rest u) : GTs X (st :: rest) (tTThen t u) := by
  refine ⟨fun ip c fs K J gd lv D n G Hs ss s σ H g k hn hip I ht => ?_⟩
  refine sg_execs_cons ?_
  refine a.run ip c fs _ J gd lv { D with nx := fun n' G' σ' H' => u D n' G' σ' H' } n G Hs ss s σ H g (fun n' G' Hs' ss' s' f hn' hs => ?_) hn hip I ht
  cases f with
  | next =>
    obtain ⟨σ', H', I', q⟩ := hs
    exact b.run ip c fs K J gd lv D n' G' Hs' ss' s' σ' H' g k hn' hip I' q
  | brk => exact k n' G' Hs' ss' s' .brk hn' hs
  | cont => exact k n' G' Hs' ss' s' .cont hn' hs
  | ret u => exact k n' G' Hs' ss' s' (.ret u) hn' hs
def tTYield (te : TE) : TGt := fun D n G σ H => match n, G with
  | 0, _ => False
  | m + 1, G => te σ H fun x H1 => GP.yl G x H1 fun G' H2 => D.nx m G' σ H2
theorem gt_yield {e : Expr} {yp pos : PySem.Pos} {te : TE} (hx : X.Ok) (he : ∀ s H, PE (X.cx s H) e te) (hco : X.env.scope.isCoroutine = false := by rfl) (hi : interactive X.env = false := by rfl) : GT X (.Expr (.Yield (some e) yp) pos) (tTYield te) := by
  refine ⟨fun ip c fs K J gd lv D n G Hs ss s σ H g k hn hip I ht => ?_⟩
  cases n with
  | zero => exact ht.elim
  | succ n =>
    have ht : te σ H fun x H1 => GP.yl G x H1 fun G' H2 => D.nx n G' σ H2 := ht
    refine sg_Yield g.split g.gd g.guard ?_ hco hi
    rw [g.over]
    refine wpAny_mono ((he (upTo ss X.n0) Hs).run ip s σ H _ I ht) (fun v s' hv => ?_) fun x s' hx => False.elim hx
    obtain ⟨x, H1, I1, rv, q⟩ := hv
    intro g' l kk p hq hk
    refine ⟨hq, x, H1, _, rv, I1.moved hx hn, q, fun s'' H'' wk G' hf => hk _ s'' ?_⟩
    have I2 := inv_woke hx hn hip I1 wk
    have hn2 : X.n0 <= s''.heap.objs.size := by
      obtain ⟨m, ⟨oL, es, ep, eL, _⟩, _⟩ := I1.loc
      exact wk.size (Nat.le_refl X.n0) I1.free eL
    exact k n G' H'' s'' s'' .next hn2 ⟨σ, H'', I2, hf⟩
def tTWhile (tc : TT) (tb : TGt) : TGt := fun D n G σ H => ∃ W : Nat -> (n : Nat) -> GP n -> St -> Hp -> Prop, (∃ m, W m n G σ H) /\ ∀ m n G σ H, W m n G σ H ->
  tc σ H fun b H1 => if b = true then ∃ N : (n : Nat) -> GP n -> St -> Hp -> Prop, (∀ n' G' σ' H', N n' G' σ' H' -> ∃ m', m' < m /\ W m' n' G' σ' H') /\ tb { D with nx := N, ct := N, bk := D.nx } n G σ H1 else D.nx n G σ H1
theorem gct_loop {c c' : Code} {fs : List Frame} {gd : Bool -> Bool} {k : Result -> Sem PySem.Fin} {l kp : List Value} {p : PySem.Pos} (g : GCt X c fs gd) (hw : c'.weight = 0) (hu : c'.cUnits = 0) : GCt X c' (.ret k none (gd false) l c p kp :: fs) id where
  over := (over_loop hw hu).trans g.over
  split := by
    show (splitAtGen fs).map _ = none
    rw [g.split]; rfl
  guard := by
    show (gd false || fs.any Frame.guarded) = false
    rw [g.gd, g.guard]; rfl
  gd := rfl
theorem gt_while {test : Expr} {body : List Stmt} {pos : PySem.Pos} {tc : TT} {tb : TGt} (hc : ∀ s H, PT (X.cx s H) test tc) (hb : GTs X body tb) : GT X (.While test body [] pos) (tTWhile tc tb) := by
  refine ⟨fun ip c fs K J gd lv D n G Hs ss s σ H g k hn hip I ht => ?_⟩
  obtain ⟨W, ⟨m0, w0⟩, turn⟩ := ht
  refine sg_While fun p => ?_
  have gl := fun (kk : Result -> Sem PySem.Fin) => gct_loop (k := kk) (c' := .whileLoop test body [] X.env) (l := lv []) (kp := []) (p := p) g rfl rfl
  have loop : ∀ (m n : Nat) (G : GP n) (Hs : Hp) (ss s : Shared) (σ : St) (H : Hp), X.n0 <= ss.heap.objs.size -> W m n G σ H -> Inv (X.cx (upTo ss X.n0) Hs) ip σ H s ->
      Sg (model X.prog X.w) X.A (Phi X n G Hs ss) (.whileLoop test body [] X.env) ((model X.prog X.w).den (.whileLoop test body [] X.env))
        (.ret (fun r => ((match r with | .ok f => (.pure f : Sem Flow) | .error e => .raise e).onRaise (cameBack X.env)).wrap K J gd lv) none (gd false) (lv []) c p [] :: fs) s := by
    intro m
    induction m using Nat.strongRecOn with
    | ind m ih =>
      intro n G Hs ss s σ H hn w I
      refine sg_whileLoop ?_
      rw [(gl _).over]
      refine wpAny_mono ((hc (upTo ss X.n0) Hs).run ip s σ H _ I (turn m n G σ H w)) (fun b s' hb' => ?_) fun x s' hx => False.elim hx
      obtain ⟨H2, I2, q2⟩ := hb'
      cases b with
      | true =>
        obtain ⟨N, hN, q2⟩ := q2
        rw [if_pos rfl]
        refine hb.run ip _ _ _ _ id id { D with nx := N, ct := N, bk := D.nx } n G Hs ss s' σ H2 (gl _) (fun n' G' Hs' ss' s3 f hn' hs => ?_) hn hip I2 q2
        cases f with
        | next =>
          obtain ⟨σ3, H3, I3, n3⟩ := hs
          obtain ⟨m', hm, w3⟩ := hN n' G' σ3 H3 n3
          exact sg_again rfl (ih m' hm n' G' Hs' ss' s3 σ3 H3 hn' w3 I3)
        | cont =>
          obtain ⟨σ3, H3, I3, n3⟩ := hs
          obtain ⟨m', hm, w3⟩ := hN n' G' σ3 H3 n3
          exact sg_again rfl (ih m' hm n' G' Hs' ss' s3 σ3 H3 hn' w3 I3)
        | brk => exact sg_leaf (.ok .next) (k n' G' Hs' ss' s3 .next hn' hs)
        | ret v => exact sg_leaf (.ok (.ret v)) (k n' G' Hs' ss' s3 (.ret v) hn' hs)
      | false =>
        rw [if_neg Bool.false_ne_true]
        exact sg_leaf (.ok .next) (k n G Hs ss s' .next hn ⟨σ, H2, I2, q2⟩)
  exact loop m0 n G Hs ss s σ H hn w0 I
end
end L2
namespace L2
open PySem PySem.Spec PyProof.Rows GenW
abbrev Fut := (n : Nat) -> GP n -> Hp -> Prop
def GMadeT (P : Program) (w : World) (K : PySem.W.Frag) (mg : Str -> Option Value) (base : Heap) (k : Nat) (outer : List PySem.Env) (H : Hp) (s : Shared) (fu : Fut) (u : Value) (s' : Shared) : Prop :=
  ∃ (Y : Gx) (c : Code), u = .ref Y.a /\ Y.prog = P /\ Y.w = w /\ Y.K = K /\ Y.mg = mg /\ Y.base = base /\ Y.outer = outer /\ Y.n0 = s.heap.objs.size /\ (∀ A, ({ Y with A := A } : Gx).Ok) /\ s'.heap.IsGen Y.a Y.g /\ s'.gens[Y.g]? = some (.fresh c) /\
    s'.os = s.os /\ AllBare s'.gens /\ s'.heap.NoLimit /\ (∀ b o, s.heap.get? b = some o -> s'.heap.get? b = some o) /\
    ∀ (A : Around) (n : Nat) (G : GP n) (H2 : Hp) (s2 : Shared), Room k A -> Woke { Y with A := A } H s' H2 s2 -> fu n G H2 -> Sg (model P w) A (Phi { Y with A := A } n G H2 s2) c ((model P w).den c) [] s2
structure GFnT (P : Program) (w : World) (K : PySem.W.Frag) (mg : Str -> Option Value) (base : Heap) (k : Nat) (f : Addr) (fd : FuncData) (ps : List Str) (fu : List V -> Fut) : Prop where
  run : ∀ (A : Around) (outer : List PySem.Env) (s : Shared) (H : Hp) (args : Args) (us : List Value) (vs : List V), vs.length = ps.length -> Room k A -> Env0 P w K mg base A outer s H -> BindsTo s fd args (ps.zip us) -> Vals vs us ->
    codeAny (model P w) A (.call (.ref f) args) (fun r s' => match r with | .ok (.ret u) => GMadeT P w K mg base k outer H s (fu vs) u s' | _ => False) s
theorem upTo_self (s : Shared) : upTo s s.heap.objs.size = s := by
  unfold upTo
  rw [Array.extract_size]
theorem inv_begin {P : Program} {w : World} {K : PySem.W.Frag} {mg : Str -> Option Value} {base : Heap} {N : List Str} {qual : Str} {scope : Scope} {f : Addr} {cd : Value} {A : Around} {outer : List PySem.Env} {s s1 : Shared} {H : Hp} {E : XK} {σ : St} {a : Addr} {go : Obj} {g : Nat}
    (I : Inv (gcxOf P w K mg base N qual scope f cd A outer s H E []) [] σ H s1) (hp : s1.heap.get? a = some go /\ H a = none /\ a ≠ s.heap.objs.size /\ a ∉ frs outer /\ ∀ v, go.data ≠ .cell v) :
    Inv ((Gx.mk P w K mg base N qual scope f cd A outer s.heap.objs.size a go g).cx s H) [] σ H s1 := by
  refine ⟨⟨I.ok.mod, I.ok.kind, I.ok.glob, I.ok.blt, I.ok.above, I.ok.inj, I.ok.has, I.ok.cab, I.ok.hd, I.ok.frames, I.ok.stk, I.ok.exf, I.ok.bs, I.ok.bsz, I.ok.noex, I.ok.exfs, I.ok.funs, I.ok.frf⟩,
    I.os, I.bare, I.base, I.loc, I.cell, I.free, I.freeC, fun p hm => ?_, I.hok, I.len⟩
  have hm : p ∈ [(a, go)] ++ [] := hm
  rw [List.append_nil, List.mem_singleton] at hm
  rw [hm]
  exact hp
theorem gfnT_of {P : Program} {w : World} {K : PySem.W.Frag} {mg : Str -> Option Value} {base : Heap} {k : Nat} {f : Addr} {name qual : Str} {params : Arguments} {body : List Stmt} {scope : Scope} {dV kV doc pm cdv ct oc : Value} {an od : Option Addr}
    {osl : Array (Option Value)} {N ps : List Str} {fu : List V -> Fut} (lk : K.lookup f = some ⟨oc, od, .func (PySem.W.fnOf name qual params body scope dV kV doc pm an cdv ct), osl⟩) (hcd : PySem.W.codeIn K cdv qual = true) (S : GScope N ps scope)
    (hbody : ∀ (X : Gx), X.Ok -> X.prog = P -> X.w = w -> X.K = K -> X.mg = mg -> X.base = base -> X.N = N -> X.qual = qual -> X.scope = scope -> X.f = f -> X.cd = cdv -> Room k (X.A.deeper X.env) ->
      ∃ t, GTs X body t /\ ∀ (vs : List V) (n : Nat) (G : GP n) (H : Hp), vs.length = ps.length -> fu vs n G H -> t { nx := fun _ G _ H' => GP.en G H', rt := fun _ G v H' => v = .non /\ GP.en G H' } n G (start N vs) H) :
    GFnT P w K mg base (k + 1) f (PySem.W.fnOf name qual params body scope dV kV doc pm an cdv ct) ps fu := by
  refine ⟨fun A outer s H args us vs hl hr e0 hb r => ?_⟩
  have KX : K.In s.heap := e0.mod.kin.keeps fun b o e => (e0.bs b o e).1
  have lim : s.heap.NoLimit := e0.mod.nolimit.keeps fun b o e => (e0.bs b o e).1
  have hkind : ∀ y ∈ ps.zip us, scope.names.lookup y.1 = some .local \/ (scope.names.lookup y.1 = some .cell /\ ((cellsFrom (s.heap.objs.size + 1) scope.names []).lookup y.1).isSome = true) := fun ⟨n, v⟩ hy => by
    rcases S.par n (List.of_mem_zip hy).1 with q | q
    · exact .inl q
    · exact .inr ⟨q, PySem.W.cellsFrom_some _ _ _ (.inl q)⟩
  refine codeAny_call_generator hr.depth (KX _ _ lk) rfl S.co S.gen rfl (PySem.W.codeRec_of KX hcd) (hb _ _ _ _ ?_)
  refine wpAny_newFunctionEnv_cells S.kind hkind fun env he s1 x => ?_
  subst he
  have lim1 : s1.heap.NoLimit := lim.keeps x.toInCall.keep
  refine ⟨lim1, ?_⟩
  obtain ⟨h1, tk, es1, hk1⟩ := x.done
  have os1 : s1.os = s.os := by rw [es1]
  have gen1 : s1.gens = s.gens := by rw [es1]
  have lt1 : s.heap.objs.size < s1.heap.objs.size := x.toInCall.ns.lt
  have kp1 : ∀ b o, s.heap.get? b = some o -> s1.heap.get? b = some o := x.toInCall.keep
  have main : ∀ (go : Obj) (nm qn : Value) (tk2 : Nat), go.cls = .type "generator" -> go.data = .fields #[.int s1.gens.size 0, nm, qn] -> go.slots = #[] -> (∀ h : Heap, (h.push go).get? h.objs.size = some go) ->
      GMadeT P w K mg base (k + 1) outer H s (fu vs) (.ref s1.heap.objs.size) { s1 with gens := s1.gens.push (.fresh (.func body (envOfC qual scope s.heap.objs.size f cdv))), toks := tk2, heap := s1.heap.push go } := by
    intro go nm qn tk2 hgc hgd0 hgs hgp
    have hpushed : (s1.heap.push go).get? s1.heap.objs.size = some go := hgp _
    have hgd : ∀ v, go.data ≠ .cell v := fun v q => by rw [hgd0] at q; cases q
    have hok : ∀ A', (Gx.mk P w K mg base N qual scope f cdv A' outer s.heap.objs.size s1.heap.objs.size go s1.gens.size).Ok := fun A' => ⟨⟨nm, qn, hgc, hgd0, hgs⟩, Nat.le_of_lt lt1, fun L hL => by
      obtain ⟨_, o, ho, _⟩ := e0.funs.mem hL
      exact Heap.lt_size ho, e0.bsz⟩
    refine ⟨Gx.mk P w K mg base N qual scope f cdv A outer s.heap.objs.size s1.heap.objs.size go s1.gens.size, _, rfl, rfl, rfl, rfl, rfl, rfl, rfl, rfl, hok, ⟨go, nm, qn, hpushed, hgc, hgd0, hgs⟩, Array.getElem?_push_size .., os1, ?_, lim1.keeps fun b o e => Heap.get?_push_of_some _ e, fun b o e => Heap.get?_push_of_some _ (kp1 b o e), ?_⟩
    · exact AllBare.push (by rw [gen1]; exact e0.bare) rfl
    intro Aw n G H2 s2 hrw wk hfu
    have e0w : Env0 P w K mg base Aw outer s H := ⟨wk.env.frames, e0.mod, e0.bs, e0.bsz, e0.funs, e0.frf, e0.hok, e0.bare⟩
    obtain ⟨t, ht, hq⟩ := hbody (Gx.mk P w K mg base N qual scope f cdv Aw outer s.heap.objs.size s1.heap.objs.size go s1.gens.size) (hok Aw) rfl rfl rfl rfl rfl rfl rfl rfl rfl rfl (hrw.deeper _)
    have I1 : Inv (gcxOf P w K mg base N qual scope f cdv Aw outer s H (fun _ _ _ => False) []) [] (start N vs) H s1 := inv_startG S hrw.hd e0w hl r x
    have kp2 : ∀ b o, s1.heap.get? b = some o -> (s1.heap.push go).get? b = some o := fun b o e => Heap.get?_push_of_some _ e
    have I2 : Inv (gcxOf P w K mg base N qual scope f cdv Aw outer s H (fun _ _ _ => False) []) [] (start N vs) H { s1 with gens := s1.gens.push (.fresh (.func body (envOfC qual scope s.heap.objs.size f cdv))), toks := tk2, heap := s1.heap.push go } :=
      I1.call' (ch := []) rfl (Un.kept kp2) (I1.hok.kept kp2) (AllBare.push (by rw [gen1]; exact e0.bare) rfl) fun b z => by simp at z
    have I3 := inv_begin (a := s1.heap.objs.size) (go := go) (g := s1.gens.size) I2 ⟨hpushed, I1.hok.fresh (Nat.le_refl _), Nat.ne_of_gt lt1, I1.nofs (Nat.le_refl _), hgd⟩
    rw [<- upTo_self s] at I3
    have I4 := inv_woke (ip := []) (ss := s) (hok Aw) (Nat.le_refl _) (fun p hp => nomatch hp) (by
      have e : (upTo s s.heap.objs.size).heap.objs.size = s.heap.objs.size := cut_size (Nat.le_refl _)
      rw [e] at I3
      exact I3) wk
    have hn2 : s.heap.objs.size <= s2.heap.objs.size := by
      obtain ⟨m, ⟨oL, es, ep, eL, _⟩, _⟩ := I2.loc
      exact wk.size (Nat.le_refl s.heap.objs.size) I2.free eL
    refine sg_func ?_
    refine ht.run [] _ [] _ _ id id _ n G H2 s2 s2 (start N vs) H2 ⟨over_func, rfl, rfl, rfl⟩ (fun n' G' Hs' ss' s' fl hn' hs => ?_) hn2 (fun p hp => by simp at hp) I4 (hq vs n G H2 hl hfu)
    cases fl with
    | next =>
      obtain ⟨σ', H', I', q⟩ := hs
      exact sg_end (.ok (.ret .none)) (phi_ret.mpr ⟨.inl rfl, H', I'.moved (hok Aw) hn', q⟩)
    | brk => obtain ⟨_, _, _, q⟩ := hs; exact False.elim q
    | cont => obtain ⟨_, _, _, q⟩ := hs; exact False.elim q
    | ret u =>
      obtain ⟨v, σ', H', I', rv, ev, q⟩ := hs
      subst ev
      have eu : u = Value.none := rv
      subst eu
      exact sg_end (.ok (.ret .none)) (phi_ret.mpr ⟨.inl rfl, H', I'.moved (hok Aw) hn', q⟩)
  exact main _ _ _ _ rfl rfl rfl fun h => Heap.get?_push_size _ rfl
end L2
namespace L2
open PySem PySem.Spec PyProof.Rows GenW
theorem next_genS {P : Program} {w : World} {A : Around} {E : Value -> Shared -> Prop} {s : Shared} {a : Addr} {g : Nat} {gs : GenState} {Φ : End -> Shared -> Prop} {Q : Option Value -> Shared -> Prop} (hh : A.handled = none)
    (hl : s.heap.NoLimit) (hroom : A.depth < recursionLimit) (hg : s.heap.IsGen a g) (hgs : s.gens[g]? = some gs) (hgo : GoesS (model P w) A.in1 Φ gs (s.setGen g .running)) (hq : ∀ e s₁, Φ e s₁ -> e.quiet = true)
    (hR : ∀ r s₁, Φ (.ret r) s₁ -> (r = .ok (.ret .none) \/ r = .ok .next) /\ ∀ h', (∀ b o, s₁.heap.get? b = some o -> h'.get? b = some o) -> Q none { s₁.setGen g .finished with heap := h' })
    (hY : ∀ v gd l k c p fs s₁, Φ (.susp v gd l k c p fs) s₁ -> Q (some v) (s₁.setGen g (End.genState (.susp v gd l k c p fs)))) :
    wpAny (model P w) A (pyNext (.ref a)) Q E s := by
  unfold pyNext
  refine wpAny_bind (wpAny_attempt (wpAny_callSpecial?_slot (name := Str.ofString "__next__") hg.typeIs slot_gen_next
    (wpAny_call_entry slot_gen_next hg.typeIs entry_gen_next ?_ (args_gen_next _))))
  show wpAny _ A.in1 (Builtin.Generator.genWake (.ref a) (.send .none)) _ _ s
  unfold Builtin.Generator.genWake
  refine wpAny_bind (wpAny_holding (wpAny_genNumber hg (wpAny_bind (wpAny_genState hgs ?_))))
  cases gs with
  | running => exact hgo.elim
  | finished => exact hgo.elim
  | _ =>
    refine wpAny_bind (wpAny_roomToWake hl hroom ?_)
    show wpAny _ A.in1 (.resume g (.send .none) [] _) _ _ s
    refine wpAny_resumeS hgs hgo hq fun e s₁ he => ?_
    cases e with
    | ret r =>
      obtain ⟨hr, hp⟩ := hR r s₁ he
      have hres : End.result (.ret r) = .returned .none := by
        rcases hr with hr | hr <;> rw [hr] <;> rfl
      first | rw [hres] | simp only [hres]
      show wpAny _ A.in1 (newExc (.type "StopIteration") [] >>= _) _ _ _
      refine wpAny_bind ?_
      simp only [newExc, newTuple]
      refine wpAny_bind (wpAny_newObj_type ?_ (by size_fits))
      refine wpAny_bind (m := firstArgMember _ _) (wpAny_of_eq (a := Value.none) (by first | rfl | (simp only [firstArgMember]; rfl)) ?_)
      refine wpAny_newObj_type ?_ (by size_fits)
      simp only [raiseNew]
      refine wpAny_bind (wpAny_bind (wpAny_handled ?_))
      first | rw [show A.in1.handled = none from hh] | rw [hh]
      refine wpAny_throw ?_
      refine wpAny_bind (wpAny_isInstance (T := "StopIteration") (b := true) ⟨_, Heap.get?_push_size _ rfl, rfl⟩ isSubtype_stop ?_)
      exact wpAny_pure (hp _ fun b o hb => Heap.get?_push_of_some _ (Heap.get?_push_of_some _ hb))
    | susp v gd l k c p fs => exact wpAny_pure ⟨v, rfl, wpAny_pure (hY v gd l k c p fs s₁ he)⟩
abbrev anyHO : HO := .ext fun _ => True
def plusF (n0 : Nat) (H : Hp) (h : Heap) : Hp := fun b => match H b with
  | some o => some o
  | none => if n0 <= b then (h.get? b).map fun o => .frz o anyHO else none
theorem plus_old {n0 : Nat} {H : Hp} {h : Heap} {b : Addr} {o : HO} (e : H b = some o) : plusF n0 H h b = some o := by unfold plusF; rw [e]
theorem plus_low {n0 : Nat} {H : Hp} {h : Heap} {b : Addr} (e : b < n0) : plusF n0 H h b = H b := by
  unfold plusF
  cases q : H b with
  | some o => rfl
  | none => exact if_neg (Nat.not_le_of_lt e)
theorem plus_new {n0 : Nat} {H : Hp} {h : Heap} {b : Addr} {o : HO} (e : H b = none) (q : plusF n0 H h b = some o) : n0 <= b /\ ∃ ob, h.get? b = some ob /\ o = .frz ob anyHO := by
  unfold plusF at q
  rw [e] at q
  dsimp only at q
  by_cases z : n0 <= b
  · rw [if_pos z] at q
    cases y : h.get? b with
    | none => rw [y] at q; cases q
    | some ob => rw [y] at q; cases q; exact ⟨z, ob, rfl, rfl⟩
  · rw [if_neg z] at q; cases q
structure PlusF (H Hc : Hp) : Prop where
  old : ∀ b o, H b = some o -> Hc b = some o
  new : ∀ b o, H b = none -> Hc b = some o -> ∃ ob, o = .frz ob anyHO
theorem plus_is {n0 : Nat} {H : Hp} {h : Heap} : PlusF H (plusF n0 H h) := ⟨fun _ _ e => plus_old e, fun _ _ e q => let ⟨_, ob, _, z⟩ := plus_new e q; ⟨ob, z⟩⟩
def KeptF (H Hc H' : Hp) : Prop := ∀ b o, H b = none -> Hc b = some o -> H' b = some o
def minusF (H Hc H' : Hp) : Hp := fun b => match H b, Hc b with
  | none, some _ => none
  | _, _ => H' b
theorem minus_new {H Hc H' : Hp} {b : Addr} {o : HO} (e : H b = none) (q : Hc b = some o) : minusF H Hc H' b = none := by unfold minusF; rw [e, q]
theorem minus_old {H Hc H' : Hp} {b : Addr} (h : H b ≠ none \/ Hc b = none) : minusF H Hc H' b = H' b := by
  unfold minusF
  rcases h with h | h
  · cases q : H b with
    | none => exact absurd q h
    | some o => rfl
  · rw [h]
    cases H b <;> rfl
theorem minus_some {H Hc H' : Hp} {b : Addr} {o : HO} (h : minusF H Hc H' b = some o) : H' b = some o := by
  by_cases z : H b ≠ none \/ Hc b = none
  · rw [minus_old z] at h; exact h
  · have z1 : H b = none := Classical.byContradiction fun q => z (.inl q)
    cases q : Hc b with
    | none => exact absurd (.inr q) z
    | some o' => rw [minus_new z1 q] at h; cases h
section
variable {X : Cx} {pins : List (Addr × Obj)} {σ : St} {H Hc H' : Hp} {s : Shared} {n0 : Nat}
structure OldC (X : Cx) (pins : List (Addr × Obj)) (n0 : Nat) : Prop where
  loc : X.env.locals < n0
  cells : ∀ x c, X.env.cells.lookup x = some c -> c < n0
  pins : ∀ p ∈ X.pn ++ pins, p.1 < n0
  s0 : X.s_0.heap.objs.size <= n0
theorem inv_plus (o : OldC X pins n0) (I : Inv X pins σ H s) : Inv X pins σ (plusF n0 H s.heap) s := by
  have lowN : ∀ b, b < n0 -> H b = none -> plusF n0 H s.heap b = none := fun b hb e => by rw [plus_low hb]; exact e
  refine ⟨I.ok, I.os, I.bare, ⟨I.base.keep, I.base.slot, fun b ob q n hx => ?_, I.base.there, fun b xs q => plus_old (I.base.tups b xs q), fun b ob u q => plus_old (I.base.frzs b ob u q), fun b ps q => ?_⟩, I.loc, I.cell, lowN _ o.loc I.free, fun x c e => lowN _ (o.cells x c e) (I.freeC x c e), fun p hp => ?_, fun b u q => ?_, I.len⟩
  · exact lowN b (Nat.lt_of_lt_of_le (Heap.lt_size q) o.s0) (I.base.free b ob q n hx)
  · obtain ⟨more, e⟩ := I.base.tbls b ps q
    exact ⟨more, plus_old e⟩
  · obtain ⟨e1, e2, e3⟩ := I.pin p hp
    exact ⟨e1, lowN _ (o.pins p hp) e2, e3⟩
  · cases e : H b with
    | some u' =>
      rw [plus_old e] at q
      cases q
      exact (I.hok b _ e).stay (fun _ _ _ z => z) (fun c z => plus_old z) fun c xs z => plus_old z
    | none =>
      obtain ⟨_, ob, e1, rfl⟩ := plus_new e q
      exact ⟨e1, trivial, ⟨ob, e1⟩, fun _ _ z _ => z⟩
theorem inv_minus {h0 : Heap} (p : PlusF H Hc) (u : Un X.fs X.ex X.H_0 H X.s_0.heap h0) (k : KeptF H Hc H') (I : Inv X pins σ H' s) : Inv X pins σ (minusF H Hc H') s := by
  have nn : ∀ b, H' b = none -> minusF H Hc H' b = none := fun b e => by
    cases q : minusF H Hc H' b with
    | none => rfl
    | some o => rw [minus_some q] at e; cases e
  have old : ∀ b o, H b ≠ none -> H' b = some o -> minusF H Hc H' b = some o := fun b o hu e => by
    rw [minus_old (.inl hu)]; exact e
  have tup : ∀ b xs, H' b = some (.tup xs) -> minusF H Hc H' b = some (.tup xs) := fun b xs e => by
    rw [minus_old ?_]; exact e
    by_cases z : H b = none
    · cases q : Hc b with
      | none => exact .inr rfl
      | some o =>
        obtain ⟨ob, rfl⟩ := p.new b o z q
        have := k b _ z q
        rw [e] at this
        cases this
    · exact .inl z
  have own : ∀ b a, H' b = some (.own a) -> minusF H Hc H' b = some (.own a) := fun b a e => by
    rw [minus_old ?_]; exact e
    by_cases z : H b = none
    · cases q : Hc b with
      | none => exact .inr rfl
      | some o =>
        obtain ⟨ob, rfl⟩ := p.new b o z q
        have := k b _ z q
        rw [e] at this
        cases this
    · exact .inl z
  refine ⟨I.ok, I.os, I.bare, ⟨I.base.keep, I.base.slot, fun b ob q n hx => nn b (I.base.free b ob q n hx), I.base.there, fun b xs q => old b _ (by rw [u.tups b xs q]; simp) (I.base.tups b xs q), fun b ob y q => old b _ (by rw [u.frzs b ob y q]; simp) (I.base.frzs b ob y q), fun b ps q => ?_⟩, I.loc, I.cell, nn _ I.free, fun x c e => nn _ (I.freeC x c e), fun p hp => ?_, fun b u q => ?_, I.len⟩
  · obtain ⟨more, e⟩ := I.base.tbls b ps q
    obtain ⟨m2, e2⟩ := u.tbls b ps q
    exact ⟨more, old b _ (by rw [e2]; simp) e⟩
  · obtain ⟨e1, e2, e3⟩ := I.pin p hp
    exact ⟨e1, nn _ e2, e3⟩
  · exact (I.hok b u (minus_some q)).stay (fun _ _ _ z => z) (fun c z => own c b z) fun c xs z => tup c xs z
theorem inv_nap {rl : Nat -> Option GenState} {v : Shared} (n : Nap rl v s) (I : Inv X pins σ H v) : Inv X pins σ H s := by
  obtain ⟨hh, gg, dd, tt, oo⟩ := s
  have e1 : hh = v.heap := n.hp
  have e2 : oo = v.os := n.os
  have e3 := n.bare I.bare
  subst e1 e2
  have := I.call (g' := gg) (t' := tt) (d' := dd) (ch := []) Un.refl I.hok e3 fun b hb => by simp at hb
  exact this
theorem inv_doze (I : Inv X pins σ H s) : Inv X pins σ H (doze s) := I.call (g' := s.gens.map napped) (t' := s.toks) (d' := s.drawn) (ch := []) Un.refl I.hok (doze_bare I.bare) fun b hb => by simp at hb
end
abbrev calmX (X : Cx) : Cx := { X with xe := fun _ _ => False }
abbrev TGenT := St -> Hp -> (Fut -> Hp -> Prop) -> Prop
structure PGenT (X : Cx) (k : Nat) (e : Expr) (tg : TGenT) : Prop where
  run : ∀ (pins : List (Addr × Obj)) (s : Shared) (σ : St) (H : Hp) (R : Fut -> Hp -> Prop), Inv X pins σ H s -> tg σ H R ->
    wpAny (model X.prog X.w) X.A (eval e X.env) (fun u s' => ∃ fu H1 sc, Inv X pins σ H1 sc /\ GMadeT X.prog X.w X.K X.mg X.base k X.stack H1 sc fu u s' /\ R fu H1) X.xe s
def gpFor (D : Ends) (g : TG) (tb : TS) : (n : Nat) -> St -> GP n
  | 0, σ => fun H => D.nx σ H
  | n + 1, σ => (fun x H fut => ∀ Hc, PlusF H Hc -> g x σ Hc fun σ2 H2 => tb { nx := fun σ' H' => KeptF H Hc H' /\ fut (gpFor D g tb n σ') (minusF H Hc H'), ct := fun σ' H' => KeptF H Hc H' /\ fut (gpFor D g tb n σ') (minusF H Hc H'), bk := fun σ' H' => D.nx σ' H', rt := D.rt } σ2 H2, fun H => D.nx σ H)
theorem gpFor_en {D : Ends} {g : TG} {tb : TS} {n : Nat} {σ : St} {H : Hp} : GP.en (gpFor D g tb n σ) H = D.nx σ H := by cases n <;> rfl
def tForT (tg : TGenT) (g : TG) (tb : TS) : TS := fun D σ H => tg σ H fun fu H1 => ∃ n, fu n (gpFor D g tb n σ) H1
theorem lot_gen {P : Program} {w : World} {A : Around} {E : Value -> Shared -> Prop} {s : Shared} {a : Addr} {g : Nat} {tg : Expr} {v : Value} {Q : Unit -> Shared -> Prop} (hg : s.heap.IsGen a g) (h : Q () s) : wpAny (model P w) A (letOwnedTupleGo tg (.ref a) v) Q E s := by
  obtain ⟨o, nm, qn, ho, hc, hd, _⟩ := hg
  unfold letOwnedTupleGo
  split <;> first
    | exact wpAny_pure h
    | (cases v <;> first
        | exact wpAny_pure h
        | (refine wpAny_bind (wpAny_load ho ?_)
           rw [hc, hd]
           dsimp only
           rw [if_neg (by
             intro z
             rw [show (["enumerate", "zip", "dict_itemiterator", "dict_reverseitemiterator", "odict_iterator", "itertools.zip_longest", "itertools.pairwise"].contains "generator") = false from by decide, Bool.false_and] at z
             cases z)]
           exact wpAny_pure h))
theorem ps_forT {X : Cx} {k : Nat} {tg iter : Expr} {body : List Stmt} {wi : TGenT} {g : TG} {tb : TS} {pos : PySem.Pos} (hr : Room (k + 1) X.A) (hi : PGenT X k iter wi) (hg : PG (calmX X) tg g) (hb : PSs (calmX X) body tb)
    (hs : ∀ x, foldedSetIterable iter X.env x = pure x := by intro _; rfl) : PS X (.For tg iter body [] pos) (tForT wi g tb) := by
  refine ⟨fun pins s σ H D I h => ?_⟩
  refine wpAny_For (thn (hi.run pins s σ H _ I h) fun v s1 hv => ?_) hs
  obtain ⟨fu, H1, sc, I1, hG, n, hfu⟩ := hv
  obtain ⟨⟨prog, w, K, mg, base, N, qual, scope, f, cd, A0, outer, n0, a, go, gi⟩, c, rfl, e1, e2, e3, e4, e5, e6, e7, hok, hgen, hgs, hos, hba, hlim, hkp, wake⟩ := hG
  dsimp only at e1 e2 e3 e4 e5 e6 e7 hok hgen hgs wake
  subst e1 e2 e3 e4 e5 e6 e7
  have old : OldC X pins sc.heap.objs.size := ⟨I1.lt, fun x c e => by
    obtain ⟨v, o, ho, _⟩ := I1.cell x c e
    exact Heap.lt_size ho, fun p hp => Heap.lt_size (I1.pin p hp).1, I1.sz⟩
  have Is : Inv X pins σ H1 s1 := I1.call' (ch := []) hos (Un.kept hkp) (I1.hok.kept hkp) hba fun b z => by simp at z
  refine wpAny_pyIter_gen hgen ?_
  let Y : Gx := ⟨X.prog, X.w, X.K, X.mg, X.base, N, qual, scope, f, cd, X.A.in1, X.stack, sc.heap.objs.size, a, go, gi⟩
  have hY : Y.Ok := hok X.A.in1
  have env1 : ∀ {H' : Hp} {s' : Shared}, Env0 X.prog X.w X.K X.mg X.base X.A X.stack s' H' -> Env0 X.prog X.w X.K X.mg X.base X.A.in1 X.stack (s'.setGen gi .running) H' := fun {H' s'} e =>
    ⟨e.frames, e.mod, e.bs, e.bsz, e.funs, e.frf, e.hok, allBare_setGen e.bare rfl⟩
  have aY : H1 a = none := I1.hok.fresh hY.young
  have far : ∀ b ∈ (List.range (s1.heap.objs.size)).filter (fun b => decide (sc.heap.objs.size <= b)), sc.heap.objs.size <= b := fun b hb => by simpa using (List.mem_filter.mp hb).2
  have hch : ∀ (m : Nat), ∀ b ∈ (List.range m).filter (fun b => decide (sc.heap.objs.size <= b)), (b ∈ X.ex \/ X.s_0.heap.objs.size <= b) /\ b ≠ X.env.locals /\ (∀ x c, X.env.cells.lookup x = some c -> c ≠ b) /\ ∀ p ∈ X.pn ++ pins, p.1 ≠ b := fun m b hb => by
    have hb : sc.heap.objs.size <= b := by simpa using (List.mem_filter.mp hb).2
    exact ⟨.inr (Nat.le_trans old.s0 hb), fun z => by have := old.loc; rw [<- z] at this; exact absurd (Nat.lt_of_lt_of_le this hb) (Nat.lt_irrefl _), fun x c e z => by have := old.cells x c e; rw [z] at this; exact absurd (Nat.lt_of_lt_of_le this hb) (Nat.lt_irrefl _),
      fun p hp z => by have := old.pins p hp; rw [z] at this; exact absurd (Nat.lt_of_lt_of_le this hb) (Nat.lt_irrefl _)⟩
  refine codeAny_forLoop_any (fun m s' => ∃ σ' H' gs, Inv X pins σ' H' s' /\ s'.gens[gi]? = some gs /\ GoesS (model X.prog X.w) X.A.in1 (Phi Y m (gpFor D g tb m σ') H' (s'.setGen gi .running)) gs (s'.setGen gi .running) /\ s'.heap.IsGen a gi /\ H' a = none) ?_ n
    ⟨σ, H1, .fresh c, Is, hgs, wake X.A.in1 n (gpFor D g tb n σ) H1 (s1.setGen gi .running) hr.in1 ⟨env1 Is.env0, rfl, fun b o _ hn e => ⟨e, hn⟩⟩ hfu, hgen, aY⟩
  rintro m s3 ⟨σ3, H3, gs, I3, hgs3, hgo, hg3, ha3⟩
  have hgl : gi < s3.gens.size := (Array.getElem?_eq_some_iff.mp hgs3).1
  refine wpAny_gsz (n := gi + 1) hgl (next_genS (A := X.A) hr.hd I3.nolimit (by have := hr.dp; omega) hg3 hgs3 hgo (fun e s₁ he => phi_quiet he) (fun r s₁ he => ?_) fun v gd l kk cc p fs s₁ he => ?_)
  · obtain ⟨hr', H', mv, en⟩ := phi_ret.mp he
    rw [gpFor_en] at en
    refine ⟨hr', fun h' hk _ => ?_⟩
    refine wpAny_execs_nil ⟨σ3, H', ?_, en⟩
    exact I3.call' (ch := _) mv.os (mv.un.trans (Un.kept hk)) (mv.hok.kept hk) (allBare_setGen mv.bare rfl) (hch _)
  · intro hsz
    cases m with
    | zero => exact he.elim
    | succ m =>
      obtain ⟨hq, x, H', fut, rv, mv, yl, cont⟩ := he
      have hsz1 : gi < s₁.gens.size := by
        rw [show (s₁.setGen gi (End.genState (.susp v gd l kk cc p fs))).gens.size = s₁.gens.size from setGen_size _ _ _] at hsz
        omega
      generalize hgst : End.genState (.susp v gd l kk cc p fs) = gs' at hsz
      have hb' : gs'.bare = true := by rw [<- hgst]; exact End.bare_of_quiet hq
      have hsl : sleeps gs' = true := by rw [<- hgst]; rfl
      have I4 : Inv X pins σ3 H' (s₁.setGen gi gs') := I3.call' (ch := _) mv.os mv.un mv.hok (allBare_setGen mv.bare hb') (hch _)
      have hg4 : (s₁.setGen gi gs').gens[gi]? = some gs' := setGen_at hsz1
      generalize hs4 : s₁.setGen gi gs' = s4 at I4 hg4
      have hp4 : s4.heap = s₁.heap := by rw [<- hs4]; rfl
      have os4 : s4.os = s₁.os := by rw [<- hs4]; rfl
      have hg5 : s4.heap.IsGen a gi := by rw [hp4]; exact mv.gen
      have Ic : Inv X pins σ3 (plusF sc.heap.objs.size H' s4.heap) s4 := inv_plus old I4
      have Iv : Inv (calmX X) pins σ3 (plusF sc.heap.objs.size H' s4.heap) (doze s4) := inv_xe (inv_doze Ic)
      have yl : g x σ3 (plusF sc.heap.objs.size H' s4.heap) _ := yl _ plus_is
      refine lot_gen hg5 ?_
      refine wpAny_mono (nap_any (nap_doze s4) (hg.run pins (doze s4) σ3 _ x v _ Iv rv yl)) (fun _ s6 ⟨v6, n6, σ6, H6, I6, q6⟩ => ?_) fun e s' ⟨_, _, z⟩ => False.elim z
      refine wpAny_mono (nap_any n6 (hb.run pins v6 σ6 H6 _ I6 q6)) (fun fl s7 ⟨v7, n7, q7⟩ => ?_) fun e s' ⟨_, _, z⟩ => False.elim z
      have again : ∀ {σ7 : St} {H7 : Hp}, Inv (calmX X) pins σ7 H7 v7 -> (KeptF H' (plusF sc.heap.objs.size H' s4.heap) H7 /\ fut (gpFor D g tb m σ7) (minusF H' (plusF sc.heap.objs.size H' s4.heap) H7)) ->
          ∃ m', m' < m + 1 /\ ∃ σ' H'' gs, Inv X pins σ' H'' s7 /\ s7.gens[gi]? = some gs /\ GoesS (model X.prog X.w) X.A.in1 (Phi Y m' (gpFor D g tb m' σ') H'' (s7.setGen gi .running)) gs (s7.setGen gi .running) /\ s7.heap.IsGen a gi /\ H'' a = none := fun {σ7 H7} I7 ⟨kept, fu7⟩ => by
        have Ir : Inv X pins σ7 H7 s7 := inv_nap n7 (inv_xe (X := calmX X) (xe := X.xe) I7)
        have Im := inv_minus plus_is I4.base kept Ir
        have pinned : ∀ b o, sc.heap.objs.size <= b -> H' b = none -> s₁.heap.get? b = some o -> s7.heap.get? b = some o /\ minusF H' (plusF sc.heap.objs.size H' s4.heap) H7 b = none := fun b o hb hn e => by
          have ec : plusF sc.heap.objs.size H' s4.heap b = some (.frz o anyHO) := by
            unfold plusF
            rw [hn]
            dsimp only
            rw [if_pos hb, hp4, e]
            rfl
          have q := Ir.hok b _ (kept b _ hn ec)
          exact ⟨q.1, minus_new hn ec⟩
        have gk : s7.heap.IsGen a gi /\ minusF H' (plusF sc.heap.objs.size H' s4.heap) H7 a = none := by
          obtain ⟨o, nm, qn, ho, r⟩ := mv.gen
          obtain ⟨q1, q2⟩ := pinned a o hY.young mv.gn ho
          exact ⟨⟨o, nm, qn, q1, r⟩, q2⟩
        have dz : dozers s4 gi = some gs' := by unfold dozers; rw [hg4]; exact if_pos hsl
        refine ⟨m, Nat.lt_succ_self m, σ7, _, gs', Im, (n7.at' gi gs' dz).1, ?_, gk.1, gk.2⟩
        rw [<- hgst]
        refine cont (s7.setGen gi .running) _ ⟨env1 Im.env0, ?_, fun b o hb hn e => pinned b o hb hn e⟩ _ fu7
        show s7.os = s₁.os
        rw [Ir.os, <- os4, I4.os]
      cases fl with
      | next => obtain ⟨σ7, H7, I7, q⟩ := q7; exact again I7 q
      | cont => obtain ⟨σ7, H7, I7, q⟩ := q7; exact again I7 q
      | brk => obtain ⟨σ7, H7, I7, q⟩ := q7; exact ⟨σ7, H7, inv_nap n7 (inv_xe (X := calmX X) (xe := X.xe) I7), q⟩
      | ret u => obtain ⟨x7, σ7, H7, I7, r7, q⟩ := q7; exact ⟨x7, σ7, H7, inv_nap n7 (inv_xe (X := calmX X) (xe := X.xe) I7), r7, q⟩
end L2
namespace Py
open PySem L2 PyProof.Rows GenW
section
variable {T : Tbl} {W : Wd T}
def Drive {T : Tbl} (W : Wd T) : List D -> (n : Nat) -> GP n -> Hp -> Hp -> List Addr -> Prop
  | [], _, G, F, H, Lg => ∀ F' H', Post F H Lg F' H' -> GP.en G H'
  | _ :: _, 0, _, _, _, _ => False
  | y :: ys, n + 1, G, F, H, Lg => ∀ F' H' Lg' x (fut : GP n -> Hp -> Prop), Post F H Lg F' H' -> Shr W F' y x -> (∀ a ∈ Lg', F' a = none /\ (a ∈ Lg \/ H a = none) /\ ∃ o, H' a = some o) ->
      (∀ (G' : GP n) F2 H2, Same F' F2 -> Same F2 H2 -> (∀ a ∈ Lg', H2 a = H' a /\ F2 a = none) -> Drive W ys n G' F2 H2 Lg' -> fut G' H2) -> GP.yl G x H' fut
inductive RZ where
  | nx (ys : List D) (env : Py.Env) | bk (ys : List D) (env : Py.Env) | ct (ys : List D) (env : Py.Env) | no
def RZ.ys : RZ -> List D
  | .nx ys _ => ys
  | .bk ys _ => ys
  | .ct ys _ => ys
  | .no => []
def RZ.pre (ds : List D) : RZ -> RZ
  | .nx ys e => .nx (ds ++ ys) e
  | .bk ys e => .bk (ds ++ ys) e
  | .ct ys e => .ct (ds ++ ys) e
  | .no => .no
def RZ.then (r : RZ) (f : Py.Env -> RZ) : RZ := match r with
  | .nx ys e => (f e).pre ys
  | r => r
theorem RZ.pre_no {r : RZ} {ds : List D} (h : r.pre ds ≠ .no) : r ≠ .no := fun e => h (by rw [e]; rfl)
theorem RZ.pre_ys {r : RZ} {ds : List D} (h : r ≠ .no) : (r.pre ds).ys = ds ++ r.ys := by cases r <;> first | rfl | exact absurd rfl h
def GAt {T : Tbl} (W : Wd T) (zs : List D) (env : Py.Env) (K : (n : Nat) -> GP n -> L2.St -> Hp -> Prop) : Prop :=
  ∀ (n : Nat) (G : GP n) (e : Ent) (F : Hp) (σ : L2.St) (H : Hp) (L : List Addr), e.pins = [] -> Rel W e env F σ H L -> Drive W zs n G e.F0 e.H0 e.L0 -> K n G σ H
structure SatZ {T : Tbl} (W : Wd T) (zs : List D) (r : RZ) (Dn : TEnds) : Prop where
  nx : ∀ ys env, r = .nx ys env -> GAt W zs env Dn.nx
  bk : ∀ ys env, r = .bk ys env -> GAt W zs env Dn.bk
  ct : ∀ ys env, r = .ct ys env -> GAt W zs env Dn.ct
def AZ {T : Tbl} (W : Wd T) (t : TGt) (env : Py.Env) (r : RZ) : Prop :=
  ∀ (zs : List D) (Dn : TEnds), SatZ W zs r Dn -> GAt W (r.ys ++ zs) env (t Dn)
structure XZ {T : Tbl} (W : Wd T) where
  t : TGt
  ev : Py.Env -> RZ
  snd : ∀ env, ev env ≠ .no -> AZ W t env (ev env)
def xzNil {T : Tbl} (W : Wd T) : XZ W := ⟨tT0, fun env => .nx [] env, fun env h zs Dn st => st.nx [] env rfl⟩
def xzSeq (s u : XZ W) : XZ W where
  t := tTThen s.t u.t
  ev env := (s.ev env).then u.ev
  snd := fun env hn zs Dn st => by
    have hs := s.snd env
    match h : s.ev env, hn, hs, st with
    | .nx ys1 e1, hn, hs, st =>
      have hn : (u.ev e1).pre ys1 ≠ .no := hn
      have h2 := RZ.pre_no hn
      have st : SatZ W zs ((u.ev e1).pre ys1) Dn := st
      show GAt W (((u.ev e1).pre ys1).ys ++ zs) env (tTThen s.t u.t Dn)
      rw [RZ.pre_ys h2, List.append_assoc]
      refine hs (by simp) _ _ ⟨fun ys2 e2 q => ?_, fun ys2 e2 q => (nomatch q), fun ys2 e2 q => (nomatch q)⟩
      cases q
      refine u.snd e1 h2 zs Dn ⟨fun ys3 e3 q => st.nx (ys1 ++ ys3) e3 (by rw [q]; rfl), fun ys3 e3 q => st.bk (ys1 ++ ys3) e3 (by rw [q]; rfl), fun ys3 e3 q => st.ct (ys1 ++ ys3) e3 (by rw [q]; rfl)⟩
    | .bk ys1 e1, hn, hs, st => exact hs (by simp) _ _ ⟨fun _ _ q => (nomatch q), fun ys2 e2 q => st.bk ys2 e2 q, fun _ _ q => (nomatch q)⟩
    | .ct ys1 e1, hn, hs, st => exact hs (by simp) _ _ ⟨fun _ _ q => (nomatch q), fun _ _ q => (nomatch q), fun ys2 e2 q => st.ct ys2 e2 q⟩
    | .no, hn, hs, st => exact absurd rfl hn
abbrev EZ : WX := fun c d _ H => E0 c d H
def RS.toZ : RS -> RZ
  | .nx e => .nx [] e
  | .bk e => .bk [] e
  | .ct e => .ct [] e
  | _ => .no
def xzPlain (b : XS W) : XZ W where
  t := tTPlain (b.t EZ)
  ev env := (b.ev [] env).toZ
  snd := fun env hn zs Dn st n G e F σ H L hp r hd => by
    have hb := b.snd [] EZ env
    have hP : [] = e.pins.map (·.1) := by rw [hp]; rfl
    match h : b.ev [] env, hn, hb, st, hd with
    | .nx e1, hn, hb, st, hd => exact hb (by simp) e F σ H L (Dn.at n G) hP r ⟨fun e2 F2 σ2 H2 L2 a r2 => by cases a; exact st.nx _ _ rfl n G e F2 σ2 H2 L2 hp r2 hd, fun _ _ _ _ _ _ _ _ a => (nomatch a), fun _ _ _ _ _ a => (nomatch a), fun _ _ _ _ _ a => (nomatch a), fun _ _ _ _ _ _ _ _ a => (nomatch a)⟩
    | .bk e1, hn, hb, st, hd => exact hb (by simp) e F σ H L (Dn.at n G) hP r ⟨fun _ _ _ _ _ a => (nomatch a), fun _ _ _ _ _ _ _ _ a => (nomatch a), fun e2 F2 σ2 H2 L2 a r2 => by cases a; exact st.bk _ _ rfl n G e F2 σ2 H2 L2 hp r2 hd, fun _ _ _ _ _ a => (nomatch a), fun _ _ _ _ _ _ _ _ a => (nomatch a)⟩
    | .ct e1, hn, hb, st, hd => exact hb (by simp) e F σ H L (Dn.at n G) hP r ⟨fun _ _ _ _ _ a => (nomatch a), fun _ _ _ _ _ _ _ _ a => (nomatch a), fun _ _ _ _ _ a => (nomatch a), fun e2 F2 σ2 H2 L2 a r2 => by cases a; exact st.ct _ _ rfl n G e F2 σ2 H2 L2 hp r2 hd, fun _ _ _ _ _ _ _ _ a => (nomatch a)⟩
    | .rt d1 e1, hn, hb, st, hd => exact absurd rfl hn
    | .ex x1 e1, hn, hb, st, hd => exact absurd rfl hn
    | .no, hn, hb, st, hd => exact absurd rfl hn
def yldZ (env : Py.Env) : Option D -> RZ
  | some d => .nx [d] env
  | none => .no
def xzYield (a : XP W) : XZ W where
  t := tTYield a.t
  ev env := yldZ env (a.evF env)
  snd := fun env hn zs Dn st n G e F σ H L hp r hd => by
    cases h : a.evF env with
    | none => rw [h] at hn; exact absurd rfl hn
    | some d =>
      rw [h] at hd st
      have hd : Drive W (d :: zs) n G e.F0 e.H0 e.L0 := hd
      have st : SatZ W zs (.nx [d] env) Dn := st
      cases n with
      | zero => exact hd.elim
      | succ n =>
        refine a.sF h e F σ H L _ r fun v F1 H1 x1 y1 => ?_
        have r1 := r.ext x1
        unfold Drive at hd
        refine hd F1 H1 L v _ ⟨r1.s0, r1.sF, r1.fr, r1.nw⟩ y1 (fun a m => ⟨r1.dj a m, r1.ln a m, r1.slots.lives a m⟩) fun G' F2 H2 s1 s2 hk hd2 => ?_
        exact st.nx _ _ rfl n G' ⟨F2, H2, L, []⟩ F2 σ H2 L rfl ⟨s2, r1.slots.frame s1 fun a m o q => by rw [(hk a m).1]; exact q, r1.nd, fun a m => (hk a m).2, Same.refl _, fun _ _ q => .inl q, fun _ _ _ q => q, fun _ m => .inl m, fun _ m => nomatch m⟩ hd2
def whileZ (c : Py.Env -> Option Bool) (f : Py.Env -> RZ) : Nat -> Py.Env -> RZ
  | 0, _ => .no
  | n + 1, env => match c env with
    | none => .no
    | some false => .nx [] env
    | some true => match f env with
      | .nx ys e => (whileZ c f n e).pre ys
      | .ct ys e => (whileZ c f n e).pre ys
      | .bk ys e => .nx ys e
      | .no => .no
theorem whileZ_nx {c : Py.Env -> Option Bool} {f : Py.Env -> RZ} : ∀ {n : Nat} {env : Py.Env}, whileZ c f n env ≠ .no -> ∃ ys e, whileZ c f n env = .nx ys e
  | 0, _, h => absurd rfl h
  | n + 1, env, h => by
    unfold whileZ at h ⊢
    cases hc : c env with
    | none => rw [hc] at h; exact absurd rfl h
    | some b =>
      rw [hc] at h
      cases b with
      | false => exact ⟨_, _, rfl⟩
      | true =>
        dsimp only at h ⊢
        match hf : f env, h with
        | .nx ys e, h =>
          obtain ⟨ys2, e2, q⟩ := whileZ_nx (RZ.pre_no h)
          dsimp only
          exact ⟨_, _, by rw [q]; rfl⟩
        | .ct ys e, h =>
          obtain ⟨ys2, e2, q⟩ := whileZ_nx (RZ.pre_no h)
          dsimp only
          exact ⟨_, _, by rw [q]; rfl⟩
        | .bk ys e, h => exact ⟨_, _, rfl⟩
        | .no, h => exact absurd rfl h
def xzWhile (c : XT W) (b : XZ W) : XZ W where
  t := tTWhile c.t b.t
  ev env := whileZ c.ev b.ev fuel env
  snd := fun env hn zs Dn st n G e F σ H L hp r hd => by
    obtain ⟨ysT, eT, hT⟩ := whileZ_nx hn
    have fin : GAt W zs eT Dn.nx := st.nx _ _ hT
    have hd : Drive W ((whileZ c.ev b.ev fuel env).ys ++ zs) n G e.F0 e.H0 e.L0 := hd
    rw [hT] at hd
    refine ⟨fun m n G σ H => ∃ ys env' e F L, whileZ c.ev b.ev m env' = .nx ys eT /\ e.pins = [] /\ Rel W e env' F σ H L /\ Drive W (ys ++ zs) n G e.F0 e.H0 e.L0, ⟨fuel, ysT, env, e, F, L, hT, hp, r, hd⟩, ?_⟩
    clear hT hd r hp hn st
    rintro m n G σ H ⟨ys, env', e, F, L, hw, hp, rl, hd⟩
    cases m with
    | zero => cases hw
    | succ m =>
      unfold whileZ at hw
      cases hc : c.ev env' with
      | none => rw [hc] at hw; cases hw
      | some bb =>
        rw [hc] at hw
        refine c.snd hc e F σ H L _ rl fun F' H' x => ?_
        have rl' := rl.ext x
        cases bb with
        | false =>
          cases hw
          exact fin n G e F' σ H' L hp rl' hd
        | true =>
          rw [if_pos rfl]
          dsimp only at hw
          refine ⟨fun n G σ H => ∃ ys env' e F L, whileZ c.ev b.ev m env' = .nx ys eT /\ e.pins = [] /\ Rel W e env' F σ H L /\ Drive W (ys ++ zs) n G e.F0 e.H0 e.L0, fun n' G' σ' H' h => ⟨m, by omega, h⟩, ?_⟩
          have hb := b.snd env'
          have pre : ∀ {ys1 : List D} {e1 : Py.Env}, (whileZ c.ev b.ev m e1).pre ys1 = .nx ys eT -> ∃ ys2, whileZ c.ev b.ev m e1 = .nx ys2 eT /\ ys = ys1 ++ ys2 := fun {ys1 e1} q => by
            obtain ⟨ys2, e2, q2⟩ := whileZ_nx (RZ.pre_no (r := whileZ c.ev b.ev m e1) (ds := ys1) (by rw [q]; simp))
            rw [q2] at q
            cases q
            exact ⟨ys2, q2, rfl⟩
          match h2 : b.ev env', hb, hw with
          | .nx ys1 e1, hb, hw =>
            obtain ⟨ys2, q2, rfl⟩ := pre hw
            refine hb (by simp) (ys2 ++ zs) _ ⟨fun ys3 e3 q => ?_, fun _ _ q => (nomatch q), fun _ _ q => (nomatch q)⟩ n G e F' σ H' L hp rl' (by rw [List.append_assoc] at hd; exact hd)
            cases q
            exact fun n G e F σ H L hp r hd => ⟨ys2, e1, e, F, L, q2, hp, r, hd⟩
          | .ct ys1 e1, hb, hw =>
            obtain ⟨ys2, q2, rfl⟩ := pre hw
            refine hb (by simp) (ys2 ++ zs) _ ⟨fun _ _ q => (nomatch q), fun _ _ q => (nomatch q), fun ys3 e3 q => ?_⟩ n G e F' σ H' L hp rl' (by rw [List.append_assoc] at hd; exact hd)
            cases q
            exact fun n G e F σ H L hp r hd => ⟨ys2, e1, e, F, L, q2, hp, r, hd⟩
          | .bk ys1 e1, hb, hw =>
            cases hw
            refine hb (by simp) zs _ ⟨fun _ _ q => (nomatch q), fun ys3 e3 q => ?_, fun _ _ q => (nomatch q)⟩ n G e F' σ H' L hp rl' hd
            cases q
            exact fin
          | .no, hb, hw => cases hw
def runZ (N : Nat) (b : XZ W) (args : List D) : Option (List D) := match b.ev (env0 N args) with
  | .nx ys _ => some ys
  | _ => none
def futZ {T : Tbl} (W : Wd T) (n : Nat) (φ : List D -> Option (List D)) : List V -> Fut := fun vs m G H => ∃ F args ys, Same F H /\ Shrs W F args vs /\ args.length = n /\ φ args = some ys /\ Drive W ys m G F H []
theorem genZ_run {n m : Nat} {N : List Str} {s : XZ W} {vs : List V} {H : Hp} {G : GP m} (h : futZ W n (runZ N.length s) vs m G H) :
    s.t { nx := fun _ G _ H' => GP.en G H', rt := fun _ G v H' => v = .non /\ GP.en G H' } m G (L2.start N vs) H := by
  obtain ⟨F, args, ys, sF, sh, hl, hr, hd⟩ := h
  have hlen : vs.length = args.length := sh.length.symm
  have hrel : Rel W ⟨F, H, [], []⟩ (env0 N.length args) F (L2.start N vs) H [] := {
    sF := sF
    slots := by unfold L2.start env0; rw [hlen]; exact slots_startO _ sh.owns
    nd := .nil
    dj := fun _ h => nomatch h
    s0 := Same.refl _
    nw := fun _ _ h => .inl h
    fr := fun _ _ _ h => h
    ln := fun _ h => nomatch h
    pin := fun _ h => nomatch h }
  unfold runZ at hr
  split at hr
  · rename_i ys1 e1 he
    cases hr
    refine s.snd _ (by rw [he]; simp) [] _ ⟨fun ys2 e2 q => ?_, fun ys2 e2 q => ?_, fun ys2 e2 q => ?_⟩ m G ⟨F, H, [], []⟩ F _ H [] rfl hrel (by rw [he, List.append_nil]; exact hd)
    · intro n G e F σ H L hp r hd
      unfold Drive at hd
      exact hd F H ⟨r.s0, r.sF, r.fr, r.nw⟩
    · rw [he] at q; cases q
    · rw [he] at q; cases q
  · cases hr
end
end Py
namespace Py
open PySem L2 PyProof.Rows GenW
section
variable {T : Tbl} {W : Wd T} {env : Py.Env} {E : WX}
structure XGn {T : Tbl} (W : Wd T) where
  t : TGenT
  ev : Py.Env -> Option (List D)
  snd : ∀ {env ys}, ev env = some ys -> ∀ (e : Ent) (F : Hp) (σ : L2.St) (H : Hp) (L : List Addr) (R : Fut -> Hp -> Prop), Rel W e env F σ H L ->
    (∀ F' H' fu, Ext F H F' H' -> (∀ m G, Drive W ys m G F' H' [] -> fu m G H') -> R fu H') -> t σ H R
theorem Rel.post {e : Ent} {F H F' H' : Hp} {σ : L2.St} {L Lg : List Addr} (r : Rel W e env F σ H L) (p : Post F H Lg F' H') (k : ∀ a ∈ Lg, (a ∈ e.L0 \/ e.H0 a = none) /\ a ∉ L) : Rel W e env F' σ H' L where
  sF := p.s
  slots := r.slots.frame p.f fun a m o q => p.h a o (fun z => (k a z).2 m) q
  nd := r.nd
  dj := fun a m => by
    obtain ⟨o, ho⟩ := r.slots.lives a m
    cases q : F' a with
    | none => rfl
    | some u =>
      rcases p.n a u q with z | z | z
      · rw [r.dj a m] at z; cases z
      · rw [ho] at z; cases z
      · exact absurd m (k a z).2
  s0 := r.s0.trans p.f
  nw := fun a o q => by
    rcases p.n a o q with z | z | z
    · exact r.nw a o z
    · exact (r.h0 z).elim (fun q => .inr (.inr q)) fun q => .inr (.inl q)
    · exact (k a z).1.elim (fun q => .inr (.inr q)) fun q => .inr (.inl q)
  fr := fun a o m q => p.h a o (fun z => (k a z).1.elim m fun z => by rw [q] at z; cases z) (r.fr a o m q)
  ln := r.ln
  pin := r.pin
def turnN (e : Ent) (F Hc : Hp) (L : List Addr) : Ent := ⟨F, Hc, L, e.pins⟩
section
variable {e : Ent} {F H Hc F3 H7 : Hp} {σ σ3 : L2.St} {L L3 : List Addr} {env3 : Py.Env}
theorem Rel.turn (r : Rel W e env F σ H L) (p : PlusF H Hc) : Rel W (turnN e F Hc L) env F σ Hc L :=
  ⟨fun a o q => p.old a o (r.sF a o q), r.slots.frame (Same.refl _) fun a m o q => p.old a o q, r.nd, r.dj, Same.refl _, fun _ _ q => .inl q, fun _ _ _ q => q, fun _ m => .inl m, r.pin⟩
theorem plus_none (p : PlusF H Hc) {a : Addr} (h : Hc a = none) : H a = none := by
  cases q : H a with
  | none => rfl
  | some o => rw [p.old a o q] at h; cases h
theorem Rel.turnK (r : Rel W e env F σ H L) (p : PlusF H Hc) (r3 : Rel W (turnN e F Hc L) env3 F3 σ3 H7 L3) : KeptF H Hc H7 := fun b o h1 h2 =>
  r3.fr b o (fun m => by obtain ⟨o', q⟩ := r.slots.lives b m; rw [q] at h1; cases h1) h2
theorem Rel.backT (r : Rel W e env F σ H L) (p : PlusF H Hc) (r3 : Rel W (turnN e F Hc L) env3 F3 σ3 H7 L3) : Rel W e env3 F3 σ3 H7 L3 where
  sF := r3.sF
  slots := r3.slots
  nd := r3.nd
  dj := r3.dj
  s0 := r.s0.trans r3.s0
  nw := fun a o q => by
    rcases r3.nw a o q with z | z | z
    · exact r.nw a o z
    · exact (r.h0 (plus_none p z)).elim (fun q => .inr (.inr q)) fun q => .inr (.inl q)
    · exact (r.ln a z).elim (fun q => .inr (.inr q)) fun q => .inr (.inl q)
  fr := fun a o m q => r3.fr a o (fun z => (r.ln a z).elim m fun y => by rw [q] at y; cases y) (p.old a o (r.fr a o m q))
  ln := fun a m => (r3.ln a m).elim (r.ln a) fun z => r.h0 (plus_none p z)
  pin := r3.pin
theorem Rel.backM (r : Rel W e env F σ H L) (p : PlusF H Hc) (r3 : Rel W (turnN e F Hc L) env3 F3 σ3 H7 L3) : Rel W e env3 F3 σ3 (minusF H Hc H7) L3 := by
  have b := r.backT p r3
  have live : ∀ a ∈ L, H a ≠ none := fun a m => by obtain ⟨o, q⟩ := r.slots.lives a m; rw [q]; simp
  refine ⟨fun a o q => ?_, r3.slots.frame (Same.refl _) fun a m o q => ?_, r3.nd, r3.dj, b.s0, b.nw, fun a o m q => ?_, b.ln, r3.pin⟩
  · rw [minus_old]
    · exact r3.sF a o q
    · rcases r3.nw a o q with z | z | z
      · exact .inl (by rw [r.sF a o z]; simp)
      · exact .inr z
      · exact .inl (live a z)
  · have z : a ∈ L \/ Hc a = none := r3.ln a m
    rw [minus_old (z.elim (fun z => .inl (live a z)) .inr)]
    exact q
  · rw [minus_old (.inl (by rw [r.fr a o m q]; simp))]
    exact b.fr a o m q
end
def noX : RS -> RS
  | .ex _ _ => .no
  | r => r
theorem noX_ok {r : RS} (h : noX r ≠ .no) : noX r = r /\ r ≠ .no := by
  cases r <;> first | exact absurd rfl h | exact ⟨rfl, fun z => by cases z⟩
theorem drive_for {E : WX} {e : Ent} {Dn : Ends} {P : List Nat} {r0 : RS} (g : XG W) (b : XS W) (hP : P = e.pins.map (·.1)) (hn : r0 ≠ .no) (s : Sat W e E (ends r0) Dn) :
    ∀ (ds : List D) (env : Py.Env) (F : Hp) (σ : L2.St) (H : Hp) (L Lg : List Addr), forL (fun d e => match g.ev P d e with | some e2 => noX (b.ev P e2) | none => .no) ds env = r0 ->
      Rel W e env F σ H L -> (∀ a ∈ Lg, (a ∈ e.L0 \/ e.H0 a = none) /\ a ∉ L) -> Drive W ds ds.length (gpFor Dn g.t (b.t EZ) ds.length σ) F H Lg
  | [], env, F, σ, H, L, Lg, hr, r, k => by
    intro F' H' p
    rw [gpFor_en]
    exact s.nx env F' σ H' L hr.symm (r.post p k)
  | d :: ds, env, F, σ, H, L, Lg, hr, r, k => by
    unfold forL at hr
    cases h1 : g.ev P d env with
    | none => rw [h1] at hr; exact absurd hr.symm hn
    | some e2 =>
      rw [h1] at hr
      dsimp only at hr
      have hb0 : noX (b.ev P e2) ≠ .no := fun z => by rw [z] at hr; exact hn hr.symm
      obtain ⟨hx, hb1⟩ := noX_ok hb0
      rw [hx] at hr
      have ih := drive_for g b hP hn s ds
      refine fun F' H' Lg' x fut p sh hLg kf Hc pl => ?_
      have r1 := r.post p k
      have rt := r1.turn pl
      have apart : ∀ a ∈ Lg', a ∉ L := fun a m ml => by
        rcases (hLg a m).2.1 with z | z
        · exact (k a z).2 ml
        · obtain ⟨o, q⟩ := r.slots.lives a ml; rw [q] at z; cases z
      have near : ∀ a ∈ Lg', a ∈ e.L0 \/ e.H0 a = none := fun a m => (hLg a m).2.1.elim (fun z => (k a z).1) r.h0
      refine g.snd h1 (turnN e F' Hc L) F' σ Hc L x _ hP rt sh fun env3 σ2 L5 z r2 => ?_
      subst z
      have next : ∀ (env3 : Py.Env) (F3 : Hp) (σ3 : L2.St) (H7 : Hp) (L3 : List Addr), forL (fun d e => match g.ev P d e with | some e2 => noX (b.ev P e2) | none => .no) ds env3 = r0 -> Rel W (turnN e F' Hc L) env3 F3 σ3 H7 L3 ->
          KeptF H' Hc H7 /\ fut (gpFor Dn g.t (b.t EZ) ds.length σ3) (minusF H' Hc H7) := fun env3 F3 σ3 H7 L3 hr3 r3 => by
        have rm := r1.backM pl r3
        have keep : ∀ a ∈ Lg', ∃ o, H' a = some o /\ Hc a = some o /\ H7 a = some o := fun a m => by
          obtain ⟨o, q⟩ := (hLg a m).2.2
          exact ⟨o, q, pl.old a o q, r3.fr a o (apart a m) (pl.old a o q)⟩
        refine ⟨r1.turnK pl r3, kf _ F3 _ r3.s0 rm.sF (fun a m => ?_) (ih env3 F3 σ3 _ L3 Lg' hr3 rm fun a m => ⟨near a m, fun ml => ?_⟩)⟩
        · obtain ⟨o, q1, q2, q3⟩ := keep a m
          refine ⟨by rw [minus_old (.inl (by rw [q1]; simp)), q3, q1], ?_⟩
          cases q : F3 a with
          | none => rfl
          | some u =>
            rcases r3.nw a u q with z | z | z
            · have z : F' a = some u := z
              rw [(hLg a m).1] at z; cases z
            · have z : Hc a = none := z
              rw [q2] at z; cases z
            · exact absurd z (apart a m)
        · obtain ⟨o, q1, q2, q3⟩ := keep a m
          rcases r3.ln a ml with z | z
          · exact apart a m z
          · have z : Hc a = none := z
            rw [q2] at z; cases z
      refine b.snd P EZ env3 hb1 (turnN e F' Hc L) F' σ2 Hc L5 _ hP r2 ⟨fun env4 F3 σ3 H7 L3 a r3 => ?_, fun d4 env4 F3 σ3 H7 L3 v M a r3 o nd km => ?_, fun env4 F3 σ3 H7 L3 a r3 => ?_, fun env4 F3 σ3 H7 L3 a r3 => ?_, fun x4 env4 F3 σ3 H7 L3 C dd a r3 ie => ?_⟩
      · have a : b.ev P env3 = .nx env4 := a
        rw [a] at hr
        exact next env4 F3 σ3 H7 L3 hr r3
      · have a : b.ev P env3 = .rt d4 env4 := a
        rw [a] at hr
        refine s.rt d4 env4 F3 σ3 H7 L3 v M hr.symm (r1.backT pl r3) o nd fun c m => ⟨(km c m).1, ?_⟩
        exact (km c m).2.elim (r1.ln c) fun z => r1.h0 (plus_none pl z)
      · have a : b.ev P env3 = .bk env4 := a
        rw [a] at hr
        exact s.nx env4 F3 σ3 H7 L3 hr.symm (r1.backT pl r3)
      · have a : b.ev P env3 = .ct env4 := a
        rw [a] at hr
        exact next env4 F3 σ3 H7 L3 hr r3
      · have a : b.ev P env3 = .ex x4 env4 := a
        rw [a] at hb0
        exact absurd rfl hb0
def xsForG (it : XGn W) (g : XG W) (b : XS W) : XS W where
  t _ := tForT it.t g.t (b.t EZ)
  ev P env := match it.ev env with
    | some ds => forL (fun d e => match g.ev P d e with | some e2 => noX (b.ev P e2) | none => .no) ds env
    | none => .no
  snd := fun P E env hn e F σ H L Dn hP r s => by
    match h : it.ev env, hn, s with
    | some ds, hn, s =>
      refine it.snd h e F σ H L _ r fun F1 H1 fu x1 k => ⟨ds.length, k _ _ (drive_for g b hP hn s ds env F1 σ H1 L [] rfl (r.ext x1) fun _ m => nomatch m)⟩
    | none, hn, s => exact absurd rfl hn
def gZ (r : List D -> Option Nat -> Rz) : List D -> Option (List D) := fun args => match r args none with
  | .ok (.tup ys) none => some ys
  | _ => none
def runZR {T : Tbl} {W : Wd T} (N : Nat) (s : XZ W) (args : List D) (b : Option Nat) : Rz := match runZ N s args with
  | some ys => .ok (.tup ys) none
  | none => .no
theorem gZ_run {N : Nat} {s : XZ W} : gZ (runZR N s) = runZ N s := by
  funext args
  unfold gZ runZR
  cases runZ N s args <;> rfl
abbrev tGCall (fu : List V -> Fut) (n : Nat) (t : TA) : TGenT := fun σ H R => t σ H fun vs H1 => vs.length = n /\ R (fu vs) H1
def xgCall (φ : List D -> Option (List D)) (n : Nat) (as : XA W) : XGn W where
  t := tGCall (futZ W n φ) n as.t
  ev env := (as.evF env).bind fun ds => if ds.length = n then φ ds else none
  snd := fun {env ys} h e F σ H L R r k => by
    obtain ⟨ds, e1, e2⟩ := Option.bind_eq_some_iff.mp h
    obtain ⟨hl, e3⟩ := if_some' e2
    refine as.sF e1 e F σ H L _ r fun vs F1 H1 x1 y1 => ⟨y1.length.symm.trans hl, k F1 H1 _ x1 fun m G hd => ⟨F1, ds, ys, x1.s, y1, hl, e3, hd⟩⟩
abbrev tGCallN (fu : List V -> Fut) (n m : Nat) (t tk : TA) : TGenT := fun σ H R => t σ H fun vs H1 => tk σ H1 fun zs H2 => vs.length = n /\ zs.length = m /\ R (fu (vs ++ zs)) H2
def xgCallN (φ : List D -> Option (List D)) (n m : Nat) (as ks : XA W) : XGn W where
  t := tGCallN (futZ W (n + m) φ) n m as.t ks.t
  ev env := (as.evF env).bind fun ds => (ks.evF env).bind fun zs => if ds.length = n /\ zs.length = m then φ (ds ++ zs) else none
  snd := fun {env ys} h e F σ H L R r k => by
    obtain ⟨ds, e1, h⟩ := Option.bind_eq_some_iff.mp h
    obtain ⟨zs, e2, h⟩ := Option.bind_eq_some_iff.mp h
    obtain ⟨⟨hl, hm⟩, e3⟩ := if_some' h
    refine as.sF e1 e F σ H L _ r fun vs F1 H1 x1 y1 => ks.sF e2 e F1 σ H1 L _ (r.ext x1) fun us F2 H2 x2 y2 => ⟨y1.length.symm.trans hl, y2.length.symm.trans hm, k F2 H2 _ (x1.trans x2) fun m G hd => ⟨F2, ds ++ zs, ys, x2.s, (y1.mono x2.f).append y2, by rw [List.length_append, hl, hm], e3, hd⟩⟩
end
structure GfD (P : Program) (w : World) (K : PySem.W.Frag) (mg : Str -> Option Value) (base : Heap) (k : Nat) (x qual : Str) (st : Stmt) (ps : List Str) (fu : List V -> Fut) : Prop where
  ex : ∃ f fd, GFnT P w K mg base k f fd ps fu /\ mg x = some (.ref f) /\ PySem.W.keepIn K (.ref f) = true /\ FunD K x qual (defArgs st) (defBody st) (defScope st) [] [] f fd
section
variable {P : Program} {w : World} {K : PySem.W.Frag} {mg : Str -> Option Value} {base : Heap}
theorem gfD_of {x qual : Str} {st : Stmt} {N ps : List Str} {k : Nat} {fu : List V -> Fut} (D : DefAt K mg x qual st [] []) (S : GScope N ps (defScope st))
    (hbody : ∀ (f : Addr) (cdv : Value) (A : Around) (outer : List PySem.Env) (n0 : Nat) (a : Addr) (go : Obj) (g : Nat), (Gx.mk P w K mg base N qual (defScope st) f cdv A outer n0 a go g).Ok -> Room k (A.deeper (PyProof.Rows.envOfC qual (defScope st) n0 f cdv)) ->
      ∃ t, GTs (Gx.mk P w K mg base N qual (defScope st) f cdv A outer n0 a go g) (defBody st) t /\ ∀ (vs : List V) (n : Nat) (G : GP n) (H : Hp), fu vs n G H -> t { nx := fun _ G _ H' => GP.en G H', rt := fun _ G v H' => v = .non /\ GP.en G H' } n G (L2.start N vs) H) : GfD P w K mg base (k + 1) x qual st ps fu := by
  obtain ⟨f, fd, F, hm⟩ := D.ex
  refine ⟨f, fd, ?_, hm, F.kp, F⟩
  obtain ⟨oc, od, dV, kV, doc, pm, an, cdv, ct, osl, rfl, lk, hcd, _, _⟩ := F.ex
  refine gfnT_of lk hcd S fun X hX e1 e2 e3 e4 e5 e6 e7 e8 e9 e10 hr => ?_
  obtain ⟨P', w', K', mg', base', N', qual', scope', f', cd', A, outer, n0, a, go, g⟩ := X
  dsimp only at e1 e2 e3 e4 e5 e6 e7 e8 e9 e10
  subst e1 e2 e3 e4 e5 e6 e7 e8 e9 e10
  obtain ⟨t, q1, q2⟩ := hbody _ _ A outer n0 a go g hX hr
  exact ⟨t, q1, fun vs n G H _ h => q2 vs n G H h⟩
theorem gfD_no {x qual : Str} {st : Stmt} {N ps : List Str} {k : Nat} {fu : List V -> Fut} (D : DefAt K mg x qual st [] []) (S : GScope N ps (defScope st)) (h : ∀ vs n G H, ¬ fu vs n G H) : GfD P w K mg base (k + 1) x qual st ps fu :=
  gfD_of D S fun f cdv A outer n0 a go g hX hr => ⟨fun _ _ _ _ _ => False, ⟨fun ip c fs K J gd lv D n G Hs ss s σ H _ _ _ _ _ z => z.elim⟩, fun vs n G H z => absurd z (h vs n G H)⟩
end
section
variable {X : Cx} {k n : Nat} {x qual : Str} {st : Stmt} {ps ks : List Str} {fu : List V -> Fut} {p pos' : Pos}
theorem run_gfT {pins : List (Addr × Obj)} {σ : L2.St} {H : Hp} {s : Shared} {f : Addr} {fd : FuncData} {args : Args} {us : List Value} {vs : List V} {R : Fut -> Hp -> Prop} {E1 : Value -> Shared -> Prop} {pu : List Value} {kw : List (Str × Value)} (F : GFnT X.prog X.w X.K X.mg X.base k f fd ps fu) (hr : Room k X.A)
    (ha : args = ⟨pu, kw⟩) (hl : vs.length = ps.length) (hb : BindsTo s fd args (ps.zip us)) (I : Inv X pins σ H s) (r : Vals vs us) (h : R (fu vs) H) :
    wpAny (model X.prog X.w) X.A (call (.ref f) pu kw) (fun u s' => ∃ fu H1 sc, Inv X pins σ H1 sc /\ GMadeT X.prog X.w X.K X.mg X.base k X.stack H1 sc fu u s' /\ R fu H1) E1 s := by
  subst ha
  refine wpAny_call (codeAny_mono (F.run X.A X.stack s H ⟨pu, kw⟩ us vs hl hr I.env0 hb r) fun r s' hq => ?_)
  cases r with
  | error e => exact False.elim hq
  | ok fl =>
    cases fl with
    | ret u => exact ⟨fu vs, H, s, I, hq, h⟩
    | next => exact False.elim hq
    | brk => exact False.elim hq
    | cont => exact False.elim hq
theorem pgent_callN {e : Expr} {es : List Expr} {kws : List Keyword} {t tkw : TA} {bs : List Bool} (D : GfD X.prog X.w X.K X.mg X.base k x qual st ps fu) (hb : KShape X.K x qual st [] ps n ks bs []) (hps : ps.length = n + ks.length) (hbs : ∀ zs : List V, zs.length = ks.length -> mgM bs [] zs = zs) (hr : Room k X.A) (hg : Gl X x)
    (ha : PA X (e :: es) t) (hkw : PK X kws tkw) (hall : (backToKw pos' (keywordEach kws X.env)).all (·.1.isSome) = true := by rfl) (hks : (backToKw pos' (keywordEach kws X.env)).filterMap (·.1) = ks := by rfl)
    (hdb : (x == ("__debug__" : Str)) = false := by decide) (he : starEach (e :: es) X.env = (false, eval e X.env) :: starEach es X.env := by rfl)
    (hpl : ((backTo pos' (starEach (e :: es) X.env)).any (·.1) || (backToKw pos' (keywordEach kws X.env)).any (·.1.isNone)) = false := by rfl) :
    PGenT X k (.Call (.Name x p) (e :: es) kws pos') (tGCallN fu n ks.length t tkw) := by
  obtain ⟨f, fd, F, hm, hk, FD⟩ := D.ex
  obtain ⟨g, hb⟩ := hb f fd FD
  refine ⟨fun pins s σ H R I h => wpAny_Call_Name_kw (ld_glob I hg hm ?_ hdb)⟩
  refine PySem.W.callWith_KW (h₀ := X.base) I.ok.mod.kin hk hall (thn (ha.run pos' pins s σ H _ I h) fun us s1 ⟨vs, H1, I1, r, q⟩ => thn (hkw.run pos' pins s1 σ H1 _ I1 q) fun ws s2 ⟨zs, H2, I2, rz, l1, l2, q2⟩ => ⟨I2.kIn, ?_⟩) hpl he
  rw [hks]
  have hr2 := hb.rel r rz
  rw [hbs zs l2] at hr2
  exact run_gfT F hr rfl (by rw [List.length_append, l1, l2, hps]) (hb.to s2 us ws I2.kIn (r.length.symm.trans l1) (rz.length.symm.trans l2)) I2 hr2 q2
end
end Py
namespace Py
open PySem L2 PyProof.Rows GenW
section
variable {T : Tbl} {W : Wd T} {env : Py.Env} {P : List Nat}
def xsNoX (b : XS W) : XS W where
  t _ := b.t EZ
  ev P env := noX (b.ev P env)
  snd := fun P E env hn => by
    obtain ⟨h1, h2⟩ := noX_ok hn
    rw [h1]
    intro e F σ H L Dn hP r s
    refine b.snd P EZ env h2 e F σ H L Dn hP r ⟨s.nx, s.rt, s.bk, s.ct, fun x env F σ H L C d a => ?_⟩
    have a : b.ev P _ = .ex x env := a
    rw [a] at h1
    cases h1
theorem e_xsForG {it : XGn W} {g : XG W} {b : XS W} : (xsForG it g b).ev P env = forE (forK g (xsNoX b) P) (it.ev env) env := by
  show (match it.ev env with | some ds => _ | none => _) = _
  unfold forE forK turnE
  cases it.ev env <;> rfl
theorem e_xsNoX {b : XS W} : (xsNoX b).ev P env = noX (b.ev P env) := rfl
theorem h_noXn {e} : noX (.nx e) = .nx e := rfl
theorem h_noXr {d e} : noX (.rt d e) = .rt d e := rfl
theorem h_noXb {e} : noX (.bk e) = .bk e := rfl
theorem h_noXc {e} : noX (.ct e) = .ct e := rfl
theorem h_noXi {c : Prop} [Decidable c] {a b : RS} : noX (if c then a else b) = if c then noX a else noX b := by split <;> rfl
def gcE (φ : List D -> Option (List D)) (n : Nat) (o : Option (List D)) : Option (List D) := match o with
  | some ds => if ds.length = n then φ ds else none
  | none => none
theorem e_xgCall {φ : List D -> Option (List D)} {n : Nat} {as : XA W} : (xgCall φ n as).ev env = gcE φ n (as.evF env) := by
  show (as.evF env).bind _ = _
  cases as.evF env <;> rfl
def gcN (φ : List D -> Option (List D)) (n m : Nat) (o k : Option (List D)) : Option (List D) := match o, k with
  | some ds, some zs => if ds.length = n /\ zs.length = m then φ (ds ++ zs) else none
  | _, _ => none
theorem e_xgCallN {φ : List D -> Option (List D)} {n m : Nat} {as ks : XA W} : (xgCallN φ n m as ks).ev env = gcN φ n m (as.evF env) (ks.evF env) := by
  show (as.evF env).bind (fun ds => (ks.evF env).bind _) = _
  cases as.evF env <;> cases ks.evF env <;> rfl
theorem gcN_of {r : List D -> Option Nat -> Rz} {n m : Nat} {ds zs ys : List D} (hl : ds.length = n) (hm : zs.length = m) (h : r (ds ++ zs) none = .ok (.tup ys) none) : gcN (gZ r) n m (some ds) (some zs) = some ys := by
  unfold gcN gZ
  dsimp only
  rw [if_pos ⟨hl, hm⟩, h]
def thenZ (r : RZ) (f : Py.Env -> RZ) : RZ := r.then f
theorem e_xzNil : (xzNil W).ev env = .nx [] env := rfl
theorem e_xzSeq {s u : XZ W} : (xzSeq s u).ev env = thenZ (s.ev env) u.ev := rfl
theorem h_thenZ {e} {f : Py.Env -> RZ} : thenZ (.nx [] e) f = f e := by
  show (f e).pre [] = f e
  cases f e <;> rfl
theorem h_thenZc {y} {ys : List D} {e} {f : Py.Env -> RZ} : thenZ (.nx (y :: ys) e) f = (f e).pre (y :: ys) := rfl
theorem h_preN {ds ys : List D} {e} : (RZ.nx ys e).pre ds = .nx (ds ++ ys) e := rfl
theorem e_xzPlain {b : XS W} : (xzPlain b).ev env = (b.ev [] env).toZ := rfl
theorem h_toZn {e} : (RS.nx e).toZ = .nx [] e := rfl
theorem h_toZb {e} : (RS.bk e).toZ = .bk [] e := rfl
theorem h_toZc {e} : (RS.ct e).toZ = .ct [] e := rfl
theorem e_xzYield {a : XP W} : (xzYield a).ev env = yldZ env (a.evF env) := rfl
theorem h_yldZ {d} : yldZ env (some d) = .nx [d] env := rfl
theorem e_xzWhile {c : XT W} {b : XZ W} : (xzWhile c b).ev env = whileZ c.ev b.ev fuel env := rfl
theorem whileZ_stop {c : Py.Env -> Option Bool} {f : Py.Env -> RZ} {n : Nat} {e : Py.Env} (h : c e = some false) : whileZ c f (n + 1) e = .nx [] e := by
  unfold whileZ; rw [h]
theorem whileZ_turn {c : Py.Env -> Option Bool} {f : Py.Env -> RZ} {n : Nat} {e e2 : Py.Env} {ys : List D} (h : c e = some true) (hf : f e = .nx ys e2) : whileZ c f (n + 1) e = (whileZ c f n e2).pre ys := by
  rw [show whileZ c f (n + 1) e = (match c e with | none => RZ.no | some false => .nx [] e | some true => match f e with | .nx ys e => (whileZ c f n e).pre ys | .ct ys e => (whileZ c f n e).pre ys | .bk ys e => .nx ys e | .no => .no) from rfl, h]
  dsimp only
  rw [hf]
theorem runZR_of {N : Nat} {s : XZ W} {args ys : List D} {b : Option Nat} {e : Py.Env} (h : s.ev (env0 N args) = .nx ys e) : runZR N s args b = .ok (.tup ys) none := by
  unfold runZR runZ
  rw [h]
end
end Py
namespace L2
open PySem PySem.Spec PyProof.Rows
def Itrd (hi : Int) (n : Nat) : It := ⟨fun i _ => i < n, fun i H x H' => H' = H /\ x = .int (hi - i), fun i _ => n <= i⟩
section
variable {X : Cx} {tg : Expr}
def iRngD (ta : TA) : TI := fun σ H R => ta σ H fun vs H1 => ∃ i j : Int, vs = [.int i, .int j, .int (-1)] /\ (-(2 ^ 62) <= i /\ i < 2 ^ 62 /\ -(2 ^ 62) <= j /\ j < 2 ^ 62) /\ R (Itrd i (i - j).toNat) H1
end
end L2
namespace Py
open PySem L2
section
variable {T : Tbl} {W : Wd T} {env : Py.Env}
def downD (hi : Int) (n : Nat) : List D := (List.range n).map fun k : Nat => D.int (hi - (k : Nat))
theorem downD_get {hi : Int} {n i : Nat} {d : D} (h : (downD hi n)[i]? = some d) : i < n /\ d = .int (hi - (i : Nat)) := by
  unfold downD at h
  rw [List.getElem?_map] at h
  cases q : (List.range n)[i]? with
  | none => rw [q] at h; cases h
  | some k =>
    rw [q] at h
    obtain ⟨h1, h2⟩ := List.getElem?_eq_some_iff.mp q
    rw [List.getElem_range] at h2
    rw [List.length_range] at h1
    subst h2
    exact ⟨h1, (Option.some.inj h).symm⟩
theorem seq_rangeD {F0 : Hp} {hi : Int} {n : Nat} : Seq W (Itrd hi n) (downD hi n) F0 where
  go := fun i d F H s1 s2 hd => by
    obtain ⟨h1, rfl⟩ := downD_get hd
    refine ⟨h1, fun x H' y => ?_⟩
    obtain ⟨rfl, rfl⟩ := y
    exact ⟨F, .refl s2, .int⟩
  stop := fun F H s1 s2 => by
    show n <= (downD hi n).length
    simp [downD]
def rngDD : List D -> Option (List D)
  | [.int m, .int n, .int o] => guardB (rngOk m && rngOk n && o == -1) (some (downD m (m - n).toNat))
  | _ => none
theorem rngD_ok {as : XA W} {env : Py.Env} {ds : List D} (e : (as.evV env).bind rngDD = some ds) : AIt W (iRngD as.t) env ds := by
  obtain ⟨xs, e1, e⟩ := Option.bind_eq_some_iff.mp e
  unfold rngDD at e
  split at e
  · obtain ⟨h, e⟩ := guardB_some e
    cases e
    rw [Bool.and_eq_true, Bool.and_eq_true] at h
    have h1 := rngOk_ok h.1.1
    have h2 := rngOk_ok h.1.2
    have h3 := eq_of_beq h.2
    subst h3
    intro e F σ H L R r q
    refine as.sV e1 e F σ H L _ r fun vs F1 H1 x1 y1 => ?_
    cases y1 with
    | cons a b =>
      cases a
      cases b with
      | cons a b =>
        cases a
        cases b with
        | cons a b =>
          cases a; cases b
          exact ⟨_, _, rfl, ⟨h1.1, h1.2, h2.1, h2.2⟩, q _ F1 H1 x1 seq_rangeD⟩
  · cases e
def xiRD (as : XA W) : XI W := ⟨iRngD as.t, fun env => (as.evV env).bind rngDD, fun env => (as.evV env).bind rngDD, rngD_ok, fun e => (rngD_ok e).p⟩
theorem e_xiRDF {as : XA W} {env} : (xiRD as).evF env = (as.evV env).bind rngDD := rfl
theorem e_xiRDP {as : XA W} {env} : (xiRD as).evP env = (as.evV env).bind rngDD := rfl
theorem h_rngD {m n} : rngDD [.int m, .int n, .int (-1)] = guardB (rngOk m && rngOk n) (some (downD m (m - n).toNat)) := by
  show guardB (rngOk m && rngOk n && _) _ = _
  rw [show ((-1 : Int) == -1) = true from rfl, Bool.and_true]
end
end Py
namespace L2
open PySem PySem.Spec PyProof.Rows
theorem pick_rev (its : List Value) : slicePick its.toArray none none (some (-1)) = its.reverse.toArray := by
  unfold slicePick sliceBounds
  simp only [Option.getD_some, show ¬ ((-1 : Int) > 0) by decide, if_false, List.size_toArray]
  congr 1
  have e : sliceRange ((its.length : Int) - 1) (-1) (-1) = (List.range its.length).map fun k => its.length - 1 - k := by
    unfold sliceRange
    simp only [show ¬ ((-1 : Int) > 0) by decide, if_false, show (-(-1 : Int)) = 1 by decide, Int.ediv_one]
    have : (if (its.length : Int) - 1 > -1 then (its.length : Int) - 1 - -1 - -1 - 1 else 0).toNat = its.length := by split <;> omega
    rw [this]
    apply List.map_congr_left
    intro k hk
    have := List.mem_range.mp hk
    omega
  rw [e, List.filterMap_map]
  have e2 : (List.range its.length).map ((fun i => its.toArray[i]?) ∘ fun k => its.length - 1 - k) = its.reverse.map some := by
    apply List.ext_getElem
    · simp
    · intro i h1 h2
      simp at h1 h2
      simp only [List.getElem_map, List.getElem_range, Function.comp, List.getElem_reverse]
      rw [show its.toArray[its.length - 1 - i]? = its[its.length - 1 - i]? from by simp]
      exact List.getElem?_eq_getElem (by omega)
  have e3 : ∀ (f : Nat -> Option Value) (l : List Nat), l.filterMap f = (l.map f).filterMap id := fun f l => by rw [List.filterMap_map]; rfl
  rw [e3, e2, List.filterMap_map]
  simp
section
variable {X : Cx} {e st : Expr} {te ts : TE} {p2 pos : Pos}
def tRvS (K : PySem.W.Frag) (te ts : TE) : TE := fun σ H Q => te σ H fun x H1 => ts σ H1 fun u H2 => u = .int (-1) /\ ∃ a xs, x = .ref a /\ SqL K H2 a xs /\ ∀ p, H2 p = none -> Q (.ref p) (upd H2 p (.lst xs.reverse))
theorem pe_rvs (he : PE X e te) (hs : PE X st ts) : PE X (.Subscript e (.Slice none none (some st) p2) pos) (tRvS X.K te ts) := by
  refine ⟨fun pins s σ H Q I h => ?_⟩
  refine Subscript_ (thn (he.run pins s σ H _ I h) fun v s1 ⟨x, H1, I1, r1, q1⟩ => ?_)
  refine wpAny_Slice ?_
  rw [evalPart_none]
  refine wpAny_pure (wpAny_pure ?_)
  rw [evalPart_some]
  refine thn (hs.run pins s1 σ H1 _ I1 q1) fun vs s3 ⟨u, H3, I3, ru, q3⟩ => ?_
  obtain ⟨rfl, a, xs, rfl, hx, q⟩ := q3
  obtain ⟨t, rfl⟩ := ru
  cases r1
  have I4 : Inv X pins σ H3 { s3 with heap := s3.heap.push { cls := .type "slice", data := .fields #[.none, .none, .int (-1) t] } } := I3.kept (t' := s3.toks) fun b ob q => Heap.get?_push_of_some _ q
  have key : wpAny (model X.prog X.w) X.A (getItem (.ref a) (.ref s3.heap.objs.size)) (EP X pins σ Q) X.xe { s3 with heap := s3.heap.push { cls := .type "slice", data := .fields #[.none, .none, .int (-1) t] } } /\ Shared.TypeIs { s3 with heap := s3.heap.push { cls := .type "slice", data := .fields #[.none, .none, .int (-1) t] } } (.ref a) "list" := by
    generalize hs4 : ({ s3 with heap := s3.heap.push { cls := .type "slice", data := .fields #[.none, .none, .int (-1) t] } } : Shared) = s4 at I4
    obtain ⟨its, r, ht, hz⟩ := I4.list hx
    have hlen := r.length
    have hsl : s4.heap.IsSliceOf s3.heap.objs.size .none .none (.int (-1) t) := by rw [<- hs4]; exact Heap.IsSliceOf.new ..
    refine ⟨wpAny_getItem_list_slice ht.isList hsl .none .none (.int (-1) t) (by simp) ?_ (by rw [List.size_toArray]; omega), ht.isList.typeIs⟩
    rw [pick_rev]
    refine ⟨.ref s4.heap.objs.size, _, I4.laid (t' := s4.toks) (o := .lst xs.reverse) (fun b ob q => Heap.get?_push_of_some _ q) (Nat.le_refl _) ?_, rfl, q _ (I4.hok.fresh (Nat.le_refl _))⟩
    exact ⟨by rw [List.length_reverse]; exact hz, _, 0, r.reverse, Heap.get?_push_size _ rfl⟩
  exact tail_any (ops := [.ref a, .ref s3.heap.objs.size]) key.2 slot_list_getitem.lookup key.1 (by with_unfolding_all rfl)
end
end L2
namespace Py
open PySem L2
section
variable {T : Tbl} {W : Wd T} {env : Py.Env}
def rvE (d : Option D) (s : Option D) : Option (Kd × D) := match d.bind seqOf, s with
  | some (false, xs), some (.int (-1)) => some (.fr, .olst xs.reverse)
  | _, _ => none
theorem shrs_rev {F : Hp} : ∀ {ds : List D} {vs : List V}, Shrs W F ds vs -> Shrs W F ds.reverse vs.reverse
  | _, _, .nil => .nil
  | _, _, .cons a b => by
    rw [List.reverse_cons, List.reverse_cons]
    exact (shrs_rev b).append (.cons a .nil)
def xRvS (a s : XP W) : XP W where
  t := tRvS W.K a.t s.t
  ev env := rvE (a.evK env) (s.evV env)
  snd := fun {env k d} e => by
    unfold rvE at e
    split at e
    · rename_i xs h1 h2
      cases e
      obtain ⟨d1, e1, e3⟩ := Option.bind_eq_some_iff.mp h1
      intro e' F σ H L Q r q
      refine a.sK e1 e' F σ H L _ r fun v F1 H1 x1 ⟨L1, o⟩ => ?_
      obtain ⟨a, vs, rfl, sh, sq⟩ := seqOf_ok x1.s o e3
      refine s.sV h2 e' F1 σ H1 L _ (r.ext x1) fun u F2 H2 x2 y2 => ?_
      cases y2
      refine ⟨rfl, a, vs, rfl, x2.h.seq sq, fun p hp => q _ F2 _ ((x1.trans x2).trans (.newH x2.s hp)) ⟨[p], .olst upd_same (shrs_rev (sh.mono x2.f)).owns, by simp, fun x m => by
        rw [List.mem_singleton.mp m]; exact ⟨(x1.trans x2).h.free hp, x2.s.free hp⟩⟩⟩
    · cases e
theorem e_xRvS {a s : XP W} {env} : (xRvS a s).ev env = rvE (a.evK env) (s.evV env) := rfl
theorem h_rvE {xs : List D} : rvE (some (.lst xs)) (some (.int (-1))) = some (.fr, .olst xs.reverse) := rfl
end
end Py
namespace L2
open PySem PySem.Spec PyProof.Rows
section
variable {X : Cx}
def rGetLi : V -> V -> Hp -> VK -> Prop := fun o i H Q => ∃ p xs k j v, o = .ref p /\ i = .int k /\ H p = some (.lst xs) /\ ixN xs.length k = some j /\ xs[j]? = some v /\ Q v H
end
end L2
namespace Py
open PySem L2
section
variable {T : Tbl} {W : Wd T} {env : Py.Env}
def getLi : D -> D -> Option D
  | .olst xs, .int z => if xs.all isSh = true then (ixN xs.length z).bind fun j => xs[j]? else none
  | _, _ => none
theorem getLi_ok {d i x : D} (h : getLi d i = some x) : ∃ xs z j, d = .olst xs /\ i = .int z /\ xs.all isSh = true /\ ixN xs.length z = some j /\ xs[j]? = some x := by
  unfold getLi at h
  split at h
  · split at h
    · rename_i xs z hz
      obtain ⟨j, hj, hx⟩ := Option.bind_eq_some_iff.mp h
      exact ⟨_, _, j, rfl, rfl, hz, hj, hx⟩
    · cases h
  · cases h
def augIE {T : Tbl} {W : Wd T} (p : XPl W) (k : XP W) (f : Int -> Int -> Int) (a : XP W) (e : Py.Env) : Option Py.Env := (p.ev e).bind fun q => (k.evV e).bind fun i => (getLi q.2 i).bind fun x => (a.evV e).bind fun y => match x, y with
  | .int x, .int y => (storeD q.2 [i, .int (f x y)]).bind fun z => (getS e p.root).map fun d0 => e.set p.root (some (d0.putAt q.1 z.1))
  | _, _ => none
def xsAugI (p : XPl W) (k : XP W) (f : Int -> Int -> Int) (a : XP W) : XS W where
  t _ := tAugS p.t k.t a.t rGetLi (ipI f) rSetL
  ev P env := RS.ofO (augIE p k f a env)
  snd := fun P E env hn e F σ H L Dn hP r s => by
    cases h2 : augIE p k f a env with
    | none => exact absurd (by rw [h2]; rfl) hn
    | some e2 =>
      rw [h2] at s
      unfold augIE at h2
      obtain ⟨⟨st, n⟩, e1, h3⟩ := Option.bind_eq_some_iff.mp h2
      obtain ⟨i, ei, h3⟩ := Option.bind_eq_some_iff.mp h3
      obtain ⟨x, ex, h3⟩ := Option.bind_eq_some_iff.mp h3
      obtain ⟨y, ey, h3⟩ := Option.bind_eq_some_iff.mp h3
      split at h3
      · rename_i x y _
        obtain ⟨⟨n', d'⟩, e3, h4⟩ := Option.bind_eq_some_iff.mp h3
        obtain ⟨d0', e4, h5⟩ := Option.map_eq_some_iff.mp h4
        subst h5
        obtain ⟨d0, h0, h1⟩ := p.at_ e1
        rw [getS_some e4] at h0
        cases h0
        obtain ⟨v0, _, _, _, hs, _⟩ := r.focus (getS_some e4) h1
        refine p.loc e1 e F σ H L v0 _ r hs fun vn F1 H1 x1 p1 => ?_
        have r1 := r.ext x1
        refine k.sV ei e F1 σ H1 L _ r1 fun u F2 H2 x2 y2 => ?_
        have r2 := r1.ext x2
        obtain ⟨v0', vn', Ln, Lr, e5, p2, o, _⟩ := r2.focus (getS_some e4) h1
        rw [hs] at e5; cases e5
        cases (p1.mono x2.h).det p2
        have y2 : Shr W H2 i u := y2
        obtain ⟨xs, z, j, en, ez, hz, hj, hx⟩ := getLi_ok ex
        have en : n = .olst xs := en
        subst en ez
        cases o with
        | sh y => cases y
        | @olst b _ vs M ha hsh =>
          have sh := hsh.shrs hz
          obtain ⟨w, hw, sw⟩ := sh.get hx
          cases sw
          cases y2
          have hlv : vs.length = xs.length := sh.length.symm
          refine ⟨b, vs, z, j, _, rfl, rfl, ha, by rw [hlv]; exact hj, hw, a.sV ey e F2 σ H2 L _ r2 fun u F3 H3 x3 y3 => ?_⟩
          have y3 : Shr W H3 (.int y) u := y3
          cases y3
          refine ⟨x, y, rfl, rfl, ?_⟩
          have go : rStore (.ref b) [.int z, .int (f x y)] H3 (fun _ H => Dn.nx σ H) := by
            refine am_mop mop_store (r2.ext x3) (getS_some e4) h1 hs (p2.mono x3.h) e3 (Ms := [] ++ ([] ++ [])) (.cons (.sh .int) (.cons (.sh .int) .nil)) (by simp) (fun a ha => by simp at ha) fun v2 F2 H2 L2 M2 r2 o2 n2 k2 => s.nx _ _ _ _ _ rfl r2
          obtain ⟨a2, xs2, k2, j2, v2, ex2, ey2, ha2, hj2, q⟩ := go
          cases ey2
          exact ⟨a2, xs2, _, j2, ex2, rfl, ha2, hj2, q⟩
      · cases h3
theorem e_xsAugI {p : XPl W} {k : XP W} {f} {a : XP W} {P} : (xsAugI p k f a).ev P env = RS.ofO (augIE p k f a env) := rfl
end
end Py
namespace Py
open PySem L2
section
variable {T : Tbl} {W : Wd T} {env : Py.Env}
def augF (x y : D) (f : Int -> Int -> Int) : Option D := match x, y with
  | .int x, .int y => some (.int (f x y))
  | _, _ => none
theorem h_augIE {p : XPl W} {k : XP W} {f} {a : XP W} {e} : augIE p k f a e = (p.ev e).bind fun q => (k.evV e).bind fun i => (getLi q.2 i).bind fun x => (a.evV e).bind fun y => (augF x y f).bind fun w => (storeD q.2 [i, w]).bind fun z => (getS e p.root).map fun d0 => e.set p.root (some (d0.putAt q.1 z.1)) := by
  unfold augIE
  cases p.ev e with
  | none => rfl
  | some q =>
    cases k.evV e with
    | none => rfl
    | some i =>
      show ((getLi q.2 i).bind _) = ((getLi q.2 i).bind _)
      cases getLi q.2 i with
      | none => rfl
      | some x =>
        show ((a.evV e).bind _) = ((a.evV e).bind _)
        cases a.evV e with
        | none => rfl
        | some y => cases x <;> cases y <;> rfl
theorem h_getLi {xs z} : getLi (.olst xs) (.int z) = if xs.all isSh = true then (ixN xs.length z).bind fun j => xs[j]? else none := rfl
theorem h_augF {x y f} : augF (.int x) (.int y) f = some (.int (f x y)) := rfl
end
end Py
namespace Py
open PySem L2
theorem forL_gen {f : D -> Py.Env -> RS} {r : RS} : ∀ {ds : List D} {env : Py.Env} (I : Nat -> Py.Env -> Prop), forL f ds env = r -> I 0 env -> (∀ i d e, ds[i]? = some d -> I i e -> ∃ e', (f d e = .nx e' \/ f d e = .ct e') /\ I (i + 1) e') -> ∃ e', r = .nx e' /\ I ds.length e'
  | [], env, I, h, h0, _ => ⟨env, h.symm, h0⟩
  | d :: ds, env, I, h, h0, hs => by
    obtain ⟨e', h1, h2⟩ := hs 0 d env rfl h0
    have h : (match f d env with | .nx e => forL f ds e | .ct e => forL f ds e | .bk e => .nx e | r => r) = r := h
    have h3 : forL f ds e' = r := by rcases h1 with h1 | h1 <;> (rw [h1] at h; exact h)
    exact forL_gen (fun i e => I (i + 1) e) h3 h2 fun i d e hd hi => hs (i + 1) d e (by simpa using hd) hi
theorem atI_map {α β : Type} (f : α -> β) (xs : List α) (i : Int) : atI (xs.map f) i = (atI xs i).map f := by
  unfold atI
  rw [List.length_map]
  cases ixN xs.length i with
  | none => rfl
  | some j => show (xs.map f)[j]? = _; rw [List.getElem?_map]; rfl
theorem atI_of {α : Type} {xs : List α} {j : Nat} {x : α} (h : xs[j]? = some x) : atI xs (j : Int) = some x := by rw [atI_litN, h]
theorem atI_get {α : Type} {xs : List α} {i : Int} (h0 : 0 <= i) (h : i < xs.length) : ∃ x, atI xs i = some x /\ xs[i.toNat]? = some x := by
  obtain ⟨j, rfl⟩ := Int.eq_ofNat_of_zero_le h0
  have : xs[j]? = some (xs[j]'(by omega)) := List.getElem?_eq_getElem (by omega)
  exact ⟨_, atI_of this, this⟩
theorem get_map {α β : Type} {f : α -> β} {xs : List α} {i : Nat} {y : β} (h : (xs.map f)[i]? = some y) : ∃ x, xs[i]? = some x /\ y = f x := by
  rw [List.getElem?_map] at h
  cases e : xs[i]? with
  | none => rw [e] at h; cases h
  | some x => rw [e] at h; exact ⟨x, rfl, (Option.some.inj h).symm⟩
theorem sh_map {α : Type} {enc : α -> D} (h : ∀ a, isSh (enc a) = true) (xs : List α) : (xs.map enc).all isSh = true := by
  rw [List.all_eq_true]
  intro d hd
  obtain ⟨a, _, rfl⟩ := List.mem_map.mp hd
  exact h a
theorem fzs_map {α : Type} {enc : α -> D} (h : ∀ a, isSh (enc a) = true) (xs : List α) : fzs (xs.map enc) = xs.map enc := by
  rw [fzs_eq, List.map_map]
  exact List.map_congr_left fun a _ => fz_isSh (h a)
theorem okDs_map {α : Type} {enc : α -> D} {n : Nat} (h : ∀ a, okD n (enc a) = true) (xs : List α) : okDs n (xs.map enc) = true := by
  rw [okDs_all, List.all_eq_true]
  intro d hd
  obtain ⟨a, _, rfl⟩ := List.mem_map.mp hd
  exact h a
theorem eqBs_map {α : Type} [DecidableEq α] {enc : α -> D} (h : ∀ a b, eqB (enc a) (enc b) = decide (a = b)) : ∀ xs ys : List α, eqBs (xs.map enc) (ys.map enc) = decide (xs = ys)
  | [], [] => by rw [List.map_nil, eqBs]; rfl
  | [], y :: ys => by rw [List.map_nil, List.map_cons, h_eqBs_nc]; rfl
  | x :: xs, [] => by rw [List.map_nil, List.map_cons, h_eqBs_cn]; rfl
  | x :: xs, y :: ys => by
    rw [List.map_cons, List.map_cons, eqBs, h, eqBs_map h xs ys]
    by_cases h1 : x = y <;> by_cases h2 : xs = ys <;> simp [h1, h2]
theorem lcL_map {α : Type} {enc : α -> D} {f : D -> Option (List D)} {g : α -> List D} (xs : List α) (h : ∀ a ∈ xs, f (enc a) = some (g a)) : lcL f (xs.map enc) = some (xs.flatMap g) := by
  induction xs with
  | nil => rfl
  | cons x xs ih =>
    show (f (enc x)).bind _ = _
    rw [h x (List.mem_cons_self ..), Option.bind_some, ih fun a m => h a (List.mem_cons_of_mem _ m)]
    rfl
theorem flatMap_one {α β : Type} (f : α -> β) (xs : List α) : (xs.flatMap fun a => [f a]) = xs.map f := by
  induction xs with
  | nil => rfl
  | cons x xs ih => rw [List.flatMap_cons, ih]; rfl
theorem lcL_mapE {α β : Type} {enc : α -> D} {enc2 : β -> D} {f : D -> Option (List D)} (g : α -> β) (xs : List α) (h : ∀ a ∈ xs, f (enc a) = some [enc2 (g a)]) : lcL f (xs.map enc) = some ((xs.map g).map enc2) := by
  rw [lcL_map (g := fun a => [enc2 (g a)]) xs h, flatMap_one, List.map_map]; rfl
end Py
namespace Py
open PySem L2
local macro_rules | `(tactic| walk_at "ev") => `(tactic| try simp (maxSteps := 1000000) (disch := first | omega | decide) only [e_xsSeq, e_xsNext, e_xsNever, e_xsAsg, e_xsAsgG, e_xsExpr, e_xsRet, e_xsIf, e_xsFrz, e_xmP, e_xVar_V, e_xtV, e_xtTru, e_xtAnd, e_xtOr, e_xtNot, e_xtYes, e_xVar, e_xInt, e_xBl, e_xStr, e_xSub, e_xMul, e_xDiv, e_xMod, e_xPow, e_xNeg, e_xAdd, e_xEq, e_xNe, e_xLt, e_xLe, e_xGt, e_xGe, e_xAnd, e_xNot, e_xIf, e_xTup, e_xLst, e_xInt1, e_xAbs, e_xIx, e_xFld, e_xList, e_xIsi, e_xIsiT, e_xCall, e_xLc, e_xSorted, e_xmVar, e_xmMove, e_xmAppend, e_xmPop, e_xoNil, e_xoCons, e_plVar, r_plVar, e_xaNilV, e_xaNilF, e_xaConsV, e_xaConsF, e_xgN, e_xgsNil, e_xgsCons, e_xgT, o_xgN, o_xgT, o_xgsNil, o_xgsCons, e_xiSeqF, e_xiSeqP, e_xiR1F, e_xiR1P, e_xiR2F, e_xiR2P, e_xsFor, e_evV, e_evK, e_evF, e_evO, e_evB, h_getS0, h_getS0n, h_getSs, h_toV, h_toVn, h_toKf, h_toKp, h_toKv, h_toKn, h_toFf, h_toFp, h_toFv, h_toFn, h_toOf, h_toOp, h_toOv, h_toOn, h_of_f, h_of_p, h_of_v, h_then_nx, h_then_rt, h_then_bk, h_then_ct, h_then_ex, h_then_no, h_thenS_ok, h_thenS_exn, h_thenS_no, h_ofO, h_ofOn, h_of, h_ofn, h_mofO, h_mofOn, h_iteF1, h_iteF0, h_iteFn, h_asgK, h_asgGK, h_ifF1, h_ifF0, h_forK, h_andF1, h_andF0, h_orF1, h_orF0, h_blD, h_turn, h_turnn, h_forE, h_forEn, h_callF, h_callV, h_rzF, h_rzV, h_fz_non, h_sh_non, h_fl_non, h_isN_non, h_fz_bl, h_sh_bl, h_fl_bl, h_fz_int, h_sh_int, h_fl_int, h_isN_int, h_fz_str, h_sh_str, h_fl_str, h_isN_str, h_fz_cls, h_sh_cls, h_fl_cls, h_isN_cls, h_fz_sei, h_sh_sei, h_fl_sei, h_isN_sei, h_fz_scr, h_sh_scr, h_fl_scr, h_isN_scr, h_fz_tup, h_sh_tup, h_fl_tup, h_isN_tup, h_fz_lst, h_sh_lst, h_fl_lst, h_isN_lst, h_fz_dic, h_sh_dic, h_fl_dic, h_isN_dic, h_fz_dit, h_sh_dit, h_fl_dit, h_isN_dit, h_fz_dig, h_sh_dig, h_fl_dig, h_isN_dig, h_fz_ins, h_sh_ins, h_fl_ins, h_isN_ins, h_isN_bl, h_fz_olst, h_sh_olst, h_fl_olst, h_fz_odic, h_sh_odic, h_fl_odic, h_fz_odit, h_sh_odit, h_fl_odit, h_fz_odig, h_sh_odig, h_fl_odig, h_fz_oins, h_sh_oins, h_fl_oins, h_fzs_nil, h_fzs_cons, h_fzs_app, h_tru_bl, h_tru_non, h_tru_int, h_tru_lst, h_tru_tup, h_sub, h_neg, h_addI, h_addT, h_addL, h_addLo, h_addoL, h_addoo, h_eqD, h_neD, h_ok_non, h_ok_bl, h_ok_int, h_ok_str, h_ok_tup, h_ok_lst, h_oks_nil, h_oks_cons, h_eqB_ii, h_eqB_ss, h_eqB_bb, h_eqB_nn, h_eqB_ni, h_eqB_in, h_eqB_nt, h_eqB_tn, h_eqB_tt, h_eqB_ll, h_eqBs_nn, h_eqBs_cc, h_eqBs_nc, h_eqBs_cn, h_cmp, h_ltI, h_ltT, h_ints_nil, h_ints_cons, h_intI, h_intB, h_abs, h_lenL, h_lenT, h_lenS, h_ix, h_it_lst, h_it_olst, h_it_tup, h_it_scr, h_at0, h_at1, h_at2, h_at3, h_at4, h_at5, h_at6, h_at7, h_at8, h_at9, h_at10, h_at11, h_at12, h_atm1, h_seq_lst, h_seq_tup, h_seq_olst, h_seq_scr, h_sF_lst, h_sF_tup, h_sF_scr, h_lF_lst, h_ty_non, h_ty_bl, h_ty_int, h_ty_str, h_ty_lst, h_ty_tup, h_ty_ins, h_isi_bb, h_isi_bo, h_isi_ob, h_isi_oo, h_isiA_n, h_isiA_c, h_isiB_NoneType_bool, h_isiB_NoneType_int, h_isiB_NoneType_str, h_isiB_NoneType_list, h_isiB_NoneType_tuple, h_isiB_NoneType_dict, h_isiB_bool_bool, h_isiB_bool_int, h_isiB_bool_str, h_isiB_bool_list, h_isiB_bool_tuple, h_isiB_bool_dict, h_isiB_int_bool, h_isiB_int_int, h_isiB_int_str, h_isiB_int_list, h_isiB_int_tuple, h_isiB_int_dict, h_isiB_str_bool, h_isiB_str_int, h_isiB_str_str, h_isiB_str_list, h_isiB_str_tuple, h_isiB_str_dict, h_isiB_list_bool, h_isiB_list_int, h_isiB_list_str, h_isiB_list_list, h_isiB_list_tuple, h_isiB_list_dict, h_isiB_tuple_bool, h_isiB_tuple_int, h_isiB_tuple_str, h_isiB_tuple_list, h_isiB_tuple_tuple, h_isiB_tuple_dict, h_isiB_dict_bool, h_isiB_dict_int, h_isiB_dict_str, h_isiB_dict_list, h_isiB_dict_tuple, h_isiB_dict_dict, h_append, h_pop, h_put0, h_rng1, h_rng2, h_guard1, h_guard0, h_forLn, h_forLc, h_forT_nx, h_forT_ct, h_forT_bk, h_forT_rt, h_forT_ex, h_lc1, h_lcK, h_lcJ1, h_lcJ0, h_wipe0, h_wipes, h_frz, h_frzO, h_frzOn, h_runR_rt, h_runR_nx, h_retZ, h_bGetn, h_bGets, h_setS, h_fldI, h_fldO, h_iteFd1, h_iteFd0, h_iteFe1, h_iteFe0, h_andFd1, h_andFd0, h_andFe1, h_andFe0, h_orFd1, h_orFd0, h_orFe1, h_orFe0, h_ifFd1, h_ifFd0, h_ifFe1, h_ifFe0, h_lcJd1, h_lcJd0, h_lcJe1, h_lcJe0, h_eMeth, h_methF, h_methV, h_methW, h_eCallO, h_callOF, h_callOV, h_callOW, h_callO1, h_meth1, h_meth2, h_resE, h_resEn, h_posn, h_posc, h_eMmeth, h_methM1, h_methM0, h_rm0o, h_rm0x, h_rm0n, h_rm1o, h_rm1x, h_putc, h_putE, h_subF, h_subI, h_putF, h_putI, h_setOs, h_eSfld, h_fldK, h_setFD, h_setFn, h_setFc, h_eMake, h_makeF, h_makeV, h_mk1, h_mkR, h_eProp, h_propF, h_propV, h_prop1, h_eLenU, h_lenI_lst, h_lenI_tup, h_lenI_scr, h_lenI_ins, h_lenQ, h_lenR, h_eSl, h_slE, h_evI0, h_evI1, h_intO, h_RTthen_ok, h_RTthenS_ok, h_RTthen_exn, h_RTthenS_exn, h_RTof, h_eListU, h_lstE_lst, h_lstE_tup, h_lstE_scr, h_lstE_olst, h_lstE_ins, h_itQ, h_it_ins, h_lo_lst, h_lo_olst, h_eiSeqUF, h_eiSeqUP, h_eiEnumUF, h_eiEnumUP, h_eiEnumTF, h_eiEnumTP, h_enTI_tup, h_enTI_lst, h_enTI_ins, h_seqFI_lst, h_seqFI_tup, h_seqFI_scr, h_seqFI_ins, h_seqKI_lst, h_seqKI_tup, h_seqKI_scr, h_seqKI_ins, h_seqKI_olst, h_enFI_lst, h_enFI_ins, h_enKI_lst, h_enKI_ins, h_enKI_olst, h_ixD_ins, h_okD_ins, h_eqD_ins, h_addD_ins, h_addD_oins, h_eSum, h_sumI, h_storeD, h_eCallN, h_kwE_F, h_kwE_V, h_kwE_W, h_eMakeN, h_makeNE_F, h_makeNE_V, h_makeNE_W, h_mkN, h_mgM_t, h_mgM_f, h_mgM_n, h_eDnew, h_eDget2, h_getE_non, h_getE_int, h_getE_str, h_getM_s, h_getM_n, h_eDix, h_dgE_int, h_dgE_str, h_inK_non, h_inK_int, h_inK_str, h_eDlist, h_dicOf_d, h_dicOf_o, h_dputI, h_dputS, h_eForD, h_lockR, h_noEx_nx, h_noEx_rt, h_isDic, h_dsK, h_eDc, h_eDcD, h_frE_s, h_frE_n, h_guardB_t, h_dc1, h_dcK, h_dcJ1, h_dcJ0, h_keyD_i, h_keyD_s, h_eDapp, h_dappI, h_kDs_n, h_kDs_c, h_dcL_n, h_putP_n, h_eCallB, h_ebCons, h_lend_olst, h_lend_int, h_lend_str, h_lend_bl, h_lend_non, h_lend_tup, h_lend_lst, h_lend_ins, h_lend_dic, h_ofBs, h_ofBn, h_oNl_int, h_oNl_str, h_oNl_bl, h_oNl_n, h_oNl_ins, h_oNl_oins, h_oNl_dic, h_oNl_odic, h_oNl_tup, h_oNl_olst, h_oNls_n, h_oNls_c, h_okD0s, h_eDisp, h_dispEn, h_dispEc, h_qevO, h_qevB, h_qevF, h_toQf, h_toQp, h_toQv, h_toQn, h_runR_ex, h_retX, h_thenY1, h_thenY2, h_thenY3, h_eCatT, h_catD, h_look1, h_look2, h_div, h_mod, h_mulL, h_mulR, h_rngOk, List.zip_cons_cons, List.zip_nil_left, if_pos, if_neg, List.getElem?_cons_zero, List.getElem?_cons_succ, List.getElem?_nil, List.getLast?_append, List.getLast?_singleton, List.getLast?_cons_cons, runFn, env0, Option.toList, List.map_cons, List.map_nil, List.length_cons, List.length_nil, List.length_append, List.length_map, List.length_set, List.replicate, List.cons_append, List.nil_append, List.append_nil, Nat.reduceSub, Nat.reduceAdd, Nat.reduceLT, Nat.reduceLeDiff, Nat.reduceEqDiff, Nat.zero_add, Nat.add_zero, List.set_cons_zero, List.set_cons_succ, List.set_nil, Option.bind_some, Option.bind_none, Option.map_some, Option.map_none, List.foldl_cons, List.foldl_nil, not_false_eq_true, not_true_eq_false, and_true, true_and, and_self, and_false, false_and, if_true, if_false, ite_true, ite_false, reduceIte, List.not_mem_nil, reduceCtorEq, List.mem_cons, or_false, false_or, or_self, ne_eq, Bool.not_true, Bool.not_false, Bool.and_true, Bool.and_false, Bool.true_and, Bool.false_and, Bool.or_true, Bool.or_false, Bool.true_or, Bool.false_or, Bool.and_self, Bool.or_self, List.all_cons, List.all_nil, decide_true, decide_false, decide_not, decide_eq_true_eq, decide_eq_false_iff_not, Bool.not_not, Int.reduceLT, Int.reduceLE, Int.reduceEq, Int.reduceNe, Int.reduceAdd, Int.reduceMul, Int.reduceSub, Int.reduceNeg, List.isEmpty_cons, List.isEmpty_nil, Bool.false_eq_true, Bool.true_eq_false, String.reduceEq, Function.comp_apply, Option.isNone_none, Option.some_or, Option.isNone_some, List.getLast?_concat, List.dropLast_concat, List.all_append])
end Py
namespace Py
open PySem L2
local macro_rules | `(tactic| walk_at "ev") => `(tactic| try simp (maxSteps := 1000000) (disch := first | omega | decide) only [e_xsSeq, e_xsNext, e_xsNever, e_xsAsg, e_xsAsgG, e_xsExpr, e_xsRet, e_xsIf, e_xsFrz, e_xmP, e_xVar_V, e_xtV, e_xtTru, e_xtAnd, e_xtOr, e_xtNot, e_xtYes, e_xVar, e_xInt, e_xBl, e_xStr, e_xSub, e_xMul, e_xDiv, e_xMod, e_xPow, e_xNeg, e_xAdd, e_xEq, e_xNe, e_xLt, e_xLe, e_xGt, e_xGe, e_xAnd, e_xNot, e_xIf, e_xTup, e_xLst, e_xInt1, e_xAbs, e_xIx, e_xFld, e_xList, e_xIsi, e_xIsiT, e_xCall, e_xLc, e_xSorted, e_xmVar, e_xmMove, e_xmAppend, e_xmPop, e_xoNil, e_xoCons, e_plVar, r_plVar, e_xaNilV, e_xaNilF, e_xaConsV, e_xaConsF, e_xgN, e_xgsNil, e_xgsCons, e_xgT, o_xgN, o_xgT, o_xgsNil, o_xgsCons, e_xiSeqF, e_xiSeqP, e_xiR1F, e_xiR1P, e_xiR2F, e_xiR2P, e_xsFor, e_evV, e_evK, e_evF, e_evO, e_evB, h_getS0, h_getS0n, h_getSs, h_toV, h_toVn, h_toKf, h_toKp, h_toKv, h_toKn, h_toFf, h_toFp, h_toFv, h_toFn, h_toOf, h_toOp, h_toOv, h_toOn, h_of_f, h_of_p, h_of_v, h_then_nx, h_then_rt, h_then_bk, h_then_ct, h_then_ex, h_then_no, h_thenS_ok, h_thenS_exn, h_thenS_no, h_ofO, h_ofOn, h_of, h_ofn, h_mofO, h_mofOn, h_iteF1, h_iteF0, h_iteFn, h_asgK, h_asgGK, h_ifF1, h_ifF0, h_forK, h_andF1, h_andF0, h_orF1, h_orF0, h_blD, h_turn, h_turnn, h_forE, h_forEn, h_callF, h_callV, h_rzF, h_rzV, h_fz_non, h_sh_non, h_fl_non, h_isN_non, h_fz_bl, h_sh_bl, h_fl_bl, h_fz_int, h_sh_int, h_fl_int, h_isN_int, h_fz_str, h_sh_str, h_fl_str, h_isN_str, h_fz_cls, h_sh_cls, h_fl_cls, h_isN_cls, h_fz_sei, h_sh_sei, h_fl_sei, h_isN_sei, h_fz_scr, h_sh_scr, h_fl_scr, h_isN_scr, h_fz_tup, h_sh_tup, h_fl_tup, h_isN_tup, h_fz_lst, h_sh_lst, h_fl_lst, h_isN_lst, h_fz_dic, h_sh_dic, h_fl_dic, h_isN_dic, h_fz_dit, h_sh_dit, h_fl_dit, h_isN_dit, h_fz_dig, h_sh_dig, h_fl_dig, h_isN_dig, h_fz_ins, h_sh_ins, h_fl_ins, h_isN_ins, h_isN_bl, h_fz_olst, h_sh_olst, h_fl_olst, h_fz_odic, h_sh_odic, h_fl_odic, h_fz_odit, h_sh_odit, h_fl_odit, h_fz_odig, h_sh_odig, h_fl_odig, h_fz_oins, h_sh_oins, h_fl_oins, h_fzs_nil, h_fzs_cons, h_fzs_app, h_tru_bl, h_tru_non, h_tru_int, h_tru_lst, h_tru_tup, h_sub, h_neg, h_addI, h_addT, h_addL, h_addLo, h_addoL, h_addoo, h_eqD, h_neD, h_ok_non, h_ok_bl, h_ok_int, h_ok_str, h_ok_tup, h_ok_lst, h_oks_nil, h_oks_cons, h_eqB_ii, h_eqB_ss, h_eqB_bb, h_eqB_nn, h_eqB_ni, h_eqB_in, h_eqB_nt, h_eqB_tn, h_eqB_tt, h_eqB_ll, h_eqBs_nn, h_eqBs_cc, h_eqBs_nc, h_eqBs_cn, h_cmp, h_ltI, h_ltT, h_ints_nil, h_ints_cons, h_intI, h_intB, h_abs, h_lenL, h_lenT, h_lenS, h_ix, h_it_lst, h_it_olst, h_it_tup, h_it_scr, h_at0, h_at1, h_at2, h_at3, h_at4, h_at5, h_at6, h_at7, h_at8, h_at9, h_at10, h_at11, h_at12, h_atm1, h_seq_lst, h_seq_tup, h_seq_olst, h_seq_scr, h_sF_lst, h_sF_tup, h_sF_scr, h_lF_lst, h_ty_non, h_ty_bl, h_ty_int, h_ty_str, h_ty_lst, h_ty_tup, h_ty_ins, h_isi_bb, h_isi_bo, h_isi_ob, h_isi_oo, h_isiA_n, h_isiA_c, h_isiB_NoneType_bool, h_isiB_NoneType_int, h_isiB_NoneType_str, h_isiB_NoneType_list, h_isiB_NoneType_tuple, h_isiB_NoneType_dict, h_isiB_bool_bool, h_isiB_bool_int, h_isiB_bool_str, h_isiB_bool_list, h_isiB_bool_tuple, h_isiB_bool_dict, h_isiB_int_bool, h_isiB_int_int, h_isiB_int_str, h_isiB_int_list, h_isiB_int_tuple, h_isiB_int_dict, h_isiB_str_bool, h_isiB_str_int, h_isiB_str_str, h_isiB_str_list, h_isiB_str_tuple, h_isiB_str_dict, h_isiB_list_bool, h_isiB_list_int, h_isiB_list_str, h_isiB_list_list, h_isiB_list_tuple, h_isiB_list_dict, h_isiB_tuple_bool, h_isiB_tuple_int, h_isiB_tuple_str, h_isiB_tuple_list, h_isiB_tuple_tuple, h_isiB_tuple_dict, h_isiB_dict_bool, h_isiB_dict_int, h_isiB_dict_str, h_isiB_dict_list, h_isiB_dict_tuple, h_isiB_dict_dict, h_append, h_pop, h_put0, h_rng1, h_rng2, h_guard1, h_guard0, h_forLn, h_forLc, h_forT_nx, h_forT_ct, h_forT_bk, h_forT_rt, h_forT_ex, h_lc1, h_lcK, h_lcJ1, h_lcJ0, h_wipe0, h_wipes, h_frz, h_frzO, h_frzOn, h_runR_rt, h_runR_nx, h_retZ, h_bGetn, h_bGets, h_setS, h_fldI, h_fldO, h_iteFd1, h_iteFd0, h_iteFe1, h_iteFe0, h_andFd1, h_andFd0, h_andFe1, h_andFe0, h_orFd1, h_orFd0, h_orFe1, h_orFe0, h_ifFd1, h_ifFd0, h_ifFe1, h_ifFe0, h_lcJd1, h_lcJd0, h_lcJe1, h_lcJe0, h_eMeth, h_methF, h_methV, h_methW, h_eCallO, h_callOF, h_callOV, h_callOW, h_callO1, h_meth1, h_meth2, h_resE, h_resEn, h_posn, h_posc, h_eMmeth, h_methM1, h_methM0, h_rm0o, h_rm0x, h_rm0n, h_rm1o, h_rm1x, h_putc, h_putE, h_subF, h_subI, h_putF, h_putI, h_setOs, h_eSfld, h_fldK, h_setFD, h_setFn, h_setFc, h_eMake, h_makeF, h_makeV, h_mk1, h_mkR, h_eProp, h_propF, h_propV, h_prop1, h_eLenU, h_lenI_lst, h_lenI_tup, h_lenI_scr, h_lenI_ins, h_lenQ, h_lenR, h_eSl, h_slE, h_evI0, h_evI1, h_intO, h_RTthen_ok, h_RTthenS_ok, h_RTthen_exn, h_RTthenS_exn, h_RTof, h_eListU, h_lstE_lst, h_lstE_tup, h_lstE_scr, h_lstE_olst, h_lstE_ins, h_itQ, h_it_ins, h_lo_lst, h_lo_olst, h_eiSeqUF, h_eiSeqUP, h_eiEnumUF, h_eiEnumUP, h_eiEnumTF, h_eiEnumTP, h_enTI_tup, h_enTI_lst, h_enTI_ins, h_seqFI_lst, h_seqFI_tup, h_seqFI_scr, h_seqFI_ins, h_seqKI_lst, h_seqKI_tup, h_seqKI_scr, h_seqKI_ins, h_seqKI_olst, h_enFI_lst, h_enFI_ins, h_enKI_lst, h_enKI_ins, h_enKI_olst, h_ixD_ins, h_okD_ins, h_eqD_ins, h_addD_ins, h_addD_oins, h_eSum, h_sumI, h_storeD, h_eCallN, h_kwE_F, h_kwE_V, h_kwE_W, h_eMakeN, h_makeNE_F, h_makeNE_V, h_makeNE_W, h_mkN, h_mgM_t, h_mgM_f, h_mgM_n, h_eDnew, h_eDget2, h_getE_non, h_getE_int, h_getE_str, h_getM_s, h_getM_n, h_eDix, h_dgE_int, h_dgE_str, h_inK_non, h_inK_int, h_inK_str, h_eDlist, h_dicOf_d, h_dicOf_o, h_dputI, h_dputS, h_eForD, h_lockR, h_noEx_nx, h_noEx_rt, h_isDic, h_dsK, h_eDc, h_eDcD, h_frE_s, h_frE_n, h_guardB_t, h_dc1, h_dcK, h_dcJ1, h_dcJ0, h_keyD_i, h_keyD_s, h_eDapp, h_dappI, h_kDs_n, h_kDs_c, h_dcL_n, h_putP_n, h_eCallB, h_ebCons, h_lend_olst, h_lend_int, h_lend_str, h_lend_bl, h_lend_non, h_lend_tup, h_lend_lst, h_lend_ins, h_lend_dic, h_ofBs, h_ofBn, h_oNl_int, h_oNl_str, h_oNl_bl, h_oNl_n, h_oNl_ins, h_oNl_oins, h_oNl_dic, h_oNl_odic, h_oNl_tup, h_oNl_olst, h_oNls_n, h_oNls_c, h_okD0s, h_eDisp, h_dispEn, h_dispEc, h_qevO, h_qevB, h_qevF, h_toQf, h_toQp, h_toQv, h_toQn, h_runR_ex, h_retX, h_thenY1, h_thenY2, h_thenY3, h_eCatT, h_catD, h_look1, h_look2, h_div, h_mod, h_mulL, h_mulR, h_rngOk, List.zip_cons_cons, List.zip_nil_left, if_pos, if_neg, List.getElem?_cons_zero, List.getElem?_cons_succ, List.getElem?_nil, List.getLast?_append, List.getLast?_singleton, List.getLast?_cons_cons, runFn, env0, Option.toList, List.map_cons, List.map_nil, List.length_cons, List.length_nil, List.length_append, List.length_map, List.length_set, List.replicate, List.cons_append, List.nil_append, List.append_nil, Nat.reduceSub, Nat.reduceAdd, Nat.reduceLT, Nat.reduceLeDiff, Nat.reduceEqDiff, Nat.zero_add, Nat.add_zero, List.set_cons_zero, List.set_cons_succ, List.set_nil, Option.bind_some, Option.bind_none, Option.map_some, Option.map_none, List.foldl_cons, List.foldl_nil, not_false_eq_true, not_true_eq_false, and_true, true_and, and_self, and_false, false_and, if_true, if_false, ite_true, ite_false, reduceIte, List.not_mem_nil, reduceCtorEq, List.mem_cons, or_false, false_or, or_self, ne_eq, Bool.not_true, Bool.not_false, Bool.and_true, Bool.and_false, Bool.true_and, Bool.false_and, Bool.or_true, Bool.or_false, Bool.true_or, Bool.false_or, Bool.and_self, Bool.or_self, List.all_cons, List.all_nil, decide_true, decide_false, decide_not, decide_eq_true_eq, decide_eq_false_iff_not, Bool.not_not, Int.reduceLT, Int.reduceLE, Int.reduceEq, Int.reduceNe, Int.reduceAdd, Int.reduceMul, Int.reduceSub, Int.reduceNeg, List.isEmpty_cons, List.isEmpty_nil, Bool.false_eq_true, Bool.true_eq_false, String.reduceEq, Function.comp_apply, Option.isNone_none, Option.some_or, Option.isNone_some, List.getLast?_concat, List.dropLast_concat, List.all_append])
class Enc (α : Type) [DecidableEq α] where
  enc : α -> D
  sh : ∀ a, isSh (enc a) = true
  dp : Nat
  ok : ∀ n a, okD (n + dp) (enc a) = true
  eq : ∀ a b, eqB (enc a) (enc b) = decide (a = b)
open Enc (enc)
class EncN (α : Type) [DecidableEq α] [Enc α] : Prop where
  nn : ∀ a : α, isNon (enc a) = false
  en : ∀ a : α, eqB (enc a) .non = false
  ne : ∀ a : α, eqB .non (enc a) = false
class EncF (α : Type) [DecidableEq α] [Enc α] : Prop where
  fl : ∀ a : α, isFlat (enc a) = true
section
variable {α β γ : Type} [DecidableEq α] [DecidableEq β] [DecidableEq γ] [Enc α] [Enc β] [Enc γ]
theorem sh_enc (a : α) : isSh (enc a) = true := Enc.sh a
theorem fz_enc (a : α) : fz (enc a) = enc a := fz_isSh (Enc.sh a)
theorem shl_enc (xs : List α) : (xs.map enc).all isSh = true := sh_map Enc.sh xs
theorem fzl_enc (xs : List α) : fzs (xs.map enc) = xs.map enc := fzs_map Enc.sh xs
theorem fl_enc [EncF α] (a : α) : isFlat (enc a) = true := EncF.fl a
theorem nn_enc [EncN α] (a : α) : isNon (enc a) = false := EncN.nn a
theorem ok_enc {n : Nat} (a : α) (h : Enc.dp α <= n) : okD n (enc a) = true := by
  have := Enc.ok (n - Enc.dp α) a
  rwa [show n - Enc.dp α + Enc.dp α = n by omega] at this
theorem okl_enc {n : Nat} (xs : List α) (h : Enc.dp α <= n) : okDs n (xs.map enc) = true := okDs_map (fun a => ok_enc a h) xs
theorem eq_enc (a b : α) : eqB (enc a) (enc b) = decide (a = b) := Enc.eq a b
theorem eql_enc (xs ys : List α) : eqBs (xs.map enc) (ys.map enc) = decide (xs = ys) := eqBs_map Enc.eq xs ys
theorem en_enc [EncN α] (a : α) : eqB (enc a) .non = false := EncN.en a
theorem ne_enc [EncN α] (a : α) : eqB .non (enc a) = false := EncN.ne a
end
instance : Enc Int := ⟨.int, fun _ => rfl, 0, fun n a => by walk_at "ev", fun a b => by walk_at "ev"⟩
instance : EncN Int := ⟨fun _ => rfl, fun a => by show eqB (.int a) .non = _; walk_at "ev", fun a => by show eqB .non (.int a) = _; walk_at "ev"⟩
instance : EncF Int := ⟨fun _ => rfl⟩
theorem enc_int (i : Int) : enc i = .int i := rfl
instance : Enc Bool := ⟨.bl, fun _ => rfl, 0, fun n a => by walk_at "ev", fun a b => by walk_at "ev"⟩
instance : EncN Bool := ⟨fun _ => rfl, fun a => by show eqB (.bl a) .non = _; simp [eqB], fun a => by show eqB .non (.bl a) = _; simp [eqB]⟩
instance : EncF Bool := ⟨fun _ => rfl⟩
theorem enc_bool (i : Bool) : enc i = .bl i := rfl
instance : Enc String := ⟨.str, fun _ => rfl, 0, fun n a => by walk_at "ev", fun a b => by walk_at "ev"⟩
instance : EncN String := ⟨fun _ => rfl, fun a => by show eqB (.str a) .non = _; simp [eqB], fun a => by show eqB .non (.str a) = _; simp [eqB]⟩
instance : EncF String := ⟨fun _ => rfl⟩
section
variable {α β γ : Type} [DecidableEq α] [DecidableEq β] [DecidableEq γ] [Enc α] [Enc β] [Enc γ]
def encO : Option α -> D
  | none => .non
  | some a => enc a
instance [EncN α] : Enc (Option α) where
  enc := encO
  sh a := by cases a; rfl; exact Enc.sh _
  dp := Enc.dp α
  ok n a := by
    cases a with
    | none => show okD _ .non = true; walk_at "ev"
    | some a => exact Enc.ok n a
  eq a b := by
    cases a <;> cases b
    · show eqB .non .non = _; walk_at "ev"
    · rename_i b; show eqB .non (enc b) = _; rw [ne_enc]; simp
    · rename_i b; show eqB (enc b) .non = _; rw [en_enc]; simp
    · rename_i a b; show eqB (enc a) (enc b) = _; rw [eq_enc]; simp
instance [EncN α] [EncF α] : EncF (Option α) := ⟨fun a => by cases a; rfl; exact EncF.fl (α := α) _⟩
theorem isN_opt [EncN α] (o : Option α) : isNon (enc o) = o.isNone := by
  cases o with
  | none => rfl
  | some a => exact nn_enc a
def enc2 (p : α × β) : D := .tup [enc p.1, enc p.2]
instance : Enc (α × β) where
  enc := enc2
  sh _ := rfl
  dp := max (Enc.dp α) (Enc.dp β) + 1
  ok n a := by
    show okD (n + (max (Enc.dp α) (Enc.dp β) + 1)) (.tup [enc a.1, enc a.2]) = true
    rw [<- Nat.add_assoc, h_ok_tup, h_oks_cons, h_oks_cons, h_oks_nil, ok_enc _ (by omega), ok_enc _ (by omega)]; rfl
  eq a b := by
    show eqB (.tup [enc a.1, enc a.2]) (.tup [enc b.1, enc b.2]) = _
    rw [h_eqB_tt, h_eqBs_cc, h_eqBs_cc, h_eqBs_nn, eq_enc, eq_enc, Bool.eq_iff_iff]
    simp [Prod.ext_iff]
instance : EncN (α × β) := ⟨fun _ => rfl, fun a => by show eqB (.tup _) .non = _; walk_at "ev", fun a => by show eqB .non (.tup _) = _; walk_at "ev"⟩
theorem it_pair (p : α × β) : itemsD (enc p) = some [enc p.1, enc p.2] := rfl
theorem sF_pair (p : α × β) : seqF (enc p) = some [enc p.1, enc p.2] := rfl
theorem sFI_pair {T : Tbl} (p : α × β) : seqFI T (enc p) = some [enc p.1, enc p.2] := rfl
theorem so_pair (p : α × β) : seqOf (enc p) = some (true, [enc p.1, enc p.2]) := rfl
theorem ty_pair (p : α × β) : tyD (enc p) = some (false, "tuple") := rfl
theorem len_pair (p : α × β) : lenD [enc p] = some (.int 2) := rfl
theorem lenI_pair {T : Tbl} {φ : Sem} (p : α × β) : lenI1 T φ [enc p] = some (.int 2) := rfl
theorem fl_pair (p : α × β) : isFlat (enc p) = false := rfl
theorem xg_pair {W : Wd T} {gs : XGs W} {P : List Nat} {env : Py.Env} (p : α × β) : (xgT 2 gs).ev P (enc p) env = gs.ev P [enc p.1, enc p.2] env := by show (xgT 2 gs).ev P (.tup [enc p.1, enc p.2]) env = _; rw [e_xgT]; exact if_pos rfl
structure T3 (α β γ : Type) where
  a : α
  b : β
  c : γ
deriving DecidableEq
instance : Enc (T3 α β γ) where
  enc p := .tup [enc p.a, enc p.b, enc p.c]
  sh _ := rfl
  dp := max (Enc.dp α) (max (Enc.dp β) (Enc.dp γ)) + 1
  ok n a := by
    show okD (n + (max (Enc.dp α) (max (Enc.dp β) (Enc.dp γ)) + 1)) (.tup [enc a.a, enc a.b, enc a.c]) = true
    rw [<- Nat.add_assoc, h_ok_tup, h_oks_cons, h_oks_cons, h_oks_cons, h_oks_nil, ok_enc _ (by omega), ok_enc _ (by omega), ok_enc _ (by omega)]; rfl
  eq a b := by
    show eqB (.tup [enc a.a, enc a.b, enc a.c]) (.tup [enc b.a, enc b.b, enc b.c]) = _
    rw [h_eqB_tt, h_eqBs_cc, h_eqBs_cc, h_eqBs_cc, h_eqBs_nn, eq_enc, eq_enc, eq_enc, Bool.eq_iff_iff]
    cases a; cases b
    simp
instance : EncN (T3 α β γ) := ⟨fun _ => rfl, fun a => by show eqB (.tup _) .non = _; walk_at "ev", fun a => by show eqB .non (.tup _) = _; walk_at "ev"⟩
theorem it_t3 (p : T3 α β γ) : itemsD (enc p) = some [enc p.a, enc p.b, enc p.c] := rfl
theorem sF_t3 (p : T3 α β γ) : seqF (enc p) = some [enc p.a, enc p.b, enc p.c] := rfl
theorem sFI_t3 {T : Tbl} (p : T3 α β γ) : seqFI T (enc p) = some [enc p.a, enc p.b, enc p.c] := rfl
theorem ty_t3 (p : T3 α β γ) : tyD (enc p) = some (false, "tuple") := rfl
theorem len_t3 (p : T3 α β γ) : lenD [enc p] = some (.int 3) := rfl
theorem lenI_t3 {T : Tbl} {φ : Sem} (p : T3 α β γ) : lenI1 T φ [enc p] = some (.int 3) := rfl
theorem fl_t3 (p : T3 α β γ) : isFlat (enc p) = false := rfl
theorem xg_t3 {W : Wd T} {gs : XGs W} {P : List Nat} {env : Py.Env} (p : T3 α β γ) : (xgT 3 gs).ev P (enc p) env = gs.ev P [enc p.a, enc p.b, enc p.c] env := by show (xgT 3 gs).ev P (.tup [enc p.a, enc p.b, enc p.c]) env = _; rw [e_xgT]; exact if_pos rfl
instance : Enc (List α) where
  enc xs := .lst (xs.map enc)
  sh _ := rfl
  dp := Enc.dp α + 1
  ok n a := by
    show okD (n + (Enc.dp α + 1)) (.lst _) = true
    rw [<- Nat.add_assoc, h_ok_lst]; exact okl_enc a (by omega)
  eq a b := by
    show eqB (.lst _) (.lst _) = _
    rw [h_eqB_ll, eql_enc]
instance : EncN (List α) := ⟨fun _ => rfl, fun a => by show eqB (.lst _) .non = _; simp [eqB], fun a => by show eqB .non (.lst _) = _; simp [eqB]⟩
structure Tp (α : Type) where
  l : List α
deriving DecidableEq
instance : Enc (Tp α) where
  enc xs := .tup (xs.l.map enc)
  sh _ := rfl
  dp := Enc.dp α + 1
  ok n a := by
    show okD (n + (Enc.dp α + 1)) (.tup _) = true
    rw [<- Nat.add_assoc, h_ok_tup]; exact okl_enc a.l (by omega)
  eq a b := by
    show eqB (.tup _) (.tup _) = _
    rw [h_eqB_tt, eql_enc]
    cases a; cases b; simp
instance : EncN (Tp α) := ⟨fun _ => rfl, fun a => by show eqB (.tup _) .non = _; simp [eqB], fun a => by show eqB .non (.tup _) = _; simp [eqB]⟩
end
def withIx {α : Type} : Nat -> List α -> List (Int × α)
  | _, [] => []
  | k, x :: xs => ((k : Int), x) :: withIx (k + 1) xs
theorem withIx_length {α : Type} : ∀ (k : Nat) (xs : List α), (withIx k xs).length = xs.length
  | _, [] => rfl
  | k, _ :: xs => congrArg (· + 1) (withIx_length (k + 1) xs)
theorem withIx_get {α : Type} : ∀ (k : Nat) (xs : List α) (i : Nat), (withIx k xs)[i]? = (xs[i]?).map fun x => (((k + i : Nat) : Int), x)
  | _, [], _ => by simp [withIx]
  | k, x :: xs, 0 => by simp [withIx]
  | k, x :: xs, i + 1 => by
    show (withIx (k + 1) xs)[i]? = _
    rw [withIx_get (k + 1) xs i, List.getElem?_cons_succ, show k + 1 + i = k + (i + 1) by omega]
theorem enumD_enc {α : Type} [DecidableEq α] [Enc α] (xs : List α) : enumD (xs.map enc) = (withIx 0 xs).map enc := by
  apply List.ext_getElem?
  intro i
  unfold enumD
  rw [List.getElem?_mapIdx, List.getElem?_map, List.getElem?_map, withIx_get]
  cases xs[i]? with
  | none => rfl
  | some x => simp only [Option.map_some, Nat.zero_add]; rfl
theorem getD_some {α : Type} {xs : List α} {i : Nat} {x d : α} (h : xs[i]? = some x) : xs.getD i d = x := by simp [List.getD, h]
theorem forL_enc {α : Type} {g : α -> D} {f : D -> Py.Env -> RS} {r : RS} : ∀ {xs : List α} {env : Py.Env} (I : List α -> Py.Env -> Prop), forL f (xs.map g) env = r -> I [] env ->
    (∀ ys x zs e, xs = ys ++ x :: zs -> I ys e -> ∃ e', (f (g x) e = .nx e' \/ f (g x) e = .ct e') /\ I (ys ++ [x]) e') -> ∃ e', r = .nx e' /\ I xs e'
  | [], env, I, h, h0, _ => ⟨env, h.symm, h0⟩
  | x :: xs, env, I, h, h0, hs => by
    obtain ⟨e', h1, h2⟩ := hs [] x xs env rfl h0
    have h : (match f (g x) env with | .nx e => forL f (xs.map g) e | .ct e => forL f (xs.map g) e | .bk e => .nx e | r => r) = r := h
    have h3 : forL f (xs.map g) e' = r := by rcases h1 with h1 | h1 <;> (rw [h1] at h; exact h)
    exact forL_enc (fun ys e => I (x :: ys) e) h3 h2 fun ys y zs e hy hi => hs (x :: ys) y zs e (by rw [hy]; rfl) hi
theorem pre_le {α : Type} {xs ys zs : List α} {x : α} (h : xs = ys ++ x :: zs) : ys.length < xs.length := by rw [h]; simp
end Py
namespace Py
open PySem L2
open Enc (enc)
section
variable {α β : Type} [DecidableEq α] [Enc α]
def kI (m : List (Int × β)) : List Key := m.map fun p => Sum.inl p.1
def vE (g : β -> D) (m : List (Int × β)) : List D := m.map fun p => g p.2
def alG (m : List (Int × β)) (k : Int) : Option β := (m.find? fun p => decide (p.1 = k)).map (·.2)
def alP (m : List (Int × β)) (k : Int) (a : β) : List (Int × β) := if (m.any fun p => decide (p.1 = k)) = true then m.map (fun p => if p.1 = k then (k, a) else p) else m ++ [(k, a)]
theorem kI_length (m : List (Int × β)) : (kI m).length = m.length := by simp [kI]
theorem vE_length (g : β -> D) (m : List (Int × β)) : (vE g m).length = m.length := by simp [vE]
theorem vE_sh {g : β -> D} (h : ∀ b, isSh (g b) = true) (m : List (Int × β)) : (vE g m).all isSh = true := by
  unfold vE
  rw [List.all_map]
  exact List.all_eq_true.mpr fun p _ => h p.2
theorem inl_eq (i j : Int) : ((Sum.inl i : Key) = Sum.inl j) = (i = j) := by
  apply propext; exact ⟨fun h => Sum.inl.inj h, fun h => by rw [h]⟩
theorem dg_al (g : β -> D) (k : Int) : ∀ m : List (Int × β), dg (kI m) (vE g m) (.inl k) = (alG m k).map g
  | [] => rfl
  | p :: m => by
    show dg (Sum.inl p.1 :: kI m) (g p.2 :: vE g m) (.inl k) = _
    unfold dg
    by_cases h : p.1 = k
    · rw [if_pos (by rw [h])]
      unfold alG
      rw [List.find?_cons_of_pos (by simpa using h)]
      rfl
    · rw [if_neg (by rw [inl_eq]; exact h), dg_al g k m]
      unfold alG
      rw [List.find?_cons_of_neg (by simpa using h)]
theorem pos_al (k : Int) : ∀ m : List (Int × β), (pos (Sum.inl k : Key) (kI m) = none /\ (m.any fun p => decide (p.1 = k)) = false) \/ ∃ j p, pos (Sum.inl k : Key) (kI m) = some j /\ m[j]? = some p /\ p.1 = k /\ (m.any fun p => decide (p.1 = k)) = true /\ m.find? (fun p => decide (p.1 = k)) = some p
  | [] => .inl ⟨rfl, rfl⟩
  | p :: m => by
    show ((if (Sum.inl p.1 : Key) = Sum.inl k then some 0 else (pos (Sum.inl k : Key) (kI m)).map (· + 1)) = none /\ _) \/ ∃ j q, (if (Sum.inl p.1 : Key) = Sum.inl k then some 0 else (pos (Sum.inl k : Key) (kI m)).map (· + 1)) = some j /\ _
    by_cases h : p.1 = k
    · rw [if_pos (by rw [h])]
      exact .inr ⟨0, p, rfl, rfl, h, by rw [List.any_cons, decide_eq_true h]; rfl, List.find?_cons_of_pos (by simpa using h)⟩
    · rw [if_neg (by rw [inl_eq]; exact h)]
      rcases pos_al k m with ⟨h1, h2⟩ | ⟨j, q, h1, h2, h3, h4, h5⟩
      · exact .inl ⟨by rw [h1]; rfl, by rw [List.any_cons, h2, decide_eq_false h]; rfl⟩
      · exact .inr ⟨j + 1, q, by rw [h1]; rfl, by simpa using h2, h3, by rw [List.any_cons, h4, Bool.or_true], by rw [List.find?_cons_of_neg (by simpa using h)]; exact h5⟩
def Nk (m : List (Int × β)) : Prop := (m.map (·.1)).Nodup
theorem alP_map {k : Int} {a : β} : ∀ {m : List (Int × β)} {j : Nat}, Nk m -> pos (Sum.inl k : Key) (kI m) = some j -> m.map (fun p => if p.1 = k then (k, a) else p) = m.set j (k, a)
  | [], _, _, h => by cases h
  | p :: m, j, hn, h => by
    have h : (if (Sum.inl p.1 : Key) = Sum.inl k then some 0 else (pos (Sum.inl k : Key) (kI m)).map (· + 1)) = some j := h
    unfold Nk at hn
    rw [List.map_cons, List.nodup_cons] at hn
    rw [List.map_cons]
    by_cases e : p.1 = k
    · rw [if_pos (by rw [e])] at h
      cases h
      rw [if_pos e, List.set_cons_zero]
      congr 1
      have : ∀ q ∈ m, (if q.1 = k then (k, a) else q) = q := fun q hq => by
        rw [if_neg]
        intro z
        exact hn.1 (by rw [e, <- z]; exact List.mem_map.mpr ⟨q, hq, rfl⟩)
      exact (List.map_congr_left this).trans (List.map_id _)
    · rw [if_neg (by rw [inl_eq]; exact e)] at h
      obtain ⟨i, h1, rfl⟩ := Option.map_eq_some_iff.mp h
      rw [if_neg e, List.set_cons_succ, alP_map hn.2 h1]
theorem putP_al {g : β -> D} (hg : ∀ b, isSh (g b) = true) {k : Int} {a : β} {m : List (Int × β)} (hn : Nk m) : putP (kI m) (vE g m) (.inl k) (g a) = some (kI (alP m k a), vE g (alP m k a)) := by
  unfold putP alP
  rcases pos_al k m with ⟨h1, h2⟩ | ⟨j, q, h1, h2, h3, h4, _⟩
  · rw [h1, if_neg (by rw [h2]; decide)]
    simp [kI, vE]
  · rw [h1, if_pos h4, alP_map hn h1]
    dsimp only
    rw [if_pos (vE_sh hg m)]
    have hj := (List.getElem?_eq_some_iff.mp h2).1
    congr 2
    · unfold kI
      rw [List.map_set]
      apply List.ext_getElem?
      intro i
      by_cases e : j = i
      · subst e
        rw [List.getElem?_set_self (by simpa using hj), List.getElem?_map, h2]
        simp [h3]
      · rw [List.getElem?_set_ne e]
    · unfold vE
      rw [List.map_set]
theorem Nk.put {k : Int} {a : β} {m : List (Int × β)} (hn : Nk m) : Nk (alP m k a) := by
  unfold Nk
  unfold alP
  rcases pos_al k m with ⟨h1, h2⟩ | ⟨j, q, h1, h2, h3, h4, _⟩
  · rw [if_neg (by rw [h2]; decide), List.map_append, List.nodup_append]
    refine ⟨hn, by simp, fun x hx y hy z => ?_⟩
    have hy : y = k := by simpa using hy
    subst z hy
    obtain ⟨p, hp, e⟩ := List.mem_map.mp hx
    have : (m.any fun p => decide (p.1 = x)) = true := List.any_eq_true.mpr ⟨p, hp, decide_eq_true e⟩
    rw [h2] at this; cases this
  · rw [if_pos h4, alP_map hn h1, List.map_set]
    have hj := (List.getElem?_eq_some_iff.mp h2).1
    have : (m.map (·.1)).set j k = m.map (·.1) := by
      apply List.ext_getElem?
      intro i
      by_cases e : j = i
      · subst e
        rw [List.getElem?_set_self (by simpa using hj), List.getElem?_map, h2, Option.map_some, h3]
      · rw [List.getElem?_set_ne e]
    show ((m.map (·.1)).set j k).Nodup
    rw [this]
    exact hn
theorem alP_length {k : Int} {a : β} {m : List (Int × β)} : (alP m k a).length <= m.length + 1 := by
  unfold alP
  split <;> simp
theorem alG_alP {k j : Int} {a : β} : ∀ {m : List (Int × β)}, alG (alP m k a) j = if j = k then some a else alG m j := by
  intro m
  unfold alP
  split
  · rename_i h
    induction m with
    | nil => cases h
    | cons p m ih =>
      rw [List.map_cons]
      unfold alG at ih ⊢
      by_cases e : p.1 = k
      · rw [if_pos e]
        by_cases z : j = k
        · rw [if_pos z, List.find?_cons_of_pos (by simpa using z.symm)]; rfl
        · rw [if_neg z, List.find?_cons_of_neg (by simpa using fun y => z y.symm), List.find?_cons_of_neg (by simpa using fun y => z (y.symm.trans e))]
          by_cases h2 : (m.any fun p => decide (p.1 = k)) = true
          · have := ih h2; rw [if_neg z] at this; exact this
          · have : ∀ q ∈ m, (if q.1 = k then (k, a) else q) = q := fun q hq => by
              rw [if_neg]
              intro y
              exact h2 (List.any_eq_true.mpr ⟨q, hq, decide_eq_true y⟩)
            rw [(List.map_congr_left this).trans (List.map_id _)]
      · rw [if_neg e]
        have h2 : (m.any fun p => decide (p.1 = k)) = true := by
          rw [List.any_cons, decide_eq_false e, Bool.false_or] at h; exact h
        by_cases z : p.1 = j
        · rw [List.find?_cons_of_pos (by simpa using z), List.find?_cons_of_pos (by simpa using z), if_neg (fun y => e (z.trans y))]
        · rw [List.find?_cons_of_neg (by simpa using z), List.find?_cons_of_neg (by simpa using z)]
          exact ih h2
  · rename_i h
    unfold alG
    rw [List.find?_append]
    by_cases z : j = k
    · rw [if_pos z]
      have : m.find? (fun p => decide (p.1 = j)) = none := by
        rw [List.find?_eq_none]
        intro q hq y
        exact h (List.any_eq_true.mpr ⟨q, hq, by rw [z] at y; exact y⟩)
      rw [this]
      simp [z]
    · rw [if_neg z]
      have : ([(k, a)] : List (Int × β)).find? (fun p => decide (p.1 = j)) = none := by
        rw [List.find?_cons_of_neg (by simpa using fun y => z y.symm)]; rfl
      rw [this]; simp
theorem kDs_al : ∀ m : List (Int × β), kDs (kI m) = some (m.map fun p => .int p.1)
  | [] => rfl
  | p :: m => by
    show (kDs (kI m)).map _ = _
    rw [kDs_al m]; rfl
theorem fzs_vE {g h : β -> D} (e : ∀ b, fz (g b) = h b) (m : List (Int × β)) : fzs (vE g m) = vE h m := by
  unfold vE
  rw [fzs_eq, List.map_map]
  exact List.map_congr_left fun p _ => e p.2
theorem dcL_al {γ : Type} {c : γ -> D} {g : β -> D} (hg : ∀ b, isSh (g b) = true) {f : D -> Option (Option (Key × D))} {ky : γ -> Int} {vl : γ -> β} : ∀ {xs : List γ} {m : List (Int × β)}, Nk m -> (∀ x ∈ xs, f (c x) = some (some (.inl (ky x), g (vl x)))) ->
    dcL f (xs.map c) (kI m, vE g m) = some (kI (xs.foldl (fun m x => alP m (ky x) (vl x)) m), vE g (xs.foldl (fun m x => alP m (ky x) (vl x)) m))
  | [], m, _, _ => rfl
  | x :: xs, m, hn, h => by
    show (f (c x)).bind (fun o => (putO (kI m, vE g m) o).bind (dcL f (xs.map c))) = _
    rw [h x (List.mem_cons_self ..), Option.bind_some]
    show (putP (kI m) (vE g m) (.inl (ky x)) (g (vl x))).bind _ = _
    rw [putP_al hg hn, Option.bind_some, dcL_al hg hn.put fun y hy => h y (List.mem_cons_of_mem _ hy)]
    rfl
def dcM {γ : Type} (ky : γ -> Int) (vl : γ -> β) (xs : List γ) : List (Int × β) := xs.foldl (fun m x => alP m (ky x) (vl x)) []
theorem dcL_al0 {γ : Type} {c : γ -> D} {g : β -> D} (hg : ∀ b, isSh (g b) = true) {f : D -> Option (Option (Key × D))} (ky : γ -> Int) (vl : γ -> β) (xs : List γ) (h : ∀ x ∈ xs, f (c x) = some (some (.inl (ky x), g (vl x)))) :
    dcL f (xs.map c) ([], []) = some (kI (dcM ky vl xs), vE g (dcM ky vl xs)) := dcL_al (m := []) hg .nil h
def alA (m : List (Int × List β)) (k : Int) (x : β) : List (Int × List β) := alP m k ((alG m k).getD [] ++ [x])
theorem appK_al {g : β -> D} {k : Int} {x : β} {m : List (Int × List β)} (hn : Nk m) (hl : m.length < 1000000) (hv : ∀ p ∈ m, p.2.length < 1000000) :
    appK (kI m) (vE (fun l : List β => .olst (l.map g)) m) (.inl k) (g x) = some (.odic (kI (alA m k x)) (vE (fun l : List β => .olst (l.map g)) (alA m k x))) := by
  unfold appK alA alG
  rw [vE_length, if_pos hl]
  rcases pos_al k m with ⟨h1, h2⟩ | ⟨j, q, h1, h2, h3, h4, h5⟩
  · have hf : m.find? (fun p => decide (p.1 = k)) = none := by
      rw [List.find?_eq_none]
      intro q hq y
      have : (m.any fun p => decide (p.1 = k)) = true := List.any_eq_true.mpr ⟨q, hq, y⟩
      rw [h2] at this; cases this
    rw [h1, hf]
    unfold alP
    rw [if_neg (by rw [h2]; decide)]
    simp [kI, vE]
  · rw [h1, h5]
    unfold alP
    rw [if_pos h4, alP_map hn h1]
    dsimp only
    have e : (vE (fun l : List β => D.olst (l.map g)) m)[j]? = some (.olst (q.2.map g)) := by
      unfold vE
      rw [List.getElem?_map, h2]; rfl
    rw [e]
    dsimp only
    rw [List.length_map, if_pos (hv q (List.mem_of_getElem? h2))]
    have hj := (List.getElem?_eq_some_iff.mp h2).1
    congr 2
    · unfold kI
      rw [List.map_set]
      apply List.ext_getElem?
      intro i
      by_cases e : j = i
      · subst e
        rw [List.getElem?_set_self (by simpa using hj), List.getElem?_map, h2]
        simp [h3]
      · rw [List.getElem?_set_ne e]
    · unfold vE
      rw [List.map_set]
      simp
end
theorem inL_int (neg : Bool) (i : Int) (xs : List Int) : inL neg (.int i) (xs.map enc) = some (.bl (if neg = true then !decide (i ∈ xs) else decide (i ∈ xs))) := by
  have h1 : fls (xs.map enc) = some (xs.map V.int) := by
    induction xs with
    | nil => rfl
    | cons x xs ih =>
      show (fl (D.int x)).bind (fun v => (fls (xs.map enc)).map (v :: ·)) = _
      rw [ih]; rfl
  have h2 : inV (.int i) (xs.map V.int) = decide (i ∈ xs) := by
    unfold inV
    rw [List.any_map]
    induction xs with
    | nil => rfl
    | cons x xs ih =>
      rw [List.any_cons, ih (by
        show fls (xs.map enc) = _
        have : (fl (D.int x)).bind (fun v => (fls (xs.map enc)).map (v :: ·)) = some (V.int x :: xs.map V.int) := h1
        cases e : fls (xs.map enc) with
        | none => rw [e] at this; cases this
        | some l => rw [e] at this; have := Option.some.inj this; injection this with _ h; rw [h])]
      show (decide (x = i) || _) = _
      by_cases e : x = i
      · subst e; simp
      · simp [e]
        exact fun y => absurd y.symm e
  unfold inL
  rw [h1]
  show some (D.bl (if neg = true then !inV (.int i) _ else inV (.int i) _)) = _
  rw [h2]
end Py
namespace Py
open PySem L2
theorem DefX.funD {K : PySem.W.Frag} {d : DefX} (hcl : d.cl = false) (e : fnXd K d = d.val) (c : d.ok K = true) : ∃ fd, FunD K d.name d.qual (defArgs d.st) (defBody d.st) (defScope d.st) (d.dvs K) (d.kws K) (d.ad K) fd := by
  obtain ⟨kp, c2⟩ := He.ba c
  unfold fnXd DefX.val at e
  rw [hcl] at e
  dsimp only at e
  unfold fnX at e
  cases q : K.lookup (d.ad K) with
  | none =>
    rw [q] at c2
    cases c2
  | some o =>
    obtain ⟨oc, od, dt, osl⟩ := o
    rw [q] at c2 e
    cases dt with
    | func fd =>
      obtain ⟨n1, n2, n3, n4, n5, n6, n7, n8, n9, n10, n11, n12, n13, n14, n15⟩ := fd
      have e2 : (some (n1, n2, n3, n4, n5, n6, n7, n15) : He.FnW) = some (d.name, d.qual, defArgs d.st, .stmts (defBody d.st), defScope d.st, mainGlobals, [], builtinsNs) := e
      simp only [Option.some.injEq, Prod.mk.injEq] at e2
      obtain ⟨h1, h2, h3, h4, h5, h6, h7, h8⟩ := e2
      subst h1 h2 h6 h7 h8
      have c3 : (PySem.W.codeIn K n13 d.qual && (He.dflB K n8 (d.dvs K) && He.kwdB K n9 (d.kws K))) = true := c2
      obtain ⟨k1, k2⟩ := He.ba c3
      obtain ⟨k3, k4⟩ := He.ba k2
      rw [h3, h4, h5] at q
      exact ⟨_, ⟨oc, od, n8, n9, n10, n11, n12, n13, n14, osl, rfl, q, k1, He.dflB_ok k3, He.kwdB_ok k4⟩, kp⟩
    | _ => cases c2
section
variable {fa : List FB} {fn : List DefX} {K : PySem.W.Frag}
theorem SaysX.fact (c : SaysX fa fn K) (i : Nat) {f : FB} (h : fa[i]? = some f := by rfl) : f K = true := by
  have c1 := (He.ba (show ((fa.all fun f => f K) && fn.all fun d => d.ok K) = true from congrArg (fun z : He.AlD => z.1) c)).1
  exact List.all_eq_true.mp c1 f (List.mem_of_getElem? h)
theorem SaysX.def_ (c : SaysX fa fn K) (i : Nat) {d : DefX} (h : fn[i]? = some d := by rfl) (hcl : d.cl = false := by rfl) : ∃ fd, FunD K d.name d.qual (defArgs d.st) (defBody d.st) (defScope d.st) (d.dvs K) (d.kws K) (d.ad K) fd := by
  have c2 := (He.ba (show ((fa.all fun f => f K) && fn.all fun d => d.ok K) = true from congrArg (fun z : He.AlD => z.1) c)).2
  have e : fn.map (fun d => fnXd K d) = fn.map DefX.val := congrArg (fun z : He.AlD => z.2) c
  have e2 : (fn.map fun d => fnXd K d)[i]? = (fn.map DefX.val)[i]? := by rw [e]
  rw [List.getElem?_map, List.getElem?_map, h] at e2
  exact DefX.funD hcl (Option.some.inj e2) (List.all_eq_true.mp c2 d (List.mem_of_getElem? h))
theorem SaysX.cld (c : SaysX fa fn K) (i : Nat) {d : DefX} (h : fn[i]? = some d := by rfl) (hcl : d.cl = true := by rfl) : fnXc K (d.ad K) = some (d.name, d.qual, defArgs d.st, .stmts (defBody d.st), defScope d.st, mainGlobals, [(("__class__" : Str), 0)], builtinsNs) := by
  have e : fn.map (fun d => fnXd K d) = fn.map DefX.val := congrArg (fun z : He.AlD => z.2) c
  have e2 : (fn.map fun d => fnXd K d)[i]? = (fn.map DefX.val)[i]? := by rw [e]
  rw [List.getElem?_map, List.getElem?_map, h] at e2
  have e3 : fnXd K d = d.val := Option.some.inj e2
  obtain ⟨q1, q2, q3, q4, q5, q6, q7⟩ := d
  have hcl : q7 = true := hcl
  subst hcl
  exact e3
end
def fLaw (T : Tbl) (P : Program) (w : World) (K : PySem.W.Frag) (cs : List String) (fl : String -> List String) (hT : ∀ c f, c ∈ cs -> T.fOk c f = true -> f ∈ fl c) (sub : String -> String -> Bool) (hs : ∀ c d, T.sub c d = sub c d)
    (xs : List String) (xsub : String -> String -> Bool) (hx : ∀ c d, T.xsub c d = xsub c d) (x1 : fXm xs xsub K = true) (x2 : fXv xs K = true) (x3 : fXc xs K = true)
    (h1 : fCls cs K = true) (h2 : fNoat cs fl K = true) (h3 : fIsT cs K = true) (h4 : fTO cs K = true) (h5 : fOT cs K = true) (h6 : fOO cs sub K = true) : Wd T where
  K := K
  P := P
  w := w
  cA := ga K
  has c := c ∈ cs
  cl c hc := by
    obtain ⟨a, b, c', d⟩ := He.cls_ok (List.all_eq_true.mp h1 c hc)
    exact ⟨a, b, c', d⟩
  na c f hc hf := He.noat_ok (List.all_eq_true.mp (List.all_eq_true.mp h2 c hc) f (hT c f hc hf))
  isT c hc := by
    obtain ⟨a, b⟩ := He.ba (List.all_eq_true.mp h3 c hc)
    obtain ⟨b, d⟩ := He.ba b
    obtain ⟨d, e⟩ := He.ba d
    exact ⟨of_decide_eq_true a, of_decide_eq_true b, of_decide_eq_true d, of_decide_eq_true e⟩
  isTO t c ht hc := of_decide_eq_true (List.all_eq_true.mp (List.all_eq_true.mp h4 t ht) c hc)
  isOT c t hc ht := of_decide_eq_true (List.all_eq_true.mp (List.all_eq_true.mp h5 c hc) t ht)
  hasX c := c ∈ xs
  xm c d hc hd := by
    rw [hx]
    exact of_decide_eq_true (He.ba (List.all_eq_true.mp (List.all_eq_true.mp x1 c hc) d hd)).1
  xk c d hc hd := by
    rw [hx]
    exact of_decide_eq_true (He.ba (List.all_eq_true.mp (List.all_eq_true.mp x1 c hc) d hd)).2
  xv c hc := of_decide_eq_true (List.all_eq_true.mp x2 c hc)
  xc c hc := by
    obtain ⟨h1, h⟩ := He.ba (List.all_eq_true.mp x3 c hc)
    obtain ⟨h2, h⟩ := He.ba h
    obtain ⟨h3, h⟩ := He.ba h
    obtain ⟨h4, h⟩ := He.ba h
    obtain ⟨h5, h⟩ := He.ba h
    obtain ⟨h6, h⟩ := He.ba h
    obtain ⟨h7, h8⟩ := He.ba h
    exact ⟨of_decide_eq_true h1, of_decide_eq_true h2, of_decide_eq_true h3, h4, of_decide_eq_true h5, of_decide_eq_true h6, of_decide_eq_true h7, of_decide_eq_true h8⟩
  isOO c d hc hd := by rw [hs]; exact of_decide_eq_true (List.all_eq_true.mp (List.all_eq_true.mp h6 c hc) d hd)
theorem fDun_ok {T : Tbl} {W : Wd T} {cs : List String} (hh : ∀ c, W.has c -> c ∈ cs) (hc : ∀ c, W.cA c = ga W.K c) (h : fDun cs W.K = true) : Dun W := by
  have g := fun c hc' => He.ba (List.all_eq_true.mp h c (hh c hc'))
  refine ⟨fun c z => hc c ▸ (g c z).1, fun c t z m => hc c ▸ List.all_eq_true.mp (He.ba (g c z).2).1 t m, fun c f z m => ?_⟩
  have := (He.ba (g c z).2).2
  rw [hc c] at m
  rw [m] at this
  exact this
theorem fPr_ok {K : PySem.W.Frag} {c f : String} (h : fPr c f K = true) : PropOf K (ga K c) (so f) (pr K c f) (pa K c f) := by
  obtain ⟨a, b⟩ := He.ba h
  obtain ⟨b, d⟩ := He.ba b
  obtain ⟨d, e⟩ := He.ba d
  refine ⟨of_decide_eq_true a, of_decide_eq_true b, of_decide_eq_true d, ?_⟩
  split at e
  · rename_i g rest q
    exact ⟨rest, by rw [q, of_decide_eq_true e]⟩
  · cases e
end Py
namespace Py
open PySem L2 NdefX
end Py
namespace Py
open PySem L2
end Py
namespace Py
open PySem L2
def b_is_integer {T : Tbl} (W : Wd T) (φ : Sem) : XS W :=
  (xsRet (xmP (xAnd (xIsi (false, "int") (xVar W 0)) (xNot (xIsi (false, "bool") (xVar W 0))))))
def l1_is_triple {T : Tbl} (W : Wd T) (φ : Sem) : XS W :=
  (xsIf (xtNot (xtTru (xCall (φ "is_integer") 1 (xaCons (xVar W 1) (xaNil W)) [] [] (fun _ => .nil)))) (xsRet (xmP (xBl W false))) (xsNext W))
def b_is_triple {T : Tbl} (W : Wd T) (φ : Sem) : XS W :=
  (xsSeq (xsIf (xtOr (xtNot (xtTru (xIsiT [(false, "list"), (false, "tuple")] (xVar W 0)))) (xtV (xNe (xLenU φ (xaCons (xVar W 0) (xaNil W))) (xInt W 3)))) (xsRet (xmP (xBl W false))) (xsNext W))
  (xsSeq (xsFrz [0] (xsFor (xiSeqU (xVar W 0)) (xgN W 1) (l1_is_triple W φ)))
  (xsRet (xmP (xAnd (xGe (xIx (xVar W 0) (xInt W 1)) (xInt W 0)) (xAnd (xGe (xIx (xVar W 0) (xInt W 2)) (xInt W 0)) (xGt (xAdd (xIx (xVar W 0) (xInt W 1)) (xIx (xVar W 0) (xInt W 2))) (xInt W 0))))))))
def l1_Counts___init__ {T : Tbl} (W : Wd T) (φ : Sem) : XS W :=
  (xsSeq (xsIf (xtNot (xtTru (xCall (φ "is_triple") 1 (xaCons (xVar W 4) (xaNil W)) [] [] (fun _ => .nil)))) (xsNever W) (xsNext W))
  (xsSeq (xsIf (xtAnd (xtV (xGt (xLenU φ (xaCons (xVar W 2) (xaNil W))) (xInt W 0))) (xtV (xLe (xIx (xVar W 4) (xInt W 0)) (xIx (xIx (xVar W 2) (xNeg (xInt W 1))) (xInt W 0))))) (xsNever W) (xsNext W))
  (xsExpr (xmAppend (plVar W 2) (xTup (xaCons (xIx (xVar W 4) (xInt W 0)) (xaCons (xIx (xVar W 4) (xInt W 1)) (xaCons (xIx (xVar W 4) (xInt W 2)) (xaNil W)))))))))
def b_Counts___init__ {T : Tbl} (W : Wd T) (φ : Sem) : XS W :=
  (xsSeq (xsAsg 2 (xmP (xLst (xaNil W))))
  (xsSeq (xsFrz [1] (xsFor (xiEnumT (xVar W 1)) (xgT 2 (xgsCons (xgN W 3) (xgsCons (xgN W 4) (xgsNil W)))) (l1_Counts___init__ W φ)))
  (xsFld (plVar W 0) "_rows" (xmVar W 2))))
def b_Counts___len__ {T : Tbl} (W : Wd T) (φ : Sem) : XS W :=
  (xsRet (xmP (xLenU φ (xaCons (xFld (xVar W 0) "_rows") (xaNil W)))))
def b_Counts_left_total {T : Tbl} (W : Wd T) (φ : Sem) : XS W :=
  (xsRet (xmP (xSum (xLc (xiSeqU (xFld (xVar W 0) "_rows")) (xgN W 1) (xtYes W) (xIx (xVar W 1) (xInt W 1))))))
def b_Counts_right_total {T : Tbl} (W : Wd T) (φ : Sem) : XS W :=
  (xsRet (xmP (xSum (xLc (xiSeqU (xFld (xVar W 0) "_rows")) (xgN W 1) (xtYes W) (xIx (xVar W 1) (xInt W 2))))))
def l1_counted_pass {T : Tbl} (W : Wd T) (φ : Sem) : XS W :=
  (xsSeq (xsAsg 10 (xmP (xIf (xtV (xEq (xVar W 3) (xStr W "left"))) (xVar W 8) (xVar W 9))))
  (xsIf (xtAnd (xtV (xEq (xLenU φ (xaCons (xVar W 6) (xaNil W))) (xInt W 0))) (xtV (xLe (xVar W 10) (xVar W 5)))) (xsAsg 5 (xmP (xSub (xVar W 5) (xVar W 10)))) (xsSeq (xsIf (xtV (xEq (xVar W 3) (xStr W "left"))) (xsExpr (xmAppend (plVar W 6) (xTup (xaCons (xVar W 7) (xaCons (xSub (xVar W 8) (xVar W 5)) (xaCons (xVar W 9) (xaNil W))))))) (xsExpr (xmAppend (plVar W 6) (xTup (xaCons (xVar W 7) (xaCons (xVar W 8) (xaCons (xSub (xVar W 9) (xVar W 5)) (xaNil W))))))))
  (xsAsg 5 (xmP (xInt W 0))))))
def b_counted_pass {T : Tbl} (W : Wd T) (φ : Sem) : XS W :=
  (xsSeq (xsFrz [2] (xsAsg 3 (xmMeth φ "build_side" 3 (plVar W 2) (xaCons (xProp φ "left_total" (xVar W 0)) (xaCons (xProp φ "right_total" (xVar W 0)) (xaNil W))))))
  (xsSeq (xsAsg 4 (xmP (xIf (xtV (xEq (xVar W 3) (xStr W "left"))) (xProp φ "left_total" (xVar W 0)) (xProp φ "right_total" (xVar W 0)))))
  (xsSeq (xsIf (xtV (xLe (xVar W 4) (xFld (xVar W 2) "room"))) (xsRet (xmP (xTup (xaCons (xStr W "all") (xaCons (xMake φ "Counts" "Counts.__init__" 2 (xaCons (xLst (xaNil W)) (xaNil W)) [] [] (fun _ => .nil)) (xaNil W)))))) (xsNext W))
  (xsSeq (xsIf (xtV (xLt (xVar W 1) (xFld (xVar W 2) "keep_from"))) (xsRet (xmP (xTup (xaCons (xStr W "none") (xaCons (xMake φ "Counts" "Counts.__init__" 2 (xaCons (xListU φ (xVar W 0)) (xaNil W)) [] [] (fun _ => .nil)) (xaNil W)))))) (xsNext W))
  (xsSeq (xsAsg 5 (xmP (xFld (xVar W 2) "room")))
  (xsSeq (xsAsg 6 (xmP (xLst (xaNil W))))
  (xsSeq (xsFrz [0] (xsFor (xiSeqU (xVar W 0)) (xgT 3 (xgsCons (xgN W 7) (xgsCons (xgN W 8) (xgsCons (xgN W 9) (xgsNil W))))) (l1_counted_pass W φ)))
  (xsFrz [6] (xsRet (xmP (xTup (xaCons (xStr W "some") (xaCons (xMake φ "Counts" "Counts.__init__" 2 (xaCons (xVar W 6) (xaNil W)) [] [] (fun _ => .nil)) (xaNil W))))))))))))))
def l1_split_counts {T : Tbl} (W : Wd T) (φ : Sem) : XS W :=
  (xsDapp (plVar W 3) (xMeth φ "part_at" 3 (xVar W 1) (xaCons (xIx (xVar W 4) (xInt W 0)) (xaCons (xVar W 2) (xaNil W)))) 4)
def b_split_counts {T : Tbl} (W : Wd T) (φ : Sem) : XS W :=
  (xsSeq (xsAsg 3 (xmP (xDnew W)))
  (xsSeq (xsFrz [0] (xsFor (xiSeqU (xVar W 0)) (xgN W 4) (l1_split_counts W φ)))
  (xsFrz [3] (xsRet (xmP (xLc (xiSeqU (xSorted (xDlist (xVar W 3)))) (xgN W 5) (xtYes W) (xTup (xaCons (xVar W 5) (xaCons (xMake φ "Counts" "Counts.__init__" 2 (xaCons (xDix (xVar W 3) (xVar W 5)) (xaNil W)) [] [] (fun _ => .nil)) (xaNil W))))))))))
def l2_counted_passes {T : Tbl} (W : Wd T) (φ : Sem) : XS W :=
  (xsExpr (xmAppend (plVar W 3) (xTup (xaCons (xCatT (xVar W 4) (xTup (xaCons (xVar W 9) (xaNil W)))) (xaCons (xVar W 10) (xaNil W))))))
def l1_counted_passes {T : Tbl} (W : Wd T) (φ : Sem) : XZ W :=
  (xzSeq (xzPlain (xsAsgG (xgT 2 (xgsCons (xgN W 4) (xgsCons (xgN W 5) (xgsNil W)))) (xmPop (plVar W 3))))
  (xzSeq (xzPlain (xsFrz [5, 2] (xsAsgG (xgT 2 (xgsCons (xgN W 6) (xgsCons (xgN W 7) (xgsNil W)))) (xmP (xCall (φ "counted_pass") 3 (xaCons (xVar W 5) (xaCons (xLenU φ (xaCons (xVar W 4) (xaNil W))) (xaCons (xVar W 2) (xaNil W)))) [] [] (fun _ => .nil))))))
  (xzSeq (xzYield (xTup (xaCons (xVar W 4) (xaCons (xVar W 6) (xaCons (xVar W 5) (xaNil W))))))
  (xzSeq (xzPlain (xsFrz [7, 1] (xsAsg 8 (xmP (xCall (φ "split_counts") 3 (xaCons (xVar W 7) (xaCons (xVar W 1) (xaCons (xAdd (xLenU φ (xaCons (xVar W 4) (xaNil W))) (xInt W 1)) (xaNil W)))) [] [] (fun _ => .nil))))))
  (xzSeq (xzPlain (xsFrz [8] (xsFor (xiSeqU (xRvS (xVar W 8) (xNeg (xInt W 1)))) (xgT 2 (xgsCons (xgN W 9) (xgsCons (xgN W 10) (xgsNil W)))) (l2_counted_passes W φ))))
  (xzNil W))))))
def b_counted_passes {T : Tbl} (W : Wd T) (φ : Sem) : XZ W :=
  (xzSeq (xzPlain (xsAsg 3 (xmP (xLst (xaCons (xTup (xaCons (xTup (xaNil W)) (xaCons (xVar W 0) (xaNil W)))) (xaNil W))))))
  (xzSeq (xzWhile (xtV (xGt (xLenU φ (xaCons (xVar W 3) (xaNil W))) (xInt W 0))) (l1_counted_passes W φ))
  (xzNil W)))
def b_rows_in {T : Tbl} (W : Wd T) (φ : Sem) : XS W :=
  (xsRet (xmP (xAdd (xProp φ "left_total" (xVar W 0)) (xProp φ "right_total" (xVar W 0)))))
def l1_writes_by_counts {T : Tbl} (W : Wd T) (φ : Sem) : XS W :=
  (xsAsg 3 (xmP (xAdd (xVar W 3) (xCall (φ "rows_in") 1 (xaCons (xVar W 5) (xaNil W)) [] [] (fun _ => .nil)))))
def b_writes_by_counts {T : Tbl} (W : Wd T) (φ : Sem) : XS W :=
  (xsSeq (xsAsg 3 (xmP (xInt W 0)))
  (xsSeq (xsFrz [0, 1, 2] (xsForG (xgCallN (gZ (φ "counted_passes")) 2 1 (xaCons (xVar W 0) (xaCons (xVar W 1) (xaNil W))) (xaCons (xVar W 2) (xaNil W))) (xgT 3 (xgsCons (xgN W 4) (xgsCons (xgN W 4) (xgsCons (xgN W 5) (xgsNil W))))) (l1_writes_by_counts W φ)))
  (xsRet (xmP (xSub (xVar W 3) (xCall (φ "rows_in") 1 (xaCons (xVar W 0) (xaNil W)) [] [] (fun _ => .nil)))))))
def l1_HashFunction___init__ {T : Tbl} (W : Wd T) (φ : Sem) : XS W :=
  (xsIf (xtNot (xtTru (xCall (φ "is_integer") 1 (xaCons (xVar W 4) (xaNil W)) [] [] (fun _ => .nil)))) (xsNever W) (xsNext W))
def b_HashFunction___init__ {T : Tbl} (W : Wd T) (φ : Sem) : XS W :=
  (xsSeq (xsIf (xtOr (xtNot (xtTru (xCall (φ "is_integer") 1 (xaCons (xVar W 1) (xaNil W)) [] [] (fun _ => .nil)))) (xtOr (xtV (xLt (xVar W 1) (xInt W 1))) (xtV (xGt (xVar W 1) (xInt W 64))))) (xsNever W) (xsNext W))
  (xsSeq (xsFrz [2] (xsForD 2 (xgN W 4) (l1_HashFunction___init__ W φ)))
  (xsSeq (xsFld (plVar W 0) "fan_out" (xmVar W 1))
  (xsSeq (xsFld (plVar W 0) "other" (xmVar W 3))
  (xsFrz [2] (xsFld (plVar W 0) "_parts" (xmP (xDcD 2 (xgN W 4) (xtYes W) (xVar W 4) (xDix (xVar W 2) (xVar W 4))))))))))
def b_HashFunction___call__ {T : Tbl} (W : Wd T) (φ : Sem) : XS W :=
  (xsFrz [1, 0] (xsRet (xmMeth φ "part_of" 2 (plVar W 0) (xaCons (xVar W 1) (xaNil W)))))
def b_HashFunction_part_of {T : Tbl} (W : Wd T) (φ : Sem) : XS W :=
  (xsSeq (xsAsg 2 (xmP (xDget2 (xFld (xVar W 0) "_parts") (xVar W 1) (xFld (xVar W 0) "other"))))
  (xsSeq (xsIf (xtOr (xtNot (xtTru (xCall (φ "is_integer") 1 (xaCons (xVar W 2) (xaNil W)) [] [] (fun _ => .nil)))) (xtOr (xtV (xLt (xVar W 2) (xInt W 0))) (xtV (xGe (xVar W 2) (xFld (xVar W 0) "fan_out"))))) (xsNever W) (xsNext W))
  (xsRet (xmMove W 2))))
def b_Family___init__ {T : Tbl} (W : Wd T) (φ : Sem) : XS W :=
  (xsSeq (xsIf (xtV (xGt (xLenU φ (xaCons (xVar W 1) (xaNil W))) (xInt W 4))) (xsNever W) (xsNext W))
  (xsFld (plVar W 0) "_functions" (xmP (xListU φ (xVar W 1)))))
def b_Family___len__ {T : Tbl} (W : Wd T) (φ : Sem) : XS W :=
  (xsRet (xmP (xLenU φ (xaCons (xFld (xVar W 0) "_functions") (xaNil W)))))
def b_Family_part_at {T : Tbl} (W : Wd T) (φ : Sem) : XS W :=
  (xsSeq (xsIf (xtV (xGt (xVar W 2) (xLenU φ (xaCons (xFld (xVar W 0) "_functions") (xaNil W))))) (xsRet (xmP (xInt W 0))) (xsNext W))
  (xsSeq (xsAsg 3 (xmP (xIx (xFld (xVar W 0) "_functions") (xSub (xVar W 2) (xInt W 1)))))
  (xsRet (xmP (xCallO φ 2 (xVar W 3) (xaCons (xVar W 1) (xaNil W)))))))
def b_Plan___init__ {T : Tbl} (W : Wd T) (φ : Sem) : XS W :=
  (xsSeq (xsIf (xtOr (xtNot (xtTru (xCall (φ "is_integer") 1 (xaCons (xVar W 1) (xaNil W)) [] [] (fun _ => .nil)))) (xtOr (xtV (xLt (xVar W 1) (xInt W 1))) (xtV (xGt (xVar W 1) (xInt W 100))))) (xsNever W) (xsNext W))
  (xsSeq (xsIf (xtAnd (xtV (xNe (xVar W 2) (xStr W "left"))) (xtAnd (xtV (xNe (xVar W 2) (xStr W "right"))) (xtV (xNe (xVar W 2) (xStr W "lesser"))))) (xsNever W) (xsNext W))
  (xsSeq (xsIf (xtOr (xtNot (xtTru (xCall (φ "is_integer") 1 (xaCons (xVar W 3) (xaNil W)) [] [] (fun _ => .nil)))) (xtOr (xtV (xLt (xVar W 3) (xInt W 0))) (xtV (xGt (xVar W 3) (xInt W 8))))) (xsNever W) (xsNext W))
  (xsSeq (xsFld (plVar W 0) "room" (xmVar W 1))
  (xsSeq (xsFld (plVar W 0) "build" (xmVar W 2))
  (xsFld (plVar W 0) "keep_from" (xmVar W 3)))))))
def b_Plan_build_side {T : Tbl} (W : Wd T) (φ : Sem) : XS W :=
  (xsSeq (xsIf (xtV (xNe (xFld (xVar W 0) "build") (xStr W "lesser"))) (xsRet (xmP (xFld (xVar W 0) "build"))) (xsNext W))
  (xsSeq (xsIf (xtV (xLt (xVar W 1) (xVar W 2))) (xsRet (xmP (xStr W "left"))) (xsNext W))
  (xsRet (xmP (xStr W "right")))))
def l1_law_draws {T : Tbl} (W : Wd T) (φ : Sem) : XS W :=
  (xsSeq (xsAsg 7 (xmP (xInt W 0)))
  (xsSeq (xsIf (xtTru (xVar W 4)) (xsSeq (xsAsg 7 (xmP (xMod (xInt1 (xaCons (xVar W 3) (xaNil W))) (xInt W 1000))))
  (xsAsg 3 (xmP (xDiv (xVar W 3) (xInt W 1000))))) (xsIf (xtV (xGt (xVar W 3) (xInt W 0))) (xsSeq (xsAsg 8 (xmP (xMod (xInt1 (xaCons (xAdd (xMul (xVar W 3) (xAdd (xInt W 48271) (xMul (xInt W 6) (xVar W 6)))) (xMul (xInt W 69621) (xVar W 6))) (xaNil W))) (xInt W 2147483647))))
  (xsSeq (xsAsg 8 (xmP (xMod (xInt1 (xaCons (xAdd (xAdd (xMul (xVar W 8) (xVar W 8)) (xMul (xInt W 40692) (xVar W 6))) (xInt W 1)) (xaNil W))) (xInt W 2147483629))))
  (xsAsg 7 (xmP (xMod (xInt1 (xaCons (xVar W 8) (xaNil W))) (xInt W 1000)))))) (xsNext W)))
  (xsExpr (xmAppend (plVar W 5) (xVar W 7)))))
def b_law_draws {T : Tbl} (W : Wd T) (φ : Sem) : XS W :=
  (xsSeq (xsAsg 3 (xmP (xInt W 0)))
  (xsSeq (xsIf (xtV (xLt (xVar W 1) (xLenU φ (xaCons (xVar W 0) (xaNil W))))) (xsAsg 3 (xmP (xAbs (xaCons (xIx (xVar W 0) (xVar W 1)) (xaNil W))))) (xsNext W))
  (xsSeq (xsAsg 4 (xmP (xGe (xVar W 3) (xPow (xInt W 10) (xInt W 18)))))
  (xsSeq (xsAsg 5 (xmP (xLst (xaNil W))))
  (xsSeq (xsFor (xiR1 (xaCons (xVar W 2) (xaNil W))) (xgN W 6) (l1_law_draws W φ))
  (xsRet (xmMove W 5)))))))
def l1_law {T : Tbl} (W : Wd T) (φ : Sem) : XS W :=
  (xsSeq (xsAsg 10 (xmP (xDisp [((xInt W 5), (xInt W 0)), ((xInt W 9), (xInt W 0))])))
  (xsSeq (xsIf (xtV (xEq (xVar W 9) (xVar W 7))) (xsAsg 10 (xmP (xDisp [((xInt W 5), (xInt W 1)), ((xInt W 9), (xInt W 0))]))) (xsNext W))
  (xsFrz [10] (xsExpr (xmAppend (plVar W 8) (xMakeN φ "HashFunction" "HashFunction.__init__" 2 1 4 [false] [] (by decide) (xaCons (xInt W 3) (xaCons (xVar W 10) (xaNil W))) (xaCons (xInt W 2) (xaNil W))))))))
def l2_law {T : Tbl} (W : Wd T) (φ : Sem) : XS W :=
  (xsAsg 14 (xmP (xAdd (xAdd (xVar W 14) (xVar W 5)) (xDiv (xVar W 16) (xVar W 4)))))
def b_law {T : Tbl} (W : Wd T) (φ : Sem) : XS W :=
  (xsSeq (xsFrz [0] (xsAsg 1 (xmP (xCall (φ "_law_draws") 3 (xaCons (xVar W 0) (xaCons (xInt W 0) (xaCons (xInt W 8) (xaNil W)))) [] [] (fun _ => .nil)))))
  (xsSeq (xsAsg 2 (xmP (xAdd (xInt W 1) (xMod (xInt1 (xaCons (xIx (xVar W 1) (xInt W 0)) (xaNil W))) (xInt W 400)))))
  (xsSeq (xsAsg 3 (xmP (xMod (xInt1 (xaCons (xAdd (xMul (xIx (xVar W 1) (xInt W 1)) (xInt W 100)) (xIx (xVar W 1) (xInt W 2))) (xaNil W))) (xInt W 100000))))
  (xsSeq (xsAsg 4 (xmP (xAdd (xInt W 1) (xMod (xInt1 (xaCons (xIx (xVar W 1) (xInt W 3)) (xaNil W))) (xInt W 100)))))
  (xsSeq (xsAsg 5 (xmP (xMod (xInt1 (xaCons (xIx (xVar W 1) (xInt W 4)) (xaNil W))) (xInt W 9))))
  (xsSeq (xsAsg 6 (xmP (xMod (xInt1 (xaCons (xIx (xVar W 1) (xInt W 5)) (xaNil W))) (xInt W 5))))
  (xsSeq (xsAsg 7 (xmP (xMod (xInt1 (xaCons (xIx (xVar W 1) (xInt W 6)) (xaNil W))) (xInt W 6))))
  (xsSeq (xsAsg 8 (xmP (xLst (xaNil W))))
  (xsSeq (xsFor (xiR2 (xaCons (xInt W 1) (xaCons (xAdd (xVar W 6) (xInt W 1)) (xaNil W)))) (xgN W 9) (l1_law W φ))
  (xsSeq (xsAsg 11 (xmP (xIx (xLst (xaCons (xStr W "right") (xaCons (xStr W "left") (xaNil W)))) (xMod (xInt1 (xaCons (xIx (xVar W 1) (xInt W 7)) (xaNil W))) (xInt W 2)))))
  (xsSeq (xsAsg 12 (xmP (xLst (xaCons (xTup (xaCons (xInt W 5) (xaCons (xInt W 0) (xaCons (xVar W 2) (xaNil W))))) (xaCons (xTup (xaCons (xInt W 9) (xaCons (xVar W 3) (xaCons (xInt W 0) (xaNil W))))) (xaNil W))))))
  (xsSeq (xsIf (xtV (xEq (xVar W 11) (xStr W "left"))) (xsAsg 12 (xmP (xLst (xaCons (xTup (xaCons (xInt W 5) (xaCons (xVar W 2) (xaCons (xInt W 0) (xaNil W))))) (xaCons (xTup (xaCons (xInt W 9) (xaCons (xInt W 0) (xaCons (xVar W 3) (xaNil W))))) (xaNil W)))))) (xsNext W))
  (xsSeq (xsIf (xtV (xEq (xVar W 3) (xInt W 0))) (xsAsg 12 (xmP (xSl (xVar W 12) none (some (xInt W 1))))) (xsNext W))
  (xsSeq (xsFrz [12] (xsAsg 13 (xmP (xMakeN φ "Plan" "Plan.__init__" 0 3 4 [false, false, false] [] (by decide) (xaNil W) (xaCons (xVar W 4) (xaCons (xVar W 11) (xaCons (xVar W 5) (xaNil W))))))))
  (xsSeq (xsFrz [13] (xsAsg 14 (xmP (xInt W 0))))
  (xsSeq (xsIf (xtV (xGt (xVar W 2) (xVar W 4))) (xsSeq (xsAsg 15 (xmP (xAdd (xVar W 5) (xDiv (xSub (xVar W 2) (xInt W 1)) (xVar W 4)))))
  (xsSeq (xsFor (xiR1 (xaCons (xVar W 2) (xaNil W))) (xgN W 16) (l2_law W φ))
  (xsSeq (xsIf (xtAnd (xtV (xLe (xInt W 1) (xVar W 7))) (xtAnd (xtV (xLe (xVar W 7) (xVar W 6))) (xtV (xLt (xVar W 7) (xVar W 15))))) (xsAsg 15 (xmVar W 7)) (xsNext W))
  (xsAsg 14 (xmP (xAdd (xVar W 14) (xMul (xVar W 3) (xVar W 15)))))))) (xsNext W))
  (xsSeq (xsFrz [8] (xsAsg 17 (xmP (xCallN (φ "writes_by_counts") 2 1 3 [false] [] (by decide) (xaCons (xMake φ "Counts" "Counts.__init__" 2 (xaCons (xVar W 12) (xaNil W)) [] [] (fun _ => .nil)) (xaCons (xMake φ "Family" "Family.__init__" 2 (xaCons (xVar W 8) (xaNil W)) [] [] (fun _ => .nil)) (xaNil W))) (xaCons (xVar W 13) (xaNil W))))))
  (xsFrz [17] (xsRet (xmP (xAnd (xIsi (false, "int") (xVar W 17)) (xAnd (xNot (xIsi (false, "bool") (xVar W 17))) (xEq (xVar W 17) (xVar W 14))))))))))))))))))))))))
def itT (c : String) : Option String := if c = "Counts" then some "_rows" else if c = "Family" then some "_functions" else none
def TT : Tbl := ⟨fun c f => (fldL c).contains f, fun _ _ => none, subT, resT, itT, xsubT⟩
theorem ik_Counts : TT.it "Counts" = some "_rows" := by simp [TT, itT]
theorem fk_Counts__rows : TT.fOk "Counts" "_rows" = true := by simp [TT, fldL]
theorem rs_Counts___call__ : TT.res "Counts" "__call__" = none := by simp [TT, resT]
theorem rs_Counts___len__ : TT.res "Counts" "__len__" = some "Counts.__len__" := by simp [TT, resT]
theorem rs_Counts_build_side : TT.res "Counts" "build_side" = none := by simp [TT, resT]
theorem rs_Counts_part_at : TT.res "Counts" "part_at" = none := by simp [TT, resT]
theorem rs_Counts_part_of : TT.res "Counts" "part_of" = none := by simp [TT, resT]
theorem rs_Counts_left_total : TT.res "Counts" "left_total" = some "Counts.left_total" := by simp [TT, resT]
theorem rs_Counts_right_total : TT.res "Counts" "right_total" = some "Counts.right_total" := by simp [TT, resT]
theorem sb_Counts_Counts : TT.sub "Counts" "Counts" = true := by simp [TT, subT]
theorem sb_Counts_HashFunction : TT.sub "Counts" "HashFunction" = false := by simp [TT, subT]
theorem sb_Counts_Family : TT.sub "Counts" "Family" = false := by simp [TT, subT]
theorem sb_Counts_Plan : TT.sub "Counts" "Plan" = false := by simp [TT, subT]
theorem ik_HashFunction : TT.it "HashFunction" = none := by simp [TT, itT]
theorem fk_HashFunction_fan_out : TT.fOk "HashFunction" "fan_out" = true := by simp [TT, fldL]
theorem fk_HashFunction_other : TT.fOk "HashFunction" "other" = true := by simp [TT, fldL]
theorem fk_HashFunction__parts : TT.fOk "HashFunction" "_parts" = true := by simp [TT, fldL]
theorem rs_HashFunction___call__ : TT.res "HashFunction" "__call__" = some "HashFunction.__call__" := by simp [TT, resT]
theorem rs_HashFunction___len__ : TT.res "HashFunction" "__len__" = none := by simp [TT, resT]
theorem rs_HashFunction_build_side : TT.res "HashFunction" "build_side" = none := by simp [TT, resT]
theorem rs_HashFunction_part_at : TT.res "HashFunction" "part_at" = none := by simp [TT, resT]
theorem rs_HashFunction_part_of : TT.res "HashFunction" "part_of" = some "HashFunction.part_of" := by simp [TT, resT]
theorem rs_HashFunction_left_total : TT.res "HashFunction" "left_total" = none := by simp [TT, resT]
theorem rs_HashFunction_right_total : TT.res "HashFunction" "right_total" = none := by simp [TT, resT]
theorem sb_HashFunction_Counts : TT.sub "HashFunction" "Counts" = false := by simp [TT, subT]
theorem sb_HashFunction_HashFunction : TT.sub "HashFunction" "HashFunction" = true := by simp [TT, subT]
theorem sb_HashFunction_Family : TT.sub "HashFunction" "Family" = false := by simp [TT, subT]
theorem sb_HashFunction_Plan : TT.sub "HashFunction" "Plan" = false := by simp [TT, subT]
theorem ik_Family : TT.it "Family" = some "_functions" := by simp [TT, itT]
theorem fk_Family__functions : TT.fOk "Family" "_functions" = true := by simp [TT, fldL]
theorem rs_Family___call__ : TT.res "Family" "__call__" = none := by simp [TT, resT]
theorem rs_Family___len__ : TT.res "Family" "__len__" = some "Family.__len__" := by simp [TT, resT]
theorem rs_Family_build_side : TT.res "Family" "build_side" = none := by simp [TT, resT]
theorem rs_Family_part_at : TT.res "Family" "part_at" = some "Family.part_at" := by simp [TT, resT]
theorem rs_Family_part_of : TT.res "Family" "part_of" = none := by simp [TT, resT]
theorem rs_Family_left_total : TT.res "Family" "left_total" = none := by simp [TT, resT]
theorem rs_Family_right_total : TT.res "Family" "right_total" = none := by simp [TT, resT]
theorem sb_Family_Counts : TT.sub "Family" "Counts" = false := by simp [TT, subT]
theorem sb_Family_HashFunction : TT.sub "Family" "HashFunction" = false := by simp [TT, subT]
theorem sb_Family_Family : TT.sub "Family" "Family" = true := by simp [TT, subT]
theorem sb_Family_Plan : TT.sub "Family" "Plan" = false := by simp [TT, subT]
theorem ik_Plan : TT.it "Plan" = none := by simp [TT, itT]
theorem fk_Plan_room : TT.fOk "Plan" "room" = true := by simp [TT, fldL]
theorem fk_Plan_build : TT.fOk "Plan" "build" = true := by simp [TT, fldL]
theorem fk_Plan_keep_from : TT.fOk "Plan" "keep_from" = true := by simp [TT, fldL]
theorem rs_Plan___call__ : TT.res "Plan" "__call__" = none := by simp [TT, resT]
theorem rs_Plan___len__ : TT.res "Plan" "__len__" = none := by simp [TT, resT]
theorem rs_Plan_build_side : TT.res "Plan" "build_side" = some "Plan.build_side" := by simp [TT, resT]
theorem rs_Plan_part_at : TT.res "Plan" "part_at" = none := by simp [TT, resT]
theorem rs_Plan_part_of : TT.res "Plan" "part_of" = none := by simp [TT, resT]
theorem rs_Plan_left_total : TT.res "Plan" "left_total" = none := by simp [TT, resT]
theorem rs_Plan_right_total : TT.res "Plan" "right_total" = none := by simp [TT, resT]
theorem sb_Plan_Counts : TT.sub "Plan" "Counts" = false := by simp [TT, subT]
theorem sb_Plan_HashFunction : TT.sub "Plan" "HashFunction" = false := by simp [TT, subT]
theorem sb_Plan_Family : TT.sub "Plan" "Family" = false := by simp [TT, subT]
theorem sb_Plan_Plan : TT.sub "Plan" "Plan" = true := by simp [TT, subT]
def tbl {T : Tbl} (W : Wd T) : String -> Option (Sem -> List D -> Option Nat -> Rz)
  | "is_integer" => some fun φ => runFn 1 (b_is_integer W φ)
  | "is_triple" => some fun φ => runFn 2 (b_is_triple W φ)
  | "Counts.__init__" => some fun φ => runFn 5 (b_Counts___init__ W φ)
  | "Counts.__len__" => some fun φ => runFn 1 (b_Counts___len__ W φ)
  | "Counts.left_total" => some fun φ => runFn 2 (b_Counts_left_total W φ)
  | "Counts.right_total" => some fun φ => runFn 2 (b_Counts_right_total W φ)
  | "counted_pass" => some fun φ => runFn 11 (b_counted_pass W φ)
  | "split_counts" => some fun φ => runFn 6 (b_split_counts W φ)
  | "counted_passes" => some fun φ => runZR 11 (b_counted_passes W φ)
  | "rows_in" => some fun φ => runFn 1 (b_rows_in W φ)
  | "writes_by_counts" => some fun φ => runFn 6 (b_writes_by_counts W φ)
  | "HashFunction.__init__" => some fun φ => runFn 5 (b_HashFunction___init__ W φ)
  | "HashFunction.__call__" => some fun φ => runFn 2 (b_HashFunction___call__ W φ)
  | "HashFunction.part_of" => some fun φ => runFn 3 (b_HashFunction_part_of W φ)
  | "Family.__init__" => some fun φ => runFn 2 (b_Family___init__ W φ)
  | "Family.__len__" => some fun φ => runFn 1 (b_Family___len__ W φ)
  | "Family.part_at" => some fun φ => runFn 4 (b_Family_part_at W φ)
  | "Plan.__init__" => some fun φ => runFn 4 (b_Plan___init__ W φ)
  | "Plan.build_side" => some fun φ => runFn 3 (b_Plan_build_side W φ)
  | "_law_draws" => some fun φ => runFn 9 (b_law_draws W φ)
  | _ => none
theorem sem_is_integer {T : Tbl} (W : Wd T) (k : Nat) (args : List D) (b : Option Nat) : semT (tbl W) (k + 1) "is_integer" args b = runFn 1 (b_is_integer W (semT (tbl W) k)) args b := rfl
theorem sem_is_triple {T : Tbl} (W : Wd T) (k : Nat) (args : List D) (b : Option Nat) : semT (tbl W) (k + 1) "is_triple" args b = runFn 2 (b_is_triple W (semT (tbl W) k)) args b := rfl
theorem sem_Counts___init__ {T : Tbl} (W : Wd T) (k : Nat) (args : List D) (b : Option Nat) : semT (tbl W) (k + 1) "Counts.__init__" args b = runFn 5 (b_Counts___init__ W (semT (tbl W) k)) args b := rfl
theorem sem_Counts___len__ {T : Tbl} (W : Wd T) (k : Nat) (args : List D) (b : Option Nat) : semT (tbl W) (k + 1) "Counts.__len__" args b = runFn 1 (b_Counts___len__ W (semT (tbl W) k)) args b := rfl
theorem sem_Counts_left_total {T : Tbl} (W : Wd T) (k : Nat) (args : List D) (b : Option Nat) : semT (tbl W) (k + 1) "Counts.left_total" args b = runFn 2 (b_Counts_left_total W (semT (tbl W) k)) args b := rfl
theorem sem_Counts_right_total {T : Tbl} (W : Wd T) (k : Nat) (args : List D) (b : Option Nat) : semT (tbl W) (k + 1) "Counts.right_total" args b = runFn 2 (b_Counts_right_total W (semT (tbl W) k)) args b := rfl
theorem sem_counted_pass {T : Tbl} (W : Wd T) (k : Nat) (args : List D) (b : Option Nat) : semT (tbl W) (k + 1) "counted_pass" args b = runFn 11 (b_counted_pass W (semT (tbl W) k)) args b := rfl
theorem sem_split_counts {T : Tbl} (W : Wd T) (k : Nat) (args : List D) (b : Option Nat) : semT (tbl W) (k + 1) "split_counts" args b = runFn 6 (b_split_counts W (semT (tbl W) k)) args b := rfl
theorem sem_counted_passes {T : Tbl} (W : Wd T) (k : Nat) (args : List D) (b : Option Nat) : semT (tbl W) (k + 1) "counted_passes" args b = runZR 11 (b_counted_passes W (semT (tbl W) k)) args b := rfl
theorem sem_rows_in {T : Tbl} (W : Wd T) (k : Nat) (args : List D) (b : Option Nat) : semT (tbl W) (k + 1) "rows_in" args b = runFn 1 (b_rows_in W (semT (tbl W) k)) args b := rfl
theorem sem_writes_by_counts {T : Tbl} (W : Wd T) (k : Nat) (args : List D) (b : Option Nat) : semT (tbl W) (k + 1) "writes_by_counts" args b = runFn 6 (b_writes_by_counts W (semT (tbl W) k)) args b := rfl
theorem sem_HashFunction___init__ {T : Tbl} (W : Wd T) (k : Nat) (args : List D) (b : Option Nat) : semT (tbl W) (k + 1) "HashFunction.__init__" args b = runFn 5 (b_HashFunction___init__ W (semT (tbl W) k)) args b := rfl
theorem sem_HashFunction___call__ {T : Tbl} (W : Wd T) (k : Nat) (args : List D) (b : Option Nat) : semT (tbl W) (k + 1) "HashFunction.__call__" args b = runFn 2 (b_HashFunction___call__ W (semT (tbl W) k)) args b := rfl
theorem sem_HashFunction_part_of {T : Tbl} (W : Wd T) (k : Nat) (args : List D) (b : Option Nat) : semT (tbl W) (k + 1) "HashFunction.part_of" args b = runFn 3 (b_HashFunction_part_of W (semT (tbl W) k)) args b := rfl
theorem sem_Family___init__ {T : Tbl} (W : Wd T) (k : Nat) (args : List D) (b : Option Nat) : semT (tbl W) (k + 1) "Family.__init__" args b = runFn 2 (b_Family___init__ W (semT (tbl W) k)) args b := rfl
theorem sem_Family_part_at {T : Tbl} (W : Wd T) (k : Nat) (args : List D) (b : Option Nat) : semT (tbl W) (k + 1) "Family.part_at" args b = runFn 4 (b_Family_part_at W (semT (tbl W) k)) args b := rfl
theorem sem_Plan___init__ {T : Tbl} (W : Wd T) (k : Nat) (args : List D) (b : Option Nat) : semT (tbl W) (k + 1) "Plan.__init__" args b = runFn 4 (b_Plan___init__ W (semT (tbl W) k)) args b := rfl
theorem sem_Plan_build_side {T : Tbl} (W : Wd T) (k : Nat) (args : List D) (b : Option Nat) : semT (tbl W) (k + 1) "Plan.build_side" args b = runFn 3 (b_Plan_build_side W (semT (tbl W) k)) args b := rfl
theorem sem_law_draws {T : Tbl} (W : Wd T) (k : Nat) (args : List D) (b : Option Nat) : semT (tbl W) (k + 1) "_law_draws" args b = runFn 9 (b_law_draws W (semT (tbl W) k)) args b := rfl
end Py
namespace Py
open PySem L2
local macro_rules | `(tactic| dsimp? only [$xs,*]) => `(tactic| dsimp only [$xs,*, xzNil, xzSeq, xzPlain, xzYield, xzWhile, xsForG, xgCall, xgCallN, xiRD, xRvS, xsSeq, xsNext, xsNever, xsAsg, xsAsgG, xsExpr, xsRet, xsIf, xsFrz, xsFor, xmP, xmVar, xmMove, xmBM, xmBM0, xmAppend, xmPop, plVar, xoNil, xoCons, xVar, xC, xInt, xBl, xStr, xOp, xSub, xMul, xDiv, xMod, xPow, xNeg, xAdd, xEq, xNe, xLt, xCmp, xLe, xGt, xGe, xAnd, xNot, xtV, xtTru, xtAnd, xtOr, xtNot, xtYes, xIf, xaNil, xaCons, xTup, xLst, xCb, xInt1, xAbs, xIx, xFld, xList, xIsi, xIsiT, xCall, xgN, xgsNil, xgsCons, xgT, xiSeq, xiR1, xiR2, xLc, xSorted, xMeth, xmMeth, xMake, xProp, xLenU, xsFld, xSl, tO, xListU, xiSeqU, xiEnumU, xiEnumT, tCls, xCallB, xbCons, xSum, xCallN, xMakeN, xDnew, xDget2, xDix, xDlist, xsForD, xsLock, xiKeysL, xpLock, xDc, xDcD, xsDapp, xCallO, xiSeq, xVar, xDisp, List.map_cons, List.map_nil, xCatT])
abbrev N_is_integer : List Str := ["thing"]
abbrev A_is_integer : List Str := ["thing"]
theorem sc_is_integer : FnScope N_is_integer A_is_integer (defScope s_is_integer) := ⟨rfl, rfl, rfl, by decide +kernel, rfl, by decide +kernel, by decide +kernel⟩
theorem bp_is_integer : BindsP "is_integer" "is_integer" s_is_integer A_is_integer := fun _ _ _ _ _ _ us hl => match us, hl with | [_], _ => rfl
abbrev N_is_triple : List Str := ["thing", "part"]
abbrev A_is_triple : List Str := ["thing"]
theorem sc_is_triple : FnScope N_is_triple A_is_triple (defScope s_is_triple) := ⟨rfl, rfl, rfl, by decide +kernel, rfl, by decide +kernel, by decide +kernel⟩
theorem bp_is_triple : BindsP "is_triple" "is_triple" s_is_triple A_is_triple := fun _ _ _ _ _ _ us hl => match us, hl with | [_], _ => rfl
abbrev N_counted_pass : List Str := ["counts", "depth", "plan", "build", "total", "free", "rest", "key", "left", "right", "rows"]
abbrev A_counted_pass : List Str := ["counts", "depth", "plan"]
theorem sc_counted_pass : FnScope N_counted_pass A_counted_pass (defScope s_counted_pass) := ⟨rfl, rfl, rfl, by decide +kernel, rfl, by decide +kernel, by decide +kernel⟩
theorem bp_counted_pass : BindsP "counted_pass" "counted_pass" s_counted_pass A_counted_pass := fun _ _ _ _ _ _ us hl => match us, hl with | [_, _, _], _ => rfl
abbrev N_split_counts : List Str := ["counts", "family", "level", "found", "row", "part"]
abbrev A_split_counts : List Str := ["counts", "family", "level"]
theorem sc_split_counts : FnScope N_split_counts A_split_counts (defScope s_split_counts) := ⟨rfl, rfl, rfl, by decide +kernel, rfl, by decide +kernel, by decide +kernel⟩
theorem bp_split_counts : BindsP "split_counts" "split_counts" s_split_counts A_split_counts := fun _ _ _ _ _ _ us hl => match us, hl with | [_, _, _], _ => rfl
abbrev N_counted_passes : List Str := ["counts", "family", "plan", "waiting", "path", "held", "how", "rest", "children", "part", "group"]
abbrev A_counted_passes : List Str := ["counts", "family", "plan"]
theorem sc_counted_passes : GScope N_counted_passes A_counted_passes (defScope s_counted_passes) := ⟨rfl, rfl, rfl, by decide +kernel, rfl, by decide +kernel, by decide +kernel⟩
abbrev N_rows_in : List Str := ["counts"]
abbrev A_rows_in : List Str := ["counts"]
theorem sc_rows_in : FnScope N_rows_in A_rows_in (defScope s_rows_in) := ⟨rfl, rfl, rfl, by decide +kernel, rfl, by decide +kernel, by decide +kernel⟩
theorem bp_rows_in : BindsP "rows_in" "rows_in" s_rows_in A_rows_in := fun _ _ _ _ _ _ us hl => match us, hl with | [_], _ => rfl
abbrev N_writes_by_counts : List Str := ["counts", "family", "plan", "reads", "_", "held"]
abbrev A_writes_by_counts : List Str := ["counts", "family", "plan"]
theorem sc_writes_by_counts : FnScope N_writes_by_counts A_writes_by_counts (defScope s_writes_by_counts) := ⟨rfl, rfl, rfl, by decide +kernel, rfl, by decide +kernel, by decide +kernel⟩
abbrev N_law_draws : List Str := ["_law_script", "_law_at", "_law_many", "_law_number", "_law_big", "_law_found", "_law_k", "_law_draw", "_law_mixed"]
abbrev A_law_draws : List Str := ["_law_script", "_law_at", "_law_many"]
theorem sc_law_draws : FnScope N_law_draws A_law_draws (defScope s_law_draws) := ⟨rfl, rfl, rfl, by decide +kernel, rfl, by decide +kernel, by decide +kernel⟩
theorem bp_law_draws : BindsP "_law_draws" "_law_draws" s_law_draws A_law_draws := fun _ _ _ _ _ _ us hl => match us, hl with | [_, _, _], _ => rfl
abbrev N_Counts___init__ : List Str := ["self", "rows", "found", "number", "row"]
abbrev A_Counts___init__ : List Str := ["self", "rows"]
theorem sc_Counts___init__ : FnScope N_Counts___init__ A_Counts___init__ (defScope s_Counts___init__) := ⟨rfl, rfl, rfl, by decide +kernel, rfl, by decide +kernel, by decide +kernel⟩
theorem bp_Counts___init__ : BindsP "__init__" "Counts.__init__" s_Counts___init__ A_Counts___init__ := fun _ _ _ _ _ _ us hl => match us, hl with | [_, _], _ => rfl
abbrev N_Counts___len__ : List Str := ["self"]
abbrev A_Counts___len__ : List Str := ["self"]
theorem sc_Counts___len__ : FnScope N_Counts___len__ A_Counts___len__ (defScope s_Counts___len__) := ⟨rfl, rfl, rfl, by decide +kernel, rfl, by decide +kernel, by decide +kernel⟩
theorem bp_Counts___len__ : BindsP "__len__" "Counts.__len__" s_Counts___len__ A_Counts___len__ := fun _ _ _ _ _ _ us hl => match us, hl with | [_], _ => rfl
abbrev N_Counts_left_total : List Str := ["self", "row"]
abbrev A_Counts_left_total : List Str := ["self"]
theorem sc_Counts_left_total : FnScope N_Counts_left_total A_Counts_left_total (defScope s_Counts_left_total) := ⟨rfl, rfl, rfl, by decide +kernel, rfl, by decide +kernel, by decide +kernel⟩
theorem bp_Counts_left_total : BindsP "left_total" "Counts.left_total" s_Counts_left_total A_Counts_left_total := fun _ _ _ _ _ _ us hl => match us, hl with | [_], _ => rfl
abbrev N_Counts_right_total : List Str := ["self", "row"]
abbrev A_Counts_right_total : List Str := ["self"]
theorem sc_Counts_right_total : FnScope N_Counts_right_total A_Counts_right_total (defScope s_Counts_right_total) := ⟨rfl, rfl, rfl, by decide +kernel, rfl, by decide +kernel, by decide +kernel⟩
theorem bp_Counts_right_total : BindsP "right_total" "Counts.right_total" s_Counts_right_total A_Counts_right_total := fun _ _ _ _ _ _ us hl => match us, hl with | [_], _ => rfl
abbrev N_HashFunction___init__ : List Str := ["self", "fan_out", "table", "other", "key"]
abbrev A_HashFunction___init__ : List Str := ["self", "fan_out", "table", "other"]
theorem sc_HashFunction___init__ : FnScope N_HashFunction___init__ A_HashFunction___init__ (defScope s_HashFunction___init__) := ⟨rfl, rfl, rfl, by decide +kernel, rfl, by decide +kernel, by decide +kernel⟩
abbrev N_HashFunction___call__ : List Str := ["self", "key"]
abbrev A_HashFunction___call__ : List Str := ["self", "key"]
theorem sc_HashFunction___call__ : FnScope N_HashFunction___call__ A_HashFunction___call__ (defScope s_HashFunction___call__) := ⟨rfl, rfl, rfl, by decide +kernel, rfl, by decide +kernel, by decide +kernel⟩
theorem bp_HashFunction___call__ : BindsP "__call__" "HashFunction.__call__" s_HashFunction___call__ A_HashFunction___call__ := fun _ _ _ _ _ _ us hl => match us, hl with | [_, _], _ => rfl
abbrev N_HashFunction_part_of : List Str := ["self", "key", "part"]
abbrev A_HashFunction_part_of : List Str := ["self", "key"]
theorem sc_HashFunction_part_of : FnScope N_HashFunction_part_of A_HashFunction_part_of (defScope s_HashFunction_part_of) := ⟨rfl, rfl, rfl, by decide +kernel, rfl, by decide +kernel, by decide +kernel⟩
theorem bp_HashFunction_part_of : BindsP "part_of" "HashFunction.part_of" s_HashFunction_part_of A_HashFunction_part_of := fun _ _ _ _ _ _ us hl => match us, hl with | [_, _], _ => rfl
abbrev N_Family___init__ : List Str := ["self", "functions"]
abbrev A_Family___init__ : List Str := ["self", "functions"]
theorem sc_Family___init__ : FnScope N_Family___init__ A_Family___init__ (defScope s_Family___init__) := ⟨rfl, rfl, rfl, by decide +kernel, rfl, by decide +kernel, by decide +kernel⟩
theorem bp_Family___init__ : BindsP "__init__" "Family.__init__" s_Family___init__ A_Family___init__ := fun _ _ _ _ _ _ us hl => match us, hl with | [_, _], _ => rfl
abbrev N_Family___len__ : List Str := ["self"]
abbrev A_Family___len__ : List Str := ["self"]
theorem sc_Family___len__ : FnScope N_Family___len__ A_Family___len__ (defScope s_Family___len__) := ⟨rfl, rfl, rfl, by decide +kernel, rfl, by decide +kernel, by decide +kernel⟩
theorem bp_Family___len__ : BindsP "__len__" "Family.__len__" s_Family___len__ A_Family___len__ := fun _ _ _ _ _ _ us hl => match us, hl with | [_], _ => rfl
abbrev N_Family_part_at : List Str := ["self", "key", "level", "function"]
abbrev A_Family_part_at : List Str := ["self", "key", "level"]
theorem sc_Family_part_at : FnScope N_Family_part_at A_Family_part_at (defScope s_Family_part_at) := ⟨rfl, rfl, rfl, by decide +kernel, rfl, by decide +kernel, by decide +kernel⟩
theorem bp_Family_part_at : BindsP "part_at" "Family.part_at" s_Family_part_at A_Family_part_at := fun _ _ _ _ _ _ us hl => match us, hl with | [_, _, _], _ => rfl
abbrev N_Plan___init__ : List Str := ["self", "room", "build", "keep_from"]
abbrev A_Plan___init__ : List Str := ["self", "room", "build", "keep_from"]
theorem sc_Plan___init__ : FnScope N_Plan___init__ A_Plan___init__ (defScope s_Plan___init__) := ⟨rfl, rfl, rfl, by decide +kernel, rfl, by decide +kernel, by decide +kernel⟩
abbrev N_Plan_build_side : List Str := ["self", "left_rows", "right_rows"]
abbrev A_Plan_build_side : List Str := ["self", "left_rows", "right_rows"]
theorem sc_Plan_build_side : FnScope N_Plan_build_side A_Plan_build_side (defScope s_Plan_build_side) := ⟨rfl, rfl, rfl, by decide +kernel, rfl, by decide +kernel, by decide +kernel⟩
theorem bp_Plan_build_side : BindsP "build_side" "Plan.build_side" s_Plan_build_side A_Plan_build_side := fun _ _ _ _ _ _ us hl => match us, hl with | [_, _, _], _ => rfl
abbrev N_Counts___iter__ : List Str := ["self"]
abbrev A_Counts___iter__ : List Str := ["self"]
theorem sc_Counts___iter__ : FnScope N_Counts___iter__ A_Counts___iter__ (defScope s_Counts___iter__) := ⟨rfl, rfl, rfl, by decide +kernel, rfl, by decide +kernel, by decide +kernel⟩
theorem bp_Counts___iter__ : BindsP "__iter__" "Counts.__iter__" s_Counts___iter__ A_Counts___iter__ := fun _ _ _ _ _ _ us hl => match us, hl with | [_], _ => rfl
abbrev N_Family___iter__ : List Str := ["self"]
abbrev A_Family___iter__ : List Str := ["self"]
theorem sc_Family___iter__ : FnScope N_Family___iter__ A_Family___iter__ (defScope s_Family___iter__) := ⟨rfl, rfl, rfl, by decide +kernel, rfl, by decide +kernel, by decide +kernel⟩
theorem bp_Family___iter__ : BindsP "__iter__" "Family.__iter__" s_Family___iter__ A_Family___iter__ := fun _ _ _ _ _ _ us hl => match us, hl with | [_], _ => rfl
abbrev N_law : List Str := ["_law_script", "_law_shape", "_law_many", "_law_probes", "_law_room", "_law_keep_from", "_law_levels", "_law_apart", "_law_functions", "_law_level", "_law_table", "_law_build", "_law_rows", "_law_plan", "_law_due", "_law_deepest", "_law_rank", "_law_told"]
abbrev A_law : List Str := ["_law_script"]
theorem sc_law : FnScope N_law A_law (defScope s_law) := ⟨rfl, rfl, rfl, by decide +kernel, rfl, by decide +kernel, by decide +kernel⟩
theorem bp_law : BindsP "law" "law" s_law A_law := fun _ _ _ _ _ _ us hl => match us, hl with | [_], _ => rfl
section
variable {W : Wd TT} {mg : Str -> Option Value} {base : Heap}
structure Cs (W : Wd TT) (mg : Str -> Option Value) : Prop where
  hasL : ∀ c, W.has c -> c ∈ clsL
  dun : Dun W
  has_Counts : W.has "Counts"
  g_Counts : mg "Counts" = some (.ref (W.cA "Counts"))
  a_Counts___init__ : MethAt W.K (W.cA "Counts") "__init__" "__init__" "Counts.__init__" s_Counts___init__ [] []
  a_Counts___len__ : MethAt W.K (W.cA "Counts") "__len__" "__len__" "Counts.__len__" s_Counts___len__ [] []
  a_Counts___iter__ : MethAt W.K (W.cA "Counts") "__iter__" "__iter__" "Counts.__iter__" s_Counts___iter__ [] []
  p_Counts_left_total : ∃ p g fd, PropOf W.K (W.cA "Counts") "left_total" p g /\ FunD W.K "left_total" "Counts.left_total" (defArgs s_Counts_left_total) (defBody s_Counts_left_total) (defScope s_Counts_left_total) [] [] g fd
  p_Counts_right_total : ∃ p g fd, PropOf W.K (W.cA "Counts") "right_total" p g /\ FunD W.K "right_total" "Counts.right_total" (defArgs s_Counts_right_total) (defBody s_Counts_right_total) (defScope s_Counts_right_total) [] [] g fd
  k_Counts : ∃ f, Mk W.K (W.cA "Counts") f
  has_HashFunction : W.has "HashFunction"
  g_HashFunction : mg "HashFunction" = some (.ref (W.cA "HashFunction"))
  a_HashFunction___init__ : MethAt W.K (W.cA "HashFunction") "__init__" "__init__" "HashFunction.__init__" s_HashFunction___init__ [] [("other", .int 0)]
  a_HashFunction___call__ : MethAt W.K (W.cA "HashFunction") "__call__" "__call__" "HashFunction.__call__" s_HashFunction___call__ [] []
  a_HashFunction_part_of : MethAt W.K (W.cA "HashFunction") "part_of" "part_of" "HashFunction.part_of" s_HashFunction_part_of [] []
  k_HashFunction : ∃ f, Mk W.K (W.cA "HashFunction") f
  has_Family : W.has "Family"
  g_Family : mg "Family" = some (.ref (W.cA "Family"))
  a_Family___init__ : MethAt W.K (W.cA "Family") "__init__" "__init__" "Family.__init__" s_Family___init__ [] []
  a_Family___len__ : MethAt W.K (W.cA "Family") "__len__" "__len__" "Family.__len__" s_Family___len__ [] []
  a_Family___iter__ : MethAt W.K (W.cA "Family") "__iter__" "__iter__" "Family.__iter__" s_Family___iter__ [] []
  a_Family_part_at : MethAt W.K (W.cA "Family") "part_at" "part_at" "Family.part_at" s_Family_part_at [] []
  k_Family : ∃ f, Mk W.K (W.cA "Family") f
  has_Plan : W.has "Plan"
  g_Plan : mg "Plan" = some (.ref (W.cA "Plan"))
  a_Plan___init__ : MethAt W.K (W.cA "Plan") "__init__" "__init__" "Plan.__init__" s_Plan___init__ [] [("build", .str (so "right")), ("keep_from", .int 0)]
  a_Plan_build_side : MethAt W.K (W.cA "Plan") "build_side" "build_side" "Plan.build_side" s_Plan_build_side [] []
  k_Plan : ∃ f, Mk W.K (W.cA "Plan") f
  v_WIDEST : ∃ t, mg "WIDEST" = some (.int 64 t)
  v_MOST_LEVELS : ∃ t, mg "MOST_LEVELS" = some (.int 4 t)
  v_MOST_ROOM : ∃ t, mg "MOST_ROOM" = some (.int 100 t)
  v_DEEPEST_KEEP : ∃ t, mg "DEEPEST_KEEP" = some (.int 8 t)
structure Ds (W : Wd TT) (mg : Str -> Option Value) (base : Heap) (φ : Sem) (k : Nat) : Prop where
  its : Its W.P W.w W.K mg base W
  d_is_integer : ∀ b, (∀ i, b = some i -> i < 1) -> Df W.P W.w W.K mg base (L2.CX W.P W.w) k "is_integer" A_is_integer (spR W 1 (φ "is_integer") b)
  d_is_triple : ∀ b, (∀ i, b = some i -> i < 1) -> Df W.P W.w W.K mg base (L2.CX W.P W.w) k "is_triple" A_is_triple (spR W 1 (φ "is_triple") b)
  d_counted_pass : ∀ b, (∀ i, b = some i -> i < 3) -> Df W.P W.w W.K mg base (L2.CX W.P W.w) k "counted_pass" A_counted_pass (spR W 3 (φ "counted_pass") b)
  d_split_counts : ∀ b, (∀ i, b = some i -> i < 3) -> Df W.P W.w W.K mg base (L2.CX W.P W.w) k "split_counts" A_split_counts (spR W 3 (φ "split_counts") b)
  z_counted_passes : GfD W.P W.w W.K mg base (k + 1) "counted_passes" "counted_passes" s_counted_passes A_counted_passes (futZ W 3 (gZ (φ "counted_passes")))
  d_rows_in : ∀ b, (∀ i, b = some i -> i < 1) -> Df W.P W.w W.K mg base (L2.CX W.P W.w) k "rows_in" A_rows_in (spR W 1 (φ "rows_in") b)
  d_writes_by_counts : ∀ b, (∀ i, b = some i -> i < 3) -> DfD W.P W.w W.K mg base k "writes_by_counts" "writes_by_counts" s_writes_by_counts [] A_writes_by_counts (spR W 3 (φ "writes_by_counts") b)
  d_law_draws : ∀ b, (∀ i, b = some i -> i < 3) -> Df W.P W.w W.K mg base (L2.CX W.P W.w) k "_law_draws" A_law_draws (spR W 3 (φ "_law_draws") b)
  m___call__ : ∀ b, (∀ i, b = some i -> i < 2) -> Mt W.P W.w W.K mg base W k "__call__" 2 φ b
  m___len__ : ∀ b, (∀ i, b = some i -> i < 1) -> Mt W.P W.w W.K mg base W k "__len__" 1 φ b
  m_build_side : ∀ b, (∀ i, b = some i -> i < 3) -> Mt W.P W.w W.K mg base W k "build_side" 3 φ b
  m_part_at : ∀ b, (∀ i, b = some i -> i < 3) -> Mt W.P W.w W.K mg base W k "part_at" 3 φ b
  m_part_of : ∀ b, (∀ i, b = some i -> i < 2) -> Mt W.P W.w W.K mg base W k "part_of" 2 φ b
  p_left_total : Pp W.P W.w W.K mg base W k "left_total" φ
  p_right_total : Pp W.P W.w W.K mg base W k "right_total" φ
  mk_Counts : MkAt W.P W.w W.K mg base k "Counts" (W.cA "Counts") 2 (spR W 2 (φ "Counts.__init__") (some 0))
  mk_HashFunction : MkD W.P W.w W.K mg base k "HashFunction" (W.cA "HashFunction") "HashFunction.__init__" s_HashFunction___init__ [("other", .int 0)] A_HashFunction___init__ (spR W 4 (φ "HashFunction.__init__") (some 0))
  mk_Family : MkAt W.P W.w W.K mg base k "Family" (W.cA "Family") 2 (spR W 2 (φ "Family.__init__") (some 0))
  mk_Plan : MkD W.P W.w W.K mg base k "Plan" (W.cA "Plan") "Plan.__init__" s_Plan___init__ [("build", .str (so "right")), ("keep_from", .int 0)] A_Plan___init__ (spR W 4 (φ "Plan.__init__") (some 0))
theorem it_all (C : Cs W mg) (B : Blt mg) : Its W.P W.w W.K mg base W := by
  refine ⟨fun c f hc hf => ?_⟩
  have hm := C.hasL c hc
  simp only [clsL, List.mem_cons, List.not_mem_nil, or_false] at hm
  rcases hm with rfl | rfl | rfl | rfl
  · rw [ik_Counts] at hf; cases hf
    exact it_of C.a_Counts___iter__.ex sc_Counts___iter__ bp_Counts___iter__ rfl (by decide) (W.cl _ hc) (W.na _ _ hc fk_Counts__rows) fun g cdv A out s H => pss_one (ps_ret (pe_callB ItX.call_iterN (by rfl) B.iter (by decide +kernel) (pa_cons (pe_fld (pv 0) rfl) pa_nil)))
  · rw [ik_HashFunction] at hf; cases hf
  · rw [ik_Family] at hf; cases hf
    exact it_of C.a_Family___iter__.ex sc_Family___iter__ bp_Family___iter__ rfl (by decide) (W.cl _ hc) (W.na _ _ hc fk_Family__functions) fun g cdv A out s H => pss_one (ps_ret (pe_callB ItX.call_iterN (by rfl) B.iter (by decide +kernel) (pa_cons (pe_fld (pv 0) rfl) pa_nil)))
  · rw [ik_Plan] at hf; cases hf
theorem callF_all (C : Cs W mg) : CallFn W W.K := by
  refine callFn_of fun c nm hc hr => ?_
  have hm := C.hasL c hc
  simp only [clsL, List.mem_cons, List.not_mem_nil, or_false] at hm
  rcases hm with rfl | rfl | rfl | rfl
  · rw [rs_Counts___call__] at hr; cases hr
  · rw [rs_HashFunction___call__] at hr; cases hr; exact ⟨_, _, _, _, _, C.a_HashFunction___call__⟩
  · rw [rs_Family___call__] at hr; cases hr
  · rw [rs_Plan___call__] at hr; cases hr
theorem ks_counted_passes_0 {K : PySem.W.Frag} : KShape K "counted_passes" "counted_passes" s_counted_passes [] A_counted_passes 2 ["plan"] [false] [] := kshape0 fun _ _ _ _ _ _ us ws h1 h2 => match us, ws, h1, h2 with | [_, _], [_], _, _ => rfl
theorem ks_HashFunction___init___1 {K : PySem.W.Frag} : KShape K "__init__" "HashFunction.__init__" s_HashFunction___init__ [("other", .int 0)] A_HashFunction___init__ 3 ["other"] [false] [] := kshape1 [] (by simp) (by simp) fun _ _ _ _ _ _ us mv ws h1 h2 h3 => match us, mv, ws, h1, h2, h3 with | [_, _, _], [], [_], _, _, _ => rfl
theorem ks_Plan___init___2 {K : PySem.W.Frag} : KShape K "__init__" "Plan.__init__" s_Plan___init__ [("build", .str (so "right")), ("keep_from", .int 0)] A_Plan___init__ 1 ["room", "build", "keep_from"] [false, false, false] [] := kshape1 [] (by simp) (by simp) fun _ _ _ _ _ _ us mv ws h1 h2 h3 => match us, mv, ws, h1, h2, h3 with | [_], [], [_, _, _], _, _, _ => rfl
theorem ks_writes_by_counts_3 {K : PySem.W.Frag} : KShape K "writes_by_counts" "writes_by_counts" s_writes_by_counts [] A_writes_by_counts 2 ["plan"] [false] [] := kshape0 fun _ _ _ _ _ _ us ws h1 h2 => match us, ws, h1, h2 with | [_, _], [_], _, _ => rfl
theorem ok_is_integer {φ : Sem} {k : Nat} (D : Ds W mg base φ k) (C : Cs W mg) (D' : DefAt W.K mg "is_integer" "is_integer" s_is_integer [] []) (B : Blt mg) : ∀ b, (∀ i, b = some i -> i < 1) -> Df W.P W.w W.K mg base (L2.CX W.P W.w) (k + 4) "is_integer" A_is_integer (spR W 1 (runFn 1 (b_is_integer W φ)) b) := by
  intro b hb
  refine df_of D' sc_is_integer bp_is_integer spR_len fun f cdv A outer s H vs Q E hr hsp => ⟨(b_is_integer W φ).t (fun c d _ H => E c d H), ?_, fn_run (N := N_is_integer) hb hsp⟩
  dsimp? only [b_is_integer]
  exact (pss_one (ps_ret (pe_and (px_isi (n := "int") B.isinstance B.int (pv 0)) (pe_one (pe_not (px_isi (n := "bool") B.isinstance B.bool (pv 0)))))))
theorem ok_is_triple {φ : Sem} {k : Nat} (D : Ds W mg base φ k) (C : Cs W mg) (D' : DefAt W.K mg "is_triple" "is_triple" s_is_triple [] []) (B : Blt mg) : ∀ b, (∀ i, b = some i -> i < 1) -> Df W.P W.w W.K mg base (L2.CX W.P W.w) (k + 4) "is_triple" A_is_triple (spR W 1 (runFn 2 (b_is_triple W φ)) b) := by
  intro b hb
  refine df_of D' sc_is_triple bp_is_triple spR_len fun f cdv A outer s H vs Q E hr hsp => ⟨(b_is_triple W φ).t (fun c d _ H => E c d H), ?_, fn_run (N := N_is_triple) hb hsp⟩
  dsimp? only [b_is_triple, l1_is_triple]
  exact (pss_cons (ps_if (PW.pt (pw_or (pt_not (pt_truU (px_isiT (cs := [(false, "list"), (false, "tuple")]) B.isinstance (by decide) (by decide) (pv 0) (pa_cons (px_ty (n := "list") B.list) (pa_cons (px_ty (n := "tuple") B.tuple) pa_nil))))) (pw_or1 (pt_cmpR (opNe hr.units) (pe_callB (CallR.or call_lenA (call_lenI (D.m___len__ none (by nofun)) (ro1 hr) rfl)) (by rfl) B.len (by decide +kernel) (pa_cons (pv 0) pa_nil)) pe_int (nomark _))))) (pss_one (ps_ret pe_bl)) pss_nil)
      (pss_cons (ps_for cx_po rfl (pi_or (pi_seqU (pv 0)) (pi_own D.its (hr.mono (by omega)) rfl (pv 0))) (pg_name (i := 1) sc_is_triple.nd rfl (Or.inl rfl)) (pss_one (ps_if (pt_not (pt_truU (px_call (D.d_is_integer none (by nofun)) (ro0 hr) rfl (pa_cons (pv 1) pa_nil)))) (pss_one (ps_ret pe_bl)) pss_nil)))
      (pss_one (ps_ret (pe_and (pe_cmpR op_ge (pe_ix ixU (pv 0) pe_int (fun _ _ => rfl)) pe_int (nomark _)) (pe_and (pe_cmpR op_ge (pe_ix ixU (pv 0) pe_int (fun _ _ => rfl)) pe_int (nomark _)) (pe_one (pe_cmpR op_gt (pe_op opAdd (pe_ix ixU (pv 0) pe_int (fun _ _ => rfl)) (pe_ix ixU (pv 0) pe_int (fun _ _ => rfl))) pe_int (nomark _)))))))))
theorem ok_counted_pass {φ : Sem} {k : Nat} (D : Ds W mg base φ k) (C : Cs W mg) (D' : DefAt W.K mg "counted_pass" "counted_pass" s_counted_pass [] []) (B : Blt mg) : ∀ b, (∀ i, b = some i -> i < 3) -> Df W.P W.w W.K mg base (L2.CX W.P W.w) (k + 4) "counted_pass" A_counted_pass (spR W 3 (runFn 11 (b_counted_pass W φ)) b) := by
  intro b hb
  refine df_of D' sc_counted_pass bp_counted_pass spR_len fun f cdv A outer s H vs Q E hr hsp => ⟨(b_counted_pass W φ).t (fun c d _ H => E c d H), ?_, fn_run (N := N_counted_pass) hb hsp⟩
  dsimp? only [b_counted_pass, l1_counted_pass]
  exact (pss_cons (ps_set (i := 3) sc_counted_pass.nd rfl (Or.inl rfl) (pe_alt (px_methX (D.m_build_side none (by nofun)) cx_tk (ro0 hr) rfl (pv 2) (pa_cons (px_prop D.p_left_total (ro1 hr) rfl (pv 0) rfl) (pa_cons (px_prop D.p_right_total (ro1 hr) rfl (pv 0) rfl) pa_nil))) (px_methX (D.m_build_side (some 0) (fun i h => by cases h; decide)) cx_tk (ro0 hr) rfl (pv 2) (pa_cons (px_prop D.p_left_total (ro1 hr) rfl (pv 0) rfl) (pa_cons (px_prop D.p_right_total (ro1 hr) rfl (pv 0) rfl) pa_nil)))))
      (pss_cons (ps_set (i := 4) sc_counted_pass.nd rfl (Or.inl rfl) (pe_ifExp (pt_cmpR (opEq hr.units) (pv 3) pe_str (nomark _)) (px_prop D.p_left_total (ro1 hr) rfl (pv 0) rfl) (px_prop D.p_right_total (ro1 hr) rfl (pv 0) rfl)))
      (pss_cons (ps_if (pt_cmpR op_le (pv 4) (pe_fld (pv 2) rfl) (nomark _)) (pss_one (ps_ret (pe_tup (pa_cons pe_str (pa_cons (px_make D.mk_Counts C.has_Counts (ro1 hr) rfl (pa_cons (pe_lst pa_nil) pa_nil)) pa_nil))))) pss_nil)
      (pss_cons (ps_if (pt_cmpR (opLt hr.units0) (pv 1) (pe_fld (pv 2) rfl) (nomark _)) (pss_one (ps_ret (pe_tup (pa_cons pe_str (pa_cons (px_make D.mk_Counts C.has_Counts (ro1 hr) rfl (pa_cons (pe_callTy (CallR.or call_listU (call_listI (D.m___len__ none (by nofun)) D.its hr rfl)) (by rfl) B.list (by decide +kernel) (pa_cons (pv 0) pa_nil)) pa_nil)) pa_nil))))) pss_nil)
      (pss_cons (ps_set (i := 5) sc_counted_pass.nd rfl (Or.inl rfl) (pe_fld (pv 2) rfl))
      (pss_cons (ps_set (i := 6) sc_counted_pass.nd rfl (Or.inl rfl) (pe_lst pa_nil))
      (pss_cons (ps_for cx_po rfl (pi_or (pi_seqU (pv 0)) (pi_own D.its (hr.mono (by omega)) rfl (pv 0))) (pg_tup rfl (pgs_cons (pg_name (i := 7) sc_counted_pass.nd rfl (Or.inl rfl)) (pgs_cons (pg_name (i := 8) sc_counted_pass.nd rfl (Or.inl rfl)) (pgs_cons (pg_name (i := 9) sc_counted_pass.nd rfl (Or.inl rfl)) pgs_nil)))) (pss_cons (ps_set (i := 10) sc_counted_pass.nd rfl (Or.inl rfl) (pe_ifExp (pt_cmpR (opEq hr.units) (pv 3) pe_str (nomark _)) (pv 8) (pv 9)))
      (pss_one (ps_if (PW.pt (pw_and (pt_cmpR (opEq hr.units) (pe_callB (CallR.or call_lenA (call_lenI (D.m___len__ none (by nofun)) (ro1 hr) rfl)) (by rfl) B.len (by decide +kernel) (pa_cons (pv 6) pa_nil)) pe_int (nomark _)) (pw_and1 (pt_cmpR op_le (pv 10) (pv 5) (nomark _))))) (pss_one (ps_set (i := 5) sc_counted_pass.nd rfl (Or.inl rfl) (pe_op op_sub (pv 5) (pv 10)))) (pss_cons (ps_if (pt_cmpR (opEq hr.units) (pv 3) pe_str (nomark _)) (pss_one (ps_expr (pe_bm PySem.F.plainAttrs_list PySem.F.slot_list_append PySem.F.type_list_append mt_append (pv 6) (pa_cons (pe_tup (pa_cons (pv 7) (pa_cons (pe_op op_sub (pv 8) (pv 5)) (pa_cons (pv 9) pa_nil)))) pa_nil)))) (pss_one (ps_expr (pe_bm PySem.F.plainAttrs_list PySem.F.slot_list_append PySem.F.type_list_append mt_append (pv 6) (pa_cons (pe_tup (pa_cons (pv 7) (pa_cons (pv 8) (pa_cons (pe_op op_sub (pv 9) (pv 5)) pa_nil)))) pa_nil)))))
      (pss_one (ps_set (i := 5) sc_counted_pass.nd rfl (Or.inl rfl) pe_int)))))))
      (pss_one (ps_ret (pe_tup (pa_cons pe_str (pa_cons (px_make D.mk_Counts C.has_Counts (ro1 hr) rfl (pa_cons (pv 6) pa_nil)) pa_nil))))))))))))
theorem ok_split_counts {φ : Sem} {k : Nat} (D : Ds W mg base φ k) (C : Cs W mg) (D' : DefAt W.K mg "split_counts" "split_counts" s_split_counts [] []) (B : Blt mg) : ∀ b, (∀ i, b = some i -> i < 3) -> Df W.P W.w W.K mg base (L2.CX W.P W.w) (k + 4) "split_counts" A_split_counts (spR W 3 (runFn 6 (b_split_counts W φ)) b) := by
  intro b hb
  refine df_of D' sc_split_counts bp_split_counts spR_len fun f cdv A outer s H vs Q E hr hsp => ⟨(b_split_counts W φ).t (fun c d _ H => E c d H), ?_, fn_run (N := N_split_counts) hb hsp⟩
  dsimp? only [b_split_counts, l1_split_counts]
  exact (pss_cons (ps_set (i := 3) sc_split_counts.nd rfl (Or.inr rfl) pe_dnewK)
      (pss_cons (ps_for cx_po rfl (pi_or (pi_seqU (pv 0)) (pi_own D.its (hr.mono (by omega)) rfl (pv 0))) (pg_name (i := 4) sc_split_counts.nd rfl (Or.inl rfl)) (pss_one (ps_expr (pe_bm PySem.F.plainAttrs_list PySem.F.slot_list_append PySem.F.type_list_append mt_append (pe_dsetd (pv 3) (px_meth (D.m_part_at none (by nofun)) (ro0 hr) rfl (pv 1) (pa_cons (pe_ix ixU (pv 4) pe_int (fun _ _ => rfl)) (pa_cons (pv 2) pa_nil))) (pe_lst pa_nil) ⟨rfl, rfl, rfl, rfl⟩) (pa_cons (pv 4) pa_nil)))))
      (pss_one (ps_ret (pe_lc (own := [("part", 5)]) rfl sc_split_counts.nd (pi_or (pi_seqU (pe_callB (cr_sortedD hr.units) (by rfl) B.sorted (by decide +kernel) (pa_cons (pe_callTy (call_listD rfl) (by rfl) B.list (by decide +kernel) (pa_cons (pv 3) pa_nil)) pa_nil))) (pi_own D.its (hr.mono (by omega)) rfl (pe_callB (cr_sortedD hr.units) (by rfl) B.sorted (by decide +kernel) (pa_cons (pe_callTy (call_listD rfl) (by rfl) B.list (by decide +kernel) (pa_cons (pv 3) pa_nil)) pa_nil)))) (blkOk_by (own := [("part", 5)]) (N := N_split_counts) (sc := defScope s_split_counts) (by decide +kernel)) (fun _ _ _ _ _ => (pg_name (i := 5) sc_split_counts.nd rfl (Or.inl rfl))) (fun _ _ _ _ _ => pts_nil) (fun _ _ _ _ _ => (pe_tup (pa_cons (pv 5) (pa_cons (px_make D.mk_Counts C.has_Counts (ro1 hr) rfl (pa_cons (pe_dget (hu1 hr) (pv 3) (pv 5) (fun _ _ => rfl)) pa_nil)) pa_nil)))))))))
theorem ok_counted_passes {φ : Sem} {k : Nat} (D : Ds W mg base φ k) (C : Cs W mg) (D' : DefAt W.K mg "counted_passes" "counted_passes" s_counted_passes [] []) (B : Blt mg) : GfD W.P W.w W.K mg base (k + 5) "counted_passes" "counted_passes" s_counted_passes A_counted_passes (futZ W 3 (runZ 11 (b_counted_passes W φ))) := by
  refine gfD_of D' sc_counted_passes fun f cdv A outer n0 a go g hX hr => ⟨(b_counted_passes W φ).t, ?_, fun vs n G H h => genZ_run (N := N_counted_passes) h⟩
  replace hr := hr.mono (show k + 3 <= k + 4 by omega)
  dsimp? only [b_counted_passes, l1_counted_passes, l2_counted_passes]
  exact (gts_cons (gt_ps fun s H => (ps_set (i := 3) sc_counted_passes.nd rfl (Or.inl rfl) (pe_lst (pa_cons (pe_tup (pa_cons (pe_tup pa_nil) (pa_cons (pv 0) pa_nil))) pa_nil))))
      (gts_cons (gt_while (fun s H => (pt_cmpR op_gt (pe_callB (CallR.or call_lenA (call_lenI (D.m___len__ none (by nofun)) (ro1 hr) rfl)) (by rfl) B.len (by decide +kernel) (pa_cons (pv 3) pa_nil)) pe_int (nomark _))) (gts_cons (gt_ps fun s H => (ps_asg (pe_bm0 PySem.F.plainAttrs_list PySem.F.slot_list_pop PySem.F.type_list_pop mt_pop (pv 3)) (pg_tup rfl (pgs_cons (pg_name (i := 4) sc_counted_passes.nd rfl (Or.inl rfl)) (pgs_cons (pg_name (i := 5) sc_counted_passes.nd rfl (Or.inl rfl)) pgs_nil)))))
      (gts_cons (gt_ps fun s H => (ps_asg (px_call (D.d_counted_pass none (by nofun)) (ro0 hr) rfl (pa_cons (pv 5) (pa_cons (pe_callB (CallR.or call_lenA (call_lenI (D.m___len__ none (by nofun)) (ro1 hr) rfl)) (by rfl) B.len (by decide +kernel) (pa_cons (pv 4) pa_nil)) (pa_cons (pv 2) pa_nil)))) (pg_tup rfl (pgs_cons (pg_name (i := 6) sc_counted_passes.nd rfl (Or.inl rfl)) (pgs_cons (pg_name (i := 7) sc_counted_passes.nd rfl (Or.inl rfl)) pgs_nil)))))
      (gts_cons (gt_yield hX fun s H => (pe_tup (pa_cons (pv 4) (pa_cons (pv 6) (pa_cons (pv 5) pa_nil)))))
      (gts_cons (gt_ps fun s H => (ps_set (i := 8) sc_counted_passes.nd rfl (Or.inl rfl) (px_call (D.d_split_counts none (by nofun)) (ro0 hr) rfl (pa_cons (pv 7) (pa_cons (pv 1) (pa_cons (pe_op opAdd (pe_callB (CallR.or call_lenA (call_lenI (D.m___len__ none (by nofun)) (ro1 hr) rfl)) (by rfl) B.len (by decide +kernel) (pa_cons (pv 4) pa_nil)) pe_int) pa_nil))))))
      (gts_cons (gt_ps fun s H => (ps_for PassesOwn.never rfl (pi_or (pi_seqU (pe_rvs (pv 8) (pe_un un_neg pe_int))) (pi_own D.its (hr.mono (by omega)) rfl (pe_rvs (pv 8) (pe_un un_neg pe_int)))) (pg_tup rfl (pgs_cons (pg_name (i := 9) sc_counted_passes.nd rfl (Or.inl rfl)) (pgs_cons (pg_name (i := 10) sc_counted_passes.nd rfl (Or.inl rfl)) pgs_nil))) (pss_one (ps_expr (pe_bm PySem.F.plainAttrs_list PySem.F.slot_list_append PySem.F.type_list_append mt_append (pv 3) (pa_cons (pe_tup (pa_cons (pe_op op_catA (pv 4) (pe_tup (pa_cons (pv 9) pa_nil))) (pa_cons (pv 10) pa_nil))) pa_nil))))))
      gts_nil))))))
      gts_nil))
theorem ok_rows_in {φ : Sem} {k : Nat} (D : Ds W mg base φ k) (C : Cs W mg) (D' : DefAt W.K mg "rows_in" "rows_in" s_rows_in [] []) (B : Blt mg) : ∀ b, (∀ i, b = some i -> i < 1) -> Df W.P W.w W.K mg base (L2.CX W.P W.w) (k + 4) "rows_in" A_rows_in (spR W 1 (runFn 1 (b_rows_in W φ)) b) := by
  intro b hb
  refine df_of D' sc_rows_in bp_rows_in spR_len fun f cdv A outer s H vs Q E hr hsp => ⟨(b_rows_in W φ).t (fun c d _ H => E c d H), ?_, fn_run (N := N_rows_in) hb hsp⟩
  dsimp? only [b_rows_in]
  exact (pss_one (ps_ret (pe_op opAdd (px_prop D.p_left_total (ro1 hr) rfl (pv 0) rfl) (px_prop D.p_right_total (ro1 hr) rfl (pv 0) rfl))))
theorem ok_writes_by_counts {φ : Sem} {k : Nat} (D : Ds W mg base φ k) (C : Cs W mg) (D' : DefAt W.K mg "writes_by_counts" "writes_by_counts" s_writes_by_counts [] []) (B : Blt mg) : ∀ b, (∀ i, b = some i -> i < 3) -> DfD W.P W.w W.K mg base (k + 4) "writes_by_counts" "writes_by_counts" s_writes_by_counts [] A_writes_by_counts (spR W 3 (runFn 6 (b_writes_by_counts W φ)) b) := by
  intro b hb
  refine dfD_of D' sc_writes_by_counts spR_len fun f cdv A outer s H vs Q E hr hsp => ⟨(b_writes_by_counts W φ).t (fun c d _ H => E c d H), ?_, fn_run (N := N_writes_by_counts) hb hsp⟩
  dsimp? only [b_writes_by_counts, l1_writes_by_counts]
  exact (pss_cons (ps_set (i := 3) sc_writes_by_counts.nd rfl (Or.inl rfl) pe_int)
      (pss_cons (ps_forT (hr.mono (by omega)) (pgent_callN D.z_counted_passes ks_counted_passes_0 rfl (fun zs h => by match zs, h with | [_], _ => rfl) (hr.mono (by omega)) rfl (pa_cons (pv 0) (pa_cons (pv 1) pa_nil)) (pk_cons (pv 2) pk_nil)) (pg_tup rfl (pgs_cons (pg_name (i := 4) sc_writes_by_counts.nd rfl (Or.inl rfl)) (pgs_cons (pg_name (i := 4) sc_writes_by_counts.nd rfl (Or.inl rfl)) (pgs_cons (pg_name (i := 5) sc_writes_by_counts.nd rfl (Or.inl rfl)) pgs_nil)))) (pss_one (ps_set (i := 3) sc_writes_by_counts.nd rfl (Or.inl rfl) (pe_op opAdd (pv 3) (px_call (D.d_rows_in none (by nofun)) (ro0 hr) rfl (pa_cons (pv 5) pa_nil))))))
      (pss_one (ps_ret (pe_op op_sub (pv 3) (px_call (D.d_rows_in none (by nofun)) (ro0 hr) rfl (pa_cons (pv 0) pa_nil)))))))
theorem ok_law_draws {φ : Sem} {k : Nat} (D : Ds W mg base φ k) (C : Cs W mg) (D' : DefAt W.K mg "_law_draws" "_law_draws" s_law_draws [] []) (B : Blt mg) : ∀ b, (∀ i, b = some i -> i < 3) -> Df W.P W.w W.K mg base (L2.CX W.P W.w) (k + 4) "_law_draws" A_law_draws (spR W 3 (runFn 9 (b_law_draws W φ)) b) := by
  intro b hb
  refine df_of D' sc_law_draws bp_law_draws spR_len fun f cdv A outer s H vs Q E hr hsp => ⟨(b_law_draws W φ).t (fun c d _ H => E c d H), ?_, fn_run (N := N_law_draws) hb hsp⟩
  dsimp? only [b_law_draws, l1_law_draws]
  exact (pss_cons (ps_set (i := 3) sc_law_draws.nd rfl (Or.inl rfl) pe_int)
      (pss_cons (ps_if (pt_cmpR (opLt hr.units0) (pv 1) (pe_callB (CallR.or call_lenA (call_lenI (D.m___len__ none (by nofun)) (ro1 hr) rfl)) (by rfl) B.len (by decide +kernel) (pa_cons (pv 0) pa_nil)) (nomark _)) (pss_one (ps_set (i := 3) sc_law_draws.nd rfl (Or.inl rfl) (pe_callB call_absU (by rfl) B.abs (by decide +kernel) (pa_cons (pe_ix ixU (pv 0) (pv 1) (fun _ _ => rfl)) pa_nil)))) pss_nil)
      (pss_cons (ps_set (i := 4) sc_law_draws.nd rfl (Or.inl rfl) (pe_cmpR op_ge (pv 3) (pe_op op_pow pe_int pe_int) (nomark _)))
      (pss_cons (ps_set (i := 5) sc_law_draws.nd rfl (Or.inl rfl) (pe_lst pa_nil))
      (pss_cons (ps_for cx_po rfl (pi_range1 rfl B.range (pa_cons (pv 2) pa_nil)) (pg_name (i := 6) sc_law_draws.nd rfl (Or.inl rfl)) (pss_cons (ps_set (i := 7) sc_law_draws.nd rfl (Or.inl rfl) pe_int)
      (pss_cons (ps_if (pt_truU (pv 4)) (pss_cons (ps_set (i := 7) sc_law_draws.nd rfl (Or.inl rfl) (pe_op op_mod (pe_callTy call_intU (by rfl) B.int (by decide +kernel) (pa_cons (pv 3) pa_nil)) pe_int))
      (pss_one (ps_set (i := 3) sc_law_draws.nd rfl (Or.inl rfl) (pe_op opDiv (pv 3) pe_int)))) (pss_one (ps_if (pt_cmpR op_gt (pv 3) pe_int (nomark _)) (pss_cons (ps_set (i := 8) sc_law_draws.nd rfl (Or.inl rfl) (pe_op op_mod (pe_callTy call_intU (by rfl) B.int (by decide +kernel) (pa_cons (pe_op opAdd (pe_op opMul (pv 3) (pe_op opAdd pe_int (pe_op opMul pe_int (pv 6)))) (pe_op opMul pe_int (pv 6))) pa_nil)) pe_int))
      (pss_cons (ps_set (i := 8) sc_law_draws.nd rfl (Or.inl rfl) (pe_op op_mod (pe_callTy call_intU (by rfl) B.int (by decide +kernel) (pa_cons (pe_op opAdd (pe_op opAdd (pe_op opMul (pv 8) (pv 8)) (pe_op opMul pe_int (pv 6))) pe_int) pa_nil)) pe_int))
      (pss_one (ps_set (i := 7) sc_law_draws.nd rfl (Or.inl rfl) (pe_op op_mod (pe_callTy call_intU (by rfl) B.int (by decide +kernel) (pa_cons (pv 8) pa_nil)) pe_int))))) pss_nil)))
      (pss_one (ps_expr (pe_bm PySem.F.plainAttrs_list PySem.F.slot_list_append PySem.F.type_list_append mt_append (pv 5) (pa_cons (pv 7) pa_nil)))))))
      (pss_one (ps_ret (pv 5))))))))
theorem ok_Counts___init__ {φ : Sem} {k : Nat} (D : Ds W mg base φ k) (C : Cs W mg) {C0 : Addr} (D' : MethAt W.K C0 "__init__" "__init__" "Counts.__init__" s_Counts___init__ [] []) (B : Blt mg) : ∀ b, (∀ i, b = some i -> i < 2) -> MdOk W.P W.w W.K mg base (k + 4) C0 "__init__" 2 (spR W 2 (runFn 5 (b_Counts___init__ W φ)) b) := by
  intro b hb
  refine md_of D' sc_Counts___init__ bp_Counts___init__ rfl spR_len fun f cdv A outer s H vs Q E hr hsp => ⟨(b_Counts___init__ W φ).t (fun c d _ H => E c d H), ?_, fn_run (N := N_Counts___init__) hb hsp⟩
  dsimp? only [b_Counts___init__, l1_Counts___init__]
  exact (pss_cons (ps_set (i := 2) sc_Counts___init__.nd rfl (Or.inl rfl) (pe_lst pa_nil))
      (pss_cons (ps_for cx_po rfl (pi_or (pi_or (pi_enum (by rfl) B.enumerate (pa_cons (pv 1) pa_nil)) (pi_enumOwn D.its (hr.mono (by omega)) rfl (by rfl) B.enumerate (pa_cons (pv 1) pa_nil))) (pi_enumT (by rfl) B.enumerate (pa_cons (pv 1) pa_nil))) (pg_tup rfl (pgs_cons (pg_name (i := 3) sc_Counts___init__.nd rfl (Or.inl rfl)) (pgs_cons (pg_name (i := 4) sc_Counts___init__.nd rfl (Or.inl rfl)) pgs_nil))) (pss_cons (ps_if (pt_not (pt_truU (px_call (D.d_is_triple none (by nofun)) (ro0 hr) rfl (pa_cons (pv 4) pa_nil)))) (pss_one ps_never) pss_nil)
      (pss_cons (ps_if (PW.pt (pw_and (pt_cmpR op_gt (pe_callB (CallR.or call_lenA (call_lenI (D.m___len__ none (by nofun)) (ro1 hr) rfl)) (by rfl) B.len (by decide +kernel) (pa_cons (pv 2) pa_nil)) pe_int (nomark _)) (pw_and1 (pt_cmpR op_le (pe_ix ixU (pv 4) pe_int (fun _ _ => rfl)) (pe_ix ixU (pe_ix ixU (pv 2) (pe_un un_neg pe_int) (fun _ _ => rfl)) pe_int (fun _ _ => rfl)) (nomark _))))) (pss_one ps_never) pss_nil)
      (pss_one (ps_expr (pe_bm PySem.F.plainAttrs_list PySem.F.slot_list_append PySem.F.type_list_append mt_append (pv 2) (pa_cons (pe_tup (pa_cons (pe_ix ixU (pv 4) pe_int (fun _ _ => rfl)) (pa_cons (pe_ix ixU (pv 4) pe_int (fun _ _ => rfl)) (pa_cons (pe_ix ixU (pv 4) pe_int (fun _ _ => rfl)) pa_nil)))) pa_nil)))))))
      (pss_one (ps_fld (pv 0) (pv 2) rfl))))
theorem ok_Counts___len__ {φ : Sem} {k : Nat} (D : Ds W mg base φ k) (C : Cs W mg) {C0 : Addr} (D' : MethAt W.K C0 "__len__" "__len__" "Counts.__len__" s_Counts___len__ [] []) (B : Blt mg) : ∀ b, (∀ i, b = some i -> i < 1) -> MdOk W.P W.w W.K mg base (k + 4) C0 "__len__" 1 (spR W 1 (runFn 1 (b_Counts___len__ W φ)) b) := by
  intro b hb
  refine md_of D' sc_Counts___len__ bp_Counts___len__ rfl spR_len fun f cdv A outer s H vs Q E hr hsp => ⟨(b_Counts___len__ W φ).t (fun c d _ H => E c d H), ?_, fn_run (N := N_Counts___len__) hb hsp⟩
  dsimp? only [b_Counts___len__]
  exact (pss_one (ps_ret (pe_callB (CallR.or call_lenA (call_lenI (D.m___len__ none (by nofun)) (ro1 hr) rfl)) (by rfl) B.len (by decide +kernel) (pa_cons (pe_fld (pv 0) rfl) pa_nil))))
theorem ok_Counts_left_total {φ : Sem} {k : Nat} (D : Ds W mg base φ k) (C : Cs W mg) {g0 : Addr} {fd0 : FuncData} (F0 : FunD W.K "left_total" "Counts.left_total" (defArgs s_Counts_left_total) (defBody s_Counts_left_total) (defScope s_Counts_left_total) [] [] g0 fd0) (B : Blt mg) : FnOk W.P W.w W.K mg base (L2.CX W.P W.w) (k + 4) g0 fd0 A_Counts_left_total (spR W 1 (runFn 2 (b_Counts_left_total W φ)) none) := by
  refine pw_of F0 sc_Counts_left_total spR_len fun f cdv A outer s H vs Q E hr hsp => ⟨(b_Counts_left_total W φ).t (fun c d _ H => E c d H), ?_, fn_run (N := N_Counts_left_total) (by intro i h; cases h) hsp⟩
  dsimp? only [b_Counts_left_total]
  exact (pss_one (ps_ret (pe_callB (cr_sum2 rfl) (by rfl) B.sum (by decide +kernel) (pa_cons (pe_lc (own := [("row", 1)]) rfl sc_Counts_left_total.nd (pi_or (pi_seqU (pe_fld (pv 0) rfl)) (pi_own D.its (hr.mono (by omega)) rfl (pe_fld (pv 0) rfl))) (blkOk_by (own := [("row", 1)]) (N := N_Counts_left_total) (sc := defScope s_Counts_left_total) (by decide +kernel)) (fun _ _ _ _ _ => (pg_name (i := 1) sc_Counts_left_total.nd rfl (Or.inl rfl))) (fun _ _ _ _ _ => pts_nil) (fun _ _ _ _ _ => (pe_ix ixU (pv 1) pe_int (fun _ _ => rfl)))) pa_nil))))
theorem ok_Counts_right_total {φ : Sem} {k : Nat} (D : Ds W mg base φ k) (C : Cs W mg) {g0 : Addr} {fd0 : FuncData} (F0 : FunD W.K "right_total" "Counts.right_total" (defArgs s_Counts_right_total) (defBody s_Counts_right_total) (defScope s_Counts_right_total) [] [] g0 fd0) (B : Blt mg) : FnOk W.P W.w W.K mg base (L2.CX W.P W.w) (k + 4) g0 fd0 A_Counts_right_total (spR W 1 (runFn 2 (b_Counts_right_total W φ)) none) := by
  refine pw_of F0 sc_Counts_right_total spR_len fun f cdv A outer s H vs Q E hr hsp => ⟨(b_Counts_right_total W φ).t (fun c d _ H => E c d H), ?_, fn_run (N := N_Counts_right_total) (by intro i h; cases h) hsp⟩
  dsimp? only [b_Counts_right_total]
  exact (pss_one (ps_ret (pe_callB (cr_sum2 rfl) (by rfl) B.sum (by decide +kernel) (pa_cons (pe_lc (own := [("row", 1)]) rfl sc_Counts_right_total.nd (pi_or (pi_seqU (pe_fld (pv 0) rfl)) (pi_own D.its (hr.mono (by omega)) rfl (pe_fld (pv 0) rfl))) (blkOk_by (own := [("row", 1)]) (N := N_Counts_right_total) (sc := defScope s_Counts_right_total) (by decide +kernel)) (fun _ _ _ _ _ => (pg_name (i := 1) sc_Counts_right_total.nd rfl (Or.inl rfl))) (fun _ _ _ _ _ => pts_nil) (fun _ _ _ _ _ => (pe_ix ixU (pv 1) pe_int (fun _ _ => rfl)))) pa_nil))))
theorem ok_HashFunction___init__ {φ : Sem} {k : Nat} (D : Ds W mg base φ k) (C : Cs W mg) {C0 : Addr} {x0 : Str} {f00 : Addr} (M0 : Mk W.K C0 f00) (hm0 : mg x0 = some (.ref C0)) (D' : MethAt W.K C0 "__init__" "__init__" "HashFunction.__init__" s_HashFunction___init__ [] [("other", .int 0)]) (B : Blt mg) : MkD W.P W.w W.K mg base (k + 4) x0 C0 "HashFunction.__init__" s_HashFunction___init__ [("other", .int 0)] A_HashFunction___init__ (spR W 4 (runFn 5 (b_HashFunction___init__ W φ)) (some 0)) := by
  refine mkD_of M0 hm0 D' sc_HashFunction___init__ spR_len fun f cdv A outer s H vs Q E hr hsp => ⟨(b_HashFunction___init__ W φ).t (fun c d _ H => E c d H), ?_, fn_run (N := N_HashFunction___init__) (fun i h => by cases h; decide) hsp⟩
  dsimp? only [b_HashFunction___init__, l1_HashFunction___init__]
  exact (pss_cons (ps_if (PW.pt (pw_or (pt_not (pt_truU (px_call (D.d_is_integer none (by nofun)) (ro0 hr) rfl (pa_cons (pv 1) pa_nil)))) (pw_or (pt_cmpR (opLt hr.units0) (pv 1) pe_int (nomark _)) (pw_or1 (pt_cmpR op_gt (pv 1) (px_glI C.v_WIDEST) (nomark _)))))) (pss_one ps_never) pss_nil)
      (pss_cons (ps_forD (ps_for cx_po rfl (pi_keys (pv 2)) (pg_name (i := 4) sc_HashFunction___init__.nd rfl (Or.inl rfl)) (pss_one (ps_if (pt_not (pt_truU (px_call (D.d_is_integer none (by nofun)) (ro0 hr) rfl (pa_cons (pv 4) pa_nil)))) (pss_one ps_never) pss_nil))))
      (pss_cons (ps_fld (pv 0) (pv 1) rfl)
      (pss_cons (ps_fld (pv 0) (pv 3) rfl)
      (pss_one (ps_fld (pv 0) (pe_lockU (pe_dc (own := [("key", 4)]) rfl sc_HashFunction___init__.nd (pi_keys (pv 2)) (blkOk_by (own := [("key", 4)]) (N := N_HashFunction___init__) (sc := defScope s_HashFunction___init__) (by decide +kernel)) (fun _ _ _ _ _ => (pg_name (i := 4) sc_HashFunction___init__.nd rfl (Or.inl rfl))) (fun _ _ _ _ _ => pts_nil) (fun _ _ _ _ _ => (pv 4)) (fun _ _ _ _ _ => (pe_dget (hu1 hr) (pv 2) (pv 4) (fun _ _ => rfl))))) rfl))))))
theorem ok_HashFunction___call__ {φ : Sem} {k : Nat} (D : Ds W mg base φ k) (C : Cs W mg) {C0 : Addr} (D' : MethAt W.K C0 "__call__" "__call__" "HashFunction.__call__" s_HashFunction___call__ [] []) (B : Blt mg) : ∀ b, (∀ i, b = some i -> i < 2) -> MdOk W.P W.w W.K mg base (k + 4) C0 "__call__" 2 (spR W 2 (runFn 2 (b_HashFunction___call__ W φ)) b) := by
  intro b hb
  refine md_of D' sc_HashFunction___call__ bp_HashFunction___call__ rfl spR_len fun f cdv A outer s H vs Q E hr hsp => ⟨(b_HashFunction___call__ W φ).t (fun c d _ H => E c d H), ?_, fn_run (N := N_HashFunction___call__) hb hsp⟩
  dsimp? only [b_HashFunction___call__]
  exact (pss_one (ps_ret (pe_alt (px_methX (D.m_part_of none (by nofun)) cx_tk (ro0 hr) rfl (pv 0) (pa_cons (pv 1) pa_nil)) (px_methX (D.m_part_of (some 0) (fun i h => by cases h; decide)) cx_tk (ro0 hr) rfl (pv 0) (pa_cons (pv 1) pa_nil)))))
theorem ok_HashFunction_part_of {φ : Sem} {k : Nat} (D : Ds W mg base φ k) (C : Cs W mg) {C0 : Addr} (D' : MethAt W.K C0 "part_of" "part_of" "HashFunction.part_of" s_HashFunction_part_of [] []) (B : Blt mg) : ∀ b, (∀ i, b = some i -> i < 2) -> MdOk W.P W.w W.K mg base (k + 4) C0 "part_of" 2 (spR W 2 (runFn 3 (b_HashFunction_part_of W φ)) b) := by
  intro b hb
  refine md_of D' sc_HashFunction_part_of bp_HashFunction_part_of rfl spR_len fun f cdv A outer s H vs Q E hr hsp => ⟨(b_HashFunction_part_of W φ).t (fun c d _ H => E c d H), ?_, fn_run (N := N_HashFunction_part_of) hb hsp⟩
  dsimp? only [b_HashFunction_part_of]
  exact (pss_cons (ps_set (i := 2) sc_HashFunction_part_of.nd rfl (Or.inl rfl) (pe_dget2N (hu1 hr) (pe_fld (pv 0) rfl) (pv 1) (pe_fld (pv 0) rfl) ⟨rfl, rfl, rfl, rfl⟩))
      (pss_cons (ps_if (PW.pt (pw_or (pt_not (pt_truU (px_call (D.d_is_integer none (by nofun)) (ro0 hr) rfl (pa_cons (pv 2) pa_nil)))) (pw_or (pt_cmpR (opLt hr.units0) (pv 2) pe_int (nomark _)) (pw_or1 (pt_cmpR op_ge (pv 2) (pe_fld (pv 0) rfl) (nomark _)))))) (pss_one ps_never) pss_nil)
      (pss_one (ps_ret (pv 2)))))
theorem ok_Family___init__ {φ : Sem} {k : Nat} (D : Ds W mg base φ k) (C : Cs W mg) {C0 : Addr} (D' : MethAt W.K C0 "__init__" "__init__" "Family.__init__" s_Family___init__ [] []) (B : Blt mg) : ∀ b, (∀ i, b = some i -> i < 2) -> MdOk W.P W.w W.K mg base (k + 4) C0 "__init__" 2 (spR W 2 (runFn 2 (b_Family___init__ W φ)) b) := by
  intro b hb
  refine md_of D' sc_Family___init__ bp_Family___init__ rfl spR_len fun f cdv A outer s H vs Q E hr hsp => ⟨(b_Family___init__ W φ).t (fun c d _ H => E c d H), ?_, fn_run (N := N_Family___init__) hb hsp⟩
  dsimp? only [b_Family___init__]
  exact (pss_cons (ps_if (pt_cmpR op_gt (pe_callB (CallR.or call_lenA (call_lenI (D.m___len__ none (by nofun)) (ro1 hr) rfl)) (by rfl) B.len (by decide +kernel) (pa_cons (pv 1) pa_nil)) (px_glI C.v_MOST_LEVELS) (nomark _)) (pss_one ps_never) pss_nil)
      (pss_one (ps_fld (pv 0) (pe_callTy (CallR.or call_listU (call_listI (D.m___len__ none (by nofun)) D.its hr rfl)) (by rfl) B.list (by decide +kernel) (pa_cons (pv 1) pa_nil)) rfl)))
theorem ok_Family___len__ {φ : Sem} {k : Nat} (D : Ds W mg base φ k) (C : Cs W mg) {C0 : Addr} (D' : MethAt W.K C0 "__len__" "__len__" "Family.__len__" s_Family___len__ [] []) (B : Blt mg) : ∀ b, (∀ i, b = some i -> i < 1) -> MdOk W.P W.w W.K mg base (k + 4) C0 "__len__" 1 (spR W 1 (runFn 1 (b_Family___len__ W φ)) b) := by
  intro b hb
  refine md_of D' sc_Family___len__ bp_Family___len__ rfl spR_len fun f cdv A outer s H vs Q E hr hsp => ⟨(b_Family___len__ W φ).t (fun c d _ H => E c d H), ?_, fn_run (N := N_Family___len__) hb hsp⟩
  dsimp? only [b_Family___len__]
  exact (pss_one (ps_ret (pe_callB (CallR.or call_lenA (call_lenI (D.m___len__ none (by nofun)) (ro1 hr) rfl)) (by rfl) B.len (by decide +kernel) (pa_cons (pe_fld (pv 0) rfl) pa_nil))))
theorem ok_Family_part_at {φ : Sem} {k : Nat} (D : Ds W mg base φ k) (C : Cs W mg) {C0 : Addr} (D' : MethAt W.K C0 "part_at" "part_at" "Family.part_at" s_Family_part_at [] []) (B : Blt mg) : ∀ b, (∀ i, b = some i -> i < 3) -> MdOk W.P W.w W.K mg base (k + 4) C0 "part_at" 3 (spR W 3 (runFn 4 (b_Family_part_at W φ)) b) := by
  intro b hb
  refine md_of D' sc_Family_part_at bp_Family_part_at rfl spR_len fun f cdv A outer s H vs Q E hr hsp => ⟨(b_Family_part_at W φ).t (fun c d _ H => E c d H), ?_, fn_run (N := N_Family_part_at) hb hsp⟩
  dsimp? only [b_Family_part_at]
  exact (pss_cons (ps_if (pt_cmpR op_gt (pv 2) (pe_callB (CallR.or call_lenA (call_lenI (D.m___len__ none (by nofun)) (ro1 hr) rfl)) (by rfl) B.len (by decide +kernel) (pa_cons (pe_fld (pv 0) rfl) pa_nil)) (nomark _)) (pss_one (ps_ret pe_int)) pss_nil)
      (pss_cons (ps_set (i := 3) sc_Family_part_at.nd rfl (Or.inl rfl) (pe_ix ixU (pe_fld (pv 0) rfl) (pe_op op_sub (pv 2) pe_int) (fun _ _ => rfl)))
      (pss_one (ps_ret (px_callO (D.m___call__ none (by nofun)) (callF_all C) (ro0 hr) rfl (pv 3) (pa_cons (pv 1) pa_nil))))))
theorem ok_Plan___init__ {φ : Sem} {k : Nat} (D : Ds W mg base φ k) (C : Cs W mg) {C0 : Addr} {x0 : Str} {f00 : Addr} (M0 : Mk W.K C0 f00) (hm0 : mg x0 = some (.ref C0)) (D' : MethAt W.K C0 "__init__" "__init__" "Plan.__init__" s_Plan___init__ [] [("build", .str (so "right")), ("keep_from", .int 0)]) (B : Blt mg) : MkD W.P W.w W.K mg base (k + 4) x0 C0 "Plan.__init__" s_Plan___init__ [("build", .str (so "right")), ("keep_from", .int 0)] A_Plan___init__ (spR W 4 (runFn 4 (b_Plan___init__ W φ)) (some 0)) := by
  refine mkD_of M0 hm0 D' sc_Plan___init__ spR_len fun f cdv A outer s H vs Q E hr hsp => ⟨(b_Plan___init__ W φ).t (fun c d _ H => E c d H), ?_, fn_run (N := N_Plan___init__) (fun i h => by cases h; decide) hsp⟩
  dsimp? only [b_Plan___init__]
  exact (pss_cons (ps_if (PW.pt (pw_or (pt_not (pt_truU (px_call (D.d_is_integer none (by nofun)) (ro0 hr) rfl (pa_cons (pv 1) pa_nil)))) (pw_or (pt_cmpR (opLt hr.units0) (pv 1) pe_int (nomark _)) (pw_or1 (pt_cmpR op_gt (pv 1) (px_glI C.v_MOST_ROOM) (nomark _)))))) (pss_one ps_never) pss_nil)
      (pss_cons (ps_if (PW.pt (pw_and (pt_cmpR (opNe hr.units) (pv 2) pe_str (nomark _)) (pw_and (pt_cmpR (opNe hr.units) (pv 2) pe_str (nomark _)) (pw_and1 (pt_cmpR (opNe hr.units) (pv 2) pe_str (nomark _)))))) (pss_one ps_never) pss_nil)
      (pss_cons (ps_if (PW.pt (pw_or (pt_not (pt_truU (px_call (D.d_is_integer none (by nofun)) (ro0 hr) rfl (pa_cons (pv 3) pa_nil)))) (pw_or (pt_cmpR (opLt hr.units0) (pv 3) pe_int (nomark _)) (pw_or1 (pt_cmpR op_gt (pv 3) (px_glI C.v_DEEPEST_KEEP) (nomark _)))))) (pss_one ps_never) pss_nil)
      (pss_cons (ps_fld (pv 0) (pv 1) rfl)
      (pss_cons (ps_fld (pv 0) (pv 2) rfl)
      (pss_one (ps_fld (pv 0) (pv 3) rfl)))))))
theorem ok_Plan_build_side {φ : Sem} {k : Nat} (D : Ds W mg base φ k) (C : Cs W mg) {C0 : Addr} (D' : MethAt W.K C0 "build_side" "build_side" "Plan.build_side" s_Plan_build_side [] []) (B : Blt mg) : ∀ b, (∀ i, b = some i -> i < 3) -> MdOk W.P W.w W.K mg base (k + 4) C0 "build_side" 3 (spR W 3 (runFn 3 (b_Plan_build_side W φ)) b) := by
  intro b hb
  refine md_of D' sc_Plan_build_side bp_Plan_build_side rfl spR_len fun f cdv A outer s H vs Q E hr hsp => ⟨(b_Plan_build_side W φ).t (fun c d _ H => E c d H), ?_, fn_run (N := N_Plan_build_side) hb hsp⟩
  dsimp? only [b_Plan_build_side]
  exact (pss_cons (ps_if (pt_cmpR (opNe hr.units) (pe_fld (pv 0) rfl) pe_str (nomark _)) (pss_one (ps_ret (pe_fld (pv 0) rfl))) pss_nil)
      (pss_cons (ps_if (pt_cmpR (opLt hr.units0) (pv 1) (pv 2) (nomark _)) (pss_one (ps_ret pe_str)) pss_nil)
      (pss_one (ps_ret pe_str))))
theorem ok_law {φ : Sem} {k : Nat} (D : Ds W mg base φ k) (C : Cs W mg) {f0 : Addr} {fd0 : FuncData} (F0 : FunD W.K "law" "law" (defArgs s_law) (defBody s_law) (defScope s_law) [] [] f0 fd0) (B : Blt mg) (hL : ∀ vs H Q E, spL W.K vs H Q E -> spR W 1 (runFn 18 (b_law W φ)) none vs H Q E) : FnOk W.P W.w W.K mg base CX0 (k + 4) f0 fd0 A_law (spL W.K) := by
  refine lw_of F0 sc_law spL_len fun f cdv A outer s H vs Q E hr hsp => ⟨(b_law W φ).t (fun c d _ H => E0 c d H), ?_, fn_run (N := N_law) (by intro i h; cases h) (hL vs H Q E0 hsp)⟩
  dsimp? only [b_law, l1_law, l2_law]
  exact (pss_cons (ps_set (i := 1) sc_law.nd rfl (Or.inl rfl) (px_call (D.d_law_draws none (by nofun)) (ro0 hr) rfl (pa_cons (pv 0) (pa_cons pe_int (pa_cons pe_int pa_nil)))))
      (pss_cons (ps_set (i := 2) sc_law.nd rfl (Or.inl rfl) (pe_op opAdd pe_int (pe_op op_mod (pe_callTy call_intU (by rfl) B.int (by decide +kernel) (pa_cons (pe_ix ixU (pv 1) pe_int (fun _ _ => rfl)) pa_nil)) pe_int)))
      (pss_cons (ps_set (i := 3) sc_law.nd rfl (Or.inl rfl) (pe_op op_mod (pe_callTy call_intU (by rfl) B.int (by decide +kernel) (pa_cons (pe_op opAdd (pe_op opMul (pe_ix ixU (pv 1) pe_int (fun _ _ => rfl)) pe_int) (pe_ix ixU (pv 1) pe_int (fun _ _ => rfl))) pa_nil)) pe_int))
      (pss_cons (ps_set (i := 4) sc_law.nd rfl (Or.inl rfl) (pe_op opAdd pe_int (pe_op op_mod (pe_callTy call_intU (by rfl) B.int (by decide +kernel) (pa_cons (pe_ix ixU (pv 1) pe_int (fun _ _ => rfl)) pa_nil)) pe_int)))
      (pss_cons (ps_set (i := 5) sc_law.nd rfl (Or.inl rfl) (pe_op op_mod (pe_callTy call_intU (by rfl) B.int (by decide +kernel) (pa_cons (pe_ix ixU (pv 1) pe_int (fun _ _ => rfl)) pa_nil)) pe_int))
      (pss_cons (ps_set (i := 6) sc_law.nd rfl (Or.inl rfl) (pe_op op_mod (pe_callTy call_intU (by rfl) B.int (by decide +kernel) (pa_cons (pe_ix ixU (pv 1) pe_int (fun _ _ => rfl)) pa_nil)) pe_int))
      (pss_cons (ps_set (i := 7) sc_law.nd rfl (Or.inl rfl) (pe_op op_mod (pe_callTy call_intU (by rfl) B.int (by decide +kernel) (pa_cons (pe_ix ixU (pv 1) pe_int (fun _ _ => rfl)) pa_nil)) pe_int))
      (pss_cons (ps_set (i := 8) sc_law.nd rfl (Or.inl rfl) (pe_lst pa_nil))
      (pss_cons (ps_for PassesOwn.never rfl (pi_range2 rfl B.range (pa_cons pe_int (pa_cons (pe_op opAdd (pv 6) pe_int) pa_nil))) (pg_name (i := 9) sc_law.nd rfl (Or.inl rfl)) (pss_cons (ps_set (i := 10) sc_law.nd rfl (Or.inl rfl) (pe_disp (pps_cons pe_int pe_int (pps_cons pe_int pe_int pps_nil)) rfl rfl (by simp) (by decide)))
      (pss_cons (ps_if (pt_cmpR (opEq hr.units) (pv 9) (pv 7) (nomark _)) (pss_one (ps_set (i := 10) sc_law.nd rfl (Or.inl rfl) (pe_disp (pps_cons pe_int pe_int (pps_cons pe_int pe_int pps_nil)) rfl rfl (by simp) (by decide)))) pss_nil)
      (pss_one (ps_expr (pe_bm PySem.F.plainAttrs_list PySem.F.slot_list_append PySem.F.type_list_append mt_append (pv 8) (pa_cons (px_makeN D.mk_HashFunction ks_HashFunction___init___1 C.has_HashFunction (ro1 hr) rfl (pa_cons pe_int (pa_cons (pv 10) pa_nil)) (pk_cons pe_int pk_nil)) pa_nil)))))))
      (pss_cons (ps_set (i := 11) sc_law.nd rfl (Or.inl rfl) (pe_ix ixU (pe_lst (pa_cons pe_str (pa_cons pe_str pa_nil))) (pe_op op_mod (pe_callTy call_intU (by rfl) B.int (by decide +kernel) (pa_cons (pe_ix ixU (pv 1) pe_int (fun _ _ => rfl)) pa_nil)) pe_int) (fun _ _ => rfl)))
      (pss_cons (ps_set (i := 12) sc_law.nd rfl (Or.inl rfl) (pe_lst (pa_cons (pe_tup (pa_cons pe_int (pa_cons pe_int (pa_cons (pv 2) pa_nil)))) (pa_cons (pe_tup (pa_cons pe_int (pa_cons (pv 3) (pa_cons pe_int pa_nil)))) pa_nil))))
      (pss_cons (ps_if (pt_cmpR (opEq hr.units) (pv 11) pe_str (nomark _)) (pss_one (ps_set (i := 12) sc_law.nd rfl (Or.inl rfl) (pe_lst (pa_cons (pe_tup (pa_cons pe_int (pa_cons (pv 2) (pa_cons pe_int pa_nil)))) (pa_cons (pe_tup (pa_cons pe_int (pa_cons pe_int (pa_cons (pv 3) pa_nil)))) pa_nil))))) pss_nil)
      (pss_cons (ps_if (pt_cmpR (opEq hr.units) (pv 3) pe_int (nomark _)) (pss_one (ps_set (i := 12) sc_law.nd rfl (Or.inl rfl) (pe_slice sl_list (pv 12) po_none (po_some pe_int)))) pss_nil)
      (pss_cons (ps_set (i := 13) sc_law.nd rfl (Or.inl rfl) (px_makeN0 D.mk_Plan ks_Plan___init___2 C.has_Plan (ro1 hr) rfl (pk_cons (pv 4) (pk_cons (pv 11) (pk_cons (pv 5) pk_nil)))))
      (pss_cons (ps_set (i := 14) sc_law.nd rfl (Or.inl rfl) pe_int)
      (pss_cons (ps_if (pt_cmpR op_gt (pv 2) (pv 4) (nomark _)) (pss_cons (ps_set (i := 15) sc_law.nd rfl (Or.inl rfl) (pe_op opAdd (pv 5) (pe_op opDiv (pe_op op_sub (pv 2) pe_int) (pv 4))))
      (pss_cons (ps_for PassesOwn.never rfl (pi_range1 rfl B.range (pa_cons (pv 2) pa_nil)) (pg_name (i := 16) sc_law.nd rfl (Or.inl rfl)) (pss_one (ps_set (i := 14) sc_law.nd rfl (Or.inl rfl) (pe_op opAdd (pe_op opAdd (pv 14) (pv 5)) (pe_op opDiv (pv 16) (pv 4))))))
      (pss_cons (ps_if (PW.pt (pw_and (pt_cmpR op_le pe_int (pv 7) (nomark _)) (pw_and (pt_cmpR op_le (pv 7) (pv 6) (nomark _)) (pw_and1 (pt_cmpR (opLt hr.units0) (pv 7) (pv 15) (nomark _)))))) (pss_one (ps_set (i := 15) sc_law.nd rfl (Or.inl rfl) (pv 7))) pss_nil)
      (pss_one (ps_set (i := 14) sc_law.nd rfl (Or.inl rfl) (pe_op opAdd (pv 14) (pe_op opMul (pv 3) (pv 15)))))))) pss_nil)
      (pss_cons (ps_set (i := 17) sc_law.nd rfl (Or.inl rfl) (px_callN (D.d_writes_by_counts none (by nofun)) ks_writes_by_counts_3 (ro0 hr) rfl (pa_cons (px_make D.mk_Counts C.has_Counts (ro1 hr) rfl (pa_cons (pv 12) pa_nil)) (pa_cons (px_make D.mk_Family C.has_Family (ro1 hr) rfl (pa_cons (pv 8) pa_nil)) pa_nil)) (pk_cons (pv 13) pk_nil)))
      (pss_one (ps_ret (pe_and (px_isi (n := "int") B.isinstance B.int (pv 17)) (pe_and (pe_not (px_isi (n := "bool") B.isinstance B.bool (pv 17))) (pe_one (pe_cmpR (opEq hr.units) (pv 17) (pv 14) (nomark _))))))))))))))))))))))))
theorem mt___call__ {φ : Sem} {k : Nat} {b : Option Nat} (C : Cs W mg) (h_HashFunction : MdOk W.P W.w W.K mg base k (W.cA "HashFunction") "__call__" 2 (spR W 2 (φ "HashFunction.__call__") b)) : Mt W.P W.w W.K mg base W k "__call__" 2 φ b := by
  refine ⟨fun c nm hc hr => ?_⟩
  have hm := C.hasL c hc
  simp only [clsL, List.mem_cons, List.not_mem_nil, or_false] at hm
  rcases hm with rfl | rfl | rfl | rfl
  · rw [rs_Counts___call__] at hr; cases hr
  · rw [rs_HashFunction___call__] at hr; cases hr; obtain ⟨g, fd, ps, x1, x2, x3, _⟩ := h_HashFunction.ex; exact ⟨g, fd, ps, x1, x2, x3⟩
  · rw [rs_Family___call__] at hr; cases hr
  · rw [rs_Plan___call__] at hr; cases hr
theorem mt___len__ {φ : Sem} {k : Nat} {b : Option Nat} (C : Cs W mg) (h_Counts : MdOk W.P W.w W.K mg base k (W.cA "Counts") "__len__" 1 (spR W 1 (φ "Counts.__len__") b)) (h_Family : MdOk W.P W.w W.K mg base k (W.cA "Family") "__len__" 1 (spR W 1 (φ "Family.__len__") b)) : Mt W.P W.w W.K mg base W k "__len__" 1 φ b := by
  refine ⟨fun c nm hc hr => ?_⟩
  have hm := C.hasL c hc
  simp only [clsL, List.mem_cons, List.not_mem_nil, or_false] at hm
  rcases hm with rfl | rfl | rfl | rfl
  · rw [rs_Counts___len__] at hr; cases hr; obtain ⟨g, fd, ps, x1, x2, x3, _⟩ := h_Counts.ex; exact ⟨g, fd, ps, x1, x2, x3⟩
  · rw [rs_HashFunction___len__] at hr; cases hr
  · rw [rs_Family___len__] at hr; cases hr; obtain ⟨g, fd, ps, x1, x2, x3, _⟩ := h_Family.ex; exact ⟨g, fd, ps, x1, x2, x3⟩
  · rw [rs_Plan___len__] at hr; cases hr
theorem mt_build_side {φ : Sem} {k : Nat} {b : Option Nat} (C : Cs W mg) (h_Plan : MdOk W.P W.w W.K mg base k (W.cA "Plan") "build_side" 3 (spR W 3 (φ "Plan.build_side") b)) : Mt W.P W.w W.K mg base W k "build_side" 3 φ b := by
  refine ⟨fun c nm hc hr => ?_⟩
  have hm := C.hasL c hc
  simp only [clsL, List.mem_cons, List.not_mem_nil, or_false] at hm
  rcases hm with rfl | rfl | rfl | rfl
  · rw [rs_Counts_build_side] at hr; cases hr
  · rw [rs_HashFunction_build_side] at hr; cases hr
  · rw [rs_Family_build_side] at hr; cases hr
  · rw [rs_Plan_build_side] at hr; cases hr; obtain ⟨g, fd, ps, x1, x2, x3, _⟩ := h_Plan.ex; exact ⟨g, fd, ps, x1, x2, x3⟩
theorem mt_part_at {φ : Sem} {k : Nat} {b : Option Nat} (C : Cs W mg) (h_Family : MdOk W.P W.w W.K mg base k (W.cA "Family") "part_at" 3 (spR W 3 (φ "Family.part_at") b)) : Mt W.P W.w W.K mg base W k "part_at" 3 φ b := by
  refine ⟨fun c nm hc hr => ?_⟩
  have hm := C.hasL c hc
  simp only [clsL, List.mem_cons, List.not_mem_nil, or_false] at hm
  rcases hm with rfl | rfl | rfl | rfl
  · rw [rs_Counts_part_at] at hr; cases hr
  · rw [rs_HashFunction_part_at] at hr; cases hr
  · rw [rs_Family_part_at] at hr; cases hr; obtain ⟨g, fd, ps, x1, x2, x3, _⟩ := h_Family.ex; exact ⟨g, fd, ps, x1, x2, x3⟩
  · rw [rs_Plan_part_at] at hr; cases hr
theorem mt_part_of {φ : Sem} {k : Nat} {b : Option Nat} (C : Cs W mg) (h_HashFunction : MdOk W.P W.w W.K mg base k (W.cA "HashFunction") "part_of" 2 (spR W 2 (φ "HashFunction.part_of") b)) : Mt W.P W.w W.K mg base W k "part_of" 2 φ b := by
  refine ⟨fun c nm hc hr => ?_⟩
  have hm := C.hasL c hc
  simp only [clsL, List.mem_cons, List.not_mem_nil, or_false] at hm
  rcases hm with rfl | rfl | rfl | rfl
  · rw [rs_Counts_part_of] at hr; cases hr
  · rw [rs_HashFunction_part_of] at hr; cases hr; obtain ⟨g, fd, ps, x1, x2, x3, _⟩ := h_HashFunction.ex; exact ⟨g, fd, ps, x1, x2, x3⟩
  · rw [rs_Family_part_of] at hr; cases hr
  · rw [rs_Plan_part_of] at hr; cases hr
theorem pp_left_total {φ : Sem} {k : Nat} (C : Cs W mg) (h_Counts : ∀ g fd, FunD W.K "left_total" "Counts.left_total" (defArgs s_Counts_left_total) (defBody s_Counts_left_total) (defScope s_Counts_left_total) [] [] g fd -> FnOk W.P W.w W.K mg base (L2.CX W.P W.w) k g fd A_Counts_left_total (spR W 1 (φ "Counts.left_total") none)) : Pp W.P W.w W.K mg base W k "left_total" φ := by
  refine ⟨fun c nm hc hr => ?_⟩
  have hm := C.hasL c hc
  simp only [clsL, List.mem_cons, List.not_mem_nil, or_false] at hm
  rcases hm with rfl | rfl | rfl | rfl
  · rw [rs_Counts_left_total] at hr; cases hr; obtain ⟨p, g, fd, hp, F⟩ := C.p_Counts_left_total; exact ⟨p, g, fd, A_Counts_left_total, hp, h_Counts g fd F, F.bindsN bp_Counts_left_total⟩
  · rw [rs_HashFunction_left_total] at hr; cases hr
  · rw [rs_Family_left_total] at hr; cases hr
  · rw [rs_Plan_left_total] at hr; cases hr
theorem pp_right_total {φ : Sem} {k : Nat} (C : Cs W mg) (h_Counts : ∀ g fd, FunD W.K "right_total" "Counts.right_total" (defArgs s_Counts_right_total) (defBody s_Counts_right_total) (defScope s_Counts_right_total) [] [] g fd -> FnOk W.P W.w W.K mg base (L2.CX W.P W.w) k g fd A_Counts_right_total (spR W 1 (φ "Counts.right_total") none)) : Pp W.P W.w W.K mg base W k "right_total" φ := by
  refine ⟨fun c nm hc hr => ?_⟩
  have hm := C.hasL c hc
  simp only [clsL, List.mem_cons, List.not_mem_nil, or_false] at hm
  rcases hm with rfl | rfl | rfl | rfl
  · rw [rs_Counts_right_total] at hr; cases hr; obtain ⟨p, g, fd, hp, F⟩ := C.p_Counts_right_total; exact ⟨p, g, fd, A_Counts_right_total, hp, h_Counts g fd F, F.bindsN bp_Counts_right_total⟩
  · rw [rs_HashFunction_right_total] at hr; cases hr
  · rw [rs_Family_right_total] at hr; cases hr
  · rw [rs_Plan_right_total] at hr; cases hr
theorem ds_all (D0 : DefAt W.K mg "is_integer" "is_integer" s_is_integer [] []) (D1 : DefAt W.K mg "is_triple" "is_triple" s_is_triple [] []) (D2 : DefAt W.K mg "counted_pass" "counted_pass" s_counted_pass [] []) (D3 : DefAt W.K mg "split_counts" "split_counts" s_split_counts [] []) (D4 : DefAt W.K mg "counted_passes" "counted_passes" s_counted_passes [] []) (D5 : DefAt W.K mg "rows_in" "rows_in" s_rows_in [] []) (D6 : DefAt W.K mg "writes_by_counts" "writes_by_counts" s_writes_by_counts [] []) (D7 : DefAt W.K mg "_law_draws" "_law_draws" s_law_draws [] []) (C : Cs W mg) (B : Blt mg) : ∀ n, Ds W mg base (semT (tbl W) n) (4 * n)
  | 0 => ⟨it_all C B,
    fun b _ => df_no D0 bp_is_integer spR_no,
    fun b _ => df_no D1 bp_is_triple spR_no,
    fun b _ => df_no D2 bp_counted_pass spR_no,
    fun b _ => df_no D3 bp_split_counts spR_no,
    gfD_no D4 sc_counted_passes (fun vs n G H h => by obtain ⟨_, _, _, _, _, _, h, _⟩ := h; cases h),
    fun b _ => df_no D5 bp_rows_in spR_no,
    fun b _ => dfD_no D6 spR_no,
    fun b _ => df_no D7 bp_law_draws spR_no,
    fun b _ => mt___call__ C (md_no C.a_HashFunction___call__ bp_HashFunction___call__ rfl spR_no),
    fun b _ => mt___len__ C (md_no C.a_Counts___len__ bp_Counts___len__ rfl spR_no) (md_no C.a_Family___len__ bp_Family___len__ rfl spR_no),
    fun b _ => mt_build_side C (md_no C.a_Plan_build_side bp_Plan_build_side rfl spR_no),
    fun b _ => mt_part_at C (md_no C.a_Family_part_at bp_Family_part_at rfl spR_no),
    fun b _ => mt_part_of C (md_no C.a_HashFunction_part_of bp_HashFunction_part_of rfl spR_no),
    pp_left_total C (fun g fd _ => fn_no spR_no),
    pp_right_total C (fun g fd _ => fn_no spR_no),
    (let ⟨_, M⟩ := C.k_Counts; mk_of M (md_no C.a_Counts___init__ bp_Counts___init__ rfl spR_no) C.g_Counts),
    (let ⟨_, M⟩ := C.k_HashFunction; mkD_no M C.g_HashFunction C.a_HashFunction___init__ spR_no),
    (let ⟨_, M⟩ := C.k_Family; mk_of M (md_no C.a_Family___init__ bp_Family___init__ rfl spR_no) C.g_Family),
    (let ⟨_, M⟩ := C.k_Plan; mkD_no M C.g_Plan C.a_Plan___init__ spR_no)⟩
  | n + 1 => ⟨it_all C B,
    ok_is_integer (ds_all D0 D1 D2 D3 D4 D5 D6 D7 C B n) C D0 B,
    ok_is_triple (ds_all D0 D1 D2 D3 D4 D5 D6 D7 C B n) C D1 B,
    ok_counted_pass (ds_all D0 D1 D2 D3 D4 D5 D6 D7 C B n) C D2 B,
    ok_split_counts (ds_all D0 D1 D2 D3 D4 D5 D6 D7 C B n) C D3 B,
    (by
      show GfD _ _ _ _ _ _ _ _ _ _ (futZ W 3 (gZ (runZR 11 (b_counted_passes W (semT (tbl W) n)))))
      rw [gZ_run]
      exact ok_counted_passes (ds_all D0 D1 D2 D3 D4 D5 D6 D7 C B n) C D4 B),
    ok_rows_in (ds_all D0 D1 D2 D3 D4 D5 D6 D7 C B n) C D5 B,
    ok_writes_by_counts (ds_all D0 D1 D2 D3 D4 D5 D6 D7 C B n) C D6 B,
    ok_law_draws (ds_all D0 D1 D2 D3 D4 D5 D6 D7 C B n) C D7 B,
    fun b hb => mt___call__ C (ok_HashFunction___call__ (ds_all D0 D1 D2 D3 D4 D5 D6 D7 C B n) C C.a_HashFunction___call__ B b hb),
    fun b hb => mt___len__ C (ok_Counts___len__ (ds_all D0 D1 D2 D3 D4 D5 D6 D7 C B n) C C.a_Counts___len__ B b hb) (ok_Family___len__ (ds_all D0 D1 D2 D3 D4 D5 D6 D7 C B n) C C.a_Family___len__ B b hb),
    fun b hb => mt_build_side C (ok_Plan_build_side (ds_all D0 D1 D2 D3 D4 D5 D6 D7 C B n) C C.a_Plan_build_side B b hb),
    fun b hb => mt_part_at C (ok_Family_part_at (ds_all D0 D1 D2 D3 D4 D5 D6 D7 C B n) C C.a_Family_part_at B b hb),
    fun b hb => mt_part_of C (ok_HashFunction_part_of (ds_all D0 D1 D2 D3 D4 D5 D6 D7 C B n) C C.a_HashFunction_part_of B b hb),
    pp_left_total C (fun g fd F => ok_Counts_left_total (ds_all D0 D1 D2 D3 D4 D5 D6 D7 C B n) C F B),
    pp_right_total C (fun g fd F => ok_Counts_right_total (ds_all D0 D1 D2 D3 D4 D5 D6 D7 C B n) C F B),
    (let ⟨_, M⟩ := C.k_Counts; mk_of M (ok_Counts___init__ (ds_all D0 D1 D2 D3 D4 D5 D6 D7 C B n) C C.a_Counts___init__ B (some 0) (fun i h => by cases h; decide)) C.g_Counts),
    (let ⟨_, M⟩ := C.k_HashFunction; ok_HashFunction___init__ (ds_all D0 D1 D2 D3 D4 D5 D6 D7 C B n) C M C.g_HashFunction C.a_HashFunction___init__ B),
    (let ⟨_, M⟩ := C.k_Family; mk_of M (ok_Family___init__ (ds_all D0 D1 D2 D3 D4 D5 D6 D7 C B n) C C.a_Family___init__ B (some 0) (fun i h => by cases h; decide)) C.g_Family),
    (let ⟨_, M⟩ := C.k_Plan; ok_Plan___init__ (ds_all D0 D1 D2 D3 D4 D5 D6 D7 C B n) C M C.g_Plan C.a_Plan___init__ B)⟩
end
end Py
namespace Py
open PySem L2
theorem fldL_ok (c f : String) (_ : c ∈ clsL) (h : TT.fOk c f = true) : f ∈ fldL c := List.contains_iff_mem.mp h
def HFt : Prop := ∀ {P : Program} {w : World} {K : PySem.W.Frag} {h : Heap} {mg : Str -> Option Value} {f : Addr} (X : K.In h) (G : h.Ns mainGlobals mg) (hfa : mg ("law" : Str) = some (.ref f)) (c : SaysX faL fnL K) (hPf : ((P.main.file : Str) == fileL) = true) (hPs : (P.main.scope.names.lookup ("super" : Str)).isSome = false), ∃ fd : FuncData, (∀ (s : Shared) (v : Value), BindsTo s fd ⟨[v], []⟩ [("_law_script", v)]) /\ ∀ base : Heap, K.In base -> base.Ns mainGlobals mg -> FnOk P w K mg base CX0 40 f fd A_law (spL K)
end Py
section
open PySem PySem.W PySem.Calls PyProof.Rows
theorem Py.headL (HF : Py.HFt) : PySem.Challenge.rw_anyhashes_k50_counts_of_two_keys.Holds := by
  unfold Py.HFt at HF
  w_on; o_law
  refine HandSHeadRun.head_any (r := OpenLaw.row PySem.Challenge.rw_anyhashes_k50_counts_of_two_keys) (q := view (OpenLaw.row PySem.Challenge.rw_anyhashes_k50_counts_of_two_keys).prog [Py.lawAt]) (H := Py.hkL) (ob := Py.obL) (M := 12000) (loose := Py.nmL) (d := HandSHeadRun.topDef (OpenLaw.row PySem.Challenge.rw_anyhashes_k50_counts_of_two_keys).prog Py.lawAt) (kwd := []) Py.obL_eq
    (by kernel_rfl) (fun s => by kernel_rfl) Py.runL (by kernel_rfl) (by kernel_rfl) (by kernel_rfl) (by rfl) (by first | assumption | decide +kernel) (by decide +kernel) ⟨rfl, rfl, rfl, rfl, rfl, by decide +kernel⟩ ?hw ?hc
  case hw => w_witness2
  case hc =>
    refine L2.walk_ofE (l := PySem.Challenge.rw_anyhashes_k50_counts_of_two_keys) (n := 63) (k := 40) (x := "_law_script") (CX := L2.CX0) rfl (by decide) (by kernel_rfl) ⟨rfl, by decide, by decide⟩ ?F (fun _ _ _ _ z => z)
    intro w mg fa h Y G hmg0
    obtain ⟨K, KX, c⟩ := Y
    have hmg : mg ("law" : PySem.Str) = some (.ref fa) := by
      have e : (HandSHeadRun.topDef (OpenLaw.row PySem.Challenge.rw_anyhashes_k50_counts_of_two_keys).prog Py.lawAt).name = ("law" : PySem.Str) := by kernel_rfl
      rw [<- e]
      exact hmg0
    obtain ⟨fd, hb, hF⟩ := HF (P := (PySem.Challenge.rw_anyhashes_k50_counts_of_two_keys).prog) (w := w) KX G hmg c (by kernel_rfl) (by kernel_rfl)
    exact ⟨K, fd, Py.spL K, KX, hb, fun H a ns hl _ hS => Py.spL_in hl hS, hF⟩
end
namespace Py
open PySem L2
open Enc (enc)
local macro_rules | `(tactic| simp? only [$xs,*]) => `(tactic| try simp (maxSteps := 1000000) (disch := first | omega | decide) only [e_xsSeq, e_xsNext, e_xsNever, e_xsAsg, e_xsAsgG, e_xsExpr, e_xsRet, e_xsIf, e_xsFrz, e_xmP, e_xVar_V, e_xtV, e_xtTru, e_xtAnd, e_xtOr, e_xtNot, e_xtYes, e_xVar, e_xInt, e_xBl, e_xStr, e_xSub, e_xMul, e_xDiv, e_xMod, e_xPow, e_xNeg, e_xAdd, e_xEq, e_xNe, e_xLt, e_xLe, e_xGt, e_xGe, e_xAnd, e_xNot, e_xIf, e_xTup, e_xLst, e_xInt1, e_xAbs, e_xIx, e_xFld, e_xList, e_xIsi, e_xIsiT, e_xCall, e_xLc, e_xSorted, e_xmVar, e_xmMove, e_xmAppend, e_xmPop, e_xoNil, e_xoCons, e_plVar, r_plVar, e_xaNilV, e_xaNilF, e_xaConsV, e_xaConsF, e_xgN, e_xgsNil, e_xgsCons, e_xgT, o_xgN, o_xgT, o_xgsNil, o_xgsCons, e_xiSeqF, e_xiSeqP, e_xiR1F, e_xiR1P, e_xiR2F, e_xiR2P, e_xsFor, e_evV, e_evK, e_evF, e_evO, e_evB, h_getS0, h_getS0n, h_getSs, h_toV, h_toVn, h_toKf, h_toKp, h_toKv, h_toKn, h_toFf, h_toFp, h_toFv, h_toFn, h_toOf, h_toOp, h_toOv, h_toOn, h_of_f, h_of_p, h_of_v, h_then_nx, h_then_rt, h_then_bk, h_then_ct, h_then_ex, h_then_no, h_thenS_ok, h_thenS_exn, h_thenS_no, h_ofO, h_ofOn, h_of, h_ofn, h_mofO, h_mofOn, h_iteF1, h_iteF0, h_iteFn, h_asgK, h_asgGK, h_ifF1, h_ifF0, h_forK, h_andF1, h_andF0, h_orF1, h_orF0, h_blD, h_turn, h_turnn, h_forE, h_forEn, h_callF, h_callV, h_rzF, h_rzV, h_fz_non, h_sh_non, h_fl_non, h_isN_non, h_fz_bl, h_sh_bl, h_fl_bl, h_fz_int, h_sh_int, h_fl_int, h_isN_int, h_fz_str, h_sh_str, h_fl_str, h_isN_str, h_fz_cls, h_sh_cls, h_fl_cls, h_isN_cls, h_fz_sei, h_sh_sei, h_fl_sei, h_isN_sei, h_fz_scr, h_sh_scr, h_fl_scr, h_isN_scr, h_fz_tup, h_sh_tup, h_fl_tup, h_isN_tup, h_fz_lst, h_sh_lst, h_fl_lst, h_isN_lst, h_fz_dic, h_sh_dic, h_fl_dic, h_isN_dic, h_fz_dit, h_sh_dit, h_fl_dit, h_isN_dit, h_fz_dig, h_sh_dig, h_fl_dig, h_isN_dig, h_fz_ins, h_sh_ins, h_fl_ins, h_isN_ins, h_isN_bl, h_fz_olst, h_sh_olst, h_fl_olst, h_fz_odic, h_sh_odic, h_fl_odic, h_fz_odit, h_sh_odit, h_fl_odit, h_fz_odig, h_sh_odig, h_fl_odig, h_fz_oins, h_sh_oins, h_fl_oins, h_fzs_nil, h_fzs_cons, h_fzs_app, h_tru_bl, h_tru_non, h_tru_int, h_tru_lst, h_tru_tup, h_sub, h_neg, h_addI, h_addT, h_addL, h_addLo, h_addoL, h_addoo, h_eqD, h_neD, h_ok_non, h_ok_bl, h_ok_int, h_ok_str, h_ok_tup, h_ok_lst, h_oks_nil, h_oks_cons, h_eqB_ii, h_eqB_ss, h_eqB_bb, h_eqB_nn, h_eqB_ni, h_eqB_in, h_eqB_nt, h_eqB_tn, h_eqB_tt, h_eqB_ll, h_eqBs_nn, h_eqBs_cc, h_eqBs_nc, h_eqBs_cn, h_cmp, h_ltI, h_ltT, h_ints_nil, h_ints_cons, h_intI, h_intB, h_abs, h_lenL, h_lenT, h_lenS, h_ix, h_it_lst, h_it_olst, h_it_tup, h_it_scr, h_at0, h_at1, h_at2, h_at3, h_at4, h_at5, h_at6, h_at7, h_at8, h_at9, h_at10, h_at11, h_at12, h_atm1, h_seq_lst, h_seq_tup, h_seq_olst, h_seq_scr, h_sF_lst, h_sF_tup, h_sF_scr, h_lF_lst, h_ty_non, h_ty_bl, h_ty_int, h_ty_str, h_ty_lst, h_ty_tup, h_ty_ins, h_isi_bb, h_isi_bo, h_isi_ob, h_isi_oo, h_isiA_n, h_isiA_c, h_isiB_NoneType_bool, h_isiB_NoneType_int, h_isiB_NoneType_str, h_isiB_NoneType_list, h_isiB_NoneType_tuple, h_isiB_NoneType_dict, h_isiB_bool_bool, h_isiB_bool_int, h_isiB_bool_str, h_isiB_bool_list, h_isiB_bool_tuple, h_isiB_bool_dict, h_isiB_int_bool, h_isiB_int_int, h_isiB_int_str, h_isiB_int_list, h_isiB_int_tuple, h_isiB_int_dict, h_isiB_str_bool, h_isiB_str_int, h_isiB_str_str, h_isiB_str_list, h_isiB_str_tuple, h_isiB_str_dict, h_isiB_list_bool, h_isiB_list_int, h_isiB_list_str, h_isiB_list_list, h_isiB_list_tuple, h_isiB_list_dict, h_isiB_tuple_bool, h_isiB_tuple_int, h_isiB_tuple_str, h_isiB_tuple_list, h_isiB_tuple_tuple, h_isiB_tuple_dict, h_isiB_dict_bool, h_isiB_dict_int, h_isiB_dict_str, h_isiB_dict_list, h_isiB_dict_tuple, h_isiB_dict_dict, h_append, h_pop, h_put0, h_rng1, h_rng2, h_guard1, h_guard0, h_forLn, h_forLc, h_forT_nx, h_forT_ct, h_forT_bk, h_forT_rt, h_forT_ex, h_lc1, h_lcK, h_lcJ1, h_lcJ0, h_wipe0, h_wipes, h_frz, h_frzO, h_frzOn, h_runR_rt, h_runR_nx, h_retZ, h_bGetn, h_bGets, h_setS, h_fldI, h_fldO, h_iteFd1, h_iteFd0, h_iteFe1, h_iteFe0, h_andFd1, h_andFd0, h_andFe1, h_andFe0, h_orFd1, h_orFd0, h_orFe1, h_orFe0, h_ifFd1, h_ifFd0, h_ifFe1, h_ifFe0, h_lcJd1, h_lcJd0, h_lcJe1, h_lcJe0, h_eMeth, h_methF, h_methV, h_methW, h_eCallO, h_callOF, h_callOV, h_callOW, h_callO1, h_meth1, h_meth2, h_resE, h_resEn, h_posn, h_posc, h_eMmeth, h_methM1, h_methM0, h_rm0o, h_rm0x, h_rm0n, h_rm1o, h_rm1x, h_putc, h_putE, h_subF, h_subI, h_putF, h_putI, h_setOs, h_eSfld, h_fldK, h_setFD, h_setFn, h_setFc, h_eMake, h_makeF, h_makeV, h_mk1, h_mkR, h_eProp, h_propF, h_propV, h_prop1, h_eLenU, h_lenI_lst, h_lenI_tup, h_lenI_scr, h_lenI_ins, h_lenQ, h_lenR, h_eSl, h_slE, h_evI0, h_evI1, h_intO, h_RTthen_ok, h_RTthenS_ok, h_RTthen_exn, h_RTthenS_exn, h_RTof, h_eListU, h_lstE_lst, h_lstE_tup, h_lstE_scr, h_lstE_olst, h_lstE_ins, h_itQ, h_it_ins, h_lo_lst, h_lo_olst, h_eiSeqUF, h_eiSeqUP, h_eiEnumUF, h_eiEnumUP, h_eiEnumTF, h_eiEnumTP, h_enTI_tup, h_enTI_lst, h_enTI_ins, h_seqFI_lst, h_seqFI_tup, h_seqFI_scr, h_seqFI_ins, h_seqKI_lst, h_seqKI_tup, h_seqKI_scr, h_seqKI_ins, h_seqKI_olst, h_enFI_lst, h_enFI_ins, h_enKI_lst, h_enKI_ins, h_enKI_olst, h_ixD_ins, h_okD_ins, h_eqD_ins, h_addD_ins, h_addD_oins, h_eSum, h_sumI, h_storeD, h_eCallN, h_kwE_F, h_kwE_V, h_kwE_W, h_eMakeN, h_makeNE_F, h_makeNE_V, h_makeNE_W, h_mkN, h_mgM_t, h_mgM_f, h_mgM_n, h_eDnew, h_eDget2, h_getE_non, h_getE_int, h_getE_str, h_getM_s, h_getM_n, h_eDix, h_dgE_int, h_dgE_str, h_inK_non, h_inK_int, h_inK_str, h_eDlist, h_dicOf_d, h_dicOf_o, h_dputI, h_dputS, h_eForD, h_lockR, h_noEx_nx, h_noEx_rt, h_isDic, h_dsK, h_eDc, h_eDcD, h_frE_s, h_frE_n, h_guardB_t, h_dc1, h_dcK, h_dcJ1, h_dcJ0, h_keyD_i, h_keyD_s, h_eDapp, h_dappI, h_kDs_n, h_kDs_c, h_dcL_n, h_putP_n, h_eCallB, h_ebCons, h_lend_olst, h_lend_int, h_lend_str, h_lend_bl, h_lend_non, h_lend_tup, h_lend_lst, h_lend_ins, h_lend_dic, h_ofBs, h_ofBn, h_oNl_int, h_oNl_str, h_oNl_bl, h_oNl_n, h_oNl_ins, h_oNl_oins, h_oNl_dic, h_oNl_odic, h_oNl_tup, h_oNl_olst, h_oNls_n, h_oNls_c, h_okD0s, h_eDisp, h_dispEn, h_dispEc, h_qevO, h_qevB, h_qevF, h_toQf, h_toQp, h_toQv, h_toQn, h_runR_ex, h_retX, h_thenY1, h_thenY2, h_thenY3, h_eCatT, h_catD, h_look1, h_look2, h_div, h_mod, h_mulL, h_mulR, h_rngOk, List.zip_cons_cons, List.zip_nil_left, if_pos, if_neg, List.getElem?_cons_zero, List.getElem?_cons_succ, List.getElem?_nil, List.getLast?_append, List.getLast?_singleton, List.getLast?_cons_cons, runFn, env0, Option.toList, List.map_cons, List.map_nil, List.length_cons, List.length_nil, List.length_append, List.length_map, List.length_set, List.replicate, List.cons_append, List.nil_append, List.append_nil, Nat.reduceSub, Nat.reduceAdd, Nat.reduceLT, Nat.reduceLeDiff, Nat.reduceEqDiff, Nat.zero_add, Nat.add_zero, List.set_cons_zero, List.set_cons_succ, List.set_nil, Option.bind_some, Option.bind_none, Option.map_some, Option.map_none, List.foldl_cons, List.foldl_nil, not_false_eq_true, not_true_eq_false, and_true, true_and, and_self, and_false, false_and, if_true, if_false, ite_true, ite_false, reduceIte, List.not_mem_nil, reduceCtorEq, List.mem_cons, or_false, false_or, or_self, ne_eq, Bool.not_true, Bool.not_false, Bool.and_true, Bool.and_false, Bool.true_and, Bool.false_and, Bool.or_true, Bool.or_false, Bool.true_or, Bool.false_or, Bool.and_self, Bool.or_self, List.all_cons, List.all_nil, decide_true, decide_false, decide_not, decide_eq_true_eq, decide_eq_false_iff_not, Bool.not_not, Int.reduceLT, Int.reduceLE, Int.reduceEq, Int.reduceNe, Int.reduceAdd, Int.reduceMul, Int.reduceSub, Int.reduceNeg, List.isEmpty_cons, List.isEmpty_nil, Bool.false_eq_true, Bool.true_eq_false, String.reduceEq, Function.comp_apply, Option.isNone_none, Option.some_or, Option.isNone_some, List.getLast?_concat, List.dropLast_concat, List.all_append, $xs,*])
local macro_rules | `(tactic| dsimp? only [$xs,*]) => `(tactic| simp? only [ik_Counts, fk_Counts__rows, rs_Counts___call__, rs_Counts___len__, rs_Counts_build_side, rs_Counts_part_at, rs_Counts_part_of, rs_Counts_left_total, rs_Counts_right_total, sb_Counts_Counts, sb_Counts_HashFunction, sb_Counts_Family, sb_Counts_Plan, ik_HashFunction, fk_HashFunction_fan_out, fk_HashFunction_other, fk_HashFunction__parts, rs_HashFunction___call__, rs_HashFunction___len__, rs_HashFunction_build_side, rs_HashFunction_part_at, rs_HashFunction_part_of, rs_HashFunction_left_total, rs_HashFunction_right_total, sb_HashFunction_Counts, sb_HashFunction_HashFunction, sb_HashFunction_Family, sb_HashFunction_Plan, ik_Family, fk_Family__functions, rs_Family___call__, rs_Family___len__, rs_Family_build_side, rs_Family_part_at, rs_Family_part_of, rs_Family_left_total, rs_Family_right_total, sb_Family_Counts, sb_Family_HashFunction, sb_Family_Family, sb_Family_Plan, ik_Plan, fk_Plan_room, fk_Plan_build, fk_Plan_keep_from, rs_Plan___call__, rs_Plan___len__, rs_Plan_build_side, rs_Plan_part_at, rs_Plan_part_of, rs_Plan_left_total, rs_Plan_right_total, sb_Plan_Counts, sb_Plan_HashFunction, sb_Plan_Family, sb_Plan_Plan, $xs,*])
local macro_rules | `(tactic| walk_at "ev") => `(tactic| simp? only [])
section
variable {W : Wd TT}
def drawStep (big : Bool) (k : Int) (n : Int) : Int × Int :=
  if big = true then (n % 1000, n / 1000)
  else if 0 < n then
    ((((n * (48271 + 6 * k) + 69621 * k) % 2147483647 * ((n * (48271 + 6 * k) + 69621 * k) % 2147483647) + 40692 * k + 1) % 2147483629) % 1000, n)
  else (0, n)
def drawsGo (big : Bool) (n : Int) : Nat -> List Int × Int
  | 0 => ([], n)
  | i + 1 => ((drawsGo big n i).1 ++ [(drawStep big (0 + i) (drawsGo big n i).2).1], (drawStep big (0 + i) (drawsGo big n i).2).2)
def drawNum (ns : List Int) (at' : Int) : Int := if h : 0 <= at' /\ at' < ns.length then (if ns[at'.toNat]'(by omega) < 0 then -(ns[at'.toNat]'(by omega)) else ns[at'.toNat]'(by omega)) else 0
def draws (ns : List Int) (at' many : Int) : List Int := (drawsGo (decide (10 ^ 18 <= drawNum ns at')) (drawNum ns at') many.toNat).1
theorem drawStep_ok {big : Bool} {k n : Int} (h : 0 <= n) : 0 <= (drawStep big k n).1 /\ (drawStep big k n).1 < 1000 /\ 0 <= (drawStep big k n).2 /\ (drawStep big k n).2 <= n := by
  unfold drawStep
  split
  · simp only; omega
  · split
    · simp only; omega
    · simp only; omega
theorem drawsGo_ok {big : Bool} {n : Int} (h : 0 <= n) : ∀ i, (drawsGo big n i).1.length = i /\ (∀ d ∈ (drawsGo big n i).1, 0 <= d /\ d < 1000) /\ 0 <= (drawsGo big n i).2 /\ (drawsGo big n i).2 <= n
  | 0 => ⟨rfl, (fun _ m => nomatch m), h, Int.le_refl _⟩
  | i + 1 => by
    obtain ⟨h1, h2, h3, h4⟩ := drawsGo_ok (big := big) h i
    obtain ⟨q1, q2, q3, q4⟩ := drawStep_ok (big := big) (k := 0 + i) h3
    refine ⟨by rw [drawsGo]; simp [h1], fun d m => ?_, q3, Int.le_trans q4 h4⟩
    rw [drawsGo] at m
    rcases List.mem_append.mp m with m | m
    · exact h2 d m
    · rw [List.mem_singleton.mp m]; exact ⟨q1, q2⟩
theorem drawNum_nn (ns : List Int) (at' : Int) : 0 <= drawNum ns at' := by
  unfold drawNum
  split
  · split <;> omega
  · omega
theorem draws_length (ns : List Int) (at' many : Int) : (draws ns at' many).length = many.toNat := (drawsGo_ok (drawNum_nn ns at') _).1
theorem draws_ok (ns : List Int) (at' many : Int) : ∀ d ∈ draws ns at' many, 0 <= d /\ d < 1000 := (drawsGo_ok (drawNum_nn ns at') _).2.1
theorem f_law_draws (k : Nat) {ns : List Int} {i n : Int} (h0 : 0 <= i) (h1 : 0 <= n) (h2 : n <= 1000) : semT (tbl W) (k + 1) "_law_draws" [.scr ns, .int i, .int n] none = .ok (.olst ((draws ns i n).map .int)) none := by
  rw [sem_law_draws]
  unfold b_law_draws
  have loop : ∀ (b : Bool) (m : Int), 0 <= m -> ∀ e0, e0 = [some (.scr ns), some (.int i), some (.int n), some (.int m), some (.bl b), some (.olst []), none, none, none] -> ∀ r, forL (forK (xgN W 6) (l1_law_draws W (semT (tbl W) k)) []) (rangeD 0 n.toNat) e0 = r ->
      ∃ e', r = .nx e' /\ getS e' 5 = some (.olst ((drawsGo b m n.toNat).1.map .int)) /\ e'.length = 9 := by
    intro b m hm e0 he r hF
    obtain ⟨e', rfl, o6, o7, o8, h⟩ := forL_gen (fun j e => ∃ o6 o7 o8, e = [some (.scr ns), some (.int i), some (.int n), some (.int (drawsGo b m j).2), some (.bl b), some (.olst ((drawsGo b m j).1.map .int)), o6, o7, o8]) hF ⟨none, none, none, he⟩ (by
      rintro j d _ hd ⟨o6, o7, o8, rfl⟩
      obtain ⟨hj, rfl⟩ := rangeD_get hd
      obtain ⟨q1, q2, q3, q4⟩ := drawsGo_ok (big := b) hm j
      generalize hg : drawsGo b m j = g at q1 q2 q3 q4
      have hs : drawsGo b m (j + 1) = (g.1 ++ [(drawStep b (0 + j) g.2).1], (drawStep b (0 + j) g.2).2) := by rw [drawsGo, hg]
      rw [hs]
      have hj2 : (0 : Int) + (j : Int) < 1000 := by omega
      generalize hx : (0 : Int) + (j : Int) = x at hj2
      have hx0 : 0 <= x := by omega
      have hl : g.1.length < 1000000 := by omega
      clear hx hj hd hs hg q4 hF q2
      unfold drawStep l1_law_draws
      cases b with
      | true =>
        refine ⟨_, .inl (by walk_at "ev"; rfl), ?_⟩
        rw [List.map_append]
        exact ⟨_, _, _, rfl⟩
      | false =>
        by_cases hp : 0 < g.2
        · generalize hy : g.2 * (48271 + 6 * x) + 69621 * x = y
          have e1 : 0 <= y % 2147483647 := by omega
          have e2 : y % 2147483647 < 2147483647 := by omega
          generalize hz : y % 2147483647 = z at e1 e2
          refine ⟨_, .inl (by walk_at "ev"; rw [hy, hz]), ?_⟩
          rw [if_neg (by decide), if_pos hp, List.map_append]
          exact ⟨_, _, _, rfl⟩
        · refine ⟨_, .inl (by walk_at "ev"; rfl), ?_⟩
          rw [if_neg (by decide), if_neg hp, List.map_append]
          exact ⟨_, _, _, rfl⟩)
    rw [rangeD_length] at h
    exact ⟨e', rfl, by rw [h]; rfl, by rw [h]; rfl⟩
  have fin : ∀ e' : Py.Env, getS e' 5 = some (.olst ((draws ns i n).map .int)) -> runR none (RS.then (.nx e') ((xsRet (xmMove W 5)).ev [])) = .ok (.olst ((draws ns i n).map .int)) none := fun e' he => by
    walk_at "ev"
    rw [he]
    walk_at "ev"
  have hp : powD (.int 10) (.int 18) = some (.int 1000000000000000000) := rfl
  by_cases hi : i < ns.length
  · obtain ⟨x, hx1, hx2⟩ := atI_get h0 hi
    have en : drawNum ns i = if x < 0 then -x else x := by
      have : x = ns[i.toNat]'(by omega) := by rw [List.getElem?_eq_getElem (by omega)] at hx2; exact (Option.some.inj hx2).symm
      unfold drawNum
      rw [dif_pos ⟨h0, hi⟩, this]
    walk_at "ev"
    rw [atI_map, hx1]
    walk_at "ev"
    rw [hp]
    walk_at "ev"
    rw [<- en]
    have hn := drawNum_nn ns i
    have e0 : drawsGo (decide (1000000000000000000 <= drawNum ns i)) (drawNum ns i) n.toNat = drawsGo (decide (10 ^ 18 <= drawNum ns i)) (drawNum ns i) n.toNat := rfl
    generalize hF : forL _ _ _ = r
    obtain ⟨e', rfl, h5, _⟩ := loop _ _ hn _ rfl _ hF
    exact fin e' (by rw [h5, e0]; rfl)
  · have en : drawNum ns i = 0 := by
      unfold drawNum
      rw [dif_neg (by omega)]
    walk_at "ev"
    rw [hp]
    walk_at "ev"
    generalize hF : forL _ _ _ = r
    obtain ⟨e', rfl, h5, _⟩ := loop false 0 (Int.le_refl _) _ rfl _ hF
    exact fin e' (by rw [h5]; unfold draws; rw [en]; rfl)
def leI (a b : Int) : Bool := decide (a <= b)
def srtI (xs : List Int) : List Int := xs.mergeSort leI
theorem srtI_perm (xs : List Int) : (srtI xs).Perm xs := List.mergeSort_perm _ _
theorem srtI_len (xs : List Int) : (srtI xs).length = xs.length := (srtI_perm xs).length_eq
abbrev AscI (xs : List Int) : Prop := xs.Pairwise fun a b => a <= b
theorem srtI_asc (xs : List Int) : AscI (srtI xs) := by
  have h := List.pairwise_mergeSort (le := leI) (fun a b c h1 h2 => by unfold leI at *; simp only [decide_eq_true_eq] at *; omega) (fun a b => by unfold leI; rw [Bool.or_eq_true]; simp only [decide_eq_true_eq]; omega) xs
  exact h.imp fun {a b} e => of_decide_eq_true e
theorem ascI_unique : ∀ {ps qs : List Int}, AscI ps -> AscI qs -> ps.Perm qs -> ps = qs
  | [], qs, _, _, h => (h.symm.eq_nil).symm
  | p :: ps, [], _, _, h => absurd h.eq_nil (by simp)
  | p :: ps, q :: qs, h1, h2, h => by
    rw [AscI, List.pairwise_cons] at h1 h2
    have e : p = q := by
      rcases List.mem_cons.mp (h.subset (List.mem_cons_self ..)) with e | m
      · exact e
      · rcases List.mem_cons.mp (h.symm.subset (List.mem_cons_self ..)) with e | m2
        · exact e.symm
        · have := h1.1 q m2; have := h2.1 p m; omega
    subst e
    rw [ascI_unique h1.2 h2.2 (List.Perm.cons_inv h)]
theorem srt_int (xs : List Int) : sortD (xs.map (enc : Int -> D)) = some ((srtI xs).map enc) := by
  have h := sortD_map (enc := (enc : Int -> D)) (dat := fun i : Int => PyData.int i) (fun b => rfl) xs (by
    unfold sortOk
    simp only [Bool.and_eq_true, List.all_eq_true, Bool.or_eq_true]
    refine ⟨⟨?_, .inr ?_⟩, ?_⟩
    · intro a ha b hb
      obtain ⟨x, _, rfl⟩ := List.mem_map.mp ha
      obtain ⟨y, _, rfl⟩ := List.mem_map.mp hb
      simp [PySem.W.alike]
    · intro a ha
      obtain ⟨x, _, rfl⟩ := List.mem_map.mp ha
      rfl
    · intro a ha
      obtain ⟨x, _, rfl⟩ := List.mem_map.mp ha
      simp [PyData.depth])
  rw [h]
  have : PySem.W.dataLe false (fun i : Int => PyData.int i) = leI := by rw [PySem.W.dataLe_int]; rfl
  rw [this]; rfl
abbrev Tab := List (Int × Int)
abbrev tS (m : Tab) : D := .dic (kI m) (vE enc m)
abbrev hD (f o : Int) (m : Tab) : D := .oins "HashFunction" ["fan_out", "other", "_parts"] [.int f, .int o, .odic (kI m) (vE enc m)]
abbrev hS (f o : Int) (m : Tab) : D := .ins "HashFunction" ["fan_out", "other", "_parts"] [.int f, .int o, tS m]
local macro_rules | `(tactic| walk_at "evh") => `(tactic| dsimp? only [srt_int, enc_int, sh_enc, fz_enc, shl_enc, fzl_enc, fl_enc, ok_enc, okl_enc, eq_enc, eql_enc, vE_length, kI_length])
theorem u_is_integer (k : Nat) (i : Int) : semT (tbl W) (k + 1) "is_integer" [.int i] none = .ok (.bl true) none := by
  rw [sem_is_integer]; unfold b_is_integer; walk_at "ev"
theorem alG_mem : ∀ {m : Tab} {p : Int × Int}, Nk m -> p ∈ m -> alG m p.1 = some p.2
  | q :: m, p, hn, h => by
    have hn2 : q.1 ∉ m.map (·.1) /\ Nk m := List.nodup_cons.mp hn
    unfold alG
    by_cases e : q.1 = p.1
    · rw [List.find?_cons_of_pos (by simpa using e)]
      rcases List.mem_cons.mp h with e2 | h2
      · rw [e2]; rfl
      · exact absurd (List.mem_map.mpr ⟨p, h2, e.symm⟩) hn2.1
    · rw [List.find?_cons_of_neg (by simpa using e)]
      rcases List.mem_cons.mp h with e2 | h2
      · exact absurd (congrArg Prod.fst e2).symm e
      · exact alG_mem hn2.2 h2
theorem alP_new {m : Tab} {k v : Int} (h : k ∉ m.map (·.1)) : alP m k v = m ++ [(k, v)] := by
  unfold alP
  rw [if_neg]
  rw [List.any_eq_true]
  rintro ⟨p, hp, e⟩
  exact h (List.mem_map.mpr ⟨p, hp, of_decide_eq_true e⟩)
theorem self_go (vl : Int -> Int) : ∀ (s p : Tab), Nk (p ++ s) -> (∀ q ∈ s, vl q.1 = q.2) -> (s.map (·.1)).foldl (fun m k => alP m k (vl k)) p = p ++ s
  | [], p, _, _ => by simp
  | q :: s, p, hn, hv => by
    have h1 : q.1 ∉ p.map (·.1) := by
      intro m
      unfold Nk at hn
      rw [List.map_append, List.nodup_append] at hn
      exact hn.2.2 q.1 m q.1 (by simp) rfl
    rw [List.map_cons, List.foldl_cons, alP_new h1, hv q (by simp)]
    have e : p ++ q :: s = (p ++ [(q.1, q.2)]) ++ s := by simp
    rw [e] at hn ⊢
    exact self_go vl s _ hn fun x m => hv x (List.mem_cons_of_mem _ m)
theorem dcM_self {m : Tab} (hn : Nk m) : dcM (fun k : Int => k) (fun k => (alG m k).getD 0) (m.map (·.1)) = m :=
  self_go _ m [] hn fun q h => by rw [alG_mem hn h]; rfl
theorem f_hash_init (k : Nat) (f o : Int) (m : Tab) (h1 : 1 <= f) (h2 : f <= 64) (hm : Nk m) (hl : m.length <= 1000) : semT (tbl W) (k + 2) "HashFunction.__init__" [.oins "HashFunction" [] [], .int f, tS m, .int o] (some 0) = .ok .non (some (hD f o m)) := by
  have u := fun i => u_is_integer (W := W) k i
  rw [sem_HashFunction___init__]
  unfold b_HashFunction___init__
  walk_at "evh"
  rw [u]
  walk_at "evh"
  have hkd : kDs (kI m) = some ((m.map (·.1)).map (enc : Int -> D)) := by rw [kDs_al, List.map_map]; rfl
  rw [hkd]
  walk_at "evh"
  generalize hF : forL _ _ _ = rz
  obtain ⟨e', rfl, o4, rfl⟩ := forL_enc (fun (ys : List Int) e => ∃ o4, e = [some (.oins "HashFunction" [] []), some (.int f), some (tS m), some (.int o), o4]) hF ⟨none, rfl⟩ (by
    rintro ys t zs _ hx ⟨o4, rfl⟩
    refine ⟨_, .inl (by unfold l1_HashFunction___init__; walk_at "evh"; rw [u]; walk_at "evh"; rfl), _, rfl⟩)
  walk_at "evh"
  rw [hkd]
  walk_at "evh"
  rw [dcL_al0 (c := (enc : Int -> D)) (g := (enc : Int -> D)) (fun b => sh_enc b) (fun k : Int => k) (fun k => (alG m k).getD 0) (m.map (·.1)) (fun p hp => by
    obtain ⟨q, hq, rfl⟩ := List.mem_map.mp hp
    have hdg := dg_al (enc : Int -> D) q.1 m
    rw [alG_mem hm hq] at hdg ⊢
    walk_at "evh"
    rw [hdg]
    walk_at "evh"
    try rfl), dcM_self hm]
  walk_at "evh"
  try rfl
abbrev HF := Int × Int × Tab
def eH (h : HF) : D := hS h.1 h.2.1 h.2.2
theorem sh_eH (h : HF) : isSh (eH h) = true := rfl
theorem fz_eH (h : HF) : fz (eH h) = eH h := by
  have e := fzs_map sh_eH [h]
  simpa [fzs] using e
theorem shl_eH (hs : List HF) : (hs.map eH).all isSh = true := sh_map sh_eH hs
theorem fzl_eH (hs : List HF) : fzs (hs.map eH) = hs.map eH := fzs_map sh_eH hs
abbrev FS (hs : List HF) : D := .ins "Family" ["_functions"] [.lst (hs.map eH)]
local macro_rules | `(tactic| walk_at "evf0") => `(tactic| dsimp? only [])
theorem it_FS (hs : List HF) : itOf TT (FS hs) = some (hs.map eH) := by
  walk_at "evf0"
local macro_rules | `(tactic| walk_at "evi") => `(tactic| dsimp? only [it_FS, sh_eH, fz_eH, shl_eH, fzl_eH, srt_int, enc_int, enc_bool, sh_enc, fz_enc, shl_enc, fzl_enc, fl_enc, ok_enc, okl_enc, eq_enc, eql_enc, vE_length, kI_length])
theorem f_family_init (k : Nat) (hs : List HF) (hl : hs.length <= 4) : semT (tbl W) (k + 1) "Family.__init__" [.oins "Family" [] [], .lst (hs.map eH)] (some 0) = .ok .non (some (.oins "Family" ["_functions"] [.olst (hs.map eH)])) := by
  rw [sem_Family___init__]
  unfold b_Family___init__
  walk_at "evi"
theorem sh_tS (m : Tab) : isSh (tS m) = true := rfl
theorem fz_tS (m : Tab) : fz (tS m) = tS m := fz_isSh rfl
theorem shl_tS (ms : List Tab) : (ms.map fun m => tS m).all isSh = true := sh_map sh_tS ms
theorem fzl_tS (ms : List Tab) : fzs (ms.map fun m => tS m) = ms.map fun m => tS m := fzs_map sh_tS ms
def eO (h : HF) : D := hD h.1 h.2.1 h.2.2
theorem fz_eO (h : HF) : fz (eO h) = eH h := by
  have hfv : fzs (vE (enc : Int -> D) h.2.2) = vE enc h.2.2 := fzs_vE (fun b => fz_enc b) h.2.2
  unfold eO eH
  simp only [fz, fzs, hfv]
theorem fzl_eO (hs : List HF) : fzs (hs.map eO) = hs.map eH := by
  rw [fzs_eq, List.map_map]
  exact List.map_congr_left fun h _ => fz_eO h
def sD (h : HF) : D := .tup [.int h.1, tS h.2.2, .int h.2.1]
theorem sh_sD (h : HF) : isSh (sD h) = true := rfl
theorem fz_sD (h : HF) : fz (sD h) = sD h := fz_isSh rfl
theorem shl_sD (hs : List HF) : (hs.map sD).all isSh = true := sh_map sh_sD hs
theorem fzl_sD (hs : List HF) : fzs (hs.map sD) = hs.map sD := fzs_map sh_sD hs
theorem fzv_tab (m : Tab) : fzs (vE (enc : Int -> D) m) = vE enc m := fzs_vE (fun b => fz_enc b) m
theorem shv_tab (m : Tab) : (vE (enc : Int -> D) m).all isSh = true := vE_sh (fun b => sh_enc b) m
local macro_rules | `(tactic| walk_at "evj") => `(tactic| dsimp? only [fzv_tab, shv_tab, sh_sD, fz_sD, shl_sD, fzl_sD, fz_eO, fzl_eO, shl_tS, fzl_tS, it_FS, sh_eH, fz_eH, shl_eH, fzl_eH, srt_int, enc_int, enc_bool, sh_enc, fz_enc, shl_enc, fzl_enc, fl_enc, ok_enc, okl_enc, eq_enc, eql_enc, vE_length, kI_length])
structure OkH (h : HF) : Prop where
  f1 : 1 <= h.1
  f2 : h.1 <= 64
  o1 : 0 <= h.2.1
  o2 : h.2.1 < h.1
  nk : Nk h.2.2
  len : h.2.2.length <= 1000
  p : ∀ q ∈ h.2.2, 0 <= q.2 /\ q.2 < h.1
structure OkF (hs : List HF) : Prop where
  len : hs.length <= 4
  ok : ∀ h ∈ hs, OkH h
def part (h : HF) (k : Int) : Int := (alG h.2.2 k).getD h.2.1
theorem alG_some {m : Tab} {k v : Int} (h : alG m k = some v) : ∃ q ∈ m, q.1 = k /\ q.2 = v := by
  unfold alG at h
  obtain ⟨q, h1, h2⟩ := Option.map_eq_some_iff.mp h
  exact ⟨q, List.mem_of_find?_eq_some h1, by have := List.find?_some h1; exact of_decide_eq_true this, h2⟩
theorem part_ok {h : HF} (ok : OkH h) (k : Int) : 0 <= part h k /\ part h k < h.1 := by
  unfold part
  cases e : alG h.2.2 k with
  | none => exact ⟨ok.o1, ok.o2⟩
  | some v =>
    obtain ⟨q, h1, _, h3⟩ := alG_some e
    have := ok.p q h1
    simp only [Option.getD_some]
    omega
def partAt (hs : List HF) (k : Int) (l : Nat) : Int := match hs[l - 1]? with
  | some h => part h k
  | none => 0
theorem f_part_of (k : Nat) {h : HF} (ok : OkH h) (q : Int) : semT (tbl W) (k + 2) "HashFunction.part_of" [eH h, .int q] none = .ok (.int (part h q)) none := by
  have u := fun i => u_is_integer (W := W) k i
  have hp := part_ok ok q
  have hd := dg_al (enc : Int -> D) q h.2.2
  have e : part h q = (alG h.2.2 q).getD h.2.1 := rfl
  rw [sem_HashFunction_part_of]
  unfold b_HashFunction_part_of eH
  generalize part h q = v at *
  cases hv : alG h.2.2 q with
  | none =>
    rw [hv] at hd e
    simp only [Option.getD_none] at e
    subst e
    walk_at "evj"
    rw [hd]
    walk_at "evj"
    rw [u]
    walk_at "evj"
  | some z =>
    rw [hv] at hd e
    simp only [Option.getD_some] at e
    subst e
    walk_at "evj"
    rw [hd]
    walk_at "evj"
    rw [u]
    walk_at "evj"
theorem f_call (k : Nat) {h : HF} (ok : OkH h) (q : Int) : semT (tbl W) (k + 3) "HashFunction.__call__" [eH h, .int q] none = .ok (.int (part h q)) none := by
  have u := f_part_of (W := W) k ok q
  unfold eH at u
  rw [sem_HashFunction___call__]
  unfold b_HashFunction___call__ eH
  walk_at "evj"
  rw [u]
  walk_at "evj"
theorem get_eH {hs : List HF} {l : Nat} {h : HF} (e : hs[l]? = some h) : atI (hs.map eH) (l : Int) = some (eH h) := atI_of (by rw [List.getElem?_map, e]; rfl)
theorem f_part_at (k : Nat) {hs : List HF} (ok : OkF hs) (q : Int) (l : Nat) (h1 : 1 <= l) : semT (tbl W) (k + 4) "Family.part_at" [FS hs, .int q, .int (l : Int)] none = .ok (.int (partAt hs q l)) none := by
  rw [sem_Family_part_at]
  unfold b_Family_part_at
  by_cases h : hs.length < l
  · have e : partAt hs q l = 0 := by unfold partAt; rw [List.getElem?_eq_none (by omega)]
    rw [e]
    have h2 : (hs.length : Int) < (l : Int) := by omega
    walk_at "evj"
    try rw [decide_eq_true h2]
    try walk_at "evj"
  · have hg : hs[l - 1]? = some hs[l - 1] := List.getElem?_eq_getElem (by omega)
    have e : partAt hs q l = part hs[l - 1] q := by unfold partAt; rw [hg]
    have oh := ok.ok hs[l - 1] (List.getElem_mem _)
    have hat := get_eH hg
    rw [e]
    generalize hs[l - 1] = hh at *
    have h2 : ¬ (hs.length : Int) < (l : Int) := by omega
    have u := f_call (W := W) k oh q
    rw [show ((l - 1 : Nat) : Int) = (l : Int) - 1 by omega] at hat
    walk_at "evj"
    try rw [decide_eq_false h2]
    try walk_at "evj"
    rw [hat]
    walk_at "evj"
    unfold eH at u ⊢
    walk_at "evj"
    rw [u]
    walk_at "evj"
abbrev Tr := T3 Int Int Int
abbrev cD (ts : List Tr) : D := .oins "Counts" ["_rows"] [.lst (ts.map enc)]
abbrev cS (ts : List Tr) : D := .ins "Counts" ["_rows"] [.lst (ts.map enc)]
local macro_rules | `(tactic| walk_at "evk0") => `(tactic| dsimp? only [])
theorem it_cS (ts : List Tr) : itOf TT (cS ts) = some (ts.map enc) := by
  walk_at "evk0"
local macro_rules | `(tactic| walk_at "evc") => `(tactic| dsimp? only [it_cS, it_t3, sF_t3, sFI_t3, ty_t3, len_t3, lenI_t3, fl_t3, xg_t3, it_pair, sF_pair, sFI_pair, so_pair, ty_pair, len_pair, lenI_pair, fl_pair, xg_pair, enc_int, isN_opt, sh_enc, fz_enc, shl_enc, fzl_enc, fl_enc, ok_enc, okl_enc, eq_enc, eql_enc, en_enc, ne_enc, nn_enc, decide_true, enumD_enc])
theorem f_is_triple (k : Nat) (t : Tr) (h1 : 0 <= t.b) (h2 : 0 <= t.c) (h3 : 0 < t.b + t.c) : semT (tbl W) (k + 2) "is_triple" [enc t] none = .ok (.bl true) none := by
  obtain ⟨a, b, c⟩ := t
  dsimp only at h1 h2 h3
  have u := fun i => u_is_integer (W := W) k i
  rw [sem_is_triple]
  unfold b_is_triple
  walk_at "evc"
  unfold l1_is_triple
  walk_at "evc"
  repeat (rw [u]; walk_at "evc")
  rw [decide_eq_true h3]
structure OkTs (ts : List Tr) : Prop where
  asc : ts.Pairwise fun s t => s.a < t.a
  nn : ∀ t ∈ ts, 0 <= t.b /\ 0 <= t.c /\ 0 < t.b + t.c
theorem f_counts_init (k : Nat) (ts : List Tr) (hl : ts.length <= 1000) (ho : OkTs ts) : semT (tbl W) (k + 3) "Counts.__init__" [.oins "Counts" [] [], .lst (ts.map enc)] (some 0) = .ok .non (some (cD ts)) := by
  rw [sem_Counts___init__]
  unfold b_Counts___init__
  walk_at "evc"
  generalize hF : forL _ _ _ = r
  obtain ⟨e', rfl, o3, o4, rfl⟩ := forL_gen (fun j e => ∃ o3 o4, e = [some (.oins "Counts" [] []), some (.lst (ts.map enc)), some (.olst ((ts.take j).map enc)), o3, o4]) hF ⟨none, none, rfl⟩ (by
    rintro j d _ hd ⟨o3, o4, rfl⟩
    obtain ⟨q, hq, rfl⟩ := get_map hd
    rw [withIx_get] at hq
    obtain ⟨x, hx, rfl⟩ := Option.map_eq_some_iff.mp hq
    have hj := (List.getElem?_eq_some_iff.mp hx).1
    have ht : ts.take (j + 1) = ts.take j ++ [x] := by rw [List.take_add_one, hx]; rfl
    have hlen : (ts.take j).length = j := by rw [List.length_take]; omega
    obtain ⟨n1, n2, n3⟩ := ho.nn x (List.mem_of_getElem? hx)
    have hr := f_is_triple (W := W) k x n1 n2 n3
    rcases j with _ | j
    · refine ⟨_, .inl (by
        unfold l1_Counts___init__
        walk_at "evc"
        rw [hr]
        walk_at "evc"
        rfl), _, _, by rw [ht, List.map_append]; rfl⟩
    · have hy : ts[j]? = some (ts[j]'(by omega)) := List.getElem?_eq_getElem _
      have hlt : (ts[j]'(by omega)).a < x.a := by
        have := List.pairwise_iff_getElem.mp ho.asc j (j + 1) (by omega) hj (by omega)
        rw [List.getElem?_eq_getElem hj] at hx
        cases hx
        exact this
      generalize ts[j] = y at hy hlt
      have ht2 : ts.take (j + 1) = ts.take j ++ [y] := by rw [List.take_add_one, hy]; rfl
      have hla : ((ts.take (j + 1)).map (enc : Tr -> D)).getLast? = some (enc y) := by rw [ht2, List.map_append]; simp
      generalize ts.take (j + 1) = us at *
      refine ⟨_, .inl (by
        unfold l1_Counts___init__
        walk_at "evc"
        rw [hr]
        walk_at "evc"
        rw [hla]
        walk_at "evc"
        rfl), _, _, by rw [ht, List.map_append]; rfl⟩)
  rw [List.length_map, withIx_length, List.take_length]
  walk_at "evc"
theorem sumI_enc (ns : List Int) : sumI (ns.map enc) = some (.int ns.sum) := h_sumI
def sumB (ts : List Tr) : Int := (ts.map T3.b).sum
def sumC (ts : List Tr) : Int := (ts.map T3.c).sum
theorem f_left_total (k : Nat) (ts : List Tr) (hl : ts.length <= 1000) : semT (tbl W) (k + 1) "Counts.left_total" [cS ts] none = .ok (.int (sumB ts)) none := by
  rw [sem_Counts_left_total]
  unfold b_Counts_left_total
  walk_at "evc"
  rw [lcL_mapE (enc := enc) (enc2 := enc) (fun t : Tr => t.b) ts (fun t _ => by
    walk_at "evc"
    try rfl)]
  walk_at "evc"
  rw [sumI_enc]
  walk_at "evc"
  try rfl
theorem f_right_total (k : Nat) (ts : List Tr) (hl : ts.length <= 1000) : semT (tbl W) (k + 1) "Counts.right_total" [cS ts] none = .ok (.int (sumC ts)) none := by
  rw [sem_Counts_right_total]
  unfold b_Counts_right_total
  walk_at "evc"
  rw [lcL_mapE (enc := enc) (enc2 := enc) (fun t : Tr => t.c) ts (fun t _ => by
    walk_at "evc"
    try rfl)]
  walk_at "evc"
  rw [sumI_enc]
  walk_at "evc"
  try rfl
abbrev pD (room : Int) (build : String) (keep : Int) : D := .oins "Plan" ["room", "build", "keep_from"] [.int room, .str build, .int keep]
abbrev pS (room : Int) (build : String) (keep : Int) : D := .ins "Plan" ["room", "build", "keep_from"] [.int room, .str build, .int keep]
theorem f_plan_init (k : Nat) {room keep : Int} {build : String} (h1 : 1 <= room) (h2 : room <= 100) (h3 : 0 <= keep) (h4 : keep <= 8) (h5 : build = "left" \/ build = "right" \/ build = "lesser") :
    semT (tbl W) (k + 2) "Plan.__init__" [.oins "Plan" [] [], .int room, .str build, .int keep] (some 0) = .ok .non (some (pD room build keep)) := by
  have u := fun i => u_is_integer (W := W) k i
  rw [sem_Plan___init__]
  unfold b_Plan___init__
  walk_at "evc"
  rw [u]
  walk_at "evc"
  rcases h5 with rfl | rfl | rfl <;> (walk_at "evc"; try rw [u]; try walk_at "evc")
theorem f_counts_len (k : Nat) (ls : List Tr) : semT (tbl W) (k + 1) "Counts.__len__" [cS ls] none = .ok (.int ls.length) none := by
  rw [sem_Counts___len__]
  unfold b_Counts___len__
  walk_at "evc"
def sideB (b : String) (l r : Int) : String := if b = "lesser" then (if l < r then "left" else "right") else b
theorem f_build_side (k : Nat) {R K l r : Int} {b : String} (hb : b = "left" \/ b = "right" \/ b = "lesser") : semT (tbl W) (k + 1) "Plan.build_side" [pS R b K, .int l, .int r] none = .ok (.str (sideB b l r)) none := by
  rw [sem_Plan_build_side]
  unfold b_Plan_build_side sideB
  rcases hb with rfl | rfl | rfl
  · walk_at "evc"
    try rfl
  · walk_at "evc"
    try rfl
  · by_cases h : l < r
    · rw [if_pos rfl, if_pos h]
      walk_at "evc"
    · rw [if_pos rfl, if_neg h]
      walk_at "evc"
theorem side_lr {b : String} (hb : b = "left" \/ b = "right" \/ b = "lesser") (l r : Int) : sideB b l r = "left" \/ sideB b l r = "right" := by
  unfold sideB
  rcases hb with rfl | rfl | rfl
  · exact .inl rfl
  · exact .inr rfl
  · rw [if_pos rfl]; split; exact .inl rfl; exact .inr rfl
def rwN (l : Bool) (t : Tr) : Int := if l = true then t.b else t.c
def prN (l : Bool) (t : Tr) : Int := if l = true then t.c else t.b
def mkT (l : Bool) (a n p : Int) : Tr := if l = true then ⟨a, n, p⟩ else ⟨a, p, n⟩
def subF (l : Bool) (t : Tr) (f : Int) : Tr := mkT l t.a (rwN l t - f) (prN l t)
theorem mkT_self (l : Bool) (t : Tr) : mkT l t.a (rwN l t) (prN l t) = t := by cases l <;> rfl
theorem subF_zero (l : Bool) (t : Tr) : subF l t 0 = t := by unfold subF; rw [Int.sub_zero, mkT_self]
def restR (l : Bool) : List Tr -> Int -> List Tr
  | [], _ => []
  | t :: ts, f => if rwN l t <= f then restR l ts (f - rwN l t) else subF l t f :: ts
def pStep (l : Bool) (s : Int × List Tr) (t : Tr) : Int × List Tr := if s.2 = [] /\ rwN l t <= s.1 then (s.1 - rwN l t, s.2) else (0, s.2 ++ [subF l t s.1])
theorem p_fold1 (l : Bool) : ∀ (ts : List Tr) (rest : List Tr), rest ≠ [] -> (ts.foldl (pStep l) (0, rest)).2 = rest ++ ts
  | [], rest, _ => by simp
  | t :: ts, rest, h => by
    rw [List.foldl_cons]
    have e : pStep l (0, rest) t = (0, rest ++ [t]) := by
      unfold pStep
      rw [if_neg (fun z => h z.1), subF_zero]
    rw [e, p_fold1 l ts _ (by simp)]
    simp
theorem p_fold (l : Bool) : ∀ (ts : List Tr) (f : Int), (ts.foldl (pStep l) (f, [])).2 = restR l ts f
  | [], f => rfl
  | t :: ts, f => by
    rw [List.foldl_cons, restR]
    by_cases h : rwN l t <= f
    · have e : pStep l (f, []) t = (f - rwN l t, []) := if_pos ⟨rfl, h⟩
      rw [e, if_pos h]
      exact p_fold l ts _
    · have e : pStep l (f, []) t = (0, [subF l t f]) := if_neg fun z => h z.2
      rw [e, if_neg h, p_fold1 l ts _ (by simp)]
      rfl
theorem rw_nn {l : Bool} {ts : List Tr} (h : OkTs ts) : ∀ t ∈ ts, 0 <= rwN l t /\ 0 <= prN l t /\ 0 < rwN l t + prN l t := fun t ht => by
  obtain ⟨a, b, c⟩ := h.nn t ht
  cases l
  · exact ⟨b, a, by show 0 < t.c + t.b; omega⟩
  · exact ⟨a, b, c⟩
theorem OkTs.tail {t : Tr} {ts : List Tr} (h : OkTs (t :: ts)) : OkTs ts := ⟨(List.pairwise_cons.mp h.asc).2, fun s hs => h.nn s (List.mem_cons_of_mem _ hs)⟩
theorem subF_a (l : Bool) (t : Tr) (f : Int) : (subF l t f).a = t.a := by cases l <;> rfl
theorem ok_rest (l : Bool) : ∀ (ts : List Tr) (f : Int), OkTs ts -> 0 <= f -> OkTs (restR l ts f)
  | [], _, h, _ => h
  | t :: ts, f, h, hf => by
    have hs := rw_nn (l := l) h t (List.mem_cons_self ..)
    rw [restR]
    split
    · exact ok_rest l ts _ h.tail (by omega)
    · refine ⟨List.pairwise_cons.mpr ⟨fun s hs' => by rw [subF_a]; exact (List.pairwise_cons.mp h.asc).1 s hs', h.tail.asc⟩, fun s hs' => ?_⟩
      rcases List.mem_cons.mp hs' with rfl | m
      · cases l
        · obtain ⟨a1, a2, a3⟩ := h.nn t (List.mem_cons_self ..)
          have : ¬ t.c <= f := by assumption
          show 0 <= t.b /\ 0 <= t.c - f /\ 0 < t.b + (t.c - f)
          omega
        · obtain ⟨a1, a2, a3⟩ := h.nn t (List.mem_cons_self ..)
          have : ¬ t.b <= f := by assumption
          show 0 <= t.b - f /\ 0 <= t.c /\ 0 < t.b - f + t.c
          omega
      · exact h.tail.nn s m
theorem rest_len (l : Bool) : ∀ (ts : List Tr) (f : Int), (restR l ts f).length <= ts.length
  | [], _ => Nat.le_refl _
  | t :: ts, f => by
    rw [restR]
    split
    · exact Nat.le_succ_of_le (rest_len l ts _)
    · exact Nat.le_refl _
theorem pStep_len (l : Bool) : ∀ (ts : List Tr) (s : Int × List Tr), (ts.foldl (pStep l) s).2.length <= s.2.length + ts.length
  | [], s => Nat.le_refl _
  | t :: ts, s => by
    rw [List.foldl_cons]
    refine Nat.le_trans (pStep_len l ts _) ?_
    rw [List.length_cons]
    unfold pStep
    split
    · dsimp only; omega
    · rw [List.length_append, List.length_singleton]; omega
theorem p_loop (k : Nat) {b : String} (l : Bool) (hb : b = if l = true then "left" else "right") (ts : List Tr) (hl : ts.length <= 1000) (x0 x1 x2 x4 : Option D) (R : Int) : ∃ o7 o8 o9 o10, forL (forK (xgT 3 (xgsCons (xgN W 7) (xgsCons (xgN W 8) (xgsCons (xgN W 9) (xgsNil W))))) (l1_counted_pass W (semT (tbl W) k)) []) (ts.map enc) [x0, x1, x2, some (.str b), x4, some (.int R), some (.olst []), none, none, none, none] =
    .nx [x0, x1, x2, some (.str b), x4, some (.int (ts.foldl (pStep l) (R, [])).1), some (.olst ((ts.foldl (pStep l) (R, [])).2.map enc)), o7, o8, o9, o10] := by
  generalize hF : forL _ _ _ = r
  obtain ⟨e', rfl, o7, o8, o9, o10, rfl⟩ := forL_enc (fun ys e => ∃ o7 o8 o9 o10, e = [x0, x1, x2, some (.str b), x4, some (.int (ys.foldl (pStep l) (R, [])).1), some (.olst ((ys.foldl (pStep l) (R, [])).2.map enc)), o7, o8, o9, o10]) hF ⟨none, none, none, none, rfl⟩ (by
    rintro ys t zs _ hx ⟨o7, o8, o9, o10, rfl⟩
    have hp := pre_le hx
    have hq := pStep_len l ys (R, [])
    rw [List.foldl_append]
    generalize ys.foldl (pStep l) (R, []) = s at *
    obtain ⟨f, rest⟩ := s
    simp only [List.length_nil] at hq
    rw [List.foldl_cons, List.foldl_nil]
    by_cases h : rest = [] /\ rwN l t <= f
    · obtain ⟨rfl, h⟩ := h
      have e : pStep l (f, []) t = (f - rwN l t, []) := if_pos ⟨rfl, h⟩
      rw [e]
      refine ⟨_, .inl (?_ : _ = RS.nx [x0, x1, x2, some (.str b), x4, some (.int (f - rwN l t)), some (.olst []), some (.int t.a), some (.int t.b), some (.int t.c), some (.int (rwN l t))]), _, _, _, _, rfl⟩
      cases l
      · subst hb
        have h : t.c <= f := h
        show _ = RS.nx [x0, x1, x2, _, x4, some (.int (f - t.c)), some (.olst []), some (.int t.a), some (.int t.b), some (.int t.c), some (.int t.c)]
        unfold l1_counted_pass
        simp only [if_neg (show ¬ false = true by decide)]
        walk_at "evc"
      · subst hb
        have h : t.b <= f := h
        show _ = RS.nx [x0, x1, x2, _, x4, some (.int (f - t.b)), some (.olst []), some (.int t.a), some (.int t.b), some (.int t.c), some (.int t.b)]
        unfold l1_counted_pass
        simp only [if_pos (show true = true from rfl)]
        walk_at "evc"
    · have e : pStep l (f, rest) t = (0, rest ++ [subF l t f]) := if_neg h
      rw [e]
      refine ⟨_, .inl (?_ : _ = RS.nx [x0, x1, x2, some (.str b), x4, some (.int 0), some (.olst ((rest ++ [subF l t f]).map enc)), some (.int t.a), some (.int t.b), some (.int t.c), some (.int (rwN l t))]), _, _, _, _, rfl⟩
      have hn : ¬ ((rest.length : Int) = 0 /\ rwN l t <= f) := fun z => h ⟨List.eq_nil_of_length_eq_zero (by omega), z.2⟩
      have hcase : (rest.length : Int) ≠ 0 \/ ((rest.length : Int) = 0 /\ f < rwN l t) := by omega
      cases l
      · subst hb
        show _ = RS.nx [x0, x1, x2, _, x4, some (.int 0), some (.olst ((rest ++ [(⟨t.a, t.b, t.c - f⟩ : Tr)]).map enc)), some (.int t.a), some (.int t.b), some (.int t.c), some (.int t.c)]
        have hcase : (rest.length : Int) ≠ 0 \/ ((rest.length : Int) = 0 /\ f < t.c) := hcase
        unfold l1_counted_pass
        simp only [if_neg (show ¬ false = true by decide)]
        rcases hcase with h0 | ⟨h0, h2⟩
        · walk_at "evc"
          rw [List.map_append]
          rfl
        · walk_at "evc"
          rw [List.map_append]
          rfl
      · subst hb
        show _ = RS.nx [x0, x1, x2, _, x4, some (.int 0), some (.olst ((rest ++ [(⟨t.a, t.b - f, t.c⟩ : Tr)]).map enc)), some (.int t.a), some (.int t.b), some (.int t.c), some (.int t.b)]
        have hcase : (rest.length : Int) ≠ 0 \/ ((rest.length : Int) = 0 /\ f < t.b) := hcase
        unfold l1_counted_pass
        simp only [if_pos (show true = true from rfl)]
        rcases hcase with h0 | ⟨h0, h2⟩
        · walk_at "evc"
          rw [List.map_append]
          rfl
        · walk_at "evc"
          rw [List.map_append]
          rfl)
  exact ⟨_, _, _, _, rfl⟩
def cpOut (R K depth : Int) (l : Bool) (ts : List Tr) : String × List Tr :=
  if (if l = true then sumB ts else sumC ts) <= R then ("all", []) else if depth < K then ("none", ts) else ("some", restR l ts R)
def isL (b : String) (ts : List Tr) : Bool := decide (sideB b (sumB ts) (sumC ts) = "left")
theorem ok_nil : OkTs [] := ⟨.nil, fun t h => nomatch h⟩
theorem f_counted_pass (k : Nat) {R K depth : Int} {b : String} (hb : b = "left" \/ b = "right" \/ b = "lesser") (hR : 0 <= R) (ts : List Tr) (hl : ts.length <= 1000) (ho : OkTs ts) :
    semT (tbl W) (k + 4) "counted_pass" [cS ts, .int depth, pS R b K] none = .ok (.tup [.str (cpOut R K depth (isL b ts) ts).1, cS (cpOut R K depth (isL b ts) ts).2]) none := by
  have c1 := f_left_total (W := W) (k + 2) ts hl
  have c2 := f_right_total (W := W) (k + 2) ts hl
  have c3 := f_build_side (W := W) (k + 2) (R := R) (K := K) (l := sumB ts) (r := sumC ts) hb
  have c4 := f_counts_init (W := W) k [] (by simp) ok_nil
  have c5 := f_counts_init (W := W) k ts hl ho
  have c7 := f_counts_len (W := W) (k + 2) ts
  have hs := side_lr hb (sumB ts) (sumC ts)
  rw [sem_counted_pass]
  unfold b_counted_pass cpOut isL
  generalize sideB b (sumB ts) (sumC ts) = sd at *
  walk_at "evc"
  rw [c1]
  walk_at "evc"
  rw [c2]
  walk_at "evc"
  rw [c3]
  walk_at "evc"
  have main : ∀ l : Bool, sd = (if l = true then "left" else "right") -> runR none
      (RS.then (.nx [some (cS ts), some (.int depth), some (pS R b K), some (.str sd), some (.int (if l = true then sumB ts else sumC ts)), none, none, none, none, none, none])
        ((xsSeq (xsIf (xtV (xLe (xVar W 4) (xFld (xVar W 2) "room"))) (xsRet (xmP (xTup (xaCons (xStr W "all") (xaCons (xMake (semT (tbl W) (k + 3)) "Counts" "Counts.__init__" 2 (xaCons (xLst (xaNil W)) (xaNil W)) [] [] (fun _ => .nil)) (xaNil W)))))) (xsNext W))
  (xsSeq (xsIf (xtV (xLt (xVar W 1) (xFld (xVar W 2) "keep_from"))) (xsRet (xmP (xTup (xaCons (xStr W "none") (xaCons (xMake (semT (tbl W) (k + 3)) "Counts" "Counts.__init__" 2 (xaCons (xListU (semT (tbl W) (k + 3)) (xVar W 0)) (xaNil W)) [] [] (fun _ => .nil)) (xaNil W)))))) (xsNext W))
  (xsSeq (xsAsg 5 (xmP (xFld (xVar W 2) "room")))
  (xsSeq (xsAsg 6 (xmP (xLst (xaNil W))))
  (xsSeq (xsFrz [0] (xsFor (xiSeqU (xVar W 0)) (xgT 3 (xgsCons (xgN W 7) (xgsCons (xgN W 8) (xgsCons (xgN W 9) (xgsNil W))))) (l1_counted_pass W (semT (tbl W) (k + 3)))))
  (xsFrz [6] (xsRet (xmP (xTup (xaCons (xStr W "some") (xaCons (xMake (semT (tbl W) (k + 3)) "Counts" "Counts.__init__" 2 (xaCons (xVar W 6) (xaNil W)) [] [] (fun _ => .nil)) (xaNil W)))))))))))).ev [])) =
      .ok (.tup [.str (if (if l = true then sumB ts else sumC ts) <= R then ("all", ([] : List Tr)) else if depth < K then ("none", ts) else ("some", restR l ts R)).1, cS (if (if l = true then sumB ts else sumC ts) <= R then ("all", ([] : List Tr)) else if depth < K then ("none", ts) else ("some", restR l ts R)).2]) none := by
    intro l hl2
    generalize (if l = true then sumB ts else sumC ts) = S
    by_cases h1 : S <= R
    · rw [if_pos h1]
      walk_at "evc"
      have c4 : semT (tbl W) (k + 3) "Counts.__init__" [.oins "Counts" [] [], .lst []] (some 0) = .ok .non (some (.oins "Counts" ["_rows"] [.lst []])) := c4
      rw [c4]
      walk_at "evc"
      rfl
    · rw [if_neg h1]
      by_cases h2 : depth < K
      · rw [if_pos h2]
        walk_at "evc"
        rw [c7]
        walk_at "evc"
        rw [c5]
        walk_at "evc"
      · rw [if_neg h2]
        have c6 := f_counts_init (W := W) k (restR l ts R) (by have := rest_len l ts R; omega) (ok_rest l ts R ho hR)
        obtain ⟨o7, o8, o9, o10, hp⟩ := p_loop (W := W) (k + 3) l hl2 ts hl (some (cS ts)) (some (.int depth)) (some (pS R b K)) (some (.int S)) R
        rw [p_fold] at hp
        walk_at "evc"
        rw [hp]
        walk_at "evc"
        rw [c6]
        walk_at "evc"
  rcases hs with rfl | rfl
  · rw [decide_eq_true (rfl : "left" = "left")]
    refine (congrArg (fun z => runR none (RS.then z _)) ?_).trans (main true rfl)
    walk_at "evc"
    rw [c1]
    walk_at "evc"
  · rw [decide_eq_false (show ¬ "right" = "left" by decide)]
    refine (congrArg (fun z => runR none (RS.then z _)) ?_).trans (main false rfl)
    walk_at "evc"
    rw [c2]
    walk_at "evc"
theorem cp_len {R K depth : Int} {l : Bool} (ts : List Tr) : (cpOut R K depth l ts).2.length <= ts.length := by
  unfold cpOut
  split <;> split <;> first | exact Nat.zero_le _ | exact Nat.le_refl _ | exact rest_len l ts R | (split <;> first | exact Nat.le_refl _ | exact rest_len l ts R)
theorem isL_of {b : String} (ts : List Tr) (hb : b = "left" \/ b = "right" \/ b = "lesser") : isL b ts = if b = "lesser" then decide (sumB ts < sumC ts) else decide (b = "left") := by
  unfold isL sideB
  split
  · by_cases h : sumB ts < sumC ts
    · rw [if_pos h, decide_eq_true h]; rfl
    · rw [if_neg h, decide_eq_false h]; rfl
  · rfl
theorem f_rows_in (k : Nat) (ts : List Tr) (hl : ts.length <= 1000) : semT (tbl W) (k + 2) "rows_in" [cS ts] none = .ok (.int (sumB ts + sumC ts)) none := by
  have c1 := f_left_total (W := W) k ts hl
  have c2 := f_right_total (W := W) k ts hl
  rw [sem_rows_in]
  unfold b_rows_in
  walk_at "evc"
  rw [c1]
  walk_at "evc"
  rw [c2]
  walk_at "evc"
def grp {β : Type} (f : β -> Int) (xs : List β) : List (Int × List β) := xs.foldl (fun m x => alA m (f x) x) []
theorem grp_snoc {β : Type} (f : β -> Int) (xs : List β) (x : β) : grp f (xs ++ [x]) = alA (grp f xs) (f x) x := by unfold grp; rw [List.foldl_append]; rfl
theorem grp_nk {β : Type} (f : β -> Int) : ∀ (xs : List β) (m : List (Int × List β)), Nk m -> Nk (xs.foldl (fun m x => alA m (f x) x) m)
  | [], m, h => h
  | x :: xs, m, h => grp_nk f xs _ (Nk.put h)
theorem grp_get {β : Type} (f : β -> Int) (k : Int) : ∀ (xs : List β) (m : List (Int × List β)), ((alG (xs.foldl (fun m x => alA m (f x) x) m) k).getD []) = (alG m k).getD [] ++ xs.filter fun x => decide (f x = k)
  | [], m => by simp
  | x :: xs, m => by
    rw [List.foldl_cons, grp_get f k xs]
    unfold alA
    rw [alG_alP]
    by_cases h : k = f x
    · subst h
      rw [if_pos rfl, List.filter_cons_of_pos (by simp)]
      simp
    · rw [if_neg h, List.filter_cons_of_neg (by simpa using fun z => h z.symm)]
theorem grp_bd {β : Type} (f : β -> Int) (N : Nat) : ∀ (xs : List β) (m : List (Int × List β)), m.length + xs.length <= N -> (∀ q ∈ m, q.2.length + xs.length <= N) -> (xs.foldl (fun m x => alA m (f x) x) m).length <= N /\ ∀ q ∈ xs.foldl (fun m x => alA m (f x) x) m, q.2.length <= N
  | [], m, h, h2 => ⟨by simpa using h, fun q hq => by simpa using h2 q hq⟩
  | x :: xs, m, h, h2 => by
    rw [List.foldl_cons]
    simp only [List.length_cons] at h h2
    refine grp_bd f N xs _ ?_ fun q hq => ?_
    · have : (alA m (f x) x).length <= m.length + 1 := alP_length
      omega
    · have hv : ((alG m (f x)).getD []).length + (xs.length + 1) <= N := by
        unfold alG
        cases hf : m.find? (fun q => decide (q.1 = f x)) with
        | none => simp; omega
        | some z => exact h2 z (List.mem_of_find?_eq_some hf)
      unfold alA alP at hq
      split at hq
      · obtain ⟨z, hz, rfl⟩ := List.mem_map.mp hq
        split
        · simp; omega
        · have := h2 z hz; omega
      · rcases List.mem_append.mp hq with hq | hq
        · have := h2 q hq; omega
        · rw [List.mem_singleton.mp hq]; simp; omega
theorem alA_keys {β : Type} (m : List (Int × List β)) (k : Int) (x : β) : (alA m k x).map (·.1) = if k ∈ m.map (·.1) then m.map (·.1) else m.map (·.1) ++ [k] := by
  unfold alA alP
  by_cases h : (m.any fun p => decide (p.1 = k)) = true
  · have h2 : k ∈ m.map (·.1) := by
      obtain ⟨p, hp, e⟩ := List.any_eq_true.mp h
      exact List.mem_map.mpr ⟨p, hp, of_decide_eq_true e⟩
    rw [if_pos h, if_pos h2, List.map_map]
    refine List.map_congr_left fun p _ => ?_
    show (if p.1 = k then (k, _) else p).1 = p.1
    split
    · rename_i e; exact e.symm
    · rfl
  · have h2 : k ∉ m.map (·.1) := fun z => h (by
      obtain ⟨p, hp, e⟩ := List.mem_map.mp z
      exact List.any_eq_true.mpr ⟨p, hp, decide_eq_true e⟩)
    rw [if_neg h, if_neg h2, List.map_append]
    rfl
def keysG {β : Type} (f : β -> Int) (xs : List β) : List Int := (grp f xs).map (·.1)
theorem keysG_snoc {β : Type} (f : β -> Int) (xs : List β) (x : β) : keysG f (xs ++ [x]) = if f x ∈ keysG f xs then keysG f xs else keysG f xs ++ [f x] := by
  unfold keysG; rw [grp_snoc, alA_keys]
theorem grp_alG {β : Type} {f : β -> Int} {k : Int} {xs : List β} (h : k ∈ keysG f xs) : alG (grp f xs) k = some (xs.filter fun x => decide (f x = k)) := by
  have h1 := grp_get f k xs []
  obtain ⟨p, hp, e⟩ := List.mem_map.mp h
  cases hz : alG (grp f xs) k with
  | none =>
    exfalso
    unfold alG at hz
    rw [Option.map_eq_none_iff, List.find?_eq_none] at hz
    exact hz p hp (decide_eq_true e)
  | some v =>
    have h1 : (alG (grp f xs) k).getD [] = _ := h1
    rw [hz] at h1
    simpa [alG] using h1
theorem grp_len {β : Type} (f : β -> Int) (xs : List β) : (grp f xs).length <= xs.length /\ ∀ q ∈ grp f xs, q.2.length <= xs.length := grp_bd f xs.length xs [] (by simp) (fun q h => nomatch h)
abbrev lO (l : List Tr) : D := .olst (l.map enc)
abbrev lS (l : List Tr) : D := .lst (l.map enc)
theorem fzv_lO (m : List (Int × List Tr)) : fzs (vE lO m) = vE lS m := fzs_vE (fun b => by show fz (.olst _) = _; rw [fz, fzs_map (fun a => sh_enc a)]) m
theorem shv_lS (m : List (Int × List Tr)) : (vE lS m).all isSh = true := vE_sh (fun b => rfl) m
def chD (p : Int × List Tr) : D := .tup [.int p.1, cS p.2]
local macro_rules | `(tactic| walk_at "evs") => `(tactic| dsimp? only [fzv_lO, shv_lS, fzv_tab, shv_tab, sh_sD, fz_sD, shl_sD, fzl_sD, fz_eO, fzl_eO, it_FS, sh_eH, fz_eH, shl_eH, fzl_eH, srt_int, it_cS, it_t3, sF_t3, sFI_t3, ty_t3, len_t3, lenI_t3, fl_t3, xg_t3, enc_int, isN_opt, sh_enc, fz_enc, shl_enc, fzl_enc, fl_enc, ok_enc, okl_enc, eq_enc, eql_enc, en_enc, ne_enc, nn_enc, vE_length, kI_length])
theorem f_split_counts (k : Nat) {hs : List HF} (ok : OkF hs) (ts : List Tr) (ho : OkTs ts) (hl : ts.length <= 100) (lv : Nat) (h1 : 1 <= lv) : semT (tbl W) (k + 5) "split_counts" [cS ts, FS hs, .int (lv : Int)] none =
    .ok (.olst (((srtI (keysG (fun t : Tr => partAt hs t.a lv) ts)).map fun p => (p, ts.filter fun t => decide (partAt hs t.a lv = p))).map chD)) none := by
  rw [sem_split_counts]
  unfold b_split_counts
  walk_at "evs"
  generalize hF : forL _ _ _ = rz
  obtain ⟨e', rfl, o4, rfl⟩ := forL_enc (fun (ys : List Tr) e => ∃ o4, e = [some (cS ts), some (FS hs), some (.int (lv : Int)), some (.odic (kI (grp (fun t : Tr => partAt hs t.a lv) ys)) (vE lO (grp (fun t : Tr => partAt hs t.a lv) ys))), o4, none]) hF ⟨none, rfl⟩ (by
    rintro ys t zs _ hx ⟨o4, rfl⟩
    have hp := pre_le hx
    have u := f_part_at (W := W) k ok t.a lv h1
    have hb := grp_len (fun t : Tr => partAt hs t.a lv) ys
    have hap := appK_al (g := (enc : Tr -> D)) (k := partAt hs t.a lv) (x := t) (grp_nk (fun t : Tr => partAt hs t.a lv) ys [] .nil) (Nat.lt_of_le_of_lt hb.1 (by omega)) fun q hq => Nat.lt_of_le_of_lt (hb.2 q hq) (by omega)
    rw [grp_snoc]
    have hap : appK (kI (grp (fun t : Tr => partAt hs t.a lv) ys)) (vE lO (grp (fun t : Tr => partAt hs t.a lv) ys)) (.inl (partAt hs t.a lv)) (enc t) = some (.odic (kI (alA (grp (fun t : Tr => partAt hs t.a lv) ys) (partAt hs t.a lv) t)) (vE lO (alA (grp (fun t : Tr => partAt hs t.a lv) ys) (partAt hs t.a lv) t))) := hap
    generalize grp (fun t : Tr => partAt hs t.a lv) ys = m at *
    refine ⟨[some (cS ts), some (FS hs), some (.int (lv : Int)), some (.odic (kI (alA m (partAt hs t.a lv) t)) (vE lO (alA m (partAt hs t.a lv) t))), some (enc t), none], .inl ?_, _, rfl⟩
    generalize partAt hs t.a lv = v at *
    obtain ⟨a, b, c⟩ := t
    unfold l1_split_counts
    walk_at "evs"
    rw [u]
    walk_at "evs"
    rw [hap]
    walk_at "evs")
  have hkd : kDs (kI (grp (fun t : Tr => partAt hs t.a lv) ts)) = some ((keysG (fun t : Tr => partAt hs t.a lv) ts).map (enc : Int -> D)) := by
    unfold keysG
    rw [kDs_al, List.map_map]; rfl
  walk_at "evs"
  rw [hkd]
  walk_at "evs"
  rw [lcL_mapE (enc := (enc : Int -> D)) (enc2 := chD) (fun p : Int => (p, ts.filter fun t => decide (partAt hs t.a lv = p))) (srtI (keysG (fun t : Tr => partAt hs t.a lv) ts)) (fun p hp => by
    have hp2 : p ∈ keysG (fun t : Tr => partAt hs t.a lv) ts := (srtI_perm _).mem_iff.mp hp
    have hdg := dg_al lS p (grp (fun t : Tr => partAt hs t.a lv) ts)
    rw [grp_alG hp2] at hdg
    have hfl : (ts.filter fun t => decide (partAt hs t.a lv = p)).length <= ts.length := List.length_filter_le _ _
    have hi := f_counts_init (W := W) (k + 1) (ts.filter fun t => decide (partAt hs t.a lv = p)) (by omega) ⟨ho.asc.filter _, fun t m => ho.nn t (List.mem_filter.mp m).1⟩
    generalize (ts.filter fun t => decide (partAt hs t.a lv = p)) = us at *
    generalize grp (fun t : Tr => partAt hs t.a lv) ts = m at *
    unfold chD
    walk_at "evs"
    rw [hdg]
    walk_at "evs"
    rw [hi]
    walk_at "evs")]
  have hsl : (srtI (keysG (fun t : Tr => partAt hs t.a lv) ts)).length <= 100 := by
    rw [srtI_len]
    unfold keysG
    rw [List.length_map]
    have := (grp_len (fun t : Tr => partAt hs t.a lv) ts).1
    omega
  walk_at "evs"
theorem sh_chD (p : Int × List Tr) : isSh (chD p) = true := rfl
theorem fz_chD (p : Int × List Tr) : fz (chD p) = chD p := fz_isSh rfl
theorem shl_chD (ps : List (Int × List Tr)) : (ps.map chD).all isSh = true := sh_map sh_chD ps
theorem fzl_chD (ps : List (Int × List Tr)) : fzs (ps.map chD) = ps.map chD := fzs_map sh_chD ps
end
abbrev Pc := List Int × List Tr
def pthD (p : List Int) : D := .tup (p.map enc)
def pcD (x : Pc) : D := .tup [pthD x.1, cS x.2]
theorem sh_pcD (x : Pc) : isSh (pcD x) = true := rfl
theorem fz_pcD (x : Pc) : fz (pcD x) = pcD x := fz_isSh rfl
theorem shl_pcD (xs : List Pc) : (xs.map pcD).all isSh = true := sh_map sh_pcD xs
theorem fzl_pcD (xs : List Pc) : fzs (xs.map pcD) = xs.map pcD := fzs_map sh_pcD xs
def restP (R K : Int) (b : String) (x : Pc) : List Tr := (cpOut R K (x.1.length : Int) (isL b x.2) x.2).2
def yD (R K : Int) (b : String) (x : Pc) : D := .tup [pthD x.1, .str (cpOut R K (x.1.length : Int) (isL b x.2) x.2).1, cS x.2]
def gsC (hs : List HF) (lv : Nat) (ts : List Tr) : List (Int × List Tr) := (srtI (keysG (fun t : Tr => partAt hs t.a lv) ts)).map fun p => (p, ts.filter fun t => decide (partAt hs t.a lv = p))
def kidsP (hs : List HF) (R K : Int) (b : String) (x : Pc) : List Pc := (gsC hs (x.1.length + 1) (restP R K b x)).map fun c => (x.1 ++ [c.1], c.2)
def trav (hs : List HF) (R K : Int) (b : String) : Nat -> Pc -> List Pc
  | 0, _ => []
  | d + 1, x => x :: (kidsP hs R K b x).flatMap (trav hs R K b d)
def EndsP (hs : List HF) (R K : Int) (b : String) : Nat -> Pc -> Prop
  | 0, _ => False
  | d + 1, x => ∀ c ∈ kidsP hs R K b x, EndsP hs R K b d c
theorem rest_ok (R K : Int) (b : String) (x : Pc) (hR : 0 <= R) (h : OkTs x.2) : OkTs (restP R K b x) /\ (restP R K b x).length <= x.2.length := by
  unfold restP
  refine ⟨?_, cp_len x.2⟩
  unfold cpOut
  generalize (if isL b x.2 = true then sumB x.2 else sumC x.2) = t
  split
  · exact ok_nil
  · split
    · exact h
    · exact ok_rest _ _ _ h hR
theorem ok_filter {ts : List Tr} (h : OkTs ts) (p : Tr -> Bool) : OkTs (ts.filter p) := ⟨h.asc.filter _, fun t m => h.nn t (List.mem_filter.mp m).1⟩
theorem kids_ok (hs : List HF) (R K : Int) (b : String) (x : Pc) (hR : 0 <= R) (h : OkTs x.2) : ∀ c ∈ kidsP hs R K b x, OkTs c.2 /\ c.2.length <= x.2.length /\ c.1.length = x.1.length + 1 := fun c m => by
  obtain ⟨r1, r2⟩ := rest_ok R K b x hR h
  unfold kidsP at m
  obtain ⟨g, hg, rfl⟩ := List.mem_map.mp m
  unfold gsC at hg
  obtain ⟨p, _, rfl⟩ := List.mem_map.mp hg
  exact ⟨ok_filter r1 _, Nat.le_trans (List.length_filter_le _ _) r2, by simp⟩
theorem kids_len (hs : List HF) (R K : Int) (b : String) (x : Pc) (hR : 0 <= R) (h : OkTs x.2) : (kidsP hs R K b x).length <= x.2.length := by
  unfold kidsP gsC
  rw [List.length_map, List.length_map, srtI_len]
  have h1 := (grp_len (fun t : Tr => partAt hs t.a (x.1.length + 1)) (restP R K b x)).1
  have h2 := (rest_ok R K b x hR h).2
  unfold keysG
  rw [List.length_map]
  omega
local macro_rules | `(tactic| walk_at "ev") => `(tactic| simp? only [])
local macro_rules | `(tactic| walk_at "evl") => `(tactic| dsimp? only [sh_pcD, fz_pcD, shl_pcD, fzl_pcD, srt_int, sh_chD, fz_chD, shl_chD, fzl_chD, it_cS, fzv_lO, shv_lS, inL_int, e_xmEl, h_elMo, h_elMx, e_xeTup, h_tupZx, h_tupZo, e_xeLst1, h_lst1Zo, h_lst1Zx, e_xeMeth, h_elMe, e_xeLcX, h_lcE, e_xiRDF, e_xiRDP, h_rngD, e_xRvS, h_rvE, e_xsAugI, h_augIE, h_getLi, h_augF, e_xsForG, e_xsNoX, h_noXn, h_noXr, h_noXb, h_noXc, h_noXi, e_xgCall, e_xgCallN, e_xzNil, e_xzSeq, h_thenZ, h_thenZc, h_preN, e_xzPlain, h_toZn, h_toZb, h_toZc, e_xzYield, h_yldZ, e_xzWhile, h_ebCons, h_eCallB, sh_eH, fz_eH, shl_eH, fzl_eH, it_FS, fz_eO, fzl_eO, sh_tS, fz_tS, shl_tS, fzl_tS, fzv_tab, shv_tab, sh_sD, fz_sD, shl_sD, fzl_sD, it_t3, sF_t3, sFI_t3, ty_t3, len_t3, lenI_t3, fl_t3, xg_t3, enumD_enc, fzv_tab, shv_tab, rangeD_length, vE_length, kI_length, it_pair, sF_pair, so_pair, ty_pair, len_pair, lenI_pair, fl_pair, xg_pair, enc_int, enc_bool, isN_opt, sh_enc, fz_enc, shl_enc, fzl_enc, fl_enc, ok_enc, okl_enc, eq_enc, eql_enc, en_enc, ne_enc, nn_enc, decide_true])
section
variable {W : Wd TT}
theorem push_turn (φ : Sem) (x0 x1 x2 x5 x6 x7 x8 o9 o10 : Option D) (S : List Pc) (path : List Int) (c : Int × List Tr) (hS : S.length <= 10000) (hp : path.length <= 1000) :
    forK (xgT 2 (xgsCons (xgN W 9) (xgsCons (xgN W 10) (xgsNil W)))) (l2_counted_passes W φ) [] (chD c) [x0, x1, x2, some (.olst (S.map pcD)), some (pthD path), x5, x6, x7, x8, o9, o10] =
      .nx [x0, x1, x2, some (.olst ((S ++ [(path ++ [c.1], c.2)]).map pcD)), some (pthD path), x5, x6, x7, x8, some (.int c.1), some (cS c.2)] := by
  rw [List.map_append]
  have e : [(path ++ [c.1], c.2)].map pcD = [.tup [.tup (path.map enc ++ [.int c.1]), cS c.2]] := by
    show [D.tup [.tup ((path ++ [c.1]).map enc), cS c.2]] = _
    rw [List.map_append]; rfl
  rw [e]
  unfold l2_counted_passes pthD chD
  walk_at "evl"
  rw [show Nat.ble (path.length + 1) 1000000 = true from by rw [Nat.ble_eq]; omega]
  walk_at "evl"
  try rfl
theorem pass_turn (k : Nat) {hs : List HF} (ok : OkF hs) {R K : Int} {b : String} (hb : b = "left" \/ b = "right" \/ b = "lesser") (hR : 0 <= R) (c0 : D) (x : Pc) (S : List Pc) (o4 o5 o6 o7 o8 o9 o10 : Option D) (ho : OkTs x.2) (hl : x.2.length <= 100) (hp : x.1.length <= 900) (hS : S.length <= 5000) :
    ∃ e4 e5 e6 e7 e8 e9 e10, (l1_counted_passes W (semT (tbl W) (k + 5))).ev [some c0, some (FS hs), some (pS R b K), some (.olst ((S ++ [x]).map pcD)), o4, o5, o6, o7, o8, o9, o10] =
      .nx [yD R K b x] [some c0, some (FS hs), some (pS R b K), some (.olst ((S ++ (kidsP hs R K b x).reverse).map pcD)), e4, e5, e6, e7, e8, e9, e10] := by
  have c1 := f_counted_pass (W := W) (k + 1) (R := R) (K := K) (depth := (x.1.length : Int)) hb hR x.2 (by omega) ho
  obtain ⟨r1, r2⟩ := rest_ok R K b x hR ho
  have c2 := f_split_counts (W := W) k ok (restP R K b x) r1 (by omega) (x.1.length + 1) (by omega)
  have hkl := kids_len hs R K b x hR ho
  have hk : kidsP hs R K b x = (gsC hs (x.1.length + 1) (restP R K b x)).map fun c => (x.1 ++ [c.1], c.2) := rfl
  rw [show (cpOut R K (x.1.length : Int) (isL b x.2) x.2).2 = restP R K b x from rfl] at c1
  have hy : yD R K b x = .tup [pthD x.1, .str (cpOut R K (x.1.length : Int) (isL b x.2) x.2).1, cS x.2] := rfl
  rw [hk] at hkl ⊢
  rw [hy]
  rw [show ((srtI (keysG (fun t : Tr => partAt hs t.a (x.1.length + 1)) (restP R K b x))).map fun p => (p, (restP R K b x).filter fun t => decide (partAt hs t.a (x.1.length + 1) = p))) = gsC hs (x.1.length + 1) (restP R K b x) from rfl] at c2
  generalize gsC hs (x.1.length + 1) (restP R K b x) = gs at *
  generalize restP R K b x = rs at *
  generalize (cpOut R K (x.1.length : Int) (isL b x.2) x.2).1 = how at *
  have el : (((x.1.length + 1 : Nat) : Int)) = (x.1.length : Int) + 1 := by push_cast; rfl
  rw [el] at c2
  obtain ⟨path, ts⟩ := x
  dsimp only at *
  rw [show (S ++ [((path, ts) : Pc)]).map pcD = S.map pcD ++ [.tup [pthD path, cS ts]] by rw [List.map_append]; rfl]
  rw [List.length_map] at hkl
  unfold l1_counted_passes pthD
  walk_at "evl"
  rw [c1]
  walk_at "evl"
  rw [c2]
  walk_at "evl"
  rw [<- List.map_reverse, fzl_chD]
  generalize hF : forL _ _ _ = r
  obtain ⟨e', rfl, p9, p10, rfl⟩ := forL_enc (xs := gs.reverse) (g := chD) (fun ys e => ∃ p9 p10, e = [some c0, some (FS hs), some (pS R b K), some (.olst ((S ++ ys.map fun c => (path ++ [c.1], c.2)).map pcD)), some (pthD path), some (cS ts), some (.str how), some (cS rs), some (.lst (gs.map chD)), p9, p10]) hF ⟨o9, o10, by simp; rfl⟩ (by
    rintro ys c zs _ hy ⟨p9, p10, rfl⟩
    have hlen : ys.length <= 100 := by
      have := congrArg List.length hy
      simp at this
      omega
    refine ⟨_, .inl (push_turn (semT (tbl W) (k + 5)) (some c0) (some (FS hs)) (some (pS R b K)) (some (cS ts)) (some (.str how)) (some (cS rs)) (some (.lst (gs.map chD))) p9 p10 (S ++ ys.map fun c => (path ++ [c.1], c.2)) path c (by rw [List.length_append, List.length_map]; omega) (by omega)), some (.int c.1), some (cS c.2), ?_⟩
    have e9 : S ++ (ys ++ [c]).map (fun c : Int × List Tr => ((path ++ [c.1], c.2) : Pc)) = S ++ ys.map (fun c => (path ++ [c.1], c.2)) ++ [(path ++ [c.1], c.2)] := by rw [List.map_append, List.append_assoc]; rfl
    rw [e9])
  refine ⟨some (pthD path), some (cS ts), some (.str how), some (cS rs), some (.lst (gs.map chD)), p9, p10, ?_⟩
  rw [List.map_reverse]
  show RZ.pre _ (thenZ (RZ.nx [] _) _) = _
  rw [h_thenZ]
  rfl
theorem trav_pos {hs : List HF} {R K : Int} {b : String} : ∀ {d : Nat} {y : Pc}, EndsP hs R K b d y -> 1 <= (trav hs R K b d y).length
  | 0, _, h => h.elim
  | d + 1, y, _ => by
    show 1 <= ((kidsP hs R K b y).flatMap (trav hs R K b d)).length + 1
    omega
theorem stack_le {hs : List HF} {R K : Int} {b : String} : ∀ (L : List (Nat × Pc)), (∀ q ∈ L, EndsP hs R K b q.1 q.2) -> L.length <= (L.flatMap fun q => trav hs R K b q.1 q.2).length
  | [], _ => Nat.le_refl _
  | q :: L, h => by
    have h1 := trav_pos (h q (List.mem_cons_self ..))
    have h2 := stack_le L fun x m => h x (List.mem_cons_of_mem _ m)
    rw [List.flatMap_cons, List.length_append, List.length_cons]
    omega
theorem pass_while (k : Nat) {hs : List HF} (ok : OkF hs) {R K : Int} {b : String} (hb : b = "left" \/ b = "right" \/ b = "lesser") (hR : 0 <= R) (c0 : D) (M : Nat) (hM : M <= 900) :
    ∀ (n x : Nat) (L : List (Nat × Pc)) (o4 o5 o6 o7 o8 o9 o10 : Option D), (L.flatMap fun q => trav hs R K b q.1 q.2).length = n -> n <= 4000 -> (∀ q ∈ L, EndsP hs R K b q.1 q.2 /\ OkTs q.2.2 /\ q.2.2.length <= 40 /\ q.2.1.length + q.1 <= M) ->
      ∃ e', whileZ (xtV (xGt (xLenU (semT (tbl W) (k + 5)) (xaCons (xVar W 3) (xaNil W))) (xInt W 0))).ev (l1_counted_passes W (semT (tbl W) (k + 5))).ev (n + 1 + x) [some c0, some (FS hs), some (pS R b K), some (.olst ((L.reverse.map (·.2)).map pcD)), o4, o5, o6, o7, o8, o9, o10] =
        .nx ((L.flatMap fun q => trav hs R K b q.1 q.2).map (yD R K b)) e' := by
  intro n
  induction n with
  | zero =>
    intro x L o4 o5 o6 o7 o8 o9 o10 hn hz hL
    have hL0 : L = [] := by
      cases L with
      | nil => rfl
      | cons q L =>
        obtain ⟨h1, _⟩ := hL q (List.mem_cons_self ..)
        rw [List.flatMap_cons, List.length_append] at hn
        obtain ⟨d, y⟩ := q
        cases d with
        | zero => exact h1.elim
        | succ d =>
          have : (trav hs R K b (d + 1) y).length = ((kidsP hs R K b y).flatMap (trav hs R K b d)).length + 1 := rfl
          dsimp only at hn
          omega
    subst hL0
    rw [show 0 + 1 + x = x + 1 by omega, whileZ_stop]
    · exact ⟨_, rfl⟩
    · walk_at "evl"
      try rfl
  | succ n ih =>
    intro x L o4 o5 o6 o7 o8 o9 o10 hn hz hL
    cases L with
    | nil => cases hn
    | cons q L =>
      obtain ⟨d, y⟩ := q
      obtain ⟨h1, h2, h3, h4⟩ := hL (d, y) (List.mem_cons_self ..)
      dsimp only at h1 h2 h3 h4
      cases d with
      | zero => exact h1.elim
      | succ d =>
        have ko := kids_ok hs R K b y hR h2
        have kl := kids_len hs R K b y hR h2
        have e1 : (((d + 1, y) :: L).reverse.map (·.2)) = L.reverse.map (·.2) ++ [y] := by rw [List.reverse_cons, List.map_append]; rfl
        have hsl := stack_le ((d + 1, y) :: L) fun q m => (hL q m).1
        have hll : (L.reverse.map (·.2)).length <= 5000 := by rw [List.length_map, List.length_reverse]; rw [List.length_cons] at hsl; omega
        obtain ⟨e4, e5, e6, e7, e8, e9, e10, ht⟩ := pass_turn (W := W) k ok (R := R) (K := K) hb hR c0 y (L.reverse.map (·.2)) o4 o5 o6 o7 o8 o9 o10 h2 (by omega) (by omega) hll
        have e2 : L.reverse.map (·.2) ++ (kidsP hs R K b y).reverse = (((kidsP hs R K b y).map fun c => (d, c)) ++ L).reverse.map (·.2) := by
          rw [List.reverse_append, List.map_append, <- List.map_reverse, List.map_map]
          congr 1
          exact (List.map_id _).symm
        rw [e2] at ht
        have tv : (((kidsP hs R K b y).map fun c => (d, c)) ++ L).flatMap (fun q : Nat × Pc => trav hs R K b q.1 q.2) = (kidsP hs R K b y).flatMap (trav hs R K b d) ++ L.flatMap fun q => trav hs R K b q.1 q.2 := by
          rw [List.flatMap_append, List.flatMap_map]
        have tv0 : ((d + 1, y) :: L).flatMap (fun q : Nat × Pc => trav hs R K b q.1 q.2) = y :: ((kidsP hs R K b y).flatMap (trav hs R K b d) ++ L.flatMap fun q => trav hs R K b q.1 q.2) := rfl
        rw [tv0] at hn ⊢
        have hn2 : ((((kidsP hs R K b y).map fun c => (d, c)) ++ L).flatMap fun q : Nat × Pc => trav hs R K b q.1 q.2).length = n := by rw [tv]; simpa using hn
        have tr : (xtV (xGt (xLenU (semT (tbl W) (k + 5)) (xaCons (xVar W 3) (xaNil W))) (xInt W 0))).ev [some c0, some (FS hs), some (pS R b K), some (.olst ((L.reverse.map (·.2) ++ [y]).map pcD)), o4, o5, o6, o7, o8, o9, o10] = some true := by
          generalize L.reverse.map (·.2) = S at *
          walk_at "evl"
          rw [decide_eq_true (by omega)]
        obtain ⟨e', q⟩ := ih x (((kidsP hs R K b y).map fun c => (d, c)) ++ L) e4 e5 e6 e7 e8 e9 e10 hn2 (by omega) (fun q m => by
          rcases List.mem_append.mp m with m | m
          · obtain ⟨c, hc, rfl⟩ := List.mem_map.mp m
            obtain ⟨k1, k2, k3⟩ := ko c hc
            exact ⟨h1 c hc, k1, by dsimp only; omega, by dsimp only; omega⟩
          · exact hL q (List.mem_cons_of_mem _ m))
        rw [tv] at q
        rw [e1, show n + 1 + 1 + x = (n + 1 + x) + 1 by omega, whileZ_turn tr ht, q]
        exact ⟨e', rfl⟩
theorem f_counted_passes (k : Nat) {hs : List HF} (ok : OkF hs) {R K : Int} {b : String} (hb : b = "left" \/ b = "right" \/ b = "lesser") (hR : 0 <= R) (ts : List Tr) (ho : OkTs ts) (hl : ts.length <= 40) (d : Nat) (hd : d <= 900) (he : EndsP hs R K b d ([], ts)) (hn : (trav hs R K b d ([], ts)).length <= 4000) :
    semT (tbl W) (k + 6) "counted_passes" [cS ts, FS hs, pS R b K] none = .ok (.tup ((trav hs R K b d ([], ts)).map (yD R K b))) none := by
  obtain ⟨e', hw⟩ := pass_while (W := W) k ok (R := R) (K := K) hb hR (cS ts) 900 (Nat.le_refl _) (trav hs R K b d ([], ts)).length (fuel - (trav hs R K b d ([], ts)).length - 1) [(d, ([], ts))] none none none none none none none (by simp) hn (fun q m => by
    rw [List.mem_singleton.mp m]
    exact ⟨he, ho, hl, by simpa using hd⟩)
  have hf : (trav hs R K b d ([], ts)).length + 1 + (fuel - (trav hs R K b d ([], ts)).length - 1) = fuel := by unfold fuel; omega
  rw [hf] at hw
  have e1 : ([(d, (([], ts) : Pc))].flatMap fun q : Nat × Pc => trav hs R K b q.1 q.2) = trav hs R K b d ([], ts) := by simp
  rw [e1] at hw
  generalize trav hs R K b d ([], ts) = Z at *
  rw [sem_counted_passes]
  refine runZR_of (e := e') ?_
  show (b_counted_passes W (semT (tbl W) (k + 5))).ev [some (cS ts), some (FS hs), some (pS R b K), none, none, none, none, none, none, none, none] = _
  unfold b_counted_passes
  walk_at "evl"
  have hw2 : whileZ (xtV (xGt (xLenU (semT (tbl W) (k + 5)) (xaCons (xVar W 3) (xaNil W))) (xInt W 0))).ev (l1_counted_passes W (semT (tbl W) (k + 5))).ev fuel [some (cS ts), some (FS hs), some (pS R b K), some (D.olst [D.tup [D.tup [], cS ts]]), none, none, none, none, none, none, none] = RZ.nx (Z.map (yD R K b)) e' := hw
  rw [hw2]
  show RZ.nx (_ ++ []) e' = _
  rw [List.append_nil]
def rowsT (ts : List Tr) : Int := sumB ts + sumC ts
def rowsZ (Z : List Pc) : Int := (Z.map fun x => rowsT x.2).sum
theorem trav_mem {hs : List HF} {R K : Int} {b : String} (hR : 0 <= R) (M : Nat) : ∀ (d : Nat) (y : Pc), OkTs y.2 -> y.2.length <= M -> ∀ x ∈ trav hs R K b d y, x.2.length <= M
  | 0, _, _, _, x, m => nomatch m
  | d + 1, y, ho, hl, x, m => by
    rcases List.mem_cons.mp (show x ∈ y :: (kidsP hs R K b y).flatMap (trav hs R K b d) from m) with rfl | m
    · exact hl
    · obtain ⟨c, hc, hx⟩ := List.mem_flatMap.mp m
      obtain ⟨k1, k2, _⟩ := kids_ok hs R K b y hR ho c hc
      exact trav_mem hR M d c k1 (by omega) x hx
theorem f_writes_by_counts (k : Nat) {hs : List HF} (ok : OkF hs) {R K : Int} {b : String} (hb : b = "left" \/ b = "right" \/ b = "lesser") (hR : 0 <= R) (ts : List Tr) (ho : OkTs ts) (hl : ts.length <= 40) (d : Nat) (hd : d <= 900) (he : EndsP hs R K b d ([], ts)) (hn : (trav hs R K b d ([], ts)).length <= 4000) :
    semT (tbl W) (k + 7) "writes_by_counts" [cS ts, FS hs, pS R b K] none = .ok (.int (rowsZ (trav hs R K b d ([], ts)) - rowsT ts)) none := by
  have c1 := f_counted_passes (W := W) k ok (R := R) (K := K) hb hR ts ho hl d hd he hn
  have hm := trav_mem (hs := hs) (R := R) (K := K) (b := b) hR 40 d ([], ts) ho hl
  have c2 := f_rows_in (W := W) (k + 4) ts (by omega)
  generalize trav hs R K b d ([], ts) = Z at *
  have ge : gcN (gZ (semT (tbl W) (k + 6) "counted_passes")) 2 1 (some [cS ts, FS hs]) (some [pS R b K]) = some (Z.map (yD R K b)) := gcN_of rfl rfl c1
  rw [show sumB ts + sumC ts = rowsT ts from rfl] at c2
  rw [sem_writes_by_counts]
  unfold b_writes_by_counts
  walk_at "evl"
  rw [ge]
  walk_at "evl"
  generalize hF : forL _ _ _ = r
  obtain ⟨e', rfl, o4, o5, rfl⟩ := forL_enc (xs := Z) (g := yD R K b) (fun ys e => ∃ o4 o5, e = [some (cS ts), some (FS hs), some (pS R b K), some (.int (rowsZ ys)), o4, o5]) hF ⟨none, none, by rfl⟩ (by
    rintro ys x zs _ hy ⟨o4, o5, rfl⟩
    have hx : x.2.length <= 40 := hm x (by rw [hy]; simp)
    have c3 := f_rows_in (W := W) (k + 4) x.2 (by omega)
    have e : rowsZ (ys ++ [x]) = rowsZ ys + rowsT x.2 := by unfold rowsZ; rw [List.map_append, List.sum_append]; simp
    rw [show sumB x.2 + sumC x.2 = rowsT x.2 from rfl] at c3
    refine ⟨[some (cS ts), some (FS hs), some (pS R b K), some (.int (rowsZ (ys ++ [x]))), some (.str (cpOut R K (x.1.length : Int) (isL b x.2) x.2).1), some (cS x.2)], .inl ?_, _, _, rfl⟩
    rw [e]
    unfold yD
    generalize (cpOut R K (x.1.length : Int) (isL b x.2) x.2).1 = how at *
    generalize rowsZ ys = s at *
    generalize rowsT x.2 = s2 at *
    generalize x.2 = us at *
    generalize pthD x.1 = pd at *
    unfold l1_writes_by_counts
    walk_at "evl"
    try rw [c3]
    walk_at "evl"
    try rfl)
  generalize rowsZ Z = s at *
  generalize rowsT ts = s2 at *
  walk_at "evl"
  rw [c2]
  walk_at "evl"
end
def r5 (l : Bool) (a : Nat) : Tr := mkT l 5 (a : Int) 0
def r9 (l : Bool) (p : Nat) : Tr := mkT l 9 0 (p : Int)
def bsN (R : Nat) : Nat -> Nat
  | 0 => 0
  | n + 1 => bsN R n + n / R
theorem bsN_low {R : Nat} (hR : 0 < R) : ∀ n, n <= R -> bsN R n = 0
  | 0, _ => rfl
  | n + 1, h => by
    show bsN R n + n / R = 0
    rw [bsN_low hR n (by omega), Nat.div_eq_of_lt (by omega)]
theorem bsN_add {R : Nat} (hR : 0 < R) : ∀ n, bsN R (R + n) = bsN R n + n
  | 0 => by show bsN R R = 0; exact bsN_low hR R (Nat.le_refl _)
  | n + 1 => by
    show bsN R (R + n) + (R + n) / R = bsN R n + n / R + (n + 1)
    rw [bsN_add hR n, Nat.add_div_left n hR]
    omega
def hgtN (R K dp a : Nat) : Nat := if a <= R then 0 else (K - dp) + (a - 1) / R
def nxA (R K dp a : Nat) : Nat := if dp < K then a else a - R
def readA (R K dp a : Nat) : Nat := if a <= R then a else a * (K - dp) + a + bsN R a
theorem hgt_step {R K dp a : Nat} (hR : 0 < R) (h : R < a) : hgtN R K dp a = hgtN R K (dp + 1) (nxA R K dp a) + 1 := by
  unfold hgtN nxA
  rw [if_neg (by omega)]
  by_cases c : dp < K
  · rw [if_pos c, if_neg (by omega)]
    omega
  · rw [if_neg c]
    have e : (a - 1) / R = (a - R - 1) / R + 1 := by
      rw [show a - 1 = (a - R - 1) + R by omega, Nat.add_div_right _ hR]
    by_cases z : a - R <= R
    · rw [if_pos z, e, Nat.div_eq_of_lt (by omega)]
      omega
    · rw [if_neg z, e]
      omega
theorem read_step {R K dp a : Nat} (hR : 0 < R) (h : R < a) : readA R K dp a = a + readA R K (dp + 1) (nxA R K dp a) := by
  unfold readA nxA
  rw [if_neg (by omega)]
  by_cases c : dp < K
  · rw [if_pos c, if_neg (by omega)]
    have e : a * (K - dp) = a * (K - (dp + 1)) + a := by rw [show K - dp = (K - (dp + 1)) + 1 by omega, Nat.mul_add, Nat.mul_one]
    omega
  · rw [if_neg c]
    have e := bsN_add hR (a - R)
    rw [show R + (a - R) = a by omega] at e
    rw [show K - dp = 0 by omega, Nat.mul_zero, e]
    by_cases z : a - R <= R
    · rw [if_pos z, bsN_low hR _ z]
      omega
    · rw [if_neg z, show K - (dp + 1) = 0 by omega, Nat.mul_zero]
      omega
theorem nx_pos {R K dp a : Nat} (h : R < a) : 1 <= nxA R K dp a := by unfold nxA; split <;> omega
theorem srt_one (u : Int) : srtI [u] = [u] := List.perm_singleton.mp (srtI_perm [u])
theorem gs_nil (hs : List HF) (lv : Nat) : gsC hs lv [] = [] := by
  unfold gsC
  have : keysG (fun t : Tr => partAt hs t.a lv) [] = [] := rfl
  rw [this]
  have : srtI [] = [] := List.perm_nil.mp (srtI_perm [])
  rw [this]; rfl
theorem keys_one (f : Tr -> Int) (x : Tr) : keysG f [x] = [f x] := by
  have := keysG_snoc f [] x
  rw [List.nil_append] at this
  rw [this, show keysG f [] = [] from rfl]
  simp
theorem gs_one (hs : List HF) (lv : Nat) (x : Tr) : gsC hs lv [x] = [(partAt hs x.a lv, [x])] := by
  unfold gsC
  rw [keys_one, srt_one]
  simp
theorem gs_same (hs : List HF) (lv : Nat) (x y : Tr) (h : partAt hs x.a lv = partAt hs y.a lv) : gsC hs lv [x, y] = [(partAt hs x.a lv, [x, y])] := by
  unfold gsC
  have := keysG_snoc (fun t : Tr => partAt hs t.a lv) [x] y
  rw [show [x] ++ [y] = [x, y] from rfl, keys_one] at this
  rw [this, if_pos (by simp [h]), srt_one]
  simp [h]
theorem gs_apart (hs : List HF) (lv : Nat) (x y : Tr) (h1 : partAt hs x.a lv = 1) (h0 : partAt hs y.a lv = 0) : gsC hs lv [x, y] = [(0, [y]), (1, [x])] := by
  unfold gsC
  have := keysG_snoc (fun t : Tr => partAt hs t.a lv) [x] y
  rw [show [x] ++ [y] = [x, y] from rfl, keys_one] at this
  rw [this, if_neg (by simp [h1, h0])]
  rw [h1, h0]
  have hs2 : srtI ([1] ++ [0]) = [0, 1] := ascI_unique (srtI_asc _) (by unfold AscI; simp) ((srtI_perm _).trans (List.Perm.swap 0 1 []))
  rw [hs2]
  simp [h1, h0]
section
variable {hs : List HF} {R K : Nat} {b : String} {l : Bool}
theorem rest_A (hb : ∀ ts, isL b ts = l) (path : List Int) (a : Nat) : restP (R : Int) (K : Int) b (path, [r5 l a]) = if a <= R then [] else [r5 l (nxA R K path.length a)] := by
  unfold restP cpOut
  rw [hb]
  have e : (if l = true then sumB [r5 l a] else sumC [r5 l a]) = (a : Int) := by cases l <;> simp [sumB, sumC, r5, mkT]
  dsimp only
  rw [e]
  by_cases c : a <= R
  · rw [if_pos (by omega), if_pos c]
  · rw [if_neg (by omega), if_neg c]
    unfold nxA
    by_cases d : path.length < K
    · rw [if_pos (by omega), if_pos d]
    · rw [if_neg (by omega), if_neg d]
      have hr : rwN l (r5 l a) = (a : Int) := by cases l <;> rfl
      show (if rwN l (r5 l a) <= (R : Int) then restR l [] ((R : Int) - rwN l (r5 l a)) else subF l (r5 l a) (R : Int) :: []) = _
      rw [hr, if_neg (by omega)]
      have : subF l (r5 l a) (R : Int) = r5 l (a - R) := by
        unfold subF r5
        rw [show ((a - R : Nat) : Int) = (a : Int) - (R : Int) by omega]
        cases l <;> rfl
      rw [this]
theorem rest_AB (hb : ∀ ts, isL b ts = l) (path : List Int) (a p : Nat) : restP (R : Int) (K : Int) b (path, [r5 l a, r9 l p]) = if a <= R then [] else [r5 l (nxA R K path.length a), r9 l p] := by
  unfold restP cpOut
  rw [hb]
  have e : (if l = true then sumB [r5 l a, r9 l p] else sumC [r5 l a, r9 l p]) = (a : Int) := by cases l <;> simp [sumB, sumC, r5, r9, mkT]
  dsimp only
  rw [e]
  by_cases c : a <= R
  · rw [if_pos (by omega), if_pos c]
  · rw [if_neg (by omega), if_neg c]
    unfold nxA
    by_cases d : path.length < K
    · rw [if_pos (by omega), if_pos d]
    · rw [if_neg (by omega), if_neg d]
      have hr : rwN l (r5 l a) = (a : Int) := by cases l <;> rfl
      show (if rwN l (r5 l a) <= (R : Int) then restR l [r9 l p] ((R : Int) - rwN l (r5 l a)) else subF l (r5 l a) (R : Int) :: [r9 l p]) = _
      rw [hr, if_neg (by omega)]
      have : subF l (r5 l a) (R : Int) = r5 l (a - R) := by
        unfold subF r5
        rw [show ((a - R : Nat) : Int) = (a : Int) - (R : Int) by omega]
        cases l <;> rfl
      rw [this]
theorem rest_B (hb : ∀ ts, isL b ts = l) (path : List Int) (p : Nat) : restP (R : Int) (K : Int) b (path, [r9 l p]) = [] := by
  unfold restP cpOut
  rw [hb]
  have e : (if l = true then sumB [r9 l p] else sumC [r9 l p]) = 0 := by cases l <;> simp [sumB, sumC, r9, mkT]
  dsimp only
  rw [e, if_pos (by omega)]
theorem rows_A (a : Nat) : rowsT [r5 l a] = (a : Int) := by cases l <;> simp [rowsT, sumB, sumC, r5, mkT]
theorem rows_B (p : Nat) : rowsT [r9 l p] = (p : Int) := by cases l <;> simp [rowsT, sumB, sumC, r9, mkT]
theorem rows_AB (a p : Nat) : rowsT [r5 l a, r9 l p] = (a : Int) + (p : Int) := by cases l <;> simp [rowsT, sumB, sumC, r5, r9, mkT] <;> omega
theorem rowsZ_cons (x : Pc) (Z : List Pc) : rowsZ (x :: Z) = rowsT x.2 + rowsZ Z := by unfold rowsZ; simp
theorem kids_of {x : Pc} {gs : List (Int × List Tr)} (h : gsC hs (x.1.length + 1) (restP (R : Int) (K : Int) b x) = gs) : kidsP hs R K b x = gs.map fun c => (x.1 ++ [c.1], c.2) := by
  unfold kidsP; rw [h]
theorem trav_B (hb : ∀ ts, isL b ts = l) (path : List Int) (p d : Nat) : EndsP hs R K b (d + 1) (path, [r9 l p]) /\ trav hs R K b (d + 1) (path, [r9 l p]) = [(path, [r9 l p])] := by
  have hk : kidsP hs R K b (path, [r9 l p]) = [] := kids_of (gs := []) (by rw [rest_B hb, gs_nil])
  refine ⟨fun c m => ?_, ?_⟩
  · rw [hk] at m; cases m
  · show _ :: _ = _
    rw [hk]; rfl
theorem trav_A (hR : 0 < R) (hb : ∀ ts, isL b ts = l) : ∀ (d : Nat) (path : List Int) (a : Nat), 1 <= a -> hgtN R K path.length a < d ->
    EndsP hs R K b d (path, [r5 l a]) /\ rowsZ (trav hs R K b d (path, [r5 l a])) = (readA R K path.length a : Int) /\ (trav hs R K b d (path, [r5 l a])).length = hgtN R K path.length a + 1
  | 0, path, a, _, h => absurd h (Nat.not_lt_zero _)
  | d + 1, path, a, ha, h => by
    by_cases c : a <= R
    · have hk : kidsP hs R K b (path, [r5 l a]) = [] := kids_of (gs := []) (by rw [rest_A hb, if_pos c, gs_nil])
      have ht : trav hs R K b (d + 1) (path, [r5 l a]) = [(path, [r5 l a])] := by show _ :: _ = _; rw [hk]; rfl
      refine ⟨fun q m => (by rw [hk] at m; cases m), ?_, ?_⟩
      · rw [ht, rowsZ_cons, rows_A, show rowsZ [] = 0 from rfl]
        unfold readA
        rw [if_pos c]; omega
      · rw [ht]
        unfold hgtN
        rw [if_pos c]; rfl
    · have hk : kidsP hs R K b (path, [r5 l a]) = [(path ++ [partAt hs (r5 l (nxA R K path.length a)).a (path.length + 1)], [r5 l (nxA R K path.length a)])] := kids_of (gs := [(partAt hs (r5 l (nxA R K path.length a)).a (path.length + 1), [r5 l (nxA R K path.length a)])]) (by rw [rest_A hb, if_neg c, gs_one])
      have hst := hgt_step (K := K) (dp := path.length) hR (show R < a by omega)
      have ih := trav_A hR hb d (path ++ [partAt hs (r5 l (nxA R K path.length a)).a (path.length + 1)]) (nxA R K path.length a) (nx_pos (by omega)) (by rw [List.length_append, List.length_singleton]; omega)
      rw [List.length_append, List.length_singleton] at ih
      have ht : trav hs R K b (d + 1) (path, [r5 l a]) = (path, [r5 l a]) :: trav hs R K b d (path ++ [partAt hs (r5 l (nxA R K path.length a)).a (path.length + 1)], [r5 l (nxA R K path.length a)]) := by
        show _ :: _ = _
        rw [hk, List.flatMap_cons, List.flatMap_nil, List.append_nil]
      refine ⟨fun q m => ?_, ?_, ?_⟩
      · rw [hk] at m
        rw [List.mem_singleton.mp m]
        exact ih.1
      · have hrd := read_step (K := K) (dp := path.length) hR (show R < a by omega)
        rw [ht, rowsZ_cons, rows_A, ih.2.1, hrd]
        push_cast; rfl
      · rw [ht, List.length_cons, ih.2.2, hst]
def reachN (A Lv R K dp a : Nat) : Nat := if dp < A /\ A <= Lv /\ A - dp <= hgtN R K dp a then A - dp else hgtN R K dp a
theorem trav_AB {A Lv : Nat} (hR : 0 < R) (hb : ∀ ts, isL b ts = l) (h5 : ∀ lv, 1 <= lv -> partAt hs 5 lv = if lv = A /\ A <= Lv then 1 else 0) (h9 : ∀ lv, 1 <= lv -> partAt hs 9 lv = 0) (p : Nat) : ∀ (d : Nat) (path : List Int) (a : Nat), 1 <= a -> hgtN R K path.length a < d ->
    EndsP hs R K b d (path, [r5 l a, r9 l p]) /\ rowsZ (trav hs R K b d (path, [r5 l a, r9 l p])) = (readA R K path.length a : Int) + (p : Int) * (1 + (reachN A Lv R K path.length a : Int)) /\ (trav hs R K b d (path, [r5 l a, r9 l p])).length <= hgtN R K path.length a + 2
  | 0, path, a, _, h => absurd h (Nat.not_lt_zero _)
  | d + 1, path, a, ha, h => by
    by_cases c : a <= R
    · have hk : kidsP hs R K b (path, [r5 l a, r9 l p]) = [] := kids_of (gs := []) (by rw [rest_AB hb, if_pos c, gs_nil])
      have ht : trav hs R K b (d + 1) (path, [r5 l a, r9 l p]) = [(path, [r5 l a, r9 l p])] := by show _ :: _ = _; rw [hk]; rfl
      have hh : hgtN R K path.length a = 0 := by unfold hgtN; rw [if_pos c]
      refine ⟨fun q m => (by rw [hk] at m; cases m), ?_, ?_⟩
      · rw [ht, rowsZ_cons, rows_AB, show rowsZ [] = 0 from rfl]
        unfold readA reachN
        rw [if_pos c, hh, if_neg (by omega)]
        simp
      · rw [ht, hh]; simp
    · have hst := hgt_step (K := K) (dp := path.length) hR (show R < a by omega)
      have hrd := read_step (K := K) (dp := path.length) hR (show R < a by omega)
      have hnp : 1 <= nxA R K path.length a := nx_pos (show R < a by omega)
      have hrest : restP (R : Int) (K : Int) b (path, [r5 l a, r9 l p]) = [r5 l (nxA R K path.length a), r9 l p] := by rw [rest_AB hb, if_neg c]
      generalize nxA R K path.length a = a2 at *
      have k5 : (r5 l a2).a = 5 := by cases l <;> rfl
      have k9 : (r9 l p).a = 9 := by cases l <;> rfl
      by_cases z : path.length + 1 = A /\ A <= Lv
      · have hk : kidsP hs R K b (path, [r5 l a, r9 l p]) = [(path ++ [0], [r9 l p]), (path ++ [1], [r5 l a2])] := kids_of (gs := [(0, [r9 l p]), (1, [r5 l a2])]) (by
          rw [hrest]
          exact gs_apart hs _ _ _ (by rw [k5, h5 _ (by omega), if_pos z]) (by rw [k9, h9 _ (by omega)]))
        obtain ⟨d', rfl⟩ : ∃ d', d = d' + 1 := ⟨d - 1, by omega⟩
        obtain ⟨b1, b2⟩ := trav_B (hs := hs) (R := R) (K := K) hb (path ++ [0]) p d'
        obtain ⟨a1, a3, a4⟩ := trav_A (hs := hs) (K := K) hR hb (d' + 1) (path ++ [1]) a2 hnp (by rw [List.length_append, List.length_singleton]; omega)
        rw [List.length_append, List.length_singleton] at a3 a4
        have ht : trav hs R K b (d' + 1 + 1) (path, [r5 l a, r9 l p]) = (path, [r5 l a, r9 l p]) :: ((path ++ [0], [r9 l p]) :: trav hs R K b (d' + 1) (path ++ [1], [r5 l a2])) := by
          show _ :: _ = _
          rw [hk, List.flatMap_cons, List.flatMap_cons, List.flatMap_nil, List.append_nil, b2]
          rfl
        have hre : reachN A Lv R K path.length a = 1 := by
          unfold reachN
          rw [if_pos ⟨by omega, z.2, by omega⟩]; omega
        refine ⟨fun q m => ?_, ?_, ?_⟩
        · rw [hk] at m
          rcases List.mem_cons.mp m with rfl | m
          · exact b1
          · rw [List.mem_singleton.mp m]
            exact a1
        · rw [ht, rowsZ_cons, rowsZ_cons, rows_AB, rows_B, a3, hrd, hre]
          push_cast
          omega
        · rw [ht, List.length_cons, List.length_cons, a4, hst]
          omega
      · have hk : kidsP hs R K b (path, [r5 l a, r9 l p]) = [(path ++ [partAt hs 5 (path.length + 1)], [r5 l a2, r9 l p])] := kids_of (gs := [(partAt hs 5 (path.length + 1), [r5 l a2, r9 l p])]) (by
          rw [hrest, gs_same hs _ _ _ (by rw [k5, k9, h5 _ (by omega), h9 _ (by omega), if_neg z]), k5])
        have ih := trav_AB hR hb h5 h9 p d (path ++ [partAt hs 5 (path.length + 1)]) a2 hnp (by rw [List.length_append, List.length_singleton]; omega)
        rw [List.length_append, List.length_singleton] at ih
        have ht : trav hs R K b (d + 1) (path, [r5 l a, r9 l p]) = (path, [r5 l a, r9 l p]) :: trav hs R K b d (path ++ [partAt hs 5 (path.length + 1)], [r5 l a2, r9 l p]) := by
          show _ :: _ = _
          rw [hk, List.flatMap_cons, List.flatMap_nil, List.append_nil]
        have hre : reachN A Lv R K path.length a = reachN A Lv R K (path.length + 1) a2 + 1 := by
          unfold reachN
          by_cases y : path.length + 1 < A /\ A <= Lv /\ A - (path.length + 1) <= hgtN R K (path.length + 1) a2
          · rw [if_pos y, if_pos ⟨by omega, y.2.1, by omega⟩]; omega
          · rw [if_neg y, if_neg (by omega)]; omega
        refine ⟨fun q m => ?_, ?_, ?_⟩
        · rw [hk] at m
          rw [List.mem_singleton.mp m]
          exact ih.1
        · rw [ht, rowsZ_cons, rows_AB, ih.2.1, hrd, hre]
          push_cast
          generalize (reachN A Lv R K (path.length + 1) a2 : Int) = t
          rw [Int.mul_add, Int.mul_add, Int.mul_add, Int.mul_one]
          omega
        · rw [ht, List.length_cons, hst]
          have := ih.2.2
          omega
end
local macro_rules | `(tactic| walk_at "ev") => `(tactic| simp? only [])
local macro_rules | `(tactic| walk_at "evl") => `(tactic| dsimp? only [sh_pcD, fz_pcD, shl_pcD, fzl_pcD, srt_int, sh_chD, fz_chD, shl_chD, fzl_chD, it_cS, fzv_lO, shv_lS, inL_int, e_xmEl, h_elMo, h_elMx, e_xeTup, h_tupZx, h_tupZo, e_xeLst1, h_lst1Zo, h_lst1Zx, e_xeMeth, h_elMe, e_xeLcX, h_lcE, e_xiRDF, e_xiRDP, h_rngD, e_xRvS, h_rvE, e_xsAugI, h_augIE, h_getLi, h_augF, e_xsForG, e_xsNoX, h_noXn, h_noXr, h_noXb, h_noXc, h_noXi, e_xgCall, e_xgCallN, e_xzNil, e_xzSeq, h_thenZ, h_thenZc, h_preN, e_xzPlain, h_toZn, h_toZb, h_toZc, e_xzYield, h_yldZ, e_xzWhile, h_ebCons, h_eCallB, sh_eH, fz_eH, shl_eH, fzl_eH, it_FS, fz_eO, fzl_eO, sh_tS, fz_tS, shl_tS, fzl_tS, fzv_tab, shv_tab, sh_sD, fz_sD, shl_sD, fzl_sD, it_t3, sF_t3, sFI_t3, ty_t3, len_t3, lenI_t3, fl_t3, xg_t3, enumD_enc, fzv_tab, shv_tab, rangeD_length, vE_length, kI_length, it_pair, sF_pair, so_pair, ty_pair, len_pair, lenI_pair, fl_pair, xg_pair, enc_int, enc_bool, isN_opt, sh_enc, fz_enc, shl_enc, fzl_enc, fl_enc, ok_enc, okl_enc, eq_enc, eql_enc, en_enc, ne_enc, nn_enc, decide_true])
section
variable {W : Wd TT}
def tab2 (A lv : Nat) : Tab := [(5, if lv = A then 1 else 0), (9, 0)]
def hs2 (A n : Nat) : List HF := (List.range n).map fun i => (3, 2, tab2 A (i + 1))
theorem tab2_nk (A lv : Nat) : Nk (tab2 A lv) := by
  show ((tab2 A lv).map (·.1)).Nodup
  simp [tab2]
theorem hs2_ok (A : Nat) {n : Nat} (hn : n <= 4) : OkF (hs2 A n) where
  len := by unfold hs2; rw [List.length_map, List.length_range]; exact hn
  ok := fun h m => by
    unfold hs2 at m
    obtain ⟨i, _, rfl⟩ := List.mem_map.mp m
    refine ⟨by show (1 : Int) <= 3; decide, by show (3 : Int) <= 64; decide, by show (0 : Int) <= 2; decide, by show (2 : Int) < 3; decide, tab2_nk A _, by simp [tab2], fun q hq => ?_⟩
    have hq : q ∈ [((5 : Int), if i + 1 = A then (1 : Int) else 0), (9, 0)] := hq
    rcases List.mem_cons.mp hq with rfl | hq
    · dsimp only; split <;> omega
    · rw [List.mem_singleton.mp hq]; dsimp only; omega
theorem hs2_get (A n l : Nat) : (hs2 A n)[l]? = if l < n then some (3, 2, tab2 A (l + 1)) else none := by
  unfold hs2
  rw [List.getElem?_map]
  by_cases c : l < n
  · rw [List.getElem?_range c, if_pos c]; rfl
  · rw [List.getElem?_eq_none (by simpa using c), if_neg c]; rfl
theorem hs2_5 (A n lv : Nat) (h : 1 <= lv) : partAt (hs2 A n) 5 lv = if lv = A /\ A <= n then 1 else 0 := by
  unfold partAt
  rw [hs2_get]
  by_cases c : lv - 1 < n
  · rw [if_pos c]
    show part (3, 2, tab2 A (lv - 1 + 1)) 5 = _
    rw [show lv - 1 + 1 = lv by omega]
    have e : part ((3, 2, tab2 A lv) : HF) 5 = if lv = A then 1 else 0 := by
      unfold part alG tab2
      simp
    rw [e]
    by_cases z : lv = A
    · rw [if_pos z, if_pos ⟨z, by omega⟩]
    · rw [if_neg z, if_neg (fun y => z y.1)]
  · rw [if_neg c, if_neg (by omega)]
theorem hs2_9 (A n lv : Nat) (h : 1 <= lv) : partAt (hs2 A n) 9 lv = 0 := by
  unfold partAt
  rw [hs2_get]
  by_cases c : lv - 1 < n
  · rw [if_pos c]
    show part (3, 2, tab2 A (lv - 1 + 1)) 9 = 0
    unfold part alG tab2
    simp
  · rw [if_neg c]
def rowsAB (l : Bool) (M P : Nat) : List Tr := if P = 0 then [r5 l M] else [r5 l M, r9 l P]
def dueN (M P R K A n : Nat) : Nat := if M <= R then 0 else M * K + bsN R M + P * (if 1 <= A /\ A <= n /\ A < K + (M - 1) / R then A else K + (M - 1) / R)
theorem writes_two (k : Nat) {M P R K A n : Nat} {b : String} (l : Bool) (hb : b = if l = true then "left" else "right") (hM : 1 <= M /\ M <= 400) (hR : 1 <= R /\ R <= 100) (hK : K <= 8) (hn : n <= 4) :
    semT (tbl W) (k + 7) "writes_by_counts" [cS (rowsAB l M P), FS (hs2 A n), pS (R : Int) b (K : Int)] none = .ok (.int (dueN M P R K A n : Int)) none := by
  have hb3 : b = "left" \/ b = "right" \/ b = "lesser" := by rw [hb]; cases l <;> simp
  have hl : ∀ ts, isL b ts = l := fun ts => by
    rw [isL_of ts hb3, hb]
    cases l <;> simp
  have hh : hgtN R K 0 M <= 408 := by
    unfold hgtN
    have : (M - 1) / R <= M - 1 := Nat.div_le_self _ _
    split <;> omega
  have hhd : ¬ M <= R -> hgtN R K 0 M = K + (M - 1) / R := fun h => by unfold hgtN; rw [if_neg h, Nat.sub_zero]
  have hrd : readA R K 0 M = if M <= R then M else M * K + M + bsN R M := by unfold readA; rw [Nat.sub_zero]
  unfold rowsAB
  by_cases z : P = 0
  · subst z
    rw [if_pos rfl]
    obtain ⟨t1, t2, t3⟩ := trav_A (hs := hs2 A n) (K := K) (l := l) (b := b) (show 0 < R by omega) hl 500 [] M hM.1 (by show hgtN R K 0 M < 500; omega)
    have e := f_writes_by_counts (W := W) k (hs2_ok A hn) (R := (R : Int)) (K := (K : Int)) hb3 (by omega) [r5 l M] ⟨by simp, fun t m => by rw [List.mem_singleton.mp m]; cases l <;> simp [r5, mkT] <;> omega⟩ (by simp) 500 (by omega) t1 (by rw [t3]; show hgtN R K 0 M + 1 <= 4000; omega)
    rw [t2, rows_A] at e
    rw [e, show readA R K ([] : List Int).length M = readA R K 0 M from rfl, hrd]
    unfold dueN
    congr 2
    split
    · omega
    · rw [Nat.zero_mul]; push_cast; omega
  · rw [if_neg z]
    obtain ⟨t1, t2, t3⟩ := trav_AB (hs := hs2 A n) (K := K) (l := l) (b := b) (A := A) (Lv := n) (show 0 < R by omega) hl (fun lv h => hs2_5 A n lv h) (fun lv h => hs2_9 A n lv h) P 500 [] M hM.1 (by show hgtN R K 0 M < 500; omega)
    have e := f_writes_by_counts (W := W) k (hs2_ok A hn) (R := (R : Int)) (K := (K : Int)) hb3 (by omega) [r5 l M, r9 l P] ⟨by cases l <;> simp [r5, r9, mkT], fun t m => by
      rcases List.mem_cons.mp m with rfl | m
      · cases l <;> simp [r5, mkT] <;> omega
      · rw [List.mem_singleton.mp m]
        cases l <;> simp [r9, mkT] <;> omega⟩ (by simp) 500 (by omega) t1 (Nat.le_trans t3 (by show hgtN R K 0 M + 2 <= 4000; omega))
    rw [t2, rows_AB] at e
    rw [e, show readA R K ([] : List Int).length M = readA R K 0 M from rfl, hrd, show reachN A n R K ([] : List Int).length M = reachN A n R K 0 M from rfl]
    unfold dueN reachN
    congr 2
    by_cases c : M <= R
    · rw [if_pos c, if_pos c]
      have h0 : hgtN R K 0 M = 0 := by unfold hgtN; rw [if_pos c]
      rw [h0, if_neg (by omega)]
      simp
    · rw [if_neg c, if_neg c, hhd c, Nat.sub_zero]
      generalize K + (M - 1) / R = DD
      by_cases y : 1 <= A /\ A <= n /\ A < DD
      · rw [if_pos y, if_pos ⟨by omega, y.2.1, by omega⟩]
        push_cast
        rw [Int.mul_add, Int.mul_one]
        omega
      · rw [if_neg y]
        have : (if 0 < A /\ A <= n /\ A <= DD then A else DD) = DD := by
          by_cases w : 0 < A /\ A <= n /\ A <= DD
          · rw [if_pos w]; omega
          · rw [if_neg w]
        rw [this]
        push_cast
        rw [Int.mul_add, Int.mul_one]
        omega
end
local macro_rules | `(tactic| walk_at "ev") => `(tactic| simp? only [])
local macro_rules | `(tactic| walk_at "evl") => `(tactic| dsimp? only [sh_pcD, fz_pcD, shl_pcD, fzl_pcD, srt_int, sh_chD, fz_chD, shl_chD, fzl_chD, it_cS, fzv_lO, shv_lS, inL_int, e_xmEl, h_elMo, h_elMx, e_xeTup, h_tupZx, h_tupZo, e_xeLst1, h_lst1Zo, h_lst1Zx, e_xeMeth, h_elMe, e_xeLcX, h_lcE, e_xiRDF, e_xiRDP, h_rngD, e_xRvS, h_rvE, e_xsAugI, h_augIE, h_getLi, h_augF, e_xsForG, e_xsNoX, h_noXn, h_noXr, h_noXb, h_noXc, h_noXi, e_xgCall, e_xgCallN, e_xzNil, e_xzSeq, h_thenZ, h_thenZc, h_preN, e_xzPlain, h_toZn, h_toZb, h_toZc, e_xzYield, h_yldZ, e_xzWhile, h_ebCons, h_eCallB, sh_eH, fz_eH, shl_eH, fzl_eH, it_FS, fz_eO, fzl_eO, sh_tS, fz_tS, shl_tS, fzl_tS, fzv_tab, shv_tab, sh_sD, fz_sD, shl_sD, fzl_sD, it_t3, sF_t3, sFI_t3, ty_t3, len_t3, lenI_t3, fl_t3, xg_t3, enumD_enc, fzv_tab, shv_tab, rangeD_length, vE_length, kI_length, it_pair, sF_pair, so_pair, ty_pair, len_pair, lenI_pair, fl_pair, xg_pair, enc_int, enc_bool, isN_opt, sh_enc, fz_enc, shl_enc, fzl_enc, fl_enc, ok_enc, okl_enc, eq_enc, eql_enc, en_enc, ne_enc, nn_enc, decide_true])
section
variable {W : Wd TT}
theorem fn_turn (k : Nat) (x0 x1 x2 x3 x4 x5 x6 o9 o10 o11 o12 o13 o14 o15 o16 o17 : Option D) (hs : List HF) (lv ap : Int) (hl : hs.length <= 10) :
    forK (xgN W 9) (l1_law W (semT (tbl W) (k + 3))) [] (.int lv) [x0, x1, x2, x3, x4, x5, x6, some (.int ap), some (.olst (hs.map eO)), o9, o10, o11, o12, o13, o14, o15, o16, o17] =
      .nx [x0, x1, x2, x3, x4, x5, x6, some (.int ap), some (.olst ((hs ++ [(3, 2, [(5, if lv = ap then 1 else 0), (9, 0)])]).map eO)), some (.int lv), some (tS [(5, if lv = ap then 1 else 0), (9, 0)]), o11, o12, o13, o14, o15, o16, o17] := by
  rw [List.map_append]
  unfold l1_law
  by_cases c : lv = ap
  · have hi : semT (tbl W) (k + 3) "HashFunction.__init__" [.oins "HashFunction" [] [], .int 3, .dic [.inl 5, .inl 9] [.int 1, .int 0], .int 2] (some 0) = .ok .non (some (hD 3 2 [(5, 1), (9, 0)])) := f_hash_init (W := W) (k + 1) 3 2 [(5, 1), (9, 0)] (by decide) (by decide) (by show ([5, 9] : List Int).Nodup; decide) (by simp)
    rw [if_pos c]
    walk_at "evl"
    try rw [decide_eq_true c]
    try walk_at "evl"
    rw [hi]
    walk_at "evl"
    try rfl
  · have hi : semT (tbl W) (k + 3) "HashFunction.__init__" [.oins "HashFunction" [] [], .int 3, .dic [.inl 5, .inl 9] [.int 0, .int 0], .int 2] (some 0) = .ok .non (some (hD 3 2 [(5, 0), (9, 0)])) := f_hash_init (W := W) (k + 1) 3 2 [(5, 0), (9, 0)] (by decide) (by decide) (by show ([5, 9] : List Int).Nodup; decide) (by simp)
    rw [if_neg c]
    walk_at "evl"
    try rw [decide_eq_false c]
    try walk_at "evl"
    rw [hi]
    walk_at "evl"
    try rfl
theorem due_turn (φ : Sem) (x0 x1 x2 x3 x6 x7 x8 x9 x10 x11 x12 x13 x15 o16 o17 : Option D) (R K du j : Int) (hR : 1 <= R /\ R <= 100) :
    forK (xgN W 16) (l2_law W φ) [] (.int j) [x0, x1, x2, x3, some (.int R), some (.int K), x6, x7, x8, x9, x10, x11, x12, x13, some (.int du), x15, o16, o17] =
      .nx [x0, x1, x2, x3, some (.int R), some (.int K), x6, x7, x8, x9, x10, x11, x12, x13, some (.int (du + K + j / R)), x15, some (.int j), o17] := by
  obtain ⟨r1, r2⟩ := hR
  unfold l2_law
  walk_at "evl"
  try rfl
theorem due_loop (φ : Sem) (x0 x1 x2 x3 x6 x7 x8 x9 x10 x11 x12 x13 x15 o17 : Option D) (R K M : Nat) (hR : 1 <= R /\ R <= 100) :
    ∃ o16, forL (forK (xgN W 16) (l2_law W φ) []) (rangeD 0 M) [x0, x1, x2, x3, some (.int (R : Int)), some (.int (K : Int)), x6, x7, x8, x9, x10, x11, x12, x13, some (.int 0), x15, none, o17] =
      .nx [x0, x1, x2, x3, some (.int (R : Int)), some (.int (K : Int)), x6, x7, x8, x9, x10, x11, x12, x13, some (.int ((M * K + bsN R M : Nat) : Int)), x15, o16, o17] := by
  generalize hF : forL _ _ _ = r
  obtain ⟨e', rfl, o16, rfl⟩ := forL_gen (fun j e => ∃ o16, e = [x0, x1, x2, x3, some (.int (R : Int)), some (.int (K : Int)), x6, x7, x8, x9, x10, x11, x12, x13, some (.int ((j * K + bsN R j : Nat) : Int)), x15, o16, o17]) hF ⟨none, by rw [Nat.zero_mul]; rfl⟩ (by
    rintro j d _ hd ⟨o16, rfl⟩
    obtain ⟨hj, rfl⟩ := rangeD_get hd
    refine ⟨_, .inl (due_turn φ x0 x1 x2 x3 x6 x7 x8 x9 x10 x11 x12 x13 x15 o16 o17 (R : Int) (K : Int) _ (0 + (j : Int)) ⟨by omega, by omega⟩), some (.int (0 + (j : Int))), ?_⟩
    have e : ((j * K + bsN R j : Nat) : Int) + (K : Int) + (0 + (j : Int)) / (R : Int) = (((j + 1) * K + bsN R (j + 1) : Nat) : Int) := by
      rw [show bsN R (j + 1) = bsN R j + j / R from rfl, Nat.add_mul, Nat.one_mul, Int.zero_add, show ((j : Int) / (R : Int)) = ((j / R : Nat) : Int) from rfl]
      push_cast
      omega
    rw [e])
  rw [rangeD_length]
  exact ⟨o16, rfl⟩
theorem due_chunk (φ : Sem) (x0 x1 x8 x9 x10 x11 x12 x13 : Option D) (M R K : Nat) (p n a : Int) (hM : 1 <= M /\ M <= 400) (hR : 1 <= R /\ R <= 100) (hK : K <= 8) (hp : 0 <= p /\ p < 100000) :
    ∃ o15 o16, iteF (some (decide ((M : Int) > (R : Int)))) (((xsSeq (xsAsg 15 (xmP (xAdd (xVar W 5) (xDiv (xSub (xVar W 2) (xInt W 1)) (xVar W 4)))))  (xsSeq (xsFor (xiR1 (xaCons (xVar W 2) (xaNil W))) (xgN W 16) (l2_law W φ))  (xsSeq (xsIf (xtAnd (xtV (xLe (xInt W 1) (xVar W 7))) (xtAnd (xtV (xLe (xVar W 7) (xVar W 6))) (xtV (xLt (xVar W 7) (xVar W 15))))) (xsAsg 15 (xmVar W 7)) (xsNext W))  (xsAsg 14 (xmP (xAdd (xVar W 14) (xMul (xVar W 3) (xVar W 15)))))))) : XS W).ev []) ((xsNext W).ev []) [x0, x1, some (.int (M : Int)), some (.int p), some (.int (R : Int)), some (.int (K : Int)), some (.int n), some (.int a), x8, x9, x10, x11, x12, x13, some (.int 0), none, none, none] =
      .nx [x0, x1, some (.int (M : Int)), some (.int p), some (.int (R : Int)), some (.int (K : Int)), some (.int n), some (.int a), x8, x9, x10, x11, x12, x13, some (.int (if M <= R then 0 else ((M * K + bsN R M : Nat) : Int) + p * (if 1 <= a /\ a <= n /\ a < (K : Int) + ((M : Int) - 1) / (R : Int) then a else (K : Int) + ((M : Int) - 1) / (R : Int)))), o15, o16, none] := by
  obtain ⟨p1, p2⟩ := hp
  by_cases c : M <= R
  · rw [if_pos c, decide_eq_false (by omega)]
    refine ⟨none, none, ?_⟩
    walk_at "evl"
    try rfl
  · rw [if_neg c, decide_eq_true (by omega)]
    obtain ⟨o16, hlp⟩ := due_loop (W := W) φ x0 x1 (some (.int (M : Int))) (some (.int p)) (some (.int n)) (some (.int a)) x8 x9 x10 x11 x12 x13 (some (.int ((K : Int) + ((M : Int) - 1) / (R : Int)))) none R K M hR
    walk_at "evl"
    generalize hD : (K : Int) + ((M : Int) - 1) / (R : Int) = D0 at *
    try rw [show ((M : Int)).toNat = M by omega]
    rw [hlp]
    generalize ((M * K + bsN R M : Nat) : Int) = du at *
    walk_at "evl"
    by_cases y1 : 1 <= a
    · try rw [decide_eq_true y1]
      try walk_at "evl"
      by_cases y2 : a <= n
      · try rw [decide_eq_true y2]
        try walk_at "evl"
        by_cases y3 : a < D0
        · rw [if_pos ⟨y1, y2, y3⟩]
          try rw [decide_eq_true y3]
          try walk_at "evl"
          exact ⟨_, _, rfl⟩
        · rw [if_neg (fun z => y3 z.2.2)]
          try rw [decide_eq_false y3]
          try walk_at "evl"
          exact ⟨_, _, rfl⟩
      · rw [if_neg (fun z => y2 z.2.1)]
        try rw [decide_eq_false y2]
        try walk_at "evl"
        exact ⟨_, _, rfl⟩
    · rw [if_neg (fun z => y1 z.1)]
      try rw [decide_eq_false y1]
      try walk_at "evl"
      exact ⟨_, _, rfl⟩
theorem due_eq (M P R K A n : Nat) (hR : 1 <= R) (hM : 1 <= M) : (if M <= R then 0 else ((M * K + bsN R M : Nat) : Int) + (P : Int) * (if 1 <= (A : Int) /\ (A : Int) <= (n : Int) /\ (A : Int) < (K : Int) + ((M : Int) - 1) / (R : Int) then (A : Int) else (K : Int) + ((M : Int) - 1) / (R : Int))) = (dueN M P R K A n : Int) := by
  unfold dueN
  have e : (K : Int) + ((M : Int) - 1) / (R : Int) = ((K + (M - 1) / R : Nat) : Int) := by
    rw [show ((M : Int) - 1) = ((M - 1 : Nat) : Int) by omega, show (((M - 1 : Nat) : Int) / (R : Int)) = (((M - 1) / R : Nat) : Int) from rfl]
    push_cast; rfl
  rw [e]
  generalize K + (M - 1) / R = D0
  by_cases c : M <= R
  · rw [if_pos c, if_pos c]; rfl
  · rw [if_neg c, if_neg c]
    by_cases y : 1 <= A /\ A <= n /\ A < D0
    · rw [if_pos y, if_pos ⟨by omega, by omega, by omega⟩]
      push_cast; rfl
    · rw [if_neg y, if_neg (by omega)]
      push_cast; rfl
theorem hs2_succ (A j : Nat) : hs2 A (j + 1) = hs2 A j ++ [(3, 2, [(5, if 1 + (j : Int) = (A : Int) then 1 else 0), (9, 0)])] := by
  unfold hs2
  rw [List.range_succ, List.map_append]
  congr 1
  show [((3, 2, tab2 A (j + 1)) : HF)] = _
  unfold tab2
  by_cases c : j + 1 = A
  · rw [if_pos c, if_pos (by omega)]
  · rw [if_neg c, if_neg (by omega)]
theorem law_true (W : Wd TT) (ns : List Int) (hns : ns.length <= 63) : runFn 18 (b_law W (semT (tbl W) 9)) [.scr ns] none = .ok (.bl true) none := by
  unfold b_law
  walk_at "evl"
  rw [f_law_draws 8 (by decide) (by decide) (by decide)]
  have hl := draws_length ns 0 8
  have ho := draws_ok ns 0 8
  match hd : draws ns 0 8, hl with
  | [a0, a1, a2, a3, a4, a5, a6, a7], _ =>
  rw [hd] at ho
  have h0 := ho a0 (by simp)
  have h1 := ho a1 (by simp)
  have h2 := ho a2 (by simp)
  have h3 := ho a3 (by simp)
  have h4 := ho a4 (by simp)
  have h5 := ho a5 (by simp)
  have h6 := ho a6 (by simp)
  have h7 := ho a7 (by simp)
  clear ho hd
  walk_at "evl"
  obtain ⟨M, hM⟩ : ∃ M : Nat, 1 + a0 % 400 = (M : Int) := ⟨(1 + a0 % 400).toNat, by omega⟩
  obtain ⟨P, hP⟩ : ∃ P : Nat, (a1 * 100 + a2) % 100000 = (P : Int) := ⟨((a1 * 100 + a2) % 100000).toNat, by omega⟩
  obtain ⟨R, hR⟩ : ∃ R : Nat, 1 + a3 % 100 = (R : Int) := ⟨(1 + a3 % 100).toNat, by omega⟩
  obtain ⟨K, hK⟩ : ∃ K : Nat, a4 % 9 = (K : Int) := ⟨(a4 % 9).toNat, by omega⟩
  obtain ⟨n, hn⟩ : ∃ n : Nat, a5 % 5 = (n : Int) := ⟨(a5 % 5).toNat, by omega⟩
  obtain ⟨A, hA⟩ : ∃ A : Nat, a6 % 6 = (A : Int) := ⟨(a6 % 6).toNat, by omega⟩
  have M1 : 1 <= M /\ M <= 400 := by omega
  have P1 : P < 100000 := by omega
  have R1 : 1 <= R /\ R <= 100 := by omega
  have K1 : K <= 8 := by omega
  have n1 : n <= 4 := by omega
  rw [hM, hP, hR, hK, hn, hA]
  walk_at "evl"
  try rw [show ((n : Int) + 1 - 1).toNat = n by omega]
  generalize hF : forL _ _ _ = r
  obtain ⟨e', rfl, o9, o10, rfl⟩ := forL_gen (fun j e => ∃ o9 o10, e = [some (.scr ns), some (.olst [.int a0, .int a1, .int a2, .int a3, .int a4, .int a5, .int a6, .int a7]), some (.int (M : Int)), some (.int (P : Int)), some (.int (R : Int)), some (.int (K : Int)), some (.int (n : Int)), some (.int (A : Int)), some (.olst ((hs2 A j).map eO)), o9, o10, none, none, none, none, none, none, none]) hF ⟨none, none, rfl⟩ (by
    rintro j d _ hd ⟨o9, o10, rfl⟩
    obtain ⟨hj, rfl⟩ := rangeD_get hd
    refine ⟨_, .inl (fn_turn 6 _ _ _ _ _ _ _ o9 o10 _ _ _ _ _ _ _ (hs2 A j) (1 + (j : Int)) (A : Int) (by unfold hs2; rw [List.length_map, List.length_range]; omega)), some (.int (1 + (j : Int))), some (tS [(5, if 1 + (j : Int) = (A : Int) then 1 else 0), (9, 0)]), ?_⟩
    rw [<- hs2_succ])
  rw [rangeD_length]
  have hsl : (hs2 A n).length <= 4 := by unfold hs2; rw [List.length_map, List.length_range]; exact n1
  have hfi := f_family_init (W := W) 8 (hs2 A n) hsl
  have cw := fun (b : String) (l : Bool) (hb : b = if l = true then "left" else "right") => writes_two (W := W) 2 (M := M) (P := P) (R := R) (K := K) (A := A) (n := n) l hb M1 R1 K1 n1
  have hpi := fun (b : String) (hb : b = "left" \/ b = "right" \/ b = "lesser") => f_plan_init (W := W) 7 (room := (R : Int)) (keep := (K : Int)) (build := b) (by omega) (by omega) (by omega) (by omega) hb
  generalize hs2 A n = HS at *
  walk_at "evl"
  have hside : a7 % 2 = 0 \/ a7 % 2 = 1 := by omega
  rcases hside with hside | hside
  · have cw := cw "right" false rfl
    have hpi := hpi "right" (by simp)
    rw [hside]
    walk_at "evl"
    by_cases z : P = 0
    · have hrw : rowsAB false M P = [r5 false M] := by unfold rowsAB; rw [if_pos z]
      have ci : semT (tbl W) 9 "Counts.__init__" [.oins "Counts" [] [], .lst [.tup [.int 5, .int 0, .int (M : Int)]]] (some 0) = .ok .non (some (.oins "Counts" ["_rows"] [.lst [.tup [.int 5, .int 0, .int (M : Int)]]])) := f_counts_init (W := W) 6 [r5 false M] (by simp) ⟨by simp, fun t m => by rw [List.mem_singleton.mp m]; simp [r5, mkT]; omega⟩
      rw [hrw] at cw
      have cw : semT (tbl W) 9 "writes_by_counts" [.ins "Counts" ["_rows"] [.lst [.tup [.int 5, .int 0, .int (M : Int)]]], .ins "Family" ["_functions"] [.lst (HS.map eH)], .ins "Plan" ["room", "build", "keep_from"] [.int (R : Int), .str "right", .int (K : Int)]] none = .ok (.int (dueN M P R K A n : Int)) none := cw
      rw [decide_eq_true (show (P : Int) = 0 by omega)]
      walk_at "evl"
      rw [hpi]
      walk_at "evl"
      generalize hI : iteF _ _ _ _ = ri
      obtain ⟨o15, o16, hri⟩ : ∃ o15 o16, ri = .nx [some (.scr ns), some (.olst [.int a0, .int a1, .int a2, .int a3, .int a4, .int a5, .int a6, .int a7]), some (.int (M : Int)), some (.int (P : Int)), some (.int (R : Int)), some (.int (K : Int)), some (.int (n : Int)), some (.int (A : Int)), some (.olst (HS.map eO)), o9, o10, some (.str "right"), some (.lst [.tup [.int 5, .int 0, .int (M : Int)]]), some (.ins "Plan" ["room", "build", "keep_from"] [.int (R : Int), .str "right", .int (K : Int)]), some (.int (dueN M P R K A n : Int)), o15, o16, none] := by
        rw [<- hI, <- due_eq M P R K A n R1.1 M1.1]
        exact due_chunk (semT (tbl W) 9) _ _ _ _ _ _ _ _ M R K (P : Int) (n : Int) (A : Int) M1 R1 K1 ⟨by omega, by omega⟩
      clear hI
      subst hri
      generalize dueN M P R K A n = DN at *
      walk_at "evl"
      rw [ci]
      walk_at "evl"
      rw [hfi]
      walk_at "evl"
      rw [cw]
      walk_at "evl"
      try rfl
    · have hrw : rowsAB false M P = [r5 false M, r9 false P] := by unfold rowsAB; rw [if_neg z]
      have ci : semT (tbl W) 9 "Counts.__init__" [.oins "Counts" [] [], .lst [.tup [.int 5, .int 0, .int (M : Int)], .tup [.int 9, .int (P : Int), .int 0]]] (some 0) = .ok .non (some (.oins "Counts" ["_rows"] [.lst [.tup [.int 5, .int 0, .int (M : Int)], .tup [.int 9, .int (P : Int), .int 0]]])) := f_counts_init (W := W) 6 [r5 false M, r9 false P] (by simp) ⟨by simp [r5, r9, mkT], fun t m => by
        rcases List.mem_cons.mp m with rfl | m
        · simp [r5, mkT]; omega
        · rw [List.mem_singleton.mp m]; simp [r9, mkT]; omega⟩
      rw [hrw] at cw
      have cw : semT (tbl W) 9 "writes_by_counts" [.ins "Counts" ["_rows"] [.lst [.tup [.int 5, .int 0, .int (M : Int)], .tup [.int 9, .int (P : Int), .int 0]]], .ins "Family" ["_functions"] [.lst (HS.map eH)], .ins "Plan" ["room", "build", "keep_from"] [.int (R : Int), .str "right", .int (K : Int)]] none = .ok (.int (dueN M P R K A n : Int)) none := cw
      rw [decide_eq_false (show ¬ (P : Int) = 0 by omega)]
      walk_at "evl"
      rw [hpi]
      walk_at "evl"
      generalize hI : iteF _ _ _ _ = ri
      obtain ⟨o15, o16, hri⟩ : ∃ o15 o16, ri = .nx [some (.scr ns), some (.olst [.int a0, .int a1, .int a2, .int a3, .int a4, .int a5, .int a6, .int a7]), some (.int (M : Int)), some (.int (P : Int)), some (.int (R : Int)), some (.int (K : Int)), some (.int (n : Int)), some (.int (A : Int)), some (.olst (HS.map eO)), o9, o10, some (.str "right"), some (.lst [.tup [.int 5, .int 0, .int (M : Int)], .tup [.int 9, .int (P : Int), .int 0]]), some (.ins "Plan" ["room", "build", "keep_from"] [.int (R : Int), .str "right", .int (K : Int)]), some (.int (dueN M P R K A n : Int)), o15, o16, none] := by
        rw [<- hI, <- due_eq M P R K A n R1.1 M1.1]
        exact due_chunk (semT (tbl W) 9) _ _ _ _ _ _ _ _ M R K (P : Int) (n : Int) (A : Int) M1 R1 K1 ⟨by omega, by omega⟩
      clear hI
      subst hri
      generalize dueN M P R K A n = DN at *
      walk_at "evl"
      rw [ci]
      walk_at "evl"
      rw [hfi]
      walk_at "evl"
      rw [cw]
      walk_at "evl"
      try rfl
  · have cw := cw "left" true rfl
    have hpi := hpi "left" (by simp)
    rw [hside]
    walk_at "evl"
    by_cases z : P = 0
    · have hrw : rowsAB true M P = [r5 true M] := by unfold rowsAB; rw [if_pos z]
      have ci : semT (tbl W) 9 "Counts.__init__" [.oins "Counts" [] [], .lst [.tup [.int 5, .int (M : Int), .int 0]]] (some 0) = .ok .non (some (.oins "Counts" ["_rows"] [.lst [.tup [.int 5, .int (M : Int), .int 0]]])) := f_counts_init (W := W) 6 [r5 true M] (by simp) ⟨by simp, fun t m => by rw [List.mem_singleton.mp m]; simp [r5, mkT]; omega⟩
      rw [hrw] at cw
      have cw : semT (tbl W) 9 "writes_by_counts" [.ins "Counts" ["_rows"] [.lst [.tup [.int 5, .int (M : Int), .int 0]]], .ins "Family" ["_functions"] [.lst (HS.map eH)], .ins "Plan" ["room", "build", "keep_from"] [.int (R : Int), .str "left", .int (K : Int)]] none = .ok (.int (dueN M P R K A n : Int)) none := cw
      rw [decide_eq_true (show (P : Int) = 0 by omega)]
      walk_at "evl"
      rw [hpi]
      walk_at "evl"
      generalize hI : iteF _ _ _ _ = ri
      obtain ⟨o15, o16, hri⟩ : ∃ o15 o16, ri = .nx [some (.scr ns), some (.olst [.int a0, .int a1, .int a2, .int a3, .int a4, .int a5, .int a6, .int a7]), some (.int (M : Int)), some (.int (P : Int)), some (.int (R : Int)), some (.int (K : Int)), some (.int (n : Int)), some (.int (A : Int)), some (.olst (HS.map eO)), o9, o10, some (.str "left"), some (.lst [.tup [.int 5, .int (M : Int), .int 0]]), some (.ins "Plan" ["room", "build", "keep_from"] [.int (R : Int), .str "left", .int (K : Int)]), some (.int (dueN M P R K A n : Int)), o15, o16, none] := by
        rw [<- hI, <- due_eq M P R K A n R1.1 M1.1]
        exact due_chunk (semT (tbl W) 9) _ _ _ _ _ _ _ _ M R K (P : Int) (n : Int) (A : Int) M1 R1 K1 ⟨by omega, by omega⟩
      clear hI
      subst hri
      generalize dueN M P R K A n = DN at *
      walk_at "evl"
      rw [ci]
      walk_at "evl"
      rw [hfi]
      walk_at "evl"
      rw [cw]
      walk_at "evl"
      try rfl
    · have hrw : rowsAB true M P = [r5 true M, r9 true P] := by unfold rowsAB; rw [if_neg z]
      have ci : semT (tbl W) 9 "Counts.__init__" [.oins "Counts" [] [], .lst [.tup [.int 5, .int (M : Int), .int 0], .tup [.int 9, .int 0, .int (P : Int)]]] (some 0) = .ok .non (some (.oins "Counts" ["_rows"] [.lst [.tup [.int 5, .int (M : Int), .int 0], .tup [.int 9, .int 0, .int (P : Int)]]])) := f_counts_init (W := W) 6 [r5 true M, r9 true P] (by simp) ⟨by simp [r5, r9, mkT], fun t m => by
        rcases List.mem_cons.mp m with rfl | m
        · simp [r5, mkT]; omega
        · rw [List.mem_singleton.mp m]; simp [r9, mkT]; omega⟩
      rw [hrw] at cw
      have cw : semT (tbl W) 9 "writes_by_counts" [.ins "Counts" ["_rows"] [.lst [.tup [.int 5, .int (M : Int), .int 0], .tup [.int 9, .int 0, .int (P : Int)]]], .ins "Family" ["_functions"] [.lst (HS.map eH)], .ins "Plan" ["room", "build", "keep_from"] [.int (R : Int), .str "left", .int (K : Int)]] none = .ok (.int (dueN M P R K A n : Int)) none := cw
      rw [decide_eq_false (show ¬ (P : Int) = 0 by omega)]
      walk_at "evl"
      rw [hpi]
      walk_at "evl"
      generalize hI : iteF _ _ _ _ = ri
      obtain ⟨o15, o16, hri⟩ : ∃ o15 o16, ri = .nx [some (.scr ns), some (.olst [.int a0, .int a1, .int a2, .int a3, .int a4, .int a5, .int a6, .int a7]), some (.int (M : Int)), some (.int (P : Int)), some (.int (R : Int)), some (.int (K : Int)), some (.int (n : Int)), some (.int (A : Int)), some (.olst (HS.map eO)), o9, o10, some (.str "left"), some (.lst [.tup [.int 5, .int (M : Int), .int 0], .tup [.int 9, .int 0, .int (P : Int)]]), some (.ins "Plan" ["room", "build", "keep_from"] [.int (R : Int), .str "left", .int (K : Int)]), some (.int (dueN M P R K A n : Int)), o15, o16, none] := by
        rw [<- hI, <- due_eq M P R K A n R1.1 M1.1]
        exact due_chunk (semT (tbl W) 9) _ _ _ _ _ _ _ _ M R K (P : Int) (n : Int) (A : Int) M1 R1 K1 ⟨by omega, by omega⟩
      clear hI
      subst hri
      generalize dueN M P R K A n = DN at *
      walk_at "evl"
      rw [ci]
      walk_at "evl"
      rw [hfi]
      walk_at "evl"
      rw [cw]
      walk_at "evl"
      try rfl
end
end Py
namespace Py
open PySem L2
theorem factsL {P : Program} {w : World} {K : PySem.W.Frag} {h : Heap} {mg : Str -> Option Value} {f : Addr} (X : K.In h) (G : h.Ns mainGlobals mg) (hfa : mg ("law" : Str) = some (.ref f)) (c : SaysX faL fnL K) (hPf : ((P.main.file : Str) == fileL) = true) (hPs : (P.main.scope.names.lookup ("super" : Str)).isSome = false) :
    ∃ fd : FuncData, (∀ (s : Shared) (v : Value), BindsTo s fd ⟨[v], []⟩ [("_law_script", v)]) /\ ∀ base : Heap, K.In base -> base.Ns mainGlobals mg -> FnOk P w K mg base CX0 40 f fd A_law (spL K) := by
  let W : Wd TT := fLaw TT P w K clsL fldL fldL_ok subT (fun _ _ => rfl) xL xsubT (fun _ _ => rfl) (c.fact 38 (f := fXm xL xsubT) rfl) (c.fact 39 (f := fXv xL) rfl) (c.fact 40 (f := fXc xL) rfl) (c.fact 31 (f := fCls clsL) rfl) (c.fact 32 (f := fNoat clsL fldL) rfl) (c.fact 33 (f := fIsT clsL) rfl) (c.fact 34 (f := fTO clsL) rfl) (c.fact 35 (f := fOT clsL) rfl) (c.fact 36 (f := fOO clsL subT) rfl)
  have D_is_integer : DefAt K mg "is_integer" "is_integer" s_is_integer [] [] := by
    obtain ⟨fd, F⟩ := c.def_ 0 (d := dd_is_integer) rfl
    exact ⟨_, fd, F, He.glo_ok X G (c.fact 0 (f := fGlo "is_integer") rfl)⟩
  have D_is_triple : DefAt K mg "is_triple" "is_triple" s_is_triple [] [] := by
    obtain ⟨fd, F⟩ := c.def_ 1 (d := dd_is_triple) rfl
    exact ⟨_, fd, F, He.glo_ok X G (c.fact 1 (f := fGlo "is_triple") rfl)⟩
  have D_counted_pass : DefAt K mg "counted_pass" "counted_pass" s_counted_pass [] [] := by
    obtain ⟨fd, F⟩ := c.def_ 2 (d := dd_counted_pass) rfl
    exact ⟨_, fd, F, He.glo_ok X G (c.fact 2 (f := fGlo "counted_pass") rfl)⟩
  have D_split_counts : DefAt K mg "split_counts" "split_counts" s_split_counts [] [] := by
    obtain ⟨fd, F⟩ := c.def_ 3 (d := dd_split_counts) rfl
    exact ⟨_, fd, F, He.glo_ok X G (c.fact 3 (f := fGlo "split_counts") rfl)⟩
  have D_counted_passes : DefAt K mg "counted_passes" "counted_passes" s_counted_passes [] [] := by
    obtain ⟨fd, F⟩ := c.def_ 4 (d := dd_counted_passes) rfl
    exact ⟨_, fd, F, He.glo_ok X G (c.fact 4 (f := fGlo "counted_passes") rfl)⟩
  have D_rows_in : DefAt K mg "rows_in" "rows_in" s_rows_in [] [] := by
    obtain ⟨fd, F⟩ := c.def_ 5 (d := dd_rows_in) rfl
    exact ⟨_, fd, F, He.glo_ok X G (c.fact 5 (f := fGlo "rows_in") rfl)⟩
  have D_writes_by_counts : DefAt K mg "writes_by_counts" "writes_by_counts" s_writes_by_counts [] [] := by
    obtain ⟨fd, F⟩ := c.def_ 6 (d := dd_writes_by_counts) rfl
    exact ⟨_, fd, F, He.glo_ok X G (c.fact 6 (f := fGlo "writes_by_counts") rfl)⟩
  have D_law_draws : DefAt K mg "_law_draws" "_law_draws" s_law_draws [] [] := by
    obtain ⟨fd, F⟩ := c.def_ 7 (d := dd_law_draws) rfl
    exact ⟨_, fd, F, He.glo_ok X G (c.fact 7 (f := fGlo "_law_draws") rfl)⟩
  have B : Blt mg := ⟨He.free_ok X G (c.fact 9 (f := fFree "len") rfl), He.free_ok X G (c.fact 10 (f := fFree "range") rfl), He.free_ok X G (c.fact 11 (f := fFree "abs") rfl), He.free_ok X G (c.fact 12 (f := fFree "int") rfl), He.free_ok X G (c.fact 13 (f := fFree "bool") rfl), He.free_ok X G (c.fact 14 (f := fFree "str") rfl), He.free_ok X G (c.fact 15 (f := fFree "list") rfl), He.free_ok X G (c.fact 16 (f := fFree "tuple") rfl), He.free_ok X G (c.fact 17 (f := fFree "isinstance") rfl), He.free_ok X G (c.fact 18 (f := fFree "sorted") rfl), He.free_ok X G (c.fact 19 (f := fFree "enumerate") rfl), He.free_ok X G (c.fact 20 (f := fFree "zip") rfl), He.free_ok X G (c.fact 21 (f := fFree "sum") rfl), He.free_ok X G (c.fact 22 (f := fFree "any") rfl), He.free_ok X G (c.fact 23 (f := fFree "all") rfl), He.free_ok X G (c.fact 24 (f := fFree "max") rfl), He.free_ok X G (c.fact 25 (f := fFree "min") rfl), He.free_ok X G (c.fact 26 (f := fFree "dict") rfl), He.free_ok X G (c.fact 27 (f := fFree "set") rfl), He.free_ok X G (c.fact 28 (f := fFree "type") rfl), He.free_ok X G (c.fact 29 (f := fFree "iter") rfl), He.free_ok X G (c.fact 30 (f := fFree "super") rfl)⟩
  have C : Cs W mg := ⟨fun c h => h,
    fDun_ok (fun c h => h) (fun c => rfl) (c.fact 37 (f := fDun clsL) rfl),
    (by simp [W, fLaw, clsL]),
    He.glo_ok X G (c.fact 41 (f := fGlo "Counts") rfl),
    (let ⟨fd, F⟩ := c.def_ 9 (d := de_Counts___init__) rfl; ⟨_, fd, F, He.meth_ok (c.fact 42 (f := fMeth "Counts" "__init__") rfl)⟩),
    (let ⟨fd, F⟩ := c.def_ 10 (d := de_Counts___len__) rfl; ⟨_, fd, F, He.meth_ok (c.fact 43 (f := fMeth "Counts" "__len__") rfl)⟩),
    (let ⟨fd, F⟩ := c.def_ 11 (d := de_Counts___iter__) rfl; ⟨_, fd, F, He.meth_ok (c.fact 44 (f := fMeth "Counts" "__iter__") rfl)⟩),
    (let ⟨fd, F⟩ := c.def_ 12 (d := de_Counts_left_total) rfl; ⟨_, _, fd, fPr_ok (c.fact 45 (f := fPr "Counts" "left_total") rfl), F⟩),
    (let ⟨fd, F⟩ := c.def_ 13 (d := de_Counts_right_total) rfl; ⟨_, _, fd, fPr_ok (c.fact 46 (f := fPr "Counts" "right_total") rfl), F⟩),
    ⟨_, He.mkr_ok (c.fact 47 (f := fMkr "Counts") rfl)⟩,
    (by simp [W, fLaw, clsL]),
    He.glo_ok X G (c.fact 48 (f := fGlo "HashFunction") rfl),
    (let ⟨fd, F⟩ := c.def_ 14 (d := de_HashFunction___init__) rfl; ⟨_, fd, F, He.meth_ok (c.fact 49 (f := fMeth "HashFunction" "__init__") rfl)⟩),
    (let ⟨fd, F⟩ := c.def_ 15 (d := de_HashFunction___call__) rfl; ⟨_, fd, F, He.meth_ok (c.fact 50 (f := fMeth "HashFunction" "__call__") rfl)⟩),
    (let ⟨fd, F⟩ := c.def_ 16 (d := de_HashFunction_part_of) rfl; ⟨_, fd, F, He.meth_ok (c.fact 51 (f := fMeth "HashFunction" "part_of") rfl)⟩),
    ⟨_, He.mkr_ok (c.fact 52 (f := fMkr "HashFunction") rfl)⟩,
    (by simp [W, fLaw, clsL]),
    He.glo_ok X G (c.fact 53 (f := fGlo "Family") rfl),
    (let ⟨fd, F⟩ := c.def_ 17 (d := de_Family___init__) rfl; ⟨_, fd, F, He.meth_ok (c.fact 54 (f := fMeth "Family" "__init__") rfl)⟩),
    (let ⟨fd, F⟩ := c.def_ 18 (d := de_Family___len__) rfl; ⟨_, fd, F, He.meth_ok (c.fact 55 (f := fMeth "Family" "__len__") rfl)⟩),
    (let ⟨fd, F⟩ := c.def_ 19 (d := de_Family___iter__) rfl; ⟨_, fd, F, He.meth_ok (c.fact 56 (f := fMeth "Family" "__iter__") rfl)⟩),
    (let ⟨fd, F⟩ := c.def_ 20 (d := de_Family_part_at) rfl; ⟨_, fd, F, He.meth_ok (c.fact 57 (f := fMeth "Family" "part_at") rfl)⟩),
    ⟨_, He.mkr_ok (c.fact 58 (f := fMkr "Family") rfl)⟩,
    (by simp [W, fLaw, clsL]),
    He.glo_ok X G (c.fact 59 (f := fGlo "Plan") rfl),
    (let ⟨fd, F⟩ := c.def_ 21 (d := de_Plan___init__) rfl; ⟨_, fd, F, He.meth_ok (c.fact 60 (f := fMeth "Plan" "__init__") rfl)⟩),
    (let ⟨fd, F⟩ := c.def_ 22 (d := de_Plan_build_side) rfl; ⟨_, fd, F, He.meth_ok (c.fact 61 (f := fMeth "Plan" "build_side") rfl)⟩),
    ⟨_, He.mkr_ok (c.fact 62 (f := fMkr "Plan") rfl)⟩,
    He.int_ok X G (c.fact 63 (f := fInt "WIDEST" 64) rfl),
    He.int_ok X G (c.fact 64 (f := fInt "MOST_LEVELS" 4) rfl),
    He.int_ok X G (c.fact 65 (f := fInt "MOST_ROOM" 100) rfl),
    He.int_ok X G (c.fact 66 (f := fInt "DEEPEST_KEEP" 8) rfl)⟩
  obtain ⟨fdL, FL⟩ := c.def_ 8 (d := dd_law) rfl
  have e := hfa.symm.trans (He.glo_ok X G (c.fact 8 (f := fGlo "law") rfl))
  cases e
  have b := FunD.bindsA (ps := A_law) FL bp_law
  refine ⟨fdL, fun s v => b s [v] rfl, fun base _ _ => ?_⟩
  exact ok_law (W := W) (ds_all (W := W) (base := base) D_is_integer D_is_triple D_counted_pass D_split_counts D_counted_passes D_rows_in D_writes_by_counts D_law_draws C B 9) C FL B (spL_spR (W := W) (law_true W))
end Py
open PySem PySem.W PySem.Calls PyProof.Rows
theorem PySem.Challenge.cw_anyhashes_k50_counts_of_two_keys_holds : PySem.Challenge.rw_anyhashes_k50_counts_of_two_keys.Holds :=
  Py.headL Py.factsL
