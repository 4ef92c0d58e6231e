import PyProof.Rows.All
import Wide.All
import OpenK.AllK
import Wide.FinOn
import KE.KFromBytes
import KE.KSuper
import KE.KExcSuper
import KE.KExcIs
import HandS.ForMost
import HandS.Exc
import HandS.ExcOwn
import HandS.ExcSuper
import HandS.TryOnly
import HandS.TryMany
import HandS.CallSlots
import HandS.ExcIs
import KE.KDictKeyed
import HandS.IsInst
import HandS.Wide
import HandS.Defaults
import HandS.Zip
import HandS.More
import KE.SortData
import HandS.Property
import HandS.MakeKwOnly
import HandS.SortKw
import HandS.IterVal
import HandS.OwnIter
import HandS.OwnEq
import KE.DataMinMax
import KE.KTupSum
import HandS.Deep
import HandS.Dict
import HandS.DictComp
import HandS.NoneIn
import HandS.SetKeys
import HandS.Iter
import HandS.SetFor
import HandS.Strs
import PyProof.Rows.SetFrom
import HandS.ExcField
import KE.GoesMore
import PyProof.Draws
import HandS.ClsMeth
import HandS.Nested
import HandS.New0
import HandS.HeadHook2
import HandS.Head0
import HandS.Head1
import HandS.Head2
import HandS.HeadEnd
import HandS.HeadHook1
import PySem.Challenge.RW_anyhashes_k05_six_kinds
set_option Elab.async false
set_option linter.all false
set_option maxRecDepth 100000
set_option maxHeartbeats 8000000
namespace PySem
namespace PxE
open PySem.W PySem.Calls PyProof.Rows PySem.HandSPX
abbrev selfN : Str := "self"
inductive IsAsgs : List Stmt → List Str → Prop
  | nil : IsAsgs [] []
  | cons {f : Str} {p1 p2 p3 p4 : Pos} {r : List Stmt} {fs : List Str} : IsAsgs r fs → IsAsgs (.Assign [.Attribute (.Name "self" p1) f p2] (.Name f p3) p4 :: r) (f :: fs)
/-- the statement super().__init__(text), and how it is evaluated in a frame of that scope -/
def IsSup (qual : Str) (scope : Scope) (msg : Str) (s : Stmt) : Prop := ∃ (p0 p1 p2 p3 p4 p5 : Pos) (k : Nat), s = .Expr (.Call (.Attribute (.Call (.Name "super" p0) [] [] p1) "__init__" p2) [.Constant (.str msg) k p3] [] p4) p5 ∧
  ∀ (L a : Addr) (cd : Value) (cc : Addr), ∃ pl : PySem.Sem Bool, eval (.Call (.Attribute (.Call (.Name "super" p0) [] [] p1) "__init__" p2) [.Constant (.str msg) k p3] [] p4) (ksEnv qual scope L a cd cc) = (do
      let ov ← attributeBase (.Call (.Name "super" p0) [] [] p1) "__init__" (ksEnv qual scope L a cd cc) (eval (.Call (.Name "super" p0) [] [] p1) (ksEnv qual scope L a cd cc))
      standAt p2.atName
      let (f, first) ← holding [ov] (getMethod ov "__init__" pl)
      callWith p4 f first (backTo p4 (starEach [.Constant (.str msg) k p3] (ksEnv qual scope L a cd cc))) [])
/-- what the written part says of the class at C, and of its __init__, at fI -/
structure ExTxt (P : Program) (K : Frag) (C fI : Addr) (qual : Str) (params : Arguments) (body : List Stmt) (scope : Scope) (fs : List Str) : Prop where
  cls : excInitIn K C veTail "ValueError.__new__" = true
  cdt : ∃ cd, clsIn K C = some cd ∧ refsVE cd.mro = true ∧ cd.hasDict = true
  sa : findIn K (.ref C) "__setattr__" = some (some (.builtin "object.__setattr__"))
  noN : ∀ f ∈ fs, findIn K (.ref C) f = some none
  iC : findIn K (.ref C) "__init__" = some (some (.ref fI))
  tC : typeIn K (.ref fI) = some (.type "function")
  exC : subIn K (.ref C) (.type "BaseException") = some true
  veC : subIn K (.ref C) (.type "ValueError") = some true
  tyC : typeIn K (.ref C) = some (.type "type")
  opq : nsIn K cStatics "thirdparty.any" = some none
  sup : ks_superIn K C C "__init__" = some (some (.builtin "ValueError.__init__"))
  slf : mroIn K C (.ref C) = some true
  fn : ∃ (oc : Value) (od : Option Addr) (doc pm : Value) (an : Option Addr) (ct : Value) (osl : Array (Option Value)) (cda cc : Addr) (ccl : Value) (cdd : Option Addr) (vs : Array Value) (ccs : Array (Option Value)) (file : Str) (tf : Tok) (cl : Value) (cld : Option Addr) (csl : Array (Option Value)),
    K.lookup fI = some ⟨oc, od, .func (ksFn "__init__" qual params body scope .none .none doc pm an (.ref cda) ct cc), osl⟩ ∧ codeIn K (.ref cda) qual = true ∧ K.lookup cda = some ⟨ccl, cdd, .fields vs, ccs⟩ ∧ vs[2]? = some (.str file tf) ∧ ((P.main.file : Str) == file) = true ∧
      K.lookup cc = some ⟨cl, cld, .cell (some (.ref C)), csl⟩
section
open Builtin Builtin.ObjectAttr
variable {prog : Program} {w : World} {A : Around} {E : Value → Shared → Prop} {R : Result → Shared → Prop} {hp : Heap} {g : Array GenState} {d : Drawn} {t : Nat} {os : OsState}
theorem osa_old {K : W.Frag} {name : Str} {tk : Tok} {v : Value} {x C dx : Addr} {fv : Array Value} {cd : ClassData} {m0 : Str → Option Value} {nl : List Str}
    (X : K.In hp) (hx : hp.get? x = some { cls := .ref C, dict := some dx, data := .fields fv }) (hns : hp.Ns1 dx m0) (hw : Within m0 nl) (hz : nl.length ≤ 1000) (hcd : W.clsIn K C = some cd) (hm : refsVE cd.mro = true) (hh : cd.hasDict = true)
    (ha : W.findIn K (.ref C) name = some none)
    (hq : ∀ h' tk', (∀ b o, b ≠ dx → hp.get? b = some o → h'.get? b = some o) → h'.Ns1 dx (fun y => if y = name then some v else m0 y) → R (.ok (.ret .none)) ⟨h', g, d, tk', os⟩) :
    codeAny (model prog w) A (.call (.builtin "object.__setattr__") ⟨[.ref x, .str name tk, v], []⟩) R ⟨hp, g, d, t, os⟩ := by
  obtain ⟨oD, esD, epD, hoD, hdD, _⟩ := hns.count hw
  have I : W.InstAt hp x { cls := .ref C, dict := some dx, data := .fields fv } C (some oD) := ⟨hx, rfl, rfl, hoD⟩
  have SF := F.store_object
  have ne := refsVE_ne hm
  have hob : cd.mro.contains (.type "object") = true := (refsVE_contains "object" _ hm).trans (by decide +kernel)
  have sub : W.Looks (model prog w) hp (isInstance (.ref x) (.type "object")) true := I.type.andThen (W.looks_mroIn X (by unfold W.mroIn; rw [hcd, Option.bind_some, if_neg (by rw [ne]; decide), hob]))
  refine codeAny_call_builtin SF.slot.plain SF.entry (@W.check_slot (model prog w) _ _ ⟨hp, g, d, t, os⟩ "object.__setattr__" "object" "__setattr__" (.ref x) [.str name tk, v] [] _ SF.kind SF.split sub (SF.args (.ref x) (.str name tk) v) ?_)
  have hmr : W.Looks (model prog w) hp (mroOf (.ref C)) cd.mro := (W.looks_clsIn X hcd).andThen .now
  have L3 : W.Looks (model prog w) hp (storeTaker? none) none := .now
  have hcls : W.Looks (model prog w) hp (classData C) cd := W.looks_clsIn X hcd
  rw [W.osa_eq, refuse_eq]
  refine wpAny_bind (wpAny_bind (I.type.at (wpAny_bind (hmr.at ?_))))
  rw [refsVE_pass _ _ hm]
  refine wpAny_pure (wpAny_bind (I.type.at (wpAny_bind ((W.looks_findIn X ha).at (wpAny_bind (L3.at ?_))))))
  show wpAny _ _ (storeInOwnDict (.ref x) (.ref C) (.str name tk) name v false) _ _ _
  obtain ⟨nm, bs, mro, ns, qn, hd, sn, sb, ab, col, del⟩ := cd
  dsimp only at hh
  subst hh
  unfold storeInOwnDict ownDictForStores
  repeat (first | with_reducible refine ESX.store_in_old hns hw hz ?_ | with_reducible refine wpAny_loadPart_at hx ?_ | with_reducible refine hcls.at ?_ | wp_step)
  intro h' tk' hn' hs
  exact hq h' tk' (fun b o hb ho => (hs.2 b hb).trans ho) hn'
/-- ValueError.__init__ bound to e, called: the args are laid anew -/
theorem call_mw {u e C t0 : Addr} {rest : List Value} {Q : Value → Shared → Prop} {nm q : Str} {N : Addr} {bs bm : List Value} {hdct : Bool} {sn : List Str} {sub : List Value} {ab : Bool} {col : Option Bool} {dd : Option Addr} {k0 k1 k2 k3 k5 : Option Value}
    (hC : hp.get? C = some (excClassObj nm q C N bs bm hdct sn sub ab col dd k0 k1 k2 k3 k5 "ValueError.__new__")) (he : hp.get? e = some (excO C t0)) (hu : hp.get? u = some (kxs_mw "ValueError.__init__" e)) (hrest : rest.length ≤ sizeLine)
    (hq : ∀ h' t1, (∀ b o, b ≠ e → hp.get? b = some o → h'.get? b = some o) → h'.get? e = some (excO C t1) → Q .none ⟨h', g, d, t, os⟩) :
    wpAny (model prog w) A (call (.ref u) rest) Q E ⟨hp, g, d, t, os⟩ := by
  refine wpAny_call (codeAny_of_tree ?_)
  show wpAny _ A.in1 (callAny (.ref u) ⟨rest, []⟩) _ _ _
  simp only [callAny]
  refine wpAny_bind (wpAny_load hu ?_)
  simp only [kxs_mw, show (Value.type "method-wrapper" == Value.type "method" || Value.type "method-wrapper" == Value.type "builtin_function_or_method" || Value.type "method-wrapper" == Value.type "method-wrapper") = true by decide, if_true]
  refine W.KFB.if_so (by decide) ?_
  refine wpAny_bind (check_bound_init PySem.F.excBase_ValueError.toExcCallFacts hC he rfl ?_)
  refine wpAny_bind (wpAny_pure (wpAny_pure ?_))
  refine ⟨plainId_quiet PySem.F.excBase_ValueError.init.plain _, codeAny_builtin PySem.F.excBase_ValueError.initEntry ?_⟩
  refine exc_init_tree (cls := .ref C) (t0 := t0) (dv := none) (c2 := .none) (c3 := .none) (b4 := .bool false) he hrest fun h' k e' _ => ?_
  exact hq h' _ k e'
theorem callWith_mw {M : Model} {s : Shared} {pos : Pos} {u x : Addr} {first : List Value} {env : Env} {e : Expr} {rest : List Expr} {Q : Value → Shared → Prop} {i : String}
    (h : wpAny M A (spliced (backTo pos (starEach (e :: rest) env))) (fun vs s₁ => KxsAt i u x s₁.heap ∧ wpAny M A (call (.ref u) (first ++ vs)) Q E s₁) E s)
    (he : starEach (e :: rest) env = (false, eval e env) :: starEach rest env := by rfl) (hplain : (backTo pos (starEach rest env)).any (·.1) = false := by rfl) :
    wpAny M A (callWith pos (.ref u) first (backTo pos (starEach (e :: rest) env)) []) Q E s := by
  rw [he] at h ⊢
  refine kxs_callWith (i := i) (x := x) (by show (false || (backTo pos (starEach rest env)).any (·.1)) = false; rw [hplain]; rfl) ?_
  exact evalArgs_plain h
end
/-- what the assignments leave of an exception at x, in a frame at L -/
structure Stored (h h' : Heap) (x C dx : Addr) (t1 : Addr) (m : Str → Option Value) : Prop where
  keep : ∀ b o, b ≠ x → b ≠ dx → h.get? b = some o → h'.get? b = some o
  obj : h'.get? x = some { cls := .ref C, dict := some dx, data := .fields #[.ref t1, .none, .none, .none, .bool false, .none] }
  ns : h'.Ns1 dx m
theorem lookup_snoc {f : Str} {v : Value} : ∀ {l : List (Str × Value)} (y : Str), f ∉ l.map (·.1) → (if y = f then some v else l.lookup y) = (l ++ [(f, v)]).lookup y
  | [], y, _ => by
    by_cases e : y = f
    · subst e; simp [List.lookup]
    · simp [List.lookup, e, beq_eq_false_iff_ne.mpr e]
  | (k, u) :: l, y, hn => by
    have h1 : f ≠ k := fun z => hn (by rw [z]; simp)
    have h2 : f ∉ l.map (·.1) := fun z => hn (by simp at z ⊢; exact .inr z)
    have ih := lookup_snoc (v := v) y h2
    by_cases e : y = k
    · subst e
      rw [if_neg (Ne.symm h1)]
      simp [List.lookup]
    · have e' : (y == k) = false := beq_eq_false_iff_ne.mpr e
      simp only [List.cons_append, List.lookup_cons, e']
      exact ih
theorem within_lookup : ∀ (l : List (Str × Value)), Within (fun y => l.lookup y) (l.map (·.1)) := fun l y v => by
  cases e : List.lookup y l with
  | none => exact absurd e v
  | some u =>
    obtain ⟨l1, l2, rfl, _⟩ := List.lookup_eq_some_iff.mp e
    simp
section
variable {prog : Program} {w : World} {A : Around} {E : Value → Shared → Prop} {K : Frag} {C : Addr}
theorem ldX {M : Model} {s : Shared} {env : Env} {m : Str → Option Value} {x : Str} {pos : Pos} {v : Value} {Q : Value → Shared → Prop} (hn : s.heap.Ns env.locals m) (hv : m x = some v) (h : Q v s)
    (hk : env.scope.kind = .function) (hl : env.kindOf x = some .local) (hd : (x == ("__debug__" : Str)) = false) : wpAny M A (eval (.Name x pos) env) Q E s := wpAny_Name (wpAny_loadName_local hk hl hn hv h) hd
/-- the further stores -/
theorem stores {cd : ClassData} {env : Env} {m : Str → Option Value} {x dx t1 : Addr} (hcd : clsIn K C = some cd) (hve : refsVE cd.mro = true) (hdi : cd.hasDict = true) (sa : findIn K (.ref C) "__setattr__" = some (some (.builtin "object.__setattr__")))
    (hk : env.scope.kind = .function) (hs : env.kindOf selfN = some .local) (hms : m selfN = some (.ref x)) (hKx : K.lookup x = none) (hxL : x ≠ env.locals) (hdL : dx ≠ env.locals) (hdx : dx ≠ x) (hKd : K.lookup dx = none) :
    ∀ {ss : List Stmt} {fs : List Str} {us : List Value} {done : List (Str × Value)} {s : Shared} {Q : Flow → Shared → Prop}, IsAsgs ss fs → fs.length = us.length → (∀ f ∈ fs, findIn K (.ref C) f = some none ∧ env.kindOf f = some .local ∧ (f == ("__debug__" : Str)) = false) → (∀ p ∈ fs.zip us, m p.1 = some p.2) →
      (done.map (·.1) ++ fs).Nodup → (done.map (·.1) ++ fs).length ≤ 1000 → K.In s.heap → s.heap.Ns env.locals m → s.heap.get? x = some { cls := .ref C, dict := some dx, data := .fields #[.ref t1, .none, .none, .none, .bool false, .none] } → s.heap.Ns1 dx (fun y => done.lookup y) →
      (∀ h' tk, Stored s.heap h' x C dx t1 (fun y => (done ++ fs.zip us).lookup y) → Q .next { s with heap := h', toks := tk }) → wpAny (model prog w) A (execs ss env) Q E s
  | _, _, [], done, s, Q, .nil, _, _, _, _, _, X, hn, hx, hd, q => wpAny_execs_nil (q s.heap s.toks ⟨fun b o _ _ e => e, hx, by simpa using hd⟩)
  | _, _, u :: us, done, s, Q, .cons (f := f) (fs := fs) (r := r) hr, hl, hf, hm, nd, hz, X, hn, hx, hd, q => by
    obtain ⟨hno, hkf, hdb⟩ := hf f (List.mem_cons_self ..)
    refine wpAny_execs_cons (plainObj_wpAny_Assign_Attribute ?_)
    refine ldX (v := u) hn (hm (f, u) (by simp)) (ldX (v := .ref x) hn hms ?_ hk hs (by decide)) hk hkf hdb
    obtain ⟨oD, esD, epD, hoD, hdD, _⟩ := hd.count (within_lookup done)
    refine set_plain X (ox := { cls := .ref C, dict := some dx, data := .fields #[.ref t1, .none, .none, .none, .bool false, .none] }) (od := some oD) ⟨hx, rfl, rfl, hoD⟩ sa ?_
    have hnd : f ∉ done.map (·.1) := fun z => (List.nodup_append.mp nd).2.2 f z f (List.mem_cons_self ..) rfl
    obtain ⟨hp, g, dr, tk, os⟩ := s
    refine osa_old X hx hd (within_lookup done) (by rw [List.length_append] at hz; omega) hcd hve hdi hno (fun h3 tk3 k3 hn3 => ?_)
    have hn3' : h3.Ns1 dx (fun y => (done ++ [(f, u)]).lookup y) := by
      have e : (fun y => if y = f then some u else done.lookup y) = fun y => (done ++ [(f, u)]).lookup y := funext fun y => lookup_snoc y hnd
      rw [← e]; exact hn3
    show wpAny _ _ (execs _ _) _ _ _
    have kx : h3.get? x = some { cls := .ref C, dict := some dx, data := .fields #[.ref t1, .none, .none, .none, .bool false, .none] } := k3 _ _ (Ne.symm hdx) hx
    have X3 : K.In h3 := fun a o e => k3 a o (fun z => by rw [z, hKd] at e; cases e) (X a o e)
    have hnL : h3.Ns env.locals m := by
      obtain ⟨oL, es, ep, hL, r⟩ := hn
      exact ⟨oL, es, ep, k3 _ _ (Ne.symm hdL) hL, r⟩
    refine stores hcd hve hdi sa hk hs hms hKx hxL hdL hdx hKd (s := ⟨h3, g, dr, tk3, os⟩) (us := us) (done := done ++ [(f, u)]) hr (by simpa using hl) (fun f' m' => hf f' (List.mem_cons_of_mem _ m')) (fun p hp => hm p (by simp; exact .inr hp)) ?_ ?_ X3 hnL kx hn3' fun h' tk' S => ?_
    · simpa [List.append_assoc] using nd
    · simpa [List.append_assoc] using hz
    · refine q h' tk' ⟨fun b o h1 h2 e => S.keep b o h1 h2 (k3 b o h2 e), S.obj, ?_⟩
      have := S.ns
      rwa [List.append_assoc] at this
/-- a made exception -/
structure OwnMade (h h' : Heap) (e C d : Addr) (m : Str → Option Value) : Prop where
  keep : ∀ b o, h.get? b = some o → h'.get? b = some o
  new : h.objs.size ≤ e
  obj : ∃ oe vs, h'.get? e = some oe ∧ oe.cls = .ref C ∧ oe.dict = some d ∧ oe.data = .fields vs ∧ vs[1]? = some .none
  dbig : h.objs.size ≤ d
  dne : d ≠ e
  ns : h'.Ns1 d m

theorem none_big {h : Heap} (X : K.In h) {a : Addr} (ha : h.objs.size ≤ a) : K.lookup a = none := by
  cases e : K.lookup a with
  | none => rfl
  | some o => exact absurd (Heap.lt_size (X _ _ e)) (Nat.not_lt.mpr ha)
theorem ns_keep {h h' : Heap} {L x : Addr} {m : Str → Option Value} (hn : h.Ns L m) (k : ∀ b o, b ≠ x → h.get? b = some o → h'.get? b = some o) (ne : L ≠ x) : h'.Ns L m := by
  obtain ⟨oL, es, ep, hL, r⟩ := hn
  exact ⟨oL, es, ep, k _ _ ne hL, r⟩
/-- what __init__ leaves of a fresh exception at x -/
structure InitEnd (h h' : Heap) (x C dx t1 : Addr) (m : Str → Option Value) : Prop where
  keep : ∀ b o, b ≠ x → h.get? b = some o → h'.get? b = some o
  obj : h'.get? x = some { cls := .ref C, dict := some dx, data := .fields #[.ref t1, .none, .none, .none, .bool false, .none] }
  dbig : h.objs.size ≤ dx
  dne : dx ≠ x
  ns : h'.Ns1 dx m
theorem ex_init {R : Result → Shared → Prop} {s : Shared} {fI : Addr} {qual : Str} {params : Arguments} {body : List Stmt} {scope : Scope} {fs : List Str} {mg mb : Str → Option Value} {us : List Value} {x t0 : Addr}
    (T : ExTxt prog K C fI qual params body scope fs) (hb : ∃ b0 ss msg, body = b0 :: ss ∧ IsSup qual scope msg b0 ∧ IsAsgs ss fs) (hfs : fs ≠ []) (hl : fs.length = us.length)
    (nd : fs.Nodup) (hz : fs.length ≤ 1000) (hself : selfN ∉ fs)
    (hhead : ∃ ar : Arg, (params.posonlyargs ++ params.args).head? = some ar ∧ ar.arg = selfN)
    (hloc : ∀ f ∈ selfN :: fs, scope.names.lookup f = some .local ∧ (f == ("__debug__" : Str)) = false) (hsup : scope.names.lookup ("super" : Str) = some .globalImplicit) (hcl : scope.names.lookup ("__class__" : Str) = some .free)
    (hcell : ∀ x ∈ scope.names, x.2 ≠ .cell) (hco : scope.isCoroutine = false) (hgen : scope.isGenerator = false) (hk : scope.kind = .function)
    (htop : (prog.main.scope.names.lookup ("super" : Str)).isSome = false)
    (hbind : ∀ (doc pm : Value) (an : Option Addr) (cdv ct : Value) (cc : Addr), bindArgs (ksFn "__init__" qual params body scope .none .none doc pm an cdv ct cc) ⟨.ref x :: us, []⟩ = pure ((selfN, Value.ref x) :: fs.zip us))
    (X : K.In s.heap) (hlim : s.heap.NoLimit) (hG : s.heap.Ns mainGlobals mg) (hms : mg "super" = none) (hB : s.heap.Ns builtinsNs mb) (hmb : mb "super" = some (.type "super"))
    (hx : s.heap.get? x = some (excO C t0)) (hnx : K.lookup x = none) (hroom : A.depth < recursionLimit)
    (hq : ∀ h' tk dx t1, InitEnd s.heap h' x C dx t1 (fun y => (fs.zip us).lookup y) → R (.ok (.ret .none)) { s with heap := h', toks := tk }) :
    codeAny (model prog w) A (.call (.ref fI) ⟨.ref x :: us, []⟩) R s := by
  obtain ⟨sc1, sc2, sc3, sc4, sc5⟩ := scope
  dsimp only at hco hgen hk
  subst hco hgen hk
  obtain ⟨oc, od, doc, pm, an, ct, osl, cda, cc, ccl, cdd, vs, ccs, file, tf, cl, cld, csl, ho, hcd, hcode, hvs, hfile, hcc⟩ := T.fn
  obtain ⟨b0, ss, msg, rfl, ⟨p0, p1, p2, p3, p4, p5, k, rfl, hev⟩, hss⟩ := hb
  obtain ⟨cd, hcdt, hve, hdi⟩ := T.cdt
  obtain ⟨ar, har, hars⟩ := hhead
  have hmap : (fs.zip us).map (·.1) = fs := by rw [List.map_fst_zip (by omega)]
  have hnodup : ((selfN, Value.ref x) :: fs.zip us).map (·.1) |>.Nodup := by
    rw [List.map_cons, hmap]; exact List.nodup_cons.mpr ⟨hself, nd⟩
  have hmem : ∀ p ∈ (selfN, Value.ref x) :: fs.zip us, ((selfN, Value.ref x) :: fs.zip us).reverse.lookup p.1 = some p.2 := by
    intro p hp
    obtain ⟨l1, l2, e⟩ := List.append_of_mem (List.mem_reverse.mpr hp)
    refine List.lookup_eq_some_iff.mpr ⟨l1, l2, e, fun q hq => ?_⟩
    have h2 : ((((selfN, Value.ref x) :: fs.zip us).map (·.1)).reverse).Nodup := List.pairwise_reverse.mpr (hnodup.imp fun h => Ne.symm h)
    rw [← List.map_reverse, e, List.map_append, List.map_cons] at h2
    have h3 := (List.nodup_append.mp h2).2.2 q.1 (List.mem_map_of_mem hq) p.1 (List.mem_cons_self ..)
    exact bne_iff_ne.mpr fun z => h3 z.symm
  refine ks_codeAny_call_defAt (fd := ksFn "__init__" qual params (_ :: ss) _ .none .none doc pm an (.ref cda) ct cc) (binds := (selfN, Value.ref x) :: fs.zip us) hroom (X _ _ ho) rfl hlim (codeRec_of X hcd) rfl (BindsTo.of_eq (hbind ..)) hcell
    (fun y hy => ?_) (fun h₁ hn k1 => ?_) rfl rfl rfl
  · refine (hloc y.1 ?_).1
    rcases List.mem_cons.mp hy with rfl | hy
    · exact List.mem_cons_self ..
    · exact List.mem_cons_of_mem _ (List.of_mem_zip (show (y.1, y.2) ∈ fs.zip us from hy)).1
  have hxs : x < s.heap.objs.size := Heap.lt_size hx
  have hxL : x ≠ s.heap.objs.size := Nat.ne_of_lt hxs
  have X1 : K.In h₁ := X.keeps k1
  have hx1 := k1 _ _ hx
  obtain ⟨oD, hD1, hD2⟩ : ∃ oD, h₁.get? C = some oD ∧ oD.data = .cls cd := by
    have hcdt' := hcdt
    unfold clsIn at hcdt'
    split at hcdt'
    · rename_i c d cd' sl ho
      cases hcdt'
      exact ⟨_, X1 _ _ ho, rfl⟩
    · cases hcdt'
  have hxC : x ≠ C := fun z => by
    have hcdt' := hcdt
    unfold clsIn at hcdt'
    rw [← z, hnx] at hcdt'
    cases hcdt'
  obtain ⟨pl, hev⟩ := hev s.heap.objs.size fI (.ref cda) cc
  refine ks_wpAt_execs_cons (ks_wpAt_Expr_any (ks_wpAt_MethodCall (pl := pl) ?_ hev))
  refine ks_wpAt_super_base (ar := ar) hsup hcl (by decide) rfl (X1 _ _ ho) rfl har rfl (X1 _ _ hcode) rfl hvs hfile htop ?_
  refine ks_loadName_global rfl hsup (loadGlobal_builtin (hG.keeps k1) hms (hB.keeps k1) hmb ⟨rfl, ?_⟩)
  refine wpAny_loadName_free rfl hcl rfl ⟨_, X1 _ _ hcc, rfl⟩ ?_
  rw [hars]
  refine wpAny_loadName_local rfl (hloc _ (List.mem_cons_self ..)).1 hn (hmem _ (List.mem_cons_self ..)) ?_
  refine ks_wpAny_isType_cls hD1 hD2 ⟨rfl, ?_⟩
  refine ks_wpAny_call_super hD1 hD2 hx1 rfl (fun c e => by cases e) (looks_mroIn X1 T.slf) (fun h2 e2 k2 => ?_)
  have X2 : K.In h2 := X1.keeps k2
  have hx2 := k2 _ _ hx1
  have I2 : InstAt h2 x (excO C t0) C none := ⟨hx2, rfl, rfl, trivial⟩
  have hsup2 : alongIn K "__init__" ((cd.mro.dropWhile (· != .ref C)).drop 1) = some (some (.builtin "ValueError.__init__")) := by
    have := T.sup
    unfold ks_superIn at this
    rwa [hcdt] at this
  refine kxs_getMethod kxs_ValueError e2 (looks_opaque X2 T.opq) (l₀ := cd.mro) (fun A Q E s k q => wpAny_bind ((looks_clsIn X2 hcdt) A _ E s k (wpAny_pure q))) rfl X2 hsup2 (I2.type.andThen (looks_subIn X2 T.veC)) hxC (by decide) ?_
  refine callWith_mw (i := "ValueError.__init__") (x := x) (first := []) (spliced_more (Calls.Constant_str (spliced_none ⟨Heap.get?_push_at rfl rfl, ?_⟩)))
  have k3 : ∀ b o, h2.get? b = some o → (h2.push (kxs_mw "ValueError.__init__" x)).get? b = some o := fun b o e => Heap.get?_push_of_some _ e
  obtain ⟨nm, N', qn, bs, bm, hdct, sn, sub, ab, col, dd, k0, k1', k2', k3', k5, hC, hT⟩ := excInit_of (X2.keeps k3) T.cls
  refine call_mw hC (k3 _ _ hx2) (Heap.get?_push_at rfl rfl) (by rw [sizeLine_eq]; exact (by decide : 1 ≤ 16777216)) fun h4 t1 k4 hx4 => ?_
  have kk : ∀ b o, b ≠ x → h₁.get? b = some o → h4.get? b = some o := fun b o ne e => k4 b o ne (k3 b o (k2 b o e))
  have X4 : K.In h4 := fun a o e => kk a o (fun z => by rw [z, hnx] at e; cases e) (X1 a o e)
  have hn4 := ns_keep hn kk (Ne.symm hxL)
  show wpAt _ _ _ (execs ss _) _ _ _
  refine wpAt_of_wpAny ?_
  cases hss with
  | nil => exact absurd rfl hfs
  | @cons f q1 q2 q3 q4 r fs hr =>
    cases us with
    | nil => simp at hl
    | cons u us =>
      refine wpAny_execs_cons (plainObj_wpAny_Assign_Attribute ?_)
      have hf := hloc f (List.mem_cons_of_mem _ (List.mem_cons_self ..))
      refine ldX (v := u) hn4 (hmem (f, u) (by simp)) (ldX (v := .ref x) hn4 (hmem _ (List.mem_cons_self ..)) ?_ rfl (hloc _ (List.mem_cons_self ..)).1 (by decide)) rfl hf.1 hf.2
      refine set_plain X4 (ox := excO C t1) (od := none) ⟨hx4, rfl, rfl, trivial⟩ T.sa ?_
      refine exc_osa X4 hx4 hcdt hve hdi (T.noN f (List.mem_cons_self ..)) (fun h5 tk5 dx k5 dn dne hx5 hn5 => ?_)
      show wpAny _ _ (execs _ _) _ _ _
      have hLlt : s.heap.objs.size < h4.objs.size := hn4.lt
      have X5 : K.In h5 := fun a o e => k5 a o (fun z => by rw [z, hnx] at e; cases e) (X4 a o e)
      have e5 : (fun y => if y = f then some u else none) = fun y => List.lookup y [(f, u)] := funext fun y => by
        have := lookup_snoc (l := []) (v := u) (f := f) y (by simp)
        simpa using this
      rw [e5] at hn5
      refine stores (w := w) (env := ksEnv qual _ s.heap.objs.size fI (.ref cda) cc) hcdt hve hdi T.sa (x := x) (dx := dx) (t1 := t1) (m := _) rfl (hloc _ (List.mem_cons_self ..)).1 (hmem _ (List.mem_cons_self ..)) hnx hxL (Nat.ne_of_gt (Nat.lt_of_lt_of_le hLlt dn)) dne (none_big X4 dn)
        (done := [(f, u)]) (us := us) hr (by simpa using hl) (fun f' m' => ?_) (fun p hp => hmem p (by simp; exact .inr (.inr hp))) (by simpa using nd) (by simpa using hz) X5 (ns_keep hn4 k5 (Ne.symm hxL)) hx5 hn5 fun h' tk' S => ?_
      · have := hloc f' (List.mem_cons_of_mem _ (List.mem_cons_of_mem _ m'))
        exact ⟨T.noN f' (List.mem_cons_of_mem _ m'), this.1, this.2⟩
      · refine hq h' tk' dx t1 ⟨fun b o ne e => ?_, S.obj, Nat.le_of_lt (Nat.lt_of_lt_of_le hLlt dn), dne, S.ns⟩
        refine S.keep b o ne (fun z => ?_) (k5 b o ne (kk b o ne (k1 b o e)))
        subst z
        exact absurd (Heap.lt_size e) (Nat.not_lt.mpr (Nat.le_of_lt (Nat.lt_of_lt_of_le hLlt dn)))

theorem ex_made {R : Result → Shared → Prop} {s : Shared} {fI : Addr} {qual : Str} {params : Arguments} {body : List Stmt} {scope : Scope} {fs : List Str} {mg mb : Str → Option Value} {us : List Value}
    (T : ExTxt prog K C fI qual params body scope fs) (hb : ∃ b0 ss msg, body = b0 :: ss ∧ IsSup qual scope msg b0 ∧ IsAsgs ss fs) (hfs : fs ≠ []) (hl : fs.length = us.length)
    (nd : fs.Nodup) (hz : fs.length ≤ 1000) (hself : selfN ∉ fs)
    (hhead : ∃ ar : Arg, (params.posonlyargs ++ params.args).head? = some ar ∧ ar.arg = selfN)
    (hloc : ∀ f ∈ selfN :: fs, scope.names.lookup f = some .local ∧ (f == ("__debug__" : Str)) = false) (hsup : scope.names.lookup ("super" : Str) = some .globalImplicit) (hcl : scope.names.lookup ("__class__" : Str) = some .free)
    (hcell : ∀ x ∈ scope.names, x.2 ≠ .cell) (hco : scope.isCoroutine = false) (hgen : scope.isGenerator = false) (hk : scope.kind = .function)
    (htop : (prog.main.scope.names.lookup ("super" : Str)).isSome = false)
    (hbind : ∀ (x : Addr) (doc pm : Value) (an : Option Addr) (cdv ct : Value) (cc : Addr), bindArgs (ksFn "__init__" qual params body scope .none .none doc pm an cdv ct cc) ⟨.ref x :: us, []⟩ = pure ((selfN, .ref x) :: fs.zip us))
    (X : K.In s.heap) (hlim : s.heap.NoLimit) (hG : s.heap.Ns mainGlobals mg) (hms : mg "super" = none) (hB : s.heap.Ns builtinsNs mb) (hmb : mb "super" = some (.type "super"))
    (hroom : A.depth + 1 < recursionLimit)
    (hq : ∀ h' tk e d, OwnMade s.heap h' e C d (fun y => (fs.zip us).lookup y) → R (.ok (.ret (.ref e))) { s with heap := h', toks := tk }) :
    codeAny (model prog w) A (.call (.ref C) ⟨us, []⟩) R s := by
  obtain ⟨nm, N', qn, bs, bm, hdct, sn, sub, ab, col, dd, k0, k1', k2', k3', k5, hC, hT⟩ := excInit_of X T.cls
  obtain ⟨hp, g, dr, tk, os⟩ := s
  have k : ∀ b o, hp.get? b = some o → ((hp.push (kdv_tup us)).push (excO C hp.objs.size)).get? b = some o := fun b o e => Heap.get?_push_of_some _ (Heap.get?_push_of_some _ e)
  have hget : ((hp.push (kdv_tup us)).push (excO C hp.objs.size)).get? (hp.objs.size + 1) = some (excO C hp.objs.size) := by heap_get
  have hnx : K.lookup (hp.objs.size + 1) = none := none_big X (Nat.le_succ _)
  refine call_own PySem.F.excBase_ValueError hT hC (looks_findIn X T.iC) (fun self => bind_fn X self T.tC) (by rw [← hl, sizeLine_eq]; omega) ?_
  refine ex_init (s := ⟨(hp.push (kdv_tup us)).push (excO C hp.objs.size), g, dr, tk, os⟩) T hb hfs hl nd hz hself hhead hloc hsup hcl hcell hco hgen hk htop (hbind _) (X.keeps k) (hlim.keeps k) (hG.keeps k) hms (hB.keeps k) hmb hget hnx ?_ fun h' tk' dx t1 S => ?_
  · show A.depth + 1 < recursionLimit
    exact hroom
  · have old : ∀ b o, hp.get? b = some o → h'.get? b = some o := fun b o e => S.keep b o (Nat.ne_of_lt (Nat.lt_succ_of_lt (Heap.lt_size e))) (k b o e)
    have z : hp.objs.size + 1 + 1 ≤ dx := by
      have q := S.dbig
      first
        | exact q
        | (rw [Heap.size_push, Heap.size_push] at q; exact q)
    exact ⟨rfl, hq h' tk' (hp.objs.size + 1) dx ⟨old, Nat.le_succ _, ⟨_, _, S.obj, rfl, rfl, rfl, rfl⟩, Nat.le_trans (Nat.le_trans (Nat.le_succ _) (Nat.le_succ _)) z, S.dne, S.ns⟩⟩
end
end PxE
end PySem
namespace L2
open PySem PySem.Spec PyProof.Rows PySem.PxE
theorem relO_zip {f : Str} : ∀ {fs : List Str} {vs : List V} {us : List Value}, Vals vs us → RelO ((fs.zip vs).lookup f) ((fs.zip us).lookup f)
  | [], _, _, _ => by simp [List.lookup]; trivial
  | _ :: _, [], [], .nil => by simp [List.lookup]; trivial
  | k :: fs, v :: vs, u :: us, .cons r t => by
    rw [List.zip_cons_cons, List.zip_cons_cons]
    by_cases e : f = k
    · subst e
      simp only [List.lookup_cons_self]
      exact r
    · simp only [List.lookup_cons, beq_eq_false_iff_ne.mpr e]
      exact relO_zip t
/-- the text's exception class at C, named x, with its fields -/
structure ExcD (P : Program) (K : PySem.W.Frag) (mg : Str → Option Value) (x : Str) (C : Addr) (fs : List Str) : Prop where
  ex : ∃ (fI : Addr) (qual : Str) (params : Arguments) (body : List Stmt) (scope : Scope), ExTxt P K C fI qual params body scope fs ∧ (∃ b0 ss msg, body = b0 :: ss ∧ IsSup qual scope msg b0 ∧ IsAsgs ss fs) ∧
    (∃ ar : Arg, (params.posonlyargs ++ params.args).head? = some ar ∧ ar.arg = selfN) ∧
    (∀ f ∈ selfN :: fs, scope.names.lookup f = some .local ∧ (f == ("__debug__" : Str)) = false) ∧ scope.names.lookup ("super" : Str) = some .globalImplicit ∧ scope.names.lookup ("__class__" : Str) = some .free ∧
    (∀ x ∈ scope.names, x.2 ≠ .cell) ∧ scope.isCoroutine = false ∧ scope.isGenerator = false ∧ scope.kind = .function ∧
    (∀ (us : List Value), us.length = fs.length → ∀ (x : Addr) (doc pm : Value) (an : Option Addr) (cdv ct : Value) (cc : Addr), bindArgs (PySem.W.ksFn "__init__" qual params body scope .none .none doc pm an cdv ct cc) ⟨.ref x :: us, []⟩ = pure ((selfN, .ref x) :: fs.zip us))
  nf : fs ≠ [] ∧ fs.Nodup ∧ fs.length ≤ 1000 ∧ selfN ∉ fs
  top : (P.main.scope.names.lookup ("super" : Str)).isSome = false
  gC : mg x = some (.ref C)
  gs : mg "super" = none
  kC : PySem.W.keepIn K (.ref C) = true
section
variable {X : Cx} {C : Addr} {fs : List Str} {x : Str}
/-- C(e, ..), a new exception -/
def tMkX (C : Addr) (fs : List Str) (ta : TA) : St → Hp → XK → Prop := fun σ H Q => ta σ H fun vs H1 => vs.length = fs.length ∧ ∀ d, H1 d = none → Q (.ref C) (some d) (upd H1 d (.xd (fs.zip vs)))
theorem pmk_x {a : Expr} {es : List Expr} {ta : TA} {p pos : Pos} {k : Nat} (D : ExcD X.prog X.K X.mg x C fs) (hr : Room k X.A) (ha : PA X (a :: es) ta) (hg : Gl X x)
    (hd : (x == ("__debug__" : Str)) = false := by decide) (he : starEach (a :: es) X.env = (false, eval a X.env) :: starEach es X.env := by rfl) (hpl : (backTo pos (starEach es X.env)).any (·.1) = false := by rfl) :
    PMk X (.Call (.Name x p) (a :: es) [] pos) (tMkX C fs ta) := by
  intro pins s σ H Q I h
  obtain ⟨fI, qual, params, body, scope, T, hb, hhead, hloc, hsup, hcl, hcell, hco, hgen, hk, hbind⟩ := D.ex
  refine wpAny_Call_Name_kw (ld_glob I hg D.gC ?_ hd)
  refine PySem.W.callWith_K (h₀ := X.base) I.ok.mod.kin D.kC (thn (ha.run pos pins s σ H _ I h) fun us s1 hh => ?_) he hpl
  obtain ⟨vs, H1, I1, r1, hl, q1⟩ := hh
  refine ⟨I1.kIn, ?_⟩
  show wpAny _ _ (call (.ref C) us) _ _ _
  obtain ⟨mb, hB, hmb⟩ := I1.ok.mod.blt
  have hlim := I1.nolimit
  have hG := I1.ok.mod.glob.keeps I1.bk
  have hB2 := hB.keeps I1.bk
  have hX := I1.kIn
  obtain ⟨hp, g, dr, tk, os⟩ := s1
  refine wpAny_call (ex_made T hb D.nf.1 (by rw [← r1.length, hl]) D.nf.2.1 D.nf.2.2.1 D.nf.2.2.2 hhead hloc hsup hcl hcell hco hgen hk D.top (hbind us (by rw [← r1.length, hl])) hX hlim hG D.gs hB2 ((hmb _ (by decide)).trans (by decide +kernel)) (by have := hr.dp; omega) fun h' tk' e d M => ?_)
  show MkP X pins σ Q (.ref e) ⟨h', g, dr, tk', os⟩
  obtain ⟨oe, fv, hoe, hc, hd, hdat, h1⟩ := M.obj
  have hns := M.ns
  obtain ⟨G', g1, g2⟩ := restrict h' fun b => decide (b ≠ e)
  have gk : ∀ b, b ≠ e → G'.get? b = h'.get? b := fun b hb => g1 b (decide_eq_true hb)
  have ge : G'.get? e = none := g2 e (by simp)
  have old : ∀ b o, hp.get? b = some o → G'.get? b = some o := fun b o q => (gk b (Nat.ne_of_lt (Nat.lt_of_lt_of_le (Heap.lt_size q) M.new))).trans (M.keep b o q)
  have ob : ObjOk X.prog X.w (upd H1 d (.xd (fs.zip vs))) G' d (.xd (fs.zip vs)) :=
    ⟨_, hns.at (fun o q => (gk d M.dne).trans q), fun f => relO_zip r1⟩
  have J : Inv X pins σ (upd H1 d (.xd (fs.zip vs))) ⟨G', g, dr, tk', os⟩ := I1.laid (t' := tk') old M.dbig ob
  refine ⟨e, oe, fv, ⟨G', g, dr, tk', os⟩, _, .ref C, some d, rfl, J, fun b o q => ?_, ge, hoe, ⟨hc, hd⟩, hdat, h1, ?_, rfl, I1.bare, raises_own T.exC T.tyC, q1 d (I1.hok.fresh M.dbig)⟩
  · by_cases hb : b = e
    · have q' : G'.get? b = some o := q
      rw [hb, ge] at q'; cases q'
    · exact (gk b hb).symm.trans q
  · rw [upd_ne (Ne.symm M.dne)]
    exact I1.hok.fresh M.new
end
end L2

namespace Py
open PySem L2

/-- data: shared things; o..: owned ones (lists, dicts, instances that nobody else knows) -/
inductive D where
  | non | bl (b : Bool) | int (i : Int) | str (x : String) | cls (c : String) | sei (xs : List Int)
  | scr (ns : List Int) | tup (xs : List D) | lst (xs : List D) | dic (ks : List Key) (xs : List D) | dit (ks : List (List Key)) (xs : List D) | dig (ks : List NestedKey) (xs : List D) | ins (c : String) (ns : List String) (xs : List D)
  | olst (xs : List D) | odic (ks : List Key) (xs : List D) | odit (ks : List (List Key)) (xs : List D) | odig (ks : List NestedKey) (xs : List D) | oins (c : String) (ns : List String) (xs : List D)

abbrev so : String → Str := Str.ofString
theorem so_inj {x y : String} (h : so x = so y) : x = y := by
  unfold so at h
  rw [Str.ofString_eq_toList, Str.ofString_eq_toList] at h
  injection h with h
  have h2 : x.toList.map Char.toNat = y.toList.map Char.toNat := by
    have := congrArg Array.toList h
    simpa using this
  have h3 : x.toList = y.toList := by
    have inj : ∀ a b : Char, a.toNat = b.toNat → a = b := fun a b e => Char.ext (UInt32.toNat_inj.mp e)
    revert h2
    generalize x.toList = l
    generalize y.toList = r
    intro h2
    induction l generalizing r with
    | nil => cases r with
      | nil => rfl
      | cons b r => cases h2
    | cons a l ih => cases r with
      | nil => cases h2
      | cons b r =>
        rw [List.map_cons, List.map_cons] at h2
        injection h2 with e1 e2
        rw [inj _ _ e1, ih r e2]
  exact String.toList_inj.mp h3

/-- what is said of the text's classes: data attributes, constants, who derives from whom -/
structure Tbl where
  fOk : String → String → Bool
  con : String → String → Option D
  sub : String → String → Bool
  /-- the def that a class's name (a method, a getter) stands for -/
  res : String → String → Option String := fun _ _ => none
  /-- the field whose list a class's __iter__ walks -/
  it : String → Option String := fun _ => none
  /-- of exception classes: who derives from whom -/
  xsub : String → String → Bool := fun _ _ => false
structure Wd (T : Tbl) where
  K : PySem.W.Frag
  P : Program
  w : World
  cA : String → Addr
  has : String → Prop
  cl : ∀ c, has c → Cls K (cA c)
  na : ∀ c f, has c → T.fOk c f = true → NoAttr K (cA c) (so f)
  isT : ∀ c, has c → PySem.W.findIn K (.ref (cA c)) "__class__" = some (some (.builtin "object.__class__")) ∧
    PySem.W.specialIn K (.builtin "object.__class__") "__get__" = some (some (.builtin "getset_descriptor.__get__")) ∧ PySem.W.takesIn K (.builtin "object.__class__") = some true ∧ PySem.W.mroIn K (cA c) (.type "object") = some true
  isTO : ∀ t c, t ∈ ["NoneType", "bool", "int", "str", "list", "tuple", "dict"] → has c → PySem.W.kitOne K (.type t) (.ref (cA c)) = some false
  isOT : ∀ c t, has c → t ∈ ["int", "bool", "str", "list", "tuple", "dict"] → PySem.W.kitOne K (.ref (cA c)) (.type t) = some false
  isOO : ∀ c d, has c → has d → PySem.W.kitOne K (.ref (cA c)) (.ref (cA d)) = some (T.sub c d)
  /-- the exception classes -/
  hasX : String → Prop
  xm : ∀ c d, hasX c → hasX d → PySem.W.exmOne K (.ref (cA c)) (.ref (cA d)) = some (T.xsub c d)
  xk : ∀ c d, hasX c → hasX d → PySem.W.kitOne K (.ref (cA c)) (.ref (cA d)) = some (T.xsub c d)
  xv : ∀ c, hasX c → PySem.W.kitOne K (.ref (cA c)) (.type "ValueError") = some true
  xc : ∀ c, hasX c → ExcC K (cA c)

def nkD : NestedKey → D
  | .none => .non
  | .num i => .int i
  | .text x => .str (String.ofList (x.cps.toList.map Char.ofNat))
  | .tup ks => .tup (nkDs ks)
where nkDs : List NestedKey → List D
  | [] => []
  | k :: ks => nkD k :: nkDs ks
/-- a dict of nested keys: its entries -/
def digP (P : Program) (w : World) (a : Addr) (ks : List NestedKey) (kas : List Addr) (vs : List V) : Heap → Prop := fun h =>
  (a == sysModules) = false ∧ ∃ us : List Value, Vals vs us ∧ ks.length = kas.length ∧ ks.length = us.length ∧ us.length ≤ sizeLine ∧
    ∃ o es ep, h.get? a = some o ∧ o.ExactDict ∧ o.data = .dict es ep ∧ es.toList = (ks.zip (kas.zip us)).map (entryOfKey (nestedKind P w)) ∧ ks.Nodup

section
variable {T : Tbl} (W : Wd T)
mutual
inductive Shr : Hp → D → V → Prop
  | non {F} : Shr F .non .non
  | bl {F b} : Shr F (.bl b) (.bl b)
  | int {F i} : Shr F (.int i) (.int i)
  | str {F x} : Shr F (.str x) (.str (so x))
  | cls {F c} : W.has c → Shr F (.cls c) (.ref (W.cA c))
  | sei {F a xs} : F a = some (.set (fun i => decide (i ∈ xs)) xs.length) → xs.Pairwise (· < ·) → Shr F (.sei xs) (.ref a)
  | scr {F a ns} : SqL W.K F a (ns.map V.int) → Shr F (.scr ns) (.ref a)
  | tup {F a xs vs} : F a = some (.tup vs) → Shrs F xs vs → Shr F (.tup xs) (.ref a)
  | lst {F a xs vs} : F a = some (.lst vs) → Shrs F xs vs → Shr F (.lst xs) (.ref a)
  | dic {F a ks xs vs} : Rd F a (.dK (ks.zip vs)) → ks.length = vs.length → ks.Nodup → Shrs F xs vs → Shr F (.dic ks xs) (.ref a)
  | dit {F a ks xs vs} : Rd F a (.dT (ks.zip vs)) → ks.length = vs.length → ks.Nodup → Shrs F xs vs → Shr F (.dit ks xs) (.ref a)
  | dig {F a ks kas xs vs} : F a = some (.ext (digP W.P W.w a ks kas vs)) → Shrs F (ks.map nkD) (kas.map V.ref) → ks.length = vs.length → Shrs F xs vs → Shr F (.dig ks xs) (.ref a)
  | ins {F a c dx ns xs vs} : F a = some (.ins (W.cA c) dx ((ns.map so).zip vs)) → W.has c → ns.length = vs.length → Shrs F xs vs → Shr F (.ins c ns xs) (.ref a)
inductive Shrs : Hp → List D → List V → Prop
  | nil {F} : Shrs F [] []
  | cons {F d v ds vs} : Shr F d v → Shrs F ds vs → Shrs F (d :: ds) (v :: vs)
end
mutual
/-- owned in H (over the shared F), with the addresses that are owned -/
inductive Own : Hp → Hp → D → V → List Addr → Prop
  | sh {F H d v} : Shr W F d v → Own F H d v []
  | olst {F H a xs vs L} : H a = some (.lst vs) → Owns F H xs vs L → Own F H (.olst xs) (.ref a) (a :: L)
  | odic {F H a ks xs vs L} : H a = some (.dK (ks.zip vs)) → ks.length = vs.length → ks.Nodup → Owns F H xs vs L → Own F H (.odic ks xs) (.ref a) (a :: L)
  | odit {F H a ks xs vs L} : H a = some (.dT (ks.zip vs)) → ks.length = vs.length → ks.Nodup → Owns F H xs vs L → Own F H (.odit ks xs) (.ref a) (a :: L)
  | odig {F H a ks kas xs vs L} : H a = some (.ext (digP W.P W.w a ks kas vs)) → Shrs W F (ks.map nkD) (kas.map V.ref) → ks.length = vs.length → Owns F H xs vs L → Own F H (.odig ks xs) (.ref a) (a :: L)
  | oins {F H a c dx ns xs vs L} : H a = some (.ins (W.cA c) dx ((ns.map so).zip vs)) → W.has c → ns.length = vs.length → Owns F H xs vs L → Own F H (.oins c ns xs) (.ref a) (a :: L)
inductive Owns : Hp → Hp → List D → List V → List Addr → Prop
  | nil {F H} : Owns F H [] [] []
  | cons {F H d v ds vs L M} : Own F H d v L → Owns F H ds vs M → Owns F H (d :: ds) (v :: vs) (L ++ M)
end
end
section
variable {T : Tbl} {W : Wd T} {F F' H H' : Hp}
theorem rd_same {F F' : Hp} (e : Same F F') {a : Addr} {u : HO} (h : Rd F a u) : Rd F' a u := h.elim (fun h => .inl (e _ _ h)) fun ⟨o, h⟩ => .inr ⟨o, e _ _ h⟩
mutual
theorem Shr.mono {F F' : Hp} (e : Same F F') : ∀ {d : D} {v : V}, Shr W F d v → Shr W F' d v
  | _, _, .non => .non
  | _, _, .bl => .bl
  | _, _, .int => .int
  | _, _, .str => .str
  | _, _, .cls h => .cls h
  | _, _, .sei h n => .sei (e _ _ h) n
  | _, _, .scr h => .scr (e.seq h)
  | _, _, .tup h hs => .tup (e _ _ h) (Shrs.mono e hs)
  | _, _, .lst h hs => .lst (e _ _ h) (Shrs.mono e hs)
  | _, _, .dic h l n hs => .dic (rd_same e h) l n (Shrs.mono e hs)
  | _, _, .dit h l n hs => .dit (rd_same e h) l n (Shrs.mono e hs)
  | _, _, .dig h k l hs => .dig (e _ _ h) (Shrs.mono e k) l (Shrs.mono e hs)
  | _, _, .ins h c l hs => .ins (e _ _ h) c l (Shrs.mono e hs)
theorem Shrs.mono {F F' : Hp} (e : Same F F') : ∀ {d : List D} {v : List V}, Shrs W F d v → Shrs W F' d v
  | _, _, .nil => .nil
  | _, _, .cons h t => .cons (Shr.mono e h) (Shrs.mono e t)
end
theorem Shrs.length {F : Hp} : ∀ {ds : List D} {vs : List V}, Shrs W F ds vs → ds.length = vs.length
  | _, _, .nil => rfl
  | _, _, .cons _ t => congrArg (· + 1) (Shrs.length t)
theorem Shrs.get {F : Hp} : ∀ {ds : List D} {vs : List V} {i : Nat} {d : D}, Shrs W F ds vs → ds[i]? = some d → ∃ v, vs[i]? = some v ∧ Shr W F d v
  | _, _, _, _, .nil, e => by simp at e
  | _, _, 0, _, .cons h _, e => by simp at e; subst e; exact ⟨_, rfl, h⟩
  | _, _, i + 1, _, .cons _ t, e => Shrs.get (i := i) t (by simpa using e)
theorem Shrs.getV {F : Hp} : ∀ {ds : List D} {vs : List V} {i : Nat} {v : V}, Shrs W F ds vs → vs[i]? = some v → ∃ d, ds[i]? = some d ∧ Shr W F d v
  | _, _, _, _, .nil, e => by simp at e
  | _, _, 0, _, .cons h _, e => by simp at e; subst e; exact ⟨_, rfl, h⟩
  | _, _, i + 1, _, .cons _ t, e => Shrs.getV (i := i) t (by simpa using e)
theorem Shrs.append {F : Hp} : ∀ {ds es : List D} {vs ws : List V}, Shrs W F ds vs → Shrs W F es ws → Shrs W F (ds ++ es) (vs ++ ws)
  | _, _, _, _, .nil, h => h
  | _, _, _, _, .cons h t, q => .cons h (Shrs.append t q)
mutual
/-- the same where all owned addresses bear the same, and the shared part grew -/
theorem Own.frame {F F' H H' : Hp} (e : Same F F') : ∀ {d : D} {v : V} {L : List Addr}, (∀ a ∈ L, ∀ o, H a = some o → H' a = some o) → Own W F H d v L → Own W F' H' d v L
  | _, _, _, _, .sh h => .sh (h.mono e)
  | _, _, _, k, .olst h t => .olst (k _ (List.mem_cons_self ..) _ h) (Owns.frame e (fun a m => k a (List.mem_cons_of_mem _ m)) t)
  | _, _, _, k, .odic h l n t => .odic (k _ (List.mem_cons_self ..) _ h) l n (Owns.frame e (fun a m => k a (List.mem_cons_of_mem _ m)) t)
  | _, _, _, k, .odit h l n t => .odit (k _ (List.mem_cons_self ..) _ h) l n (Owns.frame e (fun a m => k a (List.mem_cons_of_mem _ m)) t)
  | _, _, _, k, .odig h s l t => .odig (k _ (List.mem_cons_self ..) _ h) (s.mono e) l (Owns.frame e (fun a m => k a (List.mem_cons_of_mem _ m)) t)
  | _, _, _, k, .oins h c l t => .oins (k _ (List.mem_cons_self ..) _ h) c l (Owns.frame e (fun a m => k a (List.mem_cons_of_mem _ m)) t)
theorem Owns.frame {F F' H H' : Hp} (e : Same F F') : ∀ {d : List D} {v : List V} {L : List Addr}, (∀ a ∈ L, ∀ o, H a = some o → H' a = some o) → Owns W F H d v L → Owns W F' H' d v L
  | _, _, _, _, .nil => .nil
  | _, _, _, k, .cons h t => .cons (Own.frame e (fun a m => k a (List.mem_append_left _ m)) h) (Owns.frame e (fun a m => k a (List.mem_append_right _ m)) t)
end
mutual
theorem Own.lives {F H : Hp} : ∀ {d : D} {v : V} {L : List Addr}, Own W F H d v L → ∀ a ∈ L, ∃ o, H a = some o
  | _, _, _, .sh _, a, m => nomatch m
  | _, _, _, .olst h t, a, m => by
    rcases List.mem_cons.mp m with rfl | m
    · exact ⟨_, h⟩
    · exact Owns.lives t a m
  | _, _, _, .odic h _ _ t, a, m => by
    rcases List.mem_cons.mp m with rfl | m
    · exact ⟨_, h⟩
    · exact Owns.lives t a m
  | _, _, _, .odit h _ _ t, a, m => by
    rcases List.mem_cons.mp m with rfl | m
    · exact ⟨_, h⟩
    · exact Owns.lives t a m
  | _, _, _, .odig h _ _ t, a, m => by
    rcases List.mem_cons.mp m with rfl | m
    · exact ⟨_, h⟩
    · exact Owns.lives t a m
  | _, _, _, .oins h _ _ t, a, m => by
    rcases List.mem_cons.mp m with rfl | m
    · exact ⟨_, h⟩
    · exact Owns.lives t a m
theorem Owns.lives {F H : Hp} : ∀ {d : List D} {v : List V} {L : List Addr}, Owns W F H d v L → ∀ a ∈ L, ∃ o, H a = some o
  | _, _, _, .nil, a, m => nomatch m
  | _, _, _, .cons h t, a, m => (List.mem_append.mp m).elim (fun m => Own.lives h a m) fun m => Owns.lives t a m
end
theorem Owns.length {F H : Hp} : ∀ {ds : List D} {vs : List V} {L : List Addr}, Owns W F H ds vs L → ds.length = vs.length
  | _, _, _, .nil => rfl
  | _, _, _, .cons _ t => congrArg (· + 1) (Owns.length t)

mutual
/-- as shared data -/
def fz : D → D
  | .olst xs => .lst (fzs xs)
  | .odic ks xs => .dic ks (fzs xs)
  | .odit ks xs => .dit ks (fzs xs)
  | .odig ks xs => .dig ks (fzs xs)
  | .oins C ns xs => .ins C ns (fzs xs)
  | d => d
def fzs : List D → List D
  | [] => []
  | d :: ds => fz d :: fzs ds
end
theorem fzs_eq : ∀ ds : List D, fzs ds = ds.map fz
  | [] => by rw [fzs]; rfl
  | d :: ds => by rw [fzs, fzs_eq ds]; rfl
/-- is it shared data (at its root, which for related data means throughout) -/
def isSh : D → Bool
  | .olst _ => false
  | .odic _ _ => false
  | .odit _ _ => false
  | .odig _ _ => false
  | .oins _ _ _ => false
  | _ => true
theorem fz_isSh {d : D} (h : isSh d = true) : fz d = d := by
  cases d <;> first | (cases h; done) | simp [fz]
theorem fz_shr {F : Hp} {d : D} {v : V} (h : Shr W F d v) : fz d = d := by
  refine fz_isSh ?_
  cases h <;> rfl
theorem fzs_shr {F : Hp} : ∀ {d : List D} {v : List V}, Shrs W F d v → fzs d = d
  | _, _, .nil => by rw [fzs]
  | _, _, .cons h t => by rw [fzs, fz_shr h, fzs_shr t]
theorem Shr.isSh {F : Hp} {d : D} {v : V} (h : Shr W F d v) : isSh d = true := by cases h <;> rfl
theorem Shrs.isSh {F : Hp} : ∀ {d : List D} {v : List V}, Shrs W F d v → d.all Py.isSh = true
  | _, _, .nil => rfl
  | _, _, .cons h t => by rw [List.all_cons, h.isSh, t.isSh]; rfl
mutual
/-- what is owned may be read as shared -/
theorem Own.view {F H G : Hp} (e : Same F G) : ∀ {d : D} {v : V} {L : List Addr}, (∀ a ∈ L, ∀ o, H a = some o → G a = some o) → Own W F H d v L → Shr W G (fz d) v
  | _, _, _, _, .sh h => by rw [fz_shr h]; exact h.mono e
  | _, _, _, k, .olst h t => by rw [fz]; exact .lst (k _ (List.mem_cons_self ..) _ h) (Owns.view e (fun a m => k a (List.mem_cons_of_mem _ m)) t)
  | _, _, _, k, .odic h l n t => by rw [fz]; exact .dic (.inl (k _ (List.mem_cons_self ..) _ h)) l n (Owns.view e (fun a m => k a (List.mem_cons_of_mem _ m)) t)
  | _, _, _, k, .odit h l n t => by rw [fz]; exact .dit (.inl (k _ (List.mem_cons_self ..) _ h)) l n (Owns.view e (fun a m => k a (List.mem_cons_of_mem _ m)) t)
  | _, _, _, k, .odig h s l t => by rw [fz]; exact .dig (k _ (List.mem_cons_self ..) _ h) (s.mono e) l (Owns.view e (fun a m => k a (List.mem_cons_of_mem _ m)) t)
  | _, _, _, k, .oins h c l t => by rw [fz]; exact .ins (k _ (List.mem_cons_self ..) _ h) c l (Owns.view e (fun a m => k a (List.mem_cons_of_mem _ m)) t)
theorem Owns.view {F H G : Hp} (e : Same F G) : ∀ {d : List D} {v : List V} {L : List Addr}, (∀ a ∈ L, ∀ o, H a = some o → G a = some o) → Owns W F H d v L → Shrs W G (fzs d) v
  | _, _, _, _, .nil => by rw [fzs]; exact .nil
  | _, _, _, k, .cons h t => by rw [fzs]; exact .cons (Own.view e (fun a m => k a (List.mem_append_left _ m)) h) (Owns.view e (fun a m => k a (List.mem_append_right _ m)) t)
end
/-- shared things as a list of owned ones -/
theorem Shrs.owns {F H : Hp} : ∀ {ds : List D} {vs : List V}, Shrs W F ds vs → Owns W F H ds vs []
  | _, _, .nil => .nil
  | _, _, .cons h t => Owns.cons (L := []) (M := []) (.sh h) (Shrs.owns t)
theorem Own.shr {F H : Hp} {d : D} {v : V} {L : List Addr} (o : Own W F H d v L) (h : Py.isSh d = true) : Shr W F d v := by
  cases o with
  | sh y => exact y
  | olst => cases h
  | odic => cases h
  | odit => cases h
  | odig => cases h
  | oins => cases h
theorem Own.shNil {F H : Hp} {d : D} {v : V} {L : List Addr} (o : Own W F H d v L) (h : Py.isSh d = true) : L = [] := by
  cases o with
  | sh y => rfl
  | olst => cases h
  | odic => cases h
  | odit => cases h
  | odig => cases h
  | oins => cases h
theorem Owns.shrs {F H : Hp} : ∀ {ds : List D} {vs : List V} {L : List Addr}, Owns W F H ds vs L → ds.all Py.isSh = true → Shrs W F ds vs
  | _, _, _, .nil, _ => .nil
  | _, _, _, .cons o t, h => by
    rw [List.all_cons, Bool.and_eq_true] at h
    exact .cons (o.shr h.1) (t.shrs h.2)
end
end Py

namespace Py
open PySem L2

abbrev Env := List (Option D)
inductive Slots {T : Tbl} (W : Wd T) : Hp → Hp → Py.Env → St → List Addr → Prop
  | nil {F H} : Slots W F H [] [] []
  | so {F H d v env σ L M} : Own W F H d v L → Slots W F H env σ M → Slots W F H (some d :: env) (some v :: σ) (L ++ M)
  | no {F H o env σ M} : Slots W F H env σ M → Slots W F H (none :: env) (o :: σ) M
section
variable {T : Tbl} {W : Wd T} {F F' H H' : Hp}
theorem Slots.frame (e : Same F F') : ∀ {env : Py.Env} {σ : St} {L : List Addr}, (∀ a ∈ L, ∀ o, H a = some o → H' a = some o) → Slots W F H env σ L → Slots W F' H' env σ L
  | _, _, _, _, .nil => .nil
  | _, _, _, k, .so h t => .so (h.frame e fun a m => k a (List.mem_append_left _ m)) (t.frame e fun a m => k a (List.mem_append_right _ m))
  | _, _, _, k, .no t => .no (t.frame e k)
theorem Slots.lives : ∀ {env : Py.Env} {σ : St} {L : List Addr}, Slots W F H env σ L → ∀ a ∈ L, ∃ o, H a = some o
  | _, _, _, .nil, _, m => nomatch m
  | _, _, _, .so h t, a, m => (List.mem_append.mp m).elim (fun m => h.lives a m) fun m => t.lives a m
  | _, _, _, .no t, a, m => t.lives a m
theorem Slots.length : ∀ {env : Py.Env} {σ : St} {L : List Addr}, Slots W F H env σ L → env.length = σ.length
  | _, _, _, .nil => rfl
  | _, _, _, .so _ t => congrArg (· + 1) t.length
  | _, _, _, .no t => congrArg (· + 1) t.length
/-- a slot is taken out -/
theorem Slots.take : ∀ {env : Py.Env} {σ : St} {L : List Addr} {i : Nat} {d : D}, Slots W F H env σ L → L.Nodup → env[i]? = some (some d) →
    ∃ v Li Lr, σ[i]? = some (some v) ∧ Own W F H d v Li ∧ Slots W F H (env.set i none) σ Lr ∧ (Li ++ Lr).Nodup ∧ (∀ a, a ∈ Li ∨ a ∈ Lr ↔ a ∈ L)
  | _, _, _, _, _, .nil, _, e => by simp at e
  | _, _, _, 0, _, .so (L := L1) (M := M1) h t, nd, e => by
    simp at e; subst e
    exact ⟨_, L1, M1, rfl, h, .no t, nd, fun a => List.mem_append.symm⟩
  | _, _, _, i + 1, _, .so (L := L1) (M := M1) h t, nd, e => by
    rw [List.nodup_append] at nd
    obtain ⟨n1, n2, n3⟩ := nd
    obtain ⟨v, Li, Lr, e1, o, s, nd', m⟩ := t.take (i := i) n2 (by simpa using e)
    refine ⟨v, Li, L1 ++ Lr, by simpa using e1, o, .so h s, ?_, fun a => ?_⟩
    · rw [List.nodup_append] at nd' ⊢
      obtain ⟨p1, p2, p3⟩ := nd'
      refine ⟨p1, ?_, ?_⟩
      · rw [List.nodup_append]
        exact ⟨n1, p2, fun a ha b hb => n3 a ha b ((m b).mp (.inr hb))⟩
      · intro a ha b hb
        rcases List.mem_append.mp hb with hb | hb
        · exact fun q => n3 b hb a ((m a).mp (.inl ha)) q.symm
        · exact p3 a ha b hb
    · simp only [List.mem_append, ← m a]
      constructor
      · rintro (h | h | h)
        · exact .inr (.inl h)
        · exact .inl h
        · exact .inr (.inr h)
      · rintro (h | h | h)
        · exact .inr (.inl h)
        · exact .inl h
        · exact .inr (.inr h)
  | _, _, _, 0, _, .no t, nd, e => by simp at e
  | _, _, _, i + 1, _, .no (o := o1) (M := M1) t, nd, e => by
    obtain ⟨v, Li, Lr, e1, o, s, nd', m⟩ := t.take (i := i) nd (by simpa using e)
    exact ⟨v, Li, Lr, by simpa using e1, o, .no s, nd', m⟩
/-- a slot is filled (what it held is let go) -/
theorem Slots.put : ∀ {env : Py.Env} {σ : St} {L : List Addr} {i : Nat} {d : D} {v : V} {Ld : List Addr}, Slots W F H env σ L → Own W F H d v Ld → (Ld ++ L).Nodup → i < env.length →
    ∃ L', Slots W F H (env.set i (some d)) (σ.set i (some v)) L' ∧ L'.Nodup ∧ (∀ a ∈ L', a ∈ Ld ∨ a ∈ L)
  | _, _, _, _, _, _, _, .nil, _, _, hi => by simp at hi
  | _, _, _, 0, d, v, Ld, .so (L := L1) (M := M1) h t, o, nd, _ => by
    refine ⟨Ld ++ M1, .so o t, ?_, fun a m => ?_⟩
    · rw [List.nodup_append] at nd ⊢
      obtain ⟨n1, n2, n3⟩ := nd
      rw [List.nodup_append] at n2
      exact ⟨n1, n2.2.1, fun a ha b hb => n3 a ha b (List.mem_append_right _ hb)⟩
    · rcases List.mem_append.mp m with m | m
      · exact .inl m
      · exact .inr (List.mem_append_right _ m)
  | _, _, _, 0, d, v, Ld, .no (M := M1) t, o, nd, _ => by
    exact ⟨Ld ++ M1, .so o t, nd, fun a m => List.mem_append.mp m⟩
  | _, _, _, i + 1, d, v, Ld, .so (L := L1) (M := M1) h t, o, nd, hi => by
    rw [List.nodup_append] at nd
    obtain ⟨n1, n2, n3⟩ := nd
    rw [List.nodup_append] at n2
    obtain ⟨p1, p2, p3⟩ := n2
    obtain ⟨L', s, nd', m⟩ := t.put (i := i) o (by
      rw [List.nodup_append]
      exact ⟨n1, p2, fun a ha b hb => n3 a ha b (List.mem_append_right _ hb)⟩) (by simpa using hi)
    refine ⟨L1 ++ L', .so h s, ?_, fun a ha => ?_⟩
    · rw [List.nodup_append]
      refine ⟨p1, nd', fun a ha b hb => ?_⟩
      rcases m b hb with q | q
      · exact fun z => n3 b q a (List.mem_append_left _ ha) z.symm
      · exact p3 a ha b q
    · rcases List.mem_append.mp ha with q | q
      · exact .inr (List.mem_append_left _ q)
      · rcases m a q with q | q
        · exact .inl q
        · exact .inr (List.mem_append_right _ q)
  | _, _, _, i + 1, d, v, Ld, .no (M := M1) t, o, nd, hi => by
    obtain ⟨L', s, nd', m⟩ := t.put (i := i) o nd (by simpa using hi)
    exact ⟨L', .no s, nd', m⟩

/-- how a state began: shared part, heap, owned addresses, slots that stay -/
structure Ent where
  F0 : Hp
  H0 : Hp
  L0 : List Addr
  pins : List (Nat × V)
structure Rel {T : Tbl} (W : Wd T) (e : Ent) (env : Py.Env) (F : Hp) (σ : St) (H : Hp) (L : List Addr) : Prop where
  sF : Same F H
  slots : Slots W F H env σ L
  nd : L.Nodup
  dj : ∀ a ∈ L, F a = none
  s0 : Same e.F0 F
  nw : ∀ a o, F a = some o → e.F0 a = some o ∨ e.H0 a = none ∨ a ∈ e.L0
  fr : ∀ a o, a ∉ e.L0 → e.H0 a = some o → H a = some o
  ln : ∀ a ∈ L, a ∈ e.L0 ∨ e.H0 a = none
  pin : ∀ p ∈ e.pins, σ[p.1]? = some (some p.2)
/-- shared part and heap grow -/
structure Ext (F H F' H' : Hp) : Prop where
  f : Same F F'
  s : Same F' H'
  h : Same H H'
  n : ∀ a o, F' a = some o → F a = some o ∨ H a = none
theorem Ext.refl (s : Same F H) : Ext F H F H := ⟨Same.refl _, s, Same.refl _, fun _ _ h => .inl h⟩
theorem Ext.trans {F1 H1 F2 H2 : Hp} (a : Ext F H F1 H1) (b : Ext F1 H1 F2 H2) : Ext F H F2 H2 :=
  ⟨a.f.trans b.f, b.s, a.h.trans b.h, fun x o h => by
    rcases b.n x o h with q | q
    · exact a.n x o q
    · exact .inr (a.h.free q)⟩
/-- a new shared object -/
theorem same_new {H : Hp} {p : Addr} {o : HO} (h : H p = none) : Same H (upd H p o) := fun b u e => by
  rw [upd_ne (ne_of_none e h)]; exact e
theorem Ext.new (s : Same F H) {p : Addr} {o : HO} (h : H p = none) : Ext F H (upd F p o) (upd H p o) where
  f := same_new (s.free h)
  s := fun b u e => by
    by_cases q : b = p
    · subst q; rw [upd_same] at e ⊢; exact e
    · rw [upd_ne q] at e ⊢; exact s _ _ e
  h := same_new h
  n := fun b u e => by
    by_cases q : b = p
    · subst q; exact .inr h
    · rw [upd_ne q] at e; exact .inl e
/-- a new object that is not shared (yet) -/
theorem Ext.newH (s : Same F H) {p : Addr} {o : HO} (h : H p = none) : Ext F H F (upd H p o) where
  f := Same.refl _
  s := s.trans (same_new h)
  h := same_new h
  n := fun _ _ e => .inl e
theorem Rel.ext {e : Ent} {env : Py.Env} {σ : St} {L : List Addr} (R : Rel W e env F σ H L) (x : Ext F H F' H') : Rel W e env F' σ H' L where
  sF := x.s
  slots := R.slots.frame x.f fun a _ o q => x.h _ _ q
  nd := R.nd
  dj := fun a m => by
    obtain ⟨o, ho⟩ := R.slots.lives a m
    cases q : F' a with
    | none => rfl
    | some u =>
      rcases x.n a u q with z | z
      · rw [R.dj a m] at z; cases z
      · rw [ho] at z; cases z
  s0 := R.s0.trans x.f
  nw := fun a o q => by
    rcases x.n a o q with z | z
    · exact R.nw a o z
    · by_cases m : a ∈ e.L0
      · exact .inr (.inr m)
      · refine .inr (.inl ?_)
        cases y : e.H0 a with
        | none => rfl
        | some u => rw [R.fr a u m y] at z; cases z
  fr := fun a o m q => x.h _ _ (R.fr a o m q)
  ln := R.ln
  pin := R.pin

abbrev Res := Hp → Hp → Hp → V → Prop
/-- shared data -/
def rF {T : Tbl} (W : Wd T) (d : D) : Res := fun F _ _ v => Shr W F d v
/-- readable as data -/
def rV {T : Tbl} (W : Wd T) (d : D) : Res := fun _ H _ v => Shr W H d v
/-- new, owned (or shared) -/
def rO {T : Tbl} (W : Wd T) (d : D) : Res := fun F H H0 v => ∃ L, Own W F H d v L ∧ L.Nodup ∧ ∀ a ∈ L, H0 a = none ∧ F a = none
/-- a list to be read, of shared data -/
def rL {T : Tbl} (W : Wd T) (ds : List D) : Res := fun F H _ v => ∃ a vs, v = .ref a ∧ SqL W.K H a vs ∧ Shrs W F ds vs
def AE {T : Tbl} (W : Wd T) (t : TE) (env : Py.Env) (R : Res) : Prop :=
  ∀ (e : Ent) (F : Hp) (σ : St) (H : Hp) (L : List Addr) (Q : VK), Rel W e env F σ H L → (∀ v F' H', Ext F H F' H' → R F' H' H v → Q v H') → t σ H Q
/-- tests -/
def AT {T : Tbl} (W : Wd T) (t : TT) (env : Py.Env) (b : Bool) : Prop :=
  ∀ (e : Ent) (F : Hp) (σ : St) (H : Hp) (L : List Addr) (Q : Bool → Hp → Prop), Rel W e env F σ H L → (∀ F' H', Ext F H F' H' → Q b H') → t σ H Q
abbrev ResL := Hp → Hp → Hp → List V → Prop
def rFs {T : Tbl} (W : Wd T) (ds : List D) : ResL := fun F _ _ vs => Shrs W F ds vs
def rVs {T : Tbl} (W : Wd T) (ds : List D) : ResL := fun _ H _ vs => Shrs W H ds vs
def AA {T : Tbl} (W : Wd T) (t : TA) (env : Py.Env) (R : ResL) : Prop :=
  ∀ (e : Ent) (F : Hp) (σ : St) (H : Hp) (L : List Addr) (Q : List V → Hp → Prop), Rel W e env F σ H L → (∀ v F' H', Ext F H F' H' → R F' H' H v → Q v H') → t σ H Q

variable {env : Py.Env} {t ta tb : TE}
theorem AE.imp {R R' : Res} (h : AE W t env R) (k : ∀ F H H0 v, Same F H → R F H H0 v → R' F H H0 v) : AE W t env R' := fun e F σ H L Q r q =>
  h e F σ H L Q r fun v F' H' x y => q v F' H' x (k _ _ _ _ x.s y)
theorem AE.view {d : D} (h : AE W t env (rF W d)) : AE W t env (rV W d) := h.imp fun _ _ _ _ s y => Shr.mono s y
theorem AE.own {d : D} (h : AE W t env (rF W d)) : AE W t env (rO W d) := h.imp fun _ _ _ _ s y => ⟨[], .sh y, .nil, fun _ m => nomatch m⟩
theorem AE.viewO {d : D} (h : AE W t env (rO W d)) : AE W t env (rV W (fz d)) := h.imp fun _ _ _ _ s ⟨L, o, _, _⟩ => o.view s fun _ _ _ q => q
theorem AE.list {ds : List D} (h : AE W t env (rF W (.lst ds))) : AE W t env (rL W ds) := h.imp fun _ _ _ _ s y => by
  cases y with
  | lst a b => exact ⟨_, _, rfl, .of (s _ _ a), b⟩
/-- the owned addresses become shared -/
theorem freeze {F H : Hp} {d : D} {v : V} {L : List Addr} (s : Same F H) (o : Own W F H d v L) (k : ∀ a ∈ L, F a = none) :
    ∃ F', Same F F' ∧ Same F' H ∧ (∀ a o, F' a = some o → F a = some o ∨ a ∈ L) ∧ Shr W F' (fz d) v := by
  refine ⟨fun a => if a ∈ L then H a else F a, fun a u q => ?_, fun a u q => ?_, fun a u q => ?_, o.view (fun a u q => ?_) fun a m u q => ?_⟩
  · show (if a ∈ L then H a else F a) = some u
    split
    · rename_i m; rw [k a m] at q; cases q
    · exact q
  · have q : (if a ∈ L then H a else F a) = some u := q
    split at q
    · exact q
    · exact s _ _ q
  · have q : (if a ∈ L then H a else F a) = some u := q
    split at q
    · exact .inr (by assumption)
    · exact .inl q
  · show (if a ∈ L then H a else F a) = some u
    split
    · rename_i m; rw [k a m] at q; cases q
    · exact q
  · show (if a ∈ L then H a else F a) = some u
    rw [if_pos m]; exact q
theorem AE.frz {d : D} (h : AE W t env (rO W d)) : AE W t env (rF W (fz d)) := fun e F σ H L Q r q =>
  h e F σ H L Q r fun v F' H' x ⟨M, o, nd, k⟩ => by
    obtain ⟨G, s1, s2, nw, y⟩ := freeze x.s o fun a m => (k a m).2
    refine q v G H' ⟨x.f.trans s1, s2, x.h, fun a o z => ?_⟩ y
    rcases nw a o z with z | z
    · exact x.n a o z
    · exact .inr (k a z).1

/-- an exception: its class, its fields -/
structure Exn where
  c : String
  fs : List (String × D)
structure AEnds where
  nx : Py.Env → Prop
  rt : D → Py.Env → Prop
  bk : Py.Env → Prop := fun _ => False
  ct : Py.Env → Prop := fun _ => False
  ex : Exn → Py.Env → Prop := fun _ _ => False
/-- an exception that has left: its class, its own dict -/
def IsExn {T : Tbl} (W : Wd T) (F : Hp) (ex : Exn) (C : Value) (d : Option Addr) : Prop :=
  C = .ref (W.cA ex.c) ∧ W.hasX ex.c ∧ (ex.fs = [] ∨ ∃ a vs, d = some a ∧ F a = some (.xd (((ex.fs.map (·.1)).map so).zip vs)) ∧ Shrs W F (ex.fs.map (·.2)) vs)
structure Sat {T : Tbl} (W : Wd T) (e : Ent) (E : WX) (A : AEnds) (Dn : Ends) : Prop where
  nx : ∀ env F σ H L, A.nx env → Rel W e env F σ H L → Dn.nx σ H
  rt : ∀ d env F σ H L v M, A.rt d env → Rel W e env F σ H L → Own W F H d v M → (M ++ L).Nodup → (∀ a ∈ M, F a = none ∧ (a ∈ e.L0 ∨ e.H0 a = none)) → Dn.rt v H
  bk : ∀ env F σ H L, A.bk env → Rel W e env F σ H L → Dn.bk σ H
  ct : ∀ env F σ H L, A.ct env → Rel W e env F σ H L → Dn.ct σ H
  ex : ∀ x env F σ H L C d, A.ex x env → Rel W e env F σ H L → IsExn W F x C d → E C d σ H
def AS {T : Tbl} (W : Wd T) (P : List Nat) (E : WX) (t : TS) (env : Py.Env) (A : AEnds) : Prop :=
  ∀ (e : Ent) (F : Hp) (σ : St) (H : Hp) (L : List Addr) (Dn : Ends), P = e.pins.map (·.1) → Rel W e env F σ H L → Sat W e E A Dn → t Dn σ H
variable {P : List Nat} {E : WX} {A : AEnds}
theorem as_seq {t u : TS} (h : AS W P E t env { A with nx := fun env' => AS W P E u env' A }) : AS W P E (tSeq t u) env A := fun e F σ H L Dn hp r s =>
  h e F σ H L _ hp r ⟨fun env' F' σ' H' L' a r' => a e F' σ' H' L' Dn hp r' s, s.rt, s.bk, s.ct, s.ex⟩
theorem as_next (h : A.nx env) : AS W P E tNext env A := fun e F σ H L Dn hp r s => s.nx _ _ _ _ _ h r
theorem as_break (h : A.bk env) : AS W P E tBreak env A := fun e F σ H L Dn hp r s => s.bk _ _ _ _ _ h r
theorem as_cont (h : A.ct env) : AS W P E tCont env A := fun e F σ H L Dn hp r s => s.ct _ _ _ _ _ h r
theorem Rel.set {e : Ent} {σ : St} {L M : List Addr} {d : D} {v : V} {i : Nat} (r : Rel W e env F σ H L) (o : Own W F H d v M) (nd : (M ++ L).Nodup) (k : ∀ a ∈ M, F a = none ∧ (a ∈ e.L0 ∨ e.H0 a = none)) (hi : i < env.length)
    (hp : ∀ p ∈ e.pins, p.1 ≠ i) : ∃ L', Rel W e (env.set i (some d)) F (σ.set i (some v)) H L' := by
  obtain ⟨L', s, nd', m⟩ := r.slots.put o nd hi
  refine ⟨L', r.sF, s, nd', fun a ha => ?_, r.s0, r.nw, r.fr, fun a ha => ?_, fun p hm => ?_⟩
  · rcases m a ha with q | q
    · exact (k a q).1
    · exact r.dj a q
  · rcases m a ha with q | q
    · exact (k a q).2
    · exact r.ln a q
  · rw [List.getElem?_set_ne (fun z => hp p hm z.symm)]
    exact r.pin p hm
theorem Rel.h0 {e : Ent} {σ : St} {L : List Addr} (r : Rel W e env F σ H L) {a : Addr} (h : H a = none) : a ∈ e.L0 ∨ e.H0 a = none := by
  by_cases m : a ∈ e.L0
  · exact .inl m
  · refine .inr ?_
    cases y : e.H0 a with
    | none => rfl
    | some u => rw [r.fr a u m y] at h; cases h
theorem nodup_new {L M : List Addr} {H : Hp} (h1 : L.Nodup) (h2 : M.Nodup) (hl : ∀ a ∈ L, ∃ o, H a = some o) (hm : ∀ a ∈ M, H a = none) : (M ++ L).Nodup := by
  rw [List.nodup_append]
  refine ⟨h2, h1, fun a ha b hb q => ?_⟩
  subst q
  obtain ⟨o, z⟩ := hl a hb
  rw [hm a ha] at z
  cases z
theorem as_set {i : Nat} {d : D} {o' : Option D} (h : AE W t env (rO W d)) (hi' : env[i]? = some o') (hp : i ∉ P) (q : A.nx (env.set i (some d))) : AS W P E (tAsg t (gName i)) env A := fun e F σ H L Dn hP r s =>
  h e F σ H L _ r fun v F' H' x ⟨M, o, nd, k⟩ => by
    have hi := (List.getElem?_eq_some_iff.mp hi').1
    have r' := r.ext x
    have hk : ∀ a ∈ M, F' a = none ∧ (a ∈ e.L0 ∨ e.H0 a = none) := fun a m => ⟨(k a m).2, r.h0 (k a m).1⟩
    obtain ⟨L', r2⟩ := r'.set (i := i) o (nodup_new (H := H) r.nd nd (r.slots.lives) fun a m => (k a m).1) hk hi fun p hm z => hp (by rw [hP]; exact List.mem_map.mpr ⟨p, hm, z⟩)
    exact s.nx _ _ _ _ _ q r2
theorem as_if {tc : TT} {t u : TS} {b : Bool} (h : AT W tc env b) (h1 : b = true → AS W P E t env A) (h2 : b = false → AS W P E u env A) : AS W P E (tIfS tc t u) env A := fun e F σ H L Dn hP r s =>
  h e F σ H L _ r fun F' H' x => by
    have r' := r.ext x
    cases b with
    | true => exact h1 rfl e F' σ H' L Dn hP r' s
    | false => exact h2 rfl e F' σ H' L Dn hP r' s
theorem as_ret {d : D} (h : AE W t env (rO W d)) (q : A.rt d env) : AS W P E (tRet t) env A := fun e F σ H L Dn hP r s =>
  h e F σ H L _ r fun v F' H' x ⟨M, o, nd, k⟩ => s.rt d env F' σ H' L v M q (r.ext x) o (nodup_new (H := H) r.nd nd (r.slots.lives) fun a m => (k a m).1) fun a m => ⟨(k a m).2, r.h0 (k a m).1⟩
theorem as_retN (q : A.rt .non env) : AS W P E tRetN env A := fun e F σ H L Dn hP r s => s.rt .non env F σ H L .non [] q r (.sh .non) (by simpa using r.nd) fun a m => nomatch m
/-- what stands in a slot is given back -/
theorem as_retv {i : Nat} {d : D} (h : env[i]? = some (some d)) (q : A.rt d (env.set i none)) : AS W P E (tRet (tVar i)) env A := fun e F σ H L Dn hP r s => by
  obtain ⟨v, Li, Lr, e1, o, sl, nd, m⟩ := r.slots.take r.nd h
  refine ⟨v, e1, ?_⟩
  refine s.rt d (env.set i none) F σ H Lr v Li q ⟨r.sF, sl, (List.nodup_append.mp nd).2.1, fun a ha => r.dj a ((m a).mp (.inr ha)), r.s0, r.nw, r.fr, fun a ha => r.ln a ((m a).mp (.inr ha)), r.pin⟩ o nd fun a ha => ⟨r.dj a ((m a).mp (.inl ha)), r.ln a ((m a).mp (.inl ha))⟩
theorem as_drop {d : D} (h : AE W t env (rV W d)) (q : A.nx env) : AS W P E (tDrop t) env A := fun e F σ H L Dn hP r s =>
  h e F σ H L _ r fun v F' H' x _ => s.nx _ _ _ _ _ q (r.ext x)
end
end Py

namespace Py
open PySem L2
section
variable {T : Tbl} {W : Wd T} {env : Py.Env} {t ta tb tc : TE} {d d1 d2 d3 : D} {i j : Int} {n m : Nat}

theorem slot_get {e : Ent} {F H : Hp} {σ : St} {L : List Addr} (r : Rel W e env F σ H L) (h : env[n]? = some (some d)) : ∃ v M, σ[n]? = some (some v) ∧ Own W F H d v M ∧ ∀ a ∈ M, a ∈ L := by
  obtain ⟨v, Li, Lr, e1, o, _, _, m⟩ := r.slots.take r.nd h
  exact ⟨v, Li, e1, o, fun a ha => (m a).mp (.inl ha)⟩
theorem ae_var (h : env[n]? = some (some d)) (s : isSh d = true) : AE W (tVar n) env (rF W d) := fun e F σ H L Q r q => by
  obtain ⟨v, M, e1, o, _⟩ := slot_get r h
  exact ⟨v, e1, q v F H (.refl r.sF) (o.shr s)⟩
theorem ae_varV (h : env[n]? = some (some d)) : AE W (tVar n) env (rV W (fz d)) := fun e F σ H L Q r q => by
  obtain ⟨v, M, e1, o, _⟩ := slot_get r h
  exact ⟨v, e1, q v F H (.refl r.sF) (o.view r.sF fun _ _ _ z => z)⟩
theorem ae_varL {ds : List D} (h : env[n]? = some (some (.olst ds))) (s : ds.all isSh = true) : AE W (tVar n) env (rL W ds) := fun e F σ H L Q r q => by
  obtain ⟨v, M, e1, o, _⟩ := slot_get r h
  cases o with
  | olst ha hs => exact ⟨_, e1, q _ F H (.refl r.sF) ⟨_, _, rfl, .of ha, hs.shrs s⟩⟩
  | sh y => cases y
theorem ae_c {v : V} (h : ∀ F, Shr W F d v) : AE W (tC v) env (rF W d) := fun e F σ H L Q r q => q v F H (.refl r.sF) (h F)
theorem ae_int : AE W (tC (.int i)) env (rF W (.int i)) := ae_c fun _ => .int
theorem ae_bl {b : Bool} : AE W (tC (.bl b)) env (rF W (.bl b)) := ae_c fun _ => .bl
theorem ae_non : AE W (tC .non) env (rF W .non) := ae_c fun _ => .non
theorem ae_str {x : String} : AE W (tC (.str (so x))) env (rF W (.str x)) := ae_c fun _ => .str

theorem AE.shr (h : AE W t env (rO W d)) (s : isSh d = true) : AE W t env (rF W d) := h.imp fun _ _ _ _ _ ⟨_, o, _⟩ => o.shr s
theorem rO_sh {F H H0 : Hp} {v : V} (h : Shr W F d v) : rO W d F H H0 v := ⟨[], .sh h, .nil, fun _ m => nomatch m⟩
theorem rO_back {F H H0 H1 : Hp} {v : V} (e : Same H0 H1) (h : rO W d F H H1 v) : rO W d F H H0 v := by
  obtain ⟨L, o, nd, k⟩ := h
  exact ⟨L, o, nd, fun a m => ⟨e.free (k a m).1, (k a m).2⟩⟩
/-- an operation on two values; on two lists of shared data -/
def Op2 {T : Tbl} (W : Wd T) (r : R2) (d1 d2 d : D) : Prop := ∀ (F H : Hp) (v1 v2 : V) (Q : VK), Same F H → Shr W H d1 v1 → Shr W H d2 v2 → (∀ v F' H', Ext F H F' H' → rO W d F' H' H v → Q v H') → r v1 v2 H Q
def Op2L {T : Tbl} (W : Wd T) (r : R2) (ds es : List D) (d : D) : Prop := ∀ (F H : Hp) (a b : Addr) (vs ws : List V) (Q : VK), Same F H → H a = some (.lst vs) → Shrs W F ds vs → H b = some (.lst ws) → Shrs W F es ws → (∀ v F' H', Ext F H F' H' → rO W d F' H' H v → Q v H') → r (.ref a) (.ref b) H Q
theorem ae_op2 {r : R2} (ha : AE W ta env (rV W d1)) (hb : AE W tb env (rV W d2)) (h : Op2 W r d1 d2 d) : AE W (tOp r ta tb) env (rO W d) := fun e F σ H L Q rl q =>
  ha e F σ H L _ rl fun v F1 H1 x1 y1 => hb e F1 σ H1 L _ (rl.ext x1) fun u F2 H2 x2 y2 => h F2 H2 v u Q x2.s (y1.mono x2.h) y2 fun w F3 H3 x3 y3 => q w F3 H3 ((x1.trans x2).trans x3) (rO_back (x1.h.trans x2.h) y3)
/-- a tracked list of shared data -/
def rL' {T : Tbl} (W : Wd T) (ds : List D) : Res := fun F H _ v => ∃ a vs, v = .ref a ∧ H a = some (.lst vs) ∧ Shrs W F ds vs
theorem AE.listT {ds : List D} (h : AE W t env (rF W (.lst ds))) : AE W t env (rL' W ds) := h.imp fun _ _ _ _ s y => by
  cases y with
  | lst a b => exact ⟨_, _, rfl, s _ _ a, b⟩
theorem AE.listO {ds : List D} (h : AE W t env (rO W (.olst ds))) (k : ds.all isSh = true) : AE W t env (rL' W ds) := h.imp fun _ _ _ _ s ⟨L, o, _⟩ => by
  cases o with
  | olst a b => exact ⟨_, _, rfl, a, b.shrs k⟩
  | sh y => cases y
theorem ae_varT {ds : List D} (h : env[n]? = some (some (.olst ds))) (s : ds.all isSh = true) : AE W (tVar n) env (rL' W ds) := fun e F σ H L Q r q => by
  obtain ⟨v, M, e1, o, _⟩ := slot_get r h
  cases o with
  | olst ha hs => exact ⟨_, e1, q _ F H (.refl r.sF) ⟨_, _, rfl, ha, hs.shrs s⟩⟩
  | sh y => cases y
theorem ae_op2L {r : R2} {ds es : List D} (ha : AE W ta env (rL' W ds)) (hb : AE W tb env (rL' W es)) (h : Op2L W r ds es d) : AE W (tOp r ta tb) env (rO W d) := fun e F σ H L Q rl q =>
  ha e F σ H L _ rl fun v F1 H1 x1 y1 => hb e F1 σ H1 L _ (rl.ext x1) fun u F2 H2 x2 y2 => by
    obtain ⟨a, vs, rfl, ha, sa⟩ := y1
    obtain ⟨b, ws, rfl, hb, sb⟩ := y2
    exact h F2 H2 a b vs ws Q x2.s (x2.h _ _ ha) (sa.mono x2.f) hb sb fun w F3 H3 x3 y3 => q w F3 H3 ((x1.trans x2).trans x3) (rO_back (x1.h.trans x2.h) y3)
theorem o2_l {r r' : R2} (h : Op2 W r d1 d2 d) : Op2 W (fun x y H Q => r x y H Q ∨ r' x y H Q) d1 d2 d := fun F H v1 v2 Q s a b q => .inl (h F H v1 v2 Q s a b q)
theorem o2_r {r r' : R2} (h : Op2 W r' d1 d2 d) : Op2 W (fun x y H Q => r x y H Q ∨ r' x y H Q) d1 d2 d := fun F H v1 v2 Q s a b q => .inr (h F H v1 v2 Q s a b q)
theorem o2L_l {r r' : R2} {ds es : List D} (h : Op2L W r ds es d) : Op2L W (fun x y H Q => r x y H Q ∨ r' x y H Q) ds es d := fun F H a b v w Q s x1 x2 x3 x4 q => .inl (h F H a b v w Q s x1 x2 x3 x4 q)
theorem o2L_r {r r' : R2} {ds es : List D} (h : Op2L W r' ds es d) : Op2L W (fun x y H Q => r x y H Q ∨ r' x y H Q) ds es d := fun F H a b v w Q s x1 x2 x3 x4 q => .inr (h F H a b v w Q s x1 x2 x3 x4 q)
theorem o2_i {g : Int → Int → V} (hg : ∀ F, Shr W F d (g i j)) : Op2 W (rI0 g) (.int i) (.int j) d := fun F H v1 v2 Q s a b q => by
  cases a; cases b
  exact ⟨i, j, rfl, rfl, q _ F H (.refl s) (rO_sh (hg _))⟩
theorem o2_ic {C : Int → Int → Prop} {g : Int → Int → V} (hc : C i j) (hg : ∀ F, Shr W F d (g i j)) : Op2 W (rI C g) (.int i) (.int j) d := fun F H v1 v2 Q s a b q => by
  cases a; cases b
  exact ⟨i, j, rfl, rfl, hc, q _ F H (.refl s) (rO_sh (hg _))⟩
theorem ae_u {g : Int → V} (ha : AE W ta env (rV W (.int i))) (hg : ∀ F, Shr W F d (g i)) : AE W (tUn (rU g) ta) env (rF W d) := fun e F σ H L Q r q =>
  ha e F σ H L _ r fun v F1 H1 x1 y1 => by
    cases y1
    exact ⟨i, rfl, q _ F1 H1 x1 (hg _)⟩
/-- a flat value -/
def fl : D → Option V
  | .non => some .non
  | .bl b => some (.bl b)
  | .int i => some (.int i)
  | .str x => some (.str (so x))
  | _ => none
theorem Shr.fl {F : Hp} {v u : V} (h : Shr W F d v) (e : Py.fl d = some u) : v = u := by
  cases h <;> (first | (cases e; rfl) | cases e)
theorem o2_eqF {u1 u2 : V} (h1 : fl d1 = some u1) (h2 : fl d2 = some u2) (hs : scal u1 u2 = true) : Op2 W rEq d1 d2 (.bl (decide (u1 = u2))) := fun F H v1 v2 Q s a b q => by
  cases a.fl h1; cases b.fl h2
  exact ⟨hs, q _ F H (.refl s) (rO_sh .bl)⟩
theorem o2_neF {u1 u2 : V} (h1 : fl d1 = some u1) (h2 : fl d2 = some u2) (hs : scal u1 u2 = true) : Op2 W rNe d1 d2 (.bl (!decide (u1 = u2))) := fun F H v1 v2 Q s a b q => by
  cases a.fl h1; cases b.fl h2
  exact ⟨hs, q _ F H (.refl s) (rO_sh .bl)⟩
theorem decI {i j : Int} : decide (V.int i = V.int j) = decide (i = j) := by simp
theorem decS {i j : String} : decide (V.str (so i) = V.str (so j)) = decide (i = j) := by
  rw [decide_eq_decide]
  exact ⟨fun h => so_inj (V.str.inj h), fun h => by rw [h]⟩
theorem decB {i j : Bool} : decide (V.bl i = V.bl j) = decide (i = j) := by simp
theorem o2_eqI : Op2 W rEq (.int i) (.int j) (.bl (decide (i = j))) := by rw [← decI]; exact o2_eqF rfl rfl rfl
theorem o2_neI : Op2 W rNe (.int i) (.int j) (.bl (!decide (i = j))) := by rw [← decI]; exact o2_neF rfl rfl rfl
theorem o2_eqS {x y : String} : Op2 W rEq (.str x) (.str y) (.bl (decide (x = y))) := by rw [← decS]; exact o2_eqF rfl rfl rfl
theorem o2_neS {x y : String} : Op2 W rNe (.str x) (.str y) (.bl (!decide (x = y))) := by rw [← decS]; exact o2_neF rfl rfl rfl
theorem o2_eqB {x y : Bool} : Op2 W rEq (.bl x) (.bl y) (.bl (decide (x = y))) := by rw [← decB]; exact o2_eqF rfl rfl rfl
theorem o2_neB {x y : Bool} : Op2 W rNe (.bl x) (.bl y) (.bl (!decide (x = y))) := by rw [← decB]; exact o2_neF rfl rfl rfl
mutual
def pd : D → Option PyData
  | .non => some .none
  | .bl b => some (.bool b)
  | .int i => some (.int i)
  | .str x => some (.str (so x))
  | .tup xs => (pds xs).map PyData.tuple
  | .lst xs => (pds xs).map PyData.list
  | _ => none
def pds : List D → Option (List PyData)
  | [] => some []
  | d :: ds => match pd d, pds ds with
    | some x, some xs => some (x :: xs)
    | _, _ => none
end
theorem dpAll_ints {H : Hp} : ∀ ns : List Int, DpAll W.K H (ns.map V.int) (ns.map PyData.int)
  | [] => .nil
  | n :: ns => .cons (.int n) (dpAll_ints ns)
mutual
theorem Shr.dp {H : Hp} : ∀ {d : D} {v : V} {x : PyData}, Shr W H d v → pd d = some x → Dp W.K H v x
  | _, _, _, .non, e => by rw [pd] at e; cases e; exact .non
  | _, _, _, .bl, e => by rw [pd] at e; cases e; exact .bl _
  | _, _, _, .int, e => by rw [pd] at e; cases e; exact .int _
  | _, _, _, .str, e => by rw [pd] at e; cases e; exact .str _
  | _, _, _, .scr _, e => by rw [pd] at e <;> cases e
  | .tup xs, _, _, .tup h hs, e => by
    rw [pd] at e
    cases q : pds xs with
    | none => rw [q] at e; cases e
    | some ys => rw [q] at e; cases e; exact .tup (.of h) (Shrs.dp hs q)
  | .lst xs, _, _, .lst h hs, e => by
    rw [pd] at e
    cases q : pds xs with
    | none => rw [q] at e; cases e
    | some ys => rw [q] at e; cases e; exact .lst (.of h) (Shrs.dp hs q)
  | _, _, _, .cls _, e => by rw [pd] at e <;> cases e
  | _, _, _, .sei _ _, e => by rw [pd] at e <;> cases e
  | _, _, _, .dic _ _ _ _, e => by rw [pd] at e <;> cases e
  | _, _, _, .dit _ _ _ _, e => by rw [pd] at e <;> cases e
  | _, _, _, .dig _ _ _ _, e => by rw [pd] at e <;> cases e
  | _, _, _, .ins _ _ _ _, e => by rw [pd] at e <;> cases e
theorem Shrs.dp {H : Hp} : ∀ {ds : List D} {vs : List V} {xs : List PyData}, Shrs W H ds vs → pds ds = some xs → DpAll W.K H vs xs
  | _, _, _, .nil, e => by rw [pds] at e; cases e; exact .nil
  | d :: ds, _, _, .cons h t, e => by
    rw [pds] at e
    cases q1 : pd d with
    | none => rw [q1] at e; cases e
    | some x =>
      cases q2 : pds ds with
      | none => rw [q1, q2] at e; cases e
      | some xs => rw [q1, q2] at e; cases e; exact .cons (Shr.dp h q1) (Shrs.dp t q2)
end
theorem o2_eqD {x y : PyData} (h1 : pd d1 = some x) (h2 : pd d2 = some y) (s1 : SeqAt.shaped x = true) (s2 : SeqAt.shaped y = true) : Op2 W (rEqD W.K) d1 d2 (.bl (PyData.eqv x y)) := fun F H v1 v2 Q s a b q =>
  ⟨x, y, a.dp h1, b.dp h2, s1, s2, q _ F H (.refl s) (rO_sh .bl)⟩
theorem o2_neD {x y : PyData} (h1 : pd d1 = some x) (h2 : pd d2 = some y) (s1 : SeqAt.shaped x = true) (s2 : SeqAt.shaped y = true) : Op2 W (rNeD W.K) d1 d2 (.bl (!PyData.eqv x y)) := fun F H v1 v2 Q s a b q =>
  ⟨x, y, a.dp h1, b.dp h2, s1, s2, q _ F H (.refl s) (rO_sh .bl)⟩
theorem o2L_cat {ds es : List D} (hl : ds.length + es.length ≤ 1000000) : Op2L W rCat ds es (.olst (ds ++ es)) := fun F H a b vs ws Q s ha sa hb sb q =>
  ⟨a, b, vs, ws, rfl, rfl, ha, hb, by rw [← sa.length, ← sb.length]; exact Nat.le_trans hl (by decide), fun p hp => q _ F _ (.newH s hp) ⟨[p], .olst upd_same (sa.append sb).owns, by simp, fun x m => by
    rw [List.mem_singleton.mp m]; exact ⟨hp, s.free hp⟩⟩⟩
/-- calls of built-ins: by values; of one list of shared data -/
def Cb {T : Tbl} (W : Wd T) (r : List V → Hp → VK → Prop) (ds : List D) (d : D) : Prop := ∀ (F H : Hp) (vs : List V) (Q : VK), Same F H → Shrs W H ds vs → (∀ v F' H', Ext F H F' H' → rO W d F' H' H v → Q v H') → r vs H Q
def CbL {T : Tbl} (W : Wd T) (r : List V → Hp → VK → Prop) (ds : List D) (d : D) : Prop := ∀ (F H : Hp) (a : Addr) (vs : List V) (Q : VK), Same F H → H a = some (.lst vs) → Shrs W F ds vs → (∀ v F' H', Ext F H F' H' → rO W d F' H' H v → Q v H') → r [.ref a] H Q
theorem ae_cb {r : List V → Hp → VK → Prop} {tr : TA} {ds : List D} (h : AA W tr env (rVs W ds)) (hc : Cb W r ds d) : AE W (tCB r tr) env (rO W d) := fun e F σ H L Q rl q =>
  h e F σ H L _ rl fun vs F1 H1 x1 y1 => hc F1 H1 vs Q x1.s y1 fun w F3 H3 x3 y3 => q w F3 H3 (x1.trans x3) (rO_back x1.h y3)
theorem ae_cbL {r : List V → Hp → VK → Prop} {ds : List D} (h : AE W t env (rL' W ds)) (hc : CbL W r ds d) : AE W (tCB r (tCons t tNil)) env (rO W d) := fun e F σ H L Q rl q =>
  h e F σ H L _ rl fun v F1 H1 x1 y1 => by
    obtain ⟨a, vs, rfl, ha, sa⟩ := y1
    exact hc F1 H1 a vs Q x1.s ha sa fun w F3 H3 x3 y3 => q w F3 H3 (x1.trans x3) (rO_back x1.h y3)
theorem cb_l {r r' : List V → Hp → VK → Prop} {ds : List D} (h : Cb W r ds d) : Cb W (fun xs H Q => r xs H Q ∨ r' xs H Q) ds d := fun F H vs Q s a q => .inl (h F H vs Q s a q)
theorem cb_r {r r' : List V → Hp → VK → Prop} {ds : List D} (h : Cb W r' ds d) : Cb W (fun xs H Q => r xs H Q ∨ r' xs H Q) ds d := fun F H vs Q s a q => .inr (h F H vs Q s a q)
theorem cbL_l {r r' : List V → Hp → VK → Prop} {ds : List D} (h : CbL W r ds d) : CbL W (fun xs H Q => r xs H Q ∨ r' xs H Q) ds d := fun F H a vs Q s x y q => .inl (h F H a vs Q s x y q)
theorem cbL_r {r r' : List V → Hp → VK → Prop} {ds : List D} (h : CbL W r' ds d) : CbL W (fun xs H Q => r xs H Q ∨ r' xs H Q) ds d := fun F H a vs Q s x y q => .inr (h F H a vs Q s x y q)
def isNon : D → Bool
  | .non => true
  | _ => false
theorem Shr.non_iff {F : Hp} {v : V} (h : Shr W F d v) : decide (v = V.non) = isNon d := by
  cases h <;> first | rfl | (simp [isNon])
theorem ae_isN (ha : AE W ta env (rV W d)) : AE W (tOp (fun x y H Q => y = .non ∧ Q (.bl (decide (x = .non))) H) ta (tC .non)) env (rF W (.bl (isNon d))) := fun e F σ H L Q r q =>
  ha e F σ H L _ r fun v F1 H1 x1 y1 => ⟨rfl, by rw [y1.non_iff]; exact q _ F1 H1 x1 .bl⟩
theorem ae_notN (ha : AE W ta env (rV W d)) : AE W (tOp (fun x y H Q => y = .non ∧ Q (.bl (!decide (x = .non))) H) ta (tC .non)) env (rF W (.bl (!isNon d))) := fun e F σ H L Q r q =>
  ha e F σ H L _ r fun v F1 H1 x1 y1 => ⟨rfl, by rw [y1.non_iff]; exact q _ F1 H1 x1 .bl⟩
theorem ae_andV {a b : Bool} (ha : AE W ta env (rV W (.bl a))) (hb : a = true → AE W tb env (rV W (.bl b))) : AE W (tAndV ta tb) env (rF W (.bl (a && b))) := fun e F σ H L Q r q =>
  ha e F σ H L _ r fun v F1 H1 x1 y1 => by
    cases y1
    refine ⟨a, rfl, ?_⟩
    cases a with
    | true => exact hb rfl e F1 σ H1 L _ (r.ext x1) fun u F2 H2 x2 y2 => by cases y2; exact q _ F2 H2 (x1.trans x2) .bl
    | false => exact q _ F1 H1 x1 .bl
theorem ae_orV {a b : Bool} (ha : AE W ta env (rV W (.bl a))) (hb : a = false → AE W tb env (rV W (.bl b))) : AE W (tOrV ta tb) env (rF W (.bl (a || b))) := fun e F σ H L Q r q =>
  ha e F σ H L _ r fun v F1 H1 x1 y1 => by
    cases y1
    refine ⟨a, rfl, ?_⟩
    cases a with
    | false => exact hb rfl e F1 σ H1 L _ (r.ext x1) fun u F2 H2 x2 y2 => by cases y2; exact q _ F2 H2 (x1.trans x2) .bl
    | true => exact q _ F1 H1 x1 .bl
theorem ae_notV {a : Bool} (ha : AE W ta env (rV W (.bl a))) : AE W (tNotV ta) env (rF W (.bl (!a))) := fun e F σ H L Q r q =>
  ha e F σ H L _ r fun v F1 H1 x1 y1 => by
    cases y1
    exact ⟨a, rfl, q _ F1 H1 x1 .bl⟩
variable {tt tu : TT} {a b : Bool}
theorem at_test (h : AE W t env (rV W (.bl b))) : AT W (tTest t) env b := fun e F σ H L Q r q => h e F σ H L _ r fun v F1 H1 x1 y1 => by
  cases y1
  exact ⟨b, rfl, q F1 H1 x1⟩
theorem at_B (h : AE W t env (rV W (.bl b))) : AT W (tB t) env b := fun e F σ H L Q r q => h e F σ H L _ r fun v F1 H1 x1 y1 => by
  cases y1
  exact ⟨b, rfl, q F1 H1 x1⟩
theorem at_and (h1 : AT W tt env a) (h2 : a = true → AT W tu env b) : AT W (tAnd tt tu) env (a && b) := fun e F σ H L Q r q => h1 e F σ H L _ r fun F1 H1 x1 => by
  cases a with
  | true => exact h2 rfl e F1 σ H1 L _ (r.ext x1) fun F2 H2 x2 => q F2 H2 (x1.trans x2)
  | false => exact q F1 H1 x1
theorem at_or (h1 : AT W tt env a) (h2 : a = false → AT W tu env b) : AT W (tOr tt tu) env (a || b) := fun e F σ H L Q r q => h1 e F σ H L _ r fun F1 H1 x1 => by
  cases a with
  | false => exact h2 rfl e F1 σ H1 L _ (r.ext x1) fun F2 H2 x2 => q F2 H2 (x1.trans x2)
  | true => exact q F1 H1 x1
theorem at_not (h1 : AT W tt env a) : AT W (tNot tt) env (!a) := fun e F σ H L Q r q => h1 e F σ H L _ r fun F1 H1 x1 => q F1 H1 x1
theorem ae_if (h : AT W tt env b) (h1 : b = true → AE W ta env (rF W d1)) (h2 : b = false → AE W tb env (rF W d2)) : AE W (tIf tt ta tb) env (rF W (if b = true then d1 else d2)) := fun e F σ H L Q r q =>
  h e F σ H L _ r fun F1 H1 x1 => by
    cases b with
    | true => exact h1 rfl e F1 σ H1 L _ (r.ext x1) fun v F2 H2 x2 y2 => q v F2 H2 (x1.trans x2) y2
    | false => exact h2 rfl e F1 σ H1 L _ (r.ext x1) fun v F2 H2 x2 y2 => q v F2 H2 (x1.trans x2) y2
theorem ae_ifR {R : Res} (h : AT W tt env b) (h1 : b = true → AE W ta env R) (h2 : b = false → AE W tb env R) (hm : ∀ F H H0 H1 v, Same H0 H1 → R F H H1 v → R F H H0 v) : AE W (tIf tt ta tb) env R := fun e F σ H L Q r q =>
  h e F σ H L _ r fun F1 H1 x1 => by
    cases b with
    | true => exact h1 rfl e F1 σ H1 L _ (r.ext x1) fun v F2 H2 x2 y2 => q v F2 H2 (x1.trans x2) (hm _ _ _ _ _ x1.h y2)
    | false => exact h2 rfl e F1 σ H1 L _ (r.ext x1) fun v F2 H2 x2 y2 => q v F2 H2 (x1.trans x2) (hm _ _ _ _ _ x1.h y2)

variable {tr : TA} {ds : List D}
theorem aa_nil : AA W tNil env (rFs W []) := fun e F σ H L Q r q => q [] F H (.refl r.sF) .nil
theorem aa_nilV : AA W tNil env (rVs W []) := fun e F σ H L Q r q => q [] F H (.refl r.sF) .nil
theorem aa_cons (ha : AE W t env (rF W d)) (hr : AA W tr env (rFs W ds)) : AA W (tCons t tr) env (rFs W (d :: ds)) := fun e F σ H L Q r q =>
  ha e F σ H L _ r fun v F1 H1 x1 y1 => hr e F1 σ H1 L _ (r.ext x1) fun vs F2 H2 x2 y2 => q _ F2 H2 (x1.trans x2) (.cons (y1.mono x2.f) y2)
theorem aa_consV (ha : AE W t env (rV W d)) (hr : AA W tr env (rVs W ds)) : AA W (tCons t tr) env (rVs W (d :: ds)) := fun e F σ H L Q r q =>
  ha e F σ H L _ r fun v F1 H1 x1 y1 => hr e F1 σ H1 L _ (r.ext x1) fun vs F2 H2 x2 y2 => q _ F2 H2 (x1.trans x2) (.cons (y1.mono x2.h) y2)
theorem AA.view (h : AA W tr env (rFs W ds)) : AA W tr env (rVs W ds) := fun e F σ H L Q r q => h e F σ H L _ r fun v F1 H1 x1 y1 => q v F1 H1 x1 (Shrs.mono x1.s y1)
theorem sz_le {n : Nat} (h : n ≤ 1000000) : n ≤ sizeLine := Nat.le_trans h (by decide)
theorem ae_tup (h : AA W tr env (rFs W ds)) (hl : ds.length ≤ 1000000) : AE W (tTup tr) env (rF W (.tup ds)) := fun e F σ H L Q r q =>
  h e F σ H L _ r fun vs F1 H1 x1 y1 => ⟨by rw [← y1.length]; exact sz_le hl, fun p hp =>
    q _ (upd F1 p (.tup vs)) _ (x1.trans (.new x1.s hp)) (.tup upd_same (y1.mono (same_new (x1.s.free hp))))⟩
theorem ae_lst (h : AA W tr env (rFs W ds)) (hl : ds.length ≤ 1000000) : AE W (tLst tr) env (rO W (.olst ds)) := fun e F σ H L Q r q =>
  h e F σ H L _ r fun vs F1 H1 x1 y1 => ⟨by rw [← y1.length]; exact sz_le hl, fun p hp =>
    q _ F1 _ (x1.trans (.newH x1.s hp)) ⟨[p], .olst upd_same y1.owns, by simp, fun a m => by
      rw [List.mem_singleton.mp m]; exact ⟨x1.h.free hp, x1.s.free hp⟩⟩⟩

abbrev rLenU (K : PySem.W.Frag) : List V → Hp → VK → Prop := fun xs H Q => ∃ p ys, xs = [.ref p] ∧ (SqL K H p ys ∨ SqT K H p ys) ∧ Q (.int ys.length) H
theorem cb_lenL {ds : List D} : Cb W (rLenU W.K) [.lst ds] (.int ds.length) := fun F H vs Q s a q => by
  cases a with
  | cons a b =>
    cases b
    cases a with
    | lst a b => exact ⟨_, _, rfl, .inl (.of a), q _ F H (.refl s) (rO_sh (by rw [b.length]; exact .int))⟩
theorem cb_lenT {ds : List D} : Cb W (rLenU W.K) [.tup ds] (.int ds.length) := fun F H vs Q s a q => by
  cases a with
  | cons a b =>
    cases b
    cases a with
    | tup a b => exact ⟨_, _, rfl, .inr (.of a), q _ F H (.refl s) (rO_sh (by rw [b.length]; exact .int))⟩
theorem cb_lenS {ns : List Int} : Cb W (rLenU W.K) [.scr ns] (.int ns.length) := fun F H vs Q s a q => by
  cases a with
  | cons a b =>
    cases b
    cases a with
    | scr a => exact ⟨_, _, rfl, .inl a, q _ F H (.refl s) (rO_sh (by rw [List.length_map]; exact .int))⟩
theorem atI_shr {F : Hp} {vs : List V} (h : Shrs W F ds vs) (ha : atI ds i = some d) : ∃ v, atI vs i = some v ∧ Shr W F d v := by
  unfold atI at ha ⊢
  rw [← h.length]
  cases e : ixN ds.length i with
  | none => rw [e] at ha; cases ha
  | some j =>
    rw [e] at ha
    exact h.get ha
def rIxU (K : PySem.W.Frag) : R2 := fun x y H Q => rIxL K x y H Q ∨ rIxT K x y H Q
theorem ae_ixL (h : AE W ta env (rL W ds)) (hb : AE W tb env (rV W (.int i))) (ha : atI ds i = some d) : AE W (tOp (rIxU W.K) ta tb) env (rF W d) := fun e F σ H L Q r q =>
  h e F σ H L _ r fun v F1 H1 x1 y1 => hb e F1 σ H1 L _ (r.ext x1) fun u F2 H2 x2 y2 => by
    obtain ⟨a, vs, rfl, hs, hd⟩ := y1
    cases y2
    obtain ⟨w, hw, sw⟩ := atI_shr hd ha
    exact .inl ⟨a, vs, i, w, rfl, rfl, x2.h.seq hs, hw, q _ F2 H2 (x1.trans x2) (sw.mono x2.f)⟩
theorem ae_ixV (h : AE W ta env (rV W d1)) (hb : AE W tb env (rV W (.int i))) (hd : d1 = .lst ds ∨ d1 = .tup ds) (ha : atI ds i = some d) : AE W (tOp (rIxU W.K) ta tb) env (rV W d) := fun e F σ H L Q r q =>
  h e F σ H L _ r fun v F1 H1 x1 y1 => hb e F1 σ H1 L _ (r.ext x1) fun u F2 H2 x2 y2 => by
    cases y2
    rcases hd with rfl | rfl
    · cases y1 with
      | lst hs hd =>
        obtain ⟨w, hw, sw⟩ := atI_shr hd ha
        exact .inl ⟨_, _, i, w, rfl, rfl, .of (x2.h _ _ hs), hw, q _ F2 H2 (x1.trans x2) (sw.mono x2.h)⟩
    · cases y1 with
      | tup hs hd =>
        obtain ⟨w, hw, sw⟩ := atI_shr hd ha
        exact .inr ⟨_, _, i, w, rfl, rfl, .of (x2.h _ _ hs), hw, q _ F2 H2 (x1.trans x2) (sw.mono x2.h)⟩
theorem ae_ixS {ns : List Int} (h : AE W ta env (rV W (.scr ns))) (hb : AE W tb env (rV W (.int i))) (ha : atI ns i = some j) : AE W (tOp (rIxU W.K) ta tb) env (rF W (.int j)) := fun e F σ H L Q r q =>
  h e F σ H L _ r fun v F1 H1 x1 y1 => hb e F1 σ H1 L _ (r.ext x1) fun u F2 H2 x2 y2 => by
    cases y1 with
    | scr hs =>
      cases y2
      refine .inl ⟨_, _, i, .int j, rfl, rfl, x2.h.seq hs, ?_, q _ F2 H2 (x1.trans x2) .int⟩
      unfold atI at ha ⊢
      rw [List.length_map]
      cases e : ixN ns.length i with
      | none => rw [e] at ha; cases ha
      | some j' =>
        rw [e] at ha
        show (ns.map V.int)[j']? = _
        rw [List.getElem?_map, show ns[j']? = some j from ha]; rfl
theorem ae_ixT (h : AE W ta env (rF W (.tup ds))) (hb : AE W tb env (rV W (.int i))) (ha : atI ds i = some d) : AE W (tOp (rIxU W.K) ta tb) env (rF W d) := fun e F σ H L Q r q =>
  h e F σ H L _ r fun v F1 H1 x1 y1 => hb e F1 σ H1 L _ (r.ext x1) fun u F2 H2 x2 y2 => by
    cases y1 with
    | tup hs hd =>
      cases y2
      obtain ⟨w, hw, sw⟩ := atI_shr hd ha
      exact .inr ⟨_, _, i, w, rfl, rfl, .of (x2.h _ _ (x1.s _ _ hs)), hw, q _ F2 H2 (x1.trans x2) (sw.mono x2.f)⟩
theorem AE.isV (h : AE W t env (rV W d)) (e : d = d1) : AE W t env (rV W d1) := e ▸ h
theorem AE.isF (h : AE W t env (rF W d)) (e : d = d1) : AE W t env (rF W d1) := e ▸ h
theorem AE.isO (h : AE W t env (rO W d)) (e : d = d1) : AE W t env (rO W d1) := e ▸ h
theorem AT.is {tt : TT} {b c : Bool} (h : AT W tt env b) (e : b = c) : AT W tt env c := e ▸ h
theorem at_tru {b : Bool} (h : AE W t env (rV W (.bl b))) : AT W (fun σ H Q => t σ H fun x H' => ∃ k, TruV W.K x H' k ∧ Q k H') env b := fun e F σ H L Q r q => h e F σ H L _ r fun v F1 H1 x1 y1 => by
  cases y1
  exact ⟨b, rfl, q F1 H1 x1⟩
theorem at_truI (h : AE W t env (rV W (.int i))) : AT W (fun σ H Q => t σ H fun x H' => ∃ k, TruV W.K x H' k ∧ Q k H') env (i != 0) := fun e F σ H L Q r q => h e F σ H L _ r fun v F1 H1 x1 y1 => by
  cases y1
  exact ⟨_, rfl, q F1 H1 x1⟩
theorem at_truL (h : AE W t env (rV W (.lst ds))) : AT W (fun σ H Q => t σ H fun x H' => ∃ k, TruV W.K x H' k ∧ Q k H') env (!ds.isEmpty) := fun e F σ H L Q r q => h e F σ H L _ r fun v F1 H1 x1 y1 => by
  cases y1 with
  | lst a b => exact ⟨_, .inl ⟨_, .of a, rfl⟩, by
      have : (!ds.isEmpty) = !(by assumption : List V).isEmpty := by cases b <;> rfl
      rw [← this]; exact q F1 H1 x1⟩
theorem cb_int : Cb W (fun xs H Q => (∃ i, xs = [.int i] ∧ Q (.int i) H) ∨ ∃ k, xs = [.bl k] ∧ Q (.int (if k then 1 else 0)) H) [.int i] (.int i) := fun F H vs Q s a q => by
  cases a with
  | cons a b =>
    cases b; cases a
    exact .inl ⟨i, rfl, q _ F H (.refl s) (rO_sh .int)⟩
theorem cb_abs : Cb W (fun xs H Q => ∃ i, xs = [.int i] ∧ Q (.int (if i < 0 then -i else i)) H) [.int i] (.int (if i < 0 then -i else i)) := fun F H vs Q s a q => by
  cases a with
  | cons a b =>
    cases b; cases a
    exact ⟨i, rfl, q _ F H (.refl s) (rO_sh .int)⟩
theorem cb_max2 : Cb W (fun xs H Q => ∃ i j, xs = [.int i, .int j] ∧ Q (.int (if j > i then j else i)) H) [.int i, .int j] (.int (if j > i then j else i)) := fun F H vs Q s a q => by
  cases a with
  | cons a b =>
    cases b with
    | cons b c =>
      cases c; cases b; cases a
      exact ⟨i, j, rfl, q _ F H (.refl s) (rO_sh .int)⟩
theorem cb_min2 : Cb W (fun xs H Q => ∃ i j, xs = [.int i, .int j] ∧ Q (.int (if j < i then j else i)) H) [.int i, .int j] (.int (if j < i then j else i)) := fun F H vs Q s a q => by
  cases a with
  | cons a b =>
    cases b with
    | cons b c =>
      cases c; cases b; cases a
      exact ⟨i, j, rfl, q _ F H (.refl s) (rO_sh .int)⟩
/-- list(xs), tuple(xs) -/
theorem cbL_list {ds : List D} : CbL W (fun xs H Q => ∃ p ys, xs = [.ref p] ∧ (SqL W.K H p ys ∨ SqT W.K H p ys) ∧ ∀ l, H l = none → Q (.ref l) (upd H l (.lst ys))) ds (.olst ds) := fun F H a vs Q s x y q =>
  ⟨a, vs, rfl, .inl (.of x), fun p hp => q _ F _ (.newH s hp) ⟨[p], .olst upd_same y.owns, by simp, fun x m => by
    rw [List.mem_singleton.mp m]; exact ⟨hp, s.free hp⟩⟩⟩
theorem cbL_tuple {ds : List D} : CbL W (fun xs H Q => ∃ p ys, xs = [.ref p] ∧ ((SqL W.K H p ys ∧ ∀ l, H l = none → Q (.ref l) (upd H l (.tup ys))) ∨ (SqT W.K H p ys ∧ Q (.ref p) H))) ds (.tup ds) := fun F H a vs Q s x y q =>
  ⟨a, vs, rfl, .inl ⟨.of x, fun p hp => q _ (upd F p (.tup vs)) _ (.new s hp) (rO_sh (.tup upd_same (y.mono (same_new (s.free hp)))))⟩⟩
theorem slots_start {F H : Hp} : ∀ {ds : List D} {vs : List V} (k : Nat), Shrs W F ds vs → Slots W F H (ds.map some ++ List.replicate k none) (vs.map some ++ List.replicate k none) []
  | [], [], 0, .nil => .nil
  | [], [], k + 1, .nil => .no (slots_start k .nil)
  | _ :: _, _ :: _, k, .cons h t => Slots.so (L := []) (M := []) (.sh h) (slots_start k t)
variable {P : List Nat} {E : WX} {A : AEnds}
def AG {T : Tbl} (W : Wd T) (P : List Nat) (g : TG) (d : D) (env : Py.Env) (k : Py.Env → Prop) : Prop :=
  ∀ (e : Ent) (F : Hp) (σ : St) (H : Hp) (L : List Addr) (v : V) (Q : St → Hp → Prop), P = e.pins.map (·.1) → Rel W e env F σ H L → Shr W F d v → (∀ env' σ' L', k env' → Rel W e env' F σ' H L' → Q σ' H) → g v σ H Q
def AGs {T : Tbl} (W : Wd T) (P : List Nat) (g : TGs) (ds : List D) (env : Py.Env) (k : Py.Env → Prop) : Prop :=
  ∀ (e : Ent) (F : Hp) (σ : St) (H : Hp) (L : List Addr) (vs : List V) (Q : St → Hp → Prop), P = e.pins.map (·.1) → Rel W e env F σ H L → Shrs W F ds vs → (∀ env' σ' L', k env' → Rel W e env' F σ' H L' → Q σ' H) → g vs σ H Q
theorem ag_name {k : Nat} {o' : Option D} {q : Py.Env → Prop} (hi' : env[k]? = some o') (hp : k ∉ P) (h : q (env.set k (some d))) : AG W P (gName k) d env q := fun e F σ H L v Q hP r s c => by
  have hi := (List.getElem?_eq_some_iff.mp hi').1
  obtain ⟨L', r2⟩ := r.set (i := k) (M := []) (.sh s) (by simpa using r.nd) (fun a m => nomatch m) hi fun p hm z => hp (by rw [hP]; exact List.mem_map.mpr ⟨p, hm, z⟩)
  exact c _ _ _ h r2
theorem ags_nil {q : Py.Env → Prop} (h : q env) : AGs W P gNil [] env q := fun e F σ H L v Q hP r s c => by
  cases s
  exact ⟨rfl, c _ _ _ h r⟩
theorem ags_cons {g : TG} {gs : TGs} {q : Py.Env → Prop} (h : AG W P g d env fun env' => AGs W P gs ds env' q) : AGs W P (gCons g gs) (d :: ds) env q := fun e F σ H L v Q hP r s c => by
  cases s with
  | cons a b => exact ⟨_, _, rfl, h e F σ H L _ _ hP r a fun env' σ' L' k r' => k e F σ' H L' _ Q hP r' b c⟩
theorem ag_tup {gs : TGs} {q : Py.Env → Prop} {k : Nat} (hl : ds.length = k) (h : AGs W P gs ds env q) : AG W P (gTup W.K k gs) (.tup ds) env q := fun e F σ H L v Q hP r s c => by
  cases s with
  | tup a b => exact ⟨_, _, rfl, .of (r.sF _ _ a), by rw [← b.length]; exact hl, h e F σ H L _ Q hP r b c⟩
theorem Rel.enter {e : Ent} {F H : Hp} {σ : St} {L : List Addr} (r : Rel W e env F σ H L) : Rel W { e with F0 := F } env F σ H L :=
  ⟨r.sF, r.slots, r.nd, r.dj, Same.refl _, fun _ _ h => .inl h, r.fr, r.ln, r.pin⟩
theorem Rel.leave {e : Ent} {F1 F H H1 : Hp} {σ σ1 : St} {L L1 : List Addr} {env1 : Py.Env} (r1 : Rel W e env1 F1 σ1 H1 L1) (r : Rel W { e with F0 := F1 } env F σ H L) : Rel W e env F σ H L :=
  ⟨r.sF, r.slots, r.nd, r.dj, r1.s0.trans r.s0, fun a o h => (r.nw a o h).elim (fun q => r1.nw a o q) .inr, r.fr, r.ln, r.pin⟩
end
end Py

namespace Py
open PySem L2
inductive Pst where
  | fld (f : String) | idx (k : Nat) | key (k : Key) | keyT (k : List Key)
def pos {α : Type} [DecidableEq α] (f : α) : List α → Option Nat
  | [] => none
  | x :: xs => if x = f then some 0 else (pos f xs).map (· + 1)
theorem pos_get {α : Type} [DecidableEq α] {f : α} : ∀ {ns : List α} {j : Nat}, pos f ns = some j → ns[j]? = some f
  | [], _, h => by cases h
  | x :: xs, j, h => by
    unfold pos at h
    split at h
    · rename_i e; cases h; rw [e]; rfl
    · cases q : pos f xs with
      | none => rw [q] at h; cases h
      | some k => rw [q] at h; cases h; exact pos_get (ns := xs) q
theorem zip_lookup {f : String} : ∀ {ns : List String} {vs : List V} {j : Nat}, pos f ns = some j → ((ns.map so).zip vs).lookup (so f) = vs[j]?
  | [], _, _, h => by cases h
  | x :: xs, [], j, h => by simp
  | x :: xs, v :: vs, j, h => by
    unfold pos at h
    rw [List.map_cons, List.zip_cons_cons, List.lookup_cons]
    split at h
    · rename_i e; cases h; subst e; simp
    · rename_i e
      cases q : pos f xs with
      | none => rw [q] at h; cases h
      | some k =>
        rw [q] at h; cases h
        rw [beq_eq_false_iff_ne.mpr (fun z => e (so_inj z.symm))]
        exact zip_lookup (ns := xs) q
theorem zip_lookup_none {f : String} : ∀ {ns : List String} {vs : List V}, pos f ns = none → ((ns.map so).zip vs).lookup (so f) = none
  | [], _, _ => by simp
  | x :: xs, [], _ => by simp
  | x :: xs, v :: vs, h => by
    unfold pos at h
    rw [List.map_cons, List.zip_cons_cons, List.lookup_cons]
    split at h
    · cases h
    · rename_i e
      rw [beq_eq_false_iff_ne.mpr (fun z => e (so_inj z.symm))]
      refine zip_lookup_none ?_
      cases q : pos f xs with
      | none => rfl
      | some k => rw [q] at h; cases h
def D.place : D → Pst → Option Nat
  | .oins _ ns _, .fld f => pos f ns
  | .olst _, .idx k => some k
  | .odic ks _, .key k => pos k ks
  | .odit ks _, .keyT k => pos k ks
  | _, _ => none
def D.parts : D → List D
  | .oins _ _ xs => xs
  | .olst xs => xs
  | .odic _ xs => xs
  | .odit _ xs => xs
  | _ => []
def D.withParts : D → List D → D
  | .oins C ns _, xs => .oins C ns xs
  | .olst _, xs => .olst xs
  | .odic ks _, xs => .odic ks xs
  | .odit ks _, xs => .odit ks xs
  | d, _ => d
def D.sub (d : D) (s : Pst) : Option D := (d.place s).bind fun j => d.parts[j]?
def D.put (d : D) (s : Pst) (n : D) : D := match d.place s with
  | some j => d.withParts (d.parts.set j n)
  | none => d
def D.at (d : D) : List Pst → Option D
  | [] => some d
  | s :: st => (d.sub s).bind fun x => x.at st
def D.putAt (d : D) : List Pst → D → D
  | [], n => n
  | s :: st, n => match d.sub s with
    | some x => d.put s (x.putAt st n)
    | none => d
/-- one step down the heap -/
def VStep (H : Hp) (v : V) (s : Pst) (w : V) : Prop := match s with
  | .fld f => ∃ a C dx fs, v = .ref a ∧ H a = some (.ins C dx fs) ∧ fs.lookup (so f) = some w
  | .idx k => ∃ a vs, v = .ref a ∧ H a = some (.lst vs) ∧ vs[k]? = some w
  | .key k => ∃ a kvs, v = .ref a ∧ H a = some (.dK kvs) ∧ ∃ j : Nat, pos k (kvs.map (·.1)) = some j ∧ (kvs.map (·.2))[j]? = some w
  | .keyT k => ∃ a kvs, v = .ref a ∧ H a = some (.dT kvs) ∧ ∃ j : Nat, pos k (kvs.map (·.1)) = some j ∧ (kvs.map (·.2))[j]? = some w
def VPath (H : Hp) (v : V) : List Pst → V → Prop
  | [], w => v = w
  | s :: st, w => ∃ u, VStep H v s u ∧ VPath H u st w
theorem VStep.mono {H H' : Hp} {v w : V} {s : Pst} (e : Same H H') (h : VStep H v s w) : VStep H' v s w := by
  cases s with
  | fld f => obtain ⟨a, C, dx, fs, h1, h2, h3⟩ := h; exact ⟨a, C, dx, fs, h1, e _ _ h2, h3⟩
  | idx k => obtain ⟨a, vs, h1, h2, h3⟩ := h; exact ⟨a, vs, h1, e _ _ h2, h3⟩
  | key k => obtain ⟨a, vs, h1, h2, h3⟩ := h; exact ⟨a, vs, h1, e _ _ h2, h3⟩
  | keyT k => obtain ⟨a, vs, h1, h2, h3⟩ := h; exact ⟨a, vs, h1, e _ _ h2, h3⟩
theorem VPath.mono {H H' : Hp} (e : Same H H') : ∀ {st : List Pst} {v w : V}, VPath H v st w → VPath H' v st w
  | [], _, _, h => h
  | _ :: _, _, _, ⟨u, h1, h2⟩ => ⟨u, h1.mono e, VPath.mono e h2⟩
theorem VStep.det {H : Hp} {v w u : V} {s : Pst} (h : VStep H v s w) (q : VStep H v s u) : w = u := by
  cases s with
  | fld f =>
    obtain ⟨a, C, dx, fs, h1, h2, h3⟩ := h
    obtain ⟨b, C', dx', fs', q1, q2, q3⟩ := q
    rw [h1] at q1; cases q1
    rw [h2] at q2; cases q2
    rw [h3] at q3; exact Option.some.inj q3
  | idx k =>
    obtain ⟨a, vs, h1, h2, h3⟩ := h
    obtain ⟨b, ws, q1, q2, q3⟩ := q
    rw [h1] at q1; cases q1
    rw [h2] at q2; cases q2
    rw [h3] at q3; exact Option.some.inj q3
  | key k =>
    obtain ⟨a, vs, h1, h2, j, h3, h4⟩ := h
    obtain ⟨b, ws, q1, q2, j', q3, q4⟩ := q
    rw [h1] at q1; cases q1
    rw [h2] at q2; cases q2
    rw [h3] at q3; cases q3
    rw [h4] at q4; exact Option.some.inj q4
  | keyT k =>
    obtain ⟨a, vs, h1, h2, j, h3, h4⟩ := h
    obtain ⟨b, ws, q1, q2, j', q3, q4⟩ := q
    rw [h1] at q1; cases q1
    rw [h2] at q2; cases q2
    rw [h3] at q3; cases q3
    rw [h4] at q4; exact Option.some.inj q4
theorem VPath.det {H : Hp} : ∀ {st : List Pst} {v w u : V}, VPath H v st w → VPath H v st u → w = u
  | [], _, _, _, h, q => by cases h; cases q; rfl
  | _ :: _, _, _, _, ⟨x, h1, h2⟩, ⟨y, q1, q2⟩ => by
    cases h1.det q1
    exact VPath.det h2 q2
theorem VPath.snoc {H : Hp} : ∀ {st : List Pst} {v w u : V} {s : Pst}, VPath H v st w → VStep H w s u → VPath H v (st ++ [s]) u
  | [], _, _, _, _, h, q => by cases h; exact ⟨_, q, rfl⟩
  | _ :: _, _, _, _, _, ⟨x, h1, h2⟩, q => ⟨x, h1, VPath.snoc h2 q⟩
section
variable {T : Tbl} {W : Wd T} {F H : Hp}
/-- one of several owned things taken out -/
theorem Owns.focus : ∀ {xs : List D} {vs : List V} {L : List Addr} {j : Nat} {n : D}, Owns W F H xs vs L → L.Nodup → xs[j]? = some n →
    ∃ vn Ln Lr, vs[j]? = some vn ∧ Own W F H n vn Ln ∧ (Ln ++ Lr).Nodup ∧ (∀ a, a ∈ Ln ∨ a ∈ Lr ↔ a ∈ L) ∧
      ∀ F' H' n' Ln', Same F F' → (∀ a ∈ Lr, ∀ o, H a = some o → H' a = some o) → Own W F' H' n' vn Ln' → (Ln' ++ Lr).Nodup → ∃ L', Owns W F' H' (xs.set j n') vs L' ∧ L'.Nodup ∧ ∀ a, a ∈ L' ↔ a ∈ Ln' ∨ a ∈ Lr
  | _, _, _, _, _, .nil, _, e => by simp at e
  | _, _, _, 0, n, .cons (L := L1) (M := M1) (v := v1) o t, nd, e => by
    simp at e; subst e
    refine ⟨v1, L1, M1, rfl, o, nd, fun a => List.mem_append.symm, fun F' H' n' Ln' s k o' nd' => ⟨Ln' ++ M1, ?_, nd', fun a => List.mem_append⟩⟩
    exact .cons o' (t.frame s k)
  | _, _, _, j + 1, n, .cons (L := L1) (M := M1) (v := v1) (d := d1) (ds := ds1) o t, nd, e => by
    rw [List.nodup_append] at nd
    obtain ⟨n1, n2, n3⟩ := nd
    obtain ⟨vn, Ln, Lr, h1, h2, h3, h4, h5⟩ := t.focus (j := j) n2 (by simpa using e)
    have hd : ∀ a ∈ L1, a ∉ Ln ∧ a ∉ Lr := fun a ha => ⟨fun z => n3 a ha a ((h4 a).mp (.inl z)) rfl, fun z => n3 a ha a ((h4 a).mp (.inr z)) rfl⟩
    refine ⟨vn, Ln, L1 ++ Lr, by simpa using h1, h2, ?_, fun a => ?_, fun F' H' n' Ln' s k o' nd' => ?_⟩
    · rw [List.nodup_append] at h3 ⊢
      refine ⟨h3.1, ?_, fun a ha b hb q => ?_⟩
      · rw [List.nodup_append]
        exact ⟨n1, h3.2.1, fun a ha b hb q => (hd a ha).2 (q ▸ hb)⟩
      · subst q
        rcases List.mem_append.mp hb with z | z
        · exact (hd a z).1 ha
        · exact h3.2.2 a ha a z rfl
    · rw [List.mem_append, List.mem_append, ← h4 a]
      constructor
      · rintro (z | z | z)
        · exact .inr (.inl z)
        · exact .inl z
        · exact .inr (.inr z)
      · rintro (z | z | z)
        · exact .inr (.inl z)
        · exact .inl z
        · exact .inr (.inr z)
    · rw [List.nodup_append] at nd'
      obtain ⟨p1, p2, p3⟩ := nd'
      rw [List.nodup_append] at p2
      obtain ⟨L', q1, q2, q3⟩ := h5 F' H' n' Ln' s (fun a m => k a (List.mem_append_right _ m)) o' (by
        rw [List.nodup_append]
        exact ⟨p1, p2.2.1, fun a ha b hb => p3 a ha b (List.mem_append_right _ hb)⟩)
      refine ⟨L1 ++ L', .cons (o.frame s fun a m => k a (List.mem_append_left _ m)) q1, ?_, fun a => ?_⟩
      · rw [List.nodup_append]
        refine ⟨n1, q2, fun a ha b hb q => ?_⟩
        subst q
        rcases (q3 a).mp hb with z | z
        · exact p3 a z a (List.mem_append_left _ ha) rfl
        · exact p2.2.2 a ha a z rfl
      · rw [List.mem_append, List.mem_append, q3 a]
        constructor
        · rintro (z | z | z)
          · exact .inr (.inl z)
          · exact .inl z
          · exact .inr (.inr z)
        · rintro (z | z | z)
          · exact .inr (.inl z)
          · exact .inl z
          · exact .inr (.inr z)
theorem zipK_get {κ : Type} {ks : List κ} {vs : List V} (h : ks.length = vs.length) : ((ks.zip vs).map (·.1)) = ks ∧ ((ks.zip vs).map (·.2)) = vs := ⟨by rw [List.map_fst_zip (by omega)], by rw [List.map_snd_zip (by omega)]⟩
/-- a part of an owned thing taken out -/
theorem Own.focus1 {d n : D} {v : V} {L : List Addr} {s : Pst} (o : Own W F H d v L) (nd : L.Nodup) (h : d.sub s = some n) :
    ∃ vn Ln Lr, VStep H v s vn ∧ Own W F H n vn Ln ∧ (Ln ++ Lr).Nodup ∧ (∀ a, a ∈ Ln ∨ a ∈ Lr ↔ a ∈ L) ∧
      ∀ F' H' n' Ln', Same F F' → (∀ a ∈ Lr, ∀ o, H a = some o → H' a = some o) → Own W F' H' n' vn Ln' → (Ln' ++ Lr).Nodup → ∃ L', Own W F' H' (d.put s n') v L' ∧ L'.Nodup ∧ ∀ a, a ∈ L' ↔ a ∈ Ln' ∨ a ∈ Lr := by
  have gen : ∀ {a : Addr} {xs : List D} {vs : List V} {M : List Addr} {j : Nat} {ho : HO} {G : List D → D}, H a = some ho → Owns W F H xs vs M → (a :: M).Nodup → xs[j]? = some n → 
      (∀ F' H' ys M', H' a = some ho → Owns W F' H' ys vs M' → Own W F' H' (G ys) (.ref a) (a :: M')) → ∃ vn, vs[j]? = some vn ∧ ∃ Ln Lr, Own W F H n vn Ln ∧ (Ln ++ Lr).Nodup ∧ (∀ b, b ∈ Ln ∨ b ∈ Lr ↔ b ∈ a :: M) ∧
      ∀ F' H' n' Ln', Same F F' → (∀ a ∈ Lr, ∀ o, H a = some o → H' a = some o) → Own W F' H' n' vn Ln' → (Ln' ++ Lr).Nodup → ∃ L', Own W F' H' (G (xs.set j n')) (.ref a) L' ∧ L'.Nodup ∧ ∀ b, b ∈ L' ↔ b ∈ Ln' ∨ b ∈ Lr := by
    intro a xs vs M j ho G ha os nd hj mk
    rw [List.nodup_cons] at nd
    obtain ⟨vn, Ln, Lr, h1, h2, h3, h4, h5⟩ := os.focus nd.2 hj
    have na : a ∉ Ln ∧ a ∉ Lr := ⟨fun z => nd.1 ((h4 a).mp (.inl z)), fun z => nd.1 ((h4 a).mp (.inr z))⟩
    refine ⟨vn, h1, Ln, a :: Lr, h2, ?_, fun b => ?_, fun F' H' n' Ln' s k o' nd' => ?_⟩
    · rw [List.nodup_append] at h3 ⊢
      refine ⟨h3.1, List.nodup_cons.mpr ⟨na.2, h3.2.1⟩, fun x hx y hy q => ?_⟩
      subst q
      rcases List.mem_cons.mp hy with z | z
      · subst z; exact na.1 hx
      · exact h3.2.2 x hx x z rfl
    · rw [List.mem_cons, List.mem_cons, ← h4 b]
      constructor
      · rintro (z | z | z)
        · exact .inr (.inl z)
        · exact .inl z
        · exact .inr (.inr z)
      · rintro (z | z | z)
        · exact .inr (.inl z)
        · exact .inl z
        · exact .inr (.inr z)
    · rw [List.nodup_append] at nd'
      obtain ⟨p1, p2, p3⟩ := nd'
      rw [List.nodup_cons] at p2
      obtain ⟨L', q1, q2, q3⟩ := h5 F' H' n' Ln' s (fun b m => k b (List.mem_cons_of_mem _ m)) o' (by
        rw [List.nodup_append]
        exact ⟨p1, p2.2, fun x hx y hy => p3 x hx y (List.mem_cons_of_mem _ hy)⟩)
      refine ⟨a :: L', mk F' H' _ L' (k a (List.mem_cons_self ..) _ ha) q1, List.nodup_cons.mpr ⟨fun z => ?_, q2⟩, fun b => ?_⟩
      · rcases (q3 a).mp z with z | z
        · exact p3 a z a (List.mem_cons_self ..) rfl
        · exact p2.1 z
      · rw [List.mem_cons, List.mem_cons, q3 b]
        constructor
        · rintro (z | z | z)
          · exact .inr (.inl z)
          · exact .inl z
          · exact .inr (.inr z)
        · rintro (z | z | z)
          · exact .inr (.inl z)
          · exact .inl z
          · exact .inr (.inr z)
  unfold D.sub at h
  cases hp : d.place s with
  | none => rw [hp] at h; cases h
  | some j =>
    rw [hp] at h
    have h : d.parts[j]? = some n := h
    have hput : ∀ n', d.put s n' = d.withParts (d.parts.set j n') := fun n' => by unfold D.put; rw [hp]
    simp only [hput]
    cases o with
    | sh y =>
      cases y <;> (unfold D.place at hp; cases hp)
    | @olst a xs vs M ha os =>
      cases s with
      | idx k =>
        cases hp
        obtain ⟨vn, h1, Ln, Lr, h2⟩ := gen (G := .olst) ha os nd h fun F' H' ys M' q r => .olst q r
        exact ⟨vn, Ln, Lr, ⟨a, vs, rfl, ha, h1⟩, h2⟩
      | fld f => cases hp
      | key k => cases hp
      | keyT k => cases hp
    | @odic a ks xs vs M ha hl hn os =>
      cases s with
      | key k =>
        obtain ⟨vn, h1, Ln, Lr, h2⟩ := gen (G := .odic ks) ha os nd h fun F' H' ys M' q r => .odic q hl hn r
        obtain ⟨z1, z2⟩ := zipK_get hl
        exact ⟨vn, Ln, Lr, ⟨a, _, rfl, ha, j, by rw [z1]; exact hp, by rw [z2]; exact h1⟩, h2⟩
      | fld f => cases hp
      | idx k => cases hp
      | keyT k => cases hp
    | @odit a ks xs vs M ha hl hn os =>
      cases s with
      | keyT k =>
        obtain ⟨vn, h1, Ln, Lr, h2⟩ := gen (G := .odit ks) ha os nd h fun F' H' ys M' q r => .odit q hl hn r
        obtain ⟨z1, z2⟩ := zipK_get hl
        exact ⟨vn, Ln, Lr, ⟨a, _, rfl, ha, j, by rw [z1]; exact hp, by rw [z2]; exact h1⟩, h2⟩
      | fld f => cases hp
      | idx k => cases hp
      | key k => cases hp
    | odig => cases s <;> cases hp
    | @oins a C dx ns xs vs M ha hc hl os =>
      cases s with
      | fld f =>
        obtain ⟨vn, h1, Ln, Lr, h2⟩ := gen (G := .oins C ns) ha os nd h fun F' H' ys M' q r => .oins q hc hl r
        exact ⟨vn, Ln, Lr, ⟨a, _, dx, _, rfl, ha, by rw [zip_lookup hp]; exact h1⟩, h2⟩
      | idx k => cases hp
      | key k => cases hp
      | keyT k => cases hp
theorem Own.focus : ∀ {st : List Pst} {d n : D} {v : V} {L : List Addr}, Own W F H d v L → L.Nodup → d.at st = some n →
    ∃ vn Ln Lr, VPath H v st vn ∧ Own W F H n vn Ln ∧ (Ln ++ Lr).Nodup ∧ (∀ a, a ∈ Ln ∨ a ∈ Lr ↔ a ∈ L) ∧
      ∀ F' H' n' Ln', Same F F' → (∀ a ∈ Lr, ∀ o, H a = some o → H' a = some o) → Own W F' H' n' vn Ln' → (Ln' ++ Lr).Nodup → ∃ L', Own W F' H' (d.putAt st n') v L' ∧ L'.Nodup ∧ ∀ a, a ∈ L' ↔ a ∈ Ln' ∨ a ∈ Lr
  | [], d, n, v, L, o, nd, h => by
    cases h
    exact ⟨v, L, [], rfl, o, by simpa using nd, fun a => by simp, fun F' H' n' Ln' s k o' nd' => ⟨Ln', o', by simpa using nd', fun a => by simp⟩⟩
  | s :: st, d, n, v, L, o, nd, h => by
    unfold D.at at h
    cases hs : d.sub s with
    | none => rw [hs] at h; cases h
    | some x =>
      rw [hs] at h
      obtain ⟨vx, Lx, Ly, h1, h2, h3, h4, h5⟩ := o.focus1 nd hs
      obtain ⟨vn, Ln, Lr, k1, k2, k3, k4, k5⟩ := h2.focus (st := st) (List.nodup_append.mp h3).1 h
      have hput : ∀ n', d.putAt (s :: st) n' = d.put s (x.putAt st n') := fun n' => by
        show (match d.sub s with | some x => d.put s (x.putAt st n') | none => d) = _
        rw [hs]
      simp only [hput]
      rw [List.nodup_append] at h3
      obtain ⟨m1, m2, m3⟩ := h3
      refine ⟨vn, Ln, Lr ++ Ly, ⟨vx, h1, k1⟩, k2, ?_, fun a => ?_, fun F' H' n' Ln' sm k o' nd' => ?_⟩
      · rw [← List.append_assoc, List.nodup_append]
        refine ⟨k3, m2, fun a ha b hb => m3 a ?_ b hb⟩
        exact (k4 a).mp (List.mem_append.mp ha)
      · rw [List.mem_append, ← h4 a, ← k4 a]
        constructor
        · rintro (z | z | z)
          · exact .inl (.inl z)
          · exact .inl (.inr z)
          · exact .inr z
        · rintro ((z | z) | z)
          · exact .inl z
          · exact .inr (.inl z)
          · exact .inr (.inr z)
      · rw [← List.append_assoc, List.nodup_append] at nd'
        obtain ⟨p1, p2, p3⟩ := nd'
        obtain ⟨L', q1, q2, q3⟩ := k5 F' H' n' Ln' sm (fun a m => k a (List.mem_append_left _ m)) o' p1
        obtain ⟨L2, r1, r2, r3⟩ := h5 F' H' _ L' sm (fun a m => k a (List.mem_append_right _ m)) q1 (by
          rw [List.nodup_append]
          exact ⟨q2, p2, fun a ha b hb => p3 a (List.mem_append.mpr ((q3 a).mp ha)) b hb⟩)
        refine ⟨L2, r1, r2, fun a => ?_⟩
        rw [r3 a, q3 a, List.mem_append]
        constructor
        · rintro ((z | z) | z)
          · exact .inl z
          · exact .inr (.inl z)
          · exact .inr (.inr z)
        · rintro (z | z | z)
          · exact .inl (.inl z)
          · exact .inl (.inr z)
          · exact .inr z
theorem D.at_snoc {s : Pst} {x n : D} : ∀ {st : List Pst} {d : D}, d.at st = some n → n.sub s = some x → d.at (st ++ [s]) = some x
  | [], d, h, q => by
    have h : some d = some n := h
    cases h
    show (n.sub s).bind _ = _
    rw [q]; rfl
  | p :: st, d, h, q => by
    obtain ⟨y, h1, h2⟩ := Option.bind_eq_some_iff.mp h
    show (d.sub p).bind _ = _
    rw [h1]
    exact D.at_snoc h2 q
theorem Owns.snoc : ∀ {xs : List D} {vs : List V} {M M2 : List Addr} {d : D} {v : V}, Owns W F H xs vs M → Own W F H d v M2 → Owns W F H (xs ++ [d]) (vs ++ [v]) (M ++ M2)
  | _, _, _, M2, _, _, .nil, o => by
    have h := Owns.cons o (Owns.nil (W := W) (F := F) (H := H))
    rw [List.append_nil] at h
    exact h
  | _, _, _, M2, _, _, .cons (L := L) (M := M) h t, o => by
    have q := Owns.cons h (t.snoc o)
    rw [← List.append_assoc] at q
    exact q
/-- a place of a slot's thing: what stands there, and how it is changed -/
theorem Rel.focus {e : Ent} {env : Py.Env} {σ : St} {L : List Addr} {i : Nat} {d0 n : D} {st : List Pst} (r : Rel W e env F σ H L) (h0 : env[i]? = some (some d0)) (h1 : d0.at st = some n) :
    ∃ v0 vn Ln Lr, σ[i]? = some (some v0) ∧ VPath H v0 st vn ∧ Own W F H n vn Ln ∧ (Ln ++ Lr).Nodup ∧ (∀ a, a ∈ Ln ∨ a ∈ Lr ↔ a ∈ L) ∧
      ∀ F' H' n' Ln', Same F F' → Same F' H' → (∀ a o, a ∉ Ln → H a = some o → H' a = some o) → (∀ a o, F' a = some o → F a = some o ∨ (H a = none ∨ a ∉ L ∧ (a ∈ e.L0 ∨ e.H0 a = none)) ∨ a ∈ Ln) → Own W F' H' n' vn Ln' → (Ln' ++ Lr).Nodup → (∀ a ∈ Ln', F' a = none ∧ (a ∈ Ln ∨ a ∈ e.L0 ∨ e.H0 a = none)) →
        ∃ L', Rel W e (env.set i (some (d0.putAt st n'))) F' σ H' L' ∧ ∀ a ∈ L', a ∈ Ln' ∨ a ∈ Lr := by
  obtain ⟨v0, Li, Lj, e1, o, sl, nd, mem⟩ := r.slots.take r.nd h0
  obtain ⟨vn, Ln, Lr, k1, k2, k3, k4, k5⟩ := o.focus (List.nodup_append.mp nd).1 h1
  rw [List.nodup_append] at nd
  obtain ⟨m1, m2, m3⟩ := nd
  have tot : ∀ a, a ∈ Ln ∨ a ∈ Lr ++ Lj ↔ a ∈ L := fun a => by
    rw [List.mem_append, ← mem a, ← k4 a]
    constructor
    · rintro (z | z | z)
      · exact .inl (.inl z)
      · exact .inl (.inr z)
      · exact .inr z
    · rintro ((z | z) | z)
      · exact .inl z
      · exact .inr (.inl z)
      · exact .inr (.inr z)
  have ndT : (Ln ++ (Lr ++ Lj)).Nodup := by
    rw [← List.append_assoc, List.nodup_append]
    exact ⟨k3, m2, fun a ha b hb => m3 a ((k4 a).mp (List.mem_append.mp ha)) b hb⟩
  refine ⟨v0, vn, Ln, Lr ++ Lj, e1, k1, k2, ndT, tot, fun F' H' n' Ln' sF sH fr nw o' nd' hn => ?_⟩
  have notn : ∀ a ∈ Lr ++ Lj, a ∉ Ln := fun a ha z => (List.nodup_append.mp ndT).2.2 a z a ha rfl
  have keep : ∀ a ∈ Lr ++ Lj, ∀ o, H a = some o → H' a = some o := fun a ha o q => fr a o (notn a ha) q
  rw [← List.append_assoc, List.nodup_append] at nd'
  obtain ⟨p1, p2, p3⟩ := nd'
  obtain ⟨L', q1, q2, q3⟩ := k5 F' H' n' Ln' sF (fun a m => keep a (List.mem_append_left _ m)) o' p1
  have sl' := sl.frame (F' := F') (H' := H') sF fun a m => keep a (List.mem_append_right _ m)
  have hi : i < env.length := (List.getElem?_eq_some_iff.mp h0).1
  obtain ⟨L2, s1, s2, s3⟩ := sl'.put (i := i) (v := v0) q1 (by
    rw [List.nodup_append]
    exact ⟨q2, p2, fun a ha b hb => p3 a (List.mem_append.mpr ((q3 a).mp ha)) b hb⟩) (by simpa using hi)
  have hset : (env.set i none).set i (some (d0.putAt st n')) = env.set i (some (d0.putAt st n')) := by rw [List.set_set]
  have hσ : σ.set i (some v0) = σ := by
    apply List.ext_getElem?
    intro k
    by_cases hk : i = k
    · subst hk
      obtain ⟨hlt, _⟩ := List.getElem?_eq_some_iff.mp e1
      rw [List.getElem?_set_self hlt, e1]
    · rw [List.getElem?_set_ne hk]
  rw [hset, hσ] at s1
  have inL : ∀ a ∈ L2, (a ∈ Ln' ∨ a ∈ Lr ++ Lj) := fun a ha => by
    rcases s3 a ha with z | z
    · rcases (q3 a).mp z with z | z
      · exact .inl z
      · exact .inr (List.mem_append_left _ z)
    · exact .inr (List.mem_append_right _ z)
  have nr : ∀ a ∈ Lr ++ Lj, F' a = none := fun a ha => by
    obtain ⟨o, ho⟩ := r.slots.lives a ((tot a).mp (.inr ha))
    cases q : F' a with
    | none => rfl
    | some u =>
      rcases nw a u q with z | (z | z) | z
      · rw [r.dj a ((tot a).mp (.inr ha))] at z; cases z
      · rw [ho] at z; cases z
      · exact absurd ((tot a).mp (.inr ha)) z.1
      · exact absurd z (notn a ha)
  refine ⟨L2, ⟨sH, s1, s2, fun a ha => ?_, r.s0.trans sF, fun a o q => ?_, fun a o m q => ?_, fun a ha => ?_, r.pin⟩, inL⟩
  · rcases inL a ha with z | z
    · exact (hn a z).1
    · exact nr a z
  · rcases nw a o q with z | (z | z) | z
    · exact r.nw a o z
    · exact .inr ((r.h0 z).elim .inr .inl)
    · exact .inr (z.2.elim .inr .inl)
    · exact .inr ((r.ln a ((tot a).mp (.inl z))).elim .inr .inl)
  · have h := r.fr a o m q
    refine fr a o (fun z => ?_) h
    rcases r.ln a ((tot a).mp (.inl z)) with y | y
    · exact m y
    · rw [q] at y; cases y
  · rcases inL a ha with z | z
    · rcases (hn a z).2 with y | y
      · exact r.ln a ((tot a).mp (.inl y))
      · exact y
    · exact r.ln a ((tot a).mp (.inr z))
end
end Py

namespace Py
open PySem L2
section
variable {T : Tbl} {W : Wd T} {env : Py.Env} {t ta tb tk : TE} {tr : TA} {d d0 d1 d2 : D} {i : Nat} {st : List Pst} {P : List Nat} {E : WX} {A : AEnds}
/-- the thing at a place of a slot -/
def ALoc {T : Tbl} (W : Wd T) (t : TE) (env : Py.Env) (i : Nat) (st : List Pst) : Prop :=
  ∀ (e : Ent) (F : Hp) (σ : St) (H : Hp) (L : List Addr) (v0 : V) (Q : VK), Rel W e env F σ H L → σ[i]? = some (some v0) → (∀ v F' H', Ext F H F' H' → VPath H' v0 st v → Q v H') → t σ H Q
theorem loc_var : ALoc W (tVar i) env i [] := fun e F σ H L v0 Q r h q => ⟨v0, h, q v0 F H (.refl r.sF) rfl⟩
theorem loc_fld {c : String} {ns : List String} {xs : List D} {f : String} {j : Nat} (h : ALoc W t env i st) (h0 : env[i]? = some (some d0)) (h1 : d0.at st = some (.oins c ns xs)) (hf : T.fOk c f = true) (hp : pos f ns = some j) :
    ALoc W (tFld W.K t (so f)) env i (st ++ [.fld f]) := fun e F σ H L v0 Q r hs q =>
  h e F σ H L v0 _ r hs fun v F1 H1 x1 p1 => by
    obtain ⟨v0', vn, Ln, Lr, e1, p2, o, _⟩ := (r.ext x1).focus h0 h1
    rw [hs] at e1; cases e1
    cases p1.det p2
    cases o with
    | sh y => cases y
    | @oins a c dx ns xs vs M ha hc hl os =>
      have hj := (List.getElem?_eq_some_iff.mp (pos_get hp)).1
      have hw : vs[j]? = some (vs[j]'(by omega)) := List.getElem?_eq_getElem (by omega)
      refine ⟨a, _, dx, _, _, rfl, ha, W.cl c hc, W.na c f hc hf, (zip_lookup hp).trans hw, q _ F1 H1 x1 (p1.snoc ⟨a, _, dx, _, rfl, ha, (zip_lookup hp).trans hw⟩)⟩
theorem loc_idx {xs : List D} {k : Int} {j : Nat} (h : ALoc W t env i st) (h0 : env[i]? = some (some d0)) (h1 : d0.at st = some (.olst xs)) (hk : AE W tk env (rV W (.int k))) (hj : ixN xs.length k = some j) :
    ALoc W (tOp (rIxU W.K) t tk) env i (st ++ [.idx j]) := fun e F σ H L v0 Q r hs q =>
  h e F σ H L v0 _ r hs fun v F1 H1 x1 p1 => hk e F1 σ H1 L _ (r.ext x1) fun u F2 H2 x2 y2 => by
    obtain ⟨v0', vn, Ln, Lr, e1, p2, o, _⟩ := ((r.ext x1).ext x2).focus h0 h1
    rw [hs] at e1; cases e1
    have p1' := p1.mono x2.h
    cases p1'.det p2
    cases y2
    cases o with
    | sh y => cases y
    | @olst a xs vs M ha os =>
      have hlt := (ixN_seq hj).2.1
      rw [os.length] at hlt
      have hw : vs[j]? = some (vs[j]'hlt) := List.getElem?_eq_getElem hlt
      refine .inl ⟨a, vs, k, _, rfl, rfl, .of ha, ?_, q _ F2 H2 (x1.trans x2) (p1'.snoc ⟨a, vs, rfl, ha, hw⟩)⟩
      unfold atI
      rw [← os.length, hj]
      exact hw
end
end Py

namespace Py
open PySem L2
section
variable {X : Cx}
def CMulU (i j : Int) : Prop := CMul i j ∨ CMulW i j
def CDivU (i j : Int) : Prop := CDiv i j ∨ CDivW i j
theorem cmul_l {i j : Int} (h1 : -(2 ^ 64) < i) (h2 : i < 2 ^ 64) : CMulU i j := .inl (.inl ⟨h1, h2⟩)
theorem cmul_r {i j : Int} (h1 : -(2 ^ 64) < j) (h2 : j < 2 ^ 64) : CMulU i j := .inl (.inr ⟨h1, h2⟩)
theorem cmul_w {i j : Int} (h1 : i.natAbs < 2 ^ 4000) (h2 : j.natAbs < 2 ^ 4000) : CMulU i j := .inr (wide_mul h1 h2 (by decide) (by decide) (by decide))
theorem cdiv_s {i j : Int} (h1 : 0 < j) (h2 : j < 1073741824) : CDivU i j := .inl ⟨h1, h2⟩
theorem cdiv_w {i j : Int} (h1 : 0 < j) (h2 : j.natAbs < 2 ^ 4000) : CDivU i j := .inr (wide_div h1 h2 (by decide) (by decide))
theorem op_mulU : OpR X (binaryOp .Mult) (rI CMulU fun i j => .int (i * j)) := opI fun _ _ _ _ _ _ _ hc q => PyProof.Rows.mul_int q (hc.elim CMul.ok CMulW.ok)
theorem op_divU : OpR X (binaryOp .FloorDiv) (rI CDivU fun i j => .int (i / j)) := fun pins s σ H x y v u Q I rx ry h => by
  obtain ⟨i, j, e1, e2, hc, q⟩ := h
  rcases hc with hc | hc
  · exact op_fdiv pins s σ H x y v u Q I rx ry ⟨i, j, e1, e2, hc, q⟩
  · exact op_fdivW pins s σ H x y v u Q I rx ry ⟨i, j, e1, e2, hc, q⟩
theorem opAdd : OpR X (binaryOp .Add) (fun x y H Q => rI0 (fun i j => .int (i + j)) x y H Q ∨ (fun x y H Q => rCat x y H Q ∨ rCatT X.K x y H Q) x y H Q) := OpR.or op_add (OpR.or op_cat op_catT)
theorem opAddK {K : PySem.W.Frag} (h : X.K = K) : OpR X (binaryOp .Add) (fun x y H Q => rI0 (fun i j => .int (i + j)) x y H Q ∨ (fun x y H Q => rCat x y H Q ∨ rCatT K x y H Q) x y H Q) := h ▸ opAdd
theorem opMul : OpR X (binaryOp .Mult) (rI CMulU fun i j => .int (i * j)) := op_mulU
theorem opDiv : OpR X (binaryOp .FloorDiv) (rI CDivU fun i j => .int (i / j)) := op_divU
theorem opEq (hu : X.A.units + 64 < cLine) : OpR X (compareOp .Eq) (fun x y H Q => rEq x y H Q ∨ rEqD X.K x y H Q) := OpR.or op_eq (op_eqD hu)
theorem opNe (hu : X.A.units + 64 < cLine) : OpR X (compareOp .NotEq) (fun x y H Q => rNe x y H Q ∨ rNeD X.K x y H Q) := OpR.or op_ne (op_neD hu)
theorem opLt (hu : X.A.units < cLine) : OpR X (compareOp .Lt) (fun x y H Q => rI0 (fun i j => .bl (decide (i < j))) x y H Q ∨ rLtT X.K x y H Q) := OpR.or op_lt (op_ltT hu)
theorem ixU : IxR X (rIxU X.K) := ix_list.or ix_tup
theorem ixUK {K : PySem.W.Frag} (h : X.K = K) : IxR X (rIxU K) := h ▸ ixU
theorem call_intU : CallR X (.type "int") (fun xs H Q => (∃ i, xs = [.int i] ∧ Q (.int i) H) ∨ ∃ k, xs = [.bl k] ∧ Q (.int (if k then 1 else 0)) H) := call_int1
theorem call_absU : CallR X (.builtin "abs") (fun xs H Q => ∃ i, xs = [.int i] ∧ Q (.int (if i < 0 then -i else i)) H) := call_abs
theorem call_lenU : CallR X (.builtin "len") (rLenU X.K) := call_len_seq
theorem call_listU : CallR X (.type "list") (fun xs H Q => ∃ p ys, xs = [.ref p] ∧ (SqL X.K H p ys ∨ SqT X.K H p ys) ∧ ∀ l, H l = none → Q (.ref l) (upd H l (.lst ys))) := call_list_of
theorem call_tupleU : CallR X (.type "tuple") (fun xs H Q => ∃ p ys, xs = [.ref p] ∧ ((SqL X.K H p ys ∧ ∀ l, H l = none → Q (.ref l) (upd H l (.tup ys))) ∨ (SqT X.K H p ys ∧ Q (.ref p) H))) := call_tuple_of
theorem pt_truU {a : Expr} {ta : TE} (ha : PE X a ta) (he : ∀ whole, isTrue a X.env whole = (do let v ← whole; standAt a.pos; holding [v] (truthy v)) := by intro _; rfl) :
    PT X a (fun σ H Q => ta σ H fun x H' => ∃ k, TruV X.K x H' k ∧ Q k H') := pt_truth ha he
end
end Py

namespace Py
open PySem L2
section
variable {T : Tbl} {W : Wd T} {env : Py.Env} {t ta tb te : TE} {tr : TA} {d d0 d1 d2 : D} {ds es : List D} {i : Nat} {P : List Nat} {E : WX} {A : AEnds}
/-- J gives just these, one after another, as long as the shared part stands -/
structure Seq {T : Tbl} (W : Wd T) (J : It) (ds : List D) (F0 : Hp) : Prop where
  go : ∀ (i : Nat) (d : D) (F H : Hp), Same F0 F → Same F H → ds[i]? = some d → J.go i H ∧ ∀ x H', J.yld i H x H' → ∃ F', Ext F H F' H' ∧ Shr W F' d x
  stop : ∀ (F H : Hp), Same F0 F → Same F H → J.stop ds.length H
def AIt {T : Tbl} (W : Wd T) (wi : TI) (env : Py.Env) (ds : List D) : Prop :=
  ∀ (e : Ent) (F : Hp) (σ : St) (H : Hp) (L : List Addr) (R : It → Hp → Prop), Rel W e env F σ H L → (∀ J F' H', Ext F H F' H' → Seq W J ds F' → R J H') → wi σ H R
theorem seq_list {F0 : Hp} {a : Addr} {vs : List V} (h : F0 a = some (.lst vs)) (hs : Shrs W F0 ds vs) : Seq W (Itl W.K a) ds F0 where
  go := fun i d F H s1 s2 hd => by
    obtain ⟨v, hv, sv⟩ := hs.get hd
    refine ⟨⟨vs, v, .of (s2 _ _ (s1 _ _ h)), hv⟩, fun x H' y => ?_⟩
    obtain ⟨rfl, y⟩ := y
    have := y vs (.of (s2 _ _ (s1 _ _ h)))
    rw [hv] at this; cases this
    exact ⟨F, .refl s2, sv.mono s1⟩
  stop := fun F H s1 s2 => ⟨vs, .of (s2 _ _ (s1 _ _ h)), by rw [hs.length]; exact Nat.le_refl _⟩
theorem seq_tup {F0 : Hp} {a : Addr} {vs : List V} (h : F0 a = some (.tup vs)) (hs : Shrs W F0 ds vs) : Seq W (Itt W.K a) ds F0 where
  go := fun i d F H s1 s2 hd => by
    obtain ⟨v, hv, sv⟩ := hs.get hd
    refine ⟨⟨vs, v, .of (s2 _ _ (s1 _ _ h)), hv⟩, fun x H' y => ?_⟩
    obtain ⟨rfl, y⟩ := y
    have := y vs (.of (s2 _ _ (s1 _ _ h)))
    rw [hv] at this; cases this
    exact ⟨F, .refl s2, sv.mono s1⟩
  stop := fun F H s1 s2 => ⟨vs, .of (s2 _ _ (s1 _ _ h)), by rw [hs.length]; exact Nat.le_refl _⟩
/-- lo, lo + 1, .. -/
def rangeD (lo : Int) (n : Nat) : List D := (List.range n).map fun k : Nat => D.int (lo + (k : Nat))
theorem rangeD_length (lo : Int) (n : Nat) : (rangeD lo n).length = n := by simp [rangeD]
theorem rangeD_get {lo : Int} {n i : Nat} {d : D} (h : (rangeD lo n)[i]? = some d) : i < n ∧ d = .int (lo + (i : Nat)) := by
  unfold rangeD at h
  rw [List.getElem?_map] at h
  by_cases hi : i < n
  · rw [List.getElem?_range hi] at h
    exact ⟨hi, (Option.some.inj h).symm⟩
  · rw [List.getElem?_eq_none (by simpa using hi)] at h; cases h
theorem seq_range {F0 : Hp} {lo : Int} {n : Nat} : Seq W (Itr lo n) (rangeD lo n) F0 where
  go := fun i d F H s1 s2 hd => by
    obtain ⟨hi, rfl⟩ := rangeD_get hd
    refine ⟨hi, fun x H' y => ?_⟩
    obtain ⟨rfl, rfl⟩ := y
    exact ⟨F, .refl s2, .int⟩
  stop := fun F H s1 s2 => by rw [rangeD_length]; exact Nat.le_refl n
theorem ait_list (h : AE W t env (rF W (.lst ds))) : AIt W (iList W.K t) env ds := fun e F σ H L R r q =>
  h e F σ H L _ r fun v F1 H1 x1 y1 => by
    cases y1 with
    | lst hF hS => exact ⟨_, rfl, ⟨_, .of (x1.s _ _ hF)⟩, q _ F1 H1 x1 (seq_list hF hS)⟩
theorem ait_tup (h : AE W t env (rF W (.tup ds))) : AIt W (iTup W.K t) env ds := fun e F σ H L R r q =>
  h e F σ H L _ r fun v F1 H1 x1 y1 => by
    cases y1 with
    | tup hF hS => exact ⟨_, rfl, ⟨_, .of (x1.s _ _ hF)⟩, q _ F1 H1 x1 (seq_tup hF hS)⟩
theorem ait_range {n : Int} (h : AA W tr env (rVs W [.int n])) (hb : -(2 ^ 62) ≤ n ∧ n < 2 ^ 62) : AIt W (iRng1 tr) env (rangeD 0 n.toNat) := fun e F σ H L R r q =>
  h e F σ H L _ r fun vs F1 H1 x1 y1 => by
    cases y1 with
    | cons a b =>
      cases a; cases b
      exact ⟨n, rfl, hb.1, hb.2, q _ F1 H1 x1 seq_range⟩
theorem ait_range2 {lo n : Int} (h : AA W tr env (rVs W [.int lo, .int n])) (hb : -(2 ^ 62) ≤ lo ∧ lo < 2 ^ 62 ∧ -(2 ^ 62) ≤ n ∧ n < 2 ^ 62) : AIt W (iRng2 tr) env (rangeD lo (n - lo).toNat) := fun e F σ H L R r q =>
  h e F σ H L _ r fun vs F1 H1 x1 y1 => by
    cases y1 with
    | cons a b =>
      cases a
      cases b with
      | cons a b =>
        cases a; cases b
        exact ⟨lo, n, rfl, hb, q _ F1 H1 x1 seq_range⟩
/-- enumerate(xs): the pairs -/
def enumD (ds : List D) : List D := ds.mapIdx fun k d => D.tup [.int (k : Nat), d]
theorem enumD_get {d : D} (h : (enumD ds)[i]? = some d) : ∃ y, ds[i]? = some y ∧ d = .tup [.int (i : Nat), y] := by
  unfold enumD at h
  rw [List.getElem?_mapIdx] at h
  cases e : ds[i]? with
  | none => rw [e] at h; cases h
  | some y => rw [e] at h; exact ⟨y, rfl, (Option.some.inj h).symm⟩
theorem enumD_length : (enumD ds).length = ds.length := by simp [enumD]
theorem ait_enum (h : AE W t env (rF W (.lst ds))) : AIt W (iEnum W.K (tCons t tNil)) env (enumD ds) := fun e F σ H L R r q =>
  h e F σ H L _ r fun v F1 H1 x1 y1 => by
    cases y1 with
    | lst hF hS =>
      rename_i a vs
      refine ⟨a, vs, rfl, .of (x1.s _ _ hF), q _ F1 H1 x1 ⟨fun i d F H s1 s2 hd => ?_, fun F H s1 s2 => ?_⟩⟩
      · obtain ⟨y, hy, rfl⟩ := enumD_get hd
        obtain ⟨w, hw, sw⟩ := hS.get hy
        refine ⟨⟨vs, w, .of (s2 _ _ (s1 _ _ hF)), hw⟩, fun x H' yl => ?_⟩
        obtain ⟨T, y', rfl, hT, rfl, hy'⟩ := yl
        have := hy' vs (.of (s2 _ _ (s1 _ _ hF)))
        rw [hw] at this; cases this
        refine ⟨_, .new s2 hT, .tup upd_same (.cons .int (.cons ?_ .nil))⟩
        exact (sw.mono s1).mono (same_new (s2.free hT))
      · exact ⟨vs, .of (s2 _ _ (s1 _ _ hF)), by rw [enumD_length, hS.length]; exact Nat.le_refl _⟩
/-- zip(xs, ys): the pairs -/
def zipD (ds es : List D) : List D := (ds.zip es).map fun p => D.tup [p.1, p.2]
theorem zipD_get {d : D} (h : (zipD ds es)[i]? = some d) : ∃ x y, ds[i]? = some x ∧ es[i]? = some y ∧ d = .tup [x, y] := by
  unfold zipD at h
  rw [List.getElem?_map] at h
  cases e : (ds.zip es)[i]? with
  | none => rw [e] at h; cases h
  | some p =>
    rw [e] at h
    obtain ⟨h1, h2⟩ := List.getElem?_zip_eq_some.mp e
    exact ⟨p.1, p.2, h1, h2, (Option.some.inj h).symm⟩
theorem ait_zip (h : AE W ta env (rF W (.lst ds))) (h2 : AE W tb env (rF W (.lst es))) : AIt W (iZip W.K (tCons ta (tCons tb tNil))) env (zipD ds es) := fun e F σ H L R r q =>
  h e F σ H L _ r fun v F1 H1 x1 y1 => h2 e F1 σ H1 L _ (r.ext x1) fun u F2 H2 x2 y2 => by
    cases y1 with
    | lst hF hS =>
      rename_i a vs
      cases y2 with
      | lst hG hT =>
        rename_i b ws
        have hF' := x2.f _ _ hF
        have hS' := hS.mono x2.f
        refine ⟨a, b, vs, ws, rfl, .of (x2.s _ _ hF'), .of (x2.s _ _ hG), q _ F2 H2 (x1.trans x2) ⟨fun i d F H s1 s2 hd => ?_, fun F H s1 s2 => ?_⟩⟩
        · obtain ⟨x, y, hx, hy, rfl⟩ := zipD_get hd
          obtain ⟨w, hw, sw⟩ := hS'.get hx
          obtain ⟨z, hz, sz⟩ := hT.get hy
          refine ⟨⟨vs, ws, w, z, .of (s2 _ _ (s1 _ _ hF')), .of (s2 _ _ (s1 _ _ hG)), hw, hz⟩, fun x H' yl => ?_⟩
          obtain ⟨T, x', y', rfl, hT', rfl, hx', hy'⟩ := yl
          have e1 := hx' vs (.of (s2 _ _ (s1 _ _ hF')))
          have e2 := hy' ws (.of (s2 _ _ (s1 _ _ hG)))
          rw [hw] at e1; cases e1
          rw [hz] at e2; cases e2
          refine ⟨_, .new s2 hT', .tup upd_same (.cons ((sw.mono s1).mono (same_new (s2.free hT'))) (.cons ((sz.mono s1).mono (same_new (s2.free hT'))) .nil))⟩
        · refine ⟨vs, ws, .of (s2 _ _ (s1 _ _ hF')), .of (s2 _ _ (s1 _ _ hG)), ?_⟩
          have e1 := hS'.length
          have e2 := hT.length
          unfold zipD
          rw [List.length_map, List.length_zip]
          omega

/-- a list or a tuple -/
def iSeqU (K : PySem.W.Frag) (tl : TE) : TI := fun σ H R => iList K tl σ H R ∨ iTup K tl σ H R
theorem pi_seqU {X : Cx} {tg l : Expr} {tl : TE} (hl : PE X l tl) : PI X tg l (iSeqU X.K tl) := ⟨fun pins s σ H R I h => h.elim (fun h => (pi_list hl).run pins s σ H R I h) fun h => (pi_tup hl).run pins s σ H R I h⟩
theorem ait_listU (h : AE W t env (rF W (.lst ds))) : AIt W (iSeqU W.K t) env ds := fun e F σ H L R r q => .inl (ait_list h e F σ H L R r q)
theorem ait_tupU (h : AE W t env (rF W (.tup ds))) : AIt W (iSeqU W.K t) env ds := fun e F σ H L R r q => .inr (ait_tup h e F σ H L R r q)
theorem at_yes : AT W tYes env true := fun e F σ H L Q r q => q F H (.refl r.sF)
theorem as_for {wi : TI} {g : TG} {tb : TS} (h : AIt W wi env ds) (Iv : Nat → Py.Env → Prop) (h0 : Iv 0 env)
    (hs : ∀ i d env', ds[i]? = some d → Iv i env' → AG W P g d env' fun e2 => AS W P E tb e2 { A with nx := Iv (i + 1), ct := Iv (i + 1), bk := A.nx })
    (hd : ∀ env', Iv ds.length env' → A.nx env') : AS W P E (tFor wi g tb) env A := fun e F σ H L Dn hP r s =>
  h e F σ H L _ r fun J F1 H1 x1 sq => by
    have r1 := r.ext x1
    refine ⟨fun i m σ H => m = ds.length - i ∧ i ≤ ds.length ∧ ∃ env' F L, Iv i env' ∧ Rel W { e with F0 := F1 } env' F σ H L, ⟨ds.length, rfl, Nat.zero_le _, env, F1, L, h0, r1.enter⟩, ?_⟩
    rintro i m σ H ⟨rfl, hi, env', F, L, hI, q⟩
    by_cases hlt : i < ds.length
    · have hd' : ds[i]? = some ds[i] := List.getElem?_eq_getElem hlt
      obtain ⟨g1, g2⟩ := sq.go i _ F H q.s0 q.sF hd'
      refine .inr ⟨g1, fun σ H => ∃ env' F L, Iv (i + 1) env' ∧ Rel W { e with F0 := F1 } env' F σ H L, fun σ' H' p' => ⟨ds.length - (i + 1), by omega, rfl, hlt, p'⟩, fun x H' y => ?_⟩
      obtain ⟨F2, x2, sx⟩ := g2 x H' y
      refine hs i _ env' hd' hI { e with F0 := F1 } F2 σ H' L x _ hP (q.ext x2) sx fun env2 σ2 L2 k2 q2 => k2 { e with F0 := F1 } F2 σ2 H' L2 _ hP q2 ?_
      exact ⟨fun e3 F3 σ3 H3 L3 w q3 => ⟨e3, F3, L3, w, q3⟩, fun d e3 F3 σ3 H3 L3 v M w q3 => s.rt d e3 F3 σ3 H3 L3 v M w (r1.leave q3), fun e3 F3 σ3 H3 L3 w q3 => s.nx e3 F3 σ3 H3 L3 w (r1.leave q3),
        fun e3 F3 σ3 H3 L3 w q3 => ⟨e3, F3, L3, w, q3⟩, fun x e3 F3 σ3 H3 L3 C dd w q3 => s.ex x e3 F3 σ3 H3 L3 C dd w (r1.leave q3)⟩
    · have e0 : i = ds.length := by omega
      subst e0
      exact .inl ⟨sq.stop F H q.s0 q.sF, s.nx _ _ _ _ _ (hd env' hI) (r1.leave q)⟩

def wipeE (env : Py.Env) : List Nat → Py.Env
  | [] => env
  | v :: vs => (wipeE env vs).set v none
theorem Slots.kill {F H : Hp} {o : Option V} : ∀ {env : Py.Env} {σ : St} {L : List Addr} {i : Nat}, Slots W F H env σ L → L.Nodup → ∃ L', Slots W F H (env.set i none) (σ.set i o) L' ∧ L'.Nodup ∧ ∀ a ∈ L', a ∈ L
  | _, _, _, i, .nil, nd => ⟨[], by simpa using Slots.nil, nd, fun a h => h⟩
  | _, _, _, 0, .so (L := L1) (M := M1) h t, nd => ⟨M1, .no t, (List.nodup_append.mp nd).2.1, fun a h => List.mem_append_right _ h⟩
  | _, _, _, 0, .no (M := M1) t, nd => ⟨M1, .no t, nd, fun a h => h⟩
  | _, _, _, i + 1, .so (L := L1) (M := M1) h t, nd => by
    rw [List.nodup_append] at nd
    obtain ⟨n1, n2, n3⟩ := nd
    obtain ⟨L', s, nd', m⟩ := t.kill (i := i) (o := o) n2
    refine ⟨L1 ++ L', .so h s, ?_, fun a ha => ?_⟩
    · rw [List.nodup_append]
      exact ⟨n1, nd', fun a ha b hb => n3 a ha b (m b hb)⟩
    · rcases List.mem_append.mp ha with q | q
      · exact List.mem_append_left _ q
      · exact List.mem_append_right _ (m a q)
  | _, _, _, i + 1, .no (M := M1) t, nd => by
    obtain ⟨L', s, nd', m⟩ := t.kill (i := i) (o := o) nd
    exact ⟨L', .no s, nd', m⟩
theorem Rel.wipe {e : Ent} {F H : Hp} {σ : St} {L : List Addr} (r : Rel W e env F σ H L) (hp : e.pins = []) : ∀ vs : List Nat, ∃ L', Rel W e (wipeE env vs) F (L2.wipe σ vs) H L' ∧ ∀ a ∈ L', a ∈ L
  | [] => ⟨L, r, fun _ h => h⟩
  | v :: vs => by
    obtain ⟨L1, r1, m1⟩ := r.wipe hp vs
    obtain ⟨L2, s, nd, m⟩ := r1.slots.kill (i := v) (o := none) r1.nd
    exact ⟨L2, ⟨r1.sF, s, nd, fun a h => r1.dj a (m a h), r1.s0, r1.nw, r1.fr, fun a h => r1.ln a (m a h), fun p hm => by rw [hp] at hm; cases hm⟩, fun a h => m1 a (m a h)⟩
theorem Rel.nopin {e : Ent} {F H : Hp} {σ : St} {L : List Addr} (r : Rel W e env F σ H L) : Rel W { e with pins := [] } env F σ H L := ⟨r.sF, r.slots, r.nd, r.dj, r.s0, r.nw, r.fr, r.ln, fun _ h => nomatch h⟩
theorem Rel.free {e : Ent} {F H : Hp} {σ : St} {L : List Addr} {p : Addr} {o : HO} (r : Rel W e env F σ H L) (h1 : p ∉ L) (h2 : F p = none) (h3 : p ∈ e.L0 ∨ e.H0 p = none) : Rel W e env F σ (upd H p o) L where
  sF := fun b u hb => by rw [upd_ne (fun z => by rw [z, h2] at hb; cases hb)]; exact r.sF _ _ hb
  slots := r.slots.frame (Same.refl _) fun a m u hu => by rw [upd_ne (fun z => h1 (by rw [← z]; exact m))]; exact hu
  nd := r.nd
  dj := r.dj
  s0 := r.s0
  nw := r.nw
  fr := fun a u m hu => by
    rw [upd_ne (fun z => ?_)]
    · exact r.fr a u m hu
    · subst z
      rcases h3 with q | q
      · exact m q
      · rw [q] at hu; cases hu
  ln := r.ln
  pin := r.pin
/-- a target within a comprehension touches the comprehension's own slots alone -/
def GW (g : TG) (vs : List Nat) : Prop := ∀ (v : V) (σ : St) (H : Hp) (Q : St → Hp → Prop), g v σ H Q → g v σ H fun σ2 H2 => wipe σ2 vs = wipe σ vs ∧ Q σ2 H2
def GWs (g : TGs) (vs : List Nat) : Prop := ∀ (v : List V) (σ : St) (H : Hp) (Q : St → Hp → Prop), g v σ H Q → g v σ H fun σ2 H2 => wipe σ2 vs = wipe σ vs ∧ Q σ2 H2
theorem wipe_comm {n : Nat} {o : Option V} : ∀ (vs : List Nat) (σ : St), n ∉ vs → wipe (σ.set n o) vs = (wipe σ vs).set n o
  | [], σ, _ => rfl
  | w :: ws, σ, hn => by
    unfold wipe
    rw [wipe_comm ws σ (fun z => hn (List.mem_cons_of_mem _ z)), List.set_comm _ _ (fun z => hn (by rw [z]; exact List.mem_cons_self ..))]
theorem wipe_set {σ : St} {n : Nat} {o : Option V} : ∀ {vs : List Nat}, n ∈ vs → wipe (σ.set n o) vs = wipe σ vs
  | [], h => nomatch h
  | v :: vs, h => by
    unfold wipe
    by_cases hv : n ∈ vs
    · rw [wipe_set hv]
    · rcases List.mem_cons.mp h with z | z
      · subst z
        rw [wipe_comm vs σ hv, List.set_set]
      · exact absurd z hv
theorem wipe_wipe {σ : St} : ∀ {vs : List Nat}, wipe (wipe σ vs) vs = wipe σ vs
  | [] => rfl
  | v :: vs => by
    have e : wipe σ (v :: vs) = (wipe σ vs).set v none := rfl
    rw [e]
    show (wipe ((wipe σ vs).set v none) vs).set v none = _
    by_cases hv : v ∈ vs
    · rw [wipe_set hv, wipe_wipe]
    · rw [wipe_comm vs _ hv, wipe_wipe, List.set_set]
theorem gw_name {n : Nat} {vs : List Nat} (h : n ∈ vs) : GW (gName n) vs := fun v σ H Q q => ⟨wipe_set h, q⟩
theorem gws_nil {vs : List Nat} : GWs gNil vs := fun v σ H Q ⟨h, q⟩ => ⟨h, rfl, q⟩
/-- names one after another -/
theorem gws_cons {n : Nat} {gs : TGs} {vs : List Nat} (h : n ∈ vs) (h2 : GWs gs vs) : GWs (gCons (gName n) gs) vs := fun v σ H Q ⟨x, r, e, q⟩ => ⟨x, r, e, by
  have q := h2 r (σ.set n (some x)) H Q q
  simp only [wipe_set h] at q
  exact q⟩
theorem gw_tup {k : Nat} {gs : TGs} {vs : List Nat} (h : GWs gs vs) : GW (gTup W.K k gs) vs := fun v σ H Q ⟨a, xs, e1, e2, e3, q⟩ => ⟨a, xs, e1, e2, e3, h xs σ H Q q⟩
/-- .. as long as the shared part and the heap stand -/
structure SeqP {T : Tbl} (W : Wd T) (J : It) (ds : List D) (F0 H0 : Hp) : Prop where
  go : ∀ (i : Nat) (d : D) (F H : Hp), Same F0 F → Same H0 H → Same F H → ds[i]? = some d → J.go i H ∧ ∀ x H', J.yld i H x H' → ∃ F', Ext F H F' H' ∧ Shr W F' d x
  stop : ∀ (F H : Hp), Same F0 F → Same H0 H → Same F H → J.stop ds.length H
def AIp {T : Tbl} (W : Wd T) (wi : TI) (env : Py.Env) (ds : List D) : Prop :=
  ∀ (e : Ent) (F : Hp) (σ : St) (H : Hp) (L : List Addr) (R : It → Hp → Prop), Rel W e env F σ H L → (∀ J F' H', Ext F H F' H' → SeqP W J ds F' H' → R J H') → wi σ H R
theorem AIt.p {wi : TI} (h : AIt W wi env ds) : AIp W wi env ds := fun e F σ H L R r q => h e F σ H L R r fun J F' H' x s => q J F' H' x ⟨fun i d F1 H1 a _ c e => s.go i d F1 H1 a c e, fun F1 H1 a _ c => s.stop F1 H1 a c⟩
/-- rs i: what the first i items make -/
theorem ae_lc {wi : TI} {g : TG} {tt : TT} {vs : List Nat} (h : AIp W wi env ds) (hg : GW g vs) (rs : Nat → List D) (h0 : rs 0 = [])
    (hs : ∀ (i : Nat) (d : D), ds[i]? = some d → AG W [] g d (wipeE env vs) fun e2 => ∃ b, AT W tt e2 b ∧ (b = true → ∃ y, AE W te e2 (rO W y) ∧ rs (i + 1) = rs i ++ [y]) ∧ (b = false → rs (i + 1) = rs i))
    (hz : ∀ i, i ≤ ds.length → (rs i).length < 1000000) : AE W (tLc wi g tt te vs) env (rO W (.olst (rs ds.length))) := fun e F σ H L Q r q =>
  h e F σ H L _ r fun J F1 H1 x1 sq => by
    intro Dl hD
    have r1 := (r.ext x1).nopin
    obtain ⟨Lw, rw', mw⟩ := r1.wipe rfl vs
    have hF1 : F1 Dl = none := x1.s.free hD
    have hH : H Dl = none := x1.h.free hD
    refine ⟨fun i m H' => m = ds.length - i ∧ i ≤ ds.length ∧ ∃ F' ws M, Ext F H F' H' ∧ (Same F1 F' ∧ Same H1 H') ∧ Rel W { e with pins := [] } (wipeE env vs) F' (wipe σ vs) H' Lw ∧ H' Dl = some (.lst ws) ∧ F' Dl = none ∧ Owns W F' H' (rs i) ws M ∧ (Dl :: M).Nodup ∧ ∀ a ∈ M, H a = none ∧ F' a = none,
      ⟨ds.length, rfl, Nat.zero_le _, F1, [], [], ?_, ⟨Same.refl _, same_new hD⟩, ?_, upd_same, hF1, by rw [h0]; exact .nil, by simp, fun a h => nomatch h⟩, ?_⟩
    · exact x1.trans (.newH x1.s hD)
    · exact rw'.ext (.newH x1.s hD)
    rintro i m H' ⟨rfl, hi, F', ws, M, xE, s1, rr, hl, hFD, os, nd, hM⟩
    have hDL : Dl ∉ Lw := fun z => by
      obtain ⟨o, ho⟩ := rw'.slots.lives Dl z
      rw [hD] at ho; cases ho
    by_cases hlt : i < ds.length
    · have hd' : ds[i]? = some ds[i] := List.getElem?_eq_getElem hlt
      obtain ⟨g1, g2⟩ := sq.go i _ F' H' s1.1 s1.2 rr.sF hd'
      refine .inr ⟨g1, fun H'' => ∃ F' ws M, Ext F H F' H'' ∧ (Same F1 F' ∧ Same H1 H'') ∧ Rel W { e with pins := [] } (wipeE env vs) F' (wipe σ vs) H'' Lw ∧ H'' Dl = some (.lst ws) ∧ F' Dl = none ∧ Owns W F' H'' (rs (i + 1)) ws M ∧ (Dl :: M).Nodup ∧ ∀ a ∈ M, H a = none ∧ F' a = none,
        fun H'' p' => ⟨ds.length - (i + 1), by omega, rfl, hlt, p'⟩, fun x H2 y => ?_⟩
      obtain ⟨F2, x2, sx⟩ := g2 x H2 y
      have rr2 := rr.ext x2
      have fin : ∀ {Fa Ha}, Ext F2 H2 Fa Ha → Ext F H Fa Ha ∧ (Same F1 Fa ∧ Same H1 Ha) ∧ Rel W { e with pins := [] } (wipeE env vs) Fa (wipe σ vs) Ha Lw ∧ Ha Dl = some (.lst ws) ∧ Fa Dl = none ∧ Owns W Fa Ha (rs i) ws M ∧ ∀ a ∈ M, H a = none ∧ Fa a = none := fun {Fa Ha} xa => by
        have x3 := x2.trans xa
        have nn : ∀ a, (∃ o, H' a = some o) → F' a = none → Fa a = none := fun a ⟨o, ho⟩ hf => by
          cases z : Fa a with
          | none => rfl
          | some u =>
            rcases x3.n a u z with w | w
            · rw [hf] at w; cases w
            · rw [ho] at w; cases w
        exact ⟨xE.trans x3, ⟨s1.1.trans x3.f, s1.2.trans x3.h⟩, rr.ext x3, x3.h _ _ hl, nn Dl ⟨_, hl⟩ hFD, os.frame x3.f fun a _ o ho => x3.h _ _ ho, fun a ha => ⟨(hM a ha).1, nn a (os.lives a ha) (hM a ha).2⟩⟩
      have step := hg x (wipe σ vs) H2 _ (hs i _ hd' { e with pins := [] } F2 (wipe σ vs) H2 Lw x (fun σ2 H2 => tt σ2 H2 fun b H3 => if b = true then te σ2 H3 fun y H4 => ∃ acc, H4 Dl = some (.lst acc) ∧ acc.length < sizeLine ∧
          (fun H'' => ∃ F' ws M, Ext F H F' H'' ∧ (Same F1 F' ∧ Same H1 H'') ∧ Rel W { e with pins := [] } (wipeE env vs) F' (wipe σ vs) H'' Lw ∧ H'' Dl = some (.lst ws) ∧ F' Dl = none ∧ Owns W F' H'' (rs (i + 1)) ws M ∧ (Dl :: M).Nodup ∧ ∀ a ∈ M, H a = none ∧ F' a = none) (upd H4 Dl (.lst (acc ++ [y]))) else
          (fun H'' => ∃ F' ws M, Ext F H F' H'' ∧ (Same F1 F' ∧ Same H1 H'') ∧ Rel W { e with pins := [] } (wipeE env vs) F' (wipe σ vs) H'' Lw ∧ H'' Dl = some (.lst ws) ∧ F' Dl = none ∧ Owns W F' H'' (rs (i + 1)) ws M ∧ (Dl :: M).Nodup ∧ ∀ a ∈ M, H a = none ∧ F' a = none) H3) rfl rr2 sx fun env2 σ2 L2 k2 q2 => ?_)
      · rw [wipe_wipe] at step
        exact step
      obtain ⟨b, hb, hy, hn⟩ := k2
      refine hb _ F2 σ2 H2 L2 _ q2 fun F3 H3 x3 => ?_
      cases b with
      | false =>
        obtain ⟨a1, a2, a3, a4, a5, a6, a7⟩ := fin x3
        rw [hn rfl]
        exact ⟨F3, ws, M, a1, a2, a3, a4, a5, a6, nd, a7⟩
      | true =>
        obtain ⟨y, hte, hacc⟩ := hy rfl
        refine hte _ F3 σ2 H3 L2 _ (q2.ext x3) fun w F4 H4 x4 ⟨My, oy, ndy, ky⟩ => ?_
        obtain ⟨a1, a2, a3, a4, a5, a6, a7⟩ := fin (x3.trans x4)
        have hlen : (rs i).length < 1000000 := hz i hi
        refine ⟨ws, a4, by rw [← a6.length]; exact Nat.lt_of_lt_of_le hlen (by decide), F4, ws ++ [w], M ++ My, ?_, ⟨a2.1, fun b u hb => by rw [upd_ne (fun z => by rw [z, hD] at hb; cases hb)]; exact a2.2 _ _ hb⟩, a3.free hDL a5 (rw'.h0 hD), upd_same, a5, ?_, ?_, ?_⟩
        · exact ⟨a1.f, fun b u hb => by rw [upd_ne (fun z => by rw [z, a5] at hb; cases hb)]; exact a1.s _ _ hb, fun b u hb => by rw [upd_ne (fun z => by rw [z, hH] at hb; cases hb)]; exact a1.h _ _ hb, a1.n⟩
        · have nD : ∀ b ∈ My, b ≠ Dl := fun b hb z => by
            have := (x2.trans x3).h _ _ hl
            rw [← z, (ky b hb).1] at this; cases this
          rw [hacc]
          refine Owns.snoc (a6.frame (Same.refl _) fun b hb u hu => ?_) (oy.frame (Same.refl _) fun b hb u hu => ?_)
          · rw [upd_ne (fun z => (List.nodup_cons.mp nd).1 (by rw [← z]; exact hb))]; exact hu
          · rw [upd_ne (nD b hb)]; exact hu
        · have fr : ∀ b ∈ My, b ∉ Dl :: M := fun b hb z => by
            have : ∃ o, H3 b = some o := by
              rcases List.mem_cons.mp z with z | z
              · exact ⟨_, by rw [z]; exact (x2.trans x3).h _ _ hl⟩
              · obtain ⟨o, ho⟩ := os.lives b z
                exact ⟨o, (x2.trans x3).h _ _ ho⟩
            obtain ⟨o, ho⟩ := this
            rw [(ky b hb).1] at ho; cases ho
          have : ((Dl :: M) ++ My).Nodup := by
            rw [List.nodup_append]
            exact ⟨nd, ndy, fun b hb c hc z => fr c hc (by rw [← z]; exact hb)⟩
          exact this
        · intro b hb
          rcases List.mem_append.mp hb with z | z
          · exact a7 b z
          · exact ⟨(xE.trans (x2.trans x3)).h.free (ky b z).1, (ky b z).2⟩
    · have e0 : i = ds.length := by omega
      subst e0
      refine .inl ⟨sq.stop F' H' s1.1 s1.2 rr.sF, q _ F' H' xE ⟨Dl :: M, .olst hl os, nd, fun a ha => ?_⟩⟩
      rcases List.mem_cons.mp ha with z | z
      · subst z; exact ⟨hH, hFD⟩
      · exact hM a z
end
end Py

namespace Py
open PySem L2
/-- fresh; a place's; seen in the heap -/
inductive Kd where
  | fr | pl | vw
def isFlat : D → Bool
  | .non | .bl _ | .int _ | .str _ | .cls _ => true
  | _ => false
section
variable {T : Tbl} {W : Wd T} {env : Py.Env} {t ta tb : TE} {d d1 d2 : D}
theorem Shr.flat {F F' : Hp} {d : D} {v : V} (h : Shr W F d v) (e : isFlat d = true) : Shr W F' d v := by
  cases h <;> first | (cases e; done) | exact .non | exact .bl | exact .int | exact .str | (apply Shr.cls; assumption)
theorem isSh_flat {d : D} (e : isFlat d = true) : isSh d = true := by cases d <;> first | rfl | cases e
def rP {T : Tbl} (W : Wd T) (d : D) : Res := fun F H _ v => ∃ L, Own W F H d v L
def rK {T : Tbl} (W : Wd T) : Kd → D → Res
  | .fr, d => rO W d
  | .pl, d => rP W d
  | .vw, d => rV W d
theorem ite_some {α : Type} {c : Prop} [Decidable c] {a b : α} (h : (if c then some a else none) = some b) : c ∧ a = b := by
  split at h
  · exact ⟨by assumption, Option.some.inj h⟩
  · cases h
theorem rK_view {F H H0 : Hp} {k : Kd} {v : V} (s : Same F H) (h : rK W k d F H H0 v) : Shr W H (fz d) v := by
  cases k with
  | fr => obtain ⟨L, o, _⟩ := h; exact o.view s fun _ _ _ z => z
  | pl => obtain ⟨L, o⟩ := h; exact o.view s fun _ _ _ z => z
  | vw => have h : Shr W H d v := h; rw [fz_shr h]; exact h
/-- known as this, over F or over H -/
def basis (k : Kd) (F H : Hp) : Hp := match k with | .vw => H | _ => F
theorem basis_same {k : Kd} {F H : Hp} (s : Same F H) : Same (basis k F H) H := by cases k <;> first | exact s | exact Same.refl _
theorem rK_own {F H H0 : Hp} {k : Kd} {v : V} (h : rK W k d F H H0 v) : ∃ L, Own W (basis k F H) H d v L := by
  cases k with
  | fr => obtain ⟨L, o, _⟩ := h; exact ⟨L, o⟩
  | pl => exact h
  | vw => exact ⟨[], .sh h⟩
/-- a part of a thing -/
def Kd.part : Kd → Kd
  | .vw => .vw
  | _ => .pl
theorem rK_part {F H H0 : Hp} {k : Kd} {v : V} {L : List Addr} (s : Same F H) (h : Own W (basis k F H) H d v L) : ∃ d', rK W k.part d' F H H0 v ∧ (k.part = .pl → d' = d) ∧ (k.part = .vw → d' = fz d) := by
  cases k with
  | fr => exact ⟨d, ⟨L, h⟩, fun _ => rfl, fun q => nomatch q⟩
  | pl => exact ⟨d, ⟨L, h⟩, fun _ => rfl, fun q => nomatch q⟩
  | vw => exact ⟨fz d, h.view (Same.refl _) fun _ _ _ z => z, fun q => (nomatch q), fun _ => rfl⟩
def Kd.of (k : Kd) (d : D) : Kd × D := match k with | .vw => (.vw, fz d) | _ => (.pl, d)
theorem rK_of {F H H0 : Hp} {k k' : Kd} {d' : D} {v : V} {L : List Addr} (s : Same F H) (h : Own W (basis k F H) H d v L) (e : k.of d = (k', d')) : rK W k' d' F H H0 v := by
  cases k with
  | fr => cases e; exact ⟨L, h⟩
  | pl => cases e; exact ⟨L, h⟩
  | vw => cases e; exact h.view (Same.refl _) fun _ _ _ z => z
theorem Ext.basis {k : Kd} {F H F' H' : Hp} (x : Ext F H F' H') : Same (basis k F H) (basis k F' H') := by
  cases k <;> first | exact x.f | exact x.h
theorem Own.ext {k : Kd} {F H F' H' : Hp} {v : V} {L : List Addr} (o : Own W (basis k F H) H d v L) (x : Ext F H F' H') : Own W (basis k F' H') H' d v L := o.frame x.basis fun a _ o q => x.h _ _ q

structure XP {T : Tbl} (W : Wd T) where
  t : TE
  ev : Py.Env → Option (Kd × D)
  snd : ∀ {env k d}, ev env = some (k, d) → AE W t env (rK W k d)
def toV : Option (Kd × D) → Option D
  | some (_, d) => some (fz d)
  | none => none
def toK : Option (Kd × D) → Option D
  | some (.vw, d) => if isFlat d then some d else none
  | some (_, d) => some d
  | none => none
def toF : Option (Kd × D) → Option D
  | some (.fr, d) => some (fz d)
  | some (.pl, d) => if isSh d then some d else none
  | some (.vw, d) => if isFlat d then some d else none
  | none => none
def toO : Option (Kd × D) → Option D
  | some (.fr, d) => some d
  | some (.pl, d) => if isSh d then some d else none
  | some (.vw, d) => if isFlat d then some d else none
  | none => none
def XP.evV (x : XP W) (env : Py.Env) : Option D := toV (x.ev env)
def XP.evK (x : XP W) (env : Py.Env) : Option D := toK (x.ev env)
def XP.evF (x : XP W) (env : Py.Env) : Option D := toF (x.ev env)
def XP.evO (x : XP W) (env : Py.Env) : Option D := toO (x.ev env)
theorem XP.sV (x : XP W) (h : x.evV env = some d) : AE W x.t env (rV W d) := by
  unfold XP.evV at h
  match e : x.ev env, h with
  | some (k, d0), h =>
    cases h
    exact (x.snd e).imp fun F H H0 v s q => rK_view s q
theorem XP.sK (x : XP W) (h : x.evK env = some d) : AE W x.t env (rP W d) := by
  unfold XP.evK at h
  match e : x.ev env, h with
  | some (.fr, d0), h => cases h; exact (x.snd e).imp fun F H H0 v s ⟨L, o, _⟩ => ⟨L, o⟩
  | some (.pl, d0), h => cases h; exact x.snd e
  | some (.vw, d0), h =>
    have h : (if isFlat d0 = true then some d0 else none) = some d := h
    split at h
    · cases h; exact (x.snd e).imp fun F H H0 v s q => ⟨[], .sh (Shr.flat q (by assumption))⟩
    · cases h
theorem XP.sF (x : XP W) (h : x.evF env = some d) : AE W x.t env (rF W d) := by
  unfold XP.evF at h
  match e : x.ev env, h with
  | some (.fr, d0), h => cases h; exact (AE.frz (d := d0) (x.snd e))
  | some (.pl, d0), h =>
    have h : (if isSh d0 = true then some d0 else none) = some d := h
    split at h
    · cases h; exact (x.snd e).imp fun F H H0 v s ⟨L, o⟩ => o.shr (by assumption)
    · cases h
  | some (.vw, d0), h =>
    have h : (if isFlat d0 = true then some d0 else none) = some d := h
    split at h
    · cases h; exact (x.snd e).imp fun F H H0 v s q => (Shr.flat q (by assumption))
    · cases h
theorem XP.sO (x : XP W) (h : x.evO env = some d) : AE W x.t env (rO W d) := by
  unfold XP.evO at h
  match e : x.ev env, h with
  | some (.fr, d0), h => cases h; exact x.snd e
  | some (.pl, d0), h =>
    have h : (if isSh d0 = true then some d0 else none) = some d := h
    split at h
    · cases h; exact (x.snd e).imp fun F H H0 v s ⟨L, o⟩ => rO_sh (o.shr (by assumption))
    · cases h
  | some (.vw, d0), h =>
    have h : (if isFlat d0 = true then some d0 else none) = some d := h
    split at h
    · cases h; exact (x.snd e).imp fun F H H0 v s q => rO_sh (Shr.flat q (by assumption))
    · cases h

def getS (env : Py.Env) (i : Nat) : Option D := (env[i]?).join
theorem getS_some (h : getS env i = some d) : env[i]? = some (some d) := by
  unfold getS at h
  match e : env[i]?, h with
  | some (some x), h => cases h; rfl
def xVar {T : Tbl} (W : Wd T) (i : Nat) : XP W where
  t := tVar i
  ev env := (getS env i).map (Prod.mk .pl)
  snd := fun {env k d} h => by
    match e : getS env i, h with
    | some x, h =>
      cases h
      exact fun e' F σ H L Q r q => by
        obtain ⟨v, M, e1, o, _⟩ := slot_get r (getS_some e)
        exact ⟨v, e1, q v F H (.refl r.sF) ⟨M, o⟩⟩
def xC {T : Tbl} (W : Wd T) (v : V) (d : D) (h : ∀ F, Shr W F d v) : XP W where
  t := tC v
  ev _ := some (.fr, d)
  snd := fun e => by cases e; exact (ae_c h).own
def xInt {T : Tbl} (W : Wd T) (i : Int) : XP W := xC W (.int i) (.int i) fun _ => .int
def xBl {T : Tbl} (W : Wd T) (b : Bool) : XP W := xC W (.bl b) (.bl b) fun _ => .bl
def xNon {T : Tbl} (W : Wd T) : XP W := xC W .non .non fun _ => .non
def xStr {T : Tbl} (W : Wd T) (x : String) : XP W := xC W (.str (so x)) (.str x) fun _ => .str

def xOp (r : R2) (f : D → D → Option D) (h : ∀ {x y d}, f x y = some d → Op2 W r x y d) (a b : XP W) : XP W where
  t := tOp r a.t b.t
  ev env := (a.evV env).bind fun x => (b.evV env).bind fun y => (f x y).map (Prod.mk .fr)
  snd := fun {env k d} e => by
    obtain ⟨x, e1, e⟩ := Option.bind_eq_some_iff.mp e
    obtain ⟨y, e2, e⟩ := Option.bind_eq_some_iff.mp e
    obtain ⟨z, e3, e⟩ := Option.map_eq_some_iff.mp e
    cases e
    exact ae_op2 (a.sV e1) (b.sV e2) (h e3)
def subD : D → D → Option D
  | .int i, .int j => some (.int (i - j))
  | _, _ => none
def xSub (a b : XP W) : XP W := xOp (rI0 fun i j => .int (i - j)) subD (fun {x y d} e => by
  cases x <;> cases y <;> first | (cases e; done) | (cases e; exact o2_i fun _ => .int)) a b
def b64 : Int := 18446744073709551616
def b4000 : Nat := 2 ^ 4000
def mulOk (i j : Int) : Prop := (-18446744073709551616 < i ∧ i < 18446744073709551616) ∨ (-18446744073709551616 < j ∧ j < 18446744073709551616) ∨ (i.natAbs < b4000 ∧ j.natAbs < b4000)
instance (i j : Int) : Decidable (mulOk i j) := by unfold mulOk; infer_instance
theorem mulOk_u {i j : Int} (h : mulOk i j) : CMulU i j := by
  rcases h with h | h | h
  · exact cmul_l h.1 h.2
  · exact cmul_r h.1 h.2
  · exact cmul_w h.1 h.2
def mulD : D → D → Option D
  | .int i, .int j => if mulOk i j then some (.int (i * j)) else none
  | _, _ => none
def xMul (a b : XP W) : XP W := xOp (rI CMulU fun i j => .int (i * j)) mulD (fun {x y d} e => by
  cases x <;> first | (cases e; done) | skip
  cases y <;> first | (cases e; done) | skip
  obtain ⟨hc, rfl⟩ := ite_some e
  exact o2_ic (mulOk_u hc) fun _ => .int) a b
def divOk (j : Int) : Prop := 0 < j ∧ (j < 1073741824 ∨ j.natAbs < b4000)
instance (j : Int) : Decidable (divOk j) := by unfold divOk; infer_instance
def divD : D → D → Option D
  | .int i, .int j => if divOk j then some (.int (i / j)) else none
  | _, _ => none
def xDiv (a b : XP W) : XP W := xOp (rI CDivU fun i j => .int (i / j)) divD (fun {x y d} e => by
  cases x <;> first | (cases e; done) | skip
  cases y <;> first | (cases e; done) | skip
  obtain ⟨⟨h0, h⟩, rfl⟩ := ite_some e
  refine o2_ic ?_ fun _ => .int
  rcases h with h | h
  · exact cdiv_s h0 h
  · exact cdiv_w h0 h) a b
def modD : D → D → Option D
  | .int i, .int j => if 0 < j then some (.int (i % j)) else none
  | _, _ => none
def xMod (a b : XP W) : XP W := xOp (rI (fun _ j => 0 < j) fun i j => .int (i % j)) modD (fun {x y d} e => by
  cases x <;> first | (cases e; done) | skip
  cases y <;> first | (cases e; done) | skip
  obtain ⟨hc, rfl⟩ := ite_some e
  exact o2_ic (hc) fun _ => .int) a b
def powOk (i j : Int) : Prop := 0 ≤ j ∧ j ≤ 1000000 ∧ i.natAbs < 18446744073709551616
instance (i j : Int) : Decidable (powOk i j) := by unfold powOk; infer_instance
def powD : D → D → Option D
  | .int i, .int j => if powOk i j then some (.int (i ^ j.toNat)) else none
  | _, _ => none
def xPow (a b : XP W) : XP W := xOp (rI CPow fun i j => .int (i ^ j.toNat)) powD (fun {x y d} e => by
  cases x <;> first | (cases e; done) | skip
  cases y <;> first | (cases e; done) | skip
  obtain ⟨hc, rfl⟩ := ite_some e
  exact o2_ic (⟨hc.1, hc.2.1, hc.2.2⟩) fun _ => .int) a b
def negD : D → Option D
  | .int i => some (.int (-i))
  | _ => none
def xNeg (a : XP W) : XP W where
  t := tUn (rU fun i => .int (-i)) a.t
  ev env := match a.evV env with
    | some x => (negD x).map (Prod.mk .fr)
    | none => none
  snd := fun {env k d} e => by
    match e1 : a.evV env, e with
    | some x, e =>
      cases x <;> first | (cases e; done) | skip
      cases e
      exact (ae_u (g := fun i => .int (-i)) (a.sV e1) fun _ => .int).own
/-- items of a list or a tuple: is it a tuple? the items -/
def seqOf : D → Option (Bool × List D)
  | .lst xs => some (false, xs)
  | .olst xs => if xs.all isSh then some (false, xs) else none
  | .tup xs => some (true, xs)
  | .scr ns => some (false, ns.map .int)
  | _ => none
theorem shrs_ints {F : Hp} : ∀ ns : List Int, Shrs W F (ns.map D.int) (ns.map V.int)
  | [] => .nil
  | _ :: ns => .cons .int (shrs_ints ns)
theorem seqOf_ok {F H : Hp} {v : V} {L : List Addr} {b : Bool} {xs : List D} (s : Same F H) (o : Own W F H d v L) (h : seqOf d = some (b, xs)) :
    ∃ a vs, v = .ref a ∧ Shrs W F xs vs ∧ if b = true then SqT W.K H a vs else SqL W.K H a vs := by
  cases o with
  | sh y =>
    cases y <;> first | (cases h; done) | skip
    · cases h; exact ⟨_, _, rfl, shrs_ints _, s.seq (by assumption)⟩
    · cases h; exact ⟨_, _, rfl, by assumption, .of (s _ _ (by assumption))⟩
    · cases h; exact ⟨_, _, rfl, by assumption, .of (s _ _ (by assumption))⟩
  | olst ha hs =>
    obtain ⟨hc, e⟩ := ite_some h
    cases e
    exact ⟨_, _, rfl, hs.shrs hc, .of ha⟩
  | odic => cases h
  | odit => cases h
  | odig => cases h
  | oins => cases h
/-- a tracked list -/
def lstOf : D → Option (List D)
  | .lst xs => some xs
  | .olst xs => if xs.all isSh then some xs else none
  | _ => none
theorem lstOf_ok {F H : Hp} {v : V} {L : List Addr} {xs : List D} (s : Same F H) (o : Own W F H d v L) (h : lstOf d = some xs) : ∃ a vs, v = .ref a ∧ Shrs W F xs vs ∧ H a = some (.lst vs) := by
  cases o with
  | sh y =>
    cases y <;> first | (cases h; done) | skip
    cases h; exact ⟨_, _, rfl, by assumption, s _ _ (by assumption)⟩
  | olst ha hs =>
    obtain ⟨hc, e⟩ := ite_some h
    cases e
    exact ⟨_, _, rfl, hs.shrs hc, ha⟩
  | odic => cases h
  | odit => cases h
  | odig => cases h
  | oins => cases h
def addD (x y : D) : Option D := match x, y with
  | .int i, .int j => some (.int (i + j))
  | .tup xs, .tup ys => if xs ≠ [] ∧ xs.length + ys.length ≤ 1000000 then some (.tup (xs ++ ys)) else none
  | x, y => match lstOf x, lstOf y with
    | some xs, some ys => if xs.length + ys.length ≤ 1000000 then some (.olst (xs ++ ys)) else none
    | _, _ => none
def xAdd (a b : XP W) : XP W where
  t := tOp (fun x y H Q => rI0 (fun i j => .int (i + j)) x y H Q ∨ (fun x y H Q => rCat x y H Q ∨ rCatT W.K x y H Q) x y H Q) a.t b.t
  ev env := (a.evK env).bind fun x => (b.evK env).bind fun y => (addD x y).map (Prod.mk .fr)
  snd := fun {env k d} e => by
    obtain ⟨x, e1, e⟩ := Option.bind_eq_some_iff.mp e
    obtain ⟨y, e2, e⟩ := Option.bind_eq_some_iff.mp e
    obtain ⟨z, e3, e⟩ := Option.map_eq_some_iff.mp e
    cases e
    intro e' F σ H L Q r q
    refine a.sK e1 e' F σ H L _ r fun v F1 H1 x1 ⟨L1, y1⟩ => b.sK e2 e' F1 σ H1 L _ (r.ext x1) fun u F2 H2 x2 ⟨L2, y2⟩ => ?_
    have y1 : Own W F2 H2 x v L1 := y1.frame x2.f fun a _ o q => x2.h _ _ q
    have lists : ∀ {xs ys}, lstOf x = some xs → lstOf y = some ys → xs.length + ys.length ≤ 1000000 → d = .olst (xs ++ ys) → (fun x y H Q => rI0 (fun i j => V.int (i + j)) x y H Q ∨ (fun x y H Q => rCat x y H Q ∨ rCatT W.K x y H Q) x y H Q) v u H2 Q := by
      intro xs ys h1 h2 hl hz
      obtain ⟨a, vs, rfl, sa, ha⟩ := lstOf_ok x2.s y1 h1
      obtain ⟨b, ws, rfl, sb, hb⟩ := lstOf_ok x2.s y2 h2
      subst hz
      exact .inr (.inl (o2L_cat hl F2 H2 a b vs ws Q x2.s ha sa hb sb fun w F3 H3 x3 y3 => q w F3 H3 ((x1.trans x2).trans x3) (rO_back (x1.h.trans x2.h) y3)))
    unfold addD at e3
    split at e3
    · cases e3
      cases y1.shr rfl; cases y2.shr rfl
      exact .inl ⟨_, _, rfl, rfl, q _ F2 H2 (x1.trans x2) (rO_sh .int)⟩
    · obtain ⟨⟨hn, hl⟩, rfl⟩ := ite_some e3
      cases y1.shr rfl with
      | tup ha sa =>
        cases y2.shr rfl with
        | tup hb sb =>
          have z1 := sa.length
          have z2 := sb.length
          refine .inr (.inr ⟨_, _, _, _, rfl, rfl, .of (x2.s _ _ ha), .of (x2.s _ _ hb), fun z => ?_, by rw [← z1, ← z2]; exact Nat.le_trans hl (by decide), fun z => ?_, fun z p hp => ?_⟩)
          · subst z; exact hn (List.eq_nil_of_length_eq_zero z1)
          · subst z
            have z2 := List.eq_nil_of_length_eq_zero z2
            subst z2
            refine q _ F2 H2 (x1.trans x2) ?_
            rw [List.append_nil]
            exact rO_sh (.tup ha sa)
          · exact q _ _ _ ((x1.trans x2).trans (.new x2.s hp)) (rO_sh (.tup upd_same ((sa.append sb).mono (same_new (x2.s.free hp)))))
    · rename_i hx hy
      cases h1 : lstOf x with
      | none => rw [h1] at e3; cases e3
      | some xs =>
        cases h2 : lstOf y with
        | none => rw [h1, h2] at e3; cases e3
        | some ys =>
          rw [h1, h2] at e3
          obtain ⟨hl, rfl⟩ := ite_some e3
          exact lists h1 h2 hl rfl
mutual
/-- is it plain data, of depth at most n -/
def okD : Nat → D → Bool
  | _, .non | _, .bl _ | _, .int _ | _, .str _ => true
  | n + 1, .tup xs => okDs n xs
  | n + 1, .lst xs => okDs n xs
  | _, _ => false
def okDs : Nat → List D → Bool
  | _, [] => true
  | n, x :: xs => okD n x && okDs n xs
end
mutual
def eqB : D → D → Bool
  | .non, .non => true
  | .bl a, .bl b => decide (a = b)
  | .bl a, .int j => decide ((if a then 1 else 0) = j)
  | .int i, .bl b => decide (i = if b then 1 else 0)
  | .int i, .int j => decide (i = j)
  | .str x, .str y => decide (x = y)
  | .tup xs, .tup ys => eqBs xs ys
  | .lst xs, .lst ys => eqBs xs ys
  | _, _ => false
def eqBs : List D → List D → Bool
  | [], [] => true
  | x :: xs, y :: ys => eqB x y && eqBs xs ys
  | _, _ => false
end
theorem okDs_all (n : Nat) : ∀ xs : List D, okDs n xs = xs.all (okD n)
  | [] => by rw [okDs]; rfl
  | x :: xs => by rw [okDs, okDs_all n xs]; rfl
theorem lay_ints : ∀ ns : List Int, PyData.canLayAll0 (ns.map PyData.int) = true ∧ PyData.depthAll (ns.map PyData.int) = 0
  | [] => by simp [PyData.canLayAll0, PyData.depthAll]
  | n :: ns => by
    have h := lay_ints ns
    simp only [List.map_cons, PyData.canLayAll0, PyData.canLay0, PyData.depthAll, PyData.depth, h.1, h.2]
    simp
theorem strOk_so (x : String) : PyData.strOk (so x) = true := by
  unfold PyData.strOk so
  rw [Str.ofString_eq_toList]
  simp only [List.all_toArray, List.all_map, List.all_eq_true, Function.comp_apply, decide_eq_true_eq]
  intro c _
  have := c.valid
  rcases this with h | h
  · have : c.toNat < 55296 := h
    omega
  · exact h.2
mutual
theorem okD_pd : ∀ {n : Nat} {d : D}, okD n d = true → ∃ p, pd d = some p ∧ p.canLay0 = true ∧ p.depth ≤ n
  | n, .non, _ => ⟨_, by rw [pd], by rw [PyData.canLay0], by simp [PyData.depth]⟩
  | n, .bl _, _ => ⟨_, by rw [pd], by rw [PyData.canLay0], by simp [PyData.depth]⟩
  | n, .int _, _ => ⟨_, by rw [pd], by rw [PyData.canLay0], by simp [PyData.depth]⟩
  | n, .str _, h => ⟨_, by rw [pd], by rw [PyData.canLay0]; exact strOk_so _, by simp [PyData.depth]⟩
  | n + 1, .tup xs, h => by
    rw [okD] at h
    obtain ⟨ps, h1, h2, h3⟩ := okDs_pd h
    exact ⟨.tuple ps, by rw [pd, h1]; rfl, by rw [PyData.canLay0]; exact h2, by rw [PyData.depth]; omega⟩
  | n + 1, .lst xs, h => by
    rw [okD] at h
    obtain ⟨ps, h1, h2, h3⟩ := okDs_pd h
    exact ⟨.list ps, by rw [pd, h1]; rfl, by rw [PyData.canLay0]; exact h2, by rw [PyData.depth]; omega⟩
  | _, .scr _, h => by simp [okD] at h
  | 0, .tup _, h => by simp [okD] at h
  | 0, .lst _, h => by simp [okD] at h
  | _, .cls _, h => by simp [okD] at h
  | _, .sei _, h => by simp [okD] at h
  | _, .dic _ _, h => by simp [okD] at h
  | _, .dit _ _, h => by simp [okD] at h
  | _, .dig _ _, h => by simp [okD] at h
  | _, .ins _ _ _, h => by simp [okD] at h
  | _, .olst _, h => by simp [okD] at h
  | _, .odic _ _, h => by simp [okD] at h
  | _, .odit _ _, h => by simp [okD] at h
  | _, .odig _ _, h => by simp [okD] at h
  | _, .oins _ _ _, h => by simp [okD] at h
theorem okDs_pd : ∀ {n : Nat} {ds : List D}, okDs n ds = true → ∃ ps, pds ds = some ps ∧ PyData.canLayAll0 ps = true ∧ PyData.depthAll ps ≤ n
  | n, [], _ => ⟨[], by rw [pds], by rw [PyData.canLayAll0], by simp [PyData.depthAll]⟩
  | n, d :: ds, h => by
    rw [okDs, Bool.and_eq_true] at h
    obtain ⟨p, h1, h2, h3⟩ := okD_pd h.1
    obtain ⟨ps, k1, k2, k3⟩ := okDs_pd h.2
    exact ⟨p :: ps, by rw [pds, h1, k1], by rw [PyData.canLayAll0, h2, k2]; rfl, by rw [PyData.depthAll]; omega⟩
end
theorem eqv_ints : ∀ ns ms : List Int, PyData.eqvAll (ns.map PyData.int) (ms.map PyData.int) = decide (ns = ms)
  | [], [] => by simp [PyData.eqvAll]
  | [], _ :: _ => by simp [PyData.eqvAll]
  | _ :: _, [] => by simp [PyData.eqvAll]
  | n :: ns, m :: ms => by
    rw [List.map_cons, List.map_cons, PyData.eqvAll, eqv_ints ns ms, PyData.eqv]
    by_cases h : n = m <;> simp [h]
theorem so_eq {x y : String} : (so x == so y) = decide (x = y) := by
  by_cases h : x = y
  · subst h; simp
  · rw [beq_eq_false_iff_ne.mpr fun z => h (so_inj z), decide_eq_false h]
theorem pds_ints : ∀ ns : List Int, ns.map PyData.int = ns.map PyData.int := fun _ => rfl
mutual
theorem eqB_pd : ∀ (x : D) {y : D} {p q : PyData}, pd x = some p → pd y = some q → eqB x y = PyData.eqv p q
  | .tup xs, y, p, q, hx, hy => by
    rw [pd] at hx
    obtain ⟨ps, h1, rfl⟩ := Option.map_eq_some_iff.mp hx
    cases y <;> (simp only [pd, reduceCtorEq, Option.some.injEq, Option.map_eq_some_iff] at hy) <;> first | (obtain ⟨qs, h2, rfl⟩ := hy) | subst hy
    all_goals first | (simp only [eqB, PyData.eqv]; done) | (simp only [eqB, PyData.eqv]; exact eqBs_pd xs h1 h2)
  | .lst xs, y, p, q, hx, hy => by
    rw [pd] at hx
    obtain ⟨ps, h1, rfl⟩ := Option.map_eq_some_iff.mp hx
    cases y <;> (simp only [pd, reduceCtorEq, Option.some.injEq, Option.map_eq_some_iff] at hy) <;> first | (obtain ⟨qs, h2, rfl⟩ := hy) | subst hy
    all_goals first | (simp only [eqB, PyData.eqv]; done) | (simp only [eqB, PyData.eqv]; exact eqBs_pd xs h1 h2)
  | .non, y, p, q, hx, hy => by
    rw [pd] at hx; cases hx
    cases y <;> (simp only [pd, reduceCtorEq, Option.some.injEq, Option.map_eq_some_iff] at hy) <;> first | (obtain ⟨qs, h2, rfl⟩ := hy) | subst hy
    all_goals first | (simp only [eqB, PyData.eqv, so_eq]; done) | (simp only [eqB, PyData.eqv]; rw [Bool.eq_iff_iff]; simp; done)
  | .bl _, y, p, q, hx, hy => by
    rw [pd] at hx; cases hx
    cases y <;> (simp only [pd, reduceCtorEq, Option.some.injEq, Option.map_eq_some_iff] at hy) <;> first | (obtain ⟨qs, h2, rfl⟩ := hy) | subst hy
    all_goals first | (simp only [eqB, PyData.eqv, so_eq]; done) | (simp only [eqB, PyData.eqv]; rw [Bool.eq_iff_iff]; simp; done)
  | .int _, y, p, q, hx, hy => by
    rw [pd] at hx; cases hx
    cases y <;> (simp only [pd, reduceCtorEq, Option.some.injEq, Option.map_eq_some_iff] at hy) <;> first | (obtain ⟨qs, h2, rfl⟩ := hy) | subst hy
    all_goals first | (simp only [eqB, PyData.eqv, so_eq]; done) | (simp only [eqB, PyData.eqv]; rw [Bool.eq_iff_iff]; simp; done)
  | .str _, y, p, q, hx, hy => by
    rw [pd] at hx; cases hx
    cases y <;> (simp only [pd, reduceCtorEq, Option.some.injEq, Option.map_eq_some_iff] at hy) <;> first | (obtain ⟨qs, h2, rfl⟩ := hy) | subst hy
    all_goals first | (simp only [eqB, PyData.eqv, so_eq]; done) | (simp only [eqB, PyData.eqv]; rw [Bool.eq_iff_iff]; simp; done)
  | .cls _, y, p, q, hx, hy => by simp [pd] at hx
  | .sei _, y, p, q, hx, hy => by simp [pd] at hx
  | .scr _, y, p, q, hx, hy => by simp [pd] at hx
  | .dic _ _, y, p, q, hx, hy => by simp [pd] at hx
  | .dit _ _, y, p, q, hx, hy => by simp [pd] at hx
  | .dig _ _, y, p, q, hx, hy => by simp [pd] at hx
  | .ins _ _ _, y, p, q, hx, hy => by simp [pd] at hx
  | .olst _, y, p, q, hx, hy => by simp [pd] at hx
  | .odic _ _, y, p, q, hx, hy => by simp [pd] at hx
  | .odit _ _, y, p, q, hx, hy => by simp [pd] at hx
  | .odig _ _, y, p, q, hx, hy => by simp [pd] at hx
  | .oins _ _ _, y, p, q, hx, hy => by simp [pd] at hx
theorem eqBs_pd : ∀ (xs : List D) {ys : List D} {ps qs : List PyData}, pds xs = some ps → pds ys = some qs → eqBs xs ys = PyData.eqvAll ps qs
  | [], ys, ps, qs, hx, hy => by
    rw [pds] at hx; cases hx
    cases ys with
    | nil => rw [pds] at hy; cases hy; simp [eqBs, PyData.eqvAll]
    | cons y ys =>
      rw [pds] at hy
      split at hy
      · cases hy; simp [eqBs, PyData.eqvAll]
      · cases hy
  | x :: xs, ys, ps, qs, hx, hy => by
    rw [pds] at hx
    split at hx
    · rename_i p ps' h1 h2
      cases hx
      cases ys with
      | nil => rw [pds] at hy; cases hy; simp [eqBs, PyData.eqvAll]
      | cons y ys =>
        rw [pds] at hy
        split at hy
        · rename_i q qs' k1 k2
          cases hy
          rw [eqBs, PyData.eqvAll, eqB_pd x h1 k1, eqBs_pd xs h2 k2]
        · cases hy
    · cases hx
end
def eqD (x y : D) : Option D := if okD 60 x = true ∧ okD 60 y = true then some (.bl (eqB x y)) else none
def neD (x y : D) : Option D := if okD 60 x = true ∧ okD 60 y = true then some (.bl (!eqB x y)) else none
theorem okD_sh {x : D} {p : PyData} (h1 : p.canLay0 = true) (h2 : p.depth ≤ 60) : SeqAt.shaped p = true := by
  unfold SeqAt.shaped
  rw [h1, decide_eq_true (by omega)]; rfl
def xEq (a b : XP W) : XP W := xOp (fun x y H Q => rEq x y H Q ∨ rEqD W.K x y H Q) eqD (fun {x y d} e => by
  obtain ⟨⟨h1, h2⟩, rfl⟩ := ite_some e
  obtain ⟨p, p1, p2, p3⟩ := okD_pd h1
  obtain ⟨q, q1, q2, q3⟩ := okD_pd h2
  rw [eqB_pd x p1 q1]
  exact o2_r (o2_eqD p1 q1 (okD_sh (x := x) p2 p3) (okD_sh (x := y) q2 q3))) a b
def xNe (a b : XP W) : XP W := xOp (fun x y H Q => rNe x y H Q ∨ rNeD W.K x y H Q) neD (fun {x y d} e => by
  obtain ⟨⟨h1, h2⟩, rfl⟩ := ite_some e
  obtain ⟨p, p1, p2, p3⟩ := okD_pd h1
  obtain ⟨q, q1, q2, q3⟩ := okD_pd h2
  rw [eqB_pd x p1 q1]
  exact o2_r (o2_neD p1 q1 (okD_sh (x := x) p2 p3) (okD_sh (x := y) q2 q3))) a b
/-- the ints of a list of ints -/
def intsOf : List D → Option (List Int)
  | [] => some []
  | .int i :: ds => (intsOf ds).map (i :: ·)
  | _ => none
theorem intsOf_map (ns : List Int) : intsOf (ns.map D.int) = some ns := by
  induction ns with
  | nil => rfl
  | cons n ns ih => rw [List.map_cons, intsOf, ih]; rfl
theorem intsOf_ok : ∀ {ds : List D} {ns : List Int}, intsOf ds = some ns → ds = ns.map D.int
  | [], _, h => by cases h; rfl
  | .int i :: ds, ns, h => by
    obtain ⟨ms, h1, rfl⟩ := Option.map_eq_some_iff.mp h
    rw [intsOf_ok h1]; rfl
theorem shrs_int {F : Hp} : ∀ {ns : List Int} {vs : List V}, Shrs W F (ns.map D.int) vs → vs = ns.map V.int
  | [], _, .nil => rfl
  | n :: ns, _, .cons h t => by cases h; rw [shrs_int t]; rfl
def cmpD (f : Int → Int → Bool) : D → D → Option D
  | .int i, .int j => some (.bl (f i j))
  | _, _ => none
def ltD : D → D → Option D
  | .int i, .int j => some (.bl (decide (i < j)))
  | .tup xs, .tup ys => (intsOf xs).bind fun ns => (intsOf ys).map fun ms => .bl (HT.lexLt ns ms)
  | _, _ => none
def xLt (a b : XP W) : XP W := xOp (fun x y H Q => rI0 (fun i j => .bl (decide (i < j))) x y H Q ∨ rLtT W.K x y H Q) ltD (fun {x y d} e => by
  unfold ltD at e
  split at e
  · cases e; exact o2_l (o2_i fun _ => .bl)
  · obtain ⟨ns, h1, e⟩ := Option.bind_eq_some_iff.mp e
    obtain ⟨ms, h2, rfl⟩ := Option.map_eq_some_iff.mp e
    cases intsOf_ok h1
    cases intsOf_ok h2
    refine o2_r fun F H v1 v2 Q s a b q => ?_
    cases a with
    | tup ha sa =>
      cases b with
      | tup hb sb =>
        cases shrs_int sa
        cases shrs_int sb
        exact ⟨_, _, _, _, rfl, rfl, .of ha, .of hb, q _ F H (.refl s) (rO_sh .bl)⟩
  · cases e) a b
def xCmp (f : Int → Int → Bool) (a b : XP W) : XP W := xOp (rI0 fun i j => .bl (f i j)) (cmpD f) (fun {x y d} e => by
  unfold cmpD at e
  split at e
  · cases e; exact o2_i fun _ => .bl
  · cases e) a b
def xLe (a b : XP W) : XP W := xCmp (fun i j => decide (i ≤ j)) a b
def xGt (a b : XP W) : XP W := xCmp (fun i j => decide (j < i)) a b
def xGe (a b : XP W) : XP W := xCmp (fun i j => decide (j ≤ i)) a b
def xIsN (a : XP W) : XP W where
  t := tOp (fun x y H Q => y = .non ∧ Q (.bl (decide (x = .non))) H) a.t (tC .non)
  ev env := (a.evV env).map fun x => (.fr, .bl (isNon x))
  snd := fun {env k d} e => by
    obtain ⟨x, e1, e⟩ := Option.map_eq_some_iff.mp e
    cases e
    exact (ae_isN (a.sV e1)).own
def xNotN (a : XP W) : XP W where
  t := tOp (fun x y H Q => y = .non ∧ Q (.bl (!decide (x = .non))) H) a.t (tC .non)
  ev env := (a.evV env).map fun x => (.fr, .bl (!isNon x))
  snd := fun {env k d} e => by
    obtain ⟨x, e1, e⟩ := Option.map_eq_some_iff.mp e
    cases e
    exact (ae_notN (a.sV e1)).own
def blD : D → Option Bool
  | .bl b => some b
  | _ => none
theorem blD_ok {x : D} {b : Bool} (h : blD x = some b) : x = .bl b := by cases x <;> cases h; rfl
def XP.evB (a : XP W) (env : Py.Env) : Option Bool := (a.evV env).bind blD
theorem XP.sB (a : XP W) {b : Bool} (h : a.evB env = some b) : AE W a.t env (rV W (.bl b)) := by
  obtain ⟨x, e1, e⟩ := Option.bind_eq_some_iff.mp h
  cases blD_ok e
  exact a.sV e1
def andE (x : Option Bool) (y : Unit → Option Bool) : Option Bool := match x with
  | some true => y ()
  | some false => some false
  | none => none
def orE (x : Option Bool) (y : Unit → Option Bool) : Option Bool := match x with
  | some false => y ()
  | some true => some true
  | none => none
def xAnd (a b : XP W) : XP W where
  t := tAndV a.t b.t
  ev env := (andE (a.evB env) fun _ => b.evB env).map fun c => (.fr, .bl c)
  snd := fun {env k d} e => by
    obtain ⟨c, e1, e⟩ := Option.map_eq_some_iff.mp e
    cases e
    match ha : a.evB env, e1 with
    | some false, e1 => cases e1; exact (ae_andV (b := false) (a.sB ha) fun q => nomatch q).own
    | some true, e1 => exact (ae_andV (a.sB ha) fun q => b.sB e1).own
def xOr (a b : XP W) : XP W where
  t := tOrV a.t b.t
  ev env := (orE (a.evB env) fun _ => b.evB env).map fun c => (.fr, .bl c)
  snd := fun {env k d} e => by
    obtain ⟨c, e1, e⟩ := Option.map_eq_some_iff.mp e
    cases e
    match ha : a.evB env, e1 with
    | some true, e1 => cases e1; exact (ae_orV (b := false) (a.sB ha) fun q => nomatch q).own
    | some false, e1 => exact (ae_orV (a.sB ha) fun q => b.sB e1).own
def xNot (a : XP W) : XP W where
  t := tNotV a.t
  ev env := (a.evB env).map fun c => (.fr, .bl (!c))
  snd := fun {env k d} e => by
    obtain ⟨c, e1, e⟩ := Option.map_eq_some_iff.mp e
    cases e
    exact (ae_notV (a.sB e1)).own
def xChain (r r' : R2) (f g : D → D → Option D) (hf : ∀ {x y d}, f x y = some d → Op2 W r x y d) (hg : ∀ {x y d}, g x y = some d → Op2 W r' x y d) (a b c : XP W) : XP W where
  t := tChain r r' a.t b.t c.t
  ev env := (a.evV env).bind fun x => (b.evV env).bind fun y => ((f x y).bind blD).bind fun k => if k = true then (c.evV env).bind fun z => ((g y z).bind blD).map fun k => (.fr, .bl k) else some (.fr, .bl false)
  snd := fun {env k d} e => by
    obtain ⟨x, e1, e⟩ := Option.bind_eq_some_iff.mp e
    obtain ⟨y, e2, e⟩ := Option.bind_eq_some_iff.mp e
    obtain ⟨k, e3, e⟩ := Option.bind_eq_some_iff.mp e
    obtain ⟨z, e3, e4⟩ := Option.bind_eq_some_iff.mp e3
    cases blD_ok e4
    intro e' F σ H L Q rl q
    refine a.sV e1 e' F σ H L _ rl fun v F1 H1 x1 y1 => b.sV e2 e' F1 σ H1 L _ (rl.ext x1) fun u F2 H2 x2 y2 => hf e3 F2 H2 v u _ x2.s (y1.mono x2.h) y2 fun w F3 H3 x3 ⟨_, y3, _⟩ => ?_
    cases y3.shr rfl
    refine ⟨k, rfl, ?_⟩
    cases k with
    | false => cases e; exact q _ F3 H3 ((x1.trans x2).trans x3) (rO_sh .bl)
    | true =>
      obtain ⟨z, e5, e⟩ := Option.bind_eq_some_iff.mp e
      obtain ⟨k', e6, e⟩ := Option.map_eq_some_iff.mp e
      obtain ⟨z', e6, e7⟩ := Option.bind_eq_some_iff.mp e6
      cases blD_ok e7
      cases e
      exact c.sV e5 e' F3 σ H3 L _ ((rl.ext (x1.trans x2)).ext x3) fun p F4 H4 x4 y4 => hg e6 F4 H4 u p _ x4.s ((y2.mono x3.h).mono x4.h) y4 fun w F5 H5 x5 y5 => q _ F5 H5 (((x1.trans x2).trans x3).trans (x4.trans x5)) (rO_back ((x1.h.trans x2.h).trans (x3.h.trans x4.h)) y5)

structure XT {T : Tbl} (W : Wd T) where
  t : TT
  ev : Py.Env → Option Bool
  snd : ∀ {env b}, ev env = some b → AT W t env b
def xtV (a : XP W) : XT W where
  t := tTest a.t
  ev env := a.evB env
  snd := fun e => at_test (a.sB e)
def truD : D → Option Bool
  | .bl b => some b
  | .non => some false
  | .int i => some (decide (i ≠ 0))
  | .lst ds => some (!ds.isEmpty)
  | .tup ds => some (!ds.isEmpty)
  | _ => none
theorem isE {ds : List D} {vs : List V} {F : Hp} (b : Shrs W F ds vs) : (!ds.isEmpty) = !vs.isEmpty := by cases b <;> rfl
def xtTru (a : XP W) : XT W where
  t := fun σ H Q => a.t σ H fun x H' => ∃ k, TruV W.K x H' k ∧ Q k H'
  ev env := (a.evV env).bind truD
  snd := fun {env b} e => by
    obtain ⟨x, e1, e⟩ := Option.bind_eq_some_iff.mp e
    intro e' F σ H L Q r q
    refine a.sV e1 e' F σ H L _ r fun v F1 H1 x1 y1 => ⟨b, ?_, q F1 H1 x1⟩
    cases y1 <;> first | (cases e; done) | (cases e; rfl) | skip
    · cases e
      show decide _ = (_ != 0)
      rw [Bool.eq_iff_iff]; simp
    · cases e; exact .inr (.inl ⟨_, .of (by assumption), isE (by assumption)⟩)
    · cases e; exact .inl ⟨_, .of (by assumption), isE (by assumption)⟩
def xtAnd (a b : XT W) : XT W where
  t := tAnd a.t b.t
  ev env := andE (a.ev env) fun _ => b.ev env
  snd := fun {env c} e => by
    match ha : a.ev env, e with
    | some false, e => cases e; exact at_and (b := false) (a.snd ha) fun q => nomatch q
    | some true, e => exact at_and (a.snd ha) fun q => b.snd e
def xtOr (a b : XT W) : XT W where
  t := tOr a.t b.t
  ev env := orE (a.ev env) fun _ => b.ev env
  snd := fun {env c} e => by
    match ha : a.ev env, e with
    | some true, e => cases e; exact at_or (b := false) (a.snd ha) fun q => nomatch q
    | some false, e => exact at_or (a.snd ha) fun q => b.snd e
def xtNot (a : XT W) : XT W where
  t := tNot a.t
  ev env := (a.ev env).map (!·)
  snd := fun {env c} e => by
    obtain ⟨b, e1, rfl⟩ := Option.map_eq_some_iff.mp e
    exact at_not (a.snd e1)
/-- a if c else b -/
def xIf (c : XT W) (a b : XP W) : XP W where
  t := tIf c.t a.t b.t
  ev env := (c.ev env).bind fun k => if k = true then a.ev env else b.ev env
  snd := fun {env k d} e => by
    obtain ⟨x, e1, e⟩ := Option.bind_eq_some_iff.mp e
    refine ae_ifR (c.snd e1) (fun h => ?_) (fun h => ?_) fun F H H0 H1 v s q => ?_
    · subst h; exact a.snd e
    · subst h; exact b.snd e
    · cases k with
      | fr => exact rO_back s q
      | pl => exact q
      | vw => exact q
structure XA {T : Tbl} (W : Wd T) where
  t : TA
  evV : Py.Env → Option (List D)
  evF : Py.Env → Option (List D)
  sV : ∀ {env ds}, evV env = some ds → AA W t env (rVs W ds)
  sF : ∀ {env ds}, evF env = some ds → AA W t env (rFs W ds)
def xaNil {T : Tbl} (W : Wd T) : XA W where
  t := tNil
  evV _ := some []
  evF _ := some []
  sV := fun e => by cases e; exact aa_nilV
  sF := fun e => by cases e; exact aa_nil
def xaCons (a : XP W) (as : XA W) : XA W where
  t := tCons a.t as.t
  evV env := (a.evV env).bind fun x => (as.evV env).map (x :: ·)
  evF env := (a.evF env).bind fun x => (as.evF env).map (x :: ·)
  sV := fun {env ds} e => by
    obtain ⟨x, e1, e⟩ := Option.bind_eq_some_iff.mp e
    obtain ⟨xs, e2, rfl⟩ := Option.map_eq_some_iff.mp e
    exact aa_consV (a.sV e1) (as.sV e2)
  sF := fun {env ds} e => by
    obtain ⟨x, e1, e⟩ := Option.bind_eq_some_iff.mp e
    obtain ⟨xs, e2, rfl⟩ := Option.map_eq_some_iff.mp e
    exact aa_cons (a.sF e1) (as.sF e2)
def xTup (as : XA W) : XP W where
  t := tTup as.t
  ev env := (as.evF env).bind fun ds => if ds.length ≤ 1000000 then some (.fr, .tup ds) else none
  snd := fun {env k d} e => by
    obtain ⟨x, e1, e⟩ := Option.bind_eq_some_iff.mp e
    obtain ⟨h, e⟩ := ite_some e
    cases e
    exact (ae_tup (as.sF e1) h).own
def xLst (as : XA W) : XP W where
  t := tLst as.t
  ev env := (as.evF env).bind fun ds => if ds.length ≤ 1000000 then some (.fr, .olst ds) else none
  snd := fun {env k d} e => by
    obtain ⟨x, e1, e⟩ := Option.bind_eq_some_iff.mp e
    obtain ⟨h, e⟩ := ite_some e
    cases e
    exact ae_lst (as.sF e1) h
def xCb (r : List V → Hp → VK → Prop) (f : List D → Option D) (h : ∀ {ds d}, f ds = some d → Cb W r ds d) (as : XA W) : XP W where
  t := tCB r as.t
  ev env := (as.evV env).bind fun ds => (f ds).map (Prod.mk .fr)
  snd := fun {env k d} e => by
    obtain ⟨x, e1, e⟩ := Option.bind_eq_some_iff.mp e
    obtain ⟨z, e2, e⟩ := Option.map_eq_some_iff.mp e
    cases e
    exact ae_cb (as.sV e1) (h e2)
def intD : List D → Option D
  | [.int i] => some (.int i)
  | [.bl b] => some (.int (if b then 1 else 0))
  | _ => none
def xInt1 (as : XA W) : XP W := xCb (fun xs H Q => (∃ i, xs = [.int i] ∧ Q (.int i) H) ∨ ∃ k, xs = [.bl k] ∧ Q (.int (if k then 1 else 0)) H) intD (fun {ds d} e => by
  unfold intD at e
  split at e
  · cases e; exact cb_int
  · cases e
    exact fun F H vs Q s a q => by
      cases a with
      | cons a b => cases b; cases a; exact .inr ⟨_, rfl, q _ F H (.refl s) (rO_sh .int)⟩
  · cases e) as
def absD : List D → Option D
  | [.int i] => some (.int (if i < 0 then -i else i))
  | _ => none
def xAbs (as : XA W) : XP W := xCb (fun xs H Q => ∃ i, xs = [.int i] ∧ Q (.int (if i < 0 then -i else i)) H) absD (fun {ds d} e => by
  unfold absD at e
  split at e
  · cases e; exact cb_abs
  · cases e) as
def max2D : List D → Option D
  | [.int i, .int j] => some (.int (if j > i then j else i))
  | _ => none
def xMax2 (as : XA W) : XP W := xCb (fun xs H Q => ∃ i j, xs = [.int i, .int j] ∧ Q (.int (if j > i then j else i)) H) max2D (fun {ds d} e => by
  unfold max2D at e
  split at e
  · cases e; exact cb_max2
  · cases e) as
def min2D : List D → Option D
  | [.int i, .int j] => some (.int (if j < i then j else i))
  | _ => none
def xMin2 (as : XA W) : XP W := xCb (fun xs H Q => ∃ i j, xs = [.int i, .int j] ∧ Q (.int (if j < i then j else i)) H) min2D (fun {ds d} e => by
  unfold min2D at e
  split at e
  · cases e; exact cb_min2
  · cases e) as
abbrev rLenA (K : PySem.W.Frag) : List V → Hp → VK → Prop := fun xs H Q => (∃ p ys, xs = [.ref p] ∧ (SqL K H p ys ∨ SqT K H p ys) ∧ Q (.int ys.length) H) ∨ (∃ a kvs, xs = [V.ref a] ∧ H a = some (.dK kvs) ∧ Q (.int kvs.length) H)
def lenD : List D → Option D
  | [.lst ds] => some (.int ds.length)
  | [.tup ds] => some (.int ds.length)
  | [.scr ns] => some (.int ns.length)
  | _ => none
theorem len_cb {ds : List D} {d : D} (e : lenD ds = some d) : Cb W (rLenA W.K) ds d := by
  unfold lenD at e
  split at e
  · cases e; exact cb_l cb_lenL
  · cases e; exact cb_l cb_lenT
  · cases e; exact cb_l cb_lenS
  · cases e
def xLen (as : XA W) : XP W := xCb (rLenA W.K) lenD len_cb as
def itemsD : D → Option (List D)
  | .lst xs => some xs
  | .olst xs => some xs
  | .tup xs => some xs
  | .scr ns => some (ns.map .int)
  | _ => none
def ixD (d y : D) : Option D := match y with
  | .int i => (itemsD d).bind fun xs => atI xs i
  | _ => none
theorem Owns.get {G H : Hp} : ∀ {ds : List D} {vs : List V} {L : List Addr} {i : Nat} {d : D}, Owns W G H ds vs L → ds[i]? = some d → ∃ v M, vs[i]? = some v ∧ Own W G H d v M
  | _, _, _, _, _, .nil, e => by simp at e
  | _, _, _, 0, _, .cons h _, e => by simp at e; subst e; exact ⟨_, _, rfl, h⟩
  | _, _, _, i + 1, _, .cons _ t, e => Owns.get (i := i) t (by simpa using e)
theorem atI_own {G H : Hp} {ds : List D} {vs : List V} {L : List Addr} {i : Int} (h : Owns W G H ds vs L) (ha : atI ds i = some d) : ∃ v M, atI vs i = some v ∧ Own W G H d v M := by
  unfold atI at ha ⊢
  rw [← h.length]
  cases e : ixN ds.length i with
  | none => rw [e] at ha; cases ha
  | some j =>
    rw [e] at ha
    exact h.get ha
theorem ixD_ok {G H : Hp} {v : V} {L : List Addr} {i : Int} {x : D} (s : Same G H) (o : Own W G H d v L) (h : ixD d (.int i) = some x) : ∃ w M, Own W G H x w M ∧ ∀ Q : VK, Q w H → rIxU W.K v (.int i) H Q := by
  obtain ⟨xs, h1, h2⟩ := Option.bind_eq_some_iff.mp h
  cases o with
  | sh y =>
    cases y <;> first | (cases h1; done) | skip
    · cases h1
      obtain ⟨w, M, e1, e2⟩ := atI_own (Shrs.owns (H := H) (shrs_ints (W := W) (F := G) _)) h2
      exact ⟨w, M, e2, fun Q q => .inl ⟨_, _, i, w, rfl, rfl, s.seq (by assumption), e1, q⟩⟩
    · cases h1
      obtain ⟨w, M, e1, e2⟩ := atI_own (Shrs.owns (H := H) (by assumption)) h2
      exact ⟨w, M, e2, fun Q q => .inr ⟨_, _, i, w, rfl, rfl, .of (s _ _ (by assumption)), e1, q⟩⟩
    · cases h1
      obtain ⟨w, M, e1, e2⟩ := atI_own (Shrs.owns (H := H) (by assumption)) h2
      exact ⟨w, M, e2, fun Q q => .inl ⟨_, _, i, w, rfl, rfl, .of (s _ _ (by assumption)), e1, q⟩⟩
  | olst ha hs =>
    cases h1
    obtain ⟨w, M, e1, e2⟩ := atI_own hs h2
    exact ⟨w, M, e2, fun Q q => .inl ⟨_, _, i, w, rfl, rfl, .of ha, e1, q⟩⟩
  | odic => cases h1
  | odit => cases h1
  | odig => cases h1
  | oins => cases h1
def xIx (a b : XP W) : XP W where
  t := tOp (rIxU W.K) a.t b.t
  ev env := (a.ev env).bind fun p => (b.evV env).bind fun y => (ixD p.2 y).map p.1.of
  snd := fun {env k d} e => by
    obtain ⟨⟨k1, d1⟩, e1, e⟩ := Option.bind_eq_some_iff.mp e
    obtain ⟨y, e2, e⟩ := Option.bind_eq_some_iff.mp e
    obtain ⟨x, e3, e9⟩ := Option.map_eq_some_iff.mp e
    intro e' F σ H L Q r q
    refine a.snd e1 e' F σ H L _ r fun v F1 H1 x1 y1 => b.sV e2 e' F1 σ H1 L _ (r.ext x1) fun u F2 H2 x2 y2 => ?_
    obtain ⟨L1, o⟩ := rK_own y1
    have o2 := o.ext x2
    cases y <;> first | (cases e3; done) | skip
    cases y2
    obtain ⟨w, M, o3, c⟩ := ixD_ok (basis_same x2.s) o2 e3
    exact c _ (q w F2 H2 (x1.trans x2) (rK_of x2.s o3 e9))
/-- o.f -/
def fldD (T : Tbl) (f : String) : D → Option D
  | .ins c ns xs => if T.fOk c f = true then (pos f ns).bind fun j => xs[j]? else none
  | .oins c ns xs => if T.fOk c f = true then (pos f ns).bind fun j => xs[j]? else none
  | _ => none
theorem fldD_ok {G H : Hp} {v : V} {L : List Addr} {f : String} {x : D} (s : Same G H) (o : Own W G H d v L) (h : fldD T f d = some x) :
    ∃ a c dx fs w M, v = .ref a ∧ H a = some (.ins (W.cA c) dx fs) ∧ Cls W.K (W.cA c) ∧ NoAttr W.K (W.cA c) (so f) ∧ fs.lookup (so f) = some w ∧ Own W G H x w M := by
  have gen : ∀ {c ns xs vs dx a M}, (if T.fOk c f = true then (pos f ns).bind fun j => xs[j]? else none) = some x → H a = some (.ins (W.cA c) dx ((ns.map so).zip vs)) → W.has c → Owns W G H xs vs M →
      ∃ a' c' dx fs w M, V.ref a = .ref a' ∧ H a' = some (.ins (W.cA c') dx fs) ∧ Cls W.K (W.cA c') ∧ NoAttr W.K (W.cA c') (so f) ∧ fs.lookup (so f) = some w ∧ Own W G H x w M := by
    intro c ns xs vs dx a M e ha hc os
    split at e
    · rename_i hf
      obtain ⟨j, e1, e2⟩ := Option.bind_eq_some_iff.mp e
      obtain ⟨w, M', e3, o3⟩ := os.get e2
      exact ⟨a, c, dx, _, w, M', rfl, ha, W.cl c hc, W.na c f hc hf, (zip_lookup e1).trans e3, o3⟩
    · cases e
  cases o with
  | sh y =>
    cases y <;> first | (cases h; done) | skip
    exact gen h (s _ _ (by assumption)) (by assumption) (Shrs.owns (by assumption))
  | olst => cases h
  | odic => cases h
  | odit => cases h
  | odig => cases h
  | oins ha hc hl hs => exact gen h ha hc hs
def xFld (a : XP W) (f : String) : XP W where
  t := tFld W.K a.t (so f)
  ev env := (a.ev env).bind fun p => (fldD T f p.2).map p.1.of
  snd := fun {env k d} e => by
    obtain ⟨⟨k1, d1⟩, e1, e⟩ := Option.bind_eq_some_iff.mp e
    obtain ⟨x, e3, e⟩ := Option.map_eq_some_iff.mp e
    intro e' F σ H L Q r q
    refine a.snd e1 e' F σ H L _ r fun v F1 H1 x1 y1 => ?_
    obtain ⟨L1, o⟩ := rK_own y1
    obtain ⟨a, c, dx, fs, w, M, rfl, h1, h2, h3, h4, h5⟩ := fldD_ok (basis_same x1.s) o e3
    exact ⟨a, _, dx, fs, w, rfl, h1, h2, h3, h4, q w F1 H1 x1 (rK_of x1.s h5 e)⟩
def xList (a : XP W) : XP W where
  t := tCB (fun xs H Q => ∃ p ys, xs = [.ref p] ∧ (SqL W.K H p ys ∨ SqT W.K H p ys) ∧ ∀ l, H l = none → Q (.ref l) (upd H l (.lst ys))) (tCons a.t tNil)
  ev env := (a.evK env).bind fun d => (seqOf d).map fun p => (.fr, .olst p.2)
  snd := fun {env k d} e => by
    obtain ⟨d1, e1, e⟩ := Option.bind_eq_some_iff.mp e
    obtain ⟨⟨b, xs⟩, e3, e⟩ := Option.map_eq_some_iff.mp e
    cases e
    intro e' F σ H L Q r q
    refine a.sK e1 e' F σ H L _ r fun v F1 H1 x1 ⟨L1, o⟩ => ?_
    obtain ⟨a, vs, rfl, sh, sq⟩ := seqOf_ok x1.s o e3
    refine ⟨a, vs, rfl, ?_, fun p hp => q _ F1 _ (x1.trans (.newH x1.s hp)) ⟨[p], .olst upd_same sh.owns, by simp, fun x m => by
      rw [List.mem_singleton.mp m]; exact ⟨x1.h.free hp, x1.s.free hp⟩⟩⟩
    cases b with
    | true => exact .inr sq
    | false => exact .inl sq
def xTuple (a : XP W) : XP W where
  t := tCB (fun xs H Q => ∃ p ys, xs = [.ref p] ∧ ((SqL W.K H p ys ∧ ∀ l, H l = none → Q (.ref l) (upd H l (.tup ys))) ∨ (SqT W.K H p ys ∧ Q (.ref p) H))) (tCons a.t tNil)
  ev env := (a.evK env).bind fun d => (seqOf d).map fun p => (.fr, .tup p.2)
  snd := fun {env k d} e => by
    obtain ⟨d1, e1, e⟩ := Option.bind_eq_some_iff.mp e
    obtain ⟨⟨b, xs⟩, e3, e⟩ := Option.map_eq_some_iff.mp e
    cases e
    intro e' F σ H L Q r q
    refine a.sK e1 e' F σ H L _ r fun v F1 H1 x1 ⟨L1, o⟩ => ?_
    cases b with
    | true =>
      have o1 : ∃ a vs, d1 = .tup xs ∧ v = .ref a ∧ F1 a = some (.tup vs) ∧ Shrs W F1 xs vs := by
        unfold seqOf at e3
        split at e3 <;> first | (cases e3; done) | skip
        · split at e3 <;> cases e3
        · cases e3
          cases o.shr rfl with
          | tup ha hs => exact ⟨_, _, rfl, rfl, ha, hs⟩
      obtain ⟨a, vs, rfl, rfl, ha, hs⟩ := o1
      exact ⟨a, vs, rfl, .inr ⟨.of (x1.s _ _ ha), q _ F1 H1 x1 (rO_sh (.tup ha hs))⟩⟩
    | false =>
      obtain ⟨a, vs, rfl, sh, sq⟩ := seqOf_ok x1.s o e3
      exact ⟨a, vs, rfl, .inl ⟨sq, fun p hp => q _ (upd F1 p (.tup vs)) _ (x1.trans (.new x1.s hp)) (rO_sh (.tup upd_same (sh.mono (same_new (x1.s.free hp)))))⟩⟩
/-- the name of a thing's type: a built-in's, an own class's -/
def tyD : D → Option (Bool × String)
  | .non => some (false, "NoneType")
  | .bl _ => some (false, "bool")
  | .int _ => some (false, "int")
  | .str _ => some (false, "str")
  | .lst _ => some (false, "list")
  | .tup _ => some (false, "tuple")
  | .ins c _ _ => some (true, c)
  | _ => none
/-- is a thing of the built-in type a also one of b -/
def isiB (a b : String) : Bool := a == b || (a == "bool" && b == "int")
/-- a class as isinstance takes it: a built-in's name, an own class's -/
def isi1 (T : Tbl) (t c : Bool × String) : Bool := match t, c with
  | (false, a), (false, b) => isiB a b
  | (false, _), (true, _) => false
  | (true, _), (false, _) => false
  | (true, c), (true, d) => T.sub c d
def clsOk (W : Wd T) (c : Bool × String) : Prop := if c.1 = true then W.has c.2 else c.2 ∈ ["int", "bool", "str", "list", "tuple", "dict"]
def clsT (W : Wd T) (c : Bool × String) : Value := if c.1 = true then .ref (W.cA c.2) else .type c.2
def clsV (W : Wd T) (c : Bool × String) : V := if c.1 = true then .ref (W.cA c.2) else .ty c.2
theorem clsV_ok (c : Bool × String) : ClsV (clsV W c) (clsT W c) := by
  obtain ⟨b, n⟩ := c
  cases b with
  | true => exact .own _
  | false => exact .ty _
theorem kitB_ok : ∀ a ∈ ["NoneType", "bool", "int", "str", "list", "tuple", "dict"], ∀ b ∈ ["int", "bool", "str", "list", "tuple", "dict"], kitB a b = some (isiB a b) := by decide +kernel
theorem tyD_ok {F H : Hp} {v : V} {t : Bool × String} (s : Same F H) (h : Shr W F d v) (e : tyD d = some t) : TyX W.K H v (clsT W t) ∧ if t.1 = true then W.has t.2 else t.2 ∈ ["NoneType", "bool", "int", "str", "list", "tuple", "dict"] := by
  cases h with
  | non => cases e; exact ⟨.base .non, by simp⟩
  | bl => cases e; exact ⟨.base (.bl _), by simp⟩
  | int => cases e; exact ⟨.base (.int _), by simp⟩
  | str => cases e; exact ⟨.base (.str _), by simp⟩
  | lst h => cases e; exact ⟨.base (.lst (s _ _ h)), by simp⟩
  | tup h => cases e; exact ⟨.base (.tup (s _ _ h)), by simp⟩
  | dic => cases e
  | dit => cases e
  | ins h hc => cases e; exact ⟨.base (.ins (s _ _ h) (W.cl _ hc) (W.isT _ hc).1 (W.isT _ hc).2.1 (W.isT _ hc).2.2.1 (W.isT _ hc).2.2.2), hc⟩
  | scr => cases e
  | cls => cases e
  | sei => cases e
  | dig => cases e
theorem kit_isi {t c : Bool × String} (ht : if t.1 = true then W.has t.2 else t.2 ∈ ["NoneType", "bool", "int", "str", "list", "tuple", "dict"]) (hc : clsOk W c) : PySem.W.kitOne W.K (clsT W t) (clsT W c) = some (isi1 T t c) := by
  obtain ⟨b, n⟩ := t
  obtain ⟨b', n'⟩ := c
  cases b <;> cases b'
  · exact kit_ty (kitB_ok n ht n' hc)
  · exact W.isTO n n' ht hc
  · exact W.isOT n n' ht hc
  · exact W.isOO n n' ht hc
/-- isinstance(x, c) -/
def xIsi (c : Bool × String) (a : XP W) : XP W where
  t := fun σ H Q => clsOk W c → tCB (rIsi W.K) (tCons a.t (tCons (tC (clsV W c)) tNil)) σ H Q
  ev env := (a.evV env).bind fun x => (tyD x).map fun t => (.fr, .bl (isi1 T t c))
  snd := fun {env k d} e => by
    obtain ⟨x, e1, e⟩ := Option.bind_eq_some_iff.mp e
    obtain ⟨t, e2, e⟩ := Option.map_eq_some_iff.mp e
    cases e
    intro e' F σ H L Q r q hc
    refine a.sV e1 e' F σ H L _ r fun v F1 H1 x1 y1 => ?_
    obtain ⟨z1, z2⟩ := tyD_ok (Same.refl _) y1 e2
    exact ⟨_, _, _, _, _, rfl, clsV_ok c, z1, kit_isi z2 hc, q _ F1 H1 x1 (rO_sh .bl)⟩
def isiA (T : Tbl) (t : Bool × String) : List (Bool × String) → Bool
  | [] => false
  | c :: cs => isi1 T t c || isiA T t cs
theorem kitAny_isi {t : Bool × String} (ht : if t.1 = true then W.has t.2 else t.2 ∈ ["NoneType", "bool", "int", "str", "list", "tuple", "dict"]) : ∀ {cs : List (Bool × String)}, (∀ c ∈ cs, clsOk W c) → PySem.W.kitAny W.K (clsT W t) (cs.map (clsT W)) = some (isiA T t cs)
  | [], _ => rfl
  | c :: cs, h => by
    have h1 := kit_isi ht (h c (List.mem_cons_self ..))
    have h2 := kitAny_isi ht (cs := cs) fun x m => h x (List.mem_cons_of_mem _ m)
    exact kitAny_cons h1 (fun hb => by rw [h2, isiA, hb]; rfl) fun hb => by rw [isiA, hb]; rfl
theorem paired_cls : ∀ cs : List (Bool × String), Paired ClsV (cs.map (clsV W)) (cs.map (clsT W))
  | [] => .nil
  | c :: cs => .cons (clsV_ok c) (paired_cls cs)
def tCls {T : Tbl} (W : Wd T) : List (Bool × String) → TA
  | [] => tNil
  | c :: cs => tCons (tC (clsV W c)) (tCls W cs)
theorem tCls_run : ∀ (cs : List (Bool × String)) (σ : St) (H : Hp) (Q : List V → Hp → Prop), Q (cs.map (clsV W)) H → tCls W cs σ H Q
  | [], _, _, _, q => q
  | _ :: cs, σ, H, _, q => tCls_run cs σ H _ q
/-- isinstance(x, (c1, c2, ..)) -/
def xIsiT (cs : List (Bool × String)) (a : XP W) : XP W where
  t := fun σ H Q => (∀ c ∈ cs, clsOk W c) → cs.length ≤ 100 → tCB (rIsiT W.K) (tCons a.t (tCons (tTup (tCls W cs)) tNil)) σ H Q
  ev env := (a.evV env).bind fun x => (tyD x).map fun t => (.fr, .bl (isiA T t cs))
  snd := fun {env k d} e => by
    obtain ⟨x, e1, e⟩ := Option.bind_eq_some_iff.mp e
    obtain ⟨t, e2, e⟩ := Option.map_eq_some_iff.mp e
    cases e
    intro e' F σ H L Q r q hc hl
    refine a.sV e1 e' F σ H L _ r fun v F1 H1 x1 y1 => tCls_run cs σ H1 _ ⟨by rw [List.length_map]; exact Nat.le_trans hl (by decide), fun p hp => ?_⟩
    obtain ⟨z1, z2⟩ := tyD_ok (same_new hp) y1 e2
    exact ⟨_, _, _, _, _, _, rfl, upd_same, paired_cls cs, z1, kitAny_isi z2 hc, q _ F1 _ (x1.trans (.newH x1.s hp)) (rO_sh .bl)⟩
/-- how a call ends: what it gives, what the borrowed argument is then -/
inductive Rz where
  | ok (d : D) (b : Option D) | exn (x : Exn) (b : Option D) | no
abbrev Sem := String → List D → Option Nat → Rz
structure Post (F H : Hp) (L0 : List Addr) (F' H' : Hp) : Prop where
  f : Same F F'
  s : Same F' H'
  h : ∀ a o, a ∉ L0 → H a = some o → H' a = some o
  n : ∀ a o, F' a = some o → F a = some o ∨ H a = none ∨ a ∈ L0
def bOwn {T : Tbl} (W : Wd T) (F H : Hp) (vs : List V) : Option Nat → Option D → List Addr → Prop
  | some i, some d, M => ∃ v, vs[i]? = some v ∧ Own W F H d v M
  | _, _, M => M = []
def spR {T : Tbl} (W : Wd T) (n : Nat) (φ : List D → Option Nat → Rz) (b : Option Nat) : Sp := fun vs H Q E => ∃ F args L0, Same F H ∧ Owns W F H args vs L0 ∧ L0.Nodup ∧ (∀ a ∈ L0, F a = none) ∧ args.length = n ∧ φ args b ≠ .no ∧
  (∀ d bd, φ args b = .ok d bd → ∀ F' H' v M Mb, Post F H L0 F' H' → Own W F' H' d v M → bOwn W F' H' vs b bd Mb → (M ++ Mb).Nodup → (∀ a ∈ M ++ Mb, F' a = none ∧ (a ∈ L0 ∨ H a = none)) → Q v H') ∧
  (∀ x bd, φ args b = .exn x bd → ∀ F' H' C dd Mb, Post F H L0 F' H' → IsExn W F' x C dd → bOwn W F' H' vs b bd Mb → Mb.Nodup → (∀ a ∈ Mb, F' a = none ∧ (a ∈ L0 ∨ H a = none)) → E C dd H')
theorem spR_len {n : Nat} {φ : List D → Option Nat → Rz} {b : Option Nat} : ∀ vs H Q E, spR W n φ b vs H Q E → vs.length = n := by
  rintro vs H Q E ⟨F, args, L0, _, hS, _, _, hl, _⟩
  rw [← hS.length, hl]
theorem Post.ext {F H F' H' : Hp} (p : Post F H [] F' H') : Ext F H F' H' := ⟨p.f, p.s, fun a o h => p.h a o (by simp) h, fun a o h => (p.n a o h).elim .inl fun z => z.elim .inr fun q => nomatch q⟩
def Rz.toF : Rz → Option (Kd × D)
  | .ok d _ => some (.fr, d)
  | _ => none
def Rz.toV : Rz → Option (Kd × D)
  | .ok d _ => some (if isFlat d = true then (.fr, d) else (.vw, fz d))
  | _ => none
theorem Rz.toF_ok {r : Rz} {k : Kd} {d : D} (h : r.toF = some (k, d)) : k = .fr ∧ ∃ b, r = .ok d b := by cases r <;> cases h; exact ⟨rfl, _, rfl⟩
theorem Rz.toV_ok {r : Rz} {k : Kd} {d : D} (h : r.toV = some (k, d)) : ∃ d0 b, r = .ok d0 b ∧ ((isFlat d0 = true ∧ k = .fr ∧ d = d0) ∨ (k = .vw ∧ d = fz d0)) := by
  cases r with
  | exn => cases h
  | no => cases h
  | ok d0 b =>
    have e : some (if isFlat d0 = true then (Kd.fr, d0) else (.vw, fz d0)) = some (k, d) := h
    have e := Option.some.inj e
    split at e
    · cases e; exact ⟨_, _, rfl, .inl ⟨by assumption, rfl, rfl⟩⟩
    · cases e; exact ⟨_, _, rfl, .inr ⟨rfl, rfl⟩⟩
/-- a call over shared data -/
theorem callF {n : Nat} {φ : List D → Option Nat → Rz} {F H : Hp} {vs : List V} {args : List D} {Q : VK} {E : XK} {b : Option D} (s : Same F H) (h : Shrs W F args vs) (hl : args.length = n) (hφ : φ args none = .ok d b)
    (q : ∀ v F' H', Ext F H F' H' → rO W d F' H' H v → Q v H') : spR W n φ none vs H Q E := by
  refine ⟨F, args, [], s, h.owns, .nil, ?_, hl, ?_, fun d' bd e F' H' v M Mb p o ob nd k => ?_, fun x bd e => ?_⟩
  · exact fun a m => nomatch m
  · rw [hφ]; exact fun z => nomatch z
  rotate_left
  · rw [hφ] at e; cases e
  rw [hφ] at e; cases e
  have ob : Mb = [] := ob
  subst ob
  rw [List.append_nil] at nd k
  exact q v F' H' p.ext ⟨M, o, nd, fun a m => ⟨(k a m).2.elim (fun z => nomatch z) id, (k a m).1⟩⟩
/-- a call over what is merely seen -/
theorem callV {n : Nat} {φ : List D → Option Nat → Rz} {F H : Hp} {vs : List V} {args : List D} {Q : VK} {E : XK} {b : Option D} (s : Same F H) (h : Shrs W H args vs) (hl : args.length = n) (hφ : φ args none = .ok d b)
    (q : ∀ v H', Ext F H F H' → Shr W H' (fz d) v → Q v H') : spR W n φ none vs H Q E :=
  callF (Same.refl H) h hl hφ fun v F' H' x ⟨L, o, _, _⟩ => q v H' ⟨Same.refl _, s.trans (x.f.trans x.s), x.h, fun _ _ z => .inl z⟩ (o.view x.s fun _ _ _ z => z)
/-- f(..): the defaults dds behind -/
def xCall (φ : List D → Option Nat → Rz) (n : Nat) (as : XA W) (dds : List D) (dvs : List V) (hd : ∀ F, Shrs W F dds dvs) : XP W where
  t := tCall (spR W n φ none) dvs E0 as.t
  ev env := match as.evF env with
    | some ds => if (ds ++ dds).length = n then (φ (ds ++ dds) none).toF else none
    | none => match as.evV env with
      | some ds => if (ds ++ dds).length = n then (φ (ds ++ dds) none).toV else none
      | none => none
  snd := fun {env k d} e => by
    match e1 : as.evF env, e with
    | some ds, e =>
      dsimp only at e
      split at e
      · rename_i hl
        obtain ⟨rfl, b, h⟩ := Rz.toF_ok e
        exact fun e' F σ H L Q r q => as.sF e1 e' F σ H L _ r fun vs F1 H1 x1 y1 => callF x1.s (y1.append (hd F1)) hl h fun v F2 H2 x2 y2 => q v F2 H2 (x1.trans x2) (rO_back x1.h y2)
      · cases e
    | none, e =>
      match e2 : as.evV env, e with
      | some ds, e =>
        dsimp only at e
        split at e
        · rename_i hl
          obtain ⟨d0, b, h, hk⟩ := Rz.toV_ok e
          refine fun e' F σ H L Q r q => as.sV e2 e' F σ H L _ r fun vs F1 H1 x1 y1 => callV x1.s (Shrs.append y1 (hd H1)) hl h fun v H2 x2 y2 => q v F1 H2 (x1.trans x2) ?_
          rcases hk with ⟨hf, rfl, rfl⟩ | ⟨rfl, rfl⟩
          · rw [fz_isSh (isSh_flat hf)] at y2
            exact rO_sh (y2.flat hf)
          · exact y2
        · cases e
structure XG {T : Tbl} (W : Wd T) where
  t : TG
  ev : List Nat → D → Py.Env → Option Py.Env
  own : List Nat
  snd : ∀ {P d env env'}, ev P d env = some env' → AG W P t d env (· = env')
  mono : ∀ {v : V} {σ : St} {H : Hp} {Q Q' : St → Hp → Prop}, (∀ σ H, Q σ H → Q' σ H) → t v σ H Q → t v σ H Q'
  gw : ∀ {vs : List Nat}, (∀ i ∈ own, i ∈ vs) → GW t vs
structure XGs {T : Tbl} (W : Wd T) where
  t : TGs
  ev : List Nat → List D → Py.Env → Option Py.Env
  own : List Nat
  snd : ∀ {P d env env'}, ev P d env = some env' → AGs W P t d env (· = env')
  mono : ∀ {v : List V} {σ : St} {H : Hp} {Q Q' : St → Hp → Prop}, (∀ σ H, Q σ H → Q' σ H) → t v σ H Q → t v σ H Q'
  gw : ∀ {vs : List Nat}, (∀ i ∈ own, i ∈ vs) → GWs t vs
def setS (P : List Nat) (i : Nat) (d : D) (env : Py.Env) : Option Py.Env := if i < env.length ∧ i ∉ P then some (env.set i (some d)) else none
def xgN {T : Tbl} (W : Wd T) (i : Nat) : XG W where
  t := gName i
  ev P d env := setS P i d env
  own := [i]
  snd := fun {P d env env'} e => by
    obtain ⟨⟨h1, h2⟩, rfl⟩ := ite_some e
    exact ag_name (List.getElem?_eq_getElem h1) h2 rfl
  mono := fun h q => h _ _ q
  gw := fun h => gw_name (h i (List.mem_cons_self ..))
def xgsNil {T : Tbl} (W : Wd T) : XGs W where
  t := gNil
  ev P ds env := match ds with
    | [] => some env
    | _ :: _ => none
  own := []
  snd := fun {P ds env env'} e => by
    cases ds with
    | nil => cases e; exact ags_nil rfl
    | cons => cases e
  mono := fun h q => ⟨q.1, h _ _ q.2⟩
  gw := fun h => gws_nil
def xgsCons (g : XG W) (gs : XGs W) : XGs W where
  t := gCons g.t gs.t
  ev P ds env := match ds with
    | [] => none
    | d :: ds => (g.ev P d env).bind fun env => gs.ev P ds env
  own := g.own ++ gs.own
  snd := fun {P ds env env'} e => by
    cases ds with
    | nil => cases e
    | cons d ds =>
      obtain ⟨env1, e1, e2⟩ := Option.bind_eq_some_iff.mp e
      refine ags_cons fun e0 F σ H L v Q hP r s c => g.snd e1 e0 F σ H L v Q hP r s fun env2 σ2 L2 h r2 => ?_
      subst h
      exact c _ σ2 L2 (gs.snd e2) r2
  mono := fun h ⟨v, r, e, q⟩ => ⟨v, r, e, g.mono (fun _ _ q => gs.mono h q) q⟩
  gw := fun {vs} h v σ H Q ⟨x, r, e, q⟩ => ⟨x, r, e, g.mono (fun σ2 H2 ⟨w, q2⟩ => gs.mono (fun σ3 H3 ⟨w3, q3⟩ => ⟨w3.trans w, q3⟩) (gs.gw (fun i m => h i (List.mem_append_right _ m)) r σ2 H2 Q q2)) (g.gw (fun i m => h i (List.mem_append_left _ m)) x σ H _ q)⟩
def xgT (n : Nat) (gs : XGs W) : XG W where
  t := gTup W.K n gs.t
  ev P d env := match d with
    | .tup ds => if ds.length = n then gs.ev P ds env else none
    | _ => none
  own := gs.own
  snd := fun {P d env env'} e => by
    cases d <;> first | (cases e; done) | skip
    dsimp only at e
    split at e
    · exact ag_tup (by assumption) (gs.snd e)
    · cases e
  mono := fun h ⟨a, xs, e1, e2, e3, q⟩ => ⟨a, xs, e1, e2, e3, gs.mono h q⟩
  gw := fun h => gw_tup (gs.gw h)
structure XI {T : Tbl} (W : Wd T) where
  t : TI
  evF : Py.Env → Option (List D)
  evP : Py.Env → Option (List D)
  sF : ∀ {env ds}, evF env = some ds → AIt W t env ds
  sP : ∀ {env ds}, evP env = some ds → AIp W t env ds
theorem seq_sql {F0 : Hp} {a : Addr} {ds : List D} {vs : List V} (h : SqL W.K F0 a vs) (hs : Shrs W F0 ds vs) : Seq W (Itl W.K a) ds F0 where
  go := fun i d F H s1 s2 hd => by
    obtain ⟨v, hv, sv⟩ := hs.get hd
    refine ⟨⟨vs, v, (s1.trans s2).seq h, hv⟩, fun x H' y => ?_⟩
    obtain ⟨rfl, y⟩ := y
    have := y vs ((s1.trans s2).seq h)
    rw [hv] at this; cases this
    exact ⟨F, .refl s2, sv.mono s1⟩
  stop := fun F H s1 s2 => ⟨vs, (s1.trans s2).seq h, by rw [hs.length]; exact Nat.le_refl _⟩
theorem seqP_sql {F0 H0 : Hp} {a : Addr} {ds : List D} {vs : List V} (h : SqL W.K H0 a vs) (hs : Shrs W F0 ds vs) : SeqP W (Itl W.K a) ds F0 H0 where
  go := fun i d F H s1 s0 s2 hd => by
    obtain ⟨v, hv, sv⟩ := hs.get hd
    refine ⟨⟨vs, v, s0.seq h, hv⟩, fun x H' y => ?_⟩
    obtain ⟨rfl, y⟩ := y
    have := y vs (s0.seq h)
    rw [hv] at this; cases this
    exact ⟨F, .refl s2, sv.mono s1⟩
  stop := fun F H s1 s0 s2 => ⟨vs, s0.seq h, by rw [hs.length]; exact Nat.le_refl _⟩
theorem sameT {H H' : Hp} (e : Same H H') {a : Addr} {xs : List V} (h : SqT W.K H a xs) : SqT W.K H' a xs := by
  rcases h with (h | ⟨o, h⟩) | h
  · exact .inl (.inl (e _ _ h))
  · exact .inl (.inr ⟨o, e _ _ h⟩)
  · exact .inr h
theorem seqP_sqt {F0 H0 : Hp} {a : Addr} {ds : List D} {vs : List V} (h : SqT W.K H0 a vs) (hs : Shrs W F0 ds vs) : SeqP W (Itt W.K a) ds F0 H0 where
  go := fun i d F H s1 s0 s2 hd => by
    obtain ⟨v, hv, sv⟩ := hs.get hd
    refine ⟨⟨vs, v, sameT s0 h, hv⟩, fun x H' y => ?_⟩
    obtain ⟨rfl, y⟩ := y
    have := y vs (sameT s0 h)
    rw [hv] at this; cases this
    exact ⟨F, .refl s2, sv.mono s1⟩
  stop := fun F H s1 s0 s2 => ⟨vs, sameT s0 h, by rw [hs.length]; exact Nat.le_refl _⟩
/-- a shared sequence's items -/
def seqF : D → Option (List D)
  | .lst xs => some xs
  | .tup xs => some xs
  | .scr ns => some (ns.map .int)
  | _ => none
def xiSeq (a : XP W) : XI W where
  t := iSeqU W.K a.t
  evF env := (a.evF env).bind seqF
  evP env := (a.evK env).bind fun d => (seqOf d).map (·.2)
  sF := fun {env ds} e => by
    obtain ⟨d, e1, e⟩ := Option.bind_eq_some_iff.mp e
    intro e' F σ H L R r q
    cases d <;> first | (cases e; done) | skip
    · cases e
      refine .inl (a.sF e1 e' F σ H L _ r fun v F1 H1 x1 y1 => ?_)
      cases y1 with
      | scr h => exact ⟨_, rfl, ⟨_, x1.s.seq h⟩, q _ F1 H1 x1 (seq_sql h (shrs_ints _))⟩
    · cases e; exact .inr (ait_tup (a.sF e1) e' F σ H L R r q)
    · cases e; exact .inl (ait_list (a.sF e1) e' F σ H L R r q)
  sP := fun {env ds} e => by
    obtain ⟨d, e1, e⟩ := Option.bind_eq_some_iff.mp e
    obtain ⟨⟨b, xs⟩, e2, rfl⟩ := Option.map_eq_some_iff.mp e
    intro e' F σ H L R r q
    cases b with
    | true =>
      refine .inr (a.sK e1 e' F σ H L _ r fun v F1 H1 x1 ⟨M, o⟩ => ?_)
      obtain ⟨a, vs, rfl, sh, sq⟩ := seqOf_ok x1.s o e2
      exact ⟨a, rfl, ⟨vs, sq⟩, q _ F1 H1 x1 (seqP_sqt sq sh)⟩
    | false =>
      refine .inl (a.sK e1 e' F σ H L _ r fun v F1 H1 x1 ⟨M, o⟩ => ?_)
      obtain ⟨a, vs, rfl, sh, sq⟩ := seqOf_ok x1.s o e2
      exact ⟨a, rfl, ⟨vs, sq⟩, q _ F1 H1 x1 (seqP_sql sq sh)⟩
def guardB {α : Type} (b : Bool) (x : Option α) : Option α := match b with
  | true => x
  | false => none
theorem guardB_some {α : Type} {b : Bool} {x : Option α} {y : α} (h : guardB b x = some y) : b = true ∧ x = some y := by
  cases b with
  | true => exact ⟨rfl, h⟩
  | false => cases h
/-- said with `Nat.ble` on the size: the kernel sticks at it, and never counts a big number down -/
def rngOk (i : Int) : Bool := Nat.ble i.natAbs 1000000000000000000
theorem rngOk_ok {i : Int} (h : rngOk i = true) : -4611686018427387904 ≤ i ∧ i < 4611686018427387904 := by
  have h : i.natAbs ≤ 1000000000000000000 := Nat.le_of_ble_eq_true h
  omega
def rng1D : List D → Option (List D)
  | [.int n] => guardB (rngOk n) (some (rangeD 0 n.toNat))
  | _ => none
def rng2D : List D → Option (List D)
  | [.int m, .int n] => guardB (rngOk m && rngOk n) (some (rangeD m (n - m).toNat))
  | _ => none
theorem rng1_ok {as : XA W} {env : Py.Env} {ds : List D} (e : (as.evV env).bind rng1D = some ds) : AIt W (iRng1 as.t) env ds := by
  obtain ⟨xs, e1, e⟩ := Option.bind_eq_some_iff.mp e
  unfold rng1D at e
  split at e
  · obtain ⟨h, e⟩ := guardB_some e
    cases e
    exact ait_range (as.sV e1) (rngOk_ok h)
  · cases e
theorem rng2_ok {as : XA W} {env : Py.Env} {ds : List D} (e : (as.evV env).bind rng2D = some ds) : AIt W (iRng2 as.t) env ds := by
  obtain ⟨xs, e1, e⟩ := Option.bind_eq_some_iff.mp e
  unfold rng2D at e
  split at e
  · obtain ⟨h, e⟩ := guardB_some e
    cases e
    rw [Bool.and_eq_true] at h
    have h1 := rngOk_ok h.1
    have h2 := rngOk_ok h.2
    exact ait_range2 (as.sV e1) ⟨h1.1, h1.2, h2.1, h2.2⟩
  · cases e
def xiR1 (as : XA W) : XI W := ⟨iRng1 as.t, fun env => (as.evV env).bind rng1D, fun env => (as.evV env).bind rng1D, rng1_ok, fun e => (rng1_ok e).p⟩
def xiR2 (as : XA W) : XI W := ⟨iRng2 as.t, fun env => (as.evV env).bind rng2D, fun env => (as.evV env).bind rng2D, rng2_ok, fun e => (rng2_ok e).p⟩
def lstF : D → Option (List D)
  | .lst xs => some xs
  | _ => none
theorem lstF_ok {d : D} {xs : List D} (h : lstF d = some xs) : d = .lst xs := by cases d <;> cases h; rfl
theorem enum_ok {a : XP W} {env : Py.Env} {ds : List D} (e : ((a.evF env).bind lstF).map enumD = some ds) : AIt W (iEnum W.K (tCons a.t tNil)) env ds := by
  obtain ⟨xs, e1, rfl⟩ := Option.map_eq_some_iff.mp e
  obtain ⟨d, e1, e2⟩ := Option.bind_eq_some_iff.mp e1
  cases lstF_ok e2
  exact ait_enum (a.sF e1)
def xiEnum (a : XP W) : XI W := ⟨iEnum W.K (tCons a.t tNil), fun env => ((a.evF env).bind lstF).map enumD, fun env => ((a.evF env).bind lstF).map enumD, enum_ok, fun e => (enum_ok e).p⟩
theorem zip_ok {a b : XP W} {env : Py.Env} {ds : List D} (e : (((a.evF env).bind lstF).bind fun xs => ((b.evF env).bind lstF).map fun ys => zipD xs ys) = some ds) : AIt W (iZip W.K (tCons a.t (tCons b.t tNil))) env ds := by
  obtain ⟨xs, e1, e⟩ := Option.bind_eq_some_iff.mp e
  obtain ⟨ys, e2, rfl⟩ := Option.map_eq_some_iff.mp e
  obtain ⟨d, e1, e3⟩ := Option.bind_eq_some_iff.mp e1
  obtain ⟨d', e2, e4⟩ := Option.bind_eq_some_iff.mp e2
  cases lstF_ok e3
  cases lstF_ok e4
  exact ait_zip (a.sF e1) (b.sF e2)
def xiZip (a b : XP W) : XI W := ⟨iZip W.K (tCons a.t (tCons b.t tNil)), fun env => ((a.evF env).bind lstF).bind fun xs => ((b.evF env).bind lstF).map fun ys => zipD xs ys, fun env => ((a.evF env).bind lstF).bind fun xs => ((b.evF env).bind lstF).map fun ys => zipD xs ys, zip_ok, fun e => (zip_ok e).p⟩
def xtYes {T : Tbl} (W : Wd T) : XT W := ⟨tYes, fun _ => some true, fun e => by cases e; exact at_yes⟩
/-- what one item makes -/
def lc1 (g : XG W) (c : XT W) (x : XP W) (env : Py.Env) (d : D) : Option (List D) := (g.ev [] d env).bind fun e2 => (c.ev e2).bind fun b => if b = true then (x.evO e2).map fun y => [y] else some []
def lcL (f : D → Option (List D)) : List D → Option (List D)
  | [] => some []
  | d :: ds => (f d).bind fun y => (lcL f ds).map (y ++ ·)
theorem lcL_take {f : D → Option (List D)} : ∀ {ds ys : List D}, lcL f ds = some ys → ∃ rs : Nat → List D, rs 0 = [] ∧ rs ds.length = ys ∧ (∀ (i : Nat) (d : D), ds[i]? = some d → ∃ y, f d = some y ∧ rs (i + 1) = rs i ++ y)
  | [], _, h => by cases h; exact ⟨fun _ => [], rfl, rfl, fun i d h => by simp at h⟩
  | d :: ds, ys, h => by
    obtain ⟨y, e1, h⟩ := Option.bind_eq_some_iff.mp h
    obtain ⟨zs, e2, rfl⟩ := Option.map_eq_some_iff.mp h
    obtain ⟨rs, r0, r1, r2⟩ := lcL_take e2
    refine ⟨fun i => match i with | 0 => [] | i + 1 => y ++ rs i, rfl, by rw [List.length_cons, ← r1], fun i d' hd => ?_⟩
    cases i with
    | zero =>
      simp at hd; subst hd
      exact ⟨y, e1, by simp [r0]⟩
    | succ i =>
      obtain ⟨z, h1, h2⟩ := r2 i d' (by simpa using hd)
      exact ⟨z, h1, by simp [h2]⟩
theorem lcL_pre {f : D → Option (List D)} : ∀ {ds : List D} {rs : Nat → List D}, (∀ d y, f d = some y → y.length ≤ 1) → rs 0 = [] → (∀ (i : Nat) (d : D), ds[i]? = some d → ∃ y, f d = some y ∧ rs (i + 1) = rs i ++ y) → ∀ i, i ≤ ds.length → (rs i).length ≤ i
  | ds, rs, hf, r0, r2, 0, _ => by rw [r0]; exact Nat.le_refl _
  | ds, rs, hf, r0, r2, i + 1, h => by
    have ih := lcL_pre hf r0 r2 i (by omega)
    obtain ⟨y, e1, e2⟩ := r2 i ds[i] (List.getElem?_eq_getElem (by omega))
    have := hf _ _ e1
    rw [e2, List.length_append]
    omega
def xLc (it : XI W) (g : XG W) (c : XT W) (x : XP W) : XP W where
  t := tLc it.t g.t c.t x.t g.own
  ev env := (it.evP env).bind fun ds => if ds.length < 1000000 then (lcL (lc1 g c x (wipeE env g.own)) ds).map fun ys => (.fr, .olst ys) else none
  snd := fun {env k d} e => by
    obtain ⟨ds, e1, e⟩ := Option.bind_eq_some_iff.mp e
    split at e
    · rename_i hl
      obtain ⟨ys, e2, e⟩ := Option.map_eq_some_iff.mp e
      cases e
      obtain ⟨rs, r0, r1, r2⟩ := lcL_take e2
      have h1 : ∀ d y, lc1 g c x (wipeE env g.own) d = some y → y.length ≤ 1 := fun d y h => by
        obtain ⟨e2, _, h⟩ := Option.bind_eq_some_iff.mp h
        obtain ⟨b, _, h⟩ := Option.bind_eq_some_iff.mp h
        split at h
        · obtain ⟨z, _, rfl⟩ := Option.map_eq_some_iff.mp h; simp
        · cases h; simp
      rw [← r1]
      refine ae_lc (it.sP e1) (g.gw fun _ m => m) rs r0 (fun i d hd => ?_) fun i hi => ?_
      · obtain ⟨y, h, hr⟩ := r2 i d hd
        obtain ⟨env2, g1, h⟩ := Option.bind_eq_some_iff.mp h
        obtain ⟨b, c1, h⟩ := Option.bind_eq_some_iff.mp h
        intro e0 F σ H L v Q hP r s q
        refine g.snd g1 e0 F σ H L v Q hP r s fun env3 σ2 L2 z r3 => ?_
        subst z
        refine q _ σ2 L2 ⟨b, c.snd c1, fun hb => ?_, fun hb => ?_⟩ r3
        · subst hb
          obtain ⟨z, h8, rfl⟩ := Option.map_eq_some_iff.mp h
          exact ⟨z, x.sO h8, hr⟩
        · subst hb
          cases h
          rw [hr, List.append_nil]
      · have := lcL_pre h1 r0 r2 i hi
        omega
    · cases e
end
end Py

namespace Py
open PySem L2
section
variable {T : Tbl} {W : Wd T} {env : Py.Env} {d d0 d1 d2 : D} {P : List Nat} {E : WX} {A : AEnds}
theorem AS.weaken {t : TS} {A' : AEnds} (h : AS W P E t env A') (nx : ∀ e, A'.nx e → A.nx e) (rt : ∀ d e, A'.rt d e → A.rt d e) (bk : ∀ e, A'.bk e → A.bk e) (ct : ∀ e, A'.ct e → A.ct e) (ex : ∀ x e, A'.ex x e → A.ex x e) : AS W P E t env A :=
  fun e F σ H L Dn hP r s => h e F σ H L Dn hP r ⟨fun _ _ _ _ _ a => s.nx _ _ _ _ _ (nx _ a), fun _ _ _ _ _ _ _ _ a => s.rt _ _ _ _ _ _ _ _ (rt _ _ a), fun _ _ _ _ _ a => s.bk _ _ _ _ _ (bk _ a), fun _ _ _ _ _ a => s.ct _ _ _ _ _ (ct _ a), fun _ _ _ _ _ _ _ _ a => s.ex _ _ _ _ _ _ _ _ (ex _ _ a)⟩
inductive RM where
  | ok (d : D) (env : Py.Env) | exn (x : Exn) (env : Py.Env) | no
def AMr {T : Tbl} (W : Wd T) (P : List Nat) (E : WX) (t : TE) (env : Py.Env) (r : RM) : Prop := r ≠ .no →
  ∀ (e : Ent) (F : Hp) (σ : St) (H : Hp) (L : List Addr) (Q : VK), P = e.pins.map (·.1) → Rel W e env F σ H L →
    (∀ d env' v F' H' L' M, r = .ok d env' → Rel W e env' F' σ H' L' → Own W F' H' d v M → (M ++ L').Nodup → (∀ a ∈ M, F' a = none ∧ (a ∈ e.L0 ∨ e.H0 a = none)) → Q v H') →
    (∀ x env' F' H' L' C dd, r = .exn x env' → Rel W e env' F' σ H' L' → IsExn W F' x C dd → E C dd σ H') → t σ H Q
structure XM {T : Tbl} (W : Wd T) where
  t : WX → TE
  ev : List Nat → Py.Env → RM
  snd : ∀ P E env, AMr W P E (t E) env (ev P env)
def RM.of (o : Option D) (env : Py.Env) : RM := match o with
  | some d => .ok d env
  | none => .no
theorem RM.of_ok {o : Option D} {env : Py.Env} (h : RM.of o env ≠ .no) : ∃ d, o = some d ∧ RM.of o env = .ok d env := by
  cases o with
  | none => exact absurd rfl h
  | some d => exact ⟨d, rfl, rfl⟩
/-- without a change -/
def xmP (p : XP W) : XM W where
  t _ := p.t
  ev _ env := RM.of (p.evO env) env
  snd := fun P E env hn e F σ H L Q hP r c _ => by
    obtain ⟨d, e1, e2⟩ := RM.of_ok hn
    exact p.sO e1 e F σ H L Q r fun v F' H' x ⟨M, o, nd, kk⟩ => c d env v F' H' L M e2 (r.ext x) o (nodup_new (H := H) r.nd nd r.slots.lives fun a m => (kk a m).1) fun a m => ⟨(kk a m).2, r.h0 (kk a m).1⟩
/-- a slot's thing becomes shared -/
theorem Rel.freeze {e : Ent} {F H : Hp} {σ : St} {L : List Addr} {i : Nat} (r : Rel W e env F σ H L) (h : getS env i = some d) :
    ∃ v F' L', σ[i]? = some (some v) ∧ Rel W e (env.set i (some (fz d))) F' σ H L' ∧ Shr W F' (fz d) v := by
  obtain ⟨v, Li, Lr, e1, o, sl, nd, mem⟩ := r.slots.take r.nd (getS_some h)
  obtain ⟨F', s1, s2, nw, sh⟩ := Py.freeze r.sF o fun a ha => r.dj a ((mem a).mp (.inl ha))
  rw [List.nodup_append] at nd
  have hi : i < env.length := (List.getElem?_eq_some_iff.mp (getS_some h)).1
  have sl' := sl.frame (F' := F') (H' := H) s1 fun a _ o q => q
  obtain ⟨L', t1, t2, t3⟩ := sl'.put (i := i) (v := v) (Ld := []) (.sh sh) (by simpa using nd.2.1) (by simpa using hi)
  rw [List.set_set] at t1
  have hσ : σ.set i (some v) = σ := by
    apply List.ext_getElem?
    intro k
    by_cases hk : i = k
    · subst hk
      obtain ⟨hlt, _⟩ := List.getElem?_eq_some_iff.mp e1
      rw [List.getElem?_set_self hlt, e1]
    · rw [List.getElem?_set_ne hk]
  rw [hσ] at t1
  have inr : ∀ a ∈ L', a ∈ Lr := fun a ha => (t3 a ha).elim (fun z => nomatch z) id
  refine ⟨v, F', L', e1, ⟨s2, t1, t2, fun a ha => ?_, r.s0.trans s1, fun a o q => ?_, r.fr, fun a ha => r.ln a ((mem a).mp (.inr (inr a ha))), r.pin⟩, sh⟩
  · cases q : F' a with
    | none => rfl
    | some u =>
      rcases nw a u q with z | z
      · rw [r.dj a ((mem a).mp (.inr (inr a ha)))] at z; cases z
      · exact absurd rfl (nd.2.2 a z a (inr a ha))
  · rcases nw a o q with z | z
    · exact r.nw a o z
    · exact .inr ((r.ln a ((mem a).mp (.inl z))).elim .inr .inl)
def frzS (env : Py.Env) (i : Nat) : Py.Env := match getS env i with
  | some d => env.set i (some (fz d))
  | none => env
theorem Rel.frz1 {e : Ent} {F H : Hp} {σ : St} {L : List Addr} (r : Rel W e env F σ H L) (i : Nat) : ∃ F' L', Rel W e (frzS env i) F' σ H L' := by
  unfold frzS
  cases h : getS env i with
  | none => exact ⟨F, L, r⟩
  | some d =>
    obtain ⟨_, F', L', _, r', _⟩ := r.freeze h
    exact ⟨F', L', r'⟩
theorem Rel.frzs {e : Ent} {H : Hp} {σ : St} : ∀ (is : List Nat) (env : Py.Env) (F : Hp) (L : List Addr), Rel W e env F σ H L → ∃ F' L', Rel W e (is.foldl frzS env) F' σ H L'
  | [], _, _, _, r => ⟨_, _, r⟩
  | i :: is, env, F, L, r => by
    obtain ⟨F', L', r'⟩ := r.frz1 i
    exact Rel.frzs is _ F' L' r'
/-- a name; what it holds is shared from now on -/
def xmVar {T : Tbl} (W : Wd T) (i : Nat) : XM W where
  t _ := tVar i
  ev _ env := match getS env i with
    | some d => .ok (fz d) (if isSh d = true then env else env.set i (some (fz d)))
    | none => .no
  snd := fun P E env hn e F σ H L Q hP r c _ => by
    match h : getS env i, hn, c with
    | some d, hn, c =>
      by_cases hs : isSh d = true
      · obtain ⟨v, M, e1, o, _⟩ := slot_get r (getS_some h)
        have sh := o.shr hs
        refine ⟨v, e1, c (fz d) env v F H L [] (by dsimp only; rw [if_pos hs]) r (by rw [fz_isSh hs]; exact .sh sh) (by simpa using r.nd) fun a m => nomatch m⟩
      · obtain ⟨v, F', L', e1, r', sh⟩ := r.freeze h
        exact ⟨v, e1, c (fz d) _ v F' H L' [] (by dsimp only; rw [if_neg hs]) r' (.sh sh) (by simpa using r'.nd) fun a m => nomatch m⟩
/-- a name; what it holds goes -/
def xmMove {T : Tbl} (W : Wd T) (i : Nat) : XM W where
  t _ := tVar i
  ev _ env := match getS env i with
    | some d => .ok d (env.set i none)
    | none => .no
  snd := fun P E env hn e F σ H L Q hP r c _ => by
    match h : getS env i, hn, c with
    | some d, hn, c =>
      obtain ⟨v, Li, Lr, e1, o, sl, nd, mem⟩ := r.slots.take r.nd (getS_some h)
      exact ⟨v, e1, c d _ v F H Lr Li rfl ⟨r.sF, sl, (List.nodup_append.mp nd).2.1, fun a ha => r.dj a ((mem a).mp (.inr ha)), r.s0, r.nw, r.fr, fun a ha => r.ln a ((mem a).mp (.inr ha)), r.pin⟩ o nd fun a ha => ⟨r.dj a ((mem a).mp (.inl ha)), r.ln a ((mem a).mp (.inl ha))⟩⟩
structure XPl {T : Tbl} (W : Wd T) where
  t : TE
  root : Nat
  ev : Py.Env → Option (List Pst × D)
  at_ : ∀ {env st n}, ev env = some (st, n) → ∃ d0, env[root]? = some (some d0) ∧ d0.at st = some n
  loc : ∀ {env st n}, ev env = some (st, n) → ALoc W t env root st
def plVar {T : Tbl} (W : Wd T) (i : Nat) : XPl W where
  t := tVar i
  root := i
  ev env := (getS env i).map fun d => ([], d)
  at_ := fun {env st n} e => by
    obtain ⟨d, e1, e2⟩ := Option.map_eq_some_iff.mp e
    cases e2
    exact ⟨_, getS_some e1, rfl⟩
  loc := fun {env st n} e => by
    obtain ⟨d, e1, e2⟩ := Option.map_eq_some_iff.mp e
    cases e2
    exact loc_var
def plFld (p : XPl W) (f : String) : XPl W where
  t := tFld W.K p.t (so f)
  root := p.root
  ev env := (p.ev env).bind fun q => match q.2 with
    | .oins c ns xs => if T.fOk c f = true then ((pos f ns).bind fun j => xs[j]?).map fun x => (q.1 ++ [.fld f], x) else none
    | _ => none
  at_ := fun {env st n} e => by
    obtain ⟨⟨st1, n1⟩, e1, e⟩ := Option.bind_eq_some_iff.mp e
    cases n1 <;> first | (cases e; done) | skip
    dsimp only at e
    split at e
    · obtain ⟨x, e2, e3⟩ := Option.map_eq_some_iff.mp e
      cases e3
      obtain ⟨d0, h1, h2⟩ := p.at_ e1
      exact ⟨d0, h1, D.at_snoc h2 e2⟩
    · cases e
  loc := fun {env st n} e => by
    obtain ⟨⟨st1, n1⟩, e1, e⟩ := Option.bind_eq_some_iff.mp e
    cases n1 <;> first | (cases e; done) | skip
    dsimp only at e
    split at e
    · obtain ⟨x, e2, e3⟩ := Option.map_eq_some_iff.mp e
      cases e3
      obtain ⟨d0, h1, h2⟩ := p.at_ e1
      obtain ⟨j, e4, _⟩ := Option.bind_eq_some_iff.mp e2
      exact loc_fld (p.loc e1) h1 h2 (by assumption) e4
    · cases e
def plIx (p : XPl W) (k : XP W) : XPl W where
  t := tOp (rIxU W.K) p.t k.t
  root := p.root
  ev env := (p.ev env).bind fun q => (k.evV env).bind fun y => match q.2, y with
    | .olst xs, .int i => (ixN xs.length i).bind fun j => (xs[j]?).map fun x => (q.1 ++ [.idx j], x)
    | _, _ => none
  at_ := fun {env st n} e => by
    obtain ⟨⟨st1, n1⟩, e1, e⟩ := Option.bind_eq_some_iff.mp e
    obtain ⟨y, e2, e⟩ := Option.bind_eq_some_iff.mp e
    cases n1 <;> first | (cases e; done) | skip
    cases y <;> first | (cases e; done) | skip
    obtain ⟨j, e3, e9⟩ := Option.bind_eq_some_iff.mp e
    obtain ⟨x, e4, e5⟩ := Option.map_eq_some_iff.mp e9
    cases e5
    obtain ⟨d0, h1, h2⟩ := p.at_ e1
    exact ⟨d0, h1, D.at_snoc h2 e4⟩
  loc := fun {env st n} e => by
    obtain ⟨⟨st1, n1⟩, e1, e⟩ := Option.bind_eq_some_iff.mp e
    obtain ⟨y, e2, e⟩ := Option.bind_eq_some_iff.mp e
    cases n1 <;> first | (cases e; done) | skip
    cases y <;> first | (cases e; done) | skip
    obtain ⟨j, e3, e9⟩ := Option.bind_eq_some_iff.mp e
    obtain ⟨x, e4, e5⟩ := Option.map_eq_some_iff.mp e9
    cases e5
    obtain ⟨d0, h1, h2⟩ := p.at_ e1
    exact loc_idx (p.loc e1) h1 h2 (k.sV e2) e3
def rOs {T : Tbl} (W : Wd T) (ds : List D) : ResL := fun F H H0 vs => ∃ L, Owns W F H ds vs L ∧ L.Nodup ∧ ∀ a ∈ L, H0 a = none ∧ F a = none
/-- arguments that are handed over -/
structure XO {T : Tbl} (W : Wd T) where
  t : TA
  ev : Py.Env → Option (List D)
  snd : ∀ {env ds}, ev env = some ds → AA W t env (rOs W ds)
def xoNil {T : Tbl} (W : Wd T) : XO W where
  t := tNil
  ev _ := some []
  snd := fun e => by cases e; exact fun e F σ H L Q r q => q [] F H (.refl r.sF) ⟨[], .nil, .nil, fun _ m => nomatch m⟩
def xoCons (a : XP W) (as : XO W) : XO W where
  t := tCons a.t as.t
  ev env := (a.evO env).bind fun x => (as.ev env).map (x :: ·)
  snd := fun {env ds} e => by
    obtain ⟨x, e1, e⟩ := Option.bind_eq_some_iff.mp e
    obtain ⟨xs, e2, rfl⟩ := Option.map_eq_some_iff.mp e
    intro e F σ H L Q r q
    refine a.sO e1 e F σ H L _ r fun v F1 H1 x1 ⟨M1, o1, n1, k1⟩ => as.snd e2 e F1 σ H1 L _ (r.ext x1) fun vs F2 H2 x2 ⟨M2, o2, n2, k2⟩ => ?_
    have nn : ∀ a ∈ M1, F2 a = none := fun a ha => by
      obtain ⟨u, hu⟩ := o1.lives a ha
      cases z : F2 a with
      | none => rfl
      | some w =>
        rcases x2.n a w z with y | y
        · rw [(k1 a ha).2] at y; cases y
        · rw [hu] at y; cases y
    refine q _ F2 H2 (x1.trans x2) ⟨M1 ++ M2, .cons (o1.frame x2.f fun a _ o q => x2.h _ _ q) o2, ?_, fun a ha => ?_⟩
    · rw [List.nodup_append]
      refine ⟨n1, n2, fun a ha b hb z => ?_⟩
      subst z
      obtain ⟨u, hu⟩ := o1.lives a ha
      rw [(k2 a hb).1] at hu; cases hu
    · rcases List.mem_append.mp ha with z | z
      · exact ⟨(k1 a z).1, nn a z⟩
      · exact ⟨x1.h.free (k2 a z).1, (k2 a z).2⟩
/-- what an operation makes of a thing that is owned: the thing behind it, what it gives -/
def Mop {T : Tbl} (W : Wd T) (r : V → List V → Hp → VK → Prop) (f : D → List D → Option (D × D)) : Prop :=
  ∀ {n : D} {ds : List D} {n' d : D}, f n ds = some (n', d) → ∀ (F H : Hp) (vn : V) (Ln : List Addr) (vs : List V) (Ms : List Addr) (Q : VK), Same F H → Own W F H n vn Ln → Owns W F H ds vs Ms → (Ms ++ Ln).Nodup → (∀ a ∈ Ms ++ Ln, F a = none) →
    (∀ F' H' v' Ln' M', Same F F' → Same F' H' → (∀ a o, a ∉ Ln → H a = some o → H' a = some o) → (∀ a o, F' a = some o → F a = some o ∨ H a = none) → Own W F' H' n' vn Ln' → Own W F' H' d v' M' → (M' ++ Ln').Nodup →
      (∀ a ∈ M' ++ Ln', F' a = none ∧ (a ∈ Ln ∨ a ∈ Ms ∨ H a = none)) → Q v' H') → r vn vs H Q
theorem am_mop {r : V → List V → Hp → VK → Prop} {f : D → List D → Option (D × D)} (hf : Mop W r f) {e : Ent} {F H : Hp} {σ : St} {L : List Addr} {i : Nat} {st : List Pst} {n n' d d0 : D} {v0 vn : V} {vs : List V} {ds : List D} {Ms : List Addr} {Q : VK}
    (rl : Rel W e env F σ H L) (h0 : env[i]? = some (some d0)) (h1 : d0.at st = some n) (hs : σ[i]? = some (some v0)) (hp : VPath H v0 st vn) (hz : f n ds = some (n', d)) (os : Owns W F H ds vs Ms) (nM : Ms.Nodup) (kM : ∀ a ∈ Ms, a ∉ L ∧ F a = none ∧ (a ∈ e.L0 ∨ e.H0 a = none))
    (c : ∀ v F' H' L' M, Rel W e (env.set i (some (d0.putAt st n'))) F' σ H' L' → Own W F' H' d v M → (M ++ L').Nodup → (∀ a ∈ M, F' a = none ∧ (a ∈ e.L0 ∨ e.H0 a = none)) → Q v H') : r vn vs H Q := by
  obtain ⟨v0', vn', Ln, Lr, e1, p2, o, nd, mem, put⟩ := rl.focus h0 h1
  rw [hs] at e1; cases e1
  cases hp.det p2
  rw [List.nodup_append] at nd
  obtain ⟨n1, n2, n3⟩ := nd
  refine hf hz F H vn Ln vs Ms Q rl.sF o os ?_ (fun a ha => ?_) fun F' H' v' Ln' M' s1 s2 fr nw on od nd' k' => ?_
  · rw [List.nodup_append]
    exact ⟨nM, n1, fun a ha b hb z => (kM a ha).1 ((mem a).mp (.inl (z ▸ hb)))⟩
  · rcases List.mem_append.mp ha with z | z
    · exact (kM a z).2.1
    · exact rl.dj a ((mem a).mp (.inl z))
  have org : ∀ a, (a ∈ Ln ∨ a ∈ Ms ∨ H a = none) → a ∉ Lr ∧ (a ∈ e.L0 ∨ e.H0 a = none) := fun a h => by
    rcases h with z | z | z
    · exact ⟨fun y => n3 a z a y rfl, rl.ln a ((mem a).mp (.inl z))⟩
    · exact ⟨fun y => (kM a z).1 ((mem a).mp (.inr y)), (kM a z).2.2⟩
    · refine ⟨fun y => ?_, rl.h0 z⟩
      obtain ⟨o, ho⟩ := rl.slots.lives a ((mem a).mp (.inr y))
      rw [z] at ho; cases ho
  rw [List.nodup_append] at nd'
  obtain ⟨m1, m2, m3⟩ := nd'
  obtain ⟨L', r', inL⟩ := put F' H' n' Ln' s1 s2 fr (fun a o q => (nw a o q).elim .inl fun z => .inr (.inl (.inl z))) on (by
    rw [List.nodup_append]
    exact ⟨m2, n2, fun a ha b hb z => (org a (k' a (List.mem_append_right _ ha)).2).1 (z ▸ hb)⟩) (fun a ha => ⟨(k' a (List.mem_append_right _ ha)).1, .inr (org a (k' a (List.mem_append_right _ ha)).2).2⟩)
  refine c v' F' H' L' M' r' od ?_ fun a ha => ⟨(k' a (List.mem_append_left _ ha)).1, (org a (k' a (List.mem_append_left _ ha)).2).2⟩
  rw [List.nodup_append]
  refine ⟨m1, r'.nd, fun a ha b hb z => ?_⟩
  subst z
  rcases inL a hb with y | y
  · exact m3 a ha a y rfl
  · exact (org a (k' a (List.mem_append_left _ ha)).2).1 y
end
end Py

namespace Py
open PySem L2
section
variable {T : Tbl} {W : Wd T} {env : Py.Env} {d d0 d1 d2 : D} {P : List Nat} {E : WX} {A : AEnds}
theorem Owns.append {F H : Hp} : ∀ {xs ys : List D} {vs ws : List V} {L M : List Addr}, Owns W F H xs vs L → Owns W F H ys ws M → Owns W F H (xs ++ ys) (vs ++ ws) (L ++ M)
  | _, _, _, _, _, _, .nil, o => o
  | _, _, _, _, _, M, .cons (L := L1) (M := M1) h t, o => by
    have q := Owns.cons h (t.append o)
    rw [← List.append_assoc] at q
    exact q
theorem Owns.one {F H : Hp} {x : D} {vs : List V} {L : List Addr} (h : Owns W F H [x] vs L) : ∃ v, vs = [v] ∧ Own W F H x v L := by
  cases h with
  | cons a b => cases b; rw [List.append_nil]; exact ⟨_, rfl, a⟩
theorem Owns.two {F H : Hp} {x y : D} {vs : List V} {L : List Addr} (h : Owns W F H [x, y] vs L) : ∃ v w L1 L2, vs = [v, w] ∧ Own W F H x v L1 ∧ Own W F H y w L2 ∧ L = L1 ++ L2 := by
  cases h with
  | cons a b =>
    obtain ⟨w, rfl, c⟩ := b.one
    exact ⟨_, _, _, _, rfl, a, c, rfl⟩
theorem Owns.unsnoc {F H : Hp} {x : D} : ∀ {xs : List D} {vs : List V} {L : List Addr}, Owns W F H (xs ++ [x]) vs L → ∃ ws w L1 L2, vs = ws ++ [w] ∧ L = L1 ++ L2 ∧ Owns W F H xs ws L1 ∧ Own W F H x w L2
  | [], vs, L, h => by
    obtain ⟨w, rfl, o⟩ := h.one
    exact ⟨[], w, [], L, rfl, rfl, .nil, o⟩
  | y :: xs, vs, L, h => by
    cases h with
    | @cons _ v _ ws L1 M1 a b =>
      obtain ⟨ws', w, L2, L3, rfl, rfl, c, o⟩ := b.unsnoc
      exact ⟨v :: ws', w, L1 ++ L2, L3, rfl, by rw [List.append_assoc], .cons a c, o⟩
/-- writes at a, which is owned -/
theorem own_upd {F H : Hp} {a : Addr} {o : HO} {L : List Addr} {v : V} (h : Own W F H d v L) (n : a ∉ L) : Own W F (upd H a o) d v L := h.frame (Same.refl _) fun b hb u hu => by
  rw [upd_ne (fun z => n (by rw [← z]; exact hb))]; exact hu
theorem owns_upd {F H : Hp} {a : Addr} {o : HO} {L : List Addr} {ds : List D} {vs : List V} (h : Owns W F H ds vs L) (n : a ∉ L) : Owns W F (upd H a o) ds vs L := h.frame (Same.refl _) fun b hb u hu => by
  rw [upd_ne (fun z => n (by rw [← z]; exact hb))]; exact hu
theorem same_upd {F H : Hp} {a : Addr} {o : HO} (s : Same F H) (n : F a = none) : Same F (upd H a o) := fun b u hb => by
  rw [upd_ne (fun z => by rw [z, n] at hb; cases hb)]; exact s _ _ hb
/-- an operation that rewrites the list at its root -/
theorem mop_list {F H : Hp} {a : Addr} {L : List Addr} {Ms : List Addr} {ys : List D} {ws : List V} {o : HO} {M' L2 : List Addr} {v' : V} {Q : VK} (s : Same F H) (nd : (Ms ++ (a :: L)).Nodup) (kF : ∀ b ∈ Ms ++ (a :: L), F b = none)
    (hl : o = .lst ws) (hs : Owns W F H ys ws L2) (od : Own W F H d v' M') (n2 : (M' ++ L2).Nodup) (sub : ∀ b ∈ M' ++ L2, b ∈ L ∨ b ∈ Ms)
    (q : ∀ F' H' v' Ln' M', Same F F' → Same F' H' → (∀ b o, b ∉ a :: L → H b = some o → H' b = some o) → (∀ b o, F' b = some o → F b = some o ∨ H b = none) → Own W F' H' (.olst ys) (.ref a) Ln' → Own W F' H' d v' M' → (M' ++ Ln').Nodup →
      (∀ b ∈ M' ++ Ln', F' b = none ∧ (b ∈ a :: L ∨ b ∈ Ms ∨ H b = none)) → Q v' H') : Q v' (upd H a o) := by
  subst hl
  rw [List.nodup_append] at nd
  obtain ⟨n3, n4, n5⟩ := nd
  rw [List.nodup_cons] at n4
  have na : ∀ b ∈ M' ++ L2, b ≠ a := fun b hb z => by
    subst z
    rcases sub _ hb with y | y
    · exact n4.1 y
    · exact n5 _ y _ (List.mem_cons_self ..) rfl
  have Fa : F a = none := kF a (List.mem_append_right _ (List.mem_cons_self ..))
  refine q F (upd H a (.lst ws)) v' (a :: L2) M' (Same.refl _) (same_upd s Fa) (fun b u hb hu => ?_) (fun b u hu => .inl hu) (.olst upd_same (owns_upd hs fun z => na a (List.mem_append_right _ z) rfl)) (own_upd od fun z => na a (List.mem_append_left _ z) rfl) ?_ (fun b hb => ?_)
  · rw [upd_ne (fun z => hb (by rw [z]; exact List.mem_cons_self ..))]; exact hu
  · rw [List.nodup_append] at n2 ⊢
    refine ⟨n2.1, List.nodup_cons.mpr ⟨fun z => na a (List.mem_append_right _ z) rfl, n2.2.1⟩, fun b hb c hc => ?_⟩
    rcases List.mem_cons.mp hc with z | z
    · rw [z]; exact na b (List.mem_append_left _ hb)
    · exact n2.2.2 b hb c z
  · rcases List.mem_append.mp hb with z | z
    · have := sub b (List.mem_append_left _ z)
      refine ⟨kF b ?_, ?_⟩
      · rcases this with y | y
        · exact List.mem_append_right _ (List.mem_cons_of_mem _ y)
        · exact List.mem_append_left _ y
      · rcases this with y | y
        · exact .inl (List.mem_cons_of_mem _ y)
        · exact .inr (.inl y)
    · rcases List.mem_cons.mp z with z | z
      · subst z; exact ⟨Fa, .inl (List.mem_cons_self ..)⟩
      · have := sub b (List.mem_append_right _ z)
        refine ⟨kF b ?_, ?_⟩
        · rcases this with y | y
          · exact List.mem_append_right _ (List.mem_cons_of_mem _ y)
          · exact List.mem_append_left _ y
        · rcases this with y | y
          · exact .inl (List.mem_cons_of_mem _ y)
          · exact .inr (.inl y)
theorem nd_swap {L M : List Addr} (h : (M ++ L).Nodup) : (L ++ M).Nodup := by
  rw [List.nodup_append] at h ⊢
  exact ⟨h.2.1, h.1, fun a ha b hb z => h.2.2 b hb a ha z.symm⟩
theorem nd_tail {a : Addr} {L M : List Addr} (h : (M ++ (a :: L)).Nodup) : (M ++ L).Nodup := by
  rw [List.nodup_append] at h ⊢
  exact ⟨h.1, (List.nodup_cons.mp h.2.1).2, fun b hb c hc => h.2.2 b hb c (List.mem_cons_of_mem _ hc)⟩
def appendD : D → List D → Option (D × D)
  | .olst xs, [d] => if xs.length < 1000000 then some (.olst (xs ++ [d]), .non) else none
  | _, _ => none
theorem mop_append : Mop W rAppend appendD := by
  intro n ds n' d hf F H vn Ln vs Ms Q s o os nd kF q
  unfold appendD at hf
  split at hf
  · obtain ⟨hz, e⟩ := ite_some hf
    cases e
    obtain ⟨u, rfl, o2⟩ := os.one
    cases o with
    | sh y => cases y
    | @olst a xs vs L ha hs =>
      refine ⟨a, vs, u, rfl, rfl, ha, by rw [← hs.length]; exact Nat.lt_of_lt_of_le hz (by decide), ?_⟩
      exact mop_list s nd kF rfl (hs.append (.cons o2 .nil)) (.sh .non) (by simpa using nd_swap (nd_tail nd)) (fun b hb => by simpa using hb) q
  · cases hf
def extendD : D → List D → Option (D × D)
  | .olst xs, [.lst ys] => if xs.length + ys.length ≤ 1000000 then some (.olst (xs ++ ys), .non) else none
  | .olst xs, [.olst ys] => if xs.length + ys.length ≤ 1000000 then some (.olst (xs ++ ys), .non) else none
  | _, _ => none
theorem mop_extend : Mop W rExtend extendD := by
  intro n ds n' d hf F H vn Ln vs Ms Q s o os nd kF q
  unfold extendD at hf
  split at hf
  · obtain ⟨hz, e⟩ := ite_some hf
    cases e
    obtain ⟨u, rfl, o2⟩ := os.one
    cases o with
    | sh y => cases y
    | @olst a xs vs L ha hs =>
      cases o2 with
      | sh y =>
        cases y with
        | lst hb ht =>
          refine ⟨a, _, vs, _, rfl, rfl, ha, s _ _ hb, by rw [← hs.length, ← ht.length]; exact Nat.le_trans hz (by decide), ?_⟩
          exact mop_list s nd kF rfl (hs.append ht.owns) (.sh .non) (by simpa using nd_swap (nd_tail nd)) (fun b hb => by simpa using hb) q
  · obtain ⟨hz, e⟩ := ite_some hf
    cases e
    obtain ⟨u, rfl, o2⟩ := os.one
    cases o with
    | sh y => cases y
    | @olst a xs vs L ha hs =>
      cases o2 with
      | sh y => cases y
      | @olst b ys ws M hb ht =>
        refine ⟨a, _, vs, _, rfl, rfl, ha, hb, by rw [← hs.length, ← ht.length]; exact Nat.le_trans hz (by decide), ?_⟩
        refine mop_list s nd kF rfl (hs.append ht) (.sh .non) ?_ (fun c hc => ?_) q
        · have := nd_swap (nd_tail nd)
          rw [List.nodup_append] at this ⊢
          refine ⟨List.nodup_nil, ?_, fun _ h => nomatch h⟩
          rw [List.nodup_append]
          exact ⟨this.1, (List.nodup_cons.mp this.2.1).2, fun x hx y hy => this.2.2 x hx y (List.mem_cons_of_mem _ hy)⟩
        · rcases List.mem_append.mp hc with z | z
          · cases z
          · exact (List.mem_append.mp z).elim .inl fun y => .inr (List.mem_cons_of_mem _ y)
  · cases hf
def popD : D → List D → Option (D × D)
  | .olst xs, [] => (xs.getLast?).map fun x => (.olst xs.dropLast, x)
  | _, _ => none
theorem mop_pop : Mop W rPop popD := by
  intro n ds n' d hf F H vn Ln vs Ms Q s o os nd kF q
  unfold popD at hf
  split at hf
  · rename_i xs
    obtain ⟨x, h1, e⟩ := Option.map_eq_some_iff.mp hf
    injection e with e e'
    subst e e'
    cases os
    cases o with
    | sh y => cases y
    | @olst a _ vs L ha hs =>
      obtain ⟨ini, rfl⟩ := List.getLast?_eq_some_iff.mp h1
      obtain ⟨ws, w, L1, L2, rfl, rfl, o1, o2⟩ := hs.unsnoc
      rw [List.dropLast_concat] at q
      refine ⟨a, ws ++ [w], w, rfl, rfl, ha, by simp, ?_⟩
      rw [List.dropLast_concat]
      have n0 := nd_tail nd
      exact mop_list s nd kF rfl o1 o2 (nd_swap (by simpa using n0)) (fun b hb => .inl (by
        rcases List.mem_append.mp hb with z | z
        · exact List.mem_append_right _ z
        · exact List.mem_append_left _ z)) q
  · cases hf
def reverseD : D → List D → Option (D × D)
  | .olst xs, [] => if xs.all isSh = true then some (.olst xs.reverse, .non) else none
  | _, _ => none
theorem Shrs.reverse {F : Hp} : ∀ {ds : List D} {vs : List V}, Shrs W F ds vs → Shrs W F ds.reverse vs.reverse
  | _, _, .nil => .nil
  | _, _, .cons h t => by rw [List.reverse_cons, List.reverse_cons]; exact t.reverse.append (.cons h .nil)
theorem mop_reverse : Mop W rReverse reverseD := by
  intro n ds n' d hf F H vn Ln vs Ms Q s o os nd kF q
  unfold reverseD at hf
  split at hf
  · obtain ⟨hz, e⟩ := ite_some hf
    cases e
    cases os
    cases o with
    | sh y => cases y
    | @olst a _ vs L ha hs =>
      exact ⟨a, vs, rfl, rfl, ha, mop_list s nd kF rfl (hs.shrs hz).reverse.owns (.sh .non) (by simp) (fun b hb => by simp at hb) q⟩
  · cases hf
def clearD : D → List D → Option (D × D)
  | .olst _, [] => some (.olst [], .non)
  | _, _ => none
theorem mop_clear : Mop W rClear clearD := by
  intro n ds n' d hf F H vn Ln vs Ms Q s o os nd kF q
  unfold clearD at hf
  split at hf
  · cases hf
    cases os
    cases o with
    | sh y => cases y
    | @olst a _ vs L ha hs => exact ⟨a, vs, rfl, rfl, ha, mop_list s nd kF rfl .nil (.sh .non) (by simp) (fun b hb => by simp at hb) q⟩
  · cases hf
theorem Shrs.take {F : Hp} : ∀ {ds : List D} {vs : List V} (k : Nat), Shrs W F ds vs → Shrs W F (ds.take k) (vs.take k)
  | _, _, 0, _ => .nil
  | _, _, k + 1, .nil => .nil
  | _, _, k + 1, .cons h t => .cons h (t.take k)
theorem Shrs.drop {F : Hp} : ∀ {ds : List D} {vs : List V} (k : Nat), Shrs W F ds vs → Shrs W F (ds.drop k) (vs.drop k)
  | _, _, 0, h => h
  | _, _, k + 1, .nil => .nil
  | _, _, k + 1, .cons h t => t.drop k
abbrev rInsert : V → List V → Hp → VK → Prop := fun x vs H Q => ∃ (l : Addr) (xs : List V) (i : Int) (y : V), x = .ref l ∧ vs = [.int i, y] ∧ H l = some (.lst xs) ∧ xs.length < sizeLine ∧ 0 ≤ i ∧ i < 2 ^ 63 ∧
    Q .non (upd H l (.lst (xs.take i.toNat ++ [y] ++ xs.drop i.toNat)))
def insertD : D → List D → Option (D × D)
  | .olst xs, [.int i, d] => if xs.all isSh = true ∧ xs.length < 1000000 ∧ 0 ≤ i ∧ i < 1000000 then some (.olst (xs.take i.toNat ++ [d] ++ xs.drop i.toNat), .non) else none
  | _, _ => none
theorem mop_insert : Mop W rInsert insertD := by
  intro n ds n' d hf F H vn Ln vs Ms Q s o os nd kF q
  unfold insertD at hf
  split at hf
  · obtain ⟨⟨hz, h1, h2, h3⟩, e⟩ := ite_some hf
    cases e
    obtain ⟨v1, v2, L1, L2, rfl, o1, o2, rfl⟩ := os.two
    cases o1.shr rfl
    cases o1.shNil rfl
    cases o with
    | sh y => cases y
    | @olst a _ vs L ha hs =>
      have sh := hs.shrs hz
      refine ⟨a, vs, _, _, rfl, rfl, ha, by rw [← hs.length]; exact Nat.lt_of_lt_of_le h1 (by decide), h2, by omega, ?_⟩
      refine mop_list s nd kF rfl (((sh.take _).owns.append (.cons o2 .nil)).append (sh.drop _).owns) (.sh .non) ?_ (fun b hb => by simpa using Or.inr hb) q
      have := (List.nodup_append.mp nd).1
      simpa using this
  · cases hf
def RM.ofO : Option (D × Py.Env) → RM
  | some (d, env) => .ok d env
  | none => .no
theorem RM.ofO_ok {o : Option (D × Py.Env)} (h : RM.ofO o ≠ .no) : ∃ d env, o = some (d, env) := by
  match o, h with
  | some (d, env), _ => exact ⟨d, env, rfl⟩
  | none, h => exact absurd rfl h
def xmBM (r : V → List V → Hp → VK → Prop) (f : D → List D → Option (D × D)) (hf : Mop W r f) (hl : ∀ {n ds z}, f n ds = some z → ∃ xs, n = .olst xs) (p : XPl W) (as : XO W) : XM W where
  t _ := tBM W.K "list" r p.t as.t
  ev _ env := RM.ofO ((p.ev env).bind fun q => (as.ev env).bind fun ds => (f q.2 ds).bind fun z => (getS env p.root).map fun d0 => (z.2, env.set p.root (some (d0.putAt q.1 z.1))))
  snd := fun P E env hn e F σ H L Q hP r c _ => by
    obtain ⟨d, env', h⟩ := RM.ofO_ok hn
    rw [h] at c
    obtain ⟨⟨st, n⟩, e1, h⟩ := Option.bind_eq_some_iff.mp h
    obtain ⟨ds, e2, h⟩ := Option.bind_eq_some_iff.mp h
    obtain ⟨⟨n', d'⟩, e3, h⟩ := Option.bind_eq_some_iff.mp h
    obtain ⟨d0', e4, h⟩ := Option.map_eq_some_iff.mp h
    cases h
    obtain ⟨d0, h0, h1⟩ := p.at_ e1
    rw [getS_some e4] at h0
    cases h0
    obtain ⟨v0, _, _, _, hs, _⟩ := r.focus (getS_some e4) h1
    refine p.loc e1 e F σ H L v0 _ r hs fun v F1 H1 x1 p1 => ?_
    have r1 := r.ext x1
    refine ⟨?_, as.snd e2 e F1 σ H1 L _ r1 fun vs F2 H2 x2 ⟨M2, o2, nd2, k2⟩ => ?_⟩
    · obtain ⟨v0', vn, Ln, Lr, e5, p2, o, _⟩ := r1.focus (getS_some e4) h1
      rw [hs] at e5; cases e5
      cases p1.det p2
      obtain ⟨xs, rfl⟩ := hl e3
      cases o with
      | sh y => cases y
      | olst ha _ => exact .inl ⟨rfl, _, .of ha⟩
    · refine am_mop hf (r1.ext x2) (getS_some e4) h1 hs (p1.mono x2.h) e3 o2 nd2 (fun a ha => ⟨fun z => ?_, (k2 a ha).2, r1.h0 (k2 a ha).1⟩) fun v F' H' L' M r' o nd kk => c _ _ v F' H' L' M rfl r' o nd kk
      obtain ⟨w, hw⟩ := r1.slots.lives a z
      rw [(k2 a ha).1] at hw; cases hw
def xmBM0 (r : V → List V → Hp → VK → Prop) (f : D → List D → Option (D × D)) (hf : Mop W r f) (hl : ∀ {n ds z}, f n ds = some z → ∃ xs, n = .olst xs) (p : XPl W) : XM W where
  t _ := tBM0 W.K "list" r p.t
  ev := (xmBM r f hf hl p (xoNil W)).ev
  snd := fun P E env hn e F σ H L Q hP rl c cx => (xmBM r f hf hl p (xoNil W)).snd P E env hn e F σ H L Q hP rl c cx
theorem lf_append {n : D} {ds : List D} {z : D × D} (h : appendD n ds = some z) : ∃ xs, n = .olst xs := by unfold appendD at h; split at h <;> first | exact ⟨_, rfl⟩ | cases h
theorem lf_extend {n : D} {ds : List D} {z : D × D} (h : extendD n ds = some z) : ∃ xs, n = .olst xs := by unfold extendD at h; split at h <;> first | exact ⟨_, rfl⟩ | cases h
theorem lf_pop {n : D} {ds : List D} {z : D × D} (h : popD n ds = some z) : ∃ xs, n = .olst xs := by unfold popD at h; split at h <;> first | exact ⟨_, rfl⟩ | cases h
theorem lf_reverse {n : D} {ds : List D} {z : D × D} (h : reverseD n ds = some z) : ∃ xs, n = .olst xs := by unfold reverseD at h; split at h <;> first | exact ⟨_, rfl⟩ | cases h
theorem lf_clear {n : D} {ds : List D} {z : D × D} (h : clearD n ds = some z) : ∃ xs, n = .olst xs := by unfold clearD at h; split at h <;> first | exact ⟨_, rfl⟩ | cases h
theorem lf_insert {n : D} {ds : List D} {z : D × D} (h : insertD n ds = some z) : ∃ xs, n = .olst xs := by unfold insertD at h; split at h <;> first | exact ⟨_, rfl⟩ | cases h
def xmAppend (p : XPl W) (a : XP W) : XM W := xmBM rAppend appendD mop_append lf_append p (xoCons a (xoNil W))
def xmExtend (p : XPl W) (a : XP W) : XM W := xmBM rExtend extendD mop_extend lf_extend p (xoCons a (xoNil W))
def xmInsert (p : XPl W) (a b : XP W) : XM W := xmBM rInsert insertD mop_insert lf_insert p (xoCons a (xoCons b (xoNil W)))
def xmPop (p : XPl W) : XM W := xmBM0 rPop popD mop_pop lf_pop p
def xmReverse (p : XPl W) : XM W := xmBM0 rReverse reverseD mop_reverse lf_reverse p
def xmClear (p : XPl W) : XM W := xmBM0 rClear clearD mop_clear lf_clear p
end
end Py

namespace Py
open PySem L2
inductive RS where
  | nx (env : Py.Env) | rt (d : D) (env : Py.Env) | bk (env : Py.Env) | ct (env : Py.Env) | ex (x : Exn) (env : Py.Env) | no
def ends (r : RS) : AEnds where
  nx e := r = .nx e
  rt d e := r = .rt d e
  bk e := r = .bk e
  ct e := r = .ct e
  ex x e := r = .ex x e
section
variable {T : Tbl} {W : Wd T} {env : Py.Env} {d d0 d1 d2 : D} {P : List Nat} {E : WX} {A : AEnds}
structure XS {T : Tbl} (W : Wd T) where
  t : WX → TS
  ev : List Nat → Py.Env → RS
  snd : ∀ P E env, ev P env ≠ .no → AS W P E (t E) env (ends (ev P env))
def RS.then (r : RS) (f : Py.Env → RS) : RS := match r with
  | .nx e => f e
  | r => r
def xsSeq (s u : XS W) : XS W where
  t E := tSeq (s.t E) (u.t E)
  ev P env := (s.ev P env).then fun e => u.ev P e
  snd := fun P E env hn => by
    have hs := s.snd P E env
    match h : s.ev P env, hn, hs with
    | .nx e1, hn, hs =>
      refine as_seq ((hs (by simp)).weaken (fun e h2 => ?_) (fun d e h2 => nomatch h2) (fun e h2 => nomatch h2) (fun e h2 => nomatch h2) fun x e h2 => nomatch h2)
      cases h2
      exact u.snd P E e1 hn
    | .rt d e1, hn, hs => exact as_seq ((hs (by simp)).weaken (fun e h2 => nomatch h2) (fun d e h2 => h2) (fun e h2 => nomatch h2) (fun e h2 => nomatch h2) fun x e h2 => nomatch h2)
    | .bk e1, hn, hs => exact as_seq ((hs (by simp)).weaken (fun e h2 => nomatch h2) (fun d e h2 => nomatch h2) (fun e h2 => h2) (fun e h2 => nomatch h2) fun x e h2 => nomatch h2)
    | .ct e1, hn, hs => exact as_seq ((hs (by simp)).weaken (fun e h2 => nomatch h2) (fun d e h2 => nomatch h2) (fun e h2 => nomatch h2) (fun e h2 => h2) fun x e h2 => nomatch h2)
    | .ex x e1, hn, hs => exact as_seq ((hs (by simp)).weaken (fun e h2 => nomatch h2) (fun d e h2 => nomatch h2) (fun e h2 => nomatch h2) (fun e h2 => nomatch h2) fun x e h2 => h2)
    | .no, hn, hs => exact absurd rfl hn
def xsNext {T : Tbl} (W : Wd T) : XS W := ⟨fun _ => tNext, fun _ env => .nx env, fun _ _ _ _ => as_next rfl⟩
def xsBreak {T : Tbl} (W : Wd T) : XS W := ⟨fun _ => tBreak, fun _ env => .bk env, fun _ _ _ _ => as_break rfl⟩
def xsCont {T : Tbl} (W : Wd T) : XS W := ⟨fun _ => tCont, fun _ env => .ct env, fun _ _ _ _ => as_cont rfl⟩
def xsNever {T : Tbl} (W : Wd T) : XS W := ⟨fun _ => tNever, fun _ _ => .no, fun _ _ _ h => absurd rfl h⟩
def xsRetN {T : Tbl} (W : Wd T) : XS W := ⟨fun _ => tRetN, fun _ env => .rt .non env, fun _ _ _ _ => as_retN rfl⟩
def RM.thenS (r : RM) (f : D → Py.Env → RS) : RS := match r with
  | .ok d e => f d e
  | .exn x e => .ex x e
  | .no => .no
/-- behind an expression -/
theorem AMr.run {t : TE} {r : RM} (h : AMr W P E t env r) (hn : r ≠ .no) {e : Ent} {F H : Hp} {σ : St} {L : List Addr} {Q : VK} {Dn : Ends} (hP : P = e.pins.map (·.1)) (rl : Rel W e env F σ H L) (s : Sat W e E A Dn) (hx : ∀ x e1, r = .exn x e1 → A.ex x e1)
    (c : ∀ d env' v F' H' L' M, r = .ok d env' → Rel W e env' F' σ H' L' → Own W F' H' d v M → (M ++ L').Nodup → (∀ a ∈ M, F' a = none ∧ (a ∈ e.L0 ∨ e.H0 a = none)) → Q v H') : t σ H Q :=
  h hn e F σ H L Q hP rl c fun x env' F' H' L' C dd hr r' ie => s.ex x env' F' σ H' L' C dd (hx _ _ hr) r' ie
def RS.ofO : Option Py.Env → RS
  | some e => .nx e
  | none => .no
def xsAsg (i : Nat) (m : XM W) : XS W where
  t E := tAsg (m.t E) (gName i)
  ev P env := (m.ev P env).thenS fun d e => RS.ofO (setS P i d e)
  snd := fun P E env hn e F σ H L Dn hP r s => by
    have hm : m.ev P env ≠ .no := fun z => hn (by rw [z]; rfl)
    refine (m.snd P E env).run hm hP r s (fun x e1 h => by rw [h]; rfl) fun d env' v F' H' L' M h r' o nd kk => ?_
    rw [h] at hn s
    have hn : RS.ofO (setS P i d env') ≠ .no := hn
    cases h2 : setS P i d env' with
    | none => rw [h2] at hn; exact absurd rfl hn
    | some e2 =>
      obtain ⟨⟨h3, h4⟩, rfl⟩ := ite_some h2
      obtain ⟨L2, r2⟩ := r'.set (i := i) o nd kk h3 fun p hm z => h4 (by rw [hP]; exact List.mem_map.mpr ⟨p, hm, z⟩)
      exact s.nx _ _ _ _ _ (show RS.ofO (setS P i d env') = .nx _ by rw [h2]; rfl) r2
/-- what is handed over becomes shared -/
theorem Rel.frzTmp {e : Ent} {F H : Hp} {σ : St} {L M : List Addr} {v : V} (r : Rel W e env F σ H L) (o : Own W F H d v M) (nd : (M ++ L).Nodup) (k : ∀ a ∈ M, F a = none ∧ (a ∈ e.L0 ∨ e.H0 a = none)) :
    ∃ F', Rel W e env F' σ H L ∧ Shr W F' (fz d) v ∧ Same F F' := by
  obtain ⟨F', s1, s2, nw, sh⟩ := Py.freeze r.sF o fun a ha => (k a ha).1
  refine ⟨F', ⟨s2, r.slots.frame s1 fun a _ o q => q, r.nd, fun a ha => ?_, r.s0.trans s1, fun a o q => ?_, r.fr, r.ln, r.pin⟩, sh, s1⟩
  · cases q : F' a with
    | none => rfl
    | some u =>
      rcases nw a u q with z | z
      · rw [r.dj a ha] at z; cases z
      · exact absurd rfl ((List.nodup_append.mp nd).2.2 a z a ha)
  · rcases nw a o q with z | z
    · exact r.nw a o z
    · exact .inr ((k a z).2.elim .inr .inl)
def xsAsgG (g : XG W) (m : XM W) : XS W where
  t E := tAsg (m.t E) g.t
  ev P env := (m.ev P env).thenS fun d e => RS.ofO (g.ev P (fz d) e)
  snd := fun P E env hn e F σ H L Dn hP r s => by
    have hm : m.ev P env ≠ .no := fun z => hn (by rw [z]; rfl)
    refine (m.snd P E env).run hm hP r s (fun x e1 h => by rw [h]; rfl) fun d env' v F' H' L' M h r' o nd kk => ?_
    rw [h] at hn s
    have hn : RS.ofO (g.ev P (fz d) env') ≠ .no := hn
    cases h2 : g.ev P (fz d) env' with
    | none => rw [h2] at hn; exact absurd rfl hn
    | some e2 =>
      obtain ⟨F2, r2, sh, _⟩ := r'.frzTmp o nd kk
      exact g.snd h2 e F2 σ H' L' v _ hP r2 sh fun env3 σ' L3 z r3 => s.nx _ _ _ _ _ (show RS.ofO (g.ev P (fz d) env') = .nx _ by rw [h2, z]; rfl) r3
def xsExpr (m : XM W) : XS W where
  t E := tDrop (m.t E)
  ev P env := (m.ev P env).thenS fun _ e => .nx e
  snd := fun P E env hn e F σ H L Dn hP r s => by
    have hm : m.ev P env ≠ .no := fun z => hn (by rw [z]; rfl)
    refine (m.snd P E env).run hm hP r s (fun x e1 h => by rw [h]; rfl) fun d env' v F' H' L' M h r' o nd kk => ?_
    rw [h] at s
    exact s.nx _ _ _ _ _ rfl r'
def xsRet (m : XM W) : XS W where
  t E := tRet (m.t E)
  ev P env := (m.ev P env).thenS fun d e => .rt d e
  snd := fun P E env hn e F σ H L Dn hP r s => by
    have hm : m.ev P env ≠ .no := fun z => hn (by rw [z]; rfl)
    refine (m.snd P E env).run hm hP r s (fun x e1 h => by rw [h]; rfl) fun d env' v F' H' L' M h r' o nd kk => ?_
    rw [h] at s
    exact s.rt _ _ _ _ _ _ _ _ rfl r' o nd kk
def iteR (b : Option Bool) (s u : RS) : RS := match b with
  | some true => s
  | some false => u
  | none => .no
def xsIf (c : XT W) (s u : XS W) : XS W where
  t E := tIfS c.t (s.t E) (u.t E)
  ev P env := iteR (c.ev env) (s.ev P env) (u.ev P env)
  snd := fun P E env hn => by
    match h : c.ev env, hn with
    | some true, hn => exact as_if (c.snd h) (fun _ => s.snd P E env hn) fun z => nomatch z
    | some false, hn => exact as_if (c.snd h) (fun z => nomatch z) fun _ => u.snd P E env hn
    | none, hn => exact absurd rfl hn
/-- first some slots' things become shared -/
def xsFrz (is : List Nat) (s : XS W) : XS W where
  t := s.t
  ev P env := s.ev P (is.foldl frzS env)
  snd := fun P E env hn e F σ H L Dn hP r h => by
    obtain ⟨F', L', r'⟩ := Rel.frzs is env F L r
    exact s.snd P E _ hn e F' σ H L' Dn hP r' h
def forL (f : D → Py.Env → RS) : List D → Py.Env → RS
  | [], env => .nx env
  | d :: ds, env => match f d env with
    | .nx e => forL f ds e
    | .ct e => forL f ds e
    | .bk e => .nx e
    | r => r
def xsFor (it : XI W) (g : XG W) (b : XS W) : XS W where
  t E := tFor it.t g.t (b.t E)
  ev P env := match it.evF env with
    | some ds => forL (fun d e => match g.ev P d e with | some e2 => b.ev P e2 | none => .no) ds env
    | none => .no
  snd := fun P E env hn => by
    match h : it.evF env, hn with
    | some ds, hn =>
      have hn : forL (fun d e => match g.ev P d e with | some e2 => b.ev P e2 | none => .no) ds env ≠ .no := hn
      show AS W P E _ env (ends (forL (fun d e => match g.ev P d e with | some e2 => b.ev P e2 | none => .no) ds env))
      generalize hr : forL (fun d e => match g.ev P d e with | some e2 => b.ev P e2 | none => .no) ds env = r at hn ⊢
      refine as_for (it.sF h) (fun i e => forL (fun d e => match g.ev P d e with | some e2 => b.ev P e2 | none => .no) (ds.drop i) e = r) (by rw [List.drop_zero]; exact hr) (fun i d e' hd hi => ?_) fun e' he => ?_
      · rw [List.drop_eq_getElem?_toList_append, hd] at hi
        have hi : forL (fun d e => match g.ev P d e with | some e2 => b.ev P e2 | none => .no) (d :: ds.drop (i + 1)) e' = r := hi
        unfold forL at hi
        cases h1 : g.ev P d e' with
        | none => rw [h1] at hi; exact absurd hi.symm hn
        | some e2 =>
          rw [h1] at hi
          intro e0 F σ H L v Q hP rl sh q
          refine g.snd h1 e0 F σ H L v Q hP rl sh fun env3 σ2 L2 z r3 => q env3 σ2 L2 ?_ r3
          subst z
          have hb := b.snd P E env3
          dsimp only at hi
          match h2 : b.ev P env3, hb, hi with
          | .nx e3, hb, hi => exact (hb (by simp)).weaken (fun e h => by cases h; exact hi) (fun d e h => nomatch h) (fun e h => nomatch h) (fun e h => nomatch h) fun x e h => nomatch h
          | .ct e3, hb, hi => exact (hb (by simp)).weaken (fun e h => nomatch h) (fun d e h => nomatch h) (fun e h => nomatch h) (fun e h => by cases h; exact hi) fun x e h => nomatch h
          | .bk e3, hb, hi => exact (hb (by simp)).weaken (fun e h => nomatch h) (fun d e h => nomatch h) (fun e h => by cases h; exact hi.symm) (fun e h => nomatch h) fun x e h => nomatch h
          | .rt d3 e3, hb, hi => exact (hb (by simp)).weaken (fun e h => nomatch h) (fun d e h => by cases h; exact hi.symm) (fun e h => nomatch h) (fun e h => nomatch h) fun x e h => nomatch h
          | .ex x3 e3, hb, hi => exact (hb (by simp)).weaken (fun e h => nomatch h) (fun d e h => nomatch h) (fun e h => nomatch h) (fun e h => nomatch h) fun x e h => by cases h; exact hi.symm
          | .no, hb, hi => exact absurd hi.symm hn
      · rw [List.drop_length] at he
        exact he.symm
    | none, hn => exact absurd rfl hn
/-- so many turns at most -/
def whileN (c : Py.Env → Option Bool) (f : Py.Env → RS) : Nat → Py.Env → RS
  | 0, _ => .no
  | n + 1, env => match c env with
    | none => .no
    | some false => .nx env
    | some true => match f env with
      | .nx e => whileN c f n e
      | .ct e => whileN c f n e
      | .bk e => .nx e
      | r => r
def fuel : Nat := 1000000
def xsWhile (c : XT W) (b : XS W) : XS W where
  t E := tWhile c.t (b.t E)
  ev P env := whileN c.ev (b.ev P) fuel env
  snd := fun P E env hn e F σ H L Dn hP r s => by
    generalize hr : whileN c.ev (b.ev P) fuel env = r0 at hn s
    refine ⟨fun m σ H => ∃ env' F L, whileN c.ev (b.ev P) m env' = r0 ∧ Rel W e env' F σ H L, ⟨fuel, env, F, L, hr, r⟩, ?_⟩
    rintro m σ H ⟨env', F, L, hw, rl⟩
    cases m with
    | zero => exact absurd hw.symm hn
    | succ m =>
      unfold whileN at hw
      cases hc : c.ev env' with
      | none => rw [hc] at hw; exact absurd hw.symm hn
      | some bb =>
        rw [hc] at hw
        refine c.snd hc e F σ H L _ rl fun F' H' x => ?_
        have rl' := rl.ext x
        cases bb with
        | false => exact s.nx _ _ _ _ _ hw.symm rl'
        | true =>
          rw [if_pos rfl]
          dsimp only at hw
          refine ⟨fun σ' H' => ∃ env' F L, whileN c.ev (b.ev P) m env' = r0 ∧ Rel W e env' F σ' H' L, fun σ' H' h => ⟨m, by omega, h⟩, ?_⟩
          have hb := b.snd P E env'
          have go : AS W P E (b.t E) env' { ends r0 with nx := fun e => whileN c.ev (b.ev P) m e = r0, ct := fun e => whileN c.ev (b.ev P) m e = r0, bk := fun e => r0 = .nx e } := by
            match h2 : b.ev P env', hb, hw with
            | .nx e3, hb, hi => exact (hb (by simp)).weaken (fun e h => by cases h; exact hi) (fun d e h => nomatch h) (fun e h => nomatch h) (fun e h => nomatch h) fun x e h => nomatch h
            | .ct e3, hb, hi => exact (hb (by simp)).weaken (fun e h => nomatch h) (fun d e h => nomatch h) (fun e h => nomatch h) (fun e h => by cases h; exact hi) fun x e h => nomatch h
            | .bk e3, hb, hi => exact (hb (by simp)).weaken (fun e h => nomatch h) (fun d e h => nomatch h) (fun e h => by cases h; exact hi.symm) (fun e h => nomatch h) fun x e h => nomatch h
            | .rt d3 e3, hb, hi => exact (hb (by simp)).weaken (fun e h => nomatch h) (fun d e h => by cases h; exact hi.symm) (fun e h => nomatch h) (fun e h => nomatch h) fun x e h => nomatch h
            | .ex x3 e3, hb, hi => exact (hb (by simp)).weaken (fun e h => nomatch h) (fun d e h => nomatch h) (fun e h => nomatch h) (fun e h => nomatch h) fun x e h => by cases h; exact hi.symm
            | .no, hb, hi => exact absurd hi.symm hn
          exact go e F' σ H' L _ hP rl' ⟨fun e4 F4 σ4 H4 L4 a r4 => ⟨e4, F4, L4, a, r4⟩, s.rt, fun e4 F4 σ4 H4 L4 a r4 => s.nx _ _ _ _ _ a r4, fun e4 F4 σ4 H4 L4 a r4 => ⟨e4, F4, L4, a, r4⟩, s.ex⟩
def env0 (N : Nat) (args : List D) : Py.Env := args.map some ++ List.replicate (N - args.length) none
def bGet (b : Option Nat) (env : Py.Env) : Option (Option D) := match b with
  | none => some none
  | some i => (getS env i).map some
def runR (b : Option Nat) (r : RS) : Rz := match r with
  | .rt d env => match bGet b env with
    | some x => .ok d x
    | none => .no
  | .nx env => match bGet b env with
    | some x => .ok .non x
    | none => .no
  | .ex x env => match bGet b env with
    | some y => .exn x y
    | none => .no
  | _ => .no
/-- what the body makes of the arguments -/
def runFn (N : Nat) (s : XS W) (args : List D) (b : Option Nat) : Rz := runR b (s.ev b.toList (env0 N args))
theorem slots_startO {F H : Hp} : ∀ {ds : List D} {vs : List V} {L : List Addr} (k : Nat), Owns W F H ds vs L → Slots W F H (ds.map some ++ List.replicate k none) (vs.map some ++ List.replicate k none) L
  | [], [], _, 0, .nil => .nil
  | [], [], _, k + 1, .nil => .no (slots_startO k .nil)
  | _ :: _, _ :: _, _, k, .cons h t => Slots.so h (slots_startO k t)
theorem fn_run {n : Nat} {N : List Str} {s : XS W} {b : Option Nat} (hb : ∀ i, b = some i → i < n) {vs : List V} {H : Hp} {Q : VK} {E : XK} (hsp : spR W n (runFn N.length s) b vs H Q E) :
    s.t (fun c d _ H => E c d H) { nx := fun _ H' => Q .non H', rt := Q } (L2.start N vs) H := by
  obtain ⟨F, args, L0, sF, os, nd, kF, hl, hn, ok, exn⟩ := hsp
  have hlen : vs.length = args.length := os.length.symm
  obtain ⟨pins, hp1, hp2⟩ : ∃ pins : List (Nat × V), b.toList = pins.map (·.1) ∧ ∀ p ∈ pins, vs[p.1]? = some p.2 := by
    cases b with
    | none => exact ⟨[], rfl, fun _ h => nomatch h⟩
    | some i =>
      have hi : i < vs.length := by have := hb i rfl; omega
      exact ⟨[(i, vs[i])], rfl, fun p h => by rw [List.mem_singleton.mp h]; exact List.getElem?_eq_getElem hi⟩
  have hr : Rel W ⟨F, H, L0, pins⟩ (env0 N.length args) F (L2.start N vs) H L0 := {
    sF := sF
    slots := by unfold L2.start env0; rw [hlen]; exact slots_startO _ os
    nd := nd
    dj := kF
    s0 := Same.refl _
    nw := fun _ _ h => .inl h
    fr := fun _ _ _ h => h
    ln := fun _ m => .inl m
    pin := fun p m => by
      have h := hp2 p m
      have hlt := (List.getElem?_eq_some_iff.mp h).1
      unfold L2.start
      rw [List.getElem?_append_left (by rw [List.length_map]; exact hlt), List.getElem?_map, h]; rfl }
  have hne : s.ev b.toList (env0 N.length args) ≠ .no := fun z => hn (by unfold runFn; rw [z]; rfl)
  have post : ∀ {env' : Py.Env} {F' : Hp} {σ' : St} {H' : Hp} {L' : List Addr}, Rel W ⟨F, H, L0, pins⟩ env' F' σ' H' L' → Post F H L0 F' H' := fun r =>
    ⟨r.s0, r.sF, r.fr, r.nw⟩
  have bor : ∀ {env' : Py.Env} {F' : Hp} {σ' : St} {H' : Hp} {L' : List Addr} {x : Option D}, bGet b env' = some x → Rel W ⟨F, H, L0, pins⟩ env' F' σ' H' L' → ∃ Mb, bOwn W F' H' vs b x Mb ∧ Mb.Nodup ∧ ∀ a ∈ Mb, a ∈ L' := by
    intro env' F' σ' H' L' x hx r
    cases b with
    | none => exact ⟨[], by cases hx; rfl, .nil, fun _ h => nomatch h⟩
    | some i =>
      obtain ⟨d, e1, e2⟩ := Option.map_eq_some_iff.mp hx
      subst e2
      obtain ⟨v, Li, Lr, h1, o, _, nd', mem⟩ := r.slots.take r.nd (getS_some e1)
      obtain ⟨v', hm⟩ : ∃ v', (i, v') ∈ pins := by
        have : i ∈ pins.map (·.1) := by rw [← hp1]; simp
        obtain ⟨⟨j, v'⟩, h2, h3⟩ := List.mem_map.mp this
        cases h3; exact ⟨v', h2⟩
      have h4 := r.pin _ hm
      rw [h1] at h4
      cases h4
      exact ⟨Li, ⟨_, hp2 _ hm, o⟩, (List.nodup_append.mp nd').1, fun a h => (mem a).mp (.inl h)⟩
  have run := s.snd b.toList (fun c d _ H => E c d H) (env0 N.length args) hne ⟨F, H, L0, pins⟩ F (L2.start N vs) H L0 { nx := fun _ H' => Q .non H', rt := Q } hp1 hr
  have hn' : runR b (s.ev b.toList (env0 N.length args)) ≠ .no := hn
  have ok' : ∀ d bd, runR b (s.ev b.toList (env0 N.length args)) = .ok d bd → _ := ok
  have exn' : ∀ x bd, runR b (s.ev b.toList (env0 N.length args)) = .exn x bd → _ := exn
  generalize s.ev b.toList (env0 N.length args) = res at run hn' ok' exn'
  refine run ⟨fun env' F' σ' H' L' a r => ?_, fun d env' F' σ' H' L' v M a r o nd2 kk => ?_, fun env' F' σ' H' L' a r => ?_, fun env' F' σ' H' L' a r => ?_, fun x env' F' σ' H' L' C dd a r ie => ?_⟩
  · cases a
    cases hbg : bGet b env' with
    | none => exact absurd (show runR b (.nx env') = .no by unfold runR; simp only [hbg]) hn'
    | some x =>
      obtain ⟨Mb, ob, nb, sb⟩ := bor hbg r
      exact ok' .non x (by unfold runR; simp only [hbg]) F' H' .non [] Mb (post r) (.sh .non) ob (by simpa using nb) fun a ha => ⟨r.dj a (sb a (by simpa using ha)), r.ln a (sb a (by simpa using ha))⟩
  · cases a
    cases hbg : bGet b env' with
    | none => exact absurd (show runR b (.rt d env') = .no by unfold runR; simp only [hbg]) hn'
    | some x =>
      obtain ⟨Mb, ob, nb, sb⟩ := bor hbg r
      rw [List.nodup_append] at nd2
      refine ok' d x (by unfold runR; simp only [hbg]) F' H' v M Mb (post r) o ob ?_ fun a ha => ?_
      · rw [List.nodup_append]
        exact ⟨nd2.1, nb, fun a ha c hc => nd2.2.2 a ha c (sb c hc)⟩
      · rcases List.mem_append.mp ha with z | z
        · exact kk a z
        · exact ⟨r.dj a (sb a z), r.ln a (sb a z)⟩
  · cases a; exact absurd rfl hn'
  · cases a; exact absurd rfl hn'
  · cases a
    cases hbg : bGet b env' with
    | none => exact absurd (show runR b (.ex x env') = .no by unfold runR; simp only [hbg]) hn'
    | some y =>
      obtain ⟨Mb, ob, nb, sb⟩ := bor hbg r
      exact exn' x y (by unfold runR; simp only [hbg]) F' H' C dd Mb (post r) ie ob nb fun a ha => ⟨r.dj a (sb a ha), r.ln a (sb a ha)⟩
end
end Py

namespace L2
open PySem PySem.Spec PyProof.Rows
def rSortD (K : PySem.W.Frag) : List V → Hp → VK → Prop := fun vs H Q => ∃ (a : Addr) (xs : List V) (ds : List PyData), vs = [V.ref a] ∧ SqL K H a xs ∧ DpAll K H xs ds ∧ PySem.W.AllAlike ds ∧ PySem.W.Sortable ds ∧ (∀ d ∈ ds, d.depth ≤ 60) ∧
  ∀ p, H p = none → Q (.ref p) (upd H p (.lst (((xs.zip ds).mergeSort (PySem.W.dataLe false Prod.snd)).map Prod.fst)))
theorem DpAll.len {K : PySem.W.Frag} {H : Hp} : ∀ {xs : List V} {ds : List PyData}, DpAll K H xs ds → xs.length = ds.length
  | _, _, .nil => rfl
  | _, _, .cons _ t => by rw [List.length_cons, List.length_cons, DpAll.len t]
section
variable {X : Cx} {pins : List (Addr × Obj)} {σ : St} {H : Hp} {s : Shared}
theorem each_dp (I : Inv X pins σ H s) : ∀ {xs : List V} {ds : List PyData} {us : List Value}, DpAll X.K H xs ds → Vals xs us → PySem.W.EachIs (fun u (b : V × PyData) => RelV b.1 u ∧ ∃ as, Reads s.heap u b.2 as) us (xs.zip ds)
  | _, _, _, .nil, .nil => .nil
  | _, _, _, .cons h t, .cons r rs => .cons ⟨r, Dp.reads I _ _ _ h r⟩ (each_dp I t rs)
theorem each_vals {R : Value → V × PyData → Prop} (hR : ∀ u b, R u b → RelV b.1 u) : ∀ {us : List Value} {bs : List (V × PyData)}, PySem.W.EachIs R us bs → Vals (bs.map Prod.fst) us
  | _, _, .nil => .nil
  | _, _, .cons h t => .cons (hR _ _ h) (each_vals hR t)
theorem zip_snd {xs : List V} {ds : List PyData} (h : xs.length = ds.length) : (xs.zip ds).map Prod.snd = ds := List.map_snd_zip (by omega)
theorem cr_sortedD (hu : X.A.units + 64 < cLine) : CallR X (.builtin "sorted") (rSortD X.K) := by
  intro pins s σ H vs us Q I r h
  obtain ⟨a, xs, ds, rfl, hs, hd, ha, hk, hn, q⟩ := h
  obtain ⟨its, rv, hl, hz⟩ := I.list hs
  rw [Vals.ref1 r]
  have hlen := hd.len
  have hm := zip_snd hlen
  have e1 := each_dp I hd rv
  have hzl : (xs.zip ds).length = xs.length := by rw [List.length_zip]; omega
  refine PySem.W.sorted_data (enc := Prod.snd) (bs := xs.zip ds) hl.isList e1 (e1.mono fun _ _ h => h.2) (by rw [hm]; exact ha) (by rw [hm]; exact hk) (by rw [hzl]; exact hz) (fun b hb => ?_) fun out ho eo => ?_
  · have : b.2 ∈ ds := by rw [← hm]; exact List.mem_map.mpr ⟨b, hb, rfl⟩
    have := hn _ this
    omega
  · obtain ⟨ep, he'⟩ := PyProof.Rows.sortedAll_at s.heap its out.toArray
    have hv := each_vals (fun _ _ h => h.1) eo
    refine ⟨.ref _, upd H (s.heap.objs.size + 1) (.lst (((xs.zip ds).mergeSort (PySem.W.dataLe false Prod.snd)).map Prod.fst)), I.laid (t' := s.toks) (fun _ _ => PyProof.Rows.sortedAll_old) (Nat.le_succ _) ⟨?_, out, ep, hv, he'⟩, rfl, q _ (I.hok.fresh (Nat.le_succ _))⟩
    rw [List.length_map, List.length_mergeSort, hzl]
    exact hz
end
end L2
namespace Py
open PySem L2
section
variable {T : Tbl} {W : Wd T} {env : Py.Env} {β : Type} {enc : β → D} {dat : β → PyData}
theorem zip_map_dat (vs : List V) (bs : List β) : vs.zip (bs.map dat) = (vs.zip bs).map fun p => (p.1, dat p.2) := by
  rw [List.zip_map_right]; rfl
theorem sortD_out {vs : List V} {bs : List β} (hl : vs.length = bs.length) : ∃ T : List (V × β), T.Perm (vs.zip bs) ∧ ((vs.zip (bs.map dat)).mergeSort (PySem.W.dataLe false Prod.snd)).map Prod.fst = T.map Prod.fst ∧ bs.mergeSort (PySem.W.dataLe false dat) = T.map Prod.snd := by
  refine ⟨(vs.zip bs).mergeSort (PySem.W.dataLe false fun p => dat p.2), List.mergeSort_perm _ _, ?_, ?_⟩
  · rw [zip_map_dat, ← PySem.W.sort_maps (r := PySem.W.dataLe false fun p : V × β => dat p.2) (s := PySem.W.dataLe false Prod.snd) (fun p : V × β => (p.1, dat p.2)) (fun _ _ _ _ => rfl), List.map_map]
    rfl
  · rw [PySem.W.sort_maps (r := PySem.W.dataLe false fun p : V × β => dat p.2) (s := PySem.W.dataLe false dat) Prod.snd (fun _ _ _ _ => rfl), List.map_snd_zip (by omega)]

def tupNE : PyData → Bool
  | .tuple (_ :: _) => true
  | _ => false
def notTN : PyData → Bool
  | .tuple _ => false
  | .none => false
  | _ => true
def sortOk (ps : List PyData) : Bool := (ps.all fun p => ps.all fun q => PySem.W.alike p q) && (ps.all tupNE || ps.all notTN) && ps.all fun p => decide (p.depth ≤ 60)
def sortD (xs : List D) : Option (List D) := (pds xs).bind fun ps => if sortOk ps = true then some (((xs.zip ps).mergeSort (PySem.W.dataLe false Prod.snd)).map Prod.fst) else none
theorem sortOk_ok {ps : List PyData} (h : sortOk ps = true) : PySem.W.AllAlike ps ∧ PySem.W.Sortable ps ∧ ∀ d ∈ ps, d.depth ≤ 60 := by
  unfold sortOk at h
  simp only [Bool.and_eq_true, Bool.or_eq_true, List.all_eq_true, decide_eq_true_eq] at h
  obtain ⟨⟨h1, h2⟩, h3⟩ := h
  refine ⟨h1, ?_, h3⟩
  rcases h2 with h2 | h2
  · refine .inl fun d hd => ?_
    have := h2 d hd
    cases d <;> first | (cases this; done) | skip
    rename_i xs
    cases xs with
    | nil => cases this
    | cons x r => exact ⟨x, r, rfl⟩
  · refine .inr fun d hd => ?_
    have := h2 d hd
    refine ⟨fun z => ?_, fun xs z => ?_⟩ <;> (subst z; cases this)
theorem shrs_zipD {F : Hp} : ∀ {xs : List D} {vs : List V}, Shrs W F xs vs → ∀ p ∈ vs.zip xs, Shr W F p.2 p.1
  | [], _, .nil, p, m => nomatch m
  | b :: bs, _, .cons (v := v) (vs := vs) h t, p, m => by
    rw [List.zip_cons_cons] at m
    rcases List.mem_cons.mp m with rfl | m
    · exact h
    · exact shrs_zipD t p m
theorem shrs_pairsD {F : Hp} : ∀ (T : List (V × D)), (∀ p ∈ T, Shr W F p.2 p.1) → Shrs W F (T.map Prod.snd) (T.map Prod.fst)
  | [], _ => .nil
  | p :: T, h => .cons (h p (List.mem_cons_self ..)) (shrs_pairsD T fun q m => h q (List.mem_cons_of_mem _ m))
/-- sorting values and their data by the same keys -/
theorem sort_two {α β : Type} {vs : List α} {xs : List β} {ps : List PyData} (h1 : vs.length = ps.length) (h2 : xs.length = ps.length) :
    ∃ T : List (α × β), T.Perm (vs.zip xs) ∧ ((vs.zip ps).mergeSort (PySem.W.dataLe false Prod.snd)).map Prod.fst = T.map Prod.fst ∧ ((xs.zip ps).mergeSort (PySem.W.dataLe false Prod.snd)).map Prod.fst = T.map Prod.snd := by
  let Z : List ((α × β) × PyData) := (vs.zip xs).zip ps
  have e1 : Z.map (fun z => (z.1.1, z.2)) = vs.zip ps := by
    apply List.ext_getElem?
    intro i
    simp only [Z, List.getElem?_map, List.getElem?_zip_eq_some, List.zip_eq_zipWith, List.getElem?_zipWith]
    cases vs[i]? <;> cases hx : xs[i]? <;> cases hp : ps[i]? <;> simp
    · have := List.getElem?_eq_none_iff.mp hx
      have := (List.getElem?_eq_some_iff.mp hp).1
      omega
  have e2 : Z.map (fun z => (z.1.2, z.2)) = xs.zip ps := by
    apply List.ext_getElem?
    intro i
    simp only [Z, List.getElem?_map, List.zip_eq_zipWith, List.getElem?_zipWith]
    cases hv : vs[i]? <;> cases hx : xs[i]? <;> cases hp : ps[i]? <;> simp
    · have := List.getElem?_eq_none_iff.mp hv
      have := (List.getElem?_eq_some_iff.mp hp).1
      omega
  refine ⟨(Z.mergeSort (PySem.W.dataLe false Prod.snd)).map (·.1), ?_, ?_, ?_⟩
  · have := (List.mergeSort_perm Z (PySem.W.dataLe false Prod.snd)).map (·.1)
    refine this.trans ?_
    rw [List.map_fst_zip (by rw [List.length_zip]; omega)]
  · rw [← e1, ← PySem.W.sort_maps (r := PySem.W.dataLe false fun z : (α × β) × PyData => z.2) (s := PySem.W.dataLe false Prod.snd) (fun z : (α × β) × PyData => (z.1.1, z.2)) (fun _ _ _ _ => rfl), List.map_map, List.map_map]
    rfl
  · rw [← e2, ← PySem.W.sort_maps (r := PySem.W.dataLe false fun z : (α × β) × PyData => z.2) (s := PySem.W.dataLe false Prod.snd) (fun z : (α × β) × PyData => (z.1.2, z.2)) (fun _ _ _ _ => rfl), List.map_map, List.map_map]
    rfl
theorem pds_len : ∀ {xs : List D} {ps : List PyData}, pds xs = some ps → xs.length = ps.length
  | [], _, h => by rw [pds] at h; cases h; rfl
  | x :: xs, ps, h => by
    rw [pds] at h
    split at h
    · rename_i h2; cases h; rw [List.length_cons, List.length_cons, pds_len h2]
    · cases h
def xSorted (a : XP W) : XP W where
  t := tCB (rSortD W.K) (tCons a.t tNil)
  ev env := (a.evK env).bind fun d => (seqOf d).bind fun p => if p.1 = false then (sortD p.2).map fun ys => (.fr, .olst ys) else none
  snd := fun {env k d} e => by
    obtain ⟨d1, e1, e⟩ := Option.bind_eq_some_iff.mp e
    obtain ⟨⟨b, xs⟩, e3, e⟩ := Option.bind_eq_some_iff.mp e
    cases b with
    | true => cases e
    | false =>
      obtain ⟨ys, e4, e⟩ := Option.map_eq_some_iff.mp e
      cases e
      obtain ⟨ps, e5, e6⟩ := Option.bind_eq_some_iff.mp e4
      obtain ⟨ho, rfl⟩ := ite_some e6
      obtain ⟨s1, s2, s3⟩ := sortOk_ok ho
      intro e' F σ H L Q r q
      refine a.sK e1 e' F σ H L _ r fun v F1 H1 x1 ⟨L1, o⟩ => ?_
      obtain ⟨a, vs, rfl, sh, sq⟩ := seqOf_ok x1.s o e3
      have hl := pds_len e5
      obtain ⟨TT, hT, t1, t2⟩ := sort_two (vs := vs) (xs := xs) (ps := ps) (by rw [← sh.length, hl]) hl
      refine ⟨a, vs, ps, rfl, sq, Shrs.dp (sh.mono x1.s) e5, s1, s2, s3, fun p hp => q _ F1 _ (x1.trans (.newH x1.s hp)) ⟨[p], ?_, by simp, fun x m => by
        rw [List.mem_singleton.mp m]; exact ⟨x1.h.free hp, x1.s.free hp⟩⟩⟩
      rw [t1, t2]
      exact .olst upd_same (shrs_pairsD TT fun p m => shrs_zipD sh p (hT.mem_iff.mp m)).owns
theorem pds_mapD (hp : ∀ b, pd (enc b) = some (dat b)) : ∀ bs : List β, pds (bs.map enc) = some (bs.map dat)
  | [] => by rw [List.map_nil, pds]; rfl
  | b :: bs => by rw [List.map_cons, pds, hp b, pds_mapD hp bs]; rfl
theorem sortD_map (hp : ∀ b, pd (enc b) = some (dat b)) (bs : List β) (ho : sortOk (bs.map dat) = true) : sortD (bs.map enc) = some ((bs.mergeSort (PySem.W.dataLe false dat)).map enc) := by
  unfold sortD
  rw [pds_mapD hp]
  show (if sortOk (bs.map dat) = true then _ else none) = _
  rw [if_pos ho]
  congr 1
  have e : (bs.map enc).zip (bs.map dat) = bs.map fun b => (enc b, dat b) := by rw [List.zip_map']
  rw [e, ← PySem.W.sort_maps (r := PySem.W.dataLe false dat) (s := PySem.W.dataLe false Prod.snd) (fun b => (enc b, dat b)) (fun _ _ _ _ => rfl), List.map_map]
  rfl
end
end Py

namespace Py
open PySem L2
structure Blt (mg : Str → Option Value) : Prop where
  len : mg "len" = none
  range : mg "range" = none
  abs : mg "abs" = none
  int : mg "int" = none
  bool : mg "bool" = none
  str : mg "str" = none
  list : mg "list" = none
  tuple : mg "tuple" = none
  isinstance : mg "isinstance" = none
  sorted : mg "sorted" = none
  enumerate : mg "enumerate" = none
  zip : mg "zip" = none
  sum : mg "sum" = none
  any : mg "any" = none
  all : mg "all" = none
  max : mg "max" = none
  min : mg "min" = none
  dict : mg "dict" = none
  set : mg "set" = none
  type : mg "type" = none
  iter : mg "iter" = none
  super : mg "super" = none

structure DefAt (K : PySem.W.Frag) (mg : Str → Option Value) (x qual : Str) (st : Stmt) (dvs : List V) (kws : List (Str × V)) : Prop where
  ex : ∃ f fd, FunD K x qual (defArgs st) (defBody st) (defScope st) dvs kws f fd ∧ mg x = some (.ref f)
/-- how a def without defaults binds -/
def BindsP (x qual : Str) (st : Stmt) (ps : List Str) : Prop := ∀ (kV doc pm : Value) (an : Option Addr) (cdv ct : Value) (us : List Value), us.length = ps.length → bindArgs (PySem.W.fnOf x qual (defArgs st) (defBody st) (defScope st) .none kV doc pm an cdv ct) ⟨us, []⟩ = pure (ps.zip us)
structure Df (P : Program) (w : World) (K : PySem.W.Frag) (mg : Str → Option Value) (base : Heap) (CX : CXT) (k : Nat) (x : Str) (ps : List Str) (sp : Sp) : Prop where
  ex : ∃ f fd, FnOk P w K mg base CX k f fd ps sp ∧ mg x = some (.ref f) ∧ PySem.W.keepIn K (.ref f) = true ∧ Binds K fd ps []
section
variable {P : Program} {w : World} {K : PySem.W.Frag} {mg : Str → Option Value} {base : Heap}
theorem df_of {x qual : Str} {st : Stmt} {N ps : List Str} {k : Nat} {sp : Sp} (D : DefAt K mg x qual st [] []) (S : FnScope N ps (defScope st)) (bp : BindsP x qual st ps) (len : ∀ vs H Q E, sp vs H Q E → vs.length = ps.length)
    (hbody : ∀ (f : Addr) (cdv : Value) (A : Around) (outer : List PySem.Env) (s : Shared) (H : Hp) (vs : List V) (Q : VK) (E : XK), Room k (A.deeper (PyProof.Rows.envOfC qual (defScope st) s.heap.objs.size f cdv)) → sp vs H Q E →
      ∃ t, PSs (cxOf (L2.CX P w) P w K mg base N qual (defScope st) f cdv A outer s H E) (defBody st) t ∧ t { nx := fun _ H' => Q .non H', rt := Q } (L2.start N vs) H) : Df P w K mg base (L2.CX P w) (k + 1) x ps sp := by
  obtain ⟨f, fd, F, hm⟩ := D.ex
  refine ⟨f, fd, F.ok S len fun cdv A outer s H vs Q E hr h => ?_, hm, F.kp, F.bindsN bp⟩
  obtain ⟨t, q1, q2⟩ := hbody f cdv A outer s H vs Q E hr h
  exact ⟨t, q1, q2⟩
/-- the law's own def -/
theorem lw_of {x qual : Str} {st : Stmt} {N ps : List Str} {k : Nat} {sp : Sp} {f : Addr} {fd : FuncData} (F : FunD K x qual (defArgs st) (defBody st) (defScope st) [] [] f fd) (S : FnScope N ps (defScope st)) (len : ∀ vs H Q E, sp vs H Q E → vs.length = ps.length)
    (hbody : ∀ (f : Addr) (cdv : Value) (A : Around) (outer : List PySem.Env) (s : Shared) (H : Hp) (vs : List V) (Q : VK) (E : XK), Room k (A.deeper (PyProof.Rows.envOfC qual (defScope st) s.heap.objs.size f cdv)) → sp vs H Q E →
      ∃ t, PSs (cxOf CX0 P w K mg base N qual (defScope st) f cdv A outer s H E).nox (defBody st) t ∧ t { nx := fun _ H' => Q .non H', rt := Q } (L2.start N vs) H) : FnOk P w K mg base CX0 (k + 1) f fd ps sp := by
  refine F.ok S len fun cdv A outer s H vs Q E hr h => ?_
  obtain ⟨t, q1, q2⟩ := hbody f cdv A outer s H vs Q E hr h
  exact ⟨t, q1.nox, q2⟩
theorem cx_no {P : Program} {w : World} {o : List PySem.Env} {H : Hp} {s s' : Shared} {e : Value} (h : L2.CX P w o H s E0 e s') : False := by
  obtain ⟨_, _, _, _, _, _, _, _, _, _, _, _, z⟩ := h
  exact z.elim
theorem passE0 {X : Cx} : Passes (L2.CX X.prog X.w) X E0 := fun _ _ _ _ _ _ _ h => by
  obtain ⟨_, _, _, _, _, _, _, _, _, _, _, _, z⟩ := h
  exact z.elim
theorem takesN {X : Cx} : Takes X (fun c d _ H => E0 c d H) := fun _ _ h => by
  obtain ⟨_, _, _, _, _, _, _, _, _, _, _, _, _, _, _, _, z⟩ := h
  exact z.elim
theorem px_call {X : Cx} {k : Nat} {x : Str} {ps : List Str} {sp : Sp} {p pos : Pos} {e : Expr} {es : List Expr} {t : TA} (D : Df X.prog X.w X.K X.mg X.base (L2.CX X.prog X.w) k x ps sp) (hr : Room k X.A) (hg : Gl X x)
    (ha : PA X (e :: es) t) (hdb : (x == ("__debug__" : Str)) = false := by decide) (he : starEach (e :: es) X.env = (false, eval e X.env) :: starEach es X.env := by rfl) (hpl : (backTo pos (starEach es X.env)).any (·.1) = false := by rfl) :
    PE X (.Call (.Name x p) (e :: es) [] pos) (tCall sp [] E0 t) := by
  obtain ⟨f, fd, F, hm, hk, hb⟩ := D.ex
  exact pe_call F hr hg hm hk hb .nil passE0 ha hdb he hpl
/-- n positional values, then m keywords' values, in the parameters' order -/
def gK {α : Type} (n m : Nat) (us ws : List α) : List α := if us.length = n ∧ ws.length = m then us ++ ws else []
/-- how a def without defaults binds n positional values and the keywords ks -/
def BindsK (x qual : Str) (st : Stmt) (ps ks : List Str) (n : Nat) : Prop := ∀ (kV doc pm : Value) (an : Option Addr) (cdv ct : Value) (us ws : List Value), us.length = n → ws.length = ks.length → bindArgs (PySem.W.fnOf x qual (defArgs st) (defBody st) (defScope st) .none kV doc pm an cdv ct) ⟨us, ks.zip ws⟩ = pure (ps.zip (us ++ ws))
structure DfK (P : Program) (w : World) (K : PySem.W.Frag) (mg : Str → Option Value) (base : Heap) (CX : CXT) (k : Nat) (x : Str) (ps ks : List Str) (n : Nat) (sp : Sp) : Prop where
  ex : ∃ f fd, FnOk P w K mg base CX k f fd ps sp ∧ mg x = some (.ref f) ∧ PySem.W.keepIn K (.ref f) = true ∧ KBinds K fd ps ks (gK n ks.length) (gK n ks.length)
theorem gK_rel {n m : Nat} {vs : List V} {us : List Value} {zs : List V} {ws : List Value} (h1 : Vals vs us) (h2 : Vals zs ws) : Vals (gK n m vs zs) (gK n m us ws) := by
  unfold gK
  rw [← h1.length, ← h2.length]
  split
  · exact h1.append h2
  · exact .nil
theorem dfK_of {x qual : Str} {st : Stmt} {N ps ks : List Str} {n k : Nat} {sp : Sp} (D : DefAt K mg x qual st [] []) (S : FnScope N ps (defScope st)) (bp : BindsK x qual st ps ks n) (h0 : ps ≠ []) (len : ∀ vs H Q E, sp vs H Q E → vs.length = ps.length)
    (hbody : ∀ (f : Addr) (cdv : Value) (A : Around) (outer : List PySem.Env) (s : Shared) (H : Hp) (vs : List V) (Q : VK) (E : XK), Room k (A.deeper (PyProof.Rows.envOfC qual (defScope st) s.heap.objs.size f cdv)) → sp vs H Q E →
      ∃ t, PSs (cxOf (L2.CX P w) P w K mg base N qual (defScope st) f cdv A outer s H E) (defBody st) t ∧ t { nx := fun _ H' => Q .non H', rt := Q } (L2.start N vs) H) : DfK P w K mg base (L2.CX P w) (k + 1) x ps ks n sp := by
  obtain ⟨f, fd, F, hm⟩ := D.ex
  refine ⟨f, fd, F.ok S len fun cdv A outer s H vs Q E hr h => ?_, hm, F.kp, ⟨fun s us ws _ hl => ?_, gK_rel⟩⟩
  · obtain ⟨t, q1, q2⟩ := hbody f cdv A outer s H vs Q E hr h
    exact ⟨t, q1, q2⟩
  · unfold gK at hl ⊢
    split at hl
    · rename_i hc
      rw [if_pos hc]
      obtain ⟨oc, od, dV, kV, doc, pm, an, cdv, ct, osl, rfl, lk, hcd, hD, hK⟩ := F.ex
      rcases hD with ⟨_, rfl⟩ | ⟨e, _⟩
      · exact .of_eq (bp kV doc pm an cdv ct us ws hc.1 hc.2)
      · exact absurd rfl e
    · exact absurd (List.eq_nil_of_length_eq_zero hl.symm) h0
theorem px_callK {X : Cx} {k n : Nat} {x : Str} {ps ks : List Str} {sp : Sp} {p pos : Pos} {e : Expr} {es : List Expr} {kws : List Keyword} {t tk : TA} (D : DfK X.prog X.w X.K X.mg X.base (L2.CX X.prog X.w) k x ps ks n sp) (hr : Room k X.A) (hg : Gl X x)
    (ha : PA X (e :: es) t) (hkw : PK X kws tk) (hall : (backToKw pos (keywordEach kws X.env)).all (·.1.isSome) = true := by rfl) (hks : (backToKw pos (keywordEach kws X.env)).filterMap (·.1) = ks := by rfl)
    (hdb : (x == ("__debug__" : Str)) = false := by decide) (he : starEach (e :: es) X.env = (false, eval e X.env) :: starEach es X.env := by rfl)
    (hpl : ((backTo pos (starEach (e :: es) X.env)).any (·.1) || (backToKw pos (keywordEach kws X.env)).any (·.1.isNone)) = false := by rfl) :
    PE X (.Call (.Name x p) (e :: es) kws pos) (tCallK sp (gK n ks.length) E0 t tk) := by
  obtain ⟨f, fd, F, hm, hk, hb⟩ := D.ex
  exact pe_callK F hr hg hm hk hb passE0 ha hkw hall hks hdb he hpl
end

section
variable {X : Cx} {T : Tbl} {W : Wd T}
theorem call_lenA : CallR X (.builtin "len") (rLenA X.K) := CallR.or call_lenU call_lenD
theorem pe_imp {e : Expr} {t : TE} {c : Prop} (hc : c) (h : PE X e t) : PE X e (fun σ H Q => c → t σ H Q) := ⟨fun pins s σ H Q I q => h.run pins s σ H Q I (q hc)⟩
theorem px_isi {a : Expr} {ta : TE} {c : Str} {n : String} {p1 p2 pos : Pos} (hm : X.mg "isinstance" = none) (hmc : X.mg c = none) (ha : PE X a ta) (hk : n ∈ ["int", "bool", "str", "list", "tuple", "dict"] := by decide) (hg : Gl X "isinstance" := by rfl) (hgc : Gl X c := by rfl)
    (hb : bootBuiltins c = some (.type n) := by decide +kernel) (hn : c ≠ "__name__" := by decide) (hd : (c == ("__debug__" : Str)) = false := by decide)
    (hs : starEach [a, .Name c p2] X.env = (false, eval a X.env) :: starEach [.Name c p2] X.env := by rfl) (hs2 : starEach [.Name c p2] X.env = (false, eval (.Name c p2) X.env) :: starEach [] X.env := by rfl)
    (hpl : (backTo pos (starEach [.Name c p2] X.env)).any (·.1) = false := by rfl) :
    PE X (.Call (.Name "isinstance" p1) [a, .Name c p2] [] pos) (fun σ H Q => clsOk W (false, n) → tCB (rIsi X.K) (tCons ta (tCons (tC (clsV W (false, n))) tNil)) σ H Q) :=
  pe_imp hk (pe_callB call_isi hg hm (by decide +kernel) (pa_cons ha (pa_cons (pe_bltn hgc hc' hb rfl hn hd) pa_nil hs2) hs) (he := hs) (hpl := hpl))
where hc' := hmc
end
/-- a def that is claimed nothing of -/
theorem df_no {P : Program} {w : World} {K : PySem.W.Frag} {mg : Str → Option Value} {base : Heap} {x qual : Str} {st : Stmt} {ps : List Str} {k : Nat} (D : DefAt K mg x qual st [] []) (bp : BindsP x qual st ps) {sp : Sp} (h : ∀ vs H Q E, ¬ sp vs H Q E) : Df P w K mg base (L2.CX P w) k x ps sp := by
  obtain ⟨f, fd, F, hm⟩ := D.ex
  exact ⟨f, fd, ⟨fun vs H Q E z => absurd z (h vs H Q E), fun A outer s H args us vs Q E _ _ _ _ z => absurd z (h vs H Q E)⟩, hm, F.kp, F.bindsN bp⟩
theorem spR_no {T : Tbl} {W : Wd T} {n : Nat} {b : Option Nat} : ∀ vs H Q E, ¬ spR W n (fun _ _ => .no) b vs H Q E := fun vs H Q E ⟨_, _, _, _, _, _, _, _, h, _⟩ => h rfl
def semT (tbl : String → Option (Sem → List D → Option Nat → Rz)) : Nat → Sem
  | 0 => fun _ _ _ => .no
  | k + 1 => fun f args b => match tbl f with
    | some g => g (semT tbl k) args b
    | none => .no
/-- the law's own promise -/
def spL (K : PySem.W.Frag) : Sp := fun vs H Q _ => ∃ (a : Addr) (ns : List Int), vs = [.ref a] ∧ SqL K H a (ns.map V.int) ∧ ns.length ≤ 63 ∧ ∀ H', Q (.bl true) H'
theorem spL_in {K : PySem.W.Frag} {H : Hp} {a : Addr} {ns : List Int} (hl : ns.length ≤ 63) (hS : SqL K H a (ns.map V.int)) : spL K [.ref a] H (fun v _ => v = .bl true) fun _ _ _ => False := ⟨a, ns, rfl, hS, hl, fun _ => rfl⟩
theorem spL_spR {T : Tbl} {W : Wd T} {φ : List D → Option Nat → Rz} (h : ∀ ns : List Int, ns.length ≤ 63 → φ [.scr ns] none = .ok (.bl true) none) : ∀ vs H Q E, spL W.K vs H Q E → spR W 1 φ none vs H Q E := by
  rintro vs H Q E ⟨a, ns, rfl, hS, hl, q⟩
  refine callF (Same.refl H) (.cons (.scr hS) .nil) rfl (h ns hl) fun v F' H' x ⟨L, o, _, _⟩ => ?_
  cases o.shr rfl
  exact q H'
section
variable {T : Tbl} {W : Wd T}
def xsAug (i : Nat) (f : Int → Int → Int) (a : XP W) : XS W where
  t _ := tAug i a.t (ipI f)
  ev P env := RS.ofO ((getS env i).bind fun x => (a.evV env).bind fun y => match x, y with
    | .int i', .int j => setS P i (.int (f i' j)) env
    | _, _ => none)
  snd := fun P E env hn e F σ H L Dn hP r s => by
    cases h : ((getS env i).bind fun x => (a.evV env).bind fun y => match x, y with
      | .int i', .int j => setS P i (.int (f i' j)) env
      | _, _ => none) with
    | none => exact absurd (by rw [h]; rfl) hn
    | some e2 =>
      rw [h] at s
      obtain ⟨x, e1, h⟩ := Option.bind_eq_some_iff.mp h
      obtain ⟨y, e3, h⟩ := Option.bind_eq_some_iff.mp h
      split at h
      · obtain ⟨⟨h3, h4⟩, rfl⟩ := ite_some h
        obtain ⟨v, M, e4, o, _⟩ := slot_get r (getS_some e1)
        cases o.shr rfl
        refine ⟨_, e4, a.sV e3 e F σ H L _ r fun v F1 H1 x1 y1 => ?_⟩
        cases y1
        obtain ⟨L2, r2⟩ := (r.ext x1).set (i := i) (d := .int (f _ _)) (M := []) (.sh .int) (by simpa using r.nd) (fun a m => nomatch m) h3 fun p hm z => h4 (by rw [hP]; exact List.mem_map.mpr ⟨p, hm, z⟩)
        exact ⟨_, _, rfl, rfl, s.nx _ _ _ _ _ rfl r2⟩
      · cases h
def xChainI (f g : Int → Int → Bool) (a b c : XP W) : XP W := xChain (rI0 fun i j => .bl (f i j)) (rI0 fun i j => .bl (g i j)) (cmpD f) (cmpD g) (fun {x y d} e => by
  unfold cmpD at e
  split at e
  · cases e; exact o2_i fun _ => .bl
  · cases e) (fun {x y d} e => by
  unfold cmpD at e
  split at e
  · cases e; exact o2_i fun _ => .bl
  · cases e) a b c
end
end Py

namespace Py
open PySem L2
theorem pe_alt {X : Cx} {e : Expr} {t1 t2 : TE} (h1 : PE X e t1) (h2 : PE X e t2) : PE X e (fun σ H Q => t1 σ H Q ∨ t2 σ H Q) :=
  ⟨fun pins s σ H Q I h => h.elim (h1.run pins s σ H Q I) (h2.run pins s σ H Q I)⟩
theorem lookup_zip_none {m : String} : ∀ {ns : List String} {vs : List V}, pos m ns = none → ((ns.map so).zip vs).lookup (so m) = none
  | [], _, _ => by simp
  | n :: ns, [], _ => by simp
  | n :: ns, v :: vs, h => by
    have h : (if n = m then some 0 else (pos m ns).map (· + 1)) = none := h
    by_cases e : n = m
    · rw [if_pos e] at h; cases h
    · rw [if_neg e] at h
      have h : pos m ns = none := Option.map_eq_none_iff.mp h
      show (match so m == so n with | true => some v | false => _) = none
      have : (so m == so n) = false := by
        rw [Bool.eq_false_iff]
        intro z
        exact e (so_inj (eq_of_beq z)).symm
      rw [this]
      exact lookup_zip_none h
section
variable {T : Tbl} {W : Wd T}
/-- the text's method m at each class that has it -/
structure Mt (P : Program) (w : World) (K : PySem.W.Frag) (mg : Str → Option Value) (base : Heap) {T : Tbl} (W : Wd T) (k : Nat) (m : String) (n : Nat) (φ : Sem) (b : Option Nat) : Prop where
  ex : ∀ c nm, W.has c → T.res c m = some nm → ∃ g fd ps, Meth K (W.cA c) (so m) g ∧ FnOk P w K mg base (L2.CX P w) k g fd ps (spR W n (φ nm) b) ∧ Binds K fd ps []
def tMethD {T : Tbl} (W : Wd T) (φ : Sem) (m : String) (n : Nat) (b : Option Nat) (E : XK) (ta : TE) (t : TA) : TE := fun σ H Q => ta σ H fun x H1 => ∃ a c nm dx fs, x = .ref a ∧ H1 a = some (.ins (W.cA c) dx fs) ∧ W.has c ∧ T.res c m = some nm ∧ fs.lookup (so m) = none ∧
  t σ H1 fun vs H2 => spR W n (φ nm) b (x :: vs) H2 Q E
theorem passAt0 {X : Cx} (σ : St) : PassesAt (L2.CX X.prog X.w) X σ E0 := fun pins H s e s' I c => passE0 pins σ H s e s' I c
theorem px_methS {X : Cx} {E : St → XK} {k n : Nat} {m : String} {φ : Sem} {b : Option Nat} {o e : Expr} {es : List Expr} {ta : TE} {t : TA} {apos pos : Pos} {pl : PySem.Sem Bool} (M : Mt X.prog X.w X.K X.mg X.base W k m n φ b) (hx : ∀ σ, PassesAt (L2.CX X.prog X.w) X σ (E σ)) (hr : Room k X.A) (hK : W.K = X.K) (he : PE X o ta) (ha : PA X (e :: es) t)
    (hst : starEach (e :: es) X.env = (false, eval e X.env) :: starEach es X.env := by rfl) (hpl : (backTo pos (starEach es X.env)).any (·.1) = false := by rfl)
    (ht : eval (.Call (.Attribute o (so m) apos) (e :: es) [] pos) X.env = (do
      let ov ← eval o X.env
      standAt apos.atName
      let (f, first) ← holding [ov] (getMethod ov (so m) pl)
      callWith pos f first (backTo pos (starEach (e :: es) X.env)) (backToKw pos (keywordEach [] X.env))) := by rfl) :
    PE X (.Call (.Attribute o (so m) apos) (e :: es) [] pos) (fun σ H Q => tMethD W φ m n b (E σ) ta t σ H Q) := by
  refine ⟨fun pins s σ H Q I h => ?_⟩
  refine PySem.W.methodCall_KW (pl := pl) (thn (he.run pins s σ H _ I h) fun u s1 ⟨x, H1, I1, rx, a, c, nm, dx, fs, ex, ea, hc, hn, l, q⟩ => ?_) ht
  subst ex
  obtain rfl : u = Value.ref a := rx
  obtain ⟨g, fd, ps, hm, F, hb⟩ := M.ex c nm hc hn
  refine getmeth_ok I1 ea (hK ▸ W.cl c hc) hm l ?_
  refine PySem.W.callWith_K (first := [.ref a]) (h₀ := X.base) I.ok.mod.kin hm.kp (thn (ha.run pos pins s1 σ H1 _ I1 q) fun us s2 ⟨vs, H2, I2, r, q2⟩ => ⟨I2.kIn, ?_⟩) hst hpl
  exact run_fnS (E := E) (us := .ref a :: us) (vs := .ref a :: vs) F hr hb (hx σ) I2 (.cons rfl r) q2
theorem px_meth0S {X : Cx} {E : St → XK} {k n : Nat} {m : String} {φ : Sem} {b : Option Nat} {o : Expr} {ta : TE} {apos pos : Pos} {pl : PySem.Sem Bool} (M : Mt X.prog X.w X.K X.mg X.base W k m n φ b) (hx : ∀ σ, PassesAt (L2.CX X.prog X.w) X σ (E σ)) (hr : Room k X.A) (hK : W.K = X.K) (he : PE X o ta)
    (ht : eval (.Call (.Attribute o (so m) apos) [] [] pos) X.env = (do
      let ov ← eval o X.env
      standAt apos.atName
      let (f, first) ← holding [ov] (getMethod ov (so m) pl)
      callWith pos f first (backTo pos (starEach [] X.env)) (backToKw pos (keywordEach [] X.env))) := by rfl) :
    PE X (.Call (.Attribute o (so m) apos) [] [] pos) (fun σ H Q => tMethD W φ m n b (E σ) ta tNil σ H Q) := by
  refine ⟨fun pins s σ H Q I h => ?_⟩
  refine PySem.W.methodCall_KW (pl := pl) (thn (he.run pins s σ H _ I h) fun u s1 ⟨x, H1, I1, rx, a, c, nm, dx, fs, ex, ea, hc, hn, l, q⟩ => ?_) ht
  subst ex
  obtain rfl : u = Value.ref a := rx
  obtain ⟨g, fd, ps, hm, F, hb⟩ := M.ex c nm hc hn
  refine getmeth_ok I1 ea (hK ▸ W.cl c hc) hm l ?_
  exact PySem.W.callWith_K0 (first := [.ref a]) I1.kIn hm.kp (run_fnS (E := E) (us := [.ref a]) (vs := [.ref a]) F hr hb (hx σ) I1 (.cons rfl .nil) q)
theorem px_meth {X : Cx} {k n : Nat} {m : String} {φ : Sem} {b : Option Nat} {o e : Expr} {es : List Expr} {ta : TE} {t : TA} {apos pos : Pos} {pl : PySem.Sem Bool} (M : Mt X.prog X.w X.K X.mg X.base W k m n φ b) (hr : Room k X.A) (hK : W.K = X.K) (he : PE X o ta) (ha : PA X (e :: es) t)
    (hst : starEach (e :: es) X.env = (false, eval e X.env) :: starEach es X.env := by rfl) (hpl : (backTo pos (starEach es X.env)).any (·.1) = false := by rfl)
    (ht : eval (.Call (.Attribute o (so m) apos) (e :: es) [] pos) X.env = (do
      let ov ← eval o X.env
      standAt apos.atName
      let (f, first) ← holding [ov] (getMethod ov (so m) pl)
      callWith pos f first (backTo pos (starEach (e :: es) X.env)) (backToKw pos (keywordEach [] X.env))) := by rfl) :
    PE X (.Call (.Attribute o (so m) apos) (e :: es) [] pos) (tMethD W φ m n b E0 ta t) := px_methS (E := fun _ => E0) M passAt0 hr hK he ha hst hpl ht
theorem px_methX {X : Cx} {E : WX} {k n : Nat} {m : String} {φ : Sem} {b : Option Nat} {o e : Expr} {es : List Expr} {ta : TE} {t : TA} {apos pos : Pos} {pl : PySem.Sem Bool} (M : Mt X.prog X.w X.K X.mg X.base W k m n φ b) (tk : Takes X E) (hr : Room k X.A) (hK : W.K = X.K) (he : PE X o ta) (ha : PA X (e :: es) t)
    (hst : starEach (e :: es) X.env = (false, eval e X.env) :: starEach es X.env := by rfl) (hpl : (backTo pos (starEach es X.env)).any (·.1) = false := by rfl)
    (ht : eval (.Call (.Attribute o (so m) apos) (e :: es) [] pos) X.env = (do
      let ov ← eval o X.env
      standAt apos.atName
      let (f, first) ← holding [ov] (getMethod ov (so m) pl)
      callWith pos f first (backTo pos (starEach (e :: es) X.env)) (backToKw pos (keywordEach [] X.env))) := by rfl) :
    PE X (.Call (.Attribute o (so m) apos) (e :: es) [] pos) (fun σ H Q => tMethD W φ m n b (WE E σ) ta t σ H Q) := px_methS (E := fun σ => WE E σ) M (fun σ => L2.passAt tk σ) hr hK he ha hst hpl ht
theorem px_meth0 {X : Cx} {k n : Nat} {m : String} {φ : Sem} {b : Option Nat} {o : Expr} {ta : TE} {apos pos : Pos} {pl : PySem.Sem Bool} (M : Mt X.prog X.w X.K X.mg X.base W k m n φ b) (hr : Room k X.A) (hK : W.K = X.K) (he : PE X o ta)
    (ht : eval (.Call (.Attribute o (so m) apos) [] [] pos) X.env = (do
      let ov ← eval o X.env
      standAt apos.atName
      let (f, first) ← holding [ov] (getMethod ov (so m) pl)
      callWith pos f first (backTo pos (starEach [] X.env)) (backToKw pos (keywordEach [] X.env))) := by rfl) :
    PE X (.Call (.Attribute o (so m) apos) [] [] pos) (tMethD W φ m n b E0 ta tNil) := px_meth0S (E := fun _ => E0) M passAt0 hr hK he ht
theorem px_meth0X {X : Cx} {E : WX} {k n : Nat} {m : String} {φ : Sem} {b : Option Nat} {o : Expr} {ta : TE} {apos pos : Pos} {pl : PySem.Sem Bool} (M : Mt X.prog X.w X.K X.mg X.base W k m n φ b) (tk : Takes X E) (hr : Room k X.A) (hK : W.K = X.K) (he : PE X o ta)
    (ht : eval (.Call (.Attribute o (so m) apos) [] [] pos) X.env = (do
      let ov ← eval o X.env
      standAt apos.atName
      let (f, first) ← holding [ov] (getMethod ov (so m) pl)
      callWith pos f first (backTo pos (starEach [] X.env)) (backToKw pos (keywordEach [] X.env))) := by rfl) :
    PE X (.Call (.Attribute o (so m) apos) [] [] pos) (fun σ H Q => tMethD W φ m n b (WE E σ) ta tNil σ H Q) := px_meth0S (E := fun σ => WE E σ) M (fun σ => L2.passAt tk σ) hr hK he ht
/-- a method's answer at an object that is only read -/
def meth1 (T : Tbl) (φ : Sem) (m : String) (n : Nat) : List D → Rz
  | .ins c ns xs :: ds => match T.res c m with
    | some nm => if pos m ns = none ∧ ds.length + 1 = n then φ nm (.ins c ns xs :: ds) none else .no
    | none => .no
  | _ => .no
theorem meth1_ok {φ : Sem} {m : String} {n : Nat} {d : D} {ds : List D} (h : meth1 T φ m n (d :: ds) ≠ .no) : ∃ c ns xs nm, d = .ins c ns xs ∧ T.res c m = some nm ∧ pos m ns = none ∧ (d :: ds).length = n ∧ meth1 T φ m n (d :: ds) = φ nm (d :: ds) none := by
  cases d <;> first | (exact absurd rfl h) | skip
  rename_i c ns xs
  cases e : T.res c m with
  | none => exact absurd (by show (match T.res c m with | some nm => if pos m ns = none ∧ ds.length + 1 = n then φ nm (.ins c ns xs :: ds) none else Rz.no | none => .no) = .no; rw [e]) h
  | some nm =>
    have e2 : meth1 T φ m n (.ins c ns xs :: ds) = if pos m ns = none ∧ ds.length + 1 = n then φ nm (.ins c ns xs :: ds) none else Rz.no := by
      show (match T.res c m with | some nm => if pos m ns = none ∧ ds.length + 1 = n then φ nm (.ins c ns xs :: ds) none else Rz.no | none => .no) = _
      rw [e]
    by_cases hh : pos m ns = none ∧ ds.length + 1 = n
    · rw [if_pos hh] at e2
      exact ⟨c, ns, xs, nm, rfl, e, hh.1, hh.2, e2⟩
    · rw [if_neg hh] at e2
      exact absurd e2 h
theorem shr_ins {F : Hp} {c : String} {ns : List String} {xs : List D} {v : V} (h : Shr W F (.ins c ns xs) v) : ∃ a dx vs, v = .ref a ∧ F a = some (.ins (W.cA c) dx ((ns.map so).zip vs)) ∧ W.has c := by
  cases h with
  | ins ha hc _ _ => exact ⟨_, _, _, rfl, ha, hc⟩
/-- o.m(..), where nothing is changed -/
def methE (T : Tbl) (φ : Sem) (m : String) (n : Nat) (f : Option D) (fs : Option (List D)) (v : Option D) (vs : Option (List D)) : Option (Kd × D) := match f, fs with
  | some d, some ds => (meth1 T φ m n (d :: ds)).toF
  | _, _ => match v, vs with
    | some d, some ds => (meth1 T φ m n (d :: ds)).toV
    | _, _ => none
def xMeth (φ : Sem) (m : String) (n : Nat) (a : XP W) (as : XA W) : XP W where
  t := tMethD W φ m n none E0 a.t as.t
  ev env := methE T φ m n (a.evF env) (as.evF env) (a.evV env) (as.evV env)
  snd := fun {env k d} e => by
    have viewed : ∀ {d0 ds}, a.evV env = some d0 → as.evV env = some ds → (meth1 T φ m n (d0 :: ds)).toV = some (k, d) → AE W (tMethD W φ m n none E0 a.t as.t) env (rK W k d) := by
      intro d0 ds e1 e2 e
      obtain ⟨d2, b, h, hk⟩ := Rz.toV_ok e
      obtain ⟨c, ns, xs, nm, rfl, h1, h2, h3, h4⟩ := meth1_ok (T := T) (φ := φ) (m := m) (n := n) (d := d0) (ds := ds) (by rw [h]; exact fun z => nomatch z)
      rw [h4] at h
      refine fun e' F σ H L Q r q => a.sV e1 e' F σ H L _ r fun v F1 H1 x1 y1 => ?_
      obtain ⟨p, dx, vs, rfl, hp, hc⟩ := shr_ins y1
      refine ⟨p, c, nm, dx, _, rfl, hp, hc, h1, lookup_zip_none h2, as.sV e2 e' F1 σ H1 L _ (r.ext x1) fun ws F2 H2 x2 y2 => ?_⟩
      refine callV (x2.s) (.cons (y1.mono x2.h) y2) h3 h fun v H3 x3 y3 => q v F2 H3 ((x1.trans x2).trans x3) ?_
      rcases hk with ⟨hf, rfl, rfl⟩ | ⟨rfl, rfl⟩
      · rw [fz_isSh (isSh_flat hf)] at y3
        exact rO_sh (y3.flat hf)
      · exact y3
    unfold methE at e
    split at e
    · rename_i d0 ds e1 e2
      obtain ⟨rfl, b, h⟩ := Rz.toF_ok e
      obtain ⟨c, ns, xs, nm, rfl, h1, h2, h3, h4⟩ := meth1_ok (T := T) (φ := φ) (m := m) (n := n) (d := d0) (ds := ds) (by rw [h]; exact fun z => nomatch z)
      rw [h4] at h
      refine fun e' F σ H L Q r q => a.sF e1 e' F σ H L _ r fun v F1 H1 x1 y1 => ?_
      obtain ⟨p, dx, vs, rfl, hp, hc⟩ := shr_ins y1
      refine ⟨p, c, nm, dx, _, rfl, x1.s _ _ hp, hc, h1, lookup_zip_none h2, as.sF e2 e' F1 σ H1 L _ (r.ext x1) fun ws F2 H2 x2 y2 => ?_⟩
      exact callF x2.s (.cons (y1.mono x2.f) y2) h3 h fun v F3 H3 x3 y3 => q v F3 H3 ((x1.trans x2).trans x3) (rO_back (x1.trans x2).h y3)
    · split at e
      · exact viewed (by assumption) (by assumption) e
      · cases e
def mkR (r : Rz) : Option D := match r with
  | .ok .non (some d) => some d
  | _ => none
def mk1 (φ : Sem) (c ini : String) (n : Nat) (ds : List D) : Option D := if ds.length + 1 = n then mkR (φ ini (.oins c [] [] :: ds) (some 0)) else none
theorem mk1_ok {φ : Sem} {c ini : String} {n : Nat} {ds : List D} {d : D} (h : mk1 φ c ini n ds = some d) : (D.oins c [] [] :: ds).length = n ∧ φ ini (.oins c [] [] :: ds) (some 0) = .ok .non (some d) := by
  obtain ⟨h1, h2⟩ : ds.length + 1 = n ∧ mkR (φ ini (.oins c [] [] :: ds) (some 0)) = some d := by
    unfold mk1 at h
    split at h
    · exact ⟨by assumption, h⟩
    · cases h
  refine ⟨h1, ?_⟩
  unfold mkR at h2
  split at h2
  · cases h2; assumption
  · cases h2
theorem makeF {n : Nat} {φ : Sem} {c ini : String} {F H : Hp} {vs : List V} {ds : List D} {d : D} {Q : VK} {E : XK} (s : Same F H) (h : Shrs W F ds vs) (hc : W.has c) (hφ : mk1 φ c ini n ds = some d)
    (q : ∀ v F' H', Ext F H F' H' → rO W d F' H' H v → Q v H') (x dx : Addr) (hx : H x = none) (hd : H dx = none) (ne : dx ≠ x) :
    spR W n (φ ini) (some 0) (.ref x :: vs) (upd (upd H dx (.own x)) x (.ins (W.cA c) dx [])) (fun v H2 => v = .non ∧ Q (.ref x) H2) E := by
  obtain ⟨hl, hφ⟩ := mk1_ok hφ
  have hs : Same H (upd (upd H dx (.own x)) x (.ins (W.cA c) dx [])) := (same_new hd).trans (same_new (by rw [upd_ne ne.symm]; exact hx))
  refine ⟨F, .oins c [] [] :: ds, [x] ++ [], s.trans hs, .cons (.oins (vs := []) (by rw [upd_same]; rfl) hc rfl .nil) h.owns, by simp, fun a m => ?_, hl, ?_, fun d' bd e F' H' v M Mb p o ob nd k => ?_, fun x' bd e => ?_⟩
  · obtain rfl : a = x := by simpa using m
    exact s.free hx
  · rw [hφ]; exact fun z => nomatch z
  · rw [hφ] at e; cases e
    have hv : v = .non := by cases o with | sh y => cases y; rfl
    have hM : M = [] := o.shNil rfl
    subst hM
    obtain ⟨w, hw, ow⟩ := ob
    cases hw
    refine ⟨hv, q _ F' H' ⟨p.f, p.s, fun a o ha => ?_, fun a o ha => ?_⟩ ⟨Mb, ow, by simpa using nd, fun a m => ⟨?_, (k a (by simpa using m)).1⟩⟩⟩
    · refine p.h a o (fun z => ?_) (hs _ _ ha)
      obtain rfl : a = x := by simpa using z
      rw [hx] at ha; cases ha
    · rcases p.n a o ha with z | z | z
      · exact .inl z
      · exact .inr (hs.free z)
      · obtain rfl : a = x := by simpa using z
        exact .inr hx
    · rcases (k a (by simpa using m)).2 with z | z
      · obtain rfl : a = x := by simpa using z
        exact hx
      · exact hs.free z
  · rw [hφ] at e; cases e
theorem makeV {n : Nat} {φ : Sem} {c ini : String} {F H : Hp} {vs : List V} {ds : List D} {d : D} {Q : VK} {E : XK} (s : Same F H) (h : Shrs W H ds vs) (hc : W.has c) (hφ : mk1 φ c ini n ds = some d)
    (q : ∀ v H', Ext F H F H' → Shr W H' (fz d) v → Q v H') (x dx : Addr) (hx : H x = none) (hd : H dx = none) (ne : dx ≠ x) :
    spR W n (φ ini) (some 0) (.ref x :: vs) (upd (upd H dx (.own x)) x (.ins (W.cA c) dx [])) (fun v H2 => v = .non ∧ Q (.ref x) H2) E :=
  makeF (Same.refl H) h hc hφ (fun v F' H' x ⟨L, o, _, _⟩ => q v H' ⟨Same.refl _, s.trans (x.f.trans x.s), x.h, fun _ _ z => .inl z⟩ (o.view x.s fun _ _ _ z => z)) x dx hx hd ne
def makeE (φ : Sem) (c ini : String) (n : Nat) (dds : List D) (f v : Option (List D)) : Option (Kd × D) := match f with
  | some ds => (mk1 φ c ini n (ds ++ dds)).map (Prod.mk .fr)
  | none => match v with
    | some ds => (mk1 φ c ini n (ds ++ dds)).map fun d => (.vw, fz d)
    | none => none
/-- C(..): the defaults dds behind -/
def xMake (φ : Sem) (c ini : String) (n : Nat) (as : XA W) (dds : List D) (dvs : List V) (hd : ∀ F, Shrs W F dds dvs) : XP W where
  t := fun σ H Q => W.has c → tMake (W.cA c) (spR W n (φ ini) (some 0)) dvs E0 as.t σ H Q
  ev env := makeE φ c ini n dds (as.evF env) (as.evV env)
  snd := fun {env k d} e e' F σ H L Q r q hc => by
    unfold makeE at e
    split at e
    · rename_i ds e1
      obtain ⟨d2, h, e⟩ := Option.map_eq_some_iff.mp e
      cases e
      exact as.sF e1 e' F σ H L _ r fun vs F1 H1 x1 y1 x dx hx hdx ne => makeF x1.s (y1.append (hd F1)) hc h (fun v F2 H2 x2 y2 => q v F2 H2 (x1.trans x2) (rO_back x1.h y2)) x dx hx hdx ne
    · split at e
      · rename_i ds e2
        obtain ⟨d2, h, e⟩ := Option.map_eq_some_iff.mp e
        cases e
        exact as.sV e2 e' F σ H L _ r fun vs F1 H1 x1 y1 x dx hx hdx ne => makeV x1.s (Shrs.append y1 (hd H1)) hc h (fun v H2 x2 y2 => q v F1 H2 (x1.trans x2) y2) x dx hx hdx ne
      · cases e
/-- the class c of the text, with its __init__ -/
structure MkAt (P : Program) (w : World) (K : PySem.W.Frag) (mg : Str → Option Value) (base : Heap) (k : Nat) (x : Str) (C : Addr) (n : Nat) (sp : Sp) : Prop where
  ex : ∃ f fd ps, Mk K C f ∧ FnOk P w K mg base (L2.CX P w) k f fd ps sp ∧ mg x = some (.ref C) ∧ Binds K fd ps [] ∧ ps.length = n
theorem px_make {X : Cx} {k n : Nat} {x : Str} {c : String} {sp : Sp} {e : Expr} {es : List Expr} {p pos : Pos} {t : TA} (M : MkAt X.prog X.w X.K X.mg X.base k x (W.cA c) n sp) (hc : W.has c) (hr : Room (k + 1) X.A) (hg : Gl X x)
    (ha : PA X (e :: es) t) (hdb : (x == ("__debug__" : Str)) = false := by decide) (he : starEach (e :: es) X.env = (false, eval e X.env) :: starEach es X.env := by rfl) (hpl : (backTo pos (starEach es X.env)).any (·.1) = false := by rfl) :
    PE X (.Call (.Name x p) (e :: es) [] pos) (fun σ H Q => W.has c → tMake (W.cA c) sp [] E0 t σ H Q) := by
  obtain ⟨f, fd, ps, M, F, hm, hb, _⟩ := M.ex
  exact pe_imp hc (pe_make M F hr hg hm hb .nil passE0 ha hdb he hpl)
theorem px_make0 {X : Cx} {k n : Nat} {x : Str} {c : String} {sp : Sp} {p pos : Pos} (M : MkAt X.prog X.w X.K X.mg X.base k x (W.cA c) n sp) (hc : W.has c) (hr : Room (k + 1) X.A) (hg : Gl X x)
    (hdb : (x == ("__debug__" : Str)) = false := by decide) :
    PE X (.Call (.Name x p) [] [] pos) (fun σ H Q => W.has c → tMake (W.cA c) sp [] E0 tNil σ H Q) := by
  obtain ⟨f, fd, ps, M, F, hm, hb, _⟩ := M.ex
  exact pe_imp hc (pe_make0 M F hr hg hm hb .nil passE0 hdb)
def rm0 (r : Rz) (e : Py.Env) : RM := match r with
  | .ok d _ => .ok d e
  | .exn x _ => .exn x e
  | .no => .no
def rm1 (r : Rz) (o : Option D) (i : Nat) (st : List Pst) (e : Py.Env) : RM := match r, o with
  | .ok d (some n), some d0 => .ok d (e.set i (some (d0.putAt st n)))
  | .exn x (some n), some d0 => .exn x (e.set i (some (d0.putAt st n)))
  | _, _ => .no
def meth2 (T : Tbl) (φ : Sem) (m : String) (n : Nat) : List D → Rz
  | .oins c ns xs :: ds => match T.res c m with
    | some nm => if pos m ns = none ∧ ds.length + 1 = n then φ nm (.oins c ns xs :: ds) (some 0) else .no
    | none => .no
  | _ => .no
theorem meth2_ok {φ : Sem} {m : String} {n : Nat} {d : D} {ds : List D} (h : meth2 T φ m n (d :: ds) ≠ .no) : ∃ c ns xs nm, d = .oins c ns xs ∧ T.res c m = some nm ∧ pos m ns = none ∧ (d :: ds).length = n ∧ meth2 T φ m n (d :: ds) = φ nm (d :: ds) (some 0) := by
  cases d <;> first | (exact absurd rfl h) | skip
  rename_i c ns xs
  cases e : T.res c m with
  | none => exact absurd (by show (match T.res c m with | some nm => if pos m ns = none ∧ ds.length + 1 = n then φ nm (.oins c ns xs :: ds) (some 0) else Rz.no | none => .no) = .no; rw [e]) h
  | some nm =>
    have e2 : meth2 T φ m n (.oins c ns xs :: ds) = if pos m ns = none ∧ ds.length + 1 = n then φ nm (.oins c ns xs :: ds) (some 0) else Rz.no := by
      show (match T.res c m with | some nm => if pos m ns = none ∧ ds.length + 1 = n then φ nm (.oins c ns xs :: ds) (some 0) else Rz.no | none => .no) = _
      rw [e]
    by_cases hh : pos m ns = none ∧ ds.length + 1 = n
    · rw [if_pos hh] at e2
      exact ⟨c, ns, xs, nm, rfl, e, hh.1, hh.2, e2⟩
    · rw [if_neg hh] at e2
      exact absurd e2 h
/-- a call that borrows what stands at a place (its i-th argument), the others shared -/
theorem call_put {φ : List D → Option Nat → Rz} {n : Nat} {e : Ent} {env : Py.Env} {F H : Hp} {σ : St} {L : List Addr} {i j : Nat} {st : List Pst} {nd d0 : D} {v0 vn : V} {as bs : List D} {vs ws : List V} {Q : VK} {E : XK}
    (rl : Rel W e env F σ H L) (h0 : env[i]? = some (some d0)) (h1 : d0.at st = some nd) (hs : σ[i]? = some (some v0)) (hp : VPath H v0 st vn) (os : Shrs W F as vs) (ot : Shrs W F bs ws) (hj : as.length = j) (hl : (as ++ nd :: bs).length = n) (hn : φ (as ++ nd :: bs) (some j) ≠ .no)
    (c : ∀ d n' v F' H' L' M, φ (as ++ nd :: bs) (some j) = .ok d (some n') → Rel W e (env.set i (some (d0.putAt st n'))) F' σ H' L' → Own W F' H' d v M → (M ++ L').Nodup → (∀ a ∈ M, F' a = none ∧ (a ∈ e.L0 ∨ e.H0 a = none)) → Q v H')
    (cx : ∀ x n' F' H' L' C dd, φ (as ++ nd :: bs) (some j) = .exn x (some n') → Rel W e (env.set i (some (d0.putAt st n'))) F' σ H' L' → IsExn W F' x C dd → E C dd H')
    (hok : ∀ d, φ (as ++ nd :: bs) (some j) ≠ .ok d none) (hex : ∀ x, φ (as ++ nd :: bs) (some j) ≠ .exn x none) : spR W n φ (some j) (vs ++ vn :: ws) H Q E := by
  obtain ⟨v0', vn', Ln, Lr, e1, p2, o, ndL, mem, put⟩ := rl.focus h0 h1
  rw [hs] at e1; cases e1
  cases hp.det p2
  rw [List.nodup_append] at ndL
  obtain ⟨n1, n2, n3⟩ := ndL
  have hO : Owns W F H (as ++ nd :: bs) (vs ++ vn :: ws) ([] ++ (Ln ++ [])) := Owns.append os.owns (.cons o ot.owns)
  rw [List.nil_append, List.append_nil] at hO
  have hjv : (vs ++ vn :: ws)[j]? = some vn := by
    rw [← hj, os.length, List.getElem?_append_right (Nat.le_refl _), Nat.sub_self]; rfl
  have org : ∀ a, (a ∈ Ln ∨ H a = none) → a ∉ Lr ∧ (a ∈ e.L0 ∨ e.H0 a = none) := fun a h => by
    rcases h with z | z
    · exact ⟨fun y => n3 a z a y rfl, rl.ln a ((mem a).mp (.inl z))⟩
    · refine ⟨fun y => ?_, rl.h0 z⟩
      obtain ⟨o, ho⟩ := rl.slots.lives a ((mem a).mp (.inr y))
      rw [z] at ho; cases ho
  have back : ∀ {F' H' n' Mb}, Post F H Ln F' H' → Own W F' H' n' vn Mb → Mb.Nodup → (∀ a ∈ Mb, F' a = none ∧ (a ∈ Ln ∨ H a = none)) → ∃ L', Rel W e (env.set i (some (d0.putAt st n'))) F' σ H' L' ∧ ∀ a ∈ L', a ∈ Mb ∨ a ∈ Lr := by
    intro F' H' n' Mb p ow nb k
    refine put F' H' n' Mb p.f p.s p.h (fun a o q => (p.n a o q).elim .inl fun z => z.elim (fun z => .inr (.inl (.inl z))) fun z => .inr (.inr z)) ow ?_ fun a ha => ⟨(k a ha).1, .inr (org a (k a ha).2).2⟩
    rw [List.nodup_append]
    exact ⟨nb, n2, fun a ha b hb z => (org a (k a ha).2).1 (z ▸ hb)⟩
  refine ⟨F, as ++ nd :: bs, Ln, rl.sF, hO, n1, fun a m => rl.dj a ((mem a).mp (.inl m)), hl, hn, fun d bd eq F' H' v M Mb p o' ob nd' k => ?_, fun x bd eq F' H' C dd Mb p ie ob nb k => ?_⟩
  · cases bd with
    | none => exact absurd eq (hok d)
    | some n' =>
      obtain ⟨w, hw, ow⟩ := ob
      rw [hjv] at hw; cases hw
      rw [List.nodup_append] at nd'
      obtain ⟨m1, m2, m3⟩ := nd'
      obtain ⟨L', r', inL⟩ := back p ow m2 fun a ha => k a (List.mem_append_right _ ha)
      refine c d n' v F' H' L' M eq r' o' ?_ fun a ha => ⟨(k a (List.mem_append_left _ ha)).1, (org a (k a (List.mem_append_left _ ha)).2).2⟩
      rw [List.nodup_append]
      refine ⟨m1, r'.nd, fun a ha b hb z => ?_⟩
      subst z
      rcases inL a hb with y | y
      · exact m3 a ha a y rfl
      · exact (org a (k a (List.mem_append_left _ ha)).2).1 y
  · cases bd with
    | none => exact absurd eq (hex x)
    | some n' =>
      obtain ⟨w, hw, ow⟩ := ob
      rw [hjv] at hw; cases hw
      obtain ⟨L', r', inL⟩ := back p ow nb k
      exact cx x n' F' H' L' C dd eq r' ie
/-- a call over shared data that may raise -/
theorem callX {n : Nat} {φ : List D → Option Nat → Rz} {F H : Hp} {vs : List V} {args : List D} {Q : VK} {E : XK} (s : Same F H) (h : Shrs W F args vs) (hl : args.length = n) (hn : φ args none ≠ .no)
    (q : ∀ d b v F' H', φ args none = .ok d b → Ext F H F' H' → rO W d F' H' H v → Q v H') (qx : ∀ x b F' H' C dd, φ args none = .exn x b → Ext F H F' H' → IsExn W F' x C dd → E C dd H') : spR W n φ none vs H Q E := by
  refine ⟨F, args, [], s, h.owns, .nil, (fun a m => nomatch m), hl, hn, fun d' bd e F' H' v M Mb p o ob nd k => ?_, fun x bd e F' H' C dd Mb p ie ob nb k => ?_⟩
  · have ob : Mb = [] := ob
    subst ob
    rw [List.append_nil] at nd k
    exact q d' bd v F' H' e p.ext ⟨M, o, nd, fun a m => ⟨(k a m).2.elim (fun z => nomatch z) id, (k a m).1⟩⟩
  · exact qx x bd F' H' C dd e p.ext ie
def methM (T : Tbl) (φ : Sem) (m : String) (n i : Nat) (q : Option (List Pst × D)) (fs : Option (List D)) (env : Py.Env) : RM := match q, fs with
  | some (st, nd), some ds => if isSh nd = true then rm0 (meth1 T φ m n (nd :: ds)) env else rm1 (meth2 T φ m n (nd :: ds)) (getS env i) i st env
  | _, _ => .no
/-- p.m(..) -/
def xmMeth (φ : Sem) (m : String) (n : Nat) (p : XPl W) (as : XA W) : XM W where
  t E := fun σ H Q => tMethD W φ m n none (WE E σ) p.t as.t σ H Q ∨ tMethD W φ m n (some 0) (WE E σ) p.t as.t σ H Q
  ev _ env := methM T φ m n p.root (p.ev env) (as.evF env) env
  snd := fun P E env hn e F σ H L Q hP r c cx => by
    match e1 : p.ev env, e2 : as.evF env, hn, c, cx with
    | none, _, hn, _, _ => exact absurd rfl hn
    | some _, none, hn, _, _ => exact absurd rfl hn
    | some (st, nd), some ds, hn, c, cx =>
      obtain ⟨d0, h0, h1⟩ := p.at_ e1
      obtain ⟨v0, _, _, _, hs, _⟩ := r.focus h0 h1
      unfold methM at hn c cx
      dsimp only at hn c cx
      by_cases hsh : isSh nd = true
      · rw [if_pos hsh] at hn c cx
        have hm : meth1 T φ m n (nd :: ds) ≠ .no := fun z => hn (by rw [z]; rfl)
        obtain ⟨cn, ns, xs, nm, rfl, h2, h3, h4, h5⟩ := meth1_ok hm
        rw [h5] at hn c cx hm
        refine .inl (p.loc e1 e F σ H L v0 _ r hs fun v F1 H1 x1 p1 => ?_)
        have r1 := r.ext x1
        obtain ⟨v0', vn, Ln, Lr, e5, p2, o, _⟩ := r1.focus h0 h1
        rw [hs] at e5; cases e5
        cases p1.det p2
        have sh := o.shr hsh
        obtain ⟨a, dx, vs, rfl, ha, hc⟩ := shr_ins sh
        refine ⟨a, cn, nm, dx, _, rfl, r1.sF _ _ ha, hc, h2, lookup_zip_none h3, as.sF e2 e F1 σ H1 L _ r1 fun ws F2 H2 x2 y2 => ?_⟩
        refine callX x2.s (.cons (sh.mono x2.f) y2) h4 hm (fun d b v F3 H3 eq x3 ⟨M, o3, nd3, k3⟩ => ?_) fun x b F3 H3 C dd eq x3 ie => ?_
        · rw [eq] at c
          have r2 := r1.ext x2
          exact c d env v F3 H3 L M rfl (r2.ext x3) o3 (nodup_new (H := H2) r2.nd nd3 r2.slots.lives fun a m => (k3 a m).1) fun a m => ⟨(k3 a m).2, r2.h0 (k3 a m).1⟩
        · rw [eq] at cx
          exact cx x env F3 H3 L C dd rfl ((r1.ext x2).ext x3) ie
      · rw [if_neg hsh] at hn c cx
        have hm : meth2 T φ m n (nd :: ds) ≠ .no := fun z => hn (by rw [z]; rfl)
        obtain ⟨cn, ns, xs, nm, rfl, h2, h3, h4, h5⟩ := meth2_ok hm
        rw [h5] at hn c cx hm
        have hg : getS env p.root = some d0 := by unfold getS; rw [h0]; rfl
        rw [hg] at hn c cx
        refine .inr (p.loc e1 e F σ H L v0 _ r hs fun v F1 H1 x1 p1 => ?_)
        have r1 := r.ext x1
        obtain ⟨v0', vn, Ln, Lr, e5, p2, o, _⟩ := r1.focus h0 h1
        rw [hs] at e5; cases e5
        cases p1.det p2
        cases o with
        | sh y => cases y
        | oins ha hc hl os =>
          refine ⟨_, cn, nm, _, _, rfl, ha, hc, h2, lookup_zip_none h3, as.sF e2 e F1 σ H1 L _ r1 fun ws F2 H2 x2 y2 => ?_⟩
          refine call_put (as := []) (vs := []) (r1.ext x2) h0 h1 hs (p1.mono x2.h) .nil y2 rfl h4 hm (fun d n' v F3 H3 L3 M eq r3 o3 nd3 k3 => ?_) (fun x n' F3 H3 L3 C dd eq r3 ie => ?_) (fun d z => ?_) fun x z => ?_
          · have eq : φ nm (.oins cn ns xs :: ds) (some 0) = .ok d (some n') := eq
            rw [eq] at c
            exact c d _ v F3 H3 L3 M rfl r3 o3 nd3 k3
          · have eq : φ nm (.oins cn ns xs :: ds) (some 0) = .exn x (some n') := eq
            rw [eq] at cx
            exact cx x _ F3 H3 L3 C dd rfl r3 ie
          · have z : φ nm (.oins cn ns xs :: ds) (some 0) = .ok d none := z
            rw [z] at hn
            exact hn rfl
          · have z : φ nm (.oins cn ns xs :: ds) (some 0) = .exn x none := z
            rw [z] at hn
            exact hn rfl
def setF (f : String) (d : D) : List String → List D → List String × List D
  | n :: ns, x :: xs => if n = f then (n :: ns, d :: xs) else ((n :: (setF f d ns xs).1), x :: (setF f d ns xs).2)
  | _, _ => ([f], [d])
def setFD (T : Tbl) (f : String) (n : D) (ds : List D) : Option (D × D) := match n, ds with
  | .oins c ns xs, [d] => if T.fOk c f = true ∧ ns.length < 1000 then some (.oins c (setF f d ns xs).1 (setF f d ns xs).2, .non) else none
  | _, _ => none
def rSetF {T : Tbl} (W : Wd T) (f : Str) : V → List V → Hp → VK → Prop := fun x ys H Q => ∃ a C dx fs y, x = .ref a ∧ ys = [y] ∧ H a = some (.ins C dx fs) ∧ Cls W.K C ∧ NoAttr W.K C f ∧ fs.length < 1000 ∧ Q .non (upd H a (.ins C dx (putF f y fs)))
theorem mop_at {F H : Hp} {a : Addr} {L : List Addr} {Ms : List Addr} {n' d : D} {o : HO} {M' L2 : List Addr} {v' : V} {Q : VK} (s : Same F H) (nd : (Ms ++ (a :: L)).Nodup) (kF : ∀ b ∈ Ms ++ (a :: L), F b = none)
    (hn : a ∉ L2 → Own W F (upd H a o) n' (.ref a) (a :: L2)) (od : Own W F H d v' M') (n2 : (M' ++ L2).Nodup) (sub : ∀ b ∈ M' ++ L2, b ∈ L ∨ b ∈ Ms)
    (q : ∀ F' H' v' Ln' M', Same F F' → Same F' H' → (∀ b o, b ∉ a :: L → H b = some o → H' b = some o) → (∀ b o, F' b = some o → F b = some o ∨ H b = none) → Own W F' H' n' (.ref a) Ln' → Own W F' H' d v' M' → (M' ++ Ln').Nodup →
      (∀ b ∈ M' ++ Ln', F' b = none ∧ (b ∈ a :: L ∨ b ∈ Ms ∨ H b = none)) → Q v' H') : Q v' (upd H a o) := by
  rw [List.nodup_append] at nd
  obtain ⟨n3, n4, n5⟩ := nd
  rw [List.nodup_cons] at n4
  have na : ∀ b ∈ M' ++ L2, b ≠ a := fun b hb z => by
    subst z
    rcases sub _ hb with y | y
    · exact n4.1 y
    · exact n5 _ y _ (List.mem_cons_self ..) rfl
  have Fa : F a = none := kF a (List.mem_append_right _ (List.mem_cons_self ..))
  have nL : a ∉ L2 := fun z => na a (List.mem_append_right _ z) rfl
  refine q F (upd H a o) v' (a :: L2) M' (Same.refl _) (same_upd s Fa) (fun b u hb hu => ?_) (fun b u hu => .inl hu) (hn nL) (own_upd od fun z => na a (List.mem_append_left _ z) rfl) ?_ (fun b hb => ?_)
  · rw [upd_ne (fun z => hb (by rw [z]; exact List.mem_cons_self ..))]; exact hu
  · rw [List.nodup_append] at n2 ⊢
    refine ⟨n2.1, List.nodup_cons.mpr ⟨fun z => na a (List.mem_append_right _ z) rfl, n2.2.1⟩, fun b hb c hc => ?_⟩
    rcases List.mem_cons.mp hc with z | z
    · rw [z]; exact na b (List.mem_append_left _ hb)
    · exact n2.2.2 b hb c z
  · rcases List.mem_append.mp hb with z | z
    · have := sub b (List.mem_append_left _ z)
      refine ⟨kF b ?_, ?_⟩
      · rcases this with y | y
        · exact List.mem_append_right _ (List.mem_cons_of_mem _ y)
        · exact List.mem_append_left _ y
      · rcases this with y | y
        · exact .inl (List.mem_cons_of_mem _ y)
        · exact .inr (.inl y)
    · rcases List.mem_cons.mp z with z | z
      · subst z; exact ⟨Fa, .inl (List.mem_cons_self ..)⟩
      · have := sub b (List.mem_append_right _ z)
        refine ⟨kF b ?_, ?_⟩
        · rcases this with y | y
          · exact List.mem_append_right _ (List.mem_cons_of_mem _ y)
          · exact List.mem_append_left _ y
        · rcases this with y | y
          · exact .inl (List.mem_cons_of_mem _ y)
          · exact .inr (.inl y)
theorem setF_owns {F H : Hp} {f : String} {d : D} {y : V} {M : List Addr} (o : Own W F H d y M) : ∀ {ns : List String} {xs : List D} {vs : List V} {L : List Addr}, Owns W F H xs vs L → ns.length = vs.length → (M ++ L).Nodup →
    ∃ vs' L', putF (so f) y ((ns.map so).zip vs) = (((setF f d ns xs).1).map so).zip vs' ∧ (setF f d ns xs).1.length = vs'.length ∧ Owns W F H (setF f d ns xs).2 vs' L' ∧ (∀ a ∈ L', a ∈ L ∨ a ∈ M) ∧ L'.Nodup
  | [], [], [], _, .nil, _, nd => ⟨[y], M ++ [], rfl, rfl, .cons o .nil, fun a m => .inr (by simpa using m), by simpa using nd⟩
  | n :: ns, x :: xs, v :: vs, _, .cons (L := L1) (M := L2) h t, hl, nd => by
    rw [List.nodup_append] at nd
    obtain ⟨n1, n2, n3⟩ := nd
    rw [List.nodup_append] at n2
    obtain ⟨p1, p2, p3⟩ := n2
    by_cases e : n = f
    · refine ⟨y :: vs, M ++ L2, ?_, ?_, ?_, fun a m => ?_, ?_⟩
      · subst e
        show (if so n = so n then (so n, y) :: (ns.map so).zip vs else _) = ((if n = n then (n :: ns, d :: xs) else ((n :: (setF n d ns xs).1), x :: (setF n d ns xs).2)).1.map so).zip (y :: vs)
        rw [if_pos rfl, if_pos rfl]; rfl
      · show ((if n = f then (n :: ns, d :: xs) else ((n :: (setF f d ns xs).1), x :: (setF f d ns xs).2)).1).length = _
        rw [if_pos e]; simpa using hl
      · show Owns W F H ((if n = f then (n :: ns, d :: xs) else ((n :: (setF f d ns xs).1), x :: (setF f d ns xs).2)).2) _ _
        rw [if_pos e]; exact .cons o t
      · rcases List.mem_append.mp m with m | m
        · exact .inr m
        · exact .inl (List.mem_append_right _ m)
      · rw [List.nodup_append]
        exact ⟨n1, p2, fun a ha b hb => n3 a ha b (List.mem_append_right _ hb)⟩
    · obtain ⟨vs', L', e1, e2, e3, e4, e5⟩ := setF_owns (f := f) o t (ns := ns) (by simpa using hl) (by
        rw [List.nodup_append]
        exact ⟨n1, p2, fun a ha b hb => n3 a ha b (List.mem_append_right _ hb)⟩)
      refine ⟨v :: vs', L1 ++ L', ?_, ?_, ?_, fun a m => ?_, ?_⟩
      · show (if so n = so f then (so n, y) :: (ns.map so).zip vs else (so n, v) :: putF (so f) y ((ns.map so).zip vs)) = ((if n = f then (n :: ns, d :: xs) else ((n :: (setF f d ns xs).1), x :: (setF f d ns xs).2)).1.map so).zip (v :: vs')
        rw [if_neg (fun z => e (so_inj z)), if_neg e, e1]; rfl
      · show ((if n = f then (n :: ns, d :: xs) else ((n :: (setF f d ns xs).1), x :: (setF f d ns xs).2)).1).length = _
        rw [if_neg e]; simpa using e2
      · show Owns W F H ((if n = f then (n :: ns, d :: xs) else ((n :: (setF f d ns xs).1), x :: (setF f d ns xs).2)).2) _ _
        rw [if_neg e]; exact .cons h e3
      · rcases List.mem_append.mp m with m | m
        · exact .inl (List.mem_append_left _ m)
        · exact (e4 a m).imp (List.mem_append_right _) id
      · rw [List.nodup_append]
        refine ⟨p1, e5, fun a ha b hb z => ?_⟩
        subst z
        rcases e4 a hb with q | q
        · exact p3 a ha a q rfl
        · exact n3 a q a (List.mem_append_left _ ha) rfl
  | [], _ :: _, _, _, .cons _ _, hl, _ => by simp at hl
  | _ :: _, [], _, _, .nil, hl, _ => by simp at hl
theorem mop_setF {f : String} : Mop W (rSetF W (so f)) (setFD T f) := by
  intro n ds n' d hf F H vn Ln vs Ms Q s o os nd kF q
  unfold setFD at hf
  split at hf
  · rename_i c ns xs d0
    obtain ⟨⟨hf1, hf2⟩, e⟩ := ite_some hf
    cases e
    obtain ⟨u, rfl, o2⟩ := os.one
    cases o with
    | sh y => cases y
    | @oins a c dx ns xs vs L ha hc hl hs =>
      obtain ⟨vs', L', e1, e2, e3, e4, e5⟩ := setF_owns (f := f) o2 hs hl (nd_tail nd)
      refine ⟨a, _, dx, _, u, rfl, rfl, ha, W.cl c hc, W.na c f hc hf1, by simp; omega, ?_⟩
      refine mop_at (L2 := L') (M' := []) (d := .non) s nd kF (fun na => .oins (by rw [upd_same, e1]) hc e2 (owns_upd e3 na)) (.sh .non) (by simpa using e5) (fun b hb => e4 b (by simpa using hb)) q
  · cases hf
def fldK (T : Tbl) {W : Wd T} (p : XPl W) (f : String) (d : D) (e : Py.Env) : RS := RS.ofO ((p.ev e).bind fun q => (setFD T f q.2 [d]).bind fun z => (getS e p.root).map fun d0 => e.set p.root (some (d0.putAt q.1 z.1)))
def xsFld (p : XPl W) (f : String) (m : XM W) : XS W where
  t E := sFld W.K p.t (m.t E) (so f)
  ev P env := (m.ev P env).thenS (fldK T p f)
  snd := fun P E env hn e F σ H L Dn hP r s => by
    have hm : m.ev P env ≠ .no := fun z => hn (by rw [z]; rfl)
    refine (m.snd P E env).run hm hP r s (fun x e1 h => by rw [h]; rfl) fun d env' v F' H' L' M h r' o nd kk => ?_
    rw [h] at hn s
    have hn : fldK T p f d env' ≠ .no := hn
    have s : Sat W e E (ends (fldK T p f d env')) Dn := s
    unfold fldK at hn s
    cases h2 : ((p.ev env').bind fun q => (setFD T f q.2 [d]).bind fun z => (getS env' p.root).map fun d0 => env'.set p.root (some (d0.putAt q.1 z.1))) with
    | none => rw [h2] at hn; exact absurd rfl hn
    | some e2 =>
      rw [h2] at s
      obtain ⟨⟨st, n⟩, e1, h3⟩ := Option.bind_eq_some_iff.mp h2
      obtain ⟨⟨n', d'⟩, e3, h4⟩ := Option.bind_eq_some_iff.mp h3
      obtain ⟨d0', e4, h5⟩ := Option.map_eq_some_iff.mp h4
      subst h5
      obtain ⟨d0, h0, h1⟩ := p.at_ e1
      rw [getS_some e4] at h0
      cases h0
      obtain ⟨v0, _, _, _, hs, _⟩ := r'.focus (getS_some e4) h1
      refine p.loc e1 e F' σ H' L' v0 _ r' hs fun vn F1 H1 x1 p1 => ?_
      rw [List.nodup_append] at nd
      obtain ⟨nd1, nd2, nd3⟩ := nd
      have go : rSetF W (so f) vn [v] H1 (fun _ H => Dn.nx σ H) := by
        refine am_mop mop_setF (r'.ext x1) (getS_some e4) h1 hs p1 e3 (Ms := M ++ []) (.cons (o.frame x1.f fun a _ o q => x1.h _ _ q) .nil) (by simpa using nd1) (fun a ha => ?_) fun v2 F2 H2 L2 M2 r2 o2 n2 k2 => s.nx _ _ _ _ _ rfl r2
        have ha : a ∈ M := by simpa using ha
        refine ⟨fun z => nd3 a ha a z rfl, ?_, (kk a ha).2⟩
        obtain ⟨u, hu⟩ := o.lives a ha
        cases z : F1 a with
        | none => rfl
        | some w =>
          rcases x1.n a w z with y | y
          · rw [(kk a ha).1] at y; cases y
          · rw [hu] at y; cases y
      obtain ⟨a, C, dx, fs, y, ex, ey, ha, c1, c2, c3, q⟩ := go
      cases ey
      exact ⟨a, C, dx, fs, ex, ha, c1, c2, c3, q⟩
structure MethAt (K : PySem.W.Frag) (C : Addr) (m : String) (x qual : Str) (st : Stmt) (dvs : List V) (kws : List (Str × V)) : Prop where
  ex : ∃ g fd, FunD K x qual (defArgs st) (defBody st) (defScope st) dvs kws g fd ∧ Meth K C (so m) g
structure MdOk (P : Program) (w : World) (K : PySem.W.Frag) (mg : Str → Option Value) (base : Heap) (k : Nat) (C : Addr) (m : String) (n : Nat) (sp : Sp) : Prop where
  ex : ∃ g fd ps, Meth K C (so m) g ∧ FnOk P w K mg base (L2.CX P w) k g fd ps sp ∧ Binds K fd ps [] ∧ ps.length = n
section
variable {P : Program} {w : World} {K : PySem.W.Frag} {mg : Str → Option Value} {base : Heap}
theorem md_of {C : Addr} {m : String} {x qual : Str} {st : Stmt} {N ps : List Str} {n k : Nat} {sp : Sp} (D : MethAt K C m x qual st [] []) (S : FnScope N ps (defScope st)) (bp : BindsP x qual st ps) (hn : ps.length = n) (len : ∀ vs H Q E, sp vs H Q E → vs.length = ps.length)
    (hbody : ∀ (f : Addr) (cdv : Value) (A : Around) (outer : List PySem.Env) (s : Shared) (H : Hp) (vs : List V) (Q : VK) (E : XK), Room k (A.deeper (PyProof.Rows.envOfC qual (defScope st) s.heap.objs.size f cdv)) → sp vs H Q E →
      ∃ t, PSs (cxOf (L2.CX P w) P w K mg base N qual (defScope st) f cdv A outer s H E) (defBody st) t ∧ t { nx := fun _ H' => Q .non H', rt := Q } (L2.start N vs) H) : MdOk P w K mg base (k + 1) C m n sp := by
  obtain ⟨f, fd, F, hm⟩ := D.ex
  refine ⟨f, fd, ps, hm, F.ok S len fun cdv A outer s H vs Q E hr h => ?_, F.bindsN bp, hn⟩
  obtain ⟨t, q1, q2⟩ := hbody f cdv A outer s H vs Q E hr h
  exact ⟨t, q1, q2⟩
theorem md_no {C : Addr} {m : String} {x qual : Str} {st : Stmt} {ps : List Str} {n k : Nat} (D : MethAt K C m x qual st [] []) (bp : BindsP x qual st ps) (hn : ps.length = n) {sp : Sp} (h : ∀ vs H Q E, ¬ sp vs H Q E) : MdOk P w K mg base k C m n sp := by
  obtain ⟨f, fd, F, hm⟩ := D.ex
  exact ⟨f, fd, ps, hm, ⟨fun vs H Q E z => absurd z (h vs H Q E), fun A outer s H args us vs Q E _ _ _ _ z => absurd z (h vs H Q E)⟩, F.bindsN bp, hn⟩
/-- __init__ -/
theorem mk_of {C : Addr} {x : Str} {f : Addr} {n k : Nat} {sp : Sp} (M : Mk K C f) (D : MdOk P w K mg base k C "__init__" n sp) (hm : mg x = some (.ref C)) : MkAt P w K mg base k x C n sp := by
  obtain ⟨g, fd, ps, hg, F, hb, hl⟩ := D.ex
  have e := M.init
  rw [hg.at_] at e
  cases e
  exact ⟨_, fd, ps, M, F, hm, hb, hl⟩
end
structure Pp (P : Program) (w : World) (K : PySem.W.Frag) (mg : Str → Option Value) (base : Heap) {T : Tbl} (W : Wd T) (k : Nat) (m : String) (φ : Sem) : Prop where
  ex : ∀ c nm, W.has c → T.res c m = some nm → ∃ p g fd ps, PropOf K (W.cA c) (so m) p g ∧ FnOk P w K mg base (L2.CX P w) k g fd ps (spR W 1 (φ nm) none) ∧ Binds K fd ps []
def tPropD {T : Tbl} (W : Wd T) (φ : Sem) (m : String) (ta : TE) : TE := fun σ H Q => ta σ H fun x H1 => ∃ a c nm dx fs, x = .ref a ∧ H1 a = some (.ins (W.cA c) dx fs) ∧ W.has c ∧ T.res c m = some nm ∧ spR W 1 (φ nm) none [.ref a] H1 Q E0
theorem pass0n {X : Cx} : Passes CX0 X.nox E0 := fun _ _ _ _ _ _ _ h => by
  first | exact h.elim | (exact (show False from h).elim) | (obtain ⟨_⟩ := h)
theorem px_prop {X : Cx} {k : Nat} {m : String} {φ : Sem} {e : Expr} {ta : TE} {pos : Pos} (M : Pp X.prog X.w X.K X.mg X.base W k m φ) (hr : Room (k + 1) X.A) (hK : W.K = X.K) (he : PE X e ta) (hab : attributeBase e (so m) X.env (eval e X.env) = eval e X.env) :
    PE X (.Attribute e (so m) pos) (tPropD W φ m ta) := by
  refine ⟨fun pins s σ H Q I h => ?_⟩
  refine attr_of hab (thn (he.run pins s σ H _ I h) fun u s1 ⟨x, H1, I1, rx, a, c, nm, dx, fs, ex, ea, hc, hn, q⟩ => ?_)
  subst ex
  obtain rfl : u = Value.ref a := rx
  obtain ⟨p, g, fd, ps, hp, F, hb⟩ := M.ex c nm hc hn
  exact getprop_ok I1 ea (hK ▸ W.cl c hc) hp F hr hb .nil passE0 q
def prop1 (T : Tbl) (φ : Sem) (m : String) : D → Rz
  | .ins c ns xs => match T.res c m with
    | some nm => φ nm [.ins c ns xs] none
    | none => .no
  | _ => .no
theorem prop1_ok {φ : Sem} {m : String} {d : D} (h : prop1 T φ m d ≠ .no) : ∃ c ns xs nm, d = .ins c ns xs ∧ T.res c m = some nm ∧ prop1 T φ m d = φ nm [d] none := by
  cases d <;> first | (exact absurd rfl h) | skip
  rename_i c ns xs
  cases e : T.res c m with
  | none => exact absurd (by show (match T.res c m with | some nm => φ nm [.ins c ns xs] none | none => Rz.no) = .no; rw [e]) h
  | some nm => exact ⟨c, ns, xs, nm, rfl, e, by show (match T.res c m with | some nm => φ nm [.ins c ns xs] none | none => Rz.no) = _; rw [e]⟩
def propE (T : Tbl) (φ : Sem) (m : String) (f v : Option D) : Option (Kd × D) := match f with
  | some d => (prop1 T φ m d).toF
  | none => match v with
    | some d => (prop1 T φ m d).toV
    | none => none
def xProp (φ : Sem) (m : String) (a : XP W) : XP W where
  t := tPropD W φ m a.t
  ev env := propE T φ m (a.evF env) (a.evV env)
  snd := fun {env k d} e => by
    unfold propE at e
    split at e
    · rename_i d0 e1
      obtain ⟨rfl, b, h⟩ := Rz.toF_ok e
      obtain ⟨c, ns, xs, nm, rfl, h1, h4⟩ := prop1_ok (T := T) (φ := φ) (m := m) (d := d0) (by rw [h]; exact fun z => nomatch z)
      rw [h4] at h
      refine fun e' F σ H L Q r q => a.sF e1 e' F σ H L _ r fun v F1 H1 x1 y1 => ?_
      obtain ⟨p, dx, vs, rfl, hp, hc⟩ := shr_ins y1
      exact ⟨p, c, nm, dx, _, rfl, x1.s _ _ hp, hc, h1, callF x1.s (.cons y1 .nil) rfl h fun v F3 H3 x3 y3 => q v F3 H3 (x1.trans x3) (rO_back x1.h y3)⟩
    · split at e
      · rename_i d0 e1
        obtain ⟨d2, b, h, hk⟩ := Rz.toV_ok e
        obtain ⟨c, ns, xs, nm, rfl, h1, h4⟩ := prop1_ok (T := T) (φ := φ) (m := m) (d := d0) (by rw [h]; exact fun z => nomatch z)
        rw [h4] at h
        refine fun e' F σ H L Q r q => a.sV e1 e' F σ H L _ r fun v F1 H1 x1 y1 => ?_
        obtain ⟨p, dx, vs, rfl, hp, hc⟩ := shr_ins y1
        refine ⟨p, c, nm, dx, _, rfl, hp, hc, h1, callV x1.s (.cons y1 .nil) rfl h fun v H3 x3 y3 => q v F1 H3 (x1.trans x3) ?_⟩
        rcases hk with ⟨hf, rfl, rfl⟩ | ⟨rfl, rfl⟩
        · rw [fz_isSh (isSh_flat hf)] at y3
          exact rO_sh (y3.flat hf)
        · exact y3
      · cases e
def rLenI {T : Tbl} (W : Wd T) (φ : Sem) : List V → Hp → VK → Prop := fun xs H Q => ∃ a c nm dx fs, xs = [.ref a] ∧ H a = some (.ins (W.cA c) dx fs) ∧ W.has c ∧ T.res c "__len__" = some nm ∧ spR W 1 (φ nm) none [.ref a] H (fun v H' => ∃ i, v = .int i ∧ 0 ≤ i ∧ i < 2 ^ 63 ∧ Q (.int i) H') E0
theorem len_own {prog : Program} {w : World} {A : Around} {E : Value → Shared → Prop} {s : Shared} {K : PySem.W.Frag} {x C f : Addr} {ox : Obj} {od : Option Obj} {Q : Value → Shared → Prop} (X : K.In s.heap) (I : PySem.W.InstAt s.heap x ox C od) (hs : PySem.W.findIn K (.ref C) "__len__" = some (some (.ref f))) (hf : PySem.W.isFn K (.ref f) = true)
    (h : wpAny (model prog w) A.in1 (call (.ref f) [.ref x]) (PySem.W.LenBack Q) E s) : wpAny (model prog w) A (call (.builtin "len") [.ref x]) Q E s := by
  refine Calls.call_function_entry PySem.kind_len PySem.plain_len PySem.entry_len (PySem.args_len1 _) ?_
  unfold Builtin.«len»
  refine wpAny_bind (m := oneArg "len" _) (wpAny_pure ?_)
  refine wpAny_bind (m := callSpecial? (.ref x) (Str.ofString "__len__")) (PySem.W.special_fn X I hs (beq_iff_eq.mp hf) (wpAny_mono h (fun r s' hr => ?_) fun _ _ y => y))
  cases r <;> first | exact hr.elim | skip
  rename_i n u
  obtain ⟨⟨h0, h1⟩, hq⟩ := hr
  refine wpAny_bind (wpAny_holding (wpAny_pure ?_))
  refine wpAny_bind (wpAny_letGo ?_)
  show wpAny _ _ (if n < 0 then _ else _) _ _ _
  rw [if_neg (by omega)]
  show wpAny _ _ (if n ≥ 2 ^ 63 then _ else _) _ _ _
  rw [if_neg (by omega)]
  exact wpAny_bind (wpAny_mkInt (wpAny_pure ⟨_, rfl, hq⟩))
theorem call_lenI {X : Cx} {k : Nat} {φ : Sem} (M : Mt X.prog X.w X.K X.mg X.base W k "__len__" 1 φ none) (hr : Room (k + 1) X.A) (hK : W.K = X.K) : CallR X (.builtin "len") (rLenI W φ) := by
  rintro pins s σ H xs us Q I rv ⟨a, c, nm, dx, fs, rfl, ea, hc, hn, h⟩
  cases rv with
  | @cons _ u _ _ ru rt =>
  cases rt
  obtain rfl : u = Value.ref a := ru
  obtain ⟨g, fd, ps, hm, F, hb⟩ := M.ex c nm hc hn
  obtain ⟨mA, O, _, _, _, _⟩ := ins_get I.hok ea
  obtain ⟨od, J, _⟩ := O.look
  have hl : ([Value.ref a] ++ []).length = ps.length := by rw [← F.len _ _ _ _ h]; rfl
  refine len_own I.kIn J hm.at_ hm.fn (wpAny_call ?_)
  refine codeAny_mono (F.run X.A.in1 X.stack s H ⟨[.ref a], []⟩ [.ref a] [.ref a] _ E0 hr.in1 I.env0.in1 (hb s [.ref a] I.kIn hl) (.cons rfl .nil) h) fun r s' hq => ?_
  cases r with
  | error er => exact passE0 pins σ H s er s' I hq
  | ok fl =>
    cases fl with
    | ret u =>
      obtain ⟨v, H', I3, rv, i, rfl, h0, h1, q3⟩ := I.after hq
      obtain ⟨t, rfl⟩ := (show ∃ t, u = Value.int i t from rv)
      exact ⟨⟨h0, h1⟩, .int i, H', I3.tok _, ⟨_, rfl⟩, q3⟩
    | next => exact False.elim hq
    | brk => exact False.elim hq
    | cont => exact False.elim hq
def lenI1 (T : Tbl) (φ : Sem) : List D → Option D
  | [.ins c ns xs] => match T.res c "__len__" with
    | some nm => match φ nm [.ins c ns xs] none with
      | .ok (.int i) _ => if 0 ≤ i ∧ i ≤ 1000000 then some (.int i) else none
      | _ => none
    | none => none
  | ds => lenD ds
theorem lenI1_ok {φ : Sem} {ds : List D} {d : D} (h : lenI1 T φ ds = some d) : lenD ds = some d ∨ ∃ c ns xs nm i b, ds = [.ins c ns xs] ∧ T.res c "__len__" = some nm ∧ φ nm ds none = .ok (.int i) b ∧ 0 ≤ i ∧ i ≤ 1000000 ∧ d = .int i := by
  unfold lenI1 at h
  split at h
  · split at h
    · split at h
      · obtain ⟨⟨h0, h1⟩, e⟩ := ite_some h
        exact .inr ⟨_, _, _, _, _, _, rfl, by assumption, by assumption, h0, h1, e.symm⟩
      · cases h
    · cases h
  · exact .inl h
theorem lenI_cb {φ : Sem} {ds : List D} {d : D} (h : lenI1 T φ ds = some d) : Cb W (fun xs H Q => rLenA W.K xs H Q ∨ rLenI W φ xs H Q) ds d := by
  rcases lenI1_ok h with h | ⟨c, ns, xs, nm, i, b, rfl, h1, h2, h3, h4, rfl⟩
  · exact fun F H vs Q s y q => .inl (len_cb h F H vs Q s y q)
  · refine fun F H vs Q s y q => .inr ?_
    cases y with
    | cons y t =>
      cases t
      obtain ⟨a, dx, vs, rfl, ha, hc⟩ := shr_ins y
      refine ⟨a, c, nm, dx, _, rfl, ha, hc, h1, callV s (.cons y .nil) rfl h2 fun v H2 x2 y2 => ?_⟩
      rw [fz_isSh rfl] at y2
      cases y2
      exact ⟨i, rfl, h3, by omega, q _ F H2 x2 (rO_sh .int)⟩
def xLenU (φ : Sem) (as : XA W) : XP W := xCb (fun xs H Q => rLenA W.K xs H Q ∨ rLenI W φ xs H Q) (lenI1 T φ) lenI_cb as
theorem px_isiO {X : Cx} {a : Expr} {ta : TE} {c : Str} {n : String} {p1 p2 pos : Pos} (hm : X.mg "isinstance" = none) (hc : W.has n) (hmc : X.mg c = some (.ref (W.cA n))) (ha : PE X a ta) (hg : Gl X "isinstance" := by rfl) (hgc : Gl X c := by rfl)
    (hd : (c == ("__debug__" : Str)) = false := by decide)
    (hs : starEach [a, .Name c p2] X.env = (false, eval a X.env) :: starEach [.Name c p2] X.env := by rfl) (hs2 : starEach [.Name c p2] X.env = (false, eval (.Name c p2) X.env) :: starEach [] X.env := by rfl)
    (hpl : (backTo pos (starEach [.Name c p2] X.env)).any (·.1) = false := by rfl) :
    PE X (.Call (.Name "isinstance" p1) [a, .Name c p2] [] pos) (fun σ H Q => clsOk W (true, n) → tCB (rIsi X.K) (tCons ta (tCons (tC (clsV W (true, n))) tNil)) σ H Q) :=
  pe_imp (show clsOk W (true, n) by unfold clsOk; rw [if_pos rfl]; exact hc) (pe_callB call_isi hg hm (by decide +kernel) (pa_cons ha (pa_cons (pe_glob (v := clsV W (true, n)) hgc hmc (by unfold clsV; rw [if_pos rfl]; rfl) hd) pa_nil hs2) hs) (he := hs) (hpl := hpl))
end
end Py

namespace Py
open PySem L2
section
variable {M : Model} {A : Around} {E : Value → Shared → Prop} {s : Shared} {pos : Pos} {f : Value} {first : List Value} {Q : Value → Shared → Prop}
theorem callWith_caller {P : Heap → Prop} {args : List (Bool × PySem.Sem Value)} {keywords : List (Option Str × PySem.Sem Value)} (hplain : (args.any (·.1) || keywords.any (·.1.isNone)) = false)
    (hk : ∀ h, P h → PySem.W.Looks M h (keeperOf f) Keeper.caller)
    (h : wpAny M A (evalArgs f true args keywords) (fun a s₁ => P s₁.heap ∧ wpAny M A (call f (first ++ a.pos) a.kw) Q E s₁) E s) : wpAny M A (callWith pos f first args keywords) Q E s := by
  unfold callWith
  refine wpAny_bind (wpAny_holding (wpAny_mono h (fun a s₁ h₁ => wpAny_bind (wpAny_standAt ?_)) fun _ _ x => x))
  have L := hk _ h₁.1
  simp only [hplain]
  refine wpAny_bind (L.here ?_)
  dsimp only
  exact wpAny_bind (wpAny_mono (PyProof.Rows.wpAny_operate' h₁.2) (fun r s₂ hr => wpAny_bind (wpAny_holding (wpAny_point (wpAny_pure hr)))) fun _ _ x => x)
theorem keeper_inst {h : Heap} {a C dx : Addr} (e : h.get? a = some (PySem.W.instObj C dx)) : PySem.W.Looks M h (keeperOf (.ref a)) Keeper.caller := by
  unfold keeperOf
  exact (PySem.W.Looks.ld (part := none) e).andThen .now
theorem plain_fn {K : PySem.W.Frag} {h : Heap} {g : Addr} (X : K.In h) (e : PySem.W.fnIn K g = true) : PySem.W.Looks M h (callAny.plainCallee (.ref g)) true := by
  unfold PySem.W.fnIn at e
  split at e
  · rename_i hlk
    exact (PySem.W.Looks.ld (part := none) (X _ _ hlk)).andThen .now
  · cases e
theorem code_inst {prog : Program} {w : World} {K : PySem.W.Frag} {a C dx g : Addr} {us : List Value} {R : Result → Shared → Prop} (X : K.In s.heap) (e : s.heap.get? a = some (PySem.W.instObj C dx)) (k : Meth K C "__call__" g) (hf : PySem.W.fnIn K g = true)
    (h : codeAny (model prog w) A (.call (.ref g) ⟨.ref a :: us, []⟩) R s) : codeAny (model prog w) A (.call (.ref a) ⟨us, []⟩) R s := by
  refine codeAny_of_tree ?_
  show wpAny _ _ (callAny (.ref a) _) _ _ _
  refine PySem.W.nd_load e ?_
  show wpAny _ _ (callAny.viaDunder (.ref a) _) _ _ _
  unfold callAny.viaDunder
  have ty : PySem.W.Looks (model prog w) s.heap (typeOf (.ref a)) (.ref C) := (PySem.W.Looks.ld e).andThen .now
  have cl : PySem.W.Looks (model prog w) s.heap (specialOf (.ref a) "__call__") (some (.ref g)) := ty.andThen (PySem.W.looks_findIn X k.at_)
  refine wpAny_bind (cl.here ?_)
  dsimp only
  refine wpAny_bind ((PySem.W.bind_fn X (.ref a) (beq_iff_eq.mp k.fn)).here ?_)
  dsimp only
  refine wpAny_bind ((plain_fn X hf).here ?_)
  rw [if_pos rfl]
  exact wpAny_pure (a := Fin.again (.call (.ref g) ⟨.ref a :: us, []⟩)) (And.intro rfl h)
end
section
variable {T : Tbl} {W : Wd T}
/-- __call__ is a plain def wherever a class has it -/
def CallFn {T : Tbl} (W : Wd T) (K : PySem.W.Frag) : Prop := ∀ c nm g, W.has c → T.res c "__call__" = some nm → Meth K (W.cA c) (so "__call__") g → PySem.W.fnIn K g = true
theorem callFn_of {T : Tbl} {W : Wd T} {K : PySem.W.Frag} (h : ∀ c nm, W.has c → T.res c "__call__" = some nm → ∃ x qual st dvs kws, MethAt K (W.cA c) "__call__" x qual st dvs kws) : CallFn W K := fun c nm g hc hn hm => by
  obtain ⟨x, qual, st, dvs, kws, D⟩ := h c nm hc hn
  obtain ⟨g2, fd, F, hm2⟩ := D.ex
  have e := hm2.at_
  rw [hm.at_] at e
  cases e
  obtain ⟨oc, od, dV, kV, doc, pm, an, cdv, ct, osl, rfl, lk, _⟩ := F.ex
  unfold PySem.W.fnIn
  rw [lk]
def tCallO {T : Tbl} (W : Wd T) (φ : Sem) (n : Nat) (b : Option Nat) (E : XK) (ta : TE) (t : TA) : TE := fun σ H Q => ta σ H fun x H1 => ∃ a, x = .ref a ∧ t σ H1 fun vs H2 => ∃ c nm dx fs, H2 a = some (.ins (W.cA c) dx fs) ∧ W.has c ∧ T.res c "__call__" = some nm ∧
  spR W n (φ nm) b (x :: vs) H2 Q E
theorem px_callOS {X : Cx} {E : St → XK} {k n : Nat} {φ : Sem} {b : Option Nat} {x : Str} {p : Pos} {e : Expr} {es : List Expr} {ta : TE} {t : TA} {pos : Pos} (M : Mt X.prog X.w X.K X.mg X.base W k "__call__" n φ b) (hF : CallFn W X.K) (hx : ∀ σ, PassesAt (L2.CX X.prog X.w) X σ (E σ)) (hr : Room k X.A) (hK : W.K = X.K) (he : PE X (.Name x p) ta) (ha : PA X (e :: es) t)
    (hst : starEach (e :: es) X.env = (false, eval e X.env) :: starEach es X.env := by rfl) (hpl : (backTo pos (starEach es X.env)).any (·.1) = false := by rfl) :
    PE X (.Call (.Name x p) (e :: es) [] pos) (fun σ H Q => tCallO W φ n b (E σ) ta t σ H Q) := by
  refine ⟨fun pins s σ H Q I h => ?_⟩
  refine wpAny_Call_Name_kw (thn (he.run pins s σ H _ I h) fun u s1 ⟨x, H1, I1, rx, a, ex, q⟩ => ?_)
  subst ex
  obtain rfl : u = Value.ref a := rx
  refine callWith_caller (P := fun h => ∃ C dx, h.get? a = some (PySem.W.instObj C dx)) (by rw [hst]; show ((false || (backTo pos (starEach es X.env)).any (·.1)) || false) = false; rw [hpl]; rfl) (fun h ⟨C, dx, e⟩ => keeper_inst e) ?_
  rw [hst]
  refine Calls.evalArgs_plain ?_
  have z := ha.run pos pins s1 σ H1 _ I1 q
  rw [hst] at z
  refine thn z fun us s2 ⟨vs, H2, I2, r, c, nm, dx, fs, ea, hc, hn, q2⟩ => ?_
  obtain ⟨g, fd, ps, hm, F, hb⟩ := M.ex c nm hc hn
  obtain ⟨mA, O, _, _, _, _⟩ := ins_get I2.hok ea
  refine ⟨⟨_, _, O.obj⟩, ?_⟩
  refine wpAny_call (code_inst I2.kIn O.obj hm (hF c nm g hc hn hm) ?_)
  have hl : (Value.ref a :: us ++ []).length = ps.length := by
    rw [← F.len _ _ _ _ q2, List.append_nil, List.length_cons, List.length_cons, r.length]
  refine codeAny_mono (F.run X.A X.stack s2 H2 ⟨.ref a :: us, []⟩ (.ref a :: us ++ []) (.ref a :: vs) Q (E σ) hr I2.env0 (hb s2 (.ref a :: us) I2.kIn hl) (by rw [List.append_nil]; exact .cons rfl r) q2) fun r s' hq => ?_
  cases r with
  | error er => exact hx σ pins H2 s2 er s' I2 hq
  | ok fl =>
    cases fl with
    | ret u => exact I2.after hq
    | next => exact False.elim hq
    | brk => exact False.elim hq
    | cont => exact False.elim hq
theorem px_callO {X : Cx} {k n : Nat} {φ : Sem} {b : Option Nat} {x : Str} {p : Pos} {e : Expr} {es : List Expr} {ta : TE} {t : TA} {pos : Pos} (M : Mt X.prog X.w X.K X.mg X.base W k "__call__" n φ b) (hF : CallFn W X.K) (hr : Room k X.A) (hK : W.K = X.K) (he : PE X (.Name x p) ta) (ha : PA X (e :: es) t)
    (hst : starEach (e :: es) X.env = (false, eval e X.env) :: starEach es X.env := by rfl) (hpl : (backTo pos (starEach es X.env)).any (·.1) = false := by rfl) :
    PE X (.Call (.Name x p) (e :: es) [] pos) (tCallO W φ n b E0 ta t) := px_callOS (E := fun _ => E0) M hF passAt0 hr hK he ha hst hpl
theorem px_callOX {X : Cx} {E : WX} {k n : Nat} {φ : Sem} {b : Option Nat} {x : Str} {p : Pos} {e : Expr} {es : List Expr} {ta : TE} {t : TA} {pos : Pos} (M : Mt X.prog X.w X.K X.mg X.base W k "__call__" n φ b) (hF : CallFn W X.K) (tk : Takes X E) (hr : Room k X.A) (hK : W.K = X.K) (he : PE X (.Name x p) ta) (ha : PA X (e :: es) t)
    (hst : starEach (e :: es) X.env = (false, eval e X.env) :: starEach es X.env := by rfl) (hpl : (backTo pos (starEach es X.env)).any (·.1) = false := by rfl) :
    PE X (.Call (.Name x p) (e :: es) [] pos) (fun σ H Q => tCallO W φ n b (WE E σ) ta t σ H Q) := px_callOS (E := fun σ => WE E σ) M hF (fun σ => L2.passAt tk σ) hr hK he ha hst hpl
def callO1 (T : Tbl) (φ : Sem) (n : Nat) : List D → Rz
  | .ins c ns xs :: ds => match T.res c "__call__" with
    | some nm => if ds.length + 1 = n then φ nm (.ins c ns xs :: ds) none else .no
    | none => .no
  | _ => .no
theorem callO1_ok {φ : Sem} {n : Nat} {d : D} {ds : List D} (h : callO1 T φ n (d :: ds) ≠ .no) : ∃ c ns xs nm, d = .ins c ns xs ∧ T.res c "__call__" = some nm ∧ (d :: ds).length = n ∧ callO1 T φ n (d :: ds) = φ nm (d :: ds) none := by
  cases d <;> first | (exact absurd rfl h) | skip
  rename_i c ns xs
  cases e : T.res c "__call__" with
  | none => exact absurd (by show (match T.res c "__call__" with | some nm => if ds.length + 1 = n then φ nm (.ins c ns xs :: ds) none else Rz.no | none => .no) = .no; rw [e]) h
  | some nm =>
    have e2 : callO1 T φ n (.ins c ns xs :: ds) = if ds.length + 1 = n then φ nm (.ins c ns xs :: ds) none else Rz.no := by
      show (match T.res c "__call__" with | some nm => if ds.length + 1 = n then φ nm (.ins c ns xs :: ds) none else Rz.no | none => .no) = _
      rw [e]
    by_cases hh : ds.length + 1 = n
    · rw [if_pos hh] at e2
      exact ⟨c, ns, xs, nm, rfl, e, hh, e2⟩
    · rw [if_neg hh] at e2
      exact absurd e2 h
def callOE (T : Tbl) (φ : Sem) (n : Nat) (f : Option D) (fs : Option (List D)) (v : Option D) (vs : Option (List D)) : Option (Kd × D) := match f, fs with
  | some d, some ds => (callO1 T φ n (d :: ds)).toF
  | _, _ => match v, vs with
    | some d, some ds => (callO1 T φ n (d :: ds)).toV
    | _, _ => none
/-- o(..), where nothing is changed -/
def xCallO (φ : Sem) (n : Nat) (a : XP W) (as : XA W) : XP W where
  t := tCallO W φ n none E0 a.t as.t
  ev env := callOE T φ n (a.evF env) (as.evF env) (a.evV env) (as.evV env)
  snd := fun {env k d} e => by
    have viewed : ∀ {d0 ds}, a.evV env = some d0 → as.evV env = some ds → (callO1 T φ n (d0 :: ds)).toV = some (k, d) → AE W (tCallO W φ n none E0 a.t as.t) env (rK W k d) := by
      intro d0 ds e1 e2 e
      obtain ⟨d2, b, h, hk⟩ := Rz.toV_ok e
      obtain ⟨c, ns, xs, nm, rfl, h1, h3, h4⟩ := callO1_ok (T := T) (φ := φ) (n := n) (d := d0) (ds := ds) (by rw [h]; exact fun z => nomatch z)
      rw [h4] at h
      refine fun e' F σ H L Q r q => a.sV e1 e' F σ H L _ r fun v F1 H1 x1 y1 => ?_
      obtain ⟨p, dx, vs, rfl, hp, hc⟩ := shr_ins y1
      refine ⟨p, rfl, as.sV e2 e' F1 σ H1 L _ (r.ext x1) fun ws F2 H2 x2 y2 => ?_⟩
      obtain ⟨p', dx', vs', hv, hp', hc'⟩ := shr_ins (y1.mono x2.h)
      cases hv
      refine ⟨c, nm, dx', _, hp', hc, h1, ?_⟩
      refine callV (x2.s) (.cons (y1.mono x2.h) y2) h3 h fun v H3 x3 y3 => q v F2 H3 ((x1.trans x2).trans x3) ?_
      rcases hk with ⟨hf, rfl, rfl⟩ | ⟨rfl, rfl⟩
      · rw [fz_isSh (isSh_flat hf)] at y3
        exact rO_sh (y3.flat hf)
      · exact y3
    unfold callOE at e
    split at e
    · rename_i d0 ds e1 e2
      obtain ⟨rfl, b, h⟩ := Rz.toF_ok e
      obtain ⟨c, ns, xs, nm, rfl, h1, h3, h4⟩ := callO1_ok (T := T) (φ := φ) (n := n) (d := d0) (ds := ds) (by rw [h]; exact fun z => nomatch z)
      rw [h4] at h
      refine fun e' F σ H L Q r q => a.sF e1 e' F σ H L _ r fun v F1 H1 x1 y1 => ?_
      obtain ⟨p, dx, vs, rfl, hp, hc⟩ := shr_ins y1
      refine ⟨p, rfl, as.sF e2 e' F1 σ H1 L _ (r.ext x1) fun ws F2 H2 x2 y2 => ?_⟩
      obtain ⟨p', dx', vs', hv, hp', hc'⟩ := shr_ins (y1.mono x2.f)
      cases hv
      refine ⟨c, nm, dx', _, x2.s _ _ hp', hc, h1, ?_⟩
      exact callF x2.s (.cons (y1.mono x2.f) y2) h3 h fun v F3 H3 x3 y3 => q v F3 H3 ((x1.trans x2).trans x3) (rO_back (x1.trans x2).h y3)
    · split at e
      · exact viewed (by assumption) (by assumption) e
      · cases e
end
end Py

namespace L2
open PySem PySem.Spec PyProof.Rows
def rSortDR (K : PySem.W.Frag) : List V → List V → Hp → VK → Prop := fun vs zs H Q => ∃ (a : Addr) (xs : List V) (ds : List PyData), vs = [V.ref a] ∧ zs = [V.bl true] ∧ SqL K H a xs ∧ DpAll K H xs ds ∧ PySem.W.AllAlike ds ∧ PySem.W.Sortable ds ∧ (∀ d ∈ ds, d.depth ≤ 60) ∧
  ∀ p, H p = none → Q (.ref p) (upd H p (.lst (((xs.zip ds).mergeSort (PySem.W.dataLe true Prod.snd)).map Prod.fst)))
theorem cr_sortedDR {X : Cx} (hu : X.A.units + 64 < cLine) : CallRK X (.builtin "sorted") ["reverse"] (rSortDR X.K) := by
  intro pins s σ H vs zs us ws Q I r rz h
  obtain ⟨a, xs, ds, rfl, rfl, hs, hd, ha, hk, hn, q⟩ := h
  obtain ⟨its, rv, hl, hz⟩ := I.list hs
  rw [Vals.ref1 r]
  obtain ⟨w, rfl, rw'⟩ : ∃ w, ws = [w] ∧ RelV (.bl true) w := by
    cases rz with
    | cons h t => cases t; exact ⟨_, rfl, h⟩
  obtain rfl : w = Value.bool true := rw'
  have hlen := hd.len
  have hm := zip_snd hlen
  have e1 := each_dp I hd rv
  have hzl : (xs.zip ds).length = xs.length := by rw [List.length_zip]; omega
  refine PySem.W.sorted_rev_data (b := true) (enc := Prod.snd) (bs := xs.zip ds) hl.isList e1 (e1.mono fun _ _ h => h.2) (by rw [hm]; exact ha) (by rw [hm]; exact hk) (by rw [hzl]; exact hz) (fun b hb => ?_) fun out ho eo => ?_
  · have : b.2 ∈ ds := by rw [← hm]; exact List.mem_map.mpr ⟨b, hb, rfl⟩
    have := hn _ this
    omega
  · obtain ⟨ep, he'⟩ := PyProof.Rows.sortedAll_at s.heap its out.toArray
    have hv := each_vals (fun _ _ h => h.1) eo
    refine ⟨.ref _, upd H (s.heap.objs.size + 1) (.lst (((xs.zip ds).mergeSort (PySem.W.dataLe true Prod.snd)).map Prod.fst)), I.laid (t' := s.toks) (fun _ _ => PyProof.Rows.sortedAll_old) (Nat.le_succ _) ⟨?_, out, ep, hv, he'⟩, rfl, q _ (I.hok.fresh (Nat.le_succ _))⟩
    rw [List.length_map, List.length_mergeSort, hzl]
    exact hz
end L2
namespace Py
open PySem L2
section
variable {T : Tbl} {W : Wd T}
def cutL {α : Type} (xs : List α) (lo hi : Option Int) : List α := (xs.drop (HT.sIx xs.length 0 lo)).take (HT.sIx xs.length xs.length hi - HT.sIx xs.length 0 lo)
theorem Shrs.drop' {F : Hp} : ∀ {ds : List D} {vs : List V} (k : Nat), Shrs W F ds vs → Shrs W F (ds.drop k) (vs.drop k) := fun k h => Shrs.drop k h
theorem Shrs.cut {F : Hp} {ds : List D} {vs : List V} (h : Shrs W F ds vs) (lo hi : Option Int) : Shrs W F (cutL ds lo hi) (cutV vs lo hi) := by
  unfold cutL cutV
  rw [h.length]
  exact (Shrs.take _ (Shrs.drop _ h))
def intO : D → Option (Option Int)
  | .int i => some (some i)
  | _ => none
def tO {T : Tbl} {W : Wd T} : Option (XP W) → TO
  | none => tNoPart
  | some p => tPart p.t
def evI {T : Tbl} {W : Wd T} (o : Option (XP W)) (env : Py.Env) : Option (Option Int) := match o with
  | none => some none
  | some p => (p.evV env).bind intO
theorem evI_ok {o : Option (XP W)} {env : Py.Env} {i : Option Int} (h : evI o env = some i) : ∀ (e : Ent) (F : Hp) (σ : St) (H : Hp) (L : List Addr) (Q : Option Int → Hp → Prop), Rel W e env F σ H L → (∀ F' H', Ext F H F' H' → Q i H') → tO o σ H Q := by
  intro e F σ H L Q r q
  cases o with
  | none => cases h; exact q F H (.refl r.sF)
  | some p =>
    obtain ⟨d, e1, e2⟩ := Option.bind_eq_some_iff.mp h
    refine p.sV e1 e F σ H L _ r fun v F1 H1 x1 y1 => ?_
    cases d <;> first | (cases e2; done) | skip
    cases e2
    cases y1
    exact ⟨_, rfl, q F1 H1 x1⟩
def slE (d : Option D) (lo hi : Option (Option Int)) : Option (Kd × D) := d.bind fun d => (seqOf d).bind fun p => if p.1 = false then lo.bind fun l => hi.map fun u => (.fr, .olst (cutL p.2 l u)) else none
/-- xs[lo:hi] -/
def xSl (a : XP W) (lo hi : Option (XP W)) : XP W where
  t := tSl (rSlL W.K) a.t (tO lo) (tO hi)
  ev env := slE (a.evK env) (evI lo env) (evI hi env)
  snd := fun {env k d} e => by
    obtain ⟨d1, e1, e⟩ := Option.bind_eq_some_iff.mp e
    obtain ⟨⟨b, xs⟩, e3, e⟩ := Option.bind_eq_some_iff.mp e
    split at e
    · rename_i hb
      have hb : b = false := hb
      subst hb
      obtain ⟨l, e4, e⟩ := Option.bind_eq_some_iff.mp e
      obtain ⟨u, e5, e⟩ := Option.map_eq_some_iff.mp e
      cases e
      intro e' F σ H L Q r q
      refine a.sK e1 e' F σ H L _ r fun v F1 H1 x1 ⟨L1, o⟩ => ?_
      obtain ⟨a, vs, rfl, sh, sq⟩ := seqOf_ok x1.s o e3
      refine evI_ok e4 e' F1 σ H1 L _ (r.ext x1) fun F2 H2 x2 => evI_ok e5 e' F2 σ H2 L _ ((r.ext x1).ext x2) fun F3 H3 x3 => ?_
      refine ⟨a, vs, rfl, (x2.trans x3).h.seq sq, fun p hp => q _ F3 _ (((x1.trans x2).trans x3).trans (.newH x3.s hp)) ⟨[p], .olst upd_same ((sh.mono (x2.trans x3).f).cut l u).owns, by simp, fun x m => by
        rw [List.mem_singleton.mp m]; exact ⟨((x1.trans x2).trans x3).h.free hp, x3.s.free hp⟩⟩⟩
    · cases e
end
section
variable {T : Tbl} {W : Wd T} {env : Py.Env} {β : Type} {enc : β → D} {dat : β → PyData}
/-- sorting values and their data by the same keys -/
theorem sort_twoR {α β : Type} {vs : List α} {xs : List β} {ps : List PyData} (h1 : vs.length = ps.length) (h2 : xs.length = ps.length) :
    ∃ T : List (α × β), T.Perm (vs.zip xs) ∧ ((vs.zip ps).mergeSort (PySem.W.dataLe true Prod.snd)).map Prod.fst = T.map Prod.fst ∧ ((xs.zip ps).mergeSort (PySem.W.dataLe true Prod.snd)).map Prod.fst = T.map Prod.snd := by
  let Z : List ((α × β) × PyData) := (vs.zip xs).zip ps
  have e1 : Z.map (fun z => (z.1.1, z.2)) = vs.zip ps := by
    apply List.ext_getElem?
    intro i
    simp only [Z, List.getElem?_map, List.getElem?_zip_eq_some, List.zip_eq_zipWith, List.getElem?_zipWith]
    cases vs[i]? <;> cases hx : xs[i]? <;> cases hp : ps[i]? <;> simp
    · have := List.getElem?_eq_none_iff.mp hx
      have := (List.getElem?_eq_some_iff.mp hp).1
      omega
  have e2 : Z.map (fun z => (z.1.2, z.2)) = xs.zip ps := by
    apply List.ext_getElem?
    intro i
    simp only [Z, List.getElem?_map, List.zip_eq_zipWith, List.getElem?_zipWith]
    cases hv : vs[i]? <;> cases hx : xs[i]? <;> cases hp : ps[i]? <;> simp
    · have := List.getElem?_eq_none_iff.mp hv
      have := (List.getElem?_eq_some_iff.mp hp).1
      omega
  refine ⟨(Z.mergeSort (PySem.W.dataLe true Prod.snd)).map (·.1), ?_, ?_, ?_⟩
  · have := (List.mergeSort_perm Z (PySem.W.dataLe true Prod.snd)).map (·.1)
    refine this.trans ?_
    rw [List.map_fst_zip (by rw [List.length_zip]; omega)]
  · rw [← e1, ← PySem.W.sort_maps (r := PySem.W.dataLe true fun z : (α × β) × PyData => z.2) (s := PySem.W.dataLe true Prod.snd) (fun z : (α × β) × PyData => (z.1.1, z.2)) (fun _ _ _ _ => rfl), List.map_map, List.map_map]
    rfl
  · rw [← e2, ← PySem.W.sort_maps (r := PySem.W.dataLe true fun z : (α × β) × PyData => z.2) (s := PySem.W.dataLe true Prod.snd) (fun z : (α × β) × PyData => (z.1.2, z.2)) (fun _ _ _ _ => rfl), List.map_map, List.map_map]
    rfl
def sortDR (xs : List D) : Option (List D) := (pds xs).bind fun ps => if sortOk ps = true then some (((xs.zip ps).mergeSort (PySem.W.dataLe true Prod.snd)).map Prod.fst) else none
theorem sortDR_map (hp : ∀ b, pd (enc b) = some (dat b)) (bs : List β) (ho : sortOk (bs.map dat) = true) : sortDR (bs.map enc) = some ((bs.mergeSort (PySem.W.dataLe true dat)).map enc) := by
  unfold sortDR
  rw [pds_mapD hp]
  show (if sortOk (bs.map dat) = true then _ else none) = _
  rw [if_pos ho]
  congr 1
  have e : (bs.map enc).zip (bs.map dat) = bs.map fun b => (enc b, dat b) := by rw [List.zip_map']
  rw [e, ← PySem.W.sort_maps (r := PySem.W.dataLe true dat) (s := PySem.W.dataLe true Prod.snd) (fun b => (enc b, dat b)) (fun _ _ _ _ => rfl), List.map_map]
  rfl
/-- sorted(xs, reverse=True) -/
def xSortedR (a : XP W) : XP W where
  t := tCKw (rSortDR W.K) (tCons a.t tNil) (tCons (tC (.bl true)) tNil)
  ev env := (a.evK env).bind fun d => (seqOf d).bind fun p => if p.1 = false then (sortDR p.2).map fun ys => (.fr, .olst ys) else none
  snd := fun {env k d} e => by
    obtain ⟨d1, e1, e⟩ := Option.bind_eq_some_iff.mp e
    obtain ⟨⟨b, xs⟩, e3, e⟩ := Option.bind_eq_some_iff.mp e
    cases b with
    | true => cases e
    | false =>
      obtain ⟨ys, e4, e⟩ := Option.map_eq_some_iff.mp e
      cases e
      obtain ⟨ps, e5, e6⟩ := Option.bind_eq_some_iff.mp e4
      obtain ⟨ho, rfl⟩ := ite_some e6
      obtain ⟨s1, s2, s3⟩ := sortOk_ok ho
      intro e' F σ H L Q r q
      refine a.sK e1 e' F σ H L _ r fun v F1 H1 x1 ⟨L1, o⟩ => ?_
      obtain ⟨a, vs, rfl, sh, sq⟩ := seqOf_ok x1.s o e3
      have hl := pds_len e5
      obtain ⟨TT, hT, t1, t2⟩ := sort_twoR (vs := vs) (xs := xs) (ps := ps) (by rw [← sh.length, hl]) hl
      refine ⟨a, vs, ps, rfl, rfl, sq, Shrs.dp (sh.mono x1.s) e5, s1, s2, s3, fun p hp => q _ F1 _ (x1.trans (.newH x1.s hp)) ⟨[p], ?_, by simp, fun x m => by
        rw [List.mem_singleton.mp m]; exact ⟨x1.h.free hp, x1.s.free hp⟩⟩⟩
      rw [t1, t2]
      exact .olst upd_same (shrs_pairsD TT fun p m => shrs_zipD sh p (hT.mem_iff.mp m)).owns
end
end Py

namespace Py
open PySem L2
section
variable {T : Tbl} {W : Wd T} {env env' : Py.Env} {P : List Nat} {E : WX}
theorem Rel.comp {e : Ent} {F F' H H' : Hp} {σ σ' : St} {L L' : List Addr} (r1 : Rel W e env F σ H L) (r2 : Rel W ⟨F, H, L, e.pins⟩ env' F' σ' H' L') : Rel W e env' F' σ' H' L' := by
  have up : ∀ a, (a ∈ L ∨ H a = none) → a ∈ e.L0 ∨ e.H0 a = none := fun a h => h.elim (r1.ln a) r1.h0
  refine ⟨r2.sF, r2.slots, r2.nd, r2.dj, r1.s0.trans r2.s0, fun a o h => ?_, fun a o h1 h2 => r2.fr a o (fun z => ?_) (r1.fr a o h1 h2), fun a h => up a (r2.ln a h), r2.pin⟩
  · rcases r2.nw a o h with z | z | z
    · exact r1.nw a o z
    · rcases up a (.inr z) with y | y
      · exact .inr (.inr y)
      · exact .inr (.inl y)
    · rcases up a (.inl z) with y | y
      · exact .inr (.inr y)
      · exact .inr (.inl y)
  · rcases r1.ln a z with y | y
    · exact h1 y
    · rw [h2] at y; cases y
theorem Rel.base {e : Ent} {F H : Hp} {σ : St} {L : List Addr} (r : Rel W e env F σ H L) : Rel W ⟨F, H, L, e.pins⟩ env F σ H L :=
  ⟨r.sF, r.slots, r.nd, r.dj, Same.refl _, fun a o h => .inl h, fun a o _ h => h, fun a h => .inl h, r.pin⟩
inductive RL where
  | ok (ds : List D) (env : Py.Env) | exn (x : Exn) (env : Py.Env) | no
def ALr {T : Tbl} (W : Wd T) (P : List Nat) (E : WX) (t : TA) (env : Py.Env) (r : RL) : Prop := r ≠ .no →
  ∀ (e : Ent) (F : Hp) (σ : St) (H : Hp) (L : List Addr) (Q : List V → Hp → Prop), P = e.pins.map (·.1) → Rel W e env F σ H L →
    (∀ ds env' vs F' H' L', r = .ok ds env' → Rel W e env' F' σ H' L' → Shrs W F' ds vs → Q vs H') →
    (∀ x env' F' H' L' C dd, r = .exn x env' → Rel W e env' F' σ H' L' → IsExn W F' x C dd → E C dd σ H') → t σ H Q
structure XMs {T : Tbl} (W : Wd T) where
  t : WX → TA
  ev : List Nat → Py.Env → RL
  snd : ∀ P E env, ALr W P E (t E) env (ev P env)
def xmsNil {T : Tbl} (W : Wd T) : XMs W where
  t _ := tNil
  ev _ env := .ok [] env
  snd := fun P E env hn e F σ H L Q hP r c cx => c [] env [] F H L rfl r .nil
def RM.thenL (r : RM) (f : D → Py.Env → RL) : RL := match r with
  | .ok d e => f d e
  | .exn x e => .exn x e
  | .no => .no
def RL.thenL (r : RL) (f : List D → Py.Env → RL) : RL := match r with
  | .ok d e => f d e
  | .exn x e => .exn x e
  | .no => .no
def RL.thenM (r : RL) (f : List D → Py.Env → RM) : RM := match r with
  | .ok d e => f d e
  | .exn x e => .exn x e
  | .no => .no
def consL (d : D) (ds : List D) (e : Py.Env) : RL := .ok (d :: ds) e
def consK {T : Tbl} {W : Wd T} (ms : XMs W) (P : List Nat) (d : D) (e : Py.Env) : RL := (ms.ev P e).thenL (consL (fz d))
def xmsCons (m : XM W) (ms : XMs W) : XMs W where
  t E := tCons (m.t E) (ms.t E)
  ev P env := (m.ev P env).thenL (consK ms P)
  snd := fun P E env hn e F σ H L Q hP r c cx => by
    have hm : m.ev P env ≠ .no := fun z => hn (by rw [z]; rfl)
    refine m.snd P E env hm e F σ H L _ hP r (fun d env1 v F1 H1 L1 M h r1 o nd kk => ?_) fun x env1 F1 H1 L1 C dd h r1 ie => cx x env1 F1 H1 L1 C dd (by rw [h]; rfl) r1 ie
    rw [h] at hn c cx
    have hn : (ms.ev P env1).thenL (consL (fz d)) ≠ .no := hn
    have hm2 : ms.ev P env1 ≠ .no := fun z => hn (by rw [z]; rfl)
    obtain ⟨F2, r2, sh, _⟩ := r1.frzTmp o nd kk
    refine ms.snd P E env1 hm2 ⟨F2, H1, L1, e.pins⟩ F2 σ H1 L1 _ hP r2.base (fun ds env3 vs F3 H3 L3 h3 r3 s3 => ?_) fun x env3 F3 H3 L3 C dd h3 r3 ie => ?_
    · exact c (fz d :: ds) env3 (v :: vs) F3 H3 L3 (show (ms.ev P env1).thenL (consL (fz d)) = _ by rw [h3]; rfl) (r2.comp r3) (.cons (sh.mono r3.s0) s3)
    · exact cx x env3 F3 H3 L3 C dd (show (ms.ev P env1).thenL (consL (fz d)) = _ by rw [h3]; rfl) (r2.comp r3) ie
def callM (φ : List D → Option Nat → Rz) (n : Nat) (dds ds : List D) (e : Py.Env) : RM := if (ds ++ dds).length = n then rm0 (φ (ds ++ dds) none) e else .no
/-- f(..) whose arguments may change things, and that may raise -/
def xmCallM (φ : List D → Option Nat → Rz) (n : Nat) (ms : XMs W) (dds : List D) (dvs : List V) (hd : ∀ F, Shrs W F dds dvs) : XM W where
  t E := fun σ H Q => tCall (spR W n φ none) dvs (WE E σ) (ms.t E) σ H Q
  ev P env := (ms.ev P env).thenM (callM φ n dds)
  snd := fun P E env hn e F σ H L Q hP r c cx => by
    have hm : ms.ev P env ≠ .no := fun z => hn (by rw [z]; rfl)
    refine ms.snd P E env hm e F σ H L _ hP r (fun ds env1 vs F1 H1 L1 h r1 sh => ?_) fun x env1 F1 H1 L1 C dd h r1 ie => cx x env1 F1 H1 L1 C dd (by rw [h]; rfl) r1 ie
    rw [h] at hn c cx
    have hn : callM φ n dds ds env1 ≠ .no := hn
    have c : ∀ d env' v F' H' L' M, callM φ n dds ds env1 = .ok d env' → _ := c
    have cx : ∀ x env' F' H' L' C dd, callM φ n dds ds env1 = .exn x env' → _ := cx
    unfold callM at hn c cx
    by_cases hl : (ds ++ dds).length = n
    · rw [if_pos hl] at hn c cx
      refine callX r1.sF (sh.append (hd F1)) hl (fun z => hn (by rw [z]; rfl)) (fun d b v F2 H2 eq x2 ⟨M, o, nd, kk⟩ => ?_) fun x b F2 H2 C dd eq x2 ie => ?_
      · rw [eq] at c
        exact c d env1 v F2 H2 L1 M rfl (r1.ext x2) o (nodup_new (H := H1) r1.nd nd r1.slots.lives fun a m => (kk a m).1) fun a m => ⟨(kk a m).2, r1.h0 (kk a m).1⟩
      · rw [eq] at cx
        exact cx x env1 F2 H2 L1 C dd rfl (r1.ext x2) ie
    · rw [if_neg hl] at hn; exact absurd rfl hn
inductive RT where
  | ok (b : Bool) (env : Py.Env) | exn (x : Exn) (env : Py.Env) | no
def ATr {T : Tbl} (W : Wd T) (P : List Nat) (E : WX) (t : TT) (env : Py.Env) (r : RT) : Prop := r ≠ .no →
  ∀ (e : Ent) (F : Hp) (σ : St) (H : Hp) (L : List Addr) (Q : Bool → Hp → Prop), P = e.pins.map (·.1) → Rel W e env F σ H L →
    (∀ b env' F' H' L', r = .ok b env' → Rel W e env' F' σ H' L' → Q b H') →
    (∀ x env' F' H' L' C dd, r = .exn x env' → Rel W e env' F' σ H' L' → IsExn W F' x C dd → E C dd σ H') → t σ H Q
structure XTM {T : Tbl} (W : Wd T) where
  t : WX → TT
  ev : List Nat → Py.Env → RT
  snd : ∀ P E env, ATr W P E (t E) env (ev P env)
def RT.of (o : Option Bool) (e : Py.Env) : RT := match o with
  | some b => .ok b e
  | none => .no
def xtmT (c : XT W) : XTM W where
  t _ := c.t
  ev _ env := RT.of (c.ev env) env
  snd := fun P E env hn e F σ H L Q hP r k kx => by
    match h : c.ev env, hn, k with
    | some b, hn, k => exact c.snd h e F σ H L _ r fun F' H' x => k b env F' H' L rfl (r.ext x)
    | none, hn, k => exact absurd rfl hn
def RT.then (r : RT) (f : Bool → Py.Env → RT) : RT := match r with
  | .ok d e => f d e
  | .exn x e => .exn x e
  | .no => .no
def RT.thenS (r : RT) (f : Bool → Py.Env → RS) : RS := match r with
  | .ok d e => f d e
  | .exn x e => .ex x e
  | .no => .no
def RM.thenT (r : RM) (f : D → Py.Env → RT) : RT := match r with
  | .ok d e => f d e
  | .exn x e => .exn x e
  | .no => .no
def RM.thenM (r : RM) (f : D → Py.Env → RM) : RM := match r with
  | .ok d e => f d e
  | .exn x e => .exn x e
  | .no => .no
def notK (b : Bool) (e : Py.Env) : RT := .ok (!b) e
def truK (d : D) (e : Py.Env) : RT := RT.of (truD (fz d)) e
def andK {T : Tbl} {W : Wd T} (u : XTM W) (P : List Nat) (b : Bool) (e : Py.Env) : RT := match b with
  | true => u.ev P e
  | false => .ok false e
def orK {T : Tbl} {W : Wd T} (u : XTM W) (P : List Nat) (b : Bool) (e : Py.Env) : RT := match b with
  | true => .ok true e
  | false => u.ev P e
theorem tru_ok {F H : Hp} {v : V} {d : D} {b : Bool} (y : Shr W H d v) (e : truD d = some b) : TruV W.K v H b := by
  cases y <;> first | (cases e; done) | (cases e; rfl) | skip
  · cases e
    show decide _ = (_ != 0)
    rw [Bool.eq_iff_iff]; simp
  · cases e; exact .inr (.inl ⟨_, .of (by assumption), isE (by assumption)⟩)
  · cases e; exact .inl ⟨_, .of (by assumption), isE (by assumption)⟩
def xtmTru (m : XM W) : XTM W where
  t E := fun σ H Q => m.t E σ H fun x H' => ∃ k, TruV W.K x H' k ∧ Q k H'
  ev P env := (m.ev P env).thenT truK
  snd := fun P E env hn e F σ H L Q hP r k kx => by
    have hm : m.ev P env ≠ .no := fun z => hn (by rw [z]; rfl)
    refine m.snd P E env hm e F σ H L _ hP r (fun d env1 v F1 H1 L1 M h r1 o nd kk => ?_) fun x env1 F1 H1 L1 C dd h r1 ie => kx x env1 F1 H1 L1 C dd (by rw [h]; rfl) r1 ie
    rw [h] at hn k
    have hn : truK d env1 ≠ .no := hn
    have k : ∀ b env' F' H' L', truK d env1 = .ok b env' → _ := k
    unfold truK at hn k
    obtain ⟨F2, r2, sh, _⟩ := r1.frzTmp o nd kk
    match h2 : truD (fz d), hn, k with
    | some b, hn, k => exact ⟨b, tru_ok (F := F2) (sh.mono r2.sF) h2, k b env1 F2 H1 L1 rfl r2⟩
    | none, hn, k => exact absurd rfl hn
def xtmNot (c : XTM W) : XTM W where
  t E := tNot (c.t E)
  ev P env := (c.ev P env).then notK
  snd := fun P E env hn e F σ H L Q hP r k kx => by
    have hm : c.ev P env ≠ .no := fun z => hn (by rw [z]; rfl)
    refine c.snd P E env hm e F σ H L _ hP r (fun b env1 F1 H1 L1 h r1 => ?_) fun x env1 F1 H1 L1 C dd h r1 ie => kx x env1 F1 H1 L1 C dd (by rw [h]; rfl) r1 ie
    rw [h] at k
    exact k (!b) env1 F1 H1 L1 rfl r1
def xtmAnd (c u : XTM W) : XTM W where
  t E := tAnd (c.t E) (u.t E)
  ev P env := (c.ev P env).then (andK u P)
  snd := fun P E env hn e F σ H L Q hP r k kx => by
    have hm : c.ev P env ≠ .no := fun z => hn (by rw [z]; rfl)
    refine c.snd P E env hm e F σ H L _ hP r (fun b env1 F1 H1 L1 h r1 => ?_) fun x env1 F1 H1 L1 C dd h r1 ie => kx x env1 F1 H1 L1 C dd (by rw [h]; rfl) r1 ie
    rw [h] at hn k kx
    cases b with
    | false => exact k false env1 F1 H1 L1 rfl r1
    | true =>
      have go := u.snd P E env1 hn ⟨F1, H1, L1, e.pins⟩ F1 σ H1 L1 Q hP r1.base (fun b2 env3 F3 H3 L3 h3 r3 => k b2 env3 F3 H3 L3 h3 (r1.comp r3)) fun x env3 F3 H3 L3 C dd h3 r3 ie => kx x env3 F3 H3 L3 C dd h3 (r1.comp r3) ie
      exact go
def xtmOr (c u : XTM W) : XTM W where
  t E := tOr (c.t E) (u.t E)
  ev P env := (c.ev P env).then (orK u P)
  snd := fun P E env hn e F σ H L Q hP r k kx => by
    have hm : c.ev P env ≠ .no := fun z => hn (by rw [z]; rfl)
    refine c.snd P E env hm e F σ H L _ hP r (fun b env1 F1 H1 L1 h r1 => ?_) fun x env1 F1 H1 L1 C dd h r1 ie => kx x env1 F1 H1 L1 C dd (by rw [h]; rfl) r1 ie
    rw [h] at hn k kx
    cases b with
    | true => exact k true env1 F1 H1 L1 rfl r1
    | false =>
      have go := u.snd P E env1 hn ⟨F1, H1, L1, e.pins⟩ F1 σ H1 L1 Q hP r1.base (fun b2 env3 F3 H3 L3 h3 r3 => k b2 env3 F3 H3 L3 h3 (r1.comp r3)) fun x env3 F3 H3 L3 C dd h3 r3 ie => kx x env3 F3 H3 L3 C dd h3 (r1.comp r3) ie
      exact go
def ifK {T : Tbl} {W : Wd T} (s u : XS W) (P : List Nat) (b : Bool) (e : Py.Env) : RS := match b with
  | true => s.ev P e
  | false => u.ev P e
theorem Sat.base {e : Ent} {F H : Hp} {σ : St} {L : List Addr} {A : AEnds} {Dn : Ends} (r : Rel W e env F σ H L) (s : Sat W e E A Dn) : Sat W ⟨F, H, L, e.pins⟩ E A Dn := by
  refine ⟨fun env' F' σ' H' L' a r' => s.nx _ _ _ _ _ a (r.comp r'), fun d env' F' σ' H' L' v M a r' o nd k => s.rt _ _ _ _ _ _ _ _ a (r.comp r') o nd fun b hb => ⟨(k b hb).1, ?_⟩, fun env' F' σ' H' L' a r' => s.bk _ _ _ _ _ a (r.comp r'), fun env' F' σ' H' L' a r' => s.ct _ _ _ _ _ a (r.comp r'), fun x env' F' σ' H' L' C dd a r' ie => s.ex _ _ _ _ _ _ _ _ a (r.comp r') ie⟩
  rcases (k b hb).2 with z | z
  · exact r.ln b z
  · exact r.h0 z
/-- an if whose test may change things -/
def xsIfM (c : XTM W) (s u : XS W) : XS W where
  t E := tIfS (c.t E) (s.t E) (u.t E)
  ev P env := (c.ev P env).thenS (ifK s u P)
  snd := fun P E env hn e F σ H L Dn hP r sat => by
    have hm : c.ev P env ≠ .no := fun z => hn (by rw [z]; rfl)
    refine c.snd P E env hm e F σ H L _ hP r (fun b env1 F1 H1 L1 h r1 => ?_) fun x env1 F1 H1 L1 C dd h r1 ie => sat.ex x env1 F1 σ H1 L1 C dd (by rw [h]; rfl) r1 ie
    rw [h] at hn sat
    cases b with
    | true => exact s.snd P E env1 hn ⟨F1, H1, L1, e.pins⟩ F1 σ H1 L1 Dn hP r1.base (Sat.base r1 sat)
    | false => exact u.snd P E env1 hn ⟨F1, H1, L1, e.pins⟩ F1 σ H1 L1 Dn hP r1.base (Sat.base r1 sat)
def opK {T : Tbl} {W : Wd T} (f : D → D → Option D) (b : XP W) (d : D) (e : Py.Env) : RM := RM.of ((b.evV e).bind fun y => f (fz d) y) e
/-- a op b, where a may change things -/
def xmOpL (r : R2) (f : D → D → Option D) (h : ∀ {x y d}, f x y = some d → Op2 W r x y d) (m : XM W) (b : XP W) : XM W where
  t E := tOp r (m.t E) b.t
  ev P env := (m.ev P env).thenM (opK f b)
  snd := fun P E env hn e F σ H L Q hP rl c cx => by
    have hm : m.ev P env ≠ .no := fun z => hn (by rw [z]; rfl)
    refine m.snd P E env hm e F σ H L _ hP rl (fun d env1 v F1 H1 L1 M hd r1 o nd kk => ?_) fun x env1 F1 H1 L1 C dd h r1 ie => cx x env1 F1 H1 L1 C dd (by rw [h]; rfl) r1 ie
    rw [hd] at hn c
    have hn : opK f b d env1 ≠ .no := hn
    have c : ∀ d' env' v F' H' L' M, opK f b d env1 = .ok d' env' → _ := c
    unfold opK at hn c
    obtain ⟨z, e1, e2⟩ := RM.of_ok hn
    rw [e2] at c
    obtain ⟨y, e3, e4⟩ := Option.bind_eq_some_iff.mp e1
    obtain ⟨F2, r2, sh, _⟩ := r1.frzTmp o nd kk
    refine b.sV e3 e F2 σ H1 L1 _ r2 fun w F3 H3 x3 y3 => h e4 F3 H3 v w Q x3.s ((sh.mono x3.f).mono x3.s) y3 fun u F4 H4 x4 ⟨M4, o4, nd4, k4⟩ => ?_
    have r4 := (r2.ext x3).ext x4
    exact c z env1 u F4 H4 L1 M4 rfl r4 o4 (nodup_new (H := H3) r1.nd nd4 (r2.ext x3).slots.lives fun a m => (k4 a m).1) fun a m => ⟨(k4 a m).2, (r2.ext x3).h0 (k4 a m).1⟩
end
end Py

namespace Py
open PySem L2
section
variable {CX : CXT} {P : Program} {w : World} {K : PySem.W.Frag} {mg : Str → Option Value} {base : Heap}
/-- a def's body, run at one state -/
theorem fn_at {j : Nat} {g : Addr} {gd : FuncData} {nm qual : Str} {st : Stmt} {N ps : List Str} (G : FunD K nm qual (defArgs st) (defBody st) (defScope st) [] [] g gd) (S : FnScope N ps (defScope st))
    {A : Around} {out : List PySem.Env} {s0 : Shared} {H0 : Hp} {ar : Args} {ws : List Value} {xs : List V} {Q : VK} {E : XK} (room : Room (j + 1) A) (at0 : Env0 P w K mg base A out s0 H0) (bd : BindsTo s0 gd ar (ps.zip ws)) (rel : Vals xs ws) (len : xs.length = ps.length)
    (bdy : ∀ cdv : Value, ∃ t, PSs (cxOf CX P w K mg base N qual (defScope st) g cdv A out s0 H0 E) (defBody st) t ∧ t { nx := fun _ h => Q .non h, rt := Q } (L2.start N xs) H0) :
    codeAny (model P w) A (.call (.ref g) ar) (CR CX out P w H0 s0 Q E) s0 := by
  obtain ⟨_, _, _, _, _, _, _, cdv, _, _, rfl, look, cod, _, _⟩ := G.ex
  have inK : K.In s0.heap := at0.mod.kin.keeps fun b o q => (at0.bs b o q).1
  have nl : s0.heap.NoLimit := at0.mod.nolimit.keeps fun b o q => (at0.bs b o q).1
  have kinds : ∀ z ∈ ps.zip ws, (defScope st).names.lookup z.1 = some .local ∨ ((defScope st).names.lookup z.1 = some .cell ∧ ((cellsFrom (s0.heap.objs.size + 1) (defScope st).names []).lookup z.1).isSome = true) := by
    rintro ⟨n, v⟩ hz
    refine (S.par n (List.of_mem_zip hz).1).imp id fun q => ⟨q, ?_⟩
    exact PySem.W.cellsFrom_some _ _ _ (.inl q)
  refine codeAny_call_function room.depth (inK _ _ look) rfl S.co S.gen rfl (PySem.W.codeRec_of inK cod) (bd _ _ _ _ ?_)
  refine wpAny_newFunctionEnv_cells S.kind kinds fun env1 e1 s1 ic => ?_
  subst e1
  refine ⟨nl.keeps ic.toInCall.keep, codeAny_func ?_⟩
  obtain ⟨t, hp, hq⟩ := bdy cdv
  have I := inv_start (CX := CX) (E := E) S room.hd at0 len rel ic
  refine wpAny_mono (hp.run [] s1 (L2.start N xs) H0 _ I hq) (fun fl s2 q => ?_) fun e s2 q => q
  have fin : ∀ {σ2 : St} {H2 : Hp} {v : V} {u : Value}, Inv (cxOf CX P w K mg base N qual (defScope st) g cdv A out s0 H0 E) [] σ2 H2 s2 → RelV v u → Q v H2 → CE out P w H0 s0 Q u s2 := fun J rv q => ⟨_, _, J.os, J.bare, J.base, J.hok, rv, q⟩
  cases fl with
  | ret u => obtain ⟨v, _, _, J, rv, q⟩ := q; exact fin J rv q
  | next => obtain ⟨_, _, J, q⟩ := q; exact fin (v := .non) (u := .none) J rfl q
  | brk => obtain ⟨_, _, _, q⟩ := q; exact False.elim q
  | cont => obtain ⟨_, _, _, q⟩ := q; exact False.elim q
/-- what a class's __iter__ gives at an instance: a new iterator of the list in the field f -/
structure ItAt (P : Program) (w : World) (K : PySem.W.Frag) (mg : Str → Option Value) (base : Heap) (C : Addr) (f : String) : Prop where
  ex : ∃ g, Meth K C "__iter__" g ∧ ∀ (A : Around) (out : List PySem.Env) (s : Shared) (H : Hp) (a dx l : Addr) (fs : List (Str × V)) (zs : List V), Room 1 A → Env0 P w K mg base A out s H → H a = some (.ins C dx fs) → fs.lookup (so f) = some (.ref l) → SqL K H l zs →
    codeAny (model P w) A (.call (.ref g) ⟨[.ref a], []⟩) (CR CX0 out P w H s (fun v H' => ∃ it, v = .ref it ∧ H it = none ∧ s.heap.objs.size ≤ it ∧ H' = upd H it (ItO l it 0)) E0) s
theorem it_of {C : Addr} {f : String} {nm qual : Str} {st : Stmt} {N ps : List Str} (D : ∃ g fd, FunD K nm qual (defArgs st) (defBody st) (defScope st) [] [] g fd ∧ Meth K C "__iter__" g) (S : FnScope N ps (defScope st)) (bp : BindsP nm qual st ps) (one : ps.length = 1) (hN : 0 < N.length) (hc : Cls K C) (hn : NoAttr K C (so f))
    (bdy : ∀ (g : Addr) (cdv : Value) (A : Around) (out : List PySem.Env) (s : Shared) (H : Hp), PSs (cxOf CX0 P w K mg base N qual (defScope st) g cdv A out s H E0) (defBody st) (tRet (tCB (ItX.rIterN K s.heap.objs.size) (tCons (tFld K (tVar 0) (so f)) tNil)))) : ItAt P w K mg base C f := by
  obtain ⟨g, fd, F, M⟩ := D
  refine ⟨g, M, fun A out s H a dx l fs zs room e0 ha hl hz => ?_⟩
  have b := F.bindsN bp s [.ref a] (e0.mod.kin.keeps fun b o q => (e0.bs b o q).1) (by simp [one])
  refine fn_at (j := 0) (xs := [V.ref a]) (ws := [Value.ref a]) F S room e0 (by simpa using b) (.cons (show RelV (V.ref a) (Value.ref a) from rfl) .nil) (by simp [one]) fun cdv => ⟨_, bdy g cdv A out s H, ?_⟩
  have h0 : (L2.start N [V.ref a])[0]? = some (some (.ref a)) := rfl
  exact ⟨_, h0, a, C, dx, fs, _, rfl, ha, hc, hn, hl, l, zs, rfl, hz, fun it h1 h2 => ⟨it, rfl, h1, h2, rfl⟩⟩
end
section
variable {X : Cx} {pins : List (Addr × Obj)} {σ : St} {H : Hp} {s : Shared}
/-- iter(o) -/
theorem own_iter {A : Around} {a dx l C : Addr} {f : String} {fs : List (Str × V)} {zs : List V} {Q : Value → Shared → Prop} (M : ItAt X.prog X.w X.K X.mg X.base C f) (sb : Sub X 1 A) (I : Inv X pins σ H s) (ha : H a = some (.ins C dx fs)) (hl : fs.lookup (so f) = some (.ref l)) (hz : SqL X.K H l zs)
    (q : ∀ s' it, Inv X pins σ H s' → s.heap.objs.size ≤ it → s'.heap.get? it = some (GNX.itObj l 0) → FpOk X pins H it → Q (.ref it) s') : wpAny (model X.prog X.w) A (pyIter (.ref a)) Q X.xe s := by
  obtain ⟨g, mg, run⟩ := M.ex
  obtain ⟨mA, J, _⟩ := ins_get I.hok ha
  obtain ⟨od, J, _⟩ := J.look
  obtain ⟨m, hF⟩ := I.fr
  refine PySem.W.owit_iter hF I.ok.mod.kin J mg.at_ mg.fn ?_
  have e := I.env0
  have e0 : Env0 X.prog X.w X.K X.mg X.base A X.stack s H := ⟨by rw [sb.fr]; exact e.frames, e.mod, e.bs, e.bsz, e.funs, e.frf, e.hok, e.bare⟩
  refine wpAny_call (codeAny_mono (run A X.stack s H a dx l fs zs sb.room e0 ha hl hz) fun r s' hq => ?_)
  cases r with
  | error er => exact (fun _ _ _ _ _ _ _ h => h.elim : Passes CX0 X E0) pins σ H s er s' I hq
  | ok fl =>
    cases fl with
    | next => exact False.elim hq
    | brk => exact False.elim hq
    | cont => exact False.elim hq
    | ret u =>
      obtain ⟨v, H', I', rv, it, rfl, hn, hs, rfl⟩ := I.after hq
      obtain rfl : u = Value.ref it := rv
      have hg := itO_get I' upd_same
      have I2 := ItX.inv_drop I' (φ := _) upd_same
      rw [ItX.dropH_upd hn] at I2
      have hT : s'.TypeIs (.ref it) "list_iterator" := ⟨_, hg, rfl⟩
      unfold PySem.W.OwitIt
      refine wpAny_specialOf (name := Str.ofString "__next__") hT slot_listiter_next.lookup ?_
      refine q s' it I2 hs hg ?_
      have fp := ItX.inv_fp I' upd_same (Nat.le_trans I.sz hs)
      rw [ItX.dropH_upd hn] at fp
      exact fp
end
section
variable {prog : Program} {w : World}
theorem new_en (x : Value) : MeetsIn prog w (Builtin.«enumerate.__new__» ⟨[.type "enumerate", x], []⟩) (fun A R s => wpAny (model prog w) A.in1 (pyIter x)
    (fun itv s1 => R (.ok (.ret (.ref s1.heap.objs.size))) { s1 with heap := s1.heap.push { cls := .type "enumerate", data := .fields #[.none, .bool false, itv, rawInt 0, .none, .none] } }) (fun e s1 => R (.error e) s1) s) :=
  .of_wp fun A R s h => by
    have hsub := sub_enumerate
    have hi : ∀ {Q : Value → Shared → Prop} {E : Value → Shared → Prop}, (∀ itv s1, R (.ok (.ret (.ref s1.heap.objs.size))) { s1 with heap := s1.heap.push { cls := .type "enumerate", data := .fields #[.none, .bool false, itv, rawInt 0, .none, .none] } } → Q itv s1) →
        (∀ e s1, R (.error e) s1 → E e s1) → wpAny (model prog w) A.in1 (pyIter x) Q E s := fun q e => wpAny_mono h q e
    wp_walk using hi
    refine wpAny_stack_any fun st => wpAny_pure ?_
    split
    · rename_i c _ _ _ _ _
      cases (c == Value.type "enumerate")
      · wp_walk using hi
        all_goals first
          | exact fun _ _ q => q
          | (intro itv s1 hR; wp_walk; exact ⟨_, rfl, hR⟩)
      · wp_walk using hi
        all_goals first
          | exact fun _ _ q => q
          | (intro itv s1 hR; wp_walk; exact ⟨_, rfl, hR⟩)
    · wp_walk using hi
      all_goals first
        | exact fun _ _ q => q
        | (intro itv s1 hR; wp_walk; exact ⟨_, rfl, hR⟩)
theorem call_en {A : Around} {E : Value → Shared → Prop} {s : Shared} {x : Value} {Q : Value → Shared → Prop}
    (hr : wpAny (model prog w) A.in1.in1 (pyIter x) (fun itv s1 => ∃ it, itv = .ref it ∧ ∀ h', IsEnum h' s1.heap.objs.size it 0 .none → h'.objs.size = s1.heap.objs.size + 1 → (∀ c o, s1.heap.get? c = some o → h'.get? c = some o) → Q (.ref s1.heap.objs.size) { s1 with heap := h' }) E s) :
    wpAny (model prog w) A (call (.type "enumerate") [x]) Q E s := by
  refine callType_newIn F.called_enumerate (by decide) (F.typeCall_enumerate_1 _) (F.newCall_enumerate_1 _) (fun obj => F.args_object_init_2 obj _) F.entry_enumerate_new (new_en x) ?_
  show wpAny (model prog w) A.in1.in1 (pyIter x) _ _ _
  refine wpAny_mono hr (fun itv s1 h => ?_) fun _ _ z => z
  obtain ⟨it, rfl, h⟩ := h
  have z : (s1.heap.push { cls := .type "enumerate", data := .fields #[.none, .bool false, .ref it, rawInt 0, .none, .none] }).objs.size = s1.heap.objs.size + 1 := Heap.size_push ..
  have g : IsEnum (s1.heap.push { cls := .type "enumerate", data := .fields #[.none, .bool false, .ref it, rawInt 0, .none, .none] }) s1.heap.objs.size it 0 .none := Heap.get?_push_size _ rfl
  show _ ∧ _
  exact ⟨⟨_, g, rfl⟩, h _ g z fun c o e => Heap.get?_push_of_some _ e⟩
end
section
variable {T : Tbl} {W : Wd T}
/-- each class of the text that is walked -/
structure Its (P : Program) (w : World) (K : PySem.W.Frag) (mg : Str → Option Value) (base : Heap) {T : Tbl} (W : Wd T) : Prop where
  at_ : ∀ c f, W.has c → T.it c = some f → ItAt P w K mg base (W.cA c) f
/-- an instance and the list that it walks -/
def InsL {T : Tbl} (W : Wd T) (H : Hp) (a l : Addr) (zs : List V) : Prop := ∃ c f dx fs, W.has c ∧ T.it c = some f ∧ H a = some (.ins (W.cA c) dx fs) ∧ fs.lookup (so f) = some (.ref l) ∧ SqL W.K H l zs
def iOwn {T : Tbl} (W : Wd T) (tl : TE) : TI := fun σ H R => tl σ H fun x H1 => ∃ a l zs, x = .ref a ∧ InsL W H1 a l zs ∧ R (Itl W.K l) H1
theorem pi_own {X : Cx} {tg l : Expr} {tl : TE} (M : Its X.prog X.w X.K X.mg X.base W) (hr : Room 1 X.A) (hK : W.K = X.K) (hl : PE X l tl) : PI X tg l (iOwn W tl) := by
  refine ⟨fun pins s σ H R I h => ?_⟩
  refine thn (hl.run pins s σ H _ I h) fun v s1 ⟨x, H1, I1, r1, a, l, zs, e, ⟨c, f, dx, fs, hc, hf, ha, hlk, hz⟩, q⟩ => ?_
  subst e
  cases r1
  refine own_iter (M.at_ c f hc hf) ⟨hr, rfl⟩ I1 ha hlk (hK ▸ hz) fun s2 it I2 hs hg fp => ?_
  refine ⟨it, [it], _, _, H1, rfl, I2, turn_list l it, ⟨_, hg, rfl, rfl⟩, fun b hb => ?_, hK ▸ q⟩
  obtain rfl : b = it := by simpa using hb
  exact fp
def iEnumOwn {T : Tbl} (W : Wd T) (ta : TA) : TI := fun σ H R => ta σ H fun vs H1 => ∃ a l zs, vs = [.ref a] ∧ InsL W H1 a l zs ∧ R (Ite W.K l) H1
theorem pi_enumOwn {X : Cx} {e : Expr} {ta : TA} {p pos tpos : Pos} {elts : List Expr} {kk : Nat} (M : Its X.prog X.w X.K X.mg X.base W) (hr : Room 3 X.A) (hK : W.K = X.K) (hg : Gl X "enumerate") (hm : X.mg "enumerate" = none) (ha : PA X [e] ta) (hs : starEach [e] X.env = [(false, eval e X.env)] := by rfl) :
    PI X (.Tuple elts kk tpos) (.Call (.Name "enumerate" p) [e] [] pos) (iEnumOwn W ta) := by
  refine ⟨fun pins s σ H R I h => ?_⟩
  refine PyProof.Rows.Call_ (ld_blt I hg hm PyProof.Rows.boot_enumerate (PyProof.Rows.callWith_type1 (thn (ha.run pos pins s σ H _ I h) fun us s1 ⟨vs, H1, I1, r1, q1⟩ => ?_) hs rfl))
  obtain ⟨a, l, zs, ex, ⟨c, f, dx, fs, hc, hf, ha, hlk, hz⟩, q⟩ := q1
  subst ex
  cases r1 with
  | cons r rr =>
    cases rr
    cases r
    have go : wpAny (model X.prog X.w) X.A.in1.in1 (pyIter (.ref a)) (fun itv s2 => ∃ it, itv = .ref it ∧ ∀ h', IsEnum h' s2.heap.objs.size it 0 .none → h'.objs.size = s2.heap.objs.size + 1 → (∀ b o, s2.heap.get? b = some o → h'.get? b = some o) →
        wpAny (model X.prog X.w) X.A (pyIter (.ref s2.heap.objs.size)) (PIE X pins σ (.Tuple elts kk tpos) R) X.xe { s2 with heap := h' }) X.xe s1 := by
      refine own_iter (M.at_ c f hc hf) (Sub.in1 (Sub.in1 ⟨hr, rfl⟩)) I1 ha hlk (hK ▸ hz) fun s2 it I2 hs hg fp => ⟨it, rfl, fun h' he hsz hk => wpAny_pyIter_enum he ?_⟩
      have I3 : Inv X pins σ H1 { s2 with heap := h' } := I2.kept (t' := s2.toks) hk
      have hlt : it < s2.heap.objs.size := Heap.lt_size hg
      refine ⟨s2.heap.objs.size, [s2.heap.objs.size, it], _, _, H1, rfl, I3, turn_enum l s2.heap.objs.size it, ⟨⟨.none, he⟩, ⟨_, hk _ _ hg, rfl, rfl⟩, Nat.ne_of_gt hlt⟩, fun b hb => ?_, hK ▸ q⟩
      have e' : b = s2.heap.objs.size ∨ b = it := by simpa using hb
      rcases e' with z | z
      · subst z; exact I2.fpOk (Nat.le_refl _) (I2.hok.fresh (Nat.le_refl _))
      · subst z; exact fp
    exact call_en go
end
end Py

namespace Py
open PySem L2
section
variable {T : Tbl} {W : Wd T} {X : Cx} {pins : List (Addr × Obj)} {σ : St} {H : Hp} {s : Shared}
theorem sub_env {A : Around} {n : Nat} (sb : Sub X n A) (I : Inv X pins σ H s) : Env0 X.prog X.w X.K X.mg X.base A X.stack s H :=
  have e := I.env0
  ⟨by rw [sb.fr]; exact e.frames, e.mod, e.bs, e.bsz, e.funs, e.frf, e.hok, e.bare⟩
/-- len(o), anywhere -/
theorem own_len {A : Around} {k : Nat} {φ : Sem} {a dx : Addr} {c nm : String} {fs : List (Str × V)} {Q : Int → Hp → Prop} {E : Value → Shared → Prop} (M : Mt X.prog X.w X.K X.mg X.base W k "__len__" 1 φ none) (sb : Sub X (k + 1) A) (hK : W.K = X.K) (I : Inv X pins σ H s) (ea : H a = some (.ins (W.cA c) dx fs))
    (hc : W.has c) (hn : T.res c "__len__" = some nm) (h : spR W 1 (φ nm) none [.ref a] H (fun v H' => ∃ i, v = .int i ∧ 0 ≤ i ∧ i < 2 ^ 63 ∧ Q i H') E0) :
    wpAny (model X.prog X.w) A (call (.builtin "len") [.ref a]) (fun u s' => ∃ i t H', u = .int i t ∧ 0 ≤ i ∧ i < 2 ^ 63 ∧ Inv X pins σ H' s' ∧ Q i H') E s := by
  obtain ⟨g, fd, ps, hm, F, hb⟩ := M.ex c nm hc hn
  obtain ⟨mA, O, _, _, _, _⟩ := ins_get I.hok ea
  obtain ⟨od, J, _⟩ := O.look
  have hl : ([Value.ref a] ++ []).length = ps.length := by rw [← F.len _ _ _ _ h]; rfl
  have sb1 := Sub.in1 sb
  refine len_own I.kIn J hm.at_ hm.fn (wpAny_call ?_)
  refine codeAny_mono (F.run A.in1 X.stack s H ⟨[.ref a], []⟩ [.ref a] [.ref a] _ E0 sb1.room (sub_env sb1 I) (hb s [.ref a] I.kIn hl) (.cons rfl .nil) h) fun r s' hq => ?_
  cases r with
  | error er => exact (cx_no hq).elim
  | ok fl =>
    cases fl with
    | ret u =>
      obtain ⟨v, H', I3, rv, i, rfl, h0, h1, q3⟩ := I.after hq
      obtain ⟨t, rfl⟩ := (show ∃ t, u = Value.int i t from rv)
      exact ⟨⟨h0, h1⟩, i, _, H', rfl, h0, h1, I3.tok _, q3⟩
    | next => exact False.elim hq
    | brk => exact False.elim hq
    | cont => exact False.elim hq
/-- the iterator's items go to the list at q, one by one -/
theorem ext_loop {A : Around} {q it l : Addr} {zs : List V} {Rs : Result → Shared → Prop} (hh : A.in1.handled = none) (hz : zs.length ≤ sizeLine) (hne : it ≠ q) (hs : ∀ xs, SqL X.K (upd H q (.lst xs)) l zs) (hf : ∀ xs, FpOk X pins (upd H q (.lst xs)) it)
    (done : ∀ s', Inv X pins σ (upd H q (.lst zs)) s' → Rs (.ok (.ret .none)) s') :
    ∀ (n i : Nat) (s : Shared), zs.length - i = n → i ≤ zs.length → Inv X pins σ (upd H q (.lst (zs.take i))) s → s.heap.IsListIter it l i → codeAny (model X.prog X.w) A (.builtin "list.extend.loop" ⟨[.ref q, .ref it, .none], []⟩) Rs s := by
  intro n
  induction n with
  | zero =>
    intro i s hn hi I st
    obtain rfl : i = zs.length := by omega
    obtain ⟨its, rv, p, hz'⟩ := I.list (hs _)
    have hl := rv.length
    obtain ⟨f0, f1, f2, f3, f4, f5⟩ := hf (zs.take zs.length)
    refine codeAny_builtin PySem.F.entry_extend_loop ?_
    rw [Around.under_plainId PySem.F.plain_extend_loop _]
    show wpAny _ A.in1 (pyNext (.ref it) >>= _) _ _ s
    refine wpAny_bind (wpAny_pyNext_list_end hh st p.isList (by simp; omega) fun h' eb => ?_)
    have I1 := I.turned (t' := s.toks) (fun b o hb e => eb b o hb e) f0 f1 f3 f4 f5
    rw [List.take_length] at I1
    exact wpAny_pure (done _ I1)
  | succ n ih =>
    intro i s hn hi I st
    obtain ⟨its, rv, p, hz'⟩ := I.list (hs _)
    have hx : zs[i]? = some (zs[i]'(by omega)) := List.getElem?_eq_getElem (by omega)
    obtain ⟨u, hu, ru⟩ := rv.get hx
    obtain ⟨f0, f1, f2, f3, f4, f5⟩ := hf (zs.take i)
    refine codeAny_builtin PySem.F.entry_extend_loop ?_
    rw [Around.under_plainId PySem.F.plain_extend_loop _]
    show wpAny _ A.in1 (pyNext (.ref it) >>= _) _ _ s
    refine wpAny_bind (wpAny_pyNext_list_item st p.isList (x := u) (by simpa using hu) fun h' st' sb => ?_)
    have I1 : Inv X pins σ (upd H q (.lst (zs.take i))) { s with heap := h' } := I.turned (t' := s.toks) (fun b o hb e => (sb.2 b hb).trans e) f0 f1 f3 f4 f5
    show wpAny _ A.in1 (updateSeq q (·.push u) >>= _) _ _ _
    obtain ⟨z, its2, k, r2, hl, e⟩ := I1.lstM upd_same
    have hlen : (zs.take i).length = i := by rw [List.length_take]; omega
    have ht : zs.take (i + 1) = zs.take i ++ [zs[i]'(by omega)] := by rw [List.take_add_one, hx]; rfl
    refine wpAny_bind (wpAny_updateSeq e rfl (wpAny_pure ⟨plainId_quiet PySem.F.plain_extend_loop _, ?_⟩) (by rw [List.size_toArray]; omega) (by show (its2.toArray.push u).size ≤ sizeLine + 1; rw [Array.size_push, List.size_toArray]; omega))
    have I2 := I1.lset (f := (·.push u)) (its' := its2 ++ [u]) (ys := zs.take (i + 1)) (t' := s.toks) upd_same e (by simp) (by rw [ht]; exact r2.append (.cons ru .nil)) (by rw [List.length_take]; omega)
    rw [upd_upd] at I2
    exact ih (i + 1) _ (by omega) (by omega) I2 (st'.at fun o e => (Heap.get?_update_other _ _ (Ne.symm hne)).trans e)
/-- how the length is asked ahead -/
theorem own_hint {A : Around} {k : Nat} {φ : Sem} {a dx : Addr} {c nm : String} {fs : List (Str × V)} {Q : Hp → Prop} {R : Bool → Shared → Prop} (M : Mt X.prog X.w X.K X.mg X.base W k "__len__" 1 φ none) (sb : Sub X (k + 1) A) (hK : W.K = X.K) (I : Inv X pins σ H s) (ea : H a = some (.ins (W.cA c) dx fs))
    (hc : W.has c) (hn : T.res c "__len__" = some nm) (h : spR W 1 (φ nm) none [.ref a] H (fun v H' => ∃ i, v = .int i ∧ 0 ≤ i ∧ i ≤ 1000000 ∧ Q H') E0) (q : ∀ b s' H', Inv X pins σ H' s' → Q H' → R b s') :
    wpAny (model X.prog X.w) A (Builtin.List.listLengthHint (.ref a)) R X.xe s := by
  obtain ⟨g, fd, ps, hm, F, hb⟩ := M.ex c nm hc hn
  obtain ⟨mA, O, _, _, _, _⟩ := ins_get I.hok ea
  obtain ⟨od, J, _⟩ := O.look
  unfold Builtin.List.listLengthHint
  refine wpAny_bind (wpAny_bind (J.type.here ((PySem.W.looks_findIn I.kIn hm.at_).here ?_)))
  refine PySem.W.KFB.if_not rfl ?_
  show wpAny _ _ (rule "list.length-hint.len" >>= _) _ _ _
  refine wpAny_bind (wpAny_rule ?_)
  refine wpAny_bind (wpAny_attempt (wpAny_mono (own_len (E := fun _ _ => False) (Q := fun i H' => i ≤ 1000000 ∧ Q H') M sb hK I ea hc hn ?_) (fun u s' hu => ?_) fun e s' he => (show False from he).elim))
  · obtain ⟨F', args, L0, h1, h2, h3, h4, h5, h6, h7, h8⟩ := h
    refine ⟨F', args, L0, h1, h2, h3, h4, h5, h6, fun d bd e F2 H2 v M Mb p o ob nd kk => ?_, h8⟩
    obtain ⟨i, rfl, z0, z1, z2⟩ := h7 d bd e F2 H2 v M Mb p o ob nd kk
    exact ⟨i, rfl, z0, by omega, z1, z2⟩
  · obtain ⟨i, t, H', rfl, h0, h1, I', hle, hq⟩ := hu
    show wpAny _ _ (if Builtin.List.listTooLong i.toNat = true then _ else _) _ _ _
    rw [if_neg (by rw [notLongL (Nat.le_trans (show i.toNat ≤ 1000000 by omega) (by decide))]; decide)]
    exact wpAny_pure (q _ s' H' I' hq)
/-- list(o) -/
def rLstO {T : Tbl} (W : Wd T) (φ : Sem) : List V → Hp → VK → Prop := fun xs H Q => ∃ a c f l dx fs zs nm, xs = [.ref a] ∧ W.has c ∧ T.it c = some f ∧ T.res c "__len__" = some nm ∧ H a = some (.ins (W.cA c) dx fs) ∧ fs.lookup (so f) = some (.ref l) ∧ SqL W.K H l zs ∧ zs.length ≤ 1000000 ∧
  ∀ q, H q = none → spR W 1 (φ nm) none [.ref a] (upd H q (.lst [])) (fun v H' => ∃ i, v = .int i ∧ 0 ≤ i ∧ i ≤ 1000000 ∧ H' q = some (.lst []) ∧ SqL W.K H' l zs ∧ (∀ xs, SqL W.K (upd H' q (.lst xs)) l zs) ∧ Q (.ref q) (upd H' q (.lst zs))) E0
theorem call_listI {k : Nat} {φ : Sem} (M : Mt X.prog X.w X.K X.mg X.base W k "__len__" 1 φ none) (N : Its X.prog X.w X.K X.mg X.base W) (hr : Room (k + 3) X.A) (hK : W.K = X.K) : CallR X (.type "list") (rLstO W φ) := by
  rintro pins s σ H xs us Q I rv ⟨a, c, f, l, dx, fs, zs, nm, rfl, hc, hf, hn, ea, hlk, hz, hzl, hq⟩
  cases rv with
  | @cons _ u _ _ ru rt =>
  cases rt
  obtain rfl : u = Value.ref a := ru
  have sb : Sub X (k + 1) X.A.in1.in1 := Sub.in1 (Sub.in1 (⟨hr, rfl⟩ : Sub X (k + 3) X.A))
  refine callType_codes (Q₁ := fun obj s₁ => obj = .ref s.heap.objs.size ∧ s₁ = { s with heap := s.heap.push { cls := .type "list", data := .seq #[] } }) PySem.F.called_list (PySem.F.typeCall_list_1 _) PySem.F.entry_list_init
    (code_list_new _ ⟨rfl, rfl⟩) fun obj s₁ h₁ => ?_
  obtain ⟨rfl, rfl⟩ := h₁
  have hS : (s.heap.push { cls := .type "list", data := .seq #[] }).get? s.heap.objs.size = some { cls := .type "list", data := .seq #[] } := Heap.get?_push_size _ rfl
  refine ⟨⟨_, hS, rfl⟩, PySem.F.args_list_init_2 _ _, ?_⟩
  have fr : H s.heap.objs.size = none := I.hok.fresh (Nat.le_refl _)
  have hsp := hq _ fr
  generalize hqq : s.heap.objs.size = q at *
  have I1 : Inv X pins σ (upd H q (.lst [])) { s with heap := s.heap.push { cls := .type "list", data := .seq #[] } } := by rw [← hqq]; exact I.lnew (its := []) (t' := s.toks) .nil (Nat.zero_le _)
  show wpAny _ _ (do let old ← Builtin.List.listItems (.ref q); Builtin.List.listUpdate (.ref q) (fun _ => #[]); letGo old.toList.reverse; Builtin.List.listExtendWith (.ref q) (.ref a) .none) _ _ _
  refine wpAny_bind ?_
  unfold Builtin.List.listItems
  refine wpAny_bind (wpAny_seqItems hS rfl (wpAny_pure ?_))
  show wpAny _ _ (updateSeq q (fun _ => #[]) >>= fun _ => letGo (#[] : Array Value).toList.reverse >>= fun _ => Builtin.List.listExtendWith (.ref q) (.ref a) .none) _ _ _
  refine wpAny_bind (wpAny_updateSeq hS rfl ?_)
  have I2 := I1.lset (f := fun _ => #[]) (its := []) (its' := []) (ys := []) (t' := s.toks) upd_same hS rfl .nil (Nat.zero_le _)
  rw [upd_upd] at I2
  refine wpAny_bind (wpAny_letGo ?_)
  have ea2 : upd H q (.lst []) a = some (.ins (W.cA c) dx fs) := by rw [upd_ne (ne_of_none ea fr)]; exact ea
  have hne : q ≠ a := fun z => by rw [z, ea] at fr; cases fr
  obtain ⟨mA, J, _⟩ := ins_get I2.hok ea2
  obtain ⟨od, J, _⟩ := J.look
  unfold Builtin.List.listExtendWith
  refine wpAny_bind (J.type.here ?_)
  have h1 : Builtin.List.listSameRef (.ref q) (.ref a) = false := by simp [Builtin.List.listSameRef, hne]
  have h2 : (Value.ref (W.cA c) == Value.type "list") = false := rfl
  have h3 : (Value.ref (W.cA c) == Value.type "tuple") = false := rfl
  simp only [h1, h2, h3, Bool.or_false, Bool.false_eq_true, if_false]
  have hz2 : SqL X.K (upd H q (.lst [])) l zs := hK ▸ (same_new fr).seq hz
  refine wpAny_bind (wpAny_mono (own_iter (N.at_ c f hc hf) (sb.mono (by omega)) I2 ea2 hlk hz2 fun s2 it I3 hs hg fp => ?_) (fun _ _ z => z) fun e s' he => he)
  have p1 : ∀ b ∈ [it], FpOk X pins (upd H q (.lst [])) b := fun b hb => by
    obtain rfl : b = it := by simpa using hb
    exact fp
  have p2 : ∀ b ∈ [it], ∃ o, s2.heap.get? b = some o ∧ ∀ v, o.data ≠ .cell v := fun b hb => by
    obtain rfl : b = it := by simpa using hb
    exact ⟨_, hg, fun v z => nomatch z⟩
  have I3' := I3.pinned p1 p2
  have hpin : pinsAt [it] s2.heap = [(it, GNX.itObj l 0)] := by simp [pinsAt, hg]
  rw [hpin] at I3'
  have niq : it ≠ q := fun z => by
    have := fp.1
    rw [z, upd_same] at this
    cases this
  have hand : X.A.in1.in1.handled = none := sb.room.hd
  have go : ∀ (H' : Hp) (s' : Shared), Inv X (pins ++ [(it, GNX.itObj l 0)]) σ H' s' → H' q = some (.lst []) → (∀ xs, SqL W.K (upd H' q (.lst xs)) l zs) → Q (.ref q) (upd H' q (.lst zs)) →
      codeAny (model X.prog X.w) X.A.in1 (.builtin "list.extend.loop" ⟨[.ref q, .ref it, .none], []⟩) (wants (fun r s₂ => r = .none ∧ EP X pins σ Q (.ref q) s₂) X.xe) s' := by
    intro H' s' I' e1 e2 e3
    have pn := I'.pin (it, GNX.itObj l 0) (List.mem_append_right _ (List.mem_append_right _ (by simp)))
    have hu : upd H' q (.lst (zs.take 0)) = H' := by
      funext b
      by_cases hb : b = q
      · subst hb; rw [upd_same, e1]; rfl
      · rw [upd_ne hb]
    refine ext_loop hand (Nat.le_trans hzl (by decide)) niq (hK ▸ e2) (fun xs => ⟨by rw [upd_ne niq]; exact pn.2.1, fp.2⟩) (fun s3 J3 => ⟨rfl, .ref q, _, J3, rfl, e3⟩) _ 0 s' rfl (Nat.zero_le _) (by rw [hu]; exact I'.unpinned) ⟨_, pn.1, rfl, rfl⟩
  refine wpAny_bind (wpAny_holding (wpAny_mono (own_hint M sb hK I3' ea2 hc hn hsp (R := fun b s' => ∃ H', Inv X (pins ++ [(it, GNX.itObj l 0)]) σ H' s' ∧ H' q = some (.lst []) ∧ SqL W.K H' l zs ∧ (∀ xs, SqL W.K (upd H' q (.lst xs)) l zs) ∧ Q (.ref q) (upd H' q (.lst zs))) fun b s' H' I' h => ⟨H', I', h⟩) (fun b s' h => ?_) fun e s' he => he))
  obtain ⟨H', I', e1, _, e2, e3⟩ := h
  refine wpAny_ite_split (fun _ => ?_) (fun _ => wpAny_pure ⟨plainId_quiet PySem.F.plain_extend_loop _, go H' s' I' e1 e2 e3⟩)
  refine wpAny_bind (wpAny_rule ?_)
  refine wpAny_bind ?_
  show wpAny _ _ (updateSeq q (·.push .none) >>= fun _ => updateSeq q (·.pop)) _ _ _
  obtain ⟨z4, its4, k4, r4, hl4, e4⟩ := I'.lstM e1
  cases r4
  refine wpAny_bind (wpAny_updateSeq e4 rfl ?_)
  have I5 := I'.lset (f := (·.push Value.none)) (its' := [Value.none]) (ys := [.non]) (t' := s'.toks) e1 e4 (by simp) (.cons rfl .nil) (by decide)
  obtain ⟨z6, its6, k6, r6, hl6, e6⟩ := I5.lstM upd_same
  obtain ⟨u6, rfl, ru6⟩ := r6.one
  refine wpAny_updateSeq e6 rfl ?_ (by show 1 ≤ sizeLine; decide) (by show 0 ≤ sizeLine + 1; exact Nat.zero_le _)
  have I7 := I5.lset (f := (·.pop)) (its := [u6]) (its' := []) (ys := []) (t' := s'.toks) upd_same e6 (by rfl) .nil (Nat.zero_le _)
  rw [upd_upd] at I7
  have hu : upd H' q (.lst []) = H' := by
    funext b
    by_cases hb : b = q
    · subst hb; rw [upd_same, e1]
    · rw [upd_ne hb]
  rw [hu] at I7
  exact wpAny_pure ⟨plainId_quiet PySem.F.plain_extend_loop _, go H' _ I7 e1 e2 e3⟩
end
end Py

namespace Py
open PySem L2
section
variable {T : Tbl} {W : Wd T} {env : Py.Env} {d : D}
/-- the list that an instance walks -/
def itOf (T : Tbl) : D → Option (List D)
  | .ins c ns xs => (T.it c).bind fun f => (pos f ns).bind fun j => (xs[j]?).bind lstOf
  | .oins c ns xs => (T.it c).bind fun f => (pos f ns).bind fun j => (xs[j]?).bind lstOf
  | _ => none
theorem itOf_ok {F H : Hp} {v : V} {L : List Addr} {zs : List D} (s : Same F H) (o : Own W F H d v L) (h : itOf T d = some zs) :
    ∃ a c f l dx fs vs, v = .ref a ∧ W.has c ∧ T.it c = some f ∧ H a = some (.ins (W.cA c) dx fs) ∧ fs.lookup (so f) = some (.ref l) ∧ H l = some (.lst vs) ∧ Shrs W F zs vs ∧ (∃ ns xs, fz d = .ins c ns xs) := by
  have gen : ∀ {c ns xs us dx a M}, ((T.it c).bind fun f => (pos f ns).bind fun j => (xs[j]?).bind lstOf) = some zs → H a = some (.ins (W.cA c) dx ((ns.map so).zip us)) → W.has c → Owns W F H xs us M → (∃ ns xs, fz d = .ins c ns xs) →
      ∃ a' c f l dx fs vs, V.ref a = .ref a' ∧ W.has c ∧ T.it c = some f ∧ H a' = some (.ins (W.cA c) dx fs) ∧ fs.lookup (so f) = some (.ref l) ∧ H l = some (.lst vs) ∧ Shrs W F zs vs ∧ (∃ ns xs, fz d = .ins c ns xs) := by
    intro c ns xs us dx a M e ha hc os hz
    obtain ⟨f, e1, e⟩ := Option.bind_eq_some_iff.mp e
    obtain ⟨j, e2, e⟩ := Option.bind_eq_some_iff.mp e
    obtain ⟨x, e3, e⟩ := Option.bind_eq_some_iff.mp e
    obtain ⟨u, M', e4, o'⟩ := os.get e3
    obtain ⟨l, vs, rfl, sh, hl⟩ := lstOf_ok s o' e
    exact ⟨a, c, f, l, dx, _, vs, rfl, hc, e1, ha, (zip_lookup e2).trans e4, hl, sh, hz⟩
  cases o with
  | sh y =>
    cases y <;> first | (cases h; done) | skip
    exact gen h (s _ _ (by assumption)) (by assumption) (Shrs.owns (by assumption)) ⟨_, _, by rw [fz_isSh rfl]⟩
  | olst => cases h
  | odic => cases h
  | odit => cases h
  | odig => cases h
  | oins ha hc hl hs => exact gen h ha hc hs ⟨_, _, by rw [fz]⟩
def lstE (T : Tbl) (φ : Sem) (d : D) : Option (Kd × D) := match seqOf d with
  | some p => some (.fr, .olst p.2)
  | none => (itOf T d).bind fun zs => (lenI1 T φ [fz d]).bind fun _ => if zs.length ≤ 1000000 then some (.fr, .olst zs) else none
/-- the same expression, its value shared from here on -/
def xFz (a : XP W) : XP W where
  t := a.t
  ev env := (a.evF env).map (Prod.mk .fr)
  snd := fun {env k d} e => by
    obtain ⟨d1, e1, e⟩ := Option.map_eq_some_iff.mp e
    cases e
    exact fun e' F σ H L Q r q => a.sF e1 e' F σ H L _ r fun v F1 H1 x1 y1 => q _ F1 _ x1 (rO_sh y1)
/-- list(xs), also of an instance -/
def xListU (φ : Sem) (a : XP W) : XP W where
  t := tCB (fun xs H Q => (∃ p ys, xs = [.ref p] ∧ (SqL W.K H p ys ∨ SqT W.K H p ys) ∧ ∀ l, H l = none → Q (.ref l) (upd H l (.lst ys))) ∨ rLstO W φ xs H Q) (tCons a.t tNil)
  ev env := (a.evK env).bind (lstE T φ)
  snd := fun {env k d} e => by
    obtain ⟨d1, e1, e⟩ := Option.bind_eq_some_iff.mp e
    unfold lstE at e
    split at e
    · rename_i p e3
      have h := (xList a).snd (show (xList a).ev env = some (k, d) by show (a.evK env).bind _ = _; rw [e1, Option.bind_some, e3]; exact e)
      exact fun e' F σ H L Q r q => a.sK e1 e' F σ H L _ r fun v F1 H1 x1 y1 => by
        obtain ⟨L1, o⟩ := y1
        cases e
        obtain ⟨b, xs⟩ := p
        obtain ⟨a', vs, rfl, sh, sq⟩ := seqOf_ok x1.s o e3
        refine .inl ⟨a', vs, rfl, ?_, fun p hp => q _ F1 _ (x1.trans (.newH x1.s hp)) ⟨[p], .olst upd_same sh.owns, by simp, fun x m => by
          rw [List.mem_singleton.mp m]; exact ⟨x1.h.free hp, x1.s.free hp⟩⟩⟩
        cases b with
        | true => exact .inr sq
        | false => exact .inl sq
    · obtain ⟨zs, e2, e⟩ := Option.bind_eq_some_iff.mp e
      obtain ⟨n, e3, e⟩ := Option.bind_eq_some_iff.mp e
      obtain ⟨hz, e⟩ := ite_some e
      cases e
      refine fun e' F σ H L Q r q => a.sK e1 e' F σ H L _ r fun v F1 H1 x1 y1 => ?_
      obtain ⟨L1, o⟩ := y1
      obtain ⟨a', c, f, l, dx, fs, vs, rfl, hc, hf, ha, hlk, hl, sh, ns, xs, hfz⟩ := itOf_ok x1.s o e2
      rw [hfz] at e3
      rcases lenI1_ok e3 with e3 | ⟨c', ns', xs', nm, i, b, e4, h1, h2, h3, h4, rfl⟩
      · cases e3
      cases e4
      refine .inr ⟨a', c, f, l, dx, fs, vs, nm, rfl, hc, hf, h1, ha, hlk, .of hl, by rw [← sh.length]; exact hz, fun p hp => ?_⟩
      have nF : F1 p = none := x1.s.free hp
      have sv : Shr W (upd H1 p (.lst [])) (.ins c ns xs) (.ref a') := by
        rw [← hfz]
        exact (o.view x1.s fun _ _ _ z => z).mono (same_new hp)
      have lp : l ≠ p := fun z => by rw [z, hp] at hl; cases hl
      refine callV (F := F1) (x1.s.trans (same_new hp)) (.cons sv .nil) rfl h2 fun u H2 x2 y2 => ?_
      rw [fz_isSh rfl] at y2
      cases y2
      have hl2 : H2 l = some (.lst vs) := x2.h _ _ (by rw [upd_ne lp]; exact hl)
      refine ⟨i, rfl, h3, h4, x2.h _ _ upd_same, .of hl2, fun ys => .of (by rw [upd_ne lp]; exact hl2), ?_⟩
      refine q _ F1 _ (x1.trans ⟨Same.refl _, same_upd x2.s nF, fun b u hb => ?_, fun _ _ z => .inl z⟩) ⟨[p], .olst upd_same sh.owns, by simp, fun x m => by
        rw [List.mem_singleton.mp m]; exact ⟨x1.h.free hp, nF⟩⟩
      have hb' : b ≠ p := fun z => by rw [z, hp] at hb; cases hb
      rw [upd_ne hb']
      exact x2.h _ _ (by rw [upd_ne hb']; exact hb)
theorem InsL.mono {H H' : Hp} (e : Same H H') {a l : Addr} {zs : List V} (h : InsL W H a l zs) : InsL W H' a l zs := by
  obtain ⟨c, f, dx, fs, h1, h2, h3, h4, h5⟩ := h
  exact ⟨c, f, dx, fs, h1, h2, e _ _ h3, h4, e.seq h5⟩
def seqFI (T : Tbl) (d : D) : Option (List D) := match seqF d with
  | some ds => some ds
  | none => guardB (isSh d) (itOf T d)
def seqKI (T : Tbl) (d : D) : Option (List D) := match seqOf d with
  | some p => some p.2
  | none => itOf T d
def xiSeqU (a : XP W) : XI W where
  t := fun σ H R => iSeqU W.K a.t σ H R ∨ iOwn W a.t σ H R
  evF env := (a.evF env).bind (seqFI T)
  evP env := (a.evK env).bind (seqKI T)
  sF := fun {env ds} e => by
    obtain ⟨d, e1, e⟩ := Option.bind_eq_some_iff.mp e
    unfold seqFI at e
    split at e
    · rename_i ds' e2
      cases e
      exact fun e' F σ H L R r q => .inl ((xiSeq a).sF (show (xiSeq a).evF env = some ds by show (a.evF env).bind _ = _; rw [e1]; exact e2) e' F σ H L R r q)
    · obtain ⟨hs, e⟩ := guardB_some e
      refine fun e' F σ H L R r q => .inr (a.sF e1 e' F σ H L _ r fun v F1 H1 x1 y1 => ?_)
      obtain ⟨a', c, f, l, dx, fs, vs, rfl, hc, hf, ha, hlk, hl, sh, _⟩ := itOf_ok (H := F1) (Same.refl F1) (.sh y1) e
      exact ⟨a', l, vs, rfl, InsL.mono x1.s ⟨c, f, dx, fs, hc, hf, ha, hlk, .of hl⟩, q _ F1 H1 x1 (seq_list hl sh)⟩
  sP := fun {env ds} e => by
    obtain ⟨d, e1, e⟩ := Option.bind_eq_some_iff.mp e
    unfold seqKI at e
    split at e
    · rename_i p e2
      cases e
      exact fun e' F σ H L R r q => .inl ((xiSeq a).sP (show (xiSeq a).evP env = some p.2 by show (a.evK env).bind _ = _; rw [e1, Option.bind_some, e2]; rfl) e' F σ H L R r q)
    · refine fun e' F σ H L R r q => .inr (a.sK e1 e' F σ H L _ r fun v F1 H1 x1 ⟨M, o⟩ => ?_)
      obtain ⟨a', c, f, l, dx, fs, vs, rfl, hc, hf, ha, hlk, hl, sh, _⟩ := itOf_ok x1.s o e
      exact ⟨a', l, vs, rfl, ⟨c, f, dx, fs, hc, hf, ha, hlk, .of hl⟩, q _ F1 H1 x1 (seqP_sql (.of hl) sh)⟩
theorem seqP_enum {F0 H0 : Hp} {a : Addr} {ds : List D} {vs : List V} (h : SqL W.K H0 a vs) (hs : Shrs W F0 ds vs) : SeqP W (Ite W.K a) (enumD ds) F0 H0 where
  go := fun i d F H s1 s0 s2 hd => by
    obtain ⟨y, hy, rfl⟩ := enumD_get hd
    obtain ⟨w, hw, sw⟩ := hs.get hy
    refine ⟨⟨vs, w, s0.seq h, hw⟩, fun x H' yl => ?_⟩
    obtain ⟨T, y', rfl, hT, rfl, hy'⟩ := yl
    have := hy' vs (s0.seq h)
    rw [hw] at this; cases this
    exact ⟨_, .new s2 hT, .tup upd_same (.cons .int (.cons ((sw.mono s1).mono (same_new (s2.free hT))) .nil))⟩
  stop := fun F H s1 s0 s2 => ⟨vs, s0.seq h, by rw [enumD_length, hs.length]; exact Nat.le_refl _⟩
theorem seq_enum {F0 : Hp} {a : Addr} {ds : List D} {vs : List V} (h : SqL W.K F0 a vs) (hs : Shrs W F0 ds vs) : Seq W (Ite W.K a) (enumD ds) F0 where
  go := fun i d F H s1 s2 hd => (seqP_enum (H0 := F0) h hs).go i d F H s1 (s1.trans s2) s2 hd
  stop := fun F H s1 s2 => (seqP_enum (H0 := F0) h hs).stop F H s1 (s1.trans s2) s2
def enFI (T : Tbl) (d : D) : Option (List D) := match lstF d with
  | some ds => some (enumD ds)
  | none => guardB (isSh d) ((itOf T d).map enumD)
def enKI (T : Tbl) (d : D) : Option (List D) := match lstOf d with
  | some ds => some (enumD ds)
  | none => (itOf T d).map enumD
def xiEnumU (a : XP W) : XI W where
  t := fun σ H R => iEnum W.K (tCons a.t tNil) σ H R ∨ iEnumOwn W (tCons a.t tNil) σ H R
  evF env := (a.evF env).bind (enFI T)
  evP env := (a.evK env).bind (enKI T)
  sF := fun {env ds} e => by
    obtain ⟨d, e1, e⟩ := Option.bind_eq_some_iff.mp e
    unfold enFI at e
    split at e
    · rename_i ds' e2
      cases e
      cases lstF_ok e2
      exact fun e' F σ H L R r q => .inl (ait_enum (a.sF e1) e' F σ H L R r q)
    · obtain ⟨hs, e⟩ := guardB_some e
      obtain ⟨zs, e9, rfl⟩ := Option.map_eq_some_iff.mp e
      refine fun e' F σ H L R r q => .inr (a.sF e1 e' F σ H L _ r fun v F1 H1 x1 y1 => ?_)
      obtain ⟨a', c, f, l, dx, fs, vs, rfl, hc, hf, ha, hlk, hl, sh, _⟩ := itOf_ok (H := F1) (Same.refl F1) (.sh y1) e9
      exact ⟨a', l, vs, rfl, InsL.mono x1.s ⟨c, f, dx, fs, hc, hf, ha, hlk, .of hl⟩, q _ F1 H1 x1 (seq_enum (.of hl) sh)⟩
  sP := fun {env ds} e => by
    obtain ⟨d, e1, e⟩ := Option.bind_eq_some_iff.mp e
    unfold enKI at e
    split at e
    · rename_i xs e2
      cases e
      refine fun e' F σ H L R r q => .inl (a.sK e1 e' F σ H L _ r fun v F1 H1 x1 ⟨M, o⟩ => ?_)
      obtain ⟨a', vs, rfl, sh, hl⟩ := lstOf_ok x1.s o e2
      exact ⟨a', vs, rfl, .of hl, q _ F1 H1 x1 (seqP_enum (.of hl) sh)⟩
    · obtain ⟨zs, e9, rfl⟩ := Option.map_eq_some_iff.mp e
      refine fun e' F σ H L R r q => .inr (a.sK e1 e' F σ H L _ r fun v F1 H1 x1 ⟨M, o⟩ => ?_)
      obtain ⟨a', c, f, l, dx, fs, vs, rfl, hc, hf, ha, hlk, hl, sh, _⟩ := itOf_ok x1.s o e9
      exact ⟨a', l, vs, rfl, ⟨c, f, dx, fs, hc, hf, ha, hlk, .of hl⟩, q _ F1 H1 x1 (seqP_enum (.of hl) sh)⟩
end
theorem pi_or {X : Cx} {tg e : Expr} {w1 w2 : TI} (h1 : PI X tg e w1) (h2 : PI X tg e w2) : PI X tg e (fun σ H R => w1 σ H R ∨ w2 σ H R) :=
  ⟨fun pins s σ H R I h => h.elim (h1.run pins s σ H R I) (h2.run pins s σ H R I)⟩
theorem ro0 {k : Nat} {A : Around} (r : Room (k + 3) A) : Room k A := r.mono (by omega)
theorem ro1 {k : Nat} {A : Around} (r : Room (k + 3) A) : Room (k + 1) A := r.mono (by omega)
theorem ro2 {k : Nat} {A : Around} (r : Room (k + 3) A) : Room (k + 2) A := r.mono (by omega)
section
variable {T : Tbl} {W : Wd T} {X : Cx}
/-- a built-in class as a value -/
theorem px_ty {c : Str} {n : String} {p : Pos} (hm : X.mg c = none) (hg : Gl X c := by rfl) (hb : bootBuiltins c = some (.type n) := by decide +kernel) (hn : c ≠ "__name__" := by decide) (hd : (c == ("__debug__" : Str)) = false := by decide) :
    PE X (.Name c p) (tC (clsV W (false, n))) := pe_bltn hg hm hb rfl hn hd
theorem px_isiT {cs : List (Bool × String)} {a : Expr} {ta : TE} {es : List Expr} {kk : Nat} {p1 p2 pos : Pos} (hm : X.mg "isinstance" = none) (hk : ∀ c ∈ cs, c.1 = false ∧ c.2 ∈ ["int", "bool", "str", "list", "tuple", "dict"]) (hl : cs.length ≤ 100) (ha : PE X a ta) (hc : PA X es (tCls W cs)) (hg : Gl X "isinstance" := by rfl)
    (hs : starEach [a, .Tuple es kk p2] X.env = (false, eval a X.env) :: starEach [.Tuple es kk p2] X.env := by rfl) (hs2 : starEach [.Tuple es kk p2] X.env = (false, eval (.Tuple es kk p2) X.env) :: starEach [] X.env := by rfl)
    (hpl : (backTo pos (starEach [.Tuple es kk p2] X.env)).any (·.1) = false := by rfl) (hplE : (starEach es X.env).any (·.1) = false := by rfl) :
    PE X (.Call (.Name "isinstance" p1) [a, .Tuple es kk p2] [] pos) (fun σ H Q => (∀ c ∈ cs, clsOk W c) → cs.length ≤ 100 → tCB (rIsiT X.K) (tCons ta (tCons (tTup (tCls W cs)) tNil)) σ H Q) :=
  pe_imp (fun c hc => by unfold clsOk; rw [if_neg (by rw [(hk c hc).1]; decide)]; exact (hk c hc).2) (pe_imp hl (pe_callB call_isiT hg hm (by decide +kernel) (pa_cons ha (pa_cons (pe_tup hc) pa_nil hs2) hs) (he := hs) (hpl := hpl)))
end
end Py

namespace Py
open PySem L2
structure Dun {T : Tbl} (W : Wd T) : Prop where
  sf : ∀ c, W.has c → PySem.W.selfFirst W.K (W.cA c) = true
  nt : ∀ c t, W.has c → t ∈ ["NoneType", "bool", "int", "str", "list", "tuple", "dict"] → PySem.W.notFirst W.K (W.cA c) (.type t) = true
  gi : ∀ c g, W.has c → PySem.W.findIn W.K (.ref (W.cA c)) (so "__getitem__") = some (some (.ref g)) → PySem.W.fnIn W.K g = true
theorem rel_ni {v : V} {u : Value} (r : RelV v u) : u ≠ .notImplemented := by
  rintro rfl
  cases v <;> first | (cases r; done) | (obtain ⟨_, h⟩ := r; cases h)
theorem cmpBack {Q : Value → Shared → Prop} {u : Value} {s' : Shared} (hn : u ≠ .notImplemented) (h : Q u s') : PySem.W.CmpBack Q u s' := by
  cases u <;> first | exact h | exact absurd rfl hn
section
variable {T : Tbl} {W : Wd T}
/-- what the other side of an operator may be -/
def rOwn (W : Wd T) (φ : Sem) (m : String) (g : String → V → Hp → Prop) : R2 := fun x y H Q => ∃ a c nm dx fs, x = .ref a ∧ H a = some (.ins (W.cA c) dx fs) ∧ W.has c ∧ T.res c m = some nm ∧ g c y H ∧ spR W 2 (φ nm) none [x, y] H Q E0
def gAny : String → V → Hp → Prop := fun _ _ _ => True
def gSame (W : Wd T) : String → V → Hp → Prop := fun c y H => ∃ b dx fs, y = .ref b ∧ H b = some (.ins (W.cA c) dx fs)
def gEq (W : Wd T) : String → V → Hp → Prop := fun c y H => gSame W c y H ∨ y = .non ∨ (∃ b, y = .bl b) ∨ (∃ i, y = .int i) ∨ (∃ x, y = .str x) ∨ ∃ b vs, y = .ref b ∧ (SqL W.K H b vs ∨ SqT W.K H b vs)
section
variable {X : Cx} {pins : List (Addr × Obj)} {σ : St} {H : Hp} {s : Shared}
theorem own_call2 {A : Around} {k : Nat} {φ : Sem} {m : String} {a : Addr} {c nm : String} {y : V} {u : Value} {Q : VK} {E : Value → Shared → Prop} (M : Mt X.prog X.w X.K X.mg X.base W k m 2 φ none) (sb : Sub X k A) (I : Inv X pins σ H s)
    (hc : W.has c) (hn : T.res c m = some nm) (ru : RelV y u) (h : spR W 2 (φ nm) none [.ref a, y] H Q E0) :
    ∃ g, Meth X.K (W.cA c) (so m) g ∧ wpAny (model X.prog X.w) A (call (.ref g) [.ref a, u]) (EP X pins σ Q) E s := by
  obtain ⟨g, fd, ps, hm, F, hb⟩ := M.ex c nm hc hn
  have hl : ([Value.ref a, u] ++ []).length = ps.length := by rw [← F.len _ _ _ _ h]; rfl
  refine ⟨g, hm, wpAny_call ?_⟩
  refine codeAny_mono (F.run A X.stack s H ⟨[.ref a, u], []⟩ [.ref a, u] [.ref a, y] _ E0 sb.room (sub_env sb I) (hb s [.ref a, u] I.kIn hl) (.cons rfl (.cons ru .nil)) h) fun r s' hq => ?_
  cases r with
  | error er => exact (cx_no hq).elim
  | ok fl =>
    cases fl with
    | ret u =>
      obtain ⟨v, H', I3, rv, q⟩ := I.after hq
      exact ⟨v, H', I3, rv, q⟩
    | next => exact False.elim hq
    | brk => exact False.elim hq
    | cont => exact False.elim hq
theorem ep_ni {Q : VK} {u : Value} {s' : Shared} (h : EP X pins σ Q u s') : PySem.W.CmpBack (EP X pins σ Q) u s' := by
  obtain ⟨v, H', I, rv, q⟩ := h
  exact cmpBack (rel_ni rv) ⟨v, H', I, rv, q⟩
theorem look_same {c : String} {y : V} {u : Value} (I : Inv X pins σ H s) (ry : RelV y u) (h : gSame W c y H) : PySem.W.Looks (model X.prog X.w) s.heap (typeOf u) (.ref (W.cA c)) := by
  obtain ⟨b, dx, fs, rfl, hb⟩ := h
  obtain rfl : u = Value.ref b := ry
  obtain ⟨mA, J, _⟩ := ins_get I.hok hb
  obtain ⟨od, J, _⟩ := J.look
  exact J.type
theorem look_ty {t : String} {a : Addr} (h : s.TypeIs (.ref a) t) : PySem.W.Looks (model X.prog X.w) s.heap (typeOf (.ref a)) (.type t) := by
  obtain ⟨o, h1, h2⟩ := h
  exact fun A Q E s k q => wpAny_typeOf_ref (k _ _ h1) (by rw [h2]; exact q)
/-- x == y by x's class -/
theorem op_eqOwn {k : Nat} {φ : Sem} (D : Dun W) (M : Mt X.prog X.w X.K X.mg X.base W k "__eq__" 2 φ none) (hr : Room k X.A) (hK : W.K = X.K) : OpR X (compareOp .Eq) (rOwn W φ "__eq__" (gEq W)) := by
  rintro pins s σ H x y v u Q I rx ry ⟨a, c, nm, dx, fs, rfl, ea, hc, hn, hg, h⟩
  obtain rfl : v = Value.ref a := rx
  obtain ⟨g, hm, hcall⟩ := own_call2 (A := X.A) (E := X.xe) M ⟨hr, rfl⟩ I hc hn ry h
  obtain ⟨mA, J, _⟩ := ins_get I.hok ea
  obtain ⟨od, J, _⟩ := J.look
  obtain ⟨m, hF⟩ := I.fr
  have go : ∀ tb, PySem.W.Looks (model X.prog X.w) s.heap (typeOf u) tb → PySem.W.notFirst X.K (W.cA c) tb = true → wpAny (model X.prog X.w) X.A (compareOp .Eq (.ref a) u) (EP X pins σ Q) X.xe s := fun tb ht hf =>
    PySem.W.cmp_K (op := .Eq) hr.units0 hF I.ok.mod.kin J ht hf hm.at_ hm.fn (wpAny_mono hcall (fun _ _ z => ep_ni z) fun _ _ z => z)
  rw [← hK] at go
  rcases hg with hg | rfl | ⟨b, rfl⟩ | ⟨i, rfl⟩ | ⟨x, rfl⟩ | ⟨b, vs, rfl, hg⟩
  · exact go _ (look_same I ry hg) (by unfold PySem.W.notFirst; simp)
  · obtain rfl : u = Value.none := ry
    exact go (.type "NoneType") (.of_pure rfl) (D.nt c _ hc (by simp))
  · obtain rfl : u = Value.bool b := ry
    exact go (.type "bool") (.of_pure rfl) (D.nt c _ hc (by simp))
  · obtain ⟨t, rfl⟩ : ∃ t, u = Value.int i t := ry
    exact go (.type "int") (.of_pure rfl) (D.nt c _ hc (by simp))
  · obtain ⟨t, rfl⟩ : ∃ t, u = Value.str x t := ry
    exact go (.type "str") (.of_pure rfl) (D.nt c _ hc (by simp))
  · obtain rfl : u = Value.ref b := ry
    rcases hg with hg | hg
    · obtain ⟨its, _, p, _⟩ := I.list (hK ▸ hg)
      obtain ⟨o, n, e1, e2, _, _⟩ := p
      exact go (.type "list") (look_ty ⟨o, e1, e2⟩) (D.nt c _ hc (by simp))
    · obtain ⟨its, _, p, _⟩ := I.tuple (hK ▸ hg)
      obtain ⟨o, e1, e2, _, _⟩ := p
      exact go (.type "tuple") (look_ty ⟨o, e1, e2⟩) (D.nt c _ hc (by simp))
/-- x op y, both of one class -/
theorem op_binOwn {op : Operator} {mm : String} {k : Nat} {φ : Sem} (D : Dun W) (M : Mt X.prog X.w X.K X.mg X.base W k mm 2 φ none) (hr : Room k X.A) (hK : W.K = X.K) (ho : PySem.dunder op.info.2 = so mm := by rfl) : OpR X (binaryOp op) (rOwn W φ mm (gSame W)) := by
  rintro pins s σ H x y v u Q I rx ry ⟨a, c, nm, dx, fs, rfl, ea, hc, hn, hg, h⟩
  obtain rfl : v = Value.ref a := rx
  obtain ⟨g, hm, hcall⟩ := own_call2 (A := X.A) (E := X.xe) M ⟨hr, rfl⟩ I hc hn ry h
  obtain ⟨mA, J, _⟩ := ins_get I.hok ea
  obtain ⟨od, J, _⟩ := J.look
  obtain ⟨m, hF⟩ := I.fr
  exact PySem.W.binop_K hF I.ok.mod.kin J (look_same I ry hg) (hK ▸ D.sf c hc) (by rw [ho]; exact hm.at_) hm.fn (wpAny_mono hcall (fun _ _ z => ep_ni z) fun _ _ z => z)
/-- x[i] -/
theorem pe_ixO {r : R2} {k : Nat} {φ : Sem} {a b : Expr} {ta tb : TE} {pos : Pos} (hi : IxR X r) (D : Dun W) (M : Mt X.prog X.w X.K X.mg X.base W k "__getitem__" 2 φ none) (hr : Room (k + 1) X.A) (hK : W.K = X.K) (ha : PE X a ta) (hb : PE X b tb) (hs : PlainIx b)
    (hs2 : ∀ o i, subscripted b true o i = runValue (.builtin "lifetime.subscript" ⟨[o, i], []⟩)) : PE X (.Subscript a b pos) (tOp (fun x y H Q => r x y H Q ∨ rOwn W φ "__getitem__" gAny x y H Q) ta tb) := by
  refine ⟨fun pins s σ H Q I h => ?_⟩
  refine PyProof.Rows.Subscript_ (binT ha hb I h fun v u s2 x y H2 I2 rx ry q => ?_)
  rcases q with q | ⟨a', c, nm, dx, fs, rfl, ea, hc, hn, _, h⟩
  · exact hi a b pins s2 σ H2 x y v u Q I2 rx ry q (hs _ _)
  · obtain rfl : v = Value.ref a' := rx
    obtain ⟨g, hm, hcall⟩ := own_call2 (A := X.A.in1) (E := X.xe) M (Sub.in1 ⟨hr, rfl⟩) I2 hc hn ry h
    obtain ⟨mA, J, _⟩ := ins_get I2.hok ea
    obtain ⟨od, J, _⟩ := J.look
    obtain ⟨m, hF⟩ := I2.fr
    have hm1 := hm.at_
    exact PySem.W.sub_K hF I2.ok.mod.kin J hm1 (hK ▸ D.gi c g hc (hK ▸ hm1)) hm.fn hcall (hs2 _ _)
end
def ownE (T : Tbl) (φ : Sem) (m : String) (ok : String → D → Bool) (x y : D) : Option Rz := match x with
  | .ins c _ _ => if ok c y = true then some (meth1 T φ m 2 [x, y]) else none
  | _ => none
def ownEF (T : Tbl) (φ : Sem) (m : String) (ok : String → D → Bool) (f g v w : Option D) : Option (Kd × D) := match f, g with
  | some x, some y => (ownE T φ m ok x y).bind Rz.toF
  | _, _ => match v, w with
    | some x, some y => (ownE T φ m ok x y).bind Rz.toV
    | _, _ => none
theorem ownE_ok {φ : Sem} {m : String} {ok : String → D → Bool} {x y : D} {r : Rz} (h : ownE T φ m ok x y = some r) (hn : r ≠ .no) : ∃ c ns xs nm, x = .ins c ns xs ∧ ok c y = true ∧ T.res c m = some nm ∧ r = φ nm [x, y] none := by
  unfold ownE at h
  split at h
  · rename_i c ns xs
    obtain ⟨h1, h⟩ := ite_some h
    subst h
    obtain ⟨c', ns', xs', nm, e, h2, h3, h4, h5⟩ := meth1_ok hn
    cases e
    exact ⟨c, ns, xs, nm, rfl, h1, h2, h5⟩
  · cases h
def OkG (W : Wd T) (ok : String → D → Bool) (g : String → V → Hp → Prop) : Prop := ∀ c y H v, ok c y = true → Shr W H y v → g c v H
theorem own_snd {r : R2} {φ : Sem} {m : String} {ok : String → D → Bool} {g : String → V → Hp → Prop} (hg : OkG W ok g) (a b : XP W) {env : Py.Env} {k : Kd} {d : D} (e : ownEF T φ m ok (a.evF env) (b.evF env) (a.evV env) (b.evV env) = some (k, d)) :
    AE W (tOp (fun x y H Q => r x y H Q ∨ rOwn W φ m g x y H Q) a.t b.t) env (rK W k d) := by
  unfold ownEF at e
  have viewed : ∀ {x y}, a.evV env = some x → b.evV env = some y → (ownE T φ m ok x y).bind Rz.toV = some (k, d) → AE W (tOp (fun x y H Q => r x y H Q ∨ rOwn W φ m g x y H Q) a.t b.t) env (rK W k d) := by
    intro x y e1 e2 e
    obtain ⟨z, h, e⟩ := Option.bind_eq_some_iff.mp e
    obtain ⟨d2, b2, e3, hk⟩ := Rz.toV_ok e
    subst e3
    obtain ⟨c, ns, xs, nm, rfl, h1, h2, h3⟩ := ownE_ok h (by nofun)
    refine fun e' F σ H L Q r q => a.sV e1 e' F σ H L _ r fun v F1 H1 x1 y1 => b.sV e2 e' F1 σ H1 L _ (r.ext x1) fun u F2 H2 x2 y2 => ?_
    have y1 := y1.mono x2.h
    obtain ⟨p, dx, vs, rfl, hp, hc⟩ := shr_ins y1
    refine .inr ⟨p, c, nm, dx, _, rfl, hp, hc, h2, hg _ _ _ _ h1 y2, ?_⟩
    refine callV x2.s (.cons y1 (.cons y2 .nil)) rfl h3.symm fun v H3 x3 y3 => q v F2 H3 ((x1.trans x2).trans x3) ?_
    rcases hk with ⟨hf, rfl, rfl⟩ | ⟨rfl, rfl⟩
    · rw [fz_isSh (isSh_flat hf)] at y3
      exact rO_sh (y3.flat hf)
    · exact y3
  split at e
  · rename_i x y e1 e2
    obtain ⟨z, h, e⟩ := Option.bind_eq_some_iff.mp e
    obtain ⟨rfl, b2, e3⟩ := Rz.toF_ok e
    subst e3
    obtain ⟨c, ns, xs, nm, rfl, h1, h2, h3⟩ := ownE_ok h (by nofun)
    refine fun e' F σ H L Q r q => a.sF e1 e' F σ H L _ r fun v F1 H1 x1 y1 => b.sF e2 e' F1 σ H1 L _ (r.ext x1) fun u F2 H2 x2 y2 => ?_
    have y1 := y1.mono x2.f
    obtain ⟨p, dx, vs, rfl, hp, hc⟩ := shr_ins y1
    refine .inr ⟨p, c, nm, dx, _, rfl, x2.s _ _ hp, hc, h2, hg _ _ _ _ h1 (y2.mono x2.s), ?_⟩
    exact callF x2.s (.cons y1 (.cons y2 .nil)) rfl h3.symm fun v F3 H3 x3 y3 => q v F3 H3 ((x1.trans x2).trans x3) (rO_back (x1.trans x2).h y3)
  · split at e
    · exact viewed (by assumption) (by assumption) e
    · cases e
def okAny : String → D → Bool := fun _ _ => true
def okSame : String → D → Bool := fun c y => match y with
  | .ins c' _ _ => decide (c' = c)
  | _ => false
def okEq : String → D → Bool := fun c y => match y with
  | .ins c' _ _ => decide (c' = c)
  | .non | .bl _ | .int _ | .str _ | .lst _ | .tup _ | .scr _ => true
  | _ => false
theorem okG_any : OkG W okAny gAny := fun _ _ _ _ _ _ => trivial
theorem okG_same : OkG W okSame (gSame W) := fun c y H v h s => by
  unfold okSame at h
  split at h
  · obtain rfl := of_decide_eq_true h
    obtain ⟨p, dx, vs, rfl, hp, _⟩ := shr_ins s
    exact ⟨p, dx, _, rfl, hp⟩
  · cases h
theorem okG_eq : OkG W okEq (gEq W) := fun c y H v h s => by
  unfold okEq at h
  split at h
  · obtain rfl := of_decide_eq_true h
    obtain ⟨p, dx, vs, rfl, hp, _⟩ := shr_ins s
    exact .inl ⟨p, dx, _, rfl, hp⟩
  · cases s; exact .inr (.inl rfl)
  · cases s; exact .inr (.inr (.inl ⟨_, rfl⟩))
  · cases s; exact .inr (.inr (.inr (.inl ⟨_, rfl⟩)))
  · cases s; exact .inr (.inr (.inr (.inr (.inl ⟨_, rfl⟩))))
  · cases s with | lst ha _ => exact .inr (.inr (.inr (.inr (.inr ⟨_, _, rfl, .inl (.of ha)⟩))))
  · cases s with | tup ha _ => exact .inr (.inr (.inr (.inr (.inr ⟨_, _, rfl, .inr (.of ha)⟩))))
  · cases s with | scr ha => exact .inr (.inr (.inr (.inr (.inr ⟨_, _, rfl, .inl ha⟩))))
  · cases h
def orI {α : Type} : Option α → Option α → Option α
  | some x, _ => some x
  | none, y => y
theorem orI_ok {α : Type} {x y : Option α} {z : α} (h : orI x y = some z) : x = some z ∨ y = some z := by
  cases x with
  | none => exact .inr h
  | some w => exact .inl h
/-- xs[i], also of an instance -/
def xIxO (φ : Sem) (a b : XP W) : XP W where
  t := tOp (fun x y H Q => rIxU W.K x y H Q ∨ rOwn W φ "__getitem__" gAny x y H Q) a.t b.t
  ev env := orI ((a.ev env).bind fun p => (b.evV env).bind fun y => (ixD p.2 y).map p.1.of) (ownEF T φ "__getitem__" okAny (a.evF env) (b.evF env) (a.evV env) (b.evV env))
  snd := fun {env k d} e => by
    rcases orI_ok e with e | e
    · obtain ⟨⟨k1, d1⟩, e1, e⟩ := Option.bind_eq_some_iff.mp e
      obtain ⟨y, e2, e⟩ := Option.bind_eq_some_iff.mp e
      obtain ⟨x, e3, e9⟩ := Option.map_eq_some_iff.mp e
      intro e' F σ H L Q r q
      refine a.snd e1 e' F σ H L _ r fun v F1 H1 x1 y1 => b.sV e2 e' F1 σ H1 L _ (r.ext x1) fun u F2 H2 x2 y2 => ?_
      obtain ⟨L1, o⟩ := rK_own y1
      have o2 := o.ext x2
      cases y <;> first | (cases e3; done) | skip
      cases y2
      obtain ⟨w, M, o3, c⟩ := ixD_ok (basis_same x2.s) o2 e3
      exact .inl (c _ (q w F2 H2 (x1.trans x2) (rK_of x2.s o3 e9)))
    · exact own_snd okG_any a b e
/-- a == b, also of instances -/
def xEqO (φ : Sem) (a b : XP W) : XP W where
  t := tOp (fun x y H Q => (rEq x y H Q ∨ rEqD W.K x y H Q) ∨ rOwn W φ "__eq__" (gEq W) x y H Q) a.t b.t
  ev env := orI ((a.evV env).bind fun x => (b.evV env).bind fun y => (eqD x y).map (Prod.mk .fr)) (ownEF T φ "__eq__" okEq (a.evF env) (b.evF env) (a.evV env) (b.evV env))
  snd := fun {env k d} e => by
    rcases orI_ok e with e | e
    · obtain ⟨x, e1, e⟩ := Option.bind_eq_some_iff.mp e
      obtain ⟨y, e2, e⟩ := Option.bind_eq_some_iff.mp e
      obtain ⟨z, e3, e⟩ := Option.map_eq_some_iff.mp e
      cases e
      obtain ⟨⟨h1, h2⟩, rfl⟩ := ite_some e3
      obtain ⟨p, p1, p2, p3⟩ := okD_pd h1
      obtain ⟨q, q1, q2, q3⟩ := okD_pd h2
      rw [eqB_pd x p1 q1]
      refine ae_op2 (a.sV e1) (b.sV e2) ?_
      exact fun F H v u Q s sx sy q' => .inl (o2_r (o2_eqD p1 q1 (okD_sh (x := x) p2 p3) (okD_sh (x := y) q2 q3)) F H v u Q s sx sy q')
    · exact own_snd okG_eq a b e
/-- a + b, also of instances -/
def xAddO (φ : Sem) (a b : XP W) : XP W where
  t := fun σ H Q => (xAdd a b).t σ H Q ∨ tOp (fun x y H Q => False ∨ rOwn W φ "__add__" (gSame W) x y H Q) a.t b.t σ H Q
  ev env := orI ((xAdd a b).ev env) (ownEF T φ "__add__" okSame (a.evF env) (b.evF env) (a.evV env) (b.evV env))
  snd := fun {env k d} e => by
    rcases orI_ok e with e | e
    · exact fun e' F σ H L Q r q => .inl ((xAdd a b).snd e e' F σ H L Q r q)
    · exact fun e' F σ H L Q r q => .inr (own_snd (r := fun x y H Q => False) okG_same a b e e' F σ H L Q r q)
theorem pe_addO {X : Cx} {k : Nat} {φ : Sem} {a b : Expr} {ta tb : TE} {pos : Pos} (D : Dun W) (M : Mt X.prog X.w X.K X.mg X.base W k "__add__" 2 φ none) (hr : Room k X.A) (hK : W.K = X.K) (ha : PE X a ta) (hb : PE X b tb) :
    PE X (.BinOp a .Add b pos) (fun σ H Q => tOp (fun x y H Q => rI0 (fun i j => .int (i + j)) x y H Q ∨ (fun x y H Q => rCat x y H Q ∨ rCatT W.K x y H Q) x y H Q) ta tb σ H Q ∨ tOp (fun x y H Q => False ∨ rOwn W φ "__add__" (gSame W) x y H Q) ta tb σ H Q) :=
  pe_alt (pe_op (opAddK hK.symm) ha hb) (pe_op (OpR.or (fun _ _ _ _ _ _ _ _ _ _ _ _ z => z.elim) (op_binOwn D M hr hK)) ha hb)
end
end Py

namespace L2
open PySem PySem.Spec PyProof.Rows
section
variable {prog : Program} {w : World} {A : Around} {E : Value → Shared → Prop} {s : Shared}
def bestIx (g : Bool) (ds : List PyData) : Nat := argBest (fun i j => if g = true then PySem.W.dataLt (ds.getD j .none) (ds.getD i .none) else PySem.W.dataLt (ds.getD i .none) (ds.getD j .none)) (ds.length - 1)
theorem min_list_ix {l : Addr} {vs : Array Value} {xs : List PyData} {as : List Addr} {Q : Value → Shared → Prop} (hh : A.handled = none) (hl : s.heap.IsList l vs) (hr : ReadsAll s.heap vs.toList xs as) (hp : 0 < xs.length) (ha : PySem.W.AlikeAll xs) (hu : A.units + 1 + PyData.depthAll xs < cLine)
    (h : ∀ v h' tk, vs[bestIx false xs]? = some v → (∀ b o, s.heap.get? b = some o → h'.get? b = some o) → Q v { s with heap := h', toks := tk }) :
    wpAny (model prog w) A (call (.builtin "min") [.ref l]) Q E s := by
  have hn : vs.size = xs.length := PySem.W.readsAll_len hr
  refine call_min_walkH (PySem.W.iter_listW (A := A.in1) hh hl fun s₂ e W st hfp hw hk => ?_)
  refine ⟨_, _, _, _, _, _, _, s.heap, _, rfl, W, st, hfp, by omega, hw, hk, PySem.W.cmpIn_lt (A := A.in1) hr ha (by show A.units + 1 + _ < _; exact hu), fun v s' hP m => ?_⟩
  obtain ⟨h', tk, rfl, hk'⟩ := PySem.W.moved_old e rfl m
  rw [hn] at hP
  exact h v h' tk hP hk'
theorem max_list_ix {l : Addr} {vs : Array Value} {xs : List PyData} {as : List Addr} {Q : Value → Shared → Prop} (hh : A.handled = none) (hl : s.heap.IsList l vs) (hr : ReadsAll s.heap vs.toList xs as) (hp : 0 < xs.length) (ha : PySem.W.AlikeAll xs) (hu : A.units + 1 + PyData.depthAll xs < cLine)
    (h : ∀ v h' tk, vs[bestIx true xs]? = some v → (∀ b o, s.heap.get? b = some o → h'.get? b = some o) → Q v { s with heap := h', toks := tk }) :
    wpAny (model prog w) A (call (.builtin "max") [.ref l]) Q E s := by
  have hn : vs.size = xs.length := PySem.W.readsAll_len hr
  refine call_max_walkH (PySem.W.iter_listW (A := A.in1) hh hl fun s₂ e W st hfp hw hk => ?_)
  refine ⟨_, _, _, _, _, _, _, s.heap, _, rfl, W, st, hfp, by omega, hw, hk, PySem.W.cmpIn_gt (A := A.in1) hr ha (by show A.units + 1 + _ < _; exact hu), fun v s' hP m => ?_⟩
  obtain ⟨h', tk, rfl, hk'⟩ := PySem.W.moved_old e rfl m
  rw [hn] at hP
  exact h v h' tk hP hk'
end
theorem depthAll_le {n : Nat} : ∀ {ds : List PyData}, (∀ d ∈ ds, d.depth ≤ n) → PyData.depthAll ds ≤ n
  | [], _ => Nat.zero_le _
  | d :: ds, h => Nat.max_le.mpr ⟨h d (List.mem_cons_self ..), depthAll_le fun x m => h x (List.mem_cons_of_mem _ m)⟩
def rBest (K : PySem.W.Frag) (g : Bool) : List V → Hp → VK → Prop := fun vs H Q => ∃ (a : Addr) (xs : List V) (ds : List PyData), vs = [V.ref a] ∧ SqL K H a xs ∧ DpAll K H xs ds ∧ 0 < ds.length ∧ PySem.W.AlikeAll ds ∧ (∀ d ∈ ds, d.depth ≤ 60) ∧ ∀ x, xs[bestIx g ds]? = some x → Q x H
section
variable {X : Cx} {pins : List (Addr × Obj)} {σ : St} {H : Hp} {s : Shared}
theorem cr_minD (hc : X.calm = true) (hu : X.A.units + 64 < cLine) : CallR X (.builtin "min") (rBest X.K false) := by
  intro pins s σ H vs us Q I r h
  obtain ⟨a, xs, ds, rfl, hs, hd, hne, ha, hn, q⟩ := h
  obtain ⟨its, rv, hl, hz⟩ := I.list hs
  rw [Vals.ref1 r]
  obtain ⟨as, ra⟩ := Dp.readsAll I ds xs its hd rv
  have hdp := depthAll_le hn
  refine min_list_ix (I.ok.hd hc) hl.isList (by simpa using ra) hne ha (by omega) fun v h' tk hv hk => ?_
  have hv : its[bestIx false ds]? = some v := by simpa using hv
  have hlt := (List.getElem?_eq_some_iff.mp hv).1
  have hx : xs[bestIx false ds]? = some (xs[bestIx false ds]'(by rw [rv.length]; exact hlt)) := List.getElem?_eq_getElem _
  obtain ⟨u, h1, h2⟩ := rv.get hx
  rw [hv] at h1; cases h1
  exact ⟨_, H, I.kept hk, h2, q _ hx⟩
theorem cr_maxD (hc : X.calm = true) (hu : X.A.units + 64 < cLine) : CallR X (.builtin "max") (rBest X.K true) := by
  intro pins s σ H vs us Q I r h
  obtain ⟨a, xs, ds, rfl, hs, hd, hne, ha, hn, q⟩ := h
  obtain ⟨its, rv, hl, hz⟩ := I.list hs
  rw [Vals.ref1 r]
  obtain ⟨as, ra⟩ := Dp.readsAll I ds xs its hd rv
  have hdp := depthAll_le hn
  refine max_list_ix (I.ok.hd hc) hl.isList (by simpa using ra) hne ha (by omega) fun v h' tk hv hk => ?_
  have hv : its[bestIx true ds]? = some v := by simpa using hv
  have hlt := (List.getElem?_eq_some_iff.mp hv).1
  have hx : xs[bestIx true ds]? = some (xs[bestIx true ds]'(by rw [rv.length]; exact hlt)) := List.getElem?_eq_getElem _
  obtain ⟨u, h1, h2⟩ := rv.get hx
  rw [hv] at h1; cases h1
  exact ⟨_, H, I.kept hk, h2, q _ hx⟩
end
theorem argBest_congr {f g : Nat → Nat → Bool} : ∀ {k n : Nat}, k ≤ n → (∀ i j, i ≤ n → j ≤ n → f i j = g i j) → argBest f k = argBest g k ∧ argBest f k ≤ k
  | 0, _, _, _ => ⟨rfl, Nat.le_refl _⟩
  | k + 1, n, hk, h => by
    obtain ⟨h1, h2⟩ := argBest_congr (k := k) (n := n) (by omega) h
    show (if f (k + 1) (argBest f k) = true then k + 1 else argBest f k) = (if g (k + 1) (argBest g k) = true then k + 1 else argBest g k) ∧ (if f (k + 1) (argBest f k) = true then k + 1 else argBest f k) ≤ k + 1
    rw [h (k + 1) _ hk (by omega), h1]
    refine ⟨rfl, ?_⟩
    split <;> omega
section
variable {prog : Program} {w : World} {A : Around} {E : Value → Shared → Prop} {s : Shared} {l : Addr} {its : List Value} {ns : List Int} {Q : Value → Shared → Prop}
theorem sumT_raw (hh : A.handled = none) (hl : s.heap.IsTuple l its.toArray) (hi : IntsAre its ns)
    (h : ∀ h' tk t', (∀ b o, s.heap.get? b = some o → h'.get? b = some o) → Q (.int ns.sum t') { s with heap := h', toks := tk }) : wpAny (model prog w) A (call (.builtin "sum") [.ref l]) Q E s := by
  obtain ⟨xs, e⟩ := hi.allInts.items
  have hn : numsOf (intItems xs).toList = ns := by rw [← e]; exact hi.numsOf
  rw [nums_intItems] at hn
  rw [e] at hl
  refine PySem.W.ktm_sumG hh hl fun h' tk t' hk => ?_
  have := h h' tk t' hk
  rw [preSum_eq, List.take_of_length_le (by simp), hn]; exact this
end
section
variable {X : Cx}
/-- sum(xs) of a list or a tuple of ints -/
def rSum2 (K : PySem.W.Frag) : List V → Hp → VK → Prop := fun vs H Q => ∃ (a : Addr) (ns : List Int), vs = [V.ref a] ∧ (SqL K H a (ns.map V.int) ∨ SqT K H a (ns.map V.int)) ∧ Q (.int ns.sum) H
theorem cr_sum2 (hc : X.calm = true) : CallR X (.builtin "sum") (rSum2 X.K) := by
  intro pins s σ H vs us Q I r h
  obtain ⟨a, ns, rfl, hs | hs, q⟩ := h
  · obtain ⟨its, rv, hl, _⟩ := I.list hs
    rw [Vals.ref1 r]
    exact sum_raw (I.ok.hd hc) hl.isList rv.ints fun h' tk t' hk => ⟨.int _, H, I.kept hk, ⟨_, rfl⟩, q⟩
  · obtain ⟨its, rv, hl, _⟩ := I.tuple hs
    rw [Vals.ref1 r]
    exact sumT_raw (I.ok.hd hc) hl rv.ints fun h' tk t' hk => ⟨.int _, H, I.kept hk, ⟨_, rfl⟩, q⟩
end
end L2
namespace Py
open PySem L2
section
variable {T : Tbl} {W : Wd T} {env : Py.Env}
def bestOk (ps : List PyData) : Bool := (ps.all fun p => ps.all fun q => PySem.W.alike p q) && ((ps.all fun p => match p with | .none => false | _ => true) && ps.all fun p => decide (p.depth ≤ 60))
theorem bestOk_ok {ps : List PyData} (h : bestOk ps = true) : PySem.W.AlikeAll ps ∧ ∀ d ∈ ps, d.depth ≤ 60 := by
  unfold bestOk at h
  simp only [Bool.and_eq_true, List.all_eq_true, decide_eq_true_eq] at h
  obtain ⟨h1, h2, h3⟩ := h
  exact ⟨⟨h1, fun x hx z => by subst z; exact absurd (h2 _ hx) (by decide)⟩, h3⟩
def bestD (g : Bool) (xs : List D) : Option D := (pds xs).bind fun ps => if 0 < ps.length ∧ bestOk ps = true then xs[bestIx g ps]? else none
def xBest (g : Bool) (a : XP W) : XP W where
  t := tCB (rBest W.K g) (tCons a.t tNil)
  ev env := (a.evK env).bind fun d => (seqOf d).bind fun p => if p.1 = false then (bestD g p.2).map (Prod.mk .fr) else none
  snd := fun {env k d} e => by
    obtain ⟨d1, e1, e⟩ := Option.bind_eq_some_iff.mp e
    obtain ⟨⟨b, xs⟩, e3, e⟩ := Option.bind_eq_some_iff.mp e
    cases b with
    | true => cases e
    | false =>
      obtain ⟨y, e4, e⟩ := Option.map_eq_some_iff.mp e
      cases e
      obtain ⟨ps, e5, e6⟩ := Option.bind_eq_some_iff.mp e4
      obtain ⟨ho, e6⟩ : (0 < ps.length ∧ bestOk ps = true) ∧ xs[bestIx g ps]? = some d := by
        split at e6
        · exact ⟨by assumption, e6⟩
        · cases e6
      obtain ⟨s1, s3⟩ := bestOk_ok ho.2
      intro e' F σ H L Q r q
      refine a.sK e1 e' F σ H L _ r fun v F1 H1 x1 ⟨L1, o⟩ => ?_
      obtain ⟨a, vs, rfl, sh, sq⟩ := seqOf_ok x1.s o e3
      obtain ⟨w, hw, sw⟩ := sh.get e6
      refine ⟨a, vs, ps, rfl, sq, Shrs.dp (sh.mono x1.s) e5, ho.1, s1, s3, fun x hx => ?_⟩
      rw [hw] at hx; cases hx
      exact q _ F1 _ x1 (rO_sh sw)
def sumI (xs : List D) : Option D := (intsOf xs).map fun ns => .int ns.sum
def xSum (a : XP W) : XP W where
  t := tCB (rSum2 W.K) (tCons a.t tNil)
  ev env := (a.evK env).bind fun d => (seqOf d).bind fun p => (sumI p.2).map (Prod.mk .fr)
  snd := fun {env k d} e => by
    obtain ⟨d1, e1, e⟩ := Option.bind_eq_some_iff.mp e
    obtain ⟨⟨b, xs⟩, e3, e⟩ := Option.bind_eq_some_iff.mp e
    obtain ⟨y, e4, e⟩ := Option.map_eq_some_iff.mp e
    cases e
    obtain ⟨ns, e5, rfl⟩ := Option.map_eq_some_iff.mp e4
    intro e' F σ H L Q r q
    refine a.sK e1 e' F σ H L _ r fun v F1 H1 x1 ⟨L1, o⟩ => ?_
    obtain ⟨a, vs, rfl, sh, sq⟩ := seqOf_ok x1.s o e3
    cases intsOf_ok e5
    cases shrs_int sh
    refine ⟨a, ns, rfl, ?_, q _ F1 _ x1 (rO_sh .int)⟩
    cases b with
    | true => exact .inr sq
    | false => exact .inl sq
/-- the first of the best of x :: xs -/
def bestOf {β : Type} (dat : β → PyData) (g : Bool) (x : β) (xs : List β) : β := xs.foldl (fun a y => if (if g = true then PySem.W.dataLt (dat a) (dat y) else PySem.W.dataLt (dat y) (dat a)) = true then y else a) x
theorem bestIx_map {β : Type} (dat : β → PyData) (g : Bool) (x : β) (xs : List β) : (x :: xs)[bestIx g ((x :: xs).map dat)]? = some (bestOf dat g x xs) := by
  have key := (PySem.W.argBest_fold (fun a b : β => if g = true then PySem.W.dataLt (dat b) (dat a) else PySem.W.dataLt (dat a) (dat b)) x x xs xs.length (Nat.le_refl _))
  have hlen : ((x :: xs).map dat).length - 1 = xs.length := by simp
  have hg : ∀ i, i ≤ xs.length → ((x :: xs).map dat).getD i .none = dat ((x :: xs).getD i x) := by
    intro i hi
    have : i < (x :: xs).length := by simp; omega
    rw [List.getD_eq_getElem?_getD, List.getElem?_map, List.getD_eq_getElem?_getD, List.getElem?_eq_getElem this]; rfl
  unfold bestIx
  rw [hlen]
  obtain ⟨c1, c2⟩ := argBest_congr (f := fun i j => if g = true then PySem.W.dataLt (((x :: xs).map dat).getD j .none) (((x :: xs).map dat).getD i .none) else PySem.W.dataLt (((x :: xs).map dat).getD i .none) (((x :: xs).map dat).getD j .none))
    (g := fun i j => (fun a b : β => if g = true then PySem.W.dataLt (dat b) (dat a) else PySem.W.dataLt (dat a) (dat b)) ((x :: xs).getD i x) ((x :: xs).getD j x)) (k := xs.length) (n := xs.length) (Nat.le_refl _) (fun i j hi hj => by rw [hg i hi, hg j hj])
  rw [c1]
  obtain ⟨k1, k2⟩ := key
  rw [List.take_length] at k2
  have hlt : argBest (fun i j => (fun a b : β => if g = true then PySem.W.dataLt (dat b) (dat a) else PySem.W.dataLt (dat a) (dat b)) ((x :: xs).getD i x) ((x :: xs).getD j x)) xs.length < (x :: xs).length := by simp only [List.length_cons]; omega
  rw [List.getD_eq_getElem?_getD, List.getElem?_eq_getElem hlt] at k2
  rw [List.getElem?_eq_getElem hlt]
  exact congrArg some k2
theorem bestD_map {β : Type} {enc : β → D} {dat : β → PyData} (hp : ∀ b, pd (enc b) = some (dat b)) (g : Bool) (x : β) (xs : List β) (ho : bestOk ((x :: xs).map dat) = true) : bestD g ((x :: xs).map enc) = some (enc (bestOf dat g x xs)) := by
  unfold bestD
  rw [pds_mapD hp]
  show (if 0 < ((x :: xs).map dat).length ∧ bestOk ((x :: xs).map dat) = true then _ else none) = _
  rw [if_pos ⟨by simp, ho⟩, List.getElem?_map, bestIx_map]; rfl
end
end Py

namespace Py
open PySem L2
section
variable {T : Tbl} {W : Wd T} {env : Py.Env} {d : D}
def addLV (x y : D) : Option (Kd × D) := match x, y with
  | .lst xs, .lst ys => if xs.length + ys.length ≤ 1000000 then some (.vw, .lst (xs ++ ys)) else none
  | _, _ => none
/-- a + b, also of views -/
def xAddV (a b : XP W) : XP W where
  t := (xAdd a b).t
  ev env := orI ((xAdd a b).ev env) ((a.evV env).bind fun x => (b.evV env).bind fun y => addLV x y)
  snd := fun {env k d} e => by
    rcases orI_ok e with e | e
    · exact (xAdd a b).snd e
    · obtain ⟨x, e1, e⟩ := Option.bind_eq_some_iff.mp e
      obtain ⟨y, e2, e⟩ := Option.bind_eq_some_iff.mp e
      intro e' F σ H L Q r q
      refine a.sV e1 e' F σ H L _ r fun v F1 H1 x1 y1 => b.sV e2 e' F1 σ H1 L _ (r.ext x1) fun u F2 H2 x2 y2 => ?_
      have y1 : Shr W H1 x v := y1
      have y1 := y1.mono x2.h
      have y2 : Shr W H2 y u := y2
      unfold addLV at e
      split at e
      · obtain ⟨hl, e⟩ := ite_some e
        cases e
        cases y1 with
        | lst ha sa =>
          cases y2 with
          | lst hb sb =>
            exact .inr (.inl ⟨_, _, _, _, rfl, rfl, ha, hb, by rw [← sa.length, ← sb.length]; exact Nat.le_trans hl (by decide), fun p hp => q _ F2 _ ((x1.trans x2).trans (.newH x2.s hp)) (.lst upd_same ((sa.append sb).mono (same_new hp)))⟩)
      · cases e
def sortV (d : D) : Option (Kd × D) := match d with
  | .lst xs => (sortD xs).map fun ys => (.vw, .lst ys)
  | _ => none
/-- sorted(xs), also of a view -/
def xSortedV (a : XP W) : XP W where
  t := (xSorted a).t
  ev env := orI ((xSorted a).ev env) ((a.evV env).bind sortV)
  snd := fun {env k d} e => by
    rcases orI_ok e with e | e
    · exact (xSorted a).snd e
    · obtain ⟨x, e1, e⟩ := Option.bind_eq_some_iff.mp e
      unfold sortV at e
      split at e
      · rename_i xs
        obtain ⟨ys, e4, e⟩ := Option.map_eq_some_iff.mp e
        cases e
        obtain ⟨ps, e5, e6⟩ := Option.bind_eq_some_iff.mp e4
        obtain ⟨ho, rfl⟩ := ite_some e6
        obtain ⟨s1, s2, s3⟩ := sortOk_ok ho
        intro e' F σ H L Q r q
        refine a.sV e1 e' F σ H L _ r fun v F1 H1 x1 y1 => ?_
        have y1 : Shr W H1 (.lst xs) v := y1
        cases y1 with
        | lst ha sh =>
          rename_i a vs
          have hl := pds_len e5
          obtain ⟨TT, hT, t1, t2⟩ := sort_two (vs := vs) (xs := xs) (ps := ps) (by rw [← sh.length, hl]) hl
          refine ⟨a, vs, ps, rfl, .of ha, Shrs.dp sh e5, s1, s2, s3, fun p hp => q _ F1 _ (x1.trans (.newH x1.s hp)) ?_⟩
          rw [t1, t2]
          exact .lst upd_same ((shrs_pairsD TT fun p m => shrs_zipD sh p (hT.mem_iff.mp m)).mono (same_new hp))
      · cases e
def storeD (n : D) (ds : List D) : Option (D × D) := match n, ds with
  | .olst xs, [.int i, d] => if xs.all isSh = true then (ixN xs.length i).map fun j => (.olst (xs.set j d), .non) else none
  | _, _ => none
def rStore : V → List V → Hp → VK → Prop := fun x ys H Q => ∃ (p : Addr) (xs : List V) (k : Int) (j : Nat) (v : V), x = .ref p ∧ ys = [.int k, v] ∧ H p = some (.lst xs) ∧ ixN xs.length k = some j ∧ Q .non (upd H p (.lst (xs.set j v)))
theorem set_split {α : Type} {xs : List α} {j : Nat} (h : j < xs.length) (d : α) : xs.set j d = xs.take j ++ [d] ++ xs.drop (j + 1) := by
  rw [List.set_eq_take_append_cons_drop, if_pos h, List.append_assoc]; rfl
theorem mop_store : Mop W rStore storeD := by
  intro n ds n' d hf F H vn Ln vs Ms Q s o os nd kF q
  unfold storeD at hf
  split at hf
  · rename_i xs i d2
    split at hf
    · rename_i hz
      obtain ⟨j, hj, e⟩ := Option.map_eq_some_iff.mp hf
      cases e
      obtain ⟨v1, v2, L1, L2, rfl, o1, o2, rfl⟩ := os.two
      cases o1.shr rfl
      cases o1.shNil rfl
      cases o with
      | sh y => cases y
      | @olst a _ vs L ha hs =>
        have sh := hs.shrs hz
        have hlt := (ixN_seq hj).2.1
        have hlv : vs.length = xs.length := hs.length.symm
        refine ⟨a, vs, i, j, v2, rfl, rfl, ha, by rw [hlv]; exact hj, ?_⟩
        rw [set_split (by omega)]
        rw [set_split hlt] at q
        refine mop_list s nd kF rfl (((sh.take _).owns.append (.cons o2 .nil)).append (sh.drop _).owns) (.sh .non) ?_ (fun b hb => by simpa using Or.inr hb) q
        have := (List.nodup_append.mp nd).1
        simpa using this
    · cases hf
  · cases hf
def setK {T : Tbl} {W : Wd T} (p : XPl W) (k : XP W) (d : D) (e : Py.Env) : RS := RS.ofO ((p.ev e).bind fun q => (k.evV e).bind fun i => (storeD q.2 [i, d]).bind fun z => (getS e p.root).map fun d0 => e.set p.root (some (d0.putAt q.1 z.1)))
def xsSet (p : XPl W) (k : XP W) (m : XM W) : XS W where
  t E := tAsg (m.t E) (gSub p.t k.t rSetL)
  ev P env := (m.ev P env).thenS (setK p k)
  snd := fun P E env hn e F σ H L Dn hP r s => by
    have hm : m.ev P env ≠ .no := fun z => hn (by rw [z]; rfl)
    refine (m.snd P E env).run hm hP r s (fun x e1 h => by rw [h]; rfl) fun d env' v F' H' L' M h r' o nd kk => ?_
    rw [h] at hn s
    have hn : setK p k d env' ≠ .no := hn
    have s : Sat W e E (ends (setK p k d env')) Dn := s
    unfold setK at hn s
    cases h2 : ((p.ev env').bind fun q => (k.evV env').bind fun i => (storeD q.2 [i, d]).bind fun z => (getS env' p.root).map fun d0 => env'.set p.root (some (d0.putAt q.1 z.1))) with
    | none => rw [h2] at hn; exact absurd rfl hn
    | some e2 =>
      rw [h2] at s
      obtain ⟨⟨st, n⟩, e1, h3⟩ := Option.bind_eq_some_iff.mp h2
      obtain ⟨i, ei, h3⟩ := Option.bind_eq_some_iff.mp h3
      obtain ⟨⟨n', d'⟩, e3, h4⟩ := Option.bind_eq_some_iff.mp h3
      obtain ⟨d0', e4, h5⟩ := Option.map_eq_some_iff.mp h4
      subst h5
      obtain ⟨d0, h0, h1⟩ := p.at_ e1
      rw [getS_some e4] at h0
      cases h0
      obtain ⟨v0, _, _, _, hs, _⟩ := r'.focus (getS_some e4) h1
      refine p.loc e1 e F' σ H' L' v0 _ r' hs fun vn F1 H1 x1 p1 => ?_
      refine k.sV ei e F1 σ H1 L' _ (r'.ext x1) fun u F2 H2 x2 y2 => ?_
      have y2 : Shr W H2 i u := y2
      obtain ⟨z, rfl⟩ : ∃ z, i = .int z := by
        unfold storeD at e3
        split at e3
        · rename_i heq; cases heq; exact ⟨_, rfl⟩
        · cases e3
      cases y2
      rw [List.nodup_append] at nd
      obtain ⟨nd1, nd2, nd3⟩ := nd
      have x12 := x1.trans x2
      have go : rStore vn [.int z, v] H2 (fun _ H => Dn.nx σ H) := by
        refine am_mop mop_store ((r'.ext x1).ext x2) (getS_some e4) h1 hs (p1.mono x2.h) e3 (Ms := [] ++ (M ++ [])) (.cons (.sh .int) (.cons (o.frame x12.f fun a _ o q => x12.h _ _ q) .nil)) (by simpa using nd1) (fun a ha => ?_) fun v2 F2 H2 L2 M2 r2 o2 n2 k2 => s.nx _ _ _ _ _ rfl r2
        have ha : a ∈ M := by simpa using ha
        refine ⟨fun z => nd3 a ha a z rfl, ?_, (kk a ha).2⟩
        obtain ⟨u, hu⟩ := o.lives a ha
        cases z : F2 a with
        | none => rfl
        | some w =>
          rcases x12.n a w z with y | y
          · rw [(kk a ha).1] at y; cases y
          · rw [hu] at y; cases y
      obtain ⟨a, xs, k2, j, v', ex, ey, ha, hj, q⟩ := go
      cases ey
      exact ⟨a, xs, _, j, ex, rfl, ha, hj, q⟩
end
end Py

namespace Py
open PySem L2
/-- the keyword-only parameters' values in their order: true: its default -/
def mgM {α : Type} : List Bool → List α → List α → List α
  | true :: bs, m :: ms, ws => m :: mgM bs ms ws
  | false :: bs, ms, w :: ws => w :: mgM bs ms ws
  | _, _, _ => []
theorem mgM_rel : ∀ {bs : List Bool} {mz zs : List V} {mv ws : List Value}, Vals mz mv → Vals zs ws → Vals (mgM bs mz zs) (mgM bs mv ws)
  | [], _, _, _, _, _, _ => .nil
  | true :: bs, _, _, _, _, .nil, _ => .nil
  | true :: bs, _, _, _, _, .cons h t, r => .cons h (mgM_rel t r)
  | false :: bs, _, _, _, _, r, .nil => by cases r <;> exact .nil
  | false :: bs, _, _, _, _, r, .cons h t => by cases r <;> exact .cons h (mgM_rel (by first | exact .nil | exact .cons (by assumption) (by assumption)) t)
/-- a constant -/
def cV : D → V
  | .int i => .int i
  | .str x => .str (so x)
  | .bl b => .bl b
  | _ => .non
def cst : D → Bool
  | .int _ | .str _ | .bl _ | .non => true
  | _ => false
section
variable {T : Tbl} {W : Wd T}
theorem shr_cst {F : Hp} {d : D} (h : cst d = true) : Shr W F d (cV d) := by cases d <;> first | (cases h; done) | exact .int | exact .str | exact .bl | exact .non
theorem mgM_shr {F : Hp} : ∀ {bs : List Bool} {dd zs : List D} {ws : List V}, dd.all cst = true → Shrs W F zs ws → Shrs W F (mgM bs dd zs) (mgM bs (dd.map cV) ws)
  | [], _, _, _, _, _ => .nil
  | true :: bs, [], _, _, _, _ => .nil
  | true :: bs, d :: dd, _, _, h, r => by
    rw [List.all_cons, Bool.and_eq_true] at h
    exact .cons (shr_cst h.1) (mgM_shr h.2 r)
  | false :: bs, dd, _, _, h, .nil => by cases dd <;> exact .nil
  | false :: bs, dd, _, _, h, .cons x t => by cases dd <;> exact .cons x (mgM_shr h t)
def kwE (φ : List D → Option Nat → Rz) (n m N : Nat) (bs : List Bool) (dd : List D) (f g v w : Option (List D)) : Option (Kd × D) := match f, g with
  | some ds, some zs => if ds.length = n ∧ zs.length = m ∧ (ds ++ mgM bs dd zs).length = N then (φ (ds ++ mgM bs dd zs) none).toF else none
  | _, _ => match v, w with
    | some ds, some zs => if ds.length = n ∧ zs.length = m ∧ (ds ++ mgM bs dd zs).length = N then (φ (ds ++ mgM bs dd zs) none).toV else none
    | _, _ => none
theorem if_some' {α : Type} {c : Prop} [Decidable c] {a : Option α} {b : α} (h : (if c then a else none) = some b) : c ∧ a = some b := by
  split at h
  · exact ⟨by assumption, h⟩
  · cases h
/-- f(.., k = v, ..) -/
def xCallN (φ : List D → Option Nat → Rz) (n m N : Nat) (bs : List Bool) (dd : List D) (hd : dd.all cst = true) (as ks : XA W) : XP W where
  t := tCallN n m (spR W N φ none) (fun vs zs => vs ++ mgM bs (dd.map cV) zs) E0 as.t ks.t
  ev env := kwE φ n m N bs dd (as.evF env) (ks.evF env) (as.evV env) (ks.evV env)
  snd := fun {env k d} e => by
    have viewed : ∀ {ds zs}, as.evV env = some ds → ks.evV env = some zs → (if ds.length = n ∧ zs.length = m ∧ (ds ++ mgM bs dd zs).length = N then (φ (ds ++ mgM bs dd zs) none).toV else none) = some (k, d) → AE W (tCallN n m (spR W N φ none) (fun vs zs => vs ++ mgM bs (dd.map cV) zs) E0 as.t ks.t) env (rK W k d) := by
      intro ds zs e1 e2 e
      obtain ⟨⟨l1, l2, l3⟩, e⟩ := if_some' e
      obtain ⟨d2, b, h, hk⟩ := Rz.toV_ok e
      refine fun e' F σ H L Q r q => as.sV e1 e' F σ H L _ r fun vs F1 H1 x1 y1 => ks.sV e2 e' F1 σ H1 L _ (r.ext x1) fun ws F2 H2 x2 y2 => ?_
      have y1 : Shrs W H1 ds vs := y1
      have y2 : Shrs W H2 zs ws := y2
      refine ⟨by rw [← y1.length, l1], by rw [← y2.length, l2], callV x2.s (Shrs.append (y1.mono x2.h) (mgM_shr hd y2)) l3 h fun v H3 x3 y3 => q v F2 H3 ((x1.trans x2).trans x3) ?_⟩
      rcases hk with ⟨hf, rfl, rfl⟩ | ⟨rfl, rfl⟩
      · rw [fz_isSh (isSh_flat hf)] at y3
        exact rO_sh (y3.flat hf)
      · exact y3
    unfold kwE at e
    split at e
    · rename_i ds zs e1 e2
      obtain ⟨⟨l1, l2, l3⟩, e⟩ := if_some' e
      obtain ⟨rfl, b, h⟩ := Rz.toF_ok e
      refine fun e' F σ H L Q r q => as.sF e1 e' F σ H L _ r fun vs F1 H1 x1 y1 => ks.sF e2 e' F1 σ H1 L _ (r.ext x1) fun ws F2 H2 x2 y2 => ?_
      have y1 : Shrs W F1 ds vs := y1
      have y2 : Shrs W F2 zs ws := y2
      exact ⟨by rw [← y1.length, l1], by rw [← y2.length, l2], callF x2.s (Shrs.append (y1.mono x2.f) (mgM_shr hd y2)) l3 h fun v F3 H3 x3 y3 => q v F3 H3 ((x1.trans x2).trans x3) (rO_back (x1.trans x2).h y3)⟩
    · split at e
      · exact viewed (by assumption) (by assumption) e
      · cases e
def mkN (φ : Sem) (c ini : String) (n m N : Nat) (bs : List Bool) (dd ds zs : List D) : Option D := if ds.length = n ∧ zs.length = m then mk1 φ c ini N (ds ++ mgM bs dd zs) else none
def makeNE (φ : Sem) (c ini : String) (n m N : Nat) (bs : List Bool) (dd : List D) (f g v w : Option (List D)) : Option (Kd × D) := match f, g with
  | some ds, some zs => (mkN φ c ini n m N bs dd ds zs).map (Prod.mk .fr)
  | _, _ => match v, w with
    | some ds, some zs => (mkN φ c ini n m N bs dd ds zs).map fun d => (.vw, fz d)
    | _, _ => none
/-- C(.., k = v, ..) -/
def xMakeN (φ : Sem) (c ini : String) (n m N : Nat) (bs : List Bool) (dd : List D) (hd : dd.all cst = true) (as ks : XA W) : XP W where
  t := fun σ H Q => W.has c → tMakeK (W.cA c) n m (spR W N (φ ini) (some 0)) (fun vs zs => vs ++ mgM bs (dd.map cV) zs) E0 as.t ks.t σ H Q
  ev env := makeNE φ c ini n m N bs dd (as.evF env) (ks.evF env) (as.evV env) (ks.evV env)
  snd := fun {env k d} e e' F σ H L Q r q hc => by
    unfold makeNE at e
    split at e
    · rename_i ds zs e1 e2
      obtain ⟨d2, h, e⟩ := Option.map_eq_some_iff.mp e
      cases e
      obtain ⟨⟨l1, l2⟩, h⟩ := if_some' h
      refine as.sF e1 e' F σ H L _ r fun vs F1 H1 x1 y1 => ks.sF e2 e' F1 σ H1 L _ (r.ext x1) fun ws F2 H2 x2 y2 => ?_
      have y1 : Shrs W F1 ds vs := y1
      have y2 : Shrs W F2 zs ws := y2
      exact ⟨by rw [← y1.length, l1], by rw [← y2.length, l2], fun x dx hx hdx ne => makeF x2.s (Shrs.append (y1.mono x2.f) (mgM_shr hd y2)) hc h (fun v F3 H3 x3 y3 => q v F3 H3 ((x1.trans x2).trans x3) (rO_back (x1.trans x2).h y3)) x dx hx hdx ne⟩
    · split at e
      · rename_i ds zs e1 e2
        obtain ⟨d2, h, e⟩ := Option.map_eq_some_iff.mp e
        cases e
        obtain ⟨⟨l1, l2⟩, h⟩ := if_some' h
        refine as.sV e1 e' F σ H L _ r fun vs F1 H1 x1 y1 => ks.sV e2 e' F1 σ H1 L _ (r.ext x1) fun ws F2 H2 x2 y2 => ?_
        have y1 : Shrs W H1 ds vs := y1
        have y2 : Shrs W H2 zs ws := y2
        exact ⟨by rw [← y1.length, l1], by rw [← y2.length, l2], fun x dx hx hdx ne => makeV x2.s (Shrs.append (y1.mono x2.h) (mgM_shr hd y2)) hc h (fun v H3 x3 y3 => q v F2 H3 ((x1.trans x2).trans x3) y3) x dx hx hdx ne⟩
      · cases e
end
/-- how a call of n positional values and the keywords ks binds -/
def KShape (K : PySem.W.Frag) (x qual : Str) (st : Stmt) (kws : List (Str × V)) (ps : List Str) (n : Nat) (ks : List Str) (bs : List Bool) (dvs : List V) : Prop :=
  ∀ f fd, FunD K x qual (defArgs st) (defBody st) (defScope st) [] kws f fd → ∃ g, KBn K fd ps n ks g (fun vs zs => vs ++ mgM bs dvs zs)
/-- no defaults -/
theorem kshape0 {K : PySem.W.Frag} {x qual : Str} {st : Stmt} {ps : List Str} {n : Nat} {ks : List Str} {bs : List Bool}
    (h : ∀ (kV doc pm : Value) (an : Option Addr) (cdv ct : Value) (us ws : List Value), us.length = n → ws.length = ks.length → bindArgs (PySem.W.fnOf x qual (defArgs st) (defBody st) (defScope st) .none kV doc pm an cdv ct) ⟨us, ks.zip ws⟩ = pure (ps.zip (us ++ mgM bs [] ws))) :
    KShape K x qual st [] ps n ks bs [] := fun f fd F => by
  obtain ⟨oc, od, dV, kV, doc, pm, an, cdv, ct, osl, rfl, lk, hcd, hD, hK⟩ := F.ex
  rcases hD with ⟨_, rfl⟩ | ⟨e, _⟩
  · exact ⟨fun us ws => us ++ mgM bs [] ws, fun s us ws _ l1 l2 => .of_eq (h kV doc pm an cdv ct us ws l1 l2), fun r1 r2 => r1.append (mgM_rel .nil r2)⟩
  · exact absurd rfl e
/-- the keyword-only parameters ms lack -/
theorem kshape1 {K : PySem.W.Frag} {x qual : Str} {st : Stmt} {kws : List (Str × V)} {ps : List Str} {n : Nat} {ks : List Str} {bs : List Bool} (ms : List (Str × V)) (hk : kws ≠ []) (hms : ∀ q ∈ ms, q ∈ kws)
    (h : ∀ (D : Addr) (doc pm : Value) (an : Option Addr) (cdv ct : Value) (us mv ws : List Value), us.length = n → mv.length = ms.length → ws.length = ks.length →
      KwChain D ((ms.map (·.1)).zip mv) (bindArgs (PySem.W.fnOf x qual (defArgs st) (defBody st) (defScope st) .none (.ref D) doc pm an cdv ct) ⟨us, ks.zip ws⟩) (ps.zip (us ++ mgM bs mv ws))) :
    KShape K x qual st kws ps n ks bs (ms.map (·.2)) := fun f fd F => by
  obtain ⟨mv, hb⟩ := F.kbinds0 (ps := ps) n ks ms (fun us mz ws => us ++ mgM bs mz ws) hk hms (fun r1 r2 r3 => r1.append (mgM_rel r2 r3)) h
  exact ⟨_, hb⟩
structure DfD (P : Program) (w : World) (K : PySem.W.Frag) (mg : Str → Option Value) (base : Heap) (k : Nat) (x qual : Str) (st : Stmt) (kws : List (Str × V)) (ps : List Str) (sp : Sp) : Prop where
  ex : ∃ f fd, FnOk P w K mg base (L2.CX P w) k f fd ps sp ∧ mg x = some (.ref f) ∧ PySem.W.keepIn K (.ref f) = true ∧ FunD K x qual (defArgs st) (defBody st) (defScope st) [] kws f fd
structure MkD (P : Program) (w : World) (K : PySem.W.Frag) (mg : Str → Option Value) (base : Heap) (k : Nat) (x : Str) (C : Addr) (qual : Str) (st : Stmt) (kws : List (Str × V)) (ps : List Str) (sp : Sp) : Prop where
  ex : ∃ f fd, Mk K C f ∧ FnOk P w K mg base (L2.CX P w) k f fd ps sp ∧ mg x = some (.ref C) ∧ FunD K "__init__" qual (defArgs st) (defBody st) (defScope st) [] kws f fd
section
variable {P : Program} {w : World} {K : PySem.W.Frag} {mg : Str → Option Value} {base : Heap}
theorem dfD_of {x qual : Str} {st : Stmt} {kws : List (Str × V)} {N ps : List Str} {k : Nat} {sp : Sp} (D : DefAt K mg x qual st [] kws) (S : FnScope N ps (defScope st)) (len : ∀ vs H Q E, sp vs H Q E → vs.length = ps.length)
    (hbody : ∀ (f : Addr) (cdv : Value) (A : Around) (outer : List PySem.Env) (s : Shared) (H : Hp) (vs : List V) (Q : VK) (E : XK), Room k (A.deeper (PyProof.Rows.envOfC qual (defScope st) s.heap.objs.size f cdv)) → sp vs H Q E →
      ∃ t, PSs (cxOf (L2.CX P w) P w K mg base N qual (defScope st) f cdv A outer s H E) (defBody st) t ∧ t { nx := fun _ H' => Q .non H', rt := Q } (L2.start N vs) H) : DfD P w K mg base (k + 1) x qual st kws ps sp := by
  obtain ⟨f, fd, F, hm⟩ := D.ex
  refine ⟨f, fd, F.ok S len fun cdv A outer s H vs Q E hr h => ?_, hm, F.kp, F⟩
  obtain ⟨t, q1, q2⟩ := hbody f cdv A outer s H vs Q E hr h
  exact ⟨t, q1, q2⟩
theorem dfD_no {x qual : Str} {st : Stmt} {kws : List (Str × V)} {ps : List Str} {k : Nat} {sp : Sp} (D : DefAt K mg x qual st [] kws) (h : ∀ vs H Q E, ¬ sp vs H Q E) : DfD P w K mg base k x qual st kws ps sp := by
  obtain ⟨f, fd, F, hm⟩ := D.ex
  exact ⟨f, fd, ⟨fun vs H Q E z => absurd z (h vs H Q E), fun A outer s H args us vs Q E _ _ _ _ z => absurd z (h vs H Q E)⟩, hm, F.kp, F⟩
theorem mkD_of {C : Addr} {x qual : Str} {st : Stmt} {kws : List (Str × V)} {N ps : List Str} {k : Nat} {sp : Sp} {f0 : Addr} (M : Mk K C f0) (hm : mg x = some (.ref C)) (D : MethAt K C "__init__" "__init__" qual st [] kws) (S : FnScope N ps (defScope st)) (len : ∀ vs H Q E, sp vs H Q E → vs.length = ps.length)
    (hbody : ∀ (f : Addr) (cdv : Value) (A : Around) (outer : List PySem.Env) (s : Shared) (H : Hp) (vs : List V) (Q : VK) (E : XK), Room k (A.deeper (PyProof.Rows.envOfC qual (defScope st) s.heap.objs.size f cdv)) → sp vs H Q E →
      ∃ t, PSs (cxOf (L2.CX P w) P w K mg base N qual (defScope st) f cdv A outer s H E) (defBody st) t ∧ t { nx := fun _ H' => Q .non H', rt := Q } (L2.start N vs) H) : MkD P w K mg base (k + 1) x C qual st kws ps sp := by
  obtain ⟨f, fd, F, hg⟩ := D.ex
  have e := M.init
  rw [hg.at_] at e
  cases e
  refine ⟨_, fd, M, F.ok S len fun cdv A outer s H vs Q E hr h => ?_, hm, F⟩
  obtain ⟨t, q1, q2⟩ := hbody _ cdv A outer s H vs Q E hr h
  exact ⟨t, q1, q2⟩
theorem mkD_no {C : Addr} {x qual : Str} {st : Stmt} {kws : List (Str × V)} {ps : List Str} {k : Nat} {sp : Sp} {f0 : Addr} (M : Mk K C f0) (hm : mg x = some (.ref C)) (D : MethAt K C "__init__" "__init__" qual st [] kws) (h : ∀ vs H Q E, ¬ sp vs H Q E) : MkD P w K mg base k x C qual st kws ps sp := by
  obtain ⟨f, fd, F, hg⟩ := D.ex
  have e := M.init
  rw [hg.at_] at e
  cases e
  exact ⟨_, fd, M, ⟨fun vs H Q E z => absurd z (h vs H Q E), fun A outer s H args us vs Q E _ _ _ _ z => absurd z (h vs H Q E)⟩, hm, F⟩
end
section
variable {X : Cx} {k n : Nat} {x qual : Str} {st : Stmt} {kws0 : List (Str × V)} {ps ks : List Str} {bs : List Bool} {dvs : List V} {sp : Sp} {p pos : Pos} {e : Expr} {es : List Expr} {kws : List Keyword} {t tk : TA}
theorem px_callN (D : DfD X.prog X.w X.K X.mg X.base k x qual st kws0 ps sp) (hb : KShape X.K x qual st kws0 ps n ks bs dvs) (hr : Room k X.A) (hg : Gl X x)
    (ha : PA X (e :: es) t) (hkw : PK X kws tk) (hall : (backToKw pos (keywordEach kws X.env)).all (·.1.isSome) = true := by rfl) (hks : (backToKw pos (keywordEach kws X.env)).filterMap (·.1) = ks := by rfl)
    (hdb : (x == ("__debug__" : Str)) = false := by decide) (he : starEach (e :: es) X.env = (false, eval e X.env) :: starEach es X.env := by rfl)
    (hpl : ((backTo pos (starEach (e :: es) X.env)).any (·.1) || (backToKw pos (keywordEach kws X.env)).any (·.1.isNone)) = false := by rfl) :
    PE X (.Call (.Name x p) (e :: es) kws pos) (tCallN n ks.length sp (fun vs zs => vs ++ mgM bs dvs zs) E0 t tk) := by
  obtain ⟨f, fd, F, hm, hk, FD⟩ := D.ex
  obtain ⟨g, hb⟩ := hb f fd FD
  exact pe_callN F hr hg hm hk hb passE0 ha hkw hall hks hdb he hpl
theorem px_makeN {C : String} {T : Tbl} {W : Wd T} (M : MkD X.prog X.w X.K X.mg X.base k x (W.cA C) qual st kws0 ps sp) (hb : KShape X.K "__init__" qual st kws0 ps (n + 1) ks bs dvs) (hc : W.has C) (hr : Room (k + 1) X.A) (hg : Gl X x)
    (ha : PA X (e :: es) t) (hkw : PK X kws tk) (hall : (backToKw pos (keywordEach kws X.env)).all (·.1.isSome) = true := by rfl) (hks : (backToKw pos (keywordEach kws X.env)).filterMap (·.1) = ks := by rfl)
    (hdb : (x == ("__debug__" : Str)) = false := by decide) (he : starEach (e :: es) X.env = (false, eval e X.env) :: starEach es X.env := by rfl)
    (hpl : ((backTo pos (starEach (e :: es) X.env)).any (·.1) || (backToKw pos (keywordEach kws X.env)).any (·.1.isNone)) = false := by rfl) :
    PE X (.Call (.Name x p) (e :: es) kws pos) (fun σ H Q => W.has C → tMakeK (W.cA C) n ks.length sp (fun vs zs => vs ++ mgM bs dvs zs) E0 t tk σ H Q) := by
  obtain ⟨f, fd, M, F, hm, FD⟩ := M.ex
  obtain ⟨g, hb⟩ := hb f fd FD
  exact pe_imp hc (pe_makeK M F hr hg hm hb passE0 ha hkw hall hks hdb he hpl)
theorem px_makeN0 {C : String} {T : Tbl} {W : Wd T} (M : MkD X.prog X.w X.K X.mg X.base k x (W.cA C) qual st kws0 ps sp) (hb : KShape X.K "__init__" qual st kws0 ps 1 ks bs dvs) (hc : W.has C) (hr : Room (k + 1) X.A) (hg : Gl X x)
    (hkw : PK X kws tk) (hall : (backToKw pos (keywordEach kws X.env)).all (·.1.isSome) = true := by rfl) (hks : (backToKw pos (keywordEach kws X.env)).filterMap (·.1) = ks := by rfl)
    (hdb : (x == ("__debug__" : Str)) = false := by decide)
    (hpl : ((backTo pos (starEach [] X.env)).any (·.1) || (backToKw pos (keywordEach kws X.env)).any (·.1.isNone)) = false := by rfl) :
    PE X (.Call (.Name x p) [] kws pos) (fun σ H Q => W.has C → tMakeK (W.cA C) 0 ks.length sp (fun vs zs => vs ++ mgM bs dvs zs) E0 tNil tk σ H Q) := by
  obtain ⟨f, fd, M, F, hm, FD⟩ := M.ex
  obtain ⟨g, hb⟩ := hb f fd FD
  exact pe_imp hc (pe_makeK0 M F hr hg hm hb passE0 hkw hall hks hdb hpl)
theorem px_glI {x : Str} {i : Int} {pos : Pos} (h : ∃ t, X.mg x = some (.int i t)) (hg : Gl X x := by rfl) (hd : (x == ("__debug__" : Str)) = false := by decide) : PE X (.Name x pos) (tC (.int i)) := by
  obtain ⟨t, h⟩ := h
  exact pe_glob hg h ⟨t, rfl⟩ hd
theorem px_glS {x : Str} {z : Str} {pos : Pos} (h : ∃ t, X.mg x = some (.str z t)) (hg : Gl X x := by rfl) (hd : (x == ("__debug__" : Str)) = false := by decide) : PE X (.Name x pos) (tC (.str z)) := by
  obtain ⟨t, h⟩ := h
  exact pe_glob hg h ⟨t, rfl⟩ hd
end
section
variable {P : Program} {w : World} {K : PySem.W.Frag} {mg : Str → Option Value} {base : Heap}
theorem fn_no {k : Nat} {f : Addr} {fd : FuncData} {ps : List Str} {sp : Sp} (h : ∀ vs H Q E, ¬ sp vs H Q E) : FnOk P w K mg base (L2.CX P w) k f fd ps sp :=
  ⟨fun vs H Q E z => absurd z (h vs H Q E), fun A outer s H args us vs Q E _ _ _ _ z => absurd z (h vs H Q E)⟩
end
section
variable {T : Tbl} {W : Wd T}
theorem shrs_flat {F G : Hp} : ∀ {xs : List D} {vs : List V}, Shrs W F xs vs → xs.all isFlat = true → Shrs W G xs vs
  | [], _, .nil, _ => .nil
  | x :: xs, _, .cons h t, a => by
    rw [List.all_cons, Bool.and_eq_true] at a
    exact .cons (h.flat a.1) (shrs_flat t a.2)
def listFl : Rz → Option (Kd × D)
  | .ok (.olst xs) _ => if xs.all isFlat = true then some (.fr, .olst xs) else none
  | _ => none
theorem listFl_ok {r : Rz} {k : Kd} {d : D} (h : listFl r = some (k, d)) : ∃ xs b, r = .ok (.olst xs) b ∧ xs.all isFlat = true ∧ k = .fr ∧ d = .olst xs := by
  unfold listFl at h
  split at h
  · obtain ⟨h1, h⟩ := ite_some h
    cases h
    exact ⟨_, _, rfl, h1, rfl, rfl⟩
  · cases h
def xCallL (φ : List D → Option Nat → Rz) (n : Nat) (as : XA W) : XP W where
  t := (xCall φ n as [] [] (fun _ => .nil)).t
  ev env := orI ((as.evV env).bind fun ds => if ds.length = n then listFl (φ ds none) else none) ((xCall φ n as [] [] (fun _ => .nil)).ev env)
  snd := fun {env k d} e => by
    rcases orI_ok e with e | e
    · obtain ⟨ds, e1, e⟩ := Option.bind_eq_some_iff.mp e
      obtain ⟨hl, e⟩ := if_some' e
      obtain ⟨xs, b, h, hf, rfl, rfl⟩ := listFl_ok e
      refine fun e' F σ H L Q r q => as.sV e1 e' F σ H L _ r fun vs F1 H1 x1 y1 => ?_
      have y1 : Shrs W H1 ds vs := y1
      show spR W n φ none (vs ++ []) H1 Q E0
      rw [List.append_nil]
      refine callF (Same.refl H1) y1 hl h fun v F3 H3 x3 ⟨L3, o3, nd3, k3⟩ => q v F1 H3 (x1.trans ⟨Same.refl F1, x1.s.trans (x3.f.trans x3.s), x3.h, fun _ _ z => .inl z⟩) ?_
      cases o3 with
      | sh y => cases y
      | olst ha os =>
        have sh := os.shrs (List.all_eq_true.mpr fun x hx => isSh_flat (List.all_eq_true.mp hf x hx))
        refine ⟨[_], .olst ha (shrs_flat sh hf).owns, by simp, fun b m => ?_⟩
        obtain rfl := List.mem_singleton.mp m
        have hn := (k3 _ (List.mem_cons_self ..)).1
        exact ⟨x1.h.free hn, x1.s.free hn⟩
    · exact (xCall φ n as [] [] (fun _ => .nil)).snd e
end
end Py

namespace Py
open PySem L2
def keyD : D → Option Key
  | .int i => some (.inl i)
  | .str x => some (.inr (so x))
  | _ => none
/-- what the dict holds at the key -/
def dg : List Key → List D → Key → Option D
  | k' :: ks, x :: xs, k => if k' = k then some x else dg ks xs k
  | _, _, _ => none
section
variable {T : Tbl} {W : Wd T} {env : Py.Env} {d : D}
theorem keyD_ok {F : Hp} {v : V} {k : Key} (h : Shr W F d v) (e : keyD d = some k) : v = kV k := by
  cases h <;> first | (cases e; rfl) | cases e
theorem dg_own {F H : Hp} {k : Key} : ∀ {ks : List Key} {xs : List D} {vs : List V} {L : List Addr}, Owns W F H xs vs L → ks.length = vs.length →
    (∀ d, dg ks xs k = some d → ∃ v M, valV (ks.zip vs) k = some v ∧ Own W F H d v M) ∧ (dg ks xs k = none → valV (ks.zip vs) k = none)
  | [], xs, vs, _, o, hl => by
    cases vs with
    | nil => cases o; exact ⟨fun d h => by simp [dg] at h, fun _ => rfl⟩
    | cons v vs => simp at hl
  | k' :: ks, _, _, _, .nil, hl => by simp at hl
  | k' :: ks, _, _, _, .cons (v := v) (vs := vs) (L := L1) h t, hl => by
    obtain ⟨i1, i2⟩ := dg_own (k := k) (ks := ks) t (by simpa using hl)
    rw [List.zip_cons_cons]
    by_cases e : k' = k
    · unfold dg
      rw [if_pos e, valV_pos (p := (k', v)) e]
      exact ⟨fun d hd => by cases hd; exact ⟨v, L1, rfl, h⟩, fun z => nomatch z⟩
    · unfold dg
      rw [if_neg e, valV_neg (p := (k', v)) e]
      exact ⟨i1, i2⟩
/-- the dict that a thing is: its keys and values -/
def dicOf : D → Option (List Key × List D)
  | .dic ks xs => some (ks, xs)
  | .odic ks xs => some (ks, xs)
  | _ => none
theorem dicOf_ok {F H : Hp} {v : V} {L : List Addr} {ks : List Key} {xs : List D} (s : Same F H) (o : Own W F H d v L) (h : dicOf d = some (ks, xs)) : ∃ a vs M, v = .ref a ∧ Rd H a (.dK (ks.zip vs)) ∧ ks.length = vs.length ∧ ks.Nodup ∧ Owns W F H xs vs M := by
  cases o with
  | sh y =>
    cases y <;> first | (cases h; done) | skip
    rename_i a1 vs1 h1 h2 h3 h4
    cases h
    exact ⟨_, _, [], rfl, rd_same s h1, h2, h3, Shrs.owns h4⟩
  | odic ha hl hn hs => cases h; exact ⟨_, _, _, rfl, .inl ha, hl, hn, hs⟩
  | olst => cases h
  | odit => cases h
  | odig => cases h
  | oins => cases h
def xDnew {T : Tbl} (W : Wd T) : XP W where
  t := tDNewK
  ev _ := some (.fr, .odic [] [])
  snd := fun e => by
    cases e
    exact fun e' F σ H L Q r q p hp => q _ F _ (.newH r.sF hp) ⟨[p], .odic (vs := []) upd_same rfl .nil .nil, by simp, fun x m => by rw [List.mem_singleton.mp m]; exact ⟨hp, r.sF.free hp⟩⟩
/-- get of a None from a dict of ints and texts -/
def DGetN (H : Hp) (a : Addr) (y : V) (o : Option V) : Prop := DGet H a y o ∨ (y = .non ∧ (∃ kvs, Rd H a (.dK kvs)) ∧ o = none)
section
variable {X : Cx} {pins : List (Addr × Obj)} {σ : St} {H : Hp} {s : Shared} {A : Around} {E : Value → Shared → Prop} {kvs : List (Key × V)} {a : Addr}
theorem d_get2None {z : V} {r : Value} {Q : Value → Shared → Prop} (I : Inv X pins σ H s) (e : Rd H a (.dK kvs)) (rd : RelV z r) (h : ∀ s', Inv X pins σ H s' → Q r s') : wpAny (model X.prog X.w) A (call (.builtin "dict.get") [.ref a, .none, r]) Q E s := by
  obtain ⟨_, hd, vs, _, dd⟩ := dk_rd I.hok e
  obtain ⟨f, hm, hf⟩ := none_map dd
  have hk : (noneKind X.prog X.w).is none .none = true := rfl
  refine call_meetsIn PySem.F.slot_dict_get dd.typeIs PySem.F.entry_dict_get (PySem.F.args_dict_get_3 _ _ _) (meets_dict_get_default (noneKind X.prog X.w) a hk hd r) ⟨_, hm, ?_⟩
  rw [hf]
  exact h _ (I.tok _)
end
def tDGet2N (td ty tx : TE) : TE := fun σ H Q => td σ H fun x H1 => ∃ a, x = .ref a ∧ IsD H1 a ∧ ty σ H1 fun y H2 => tx σ H2 fun z H3 => ∃ o, DGetN H3 a y o ∧ Q (o.getD z) H3
theorem pe_dget2N {X : Cx} {o e f : Expr} {td ty tx : TE} {apos cpos : Pos} (hu : X.A.units + 1 < cLine) (ho : PE X o td) (he : PE X e ty) (hf : PE X f tx) (m : M2 X o "get" apos e f cpos) : PE X (.Call (.Attribute o "get" apos) [e, f] [] cpos) (tDGet2N td ty tx) := by
  refine ⟨fun pins s σ H Q I h => ?_⟩
  refine wpAny_Call_method m.base m.few m.line PySem.F.plainAttrs_dict PySem.F.slot_dict_get PySem.F.type_dict_get (thn (ho.run pins s σ H _ I h) fun u s1 ⟨x, H1, I1, rx, a, ex, d, q1⟩ => ?_)
  subst ex
  obtain rfl : u = Value.ref a := rx
  obtain ⟨t1, t2, _⟩ := isD_at I1 d
  refine ⟨t1, t2, ?_⟩
  rw [m.trees]
  refine Calls.callWith_builtin rfl (Calls.evalArgs_plain (Calls.spliced_cons (thn (he.run pins s1 σ H1 _ I1 q1) fun iv s2 ⟨y, H2, I2, ry, q2⟩ =>
    Calls.spliced_cons (thn (hf.run pins s2 σ H2 _ I2 q2) fun fv s3 ⟨z, H3, I3, rz, o, g, q3⟩ => Calls.spliced_nil ?_))))
  rcases g with g | ⟨ey, ⟨kvs, e⟩, eo⟩
  · exact d_get2 hu I3 g ry rz fun w' s4 I4 rw' => ⟨_, H3, I4, rw', q3⟩
  · subst ey eo
    obtain rfl : iv = Value.none := ry
    exact d_get2None I3 e rz fun s4 I4 => ⟨_, H3, I4, rz, q3⟩
/-- what get gives: the found thing, or the given one -/
def getE (ks : List Key) (xs : List D) (p : Kd) (y : D) (z : Kd × D) : Option (Kd × D) := match y with
  | .non => some z
  | y => (keyD y).map fun k => match dg ks xs k with
    | some x => p.of x
    | none => z
theorem rK_ext {F H F' H' H0 : Hp} {k : Kd} {v : V} {d : D} (x : Ext F H F' H') (h : rK W k d F H H0 v) : (k = .fr → ∃ L, Own W F' H' d v L ∧ L.Nodup ∧ ∀ a ∈ L, H0 a = none ∧ F' a = none) ∧ (k ≠ .fr → rK W k d F' H' H0 v) := by
  cases k with
  | fr =>
    refine ⟨fun _ => ?_, fun z => absurd rfl z⟩
    obtain ⟨L, o, nd, kk⟩ := h
    refine ⟨L, o.frame x.f fun a _ o q => x.h _ _ q, nd, fun a m => ⟨(kk a m).1, ?_⟩⟩
    obtain ⟨u, hu⟩ := o.lives a m
    cases z : F' a with
    | none => rfl
    | some w =>
      rcases x.n a w z with y | y
      · rw [(kk a m).2] at y; cases y
      · rw [hu] at y; cases y
  | pl => obtain ⟨L, o⟩ := h; exact ⟨fun z => (nomatch z), fun _ => ⟨L, o.frame x.f fun a _ o q => x.h _ _ q⟩⟩
  | vw => have h : Shr W H d v := h; exact ⟨fun z => (nomatch z), fun _ => h.mono x.h⟩
theorem Kd.of_ne {k : Kd} {d : D} : (k.of d).1 ≠ .fr := by cases k <;> (intro z; cases z)
theorem rK_back {F H H0 H1 : Hp} {k : Kd} {v : V} {d : D} (e : Same H0 H1) (h : rK W k d F H H1 v) : rK W k d F H H0 v := by
  cases k with
  | fr => exact rO_back e h
  | pl => exact h
  | vw => exact h
/-- d.get(k, x) -/
def xDget2 (a b c : XP W) : XP W where
  t := tDGet2N a.t b.t c.t
  ev env := (a.ev env).bind fun p => (dicOf p.2).bind fun q => (b.evV env).bind fun y => (c.ev env).bind fun z => getE q.1 q.2 p.1 y z
  snd := fun {env k d} e => by
    obtain ⟨⟨kp, dp⟩, e1, e⟩ := Option.bind_eq_some_iff.mp e
    obtain ⟨⟨ks, xs⟩, e2, e⟩ := Option.bind_eq_some_iff.mp e
    obtain ⟨y, e3, e⟩ := Option.bind_eq_some_iff.mp e
    obtain ⟨⟨kz, dz⟩, e4, e⟩ := Option.bind_eq_some_iff.mp e
    intro e' F σ H L Q r q
    refine a.snd e1 e' F σ H L _ r fun v F1 H1 x1 y1 => ?_
    obtain ⟨M, o⟩ := rK_own y1
    obtain ⟨da, vs, M1, rfl, rd, hl, hn, os⟩ := dicOf_ok (basis_same x1.s) o e2
    refine ⟨da, rfl, .inl ⟨_, rd⟩, b.sV e3 e' F1 σ H1 L _ (r.ext x1) fun u F2 H2 x2 y2 => c.snd e4 e' F2 σ H2 L _ ((r.ext x1).ext x2) fun w F3 H3 x3 y3 => ?_⟩
    have x12 := x2.trans x3
    have rd3 := rd_same x12.h rd
    have os3 := os.frame (F' := basis kp F3 H3) (H' := H3) x12.basis fun a _ o q => x12.h _ _ q
    have y2 : Shr W H2 y u := y2
    have y2 := y2.mono x3.h
    have back : ∀ {k d v}, rK W k d F3 H3 H2 v → rK W k d F3 H3 H v := fun h => rK_back (x1.h.trans x2.h) h
    dsimp only at e
    by_cases hy : ∃ k, keyD y = some k
    · obtain ⟨ky, hk⟩ := hy
      have ee : (some (match dg ks xs ky with | some x => kp.of x | none => (kz, dz))) = some (k, d) := by
        rw [← e]
        cases y <;> first | (cases hk; done) | (simp only [getE, hk, Option.map_some])
      have hv := keyD_ok y2 hk
      obtain ⟨g1, g2⟩ := dg_own (k := ky) os3 hl
      cases hg : dg ks xs ky with
      | none =>
        rw [hg] at ee
        cases ee
        refine ⟨none, .inl (.inl ⟨_, ky, rd3, hv, (g2 hg).symm⟩), ?_⟩
        exact q _ F3 H3 (x1.trans x12) (back y3)
      | some x =>
        rw [hg] at ee
        obtain ⟨v', M', hv', ov⟩ := g1 x hg
        refine ⟨some v', .inl (.inl ⟨_, ky, rd3, hv, hv'.symm⟩), ?_⟩
        exact q _ F3 H3 (x1.trans x12) (rK_of x3.s ov (Option.some.inj ee))
    · have hyn : y = .non := by
        cases y <;> first | rfl | skip
        all_goals first | (exact absurd ⟨_, rfl⟩ hy) | (simp [getE, keyD] at e)
      subst hyn
      cases e
      cases y2
      exact ⟨none, .inr ⟨rfl, ⟨_, rd3⟩, rfl⟩, q _ F3 H3 (x1.trans x12) (back y3)⟩
theorem pt_alt {X : Cx} {e : Expr} {t1 t2 : TT} (h1 : PT X e t1) (h2 : PT X e t2) : PT X e (fun σ H Q => t1 σ H Q ∨ t2 σ H Q) :=
  ⟨fun pins s σ H Q I h => h.elim (h1.run pins s σ H Q I) (h2.run pins s σ H Q I)⟩
theorem ps_alt {X : Cx} {st : Stmt} {t1 t2 : TS} (h1 : PS X st t1) (h2 : PS X st t2) : PS X st (fun D σ H => t1 D σ H ∨ t2 D σ H) :=
  ⟨fun pins s σ H D I h => h.elim (h1.run pins s σ H D I) (h2.run pins s σ H D I)⟩
theorem PSet.or {X : Cx} {r r' : TSet} (h : PSet X r) (h' : PSet X r') : PSet X (fun o i v H Q => r o i v H Q ∨ r' o i v H Q) :=
  fun pins s σ H o i v ov iv u Q I ro ri rv q => q.elim (h pins s σ H o i v ov iv u Q I ro ri rv) (h' pins s σ H o i v ov iv u Q I ro ri rv)
def xpAlt (a b : XP W) : XP W where
  t := fun σ H Q => a.t σ H Q ∨ b.t σ H Q
  ev env := orI (a.ev env) (b.ev env)
  snd := fun e => by
    rcases orI_ok e with e | e
    · exact fun e' F σ H L Q r q => .inl (a.snd e e' F σ H L Q r q)
    · exact fun e' F σ H L Q r q => .inr (b.snd e e' F σ H L Q r q)
def orR (a b : RS) : RS := match a with
  | .no => b
  | r => r
def xsAlt (s u : XS W) : XS W where
  t E := fun D σ H => s.t E D σ H ∨ u.t E D σ H
  ev P env := orR (s.ev P env) (u.ev P env)
  snd := fun P E env hn e F σ H L Dn hP r h => by
    have hs := s.snd P E env
    cases hr : s.ev P env with
    | no =>
      rw [hr] at hn h
      exact .inr (u.snd P E env hn e F σ H L Dn hP r h)
    | _ =>
      rw [hr] at hs h
      exact .inl (hs (by simp) e F σ H L Dn hP r h)
def dgE (ks : List Key) (xs : List D) (p : Kd) (y : D) : Option (Kd × D) := (keyD y).bind fun k => (dg ks xs k).map p.of
def xDix (a b : XP W) : XP W where
  t := tDGet a.t b.t
  ev env := (a.ev env).bind fun p => (dicOf p.2).bind fun q => (b.evV env).bind fun y => dgE q.1 q.2 p.1 y
  snd := fun {env k d} e => by
    obtain ⟨⟨kp, dp⟩, e1, e⟩ := Option.bind_eq_some_iff.mp e
    obtain ⟨⟨ks, xs⟩, e2, e⟩ := Option.bind_eq_some_iff.mp e
    obtain ⟨y, e3, e⟩ := Option.bind_eq_some_iff.mp e
    obtain ⟨ky, hk, e⟩ := Option.bind_eq_some_iff.mp e
    obtain ⟨x, hx, e⟩ := Option.map_eq_some_iff.mp e
    intro e' F σ H L Q r q
    refine a.snd e1 e' F σ H L _ r fun v F1 H1 x1 y1 => b.sV e3 e' F1 σ H1 L _ (r.ext x1) fun u F2 H2 x2 y2 => ?_
    obtain ⟨M, o⟩ := rK_own y1
    have o2 : Own W (basis kp F2 H2) H2 dp v M := o.frame x2.basis fun a _ o q => x2.h _ _ q
    obtain ⟨da, vs, M1, rfl, rd, hl, hn, os⟩ := dicOf_ok (basis_same x2.s) o2 e2
    have y2 : Shr W H2 y u := y2
    obtain ⟨v', M', hv', ov⟩ := (dg_own (k := ky) os hl).1 x hx
    exact ⟨da, v', rfl, .inl ⟨_, ky, rd, keyD_ok y2 hk, hv'.symm⟩, q _ F2 H2 (x1.trans x2) (rK_of x2.s ov e)⟩
def fls : List D → Option (List V)
  | [] => some []
  | d :: ds => (fl d).bind fun v => (fls ds).map (v :: ·)
theorem fl_flat {v : V} (h : fl d = some v) : flatV v = true := by
  cases d <;> first | (cases h; done) | (cases h; rfl)
theorem fls_ok {F : Hp} : ∀ {ds : List D} {vs ws : List V}, Shrs W F ds vs → fls ds = some ws → vs = ws ∧ ws.all flatV = true
  | [], _, _, .nil, e => by cases e; exact ⟨rfl, rfl⟩
  | d :: ds, _, _, .cons h t, e => by
    obtain ⟨v, e1, e⟩ := Option.bind_eq_some_iff.mp e
    obtain ⟨ws, e2, rfl⟩ := Option.map_eq_some_iff.mp e
    obtain ⟨h1, h2⟩ := fls_ok t e2
    rw [h.fl e1, h1]
    exact ⟨rfl, by rw [List.all_cons, fl_flat e1, h2]; rfl⟩
def inL (neg : Bool) (x : D) (ys : List D) : Option D := (fl x).bind fun v => (fls ys).map fun vs => .bl (if neg then !inV v vs else inV v vs)
def xIn (neg : Bool) (a b : XP W) : XP W where
  t := tOp (rIn W.K neg) a.t b.t
  ev env := (a.evV env).bind fun x => (b.evV env).bind fun y => (seqOf y).bind fun p => (inL neg x p.2).map (Prod.mk .fr)
  snd := fun {env k d} e => by
    obtain ⟨x, e1, e⟩ := Option.bind_eq_some_iff.mp e
    obtain ⟨y, e2, e⟩ := Option.bind_eq_some_iff.mp e
    obtain ⟨⟨b1, ys⟩, e3, e⟩ := Option.bind_eq_some_iff.mp e
    obtain ⟨z, e4, e⟩ := Option.map_eq_some_iff.mp e
    cases e
    obtain ⟨v, e5, e⟩ := Option.bind_eq_some_iff.mp e4
    obtain ⟨ws, e6, rfl⟩ := Option.map_eq_some_iff.mp e
    intro e' F σ H L Q r q
    refine a.sV e1 e' F σ H L _ r fun u F1 H1 x1 y1 => b.sV e2 e' F1 σ H1 L _ (r.ext x1) fun w F2 H2 x2 y2 => ?_
    have y1 : Shr W H1 x u := y1
    have y2 : Shr W H2 y w := y2
    obtain ⟨a, vs, rfl, sh, sq⟩ := seqOf_ok (W := W) (Same.refl H2) (.sh y2) e3
    obtain ⟨rfl, hf⟩ := fls_ok sh e6
    rw [y1.fl e5]
    refine ⟨a, _, rfl, ?_, fl_flat e5, hf, q _ F2 H2 (x1.trans x2) (rO_sh .bl)⟩
    cases b1 with
    | true => exact .inr sq
    | false => exact .inl sq
theorem any_pd {x : D} {p : PyData} (h : pd x = some p) : ∀ {ys : List D} {ps : List PyData}, pds ys = some ps → (ps.any fun z => PyData.eqv z p) = ys.any fun z => eqB z x
  | [], ps, e => by rw [pds] at e; cases e; rfl
  | y :: ys, ps, e => by
    rw [pds] at e
    split at e
    · rename_i q qs k1 k2
      cases e
      rw [List.any_cons, List.any_cons, any_pd h k2, eqB_pd y k1 h]
    · cases e
def inE : D → D → Option D
  | x, .lst ys => if okD 60 x = true ∧ okD 60 (.lst ys) = true then some (.bl (ys.any fun z => eqB z x)) else none
  | _, _ => none
/-- x in xs, things of any depth -/
def xInE (a b : XP W) : XP W := xOp (rInD W.K) inE (fun {x y d} e => by
  cases y with
  | lst ys =>
    obtain ⟨⟨h1, h2⟩, rfl⟩ := ite_some (show (if okD 60 x = true ∧ okD 60 (.lst ys) = true then some (D.bl (ys.any fun z => eqB z x)) else none) = some d from e)
    obtain ⟨p, p1, p2, p3⟩ := okD_pd h1
    obtain ⟨q, q1, q2, q3⟩ := okD_pd h2
    have q0 := q1
    simp only [pd, Option.map_eq_some_iff] at q1
    obtain ⟨ps, e1, rfl⟩ := q1
    rw [← any_pd p1 e1]
    exact fun F H v1 v2 Q s a b q => ⟨p, ps, a.dp p1, b.dp q0, okD_sh (x := x) p2 p3, okD_sh (x := .lst ys) q2 q3, q _ F H (.refl s) (rO_sh .bl)⟩
  | _ => cases e) a b
def hasK (ks : List Key) (k : Key) : Bool := ks.any fun j => decide (j = k)
def inK (neg : Bool) (ks : List Key) (y : D) : Option D := match y with
  | .non => some (.bl neg)
  | y => (keyD y).map fun k => .bl (if neg then !hasK ks k else hasK ks k)
theorem hasK_valV {k : Key} : ∀ {ks : List Key} {vs : List V}, ks.length = vs.length → (valV (ks.zip vs) k).isSome = hasK ks k
  | [], [], _ => rfl
  | [], _ :: _, h => by simp at h
  | _ :: _, [], h => by simp at h
  | k' :: ks, v :: vs, h => by
    rw [List.zip_cons_cons]
    unfold hasK
    rw [List.any_cons]
    by_cases e : k' = k
    · rw [valV_pos (p := (k', v)) e, decide_eq_true e]; rfl
    · rw [valV_neg (p := (k', v)) e, decide_eq_false e, hasK_valV (by simpa using h)]; rfl
def tInK (neg : Bool) (ty td : TE) : TE := match neg with
  | true => tDNotInN ty td
  | false => tDInN ty td
def xDin (neg : Bool) (a b : XP W) : XP W where
  t := tInK neg a.t b.t
  ev env := (a.evV env).bind fun y => (b.ev env).bind fun p => (dicOf p.2).bind fun q => (inK neg q.1 y).map (Prod.mk .fr)
  snd := fun {env k d} e => by
    obtain ⟨y, e3, e⟩ := Option.bind_eq_some_iff.mp e
    obtain ⟨⟨kp, dp⟩, e1, e⟩ := Option.bind_eq_some_iff.mp e
    obtain ⟨⟨ks, xs⟩, e2, e⟩ := Option.bind_eq_some_iff.mp e
    obtain ⟨z, e4, e⟩ := Option.map_eq_some_iff.mp e
    cases e
    intro e' F σ H L Q r q
    have main : ∀ {u F1 H1 v F2 H2}, Ext F H F1 H1 → Shr W H1 y u → Ext F1 H1 F2 H2 → rK W kp dp F2 H2 H1 v → ∃ a kvs, v = .ref a ∧ Rd H2 a (.dK kvs) ∧ ((∃ b, d = D.bl (if neg then !b else b) ∧ ∃ o, DGet H2 a u o ∧ o.isSome = b) ∨ (u = .non ∧ d = D.bl neg)) := by
      intro u F1 H1 v F2 H2 x1 y1 x2 y2
      obtain ⟨M, o⟩ := rK_own y2
      obtain ⟨da, vs, M1, rfl, rd, hl, hn, os⟩ := dicOf_ok (basis_same x2.s) o e2
      refine ⟨da, _, rfl, rd, ?_⟩
      by_cases hy : ∃ k, keyD y = some k
      · obtain ⟨ky, hk⟩ := hy
        have hz : d = .bl (if neg then !hasK ks ky else hasK ks ky) := by
          cases y <;> first | (cases hk; done) | (simp only [inK, hk, Option.map_some] at e4; exact (Option.some.inj e4).symm)
        exact .inl ⟨hasK ks ky, hz, _, .inl ⟨_, ky, rd, keyD_ok y1 hk, rfl⟩, hasK_valV hl⟩
      · have hyn : y = .non := by
          cases y <;> first | rfl | skip
          all_goals first | (exact absurd ⟨_, rfl⟩ hy) | (simp [inK, keyD] at e4)
        subst hyn
        cases e4
        cases y1
        exact .inr ⟨rfl, rfl⟩
    cases neg with
    | false =>
      refine a.sV e3 e' F σ H L _ r fun u F1 H1 x1 y1 => b.snd e1 e' F1 σ H1 L _ (r.ext x1) fun v F2 H2 x2 y2 => ?_
      obtain ⟨a, kvs, rfl, rd, ⟨b, rfl, o, ho, hb⟩ | ⟨rfl, rfl⟩⟩ := main x1 y1 x2 y2
      · exact .inl ⟨a, o, rfl, ho, by rw [hb]; exact q _ F2 H2 (x1.trans x2) (rO_sh .bl)⟩
      · exact .inr ⟨a, kvs, rfl, rfl, rd, q _ F2 H2 (x1.trans x2) (rO_sh .bl)⟩
    | true =>
      refine a.sV e3 e' F σ H L _ r fun u F1 H1 x1 y1 => b.snd e1 e' F1 σ H1 L _ (r.ext x1) fun v F2 H2 x2 y2 => ?_
      obtain ⟨a, kvs, rfl, rd, ⟨b, rfl, o, ho, hb⟩ | ⟨rfl, rfl⟩⟩ := main x1 y1 x2 y2
      · exact .inl ⟨a, o, rfl, ho, by rw [hb]; exact q _ F2 H2 (x1.trans x2) (rO_sh .bl)⟩
      · exact .inr ⟨a, kvs, rfl, rfl, rd, q _ F2 H2 (x1.trans x2) (rO_sh .bl)⟩
/-- the keys as data (ints alone) -/
def kDs : List Key → Option (List D)
  | [] => some []
  | .inl i :: ks => (kDs ks).map (.int i :: ·)
  | .inr _ :: _ => none
theorem kDs_ok {F : Hp} : ∀ {ks : List Key} {vs : List V} {ds : List D}, ks.length = vs.length → kDs ks = some ds → Shrs W F ds ((ks.zip vs).map fun kv => kV kv.1)
  | [], [], _, _, e => by cases e; exact .nil
  | [], _ :: _, _, h, _ => by simp at h
  | _ :: _, [], _, h, _ => by simp at h
  | .inl i :: ks, v :: vs, _, h, e => by
    obtain ⟨ds, e1, rfl⟩ := Option.map_eq_some_iff.mp e
    exact .cons .int (kDs_ok (by simpa using h) e1)
  | .inr _ :: _, _, _, _, e => by cases e
abbrev rListK : List V → Hp → VK → Prop := fun xs H Q => ∃ (a : Addr) (kvs : List (Key × V)), xs = [.ref a] ∧ Rd H a (.dK kvs) ∧ ∀ p, H p = none → Q (.ref p) (upd H p (.lst (kvs.map fun kv => kV kv.1)))
def xDlist (a : XP W) : XP W where
  t := tCB rListK (tCons a.t tNil)
  ev env := (a.ev env).bind fun p => (dicOf p.2).bind fun q => (kDs q.1).map fun ds => (.fr, .olst ds)
  snd := fun {env k d} e => by
    obtain ⟨⟨kp, dp⟩, e1, e⟩ := Option.bind_eq_some_iff.mp e
    obtain ⟨⟨ks, xs⟩, e2, e⟩ := Option.bind_eq_some_iff.mp e
    obtain ⟨ds, e3, e⟩ := Option.map_eq_some_iff.mp e
    cases e
    intro e' F σ H L Q r q
    refine a.snd e1 e' F σ H L _ r fun v F1 H1 x1 y1 => ?_
    obtain ⟨M, o⟩ := rK_own y1
    obtain ⟨da, vs, M1, rfl, rd, hl, hn, os⟩ := dicOf_ok (basis_same x1.s) o e2
    exact ⟨da, _, rfl, rd, fun p hp => q _ F1 _ (x1.trans (.newH x1.s hp)) ⟨[p], .olst upd_same (kDs_ok hl e3).owns, by simp, fun x m => by
      rw [List.mem_singleton.mp m]; exact ⟨x1.h.free hp, x1.s.free hp⟩⟩⟩
abbrev rDictK : List V → Hp → VK → Prop := fun xs H Q => ∃ (a : Addr) (kvs : List (Key × V)), xs = [.ref a] ∧ Rd H a (.dK kvs) ∧ ∀ p, H p = none → Q (.ref p) (upd H p (.dK kvs))
/-- a dict of shared things, as shared data -/
def dicF : D → Option (List Key × List D)
  | .dic ks xs => some (ks, xs)
  | .odic ks xs => if xs.all isSh = true then some (ks, xs) else none
  | _ => none
theorem dicF_ok {F H : Hp} {v : V} {L : List Addr} {ks : List Key} {xs : List D} (s : Same F H) (o : Own W F H d v L) (h : dicF d = some (ks, xs)) : ∃ a vs, v = .ref a ∧ Rd H a (.dK (ks.zip vs)) ∧ ks.length = vs.length ∧ ks.Nodup ∧ Shrs W F xs vs := by
  cases o with
  | sh y =>
    cases y <;> first | (cases h; done) | skip
    rename_i a1 vs1 h1 h2 h3 h4
    cases h
    exact ⟨_, _, rfl, rd_same s h1, h2, h3, h4⟩
  | odic ha hl hn hs => obtain ⟨hz, e⟩ := ite_some h; cases e; exact ⟨_, _, rfl, .inl ha, hl, hn, hs.shrs hz⟩
  | olst => cases h
  | odit => cases h
  | odig => cases h
  | oins => cases h
def xDict (a : XP W) : XP W where
  t := tCB rDictK (tCons a.t tNil)
  ev env := (a.evK env).bind fun d => (dicF d).map fun q => (.fr, .odic q.1 q.2)
  snd := fun {env k d} e => by
    obtain ⟨d0, e1, e⟩ := Option.bind_eq_some_iff.mp e
    obtain ⟨⟨ks, xs⟩, e2, e⟩ := Option.map_eq_some_iff.mp e
    cases e
    intro e' F σ H L Q r q
    refine a.sK e1 e' F σ H L _ r fun v F1 H1 x1 ⟨M, o⟩ => ?_
    obtain ⟨da, vs, rfl, rd, hl, hn, os⟩ := dicF_ok x1.s o e2
    exact ⟨da, _, rfl, rd, fun p hp => q _ F1 _ (x1.trans (.newH x1.s hp)) ⟨[p], .odic upd_same hl hn os.owns, by simp, fun x m => by
      rw [List.mem_singleton.mp m]; exact ⟨x1.h.free hp, x1.s.free hp⟩⟩⟩
abbrev rLenK : List V → Hp → VK → Prop := fun xs H Q => ∃ (a : Addr) (kvs : List (Key × V)), xs = [.ref a] ∧ Rd H a (.dK kvs) ∧ Q (.int kvs.length) H
theorem call_lenK {X : Cx} : CallR X (.builtin "len") rLenK := by
  intro pins s σ H xs us Q I r q
  obtain ⟨a, kvs, ex, hd, q⟩ := q
  subst ex
  obtain ⟨u, eu, rx⟩ := vals1 r
  subst eu
  cases rx
  exact d_len I hd fun t s' I' => ⟨.int kvs.length, H, I', ⟨t, rfl⟩, q⟩
def xDlen (a : XP W) : XP W where
  t := tCB rLenK (tCons a.t tNil)
  ev env := (a.ev env).bind fun p => (dicOf p.2).map fun q => (.fr, .int q.1.length)
  snd := fun {env k d} e => by
    obtain ⟨⟨kp, dp⟩, e1, e⟩ := Option.bind_eq_some_iff.mp e
    obtain ⟨⟨ks, xs⟩, e2, e⟩ := Option.map_eq_some_iff.mp e
    cases e
    intro e' F σ H L Q r q
    refine a.snd e1 e' F σ H L _ r fun v F1 H1 x1 y1 => ?_
    obtain ⟨M, o⟩ := rK_own y1
    obtain ⟨da, vs, M1, rfl, rd, hl, hn, os⟩ := dicOf_ok (basis_same x1.s) o e2
    refine ⟨da, _, rfl, rd, ?_⟩
    rw [List.length_zip, ← hl, Nat.min_self]
    exact q _ F1 H1 x1 (rO_sh .int)
theorem pos_none_has {k : Key} : ∀ {ks : List Key}, pos k ks = none → (∀ k' ∈ ks, k' ≠ k)
  | [], _, _, m => nomatch m
  | k1 :: ks, h, k', m => by
    have h : (if k1 = k then some 0 else (pos k ks).map (· + 1)) = none := h
    split at h
    · cases h
    · rename_i e
      rcases List.mem_cons.mp m with rfl | m
      · exact e
      · exact pos_none_has (Option.map_eq_none_iff.mp h) k' m
theorem putK_none {k : Key} {v : V} {ks : List Key} {vs : List V} (hl : ks.length = vs.length) (h : pos k ks = none) : putK (ks.zip vs) k v = (ks ++ [k]).zip (vs ++ [v]) := by
  have hn : valV (ks.zip vs) k = none := by
    cases e : valV (ks.zip vs) k with
    | none => rfl
    | some x =>
      have := hasK_valV (k := k) hl
      rw [e] at this
      have this : hasK ks k = true := this.symm
      unfold hasK at this
      obtain ⟨k', m, e'⟩ := List.any_eq_true.mp this
      exact absurd (of_decide_eq_true e') (pos_none_has h k' m)
  rw [putK_new v hn, List.zip_append hl]; rfl
theorem pos_has {k : Key} : ∀ {ks : List Key} {j : Nat}, pos k ks = some j → hasK ks k = true
  | k1 :: ks, j, h => by
    have h : (if k1 = k then some 0 else (pos k ks).map (· + 1)) = some j := h
    unfold hasK
    rw [List.any_cons]
    split at h
    · rename_i e; rw [decide_eq_true e]; rfl
    · obtain ⟨i, h1, _⟩ := Option.map_eq_some_iff.mp h
      have := pos_has h1
      unfold hasK at this
      rw [this, Bool.or_true]
theorem putK_map {k : Key} {v : V} : ∀ {ks : List Key} {vs : List V} {j : Nat}, ks.length = vs.length → ks.Nodup → pos k ks = some j → (ks.zip vs).map (fun kv => if kv.1 = k then (kv.1, v) else kv) = ks.zip (vs.set j v)
  | [], _, _, _, _, h => by cases h
  | _ :: _, [], _, h, _, _ => by simp at h
  | k1 :: ks, u :: vs, j, hl, hn, h => by
    have h : (if k1 = k then some 0 else (pos k ks).map (· + 1)) = some j := h
    rw [List.nodup_cons] at hn
    rw [List.zip_cons_cons, List.map_cons]
    split at h
    · rename_i e
      cases h
      rw [if_pos e, List.set_cons_zero, List.zip_cons_cons]
      congr 1
      have : ∀ kv ∈ ks.zip vs, (if kv.1 = k then (kv.1, v) else kv) = kv := fun kv m => by
        rw [if_neg]
        intro z
        have := (List.of_mem_zip (a := kv.1) (b := kv.2) m).1
        rw [z, ← e] at this
        exact hn.1 this
      exact (List.map_congr_left this).trans (List.map_id _)
    · rename_i e
      obtain ⟨i, h1, h2⟩ := Option.map_eq_some_iff.mp h
      subst h2
      rw [if_neg e, List.set_cons_succ, List.zip_cons_cons, putK_map (by simpa using hl) hn.2 h1]
theorem putK_some {k : Key} {v : V} {ks : List Key} {vs : List V} {j : Nat} (hl : ks.length = vs.length) (hn : ks.Nodup) (h : pos k ks = some j) : putK (ks.zip vs) k v = ks.zip (vs.set j v) := by
  unfold putK
  rw [if_pos, putK_map hl hn h]
  rw [valV_any, hasK_valV hl]
  exact pos_has h
/-- an operation that rewrites the thing at its root -/
theorem mop_atD {G : D} {F H : Hp} {a : Addr} {L : List Addr} {Ms : List Addr} {ys : List D} {ws : List V} {o : HO} {M' L2 : List Addr} {v' : V} {Q : VK} (s : Same F H) (nd : (Ms ++ (a :: L)).Nodup) (kF : ∀ b ∈ Ms ++ (a :: L), F b = none)
    (hG : ∀ (F' H' : Hp) (L' : List Addr), H' a = some o → Owns W F' H' ys ws L' → Own W F' H' G (.ref a) (a :: L')) (hs : Owns W F H ys ws L2) (od : Own W F H d v' M') (n2 : (M' ++ L2).Nodup) (sub : ∀ b ∈ M' ++ L2, b ∈ L ∨ b ∈ Ms)
    (q : ∀ F' H' v' Ln' M', Same F F' → Same F' H' → (∀ b o, b ∉ a :: L → H b = some o → H' b = some o) → (∀ b o, F' b = some o → F b = some o ∨ H b = none) → Own W F' H' G (.ref a) Ln' → Own W F' H' d v' M' → (M' ++ Ln').Nodup →
      (∀ b ∈ M' ++ Ln', F' b = none ∧ (b ∈ a :: L ∨ b ∈ Ms ∨ H b = none)) → Q v' H') : Q v' (upd H a o) := by
  rw [List.nodup_append] at nd
  obtain ⟨n3, n4, n5⟩ := nd
  rw [List.nodup_cons] at n4
  have na : ∀ b ∈ M' ++ L2, b ≠ a := fun b hb z => by
    subst z
    rcases sub _ hb with y | y
    · exact n4.1 y
    · exact n5 _ y _ (List.mem_cons_self ..) rfl
  have Fa : F a = none := kF a (List.mem_append_right _ (List.mem_cons_self ..))
  refine q F (upd H a o) v' (a :: L2) M' (Same.refl _) (same_upd s Fa) (fun b u hb hu => ?_) (fun b u hu => .inl hu) (hG F _ _ upd_same (owns_upd hs fun z => na a (List.mem_append_right _ z) rfl)) (own_upd od fun z => na a (List.mem_append_left _ z) rfl) ?_ (fun b hb => ?_)
  · rw [upd_ne (fun z => hb (by rw [z]; exact List.mem_cons_self ..))]; exact hu
  · rw [List.nodup_append] at n2 ⊢
    refine ⟨n2.1, List.nodup_cons.mpr ⟨fun z => na a (List.mem_append_right _ z) rfl, n2.2.1⟩, fun b hb c hc => ?_⟩
    rcases List.mem_cons.mp hc with z | z
    · rw [z]; exact na b (List.mem_append_left _ hb)
    · exact n2.2.2 b hb c z
  · rcases List.mem_append.mp hb with z | z
    · have := sub b (List.mem_append_left _ z)
      refine ⟨kF b ?_, ?_⟩
      · rcases this with y | y
        · exact List.mem_append_right _ (List.mem_cons_of_mem _ y)
        · exact List.mem_append_left _ y
      · rcases this with y | y
        · exact .inl (List.mem_cons_of_mem _ y)
        · exact .inr (.inl y)
    · rcases List.mem_cons.mp z with z | z
      · subst z; exact ⟨Fa, .inl (List.mem_cons_self ..)⟩
      · have := sub b (List.mem_append_right _ z)
        refine ⟨kF b ?_, ?_⟩
        · rcases this with y | y
          · exact List.mem_append_right _ (List.mem_cons_of_mem _ y)
          · exact List.mem_append_left _ y
        · rcases this with y | y
          · exact .inl (List.mem_cons_of_mem _ y)
          · exact .inr (.inl y)
def putP (ks : List Key) (xs : List D) (k : Key) (y : D) : Option (List Key × List D) := match pos k ks with
  | none => some (ks ++ [k], xs ++ [y])
  | some j => if xs.all isSh = true then some (ks, xs.set j y) else none
def dputD (n : D) (ds : List D) : Option (D × D) := match n, ds with
  | .odic ks xs, [i, d] => if xs.length < 1000000 then (keyD i).bind fun k => (putP ks xs k d).map fun q => (.odic q.1 q.2, .non) else none
  | _, _ => none
def rDput : V → List V → Hp → VK → Prop := fun x ys H Q => ∃ (a : Addr) (k v : V) (H' : Hp), x = .ref a ∧ ys = [k, v] ∧ DPut H a k v H' ∧ Q .non H'
theorem mop_dput : Mop W rDput dputD := by
  intro n ds n' d hf F H vn Ln vs Ms Q s o os nd kF q
  unfold dputD at hf
  split at hf
  · rename_i ks xs i d2
    have hz : xs.length < 1000000 := by
      by_cases h : xs.length < 1000000
      · exact h
      · rw [if_neg h] at hf; cases hf
    rw [if_pos hz] at hf
    obtain ⟨k, hk, hf⟩ := Option.bind_eq_some_iff.mp hf
    obtain ⟨⟨ks', xs'⟩, hp, e⟩ := Option.map_eq_some_iff.mp hf
    cases e
    obtain ⟨v1, v2, L1, L2, rfl, o1, o2, rfl⟩ := os.two
    have hi : isSh i = true := by cases i <;> first | rfl | cases hk
    have hv := keyD_ok (o1.shr hi) hk
    cases o1.shNil hi
    cases o with
    | sh y => cases y
    | @odic a _ _ vs L ha hl hn hs =>
      have hz2 : (ks.zip vs).length < sizeLine := by
        rw [List.length_zip, ← hs.length]
        exact Nat.lt_of_le_of_lt (Nat.min_le_right _ _) (Nat.lt_of_lt_of_le hz (by decide))
      unfold putP at hp
      cases hpos : pos k ks with
      | none =>
        rw [hpos] at hp
        cases hp
        refine ⟨a, v1, v2, _, rfl, rfl, .inl ⟨_, k, ha, hv, hz2, rfl⟩, ?_⟩
        rw [putK_none hl hpos]
        refine mop_atD (ys := xs ++ [d2]) (ws := vs ++ [v2]) s nd kF (fun F' H' L' h1 h2 => .odic h1 (by simp [hl]) ?_ h2) (hs.append (.cons o2 .nil)) (.sh .non) ?_ (fun b hb => ?_) q
        · rw [List.nodup_append]
          exact ⟨hn, by simp, fun x hx y hy z => pos_none_has hpos x hx (by rw [z]; simpa using hy)⟩
        · have := nd_swap (nd_tail nd)
          simpa using this
        · simpa using hb
      | some j =>
        rw [hpos] at hp
        obtain ⟨hall, e⟩ := ite_some hp
        cases e
        refine ⟨a, v1, v2, _, rfl, rfl, .inl ⟨_, k, ha, hv, hz2, rfl⟩, ?_⟩
        rw [putK_some hl hn hpos]
        have sh := hs.shrs hall
        have hj : j < ks.length := by
          have := pos_get hpos
          exact (List.getElem?_eq_some_iff.mp this).1
        have hjx : j < xs.length := by have := hs.length; omega
        refine mop_atD (ys := xs.set j d2) (ws := vs.set j v2) (L2 := L2 ++ []) s nd kF (fun F' H' L' h1 h2 => .odic h1 (by simp [hl]) hn h2) ?_ (.sh .non) ?_ (fun b hb => ?_) q
        · rw [set_split hjx, set_split (by rw [← hs.length]; exact hjx)]
          have h3 := ((sh.take j).owns (H := H)).append (.cons o2 ((sh.drop (j + 1)).owns))
          rw [List.nil_append] at h3
          rw [List.append_assoc, List.append_assoc]
          exact h3
        · have := (List.nodup_append.mp nd).1
          simpa using this
        · exact .inr (by simpa using hb)
  · cases hf
def rSetD : TSet := fun o i v H Q => ∃ (a : Addr) (H' : Hp), o = .ref a ∧ DPut H a i v H' ∧ Q H'
theorem set_dict {X : Cx} (hu : X.A.units + 1 < cLine) : PSet X rSetD := by
  intro pins s σ H o i v ov iv u Q I ro ri rv h
  obtain ⟨a, H', rfl, g, q⟩ := h
  cases ro
  exact d_setItem hu I g ri rv fun s' I' => ⟨H', I', q⟩
def dputK {T : Tbl} {W : Wd T} (p : XPl W) (k : XP W) (d : D) (e : Py.Env) : RS := RS.ofO ((p.ev e).bind fun q => (k.evF e).bind fun i => (dputD q.2 [i, d]).bind fun z => (getS e p.root).map fun d0 => e.set p.root (some (d0.putAt q.1 z.1)))
/-- d[k] = y -/
def xsDput (p : XPl W) (k : XP W) (m : XM W) : XS W where
  t E := tAsg (m.t E) (gSub p.t k.t rSetD)
  ev P env := (m.ev P env).thenS (dputK p k)
  snd := fun P E env hn e F σ H L Dn hP r s => by
    have hm : m.ev P env ≠ .no := fun z => hn (by rw [z]; rfl)
    refine (m.snd P E env).run hm hP r s (fun x e1 h => by rw [h]; rfl) fun d env' v F' H' L' M h r' o nd kk => ?_
    rw [h] at hn s
    have hn : dputK p k d env' ≠ .no := hn
    have s : Sat W e E (ends (dputK p k d env')) Dn := s
    unfold dputK at hn s
    cases h2 : ((p.ev env').bind fun q => (k.evF env').bind fun i => (dputD q.2 [i, d]).bind fun z => (getS env' p.root).map fun d0 => env'.set p.root (some (d0.putAt q.1 z.1))) with
    | none => rw [h2] at hn; exact absurd rfl hn
    | some e2 =>
      rw [h2] at s
      obtain ⟨⟨st, n⟩, e1, h3⟩ := Option.bind_eq_some_iff.mp h2
      obtain ⟨i, ei, h3⟩ := Option.bind_eq_some_iff.mp h3
      obtain ⟨⟨n', d'⟩, e3, h4⟩ := Option.bind_eq_some_iff.mp h3
      obtain ⟨d0', e4, h5⟩ := Option.map_eq_some_iff.mp h4
      subst h5
      obtain ⟨d0, h0, h1⟩ := p.at_ e1
      rw [getS_some e4] at h0
      cases h0
      obtain ⟨v0, _, _, _, hs, _⟩ := r'.focus (getS_some e4) h1
      refine p.loc e1 e F' σ H' L' v0 _ r' hs fun vn F1 H1 x1 p1 => ?_
      refine k.sF ei e F1 σ H1 L' _ (r'.ext x1) fun u F2 H2 x2 y2 => ?_
      rw [List.nodup_append] at nd
      obtain ⟨nd1, nd2, nd3⟩ := nd
      have x12 := x1.trans x2
      have go : rDput vn [u, v] H2 (fun _ H => Dn.nx σ H) := by
        refine am_mop mop_dput ((r'.ext x1).ext x2) (getS_some e4) h1 hs (p1.mono x2.h) e3 (Ms := [] ++ (M ++ [])) (.cons (.sh y2) (.cons (o.frame x12.f fun a _ o q => x12.h _ _ q) .nil)) (by simpa using nd1) (fun a ha => ?_) fun v2 F2 H2 L2 M2 r2 o2 n2 k2 => s.nx _ _ _ _ _ rfl r2
        have ha : a ∈ M := by simpa using ha
        refine ⟨fun z => nd3 a ha a z rfl, ?_, (kk a ha).2⟩
        obtain ⟨u, hu⟩ := o.lives a ha
        cases z : F2 a with
        | none => rfl
        | some w =>
          rcases x12.n a w z with y | y
          · rw [(kk a ha).1] at y; cases y
          · rw [hu] at y; cases y
      obtain ⟨a, k2, v', H', ex, ey, hd, q⟩ := go
      cases ey
      exact ⟨a, H', ex, hd, q⟩
end
end Py

namespace Py
open PySem L2
section
variable {T : Tbl} {W : Wd T} {env : Py.Env} {d : D} {P : List Nat} {E : WX} {A : AEnds}
/-- the same, but for locks of dicts -/
def SameL (F F' : Hp) : Prop := ∀ a o, F a = some o → F' a = some o ∨ (∃ kvs od, o = .dK kvs ∧ F' a = some (.frz od (.dK kvs))) ∨ ∃ kvs od, o = .frz od (.dK kvs) ∧ F' a = some (.dK kvs)
theorem SameL.eq {F F' : Hp} (e : SameL F F') {a : Addr} {o : HO} (h : F a = some o) (h1 : ∀ kvs, o ≠ .dK kvs) (h2 : ∀ od kvs, o ≠ .frz od (.dK kvs)) : F' a = some o := by
  rcases e a o h with q | ⟨kvs, od, q, _⟩ | ⟨kvs, od, q, _⟩
  · exact q
  · exact absurd q (h1 kvs)
  · exact absurd q (h2 od kvs)
theorem SameL.rd {F F' : Hp} (e : SameL F F') {a : Addr} {kvs : List (Key × V)} (h : Rd F a (.dK kvs)) : Rd F' a (.dK kvs) := by
  rcases h with h | ⟨o, h⟩
  · rcases e a _ h with q | ⟨kvs', od, q, q2⟩ | ⟨kvs', od, q, _⟩
    · exact .inl q
    · cases q; exact .inr ⟨_, q2⟩
    · cases q
  · rcases e a _ h with q | ⟨kvs', od, q, q2⟩ | ⟨kvs', od, q, q2⟩
    · exact .inr ⟨_, q⟩
    · cases q
    · cases q; exact .inl q2
theorem SameL.rdT {F F' : Hp} (e : SameL F F') {a : Addr} {kvs : List (List Key × V)} (h : Rd F a (.dT kvs)) : Rd F' a (.dT kvs) := by
  rcases h with h | ⟨o, h⟩
  · exact .inl (e.eq h (fun _ z => nomatch z) fun _ _ z => nomatch z)
  · exact .inr ⟨_, e.eq h (fun _ z => nomatch z) fun _ _ z => nomatch z⟩
theorem SameL.seq {F F' : Hp} (e : SameL F F') {K : PySem.W.Frag} {a : Addr} {vs : List V} (h : SqL K F a vs) : SqL K F' a vs := by
  rcases h with (h | ⟨o, h⟩) | h
  · exact .inl (.inl (e.eq h (fun _ z => nomatch z) fun _ _ z => nomatch z))
  · exact .inl (.inr ⟨o, e.eq h (fun _ z => nomatch z) fun _ _ z => nomatch z⟩)
  · exact .inr h
mutual
theorem Shr.lock {F F' : Hp} (e : SameL F F') : ∀ {d : D} {v : V}, Shr W F d v → Shr W F' d v
  | _, _, .non => .non
  | _, _, .bl => .bl
  | _, _, .int => .int
  | _, _, .str => .str
  | _, _, .cls h => .cls h
  | _, _, .sei h n => .sei (e.eq h (fun _ z => nomatch z) fun _ _ z => nomatch z) n
  | _, _, .scr h => .scr (e.seq h)
  | _, _, .tup h hs => .tup (e.eq h (fun _ z => nomatch z) fun _ _ z => nomatch z) (Shrs.lock e hs)
  | _, _, .lst h hs => .lst (e.eq h (fun _ z => nomatch z) fun _ _ z => nomatch z) (Shrs.lock e hs)
  | _, _, .dic h l n hs => .dic (e.rd h) l n (Shrs.lock e hs)
  | _, _, .dit h l n hs => .dit (e.rdT h) l n (Shrs.lock e hs)
  | _, _, .dig h k l hs => .dig (e.eq h (fun _ z => nomatch z) fun _ _ z => nomatch z) (Shrs.lock e k) l (Shrs.lock e hs)
  | _, _, .ins h c l hs => .ins (e.eq h (fun _ z => nomatch z) fun _ _ z => nomatch z) c l (Shrs.lock e hs)
theorem Shrs.lock {F F' : Hp} (e : SameL F F') : ∀ {d : List D} {v : List V}, Shrs W F d v → Shrs W F' d v
  | _, _, .nil => .nil
  | _, _, .cons h t => .cons (Shr.lock e h) (Shrs.lock e t)
end
mutual
theorem Own.lock {F F' H H' : Hp} (e : SameL F F') : ∀ {d : D} {v : V} {L : List Addr}, (∀ a ∈ L, ∀ o, H a = some o → H' a = some o) → Own W F H d v L → Own W F' H' d v L
  | _, _, _, _, .sh h => .sh (h.lock e)
  | _, _, _, k, .olst h t => .olst (k _ (List.mem_cons_self ..) _ h) (Owns.lock e (fun a m => k a (List.mem_cons_of_mem _ m)) t)
  | _, _, _, k, .odic h l n t => .odic (k _ (List.mem_cons_self ..) _ h) l n (Owns.lock e (fun a m => k a (List.mem_cons_of_mem _ m)) t)
  | _, _, _, k, .odit h l n t => .odit (k _ (List.mem_cons_self ..) _ h) l n (Owns.lock e (fun a m => k a (List.mem_cons_of_mem _ m)) t)
  | _, _, _, k, .odig h s l t => .odig (k _ (List.mem_cons_self ..) _ h) (s.lock e) l (Owns.lock e (fun a m => k a (List.mem_cons_of_mem _ m)) t)
  | _, _, _, k, .oins h c l t => .oins (k _ (List.mem_cons_self ..) _ h) c l (Owns.lock e (fun a m => k a (List.mem_cons_of_mem _ m)) t)
theorem Owns.lock {F F' H H' : Hp} (e : SameL F F') : ∀ {d : List D} {v : List V} {L : List Addr}, (∀ a ∈ L, ∀ o, H a = some o → H' a = some o) → Owns W F H d v L → Owns W F' H' d v L
  | _, _, _, _, .nil => .nil
  | _, _, _, k, .cons h t => .cons (Own.lock e (fun a m => k a (List.mem_append_left _ m)) h) (Owns.lock e (fun a m => k a (List.mem_append_right _ m)) t)
end
theorem Slots.lock {F F' H H' : Hp} (e : SameL F F') : ∀ {env : Py.Env} {σ : St} {L : List Addr}, (∀ a ∈ L, ∀ o, H a = some o → H' a = some o) → Slots W F H env σ L → Slots W F' H' env σ L
  | _, _, _, _, .nil => .nil
  | _, _, _, k, .so h t => .so (h.lock e fun a m => k a (List.mem_append_left _ m)) (t.lock e fun a m => k a (List.mem_append_right _ m))
  | _, _, _, k, .no t => .no (t.lock e k)
theorem sameL_lock {F : Hp} {a : Addr} {kvs : List (Key × V)} {od : Obj} (h : F a = some (.dK kvs)) : SameL F (upd F a (.frz od (.dK kvs))) := fun b o q => by
  by_cases z : b = a
  · subst z; rw [h] at q; cases q; exact .inr (.inl ⟨kvs, od, rfl, upd_same⟩)
  · rw [upd_ne z]; exact .inl q
theorem sameL_unlock {F : Hp} {a : Addr} {kvs : List (Key × V)} {od : Obj} (h : F a = some (.frz od (.dK kvs))) : SameL F (upd F a (.dK kvs)) := fun b o q => by
  by_cases z : b = a
  · subst z; rw [h] at q; cases q; exact .inr (.inr ⟨kvs, od, rfl, upd_same⟩)
  · rw [upd_ne z]; exact .inl q
/-- the state while the shared dict at a is locked -/
theorem Rel.lock {e : Ent} {F H : Hp} {σ : St} {L : List Addr} {a : Addr} {kvs : List (Key × V)} {od : Obj} (r : Rel W e env F σ H L) (h : F a = some (.dK kvs)) :
    Rel W ⟨upd F a (.frz od (.dK kvs)), upd H a (.frz od (.dK kvs)), L, e.pins⟩ env (upd F a (.frz od (.dK kvs))) σ (upd H a (.frz od (.dK kvs))) L where
  sF := fun b o q => by
    by_cases z : b = a
    · subst z; rw [upd_same] at q ⊢; exact q
    · rw [upd_ne z] at q ⊢; exact r.sF _ _ q
  slots := r.slots.lock (sameL_lock h) fun b m o q => by
    have : b ≠ a := fun z => by rw [z] at m; rw [r.dj a m] at h; cases h
    rw [upd_ne this]; exact q
  nd := r.nd
  dj := fun b m => by
    have : b ≠ a := fun z => by rw [z] at m; rw [r.dj a m] at h; cases h
    rw [upd_ne this]; exact r.dj b m
  s0 := Same.refl _
  nw := fun b o q => .inl q
  fr := fun b o m q => q
  ln := fun b m => .inl m
  pin := r.pin
theorem Rel.unlock {e : Ent} {F H F' H' : Hp} {σ σ' : St} {L L' : List Addr} {a : Addr} {kvs : List (Key × V)} {od : Obj} {env' : Py.Env} (r : Rel W e env F σ H L) (h : F a = some (.dK kvs))
    (r2 : Rel W ⟨upd F a (.frz od (.dK kvs)), upd H a (.frz od (.dK kvs)), L, e.pins⟩ env' F' σ' H' L') : F' a = some (.frz od (.dK kvs)) ∧ H' a = some (.frz od (.dK kvs)) ∧ Rel W e env' (upd F' a (.dK kvs)) σ' (upd H' a (.dK kvs)) L' := by
  have hF' : F' a = some (.frz od (.dK kvs)) := r2.s0 _ _ upd_same
  have hH' : H' a = some (.frz od (.dK kvs)) := r2.sF _ _ hF'
  have na : ∀ b ∈ L', b ≠ a := fun b m z => by rw [z] at m; rw [r2.dj a m] at hF'; cases hF'
  refine ⟨hF', hH', ⟨fun b o q => ?_, r2.slots.lock (sameL_unlock hF') fun b m o q => by rw [upd_ne (na b m)]; exact q, r2.nd, fun b m => by rw [upd_ne (na b m)]; exact r2.dj b m, fun b o q => ?_, fun b o q => ?_, fun b o m q => ?_, fun b m => ?_, r2.pin⟩⟩
  · by_cases z : b = a
    · subst z; rw [upd_same] at q ⊢; exact q
    · rw [upd_ne z] at q ⊢; exact r2.sF _ _ q
  · have q1 := r.s0 _ _ q
    by_cases z : b = a
    · subst z; rw [h] at q1; cases q1; exact upd_same
    · rw [upd_ne z]
      exact r2.s0 b o (by show upd F a _ b = _; rw [upd_ne z]; exact q1)
  · by_cases z : b = a
    · subst z; rw [upd_same] at q; cases q; exact r.nw b _ h
    · rw [upd_ne z] at q
      rcases r2.nw b o q with y | y | y
      · have y : upd F a (.frz od (.dK kvs)) b = some o := y
        rw [upd_ne z] at y
        exact r.nw b o y
      · have y : upd H a (.frz od (.dK kvs)) b = none := y
        rw [upd_ne z] at y
        exact .inr ((r.h0 y).elim .inr .inl)
      · exact .inr ((r.ln b y).elim .inr .inl)
  · have q1 := r.fr b o m q
    have nL : b ∉ L := fun y => by
      rcases r.ln b y with w | w
      · exact m w
      · rw [q] at w; cases w
    by_cases z : b = a
    · subst z
      rw [r.sF _ _ h] at q1
      cases q1
      exact upd_same
    · rw [upd_ne z]
      exact r2.fr b o nL (by show upd H a _ b = _; rw [upd_ne z]; exact q1)
  · rcases r2.ln b m with y | y
    · exact r.ln b y
    · have y : upd H a (.frz od (.dK kvs)) b = none := y
      rw [upd_ne (na b m)] at y
      exact r.h0 y
/-- the keys of a locked dict as they are walked -/
theorem seq_keys {F0 : Hp} {a : Addr} {od : Obj} {ks : List Key} {vs : List V} {ds : List D} (h : F0 a = some (.frz od (.dK (ks.zip vs)))) (hl : ks.length = vs.length) (hk : kDs ks = some ds) : Seq W (Itk a od (ks.zip vs)) ds F0 := by
  have hn : ds.length = ks.length := by
    clear h hl
    induction ks generalizing ds with
    | nil => cases hk; rfl
    | cons k ks ih =>
      cases k with
      | inl i => obtain ⟨ds', e, rfl⟩ := Option.map_eq_some_iff.mp hk; rw [List.length_cons, List.length_cons, ih e]
      | inr x => cases hk
  have hz : (ks.zip vs).length = ks.length := by rw [List.length_zip, ← hl, Nat.min_self]
  refine ⟨fun i d F H s1 s2 hd => ?_, fun F H s1 s2 => ⟨s2 _ _ (s1 _ _ h), by rw [hz, hn]; exact Nat.le_refl _⟩⟩
  have hi := (List.getElem?_eq_some_iff.mp hd).1
  refine ⟨⟨s2 _ _ (s1 _ _ h), by rw [hz]; omega⟩, fun x H' y => ?_⟩
  obtain ⟨rfl, k, v, h1, rfl⟩ := y
  refine ⟨F, .refl s2, ?_⟩
  have sh := kDs_ok (W := W) (F := F) hl hk
  obtain ⟨u, hu, su⟩ := sh.get hd
  rw [List.getElem?_map, h1] at hu
  cases hu
  exact su
def dsK : Option D → Option (List D)
  | some (.dic ks _) => kDs ks
  | _ => none
theorem dsK_ok {o : Option D} {ds : List D} (h : dsK o = some ds) : ∃ ks xs, o = some (.dic ks xs) ∧ kDs ks = some ds := by
  match o, h with
  | some (.dic ks xs), h => exact ⟨ks, xs, rfl, h⟩
/-- the slot's dict is locked -/
def Lk (i : Nat) (σ : St) (H : Hp) : Prop := ∃ a od kvs, σ[i]? = some (some (V.ref a)) ∧ H a = some (.frz od (.dK kvs))
theorem ait_keysL {i : Nat} {ds : List D} (h : dsK (getS env i) = some ds) : AIt W (fun σ H R => Lk i σ H → iKeys (tVar i) σ H R) env ds := fun e F σ H L R r q => by
  rintro ⟨a, od, kvs, h1, h2⟩
  obtain ⟨ks, xs, e1, e2⟩ := dsK_ok h
  obtain ⟨v, M, e3, o, _⟩ := slot_get r (getS_some e1)
  rw [h1] at e3
  cases e3
  have sh := o.shr rfl
  cases sh with
  | dic hd hl hn hs =>
    rcases hd with hd | ⟨od', hd⟩
    · rw [r.sF _ _ hd] at h2; cases h2
    · have := r.sF _ _ hd
      refine ⟨_, h1, a, od', rfl, .inl ⟨_, this, ?_⟩⟩
      exact q _ F H (.refl r.sF) (seq_keys hd hl e2)
def xiKeysL (i : Nat) : XI W where
  t := fun σ H R => Lk i σ H → iKeys (tVar i) σ H R
  evF env := dsK (getS env i)
  evP env := dsK (getS env i)
  sF := fun e => ait_keysL e
  sP := fun e => (ait_keysL e).p
def isDic : Option D → Bool
  | some (.dic _ _) => true
  | _ => false
theorem isDic_ok {o : Option D} (h : isDic o = true) : ∃ ks xs, o = some (.dic ks xs) := by
  match o, h with
  | some (.dic ks xs), h => exact ⟨ks, xs, rfl⟩
/-- x, while the slot's dict is locked -/
def xpLock (i : Nat) (x : XP W) (t : TE) (ht : ∀ σ H Q, Lk i σ H → x.t σ H Q → t σ H Q) : XP W where
  t := fun σ H Q => tLockE t σ H Q ∨ t σ H Q
  ev env := guardB (isDic (getS env i)) (match x.ev env with
    | some (.fr, d) => some (.fr, d)
    | _ => none)
  snd := fun {env k d} e => by
    obtain ⟨h1, e⟩ := guardB_some e
    obtain ⟨ks, xs, e1⟩ := isDic_ok h1
    match e2 : x.ev env, e with
    | some (.fr, d'), e =>
      cases e
      intro e' F σ H L Q r q
      obtain ⟨v, M, e3, o, _⟩ := slot_get r (getS_some e1)
      have sh := o.shr rfl
      cases sh with
      | @dic a _ _ vs hd hl hn hs =>
        rcases hd with hd | ⟨od', hd⟩
        · refine .inl ⟨a, _, r.sF _ _ hd, trivial, fun od => ht _ _ _ ⟨a, od, _, e3, upd_same⟩ (x.snd e2 _ _ σ _ L _ (r.lock (od := od) hd) fun v F' H' x1 ⟨M, o, nd, kk⟩ => ?_)⟩
          have hF' : F' a = some (.frz od (.dK (ks.zip vs))) := x1.f _ _ upd_same
          have hH' := x1.s _ _ hF'
          have na : ∀ b ∈ M, b ≠ a := fun b m z => by have := (kk b m).2; rw [z, hF'] at this; cases this
          refine ⟨hH', q v (upd F' a (.dK (ks.zip vs))) _ ⟨fun b o q => ?_, fun b o q => ?_, fun b o q => ?_, fun b o q => ?_⟩ ⟨M, o.lock (sameL_unlock hF') fun b m o q => by rw [upd_ne (na b m)]; exact q, nd, fun b m => ⟨?_, by rw [upd_ne (na b m)]; exact (kk b m).2⟩⟩⟩
          · by_cases z : b = a
            · subst z; rw [hd] at q; cases q; exact upd_same
            · rw [upd_ne z]; exact x1.f _ _ (by rw [upd_ne z]; exact q)
          · by_cases z : b = a
            · subst z; rw [upd_same] at q ⊢; exact q
            · rw [upd_ne z] at q ⊢; exact x1.s _ _ q
          · by_cases z : b = a
            · subst z; rw [r.sF _ _ hd] at q; cases q; exact upd_same
            · rw [upd_ne z]; exact x1.h _ _ (by rw [upd_ne z]; exact q)
          · by_cases z : b = a
            · subst z; rw [upd_same] at q; cases q; exact .inl hd
            · rw [upd_ne z] at q
              rcases x1.n b o q with y | y
              · rw [upd_ne z] at y; exact .inl y
              · rw [upd_ne z] at y; exact .inr y
          · have := (kk b m).1
            rw [upd_ne (na b m)] at this
            exact this
        · exact .inr (ht _ _ _ ⟨a, od', _, e3, r.sF _ _ hd⟩ (x.snd e2 e' F σ H L Q r q))
def noEx : RS → RS
  | .ex _ _ => .no
  | r => r
theorem noEx_ne {r : RS} (h : noEx r ≠ .no) : noEx r = r ∧ r ≠ .no ∧ ∀ x e, r ≠ .ex x e := by
  cases r <;> first | exact ⟨rfl, h, fun _ _ z => nomatch z⟩ | exact absurd rfl h
/-- s, while the slot's dict is locked -/
def xsLock (i : Nat) (s : XS W) (t : WX → TS) (ht : ∀ E D σ H, Lk i σ H → s.t E D σ H → t E D σ H) : XS W where
  t E := fun D σ H => tLock (t E) D σ H ∨ t E D σ H
  ev P env := match isDic (getS env i) with
    | true => noEx (s.ev P env)
    | false => .no
  snd := fun P E env hn e F σ H L Dn hP r st => by
    match h1 : isDic (getS env i), hn, st with
    | true, hn, st =>
    obtain ⟨hq, hn1, hx⟩ := noEx_ne hn
    dsimp only at st
    rw [hq] at st
    obtain ⟨ks, xs, e1⟩ := isDic_ok h1
    obtain ⟨v, M, e3, o, _⟩ := slot_get r (getS_some e1)
    have sh := o.shr rfl
    cases sh with
    | @dic a _ _ vs hd hl hnd hs =>
      rcases hd with hd | ⟨od', hd⟩
      · refine .inl ⟨a, _, r.sF _ _ hd, trivial, fun od => ht _ _ _ _ ⟨a, od, _, e3, upd_same⟩ (s.snd P E env hn1 ⟨upd F a (.frz od (.dK (ks.zip vs))), upd H a (.frz od (.dK (ks.zip vs))), L, e.pins⟩ _ σ _ L _ hP (r.lock (od := od) hd) ⟨fun env' F' σ' H' L' a' r' => ?_, fun d env' F' σ' H' L' v M a' r' o nd kk => ?_, fun env' F' σ' H' L' a' r' => ?_, fun env' F' σ' H' L' a' r' => ?_, fun x env' F' σ' H' L' C dd a' r' ie => absurd a' (hx _ _)⟩)⟩
        · obtain ⟨_, z, u⟩ := Rel.unlock r hd r'
          exact ⟨z, st.nx _ _ _ _ _ a' u⟩
        · obtain ⟨hF', z, u⟩ := Rel.unlock r hd r'
          have na : ∀ b ∈ M, b ≠ a := fun b m z => by have := (kk b m).1; rw [z, hF'] at this; cases this
          refine ⟨z, st.rt _ _ _ _ _ _ _ _ a' u (o.lock (sameL_unlock hF') fun b m o q => by rw [upd_ne (na b m)]; exact q) nd fun b m => ⟨by rw [upd_ne (na b m)]; exact (kk b m).1, ?_⟩⟩
          rcases (kk b m).2 with y | y
          · exact r.ln b y
          · have y : upd H a _ b = none := y
            rw [upd_ne (na b m)] at y
            exact r.h0 y
        · obtain ⟨_, z, u⟩ := Rel.unlock r hd r'
          exact ⟨z, st.bk _ _ _ _ _ a' u⟩
        · obtain ⟨_, z, u⟩ := Rel.unlock r hd r'
          exact ⟨z, st.ct _ _ _ _ _ a' u⟩
      · exact .inr (ht _ _ _ _ ⟨a, od', _, e3, r.sF _ _ hd⟩ (s.snd P E env hn1 e F σ H L Dn hP r st))
theorem tFor_lk {i : Nat} {g : TG} {tb : TS} {D : Ends} {σ : St} {H : Hp} (h : Lk i σ H) (q : tFor (fun σ H R => Lk i σ H → iKeys (tVar i) σ H R) g tb D σ H) : tFor (iKeys (tVar i)) g tb D σ H := q h
/-- for k in d: .. (d in a slot) -/
def xsForD (i : Nat) (g : XG W) (b : XS W) : XS W := xsLock i (xsFor (xiKeysL i) g b) (fun E => tFor (iKeys (tVar i)) g.t (b.t E)) (fun _ _ _ _ h q => tFor_lk h q)
theorem ps_forD {X : Cx} {i : Nat} {st : Stmt} {g : TG} {tb : TS} (h : PS X st (tFor (iKeys (tVar i)) g tb)) : PS X st (fun D σ H => tLock (tFor (iKeys (tVar i)) g tb) D σ H ∨ tFor (iKeys (tVar i)) g tb D σ H) := ps_alt (ps_lock h) h
theorem pe_lockU {X : Cx} {e : Expr} {t : TE} (h : PE X e t) : PE X e (fun σ H Q => tLockE t σ H Q ∨ t σ H Q) := pe_alt (pe_lock h) h
/-- [e for k in d if ..] (d in a slot) -/
def xLcD (i : Nat) (g : XG W) (c : XT W) (x : XP W) : XP W := xpLock i (xLc (xiKeysL i) g c x) (tLc (iKeys (tVar i)) g.t c.t x.t g.own) (fun _ _ _ h q => q h)
/-- what one item makes -/
def dc1 (g : XG W) (c : XT W) (k x : XP W) (env : Py.Env) (d : D) : Option (Option (Key × D)) := (g.ev [] d env).bind fun e2 => (c.ev e2).bind fun b => if b = true then ((k.evF e2).bind keyD).bind fun y => (x.evF e2).map fun z => some (y, z) else some none
def putO (acc : List Key × List D) : Option (Key × D) → Option (List Key × List D)
  | some p => putP acc.1 acc.2 p.1 p.2
  | none => some acc
def dcL (f : D → Option (Option (Key × D))) : List D → List Key × List D → Option (List Key × List D)
  | [], acc => some acc
  | d :: ds, acc => (f d).bind fun o => (putO acc o).bind (dcL f ds)
theorem dcL_take {f : D → Option (Option (Key × D))} : ∀ {ds : List D} {acc r : List Key × List D}, dcL f ds acc = some r → ∃ rs : Nat → List Key × List D, rs 0 = acc ∧ rs ds.length = r ∧ (∀ (i : Nat) (d : D), ds[i]? = some d → ∃ o, f d = some o ∧ putO (rs i) o = some (rs (i + 1)))
  | [], acc, r, h => by cases h; exact ⟨fun _ => acc, rfl, rfl, fun i d h => by simp at h⟩
  | d :: ds, acc, r, h => by
    obtain ⟨o, e1, h⟩ := Option.bind_eq_some_iff.mp h
    obtain ⟨acc2, e2, h⟩ := Option.bind_eq_some_iff.mp h
    obtain ⟨rs, r0, r1, r2⟩ := dcL_take h
    refine ⟨fun i => match i with | 0 => acc | i + 1 => rs i, rfl, r1, fun i d' hd => ?_⟩
    cases i with
    | zero => simp at hd; subst hd; exact ⟨o, e1, by dsimp only; rw [r0]; exact e2⟩
    | succ i => exact r2 i d' (by simpa using hd)
theorem ae_dc {wi : TI} {g : TG} {tt : TT} {tk tv : TE} {vs : List Nat} {ds : List D} (h : AIp W wi env ds) (hg : GW g vs) (rs : Nat → List Key × List D) (h0 : rs 0 = ([], []))
    (hs : ∀ (i : Nat) (d : D), ds[i]? = some d → AG W [] g d (wipeE env vs) fun e2 => ∃ b, AT W tt e2 b ∧ (b = true → ∃ y k z, AE W tk e2 (rF W y) ∧ keyD y = some k ∧ AE W tv e2 (rF W z) ∧ putP (rs i).1 (rs i).2 k z = some (rs (i + 1))) ∧ (b = false → rs (i + 1) = rs i))
    (hz : ds.length < 1000000) : AE W (tDc wi g tt tk tv vs) env (rO W (.odic (rs ds.length).1 (rs ds.length).2)) := fun e F σ H L Q r q =>
  h e F σ H L _ r fun J F1 H1 x1 sq => by
    intro Dl hD
    have r1 := (r.ext x1).nopin
    obtain ⟨Lw, rw', mw⟩ := r1.wipe rfl vs
    have hF1 : F1 Dl = none := x1.s.free hD
    have hH : H Dl = none := x1.h.free hD
    let Iv : Nat → Hp → Prop := fun i H' => ∃ F' ws, Ext F H F' H' ∧ (Same F1 F' ∧ Same H1 H') ∧ Rel W { e with pins := [] } (wipeE env vs) F' (wipe σ vs) H' Lw ∧ H' Dl = some (.dK ((rs i).1.zip ws)) ∧ F' Dl = none ∧ Shrs W F' (rs i).2 ws ∧ (rs i).1.length = ws.length ∧ (rs i).1.Nodup ∧ (rs i).1.length ≤ i
    refine ⟨fun i m H' => m = ds.length - i ∧ i ≤ ds.length ∧ Iv i H', ⟨ds.length, rfl, Nat.zero_le _, F1, [], x1.trans (.newH x1.s hD), ⟨Same.refl _, same_new hD⟩, rw'.ext (.newH x1.s hD), by rw [h0]; exact upd_same, hF1, by rw [h0]; exact .nil, by rw [h0]; rfl, by rw [h0]; exact .nil, by rw [h0]; exact Nat.le_refl _⟩, ?_⟩
    rintro i m H' ⟨rfl, hi, F', ws, xE, s1, rr, hl, hFD, os, lk, nd, hle⟩
    have hDL : Dl ∉ Lw := fun z => by
      obtain ⟨o, ho⟩ := rw'.slots.lives Dl z
      rw [hD] at ho; cases ho
    by_cases hlt : i < ds.length
    · have hd' : ds[i]? = some ds[i] := List.getElem?_eq_getElem hlt
      obtain ⟨g1, g2⟩ := sq.go i _ F' H' s1.1 s1.2 rr.sF hd'
      refine .inr ⟨g1, Iv (i + 1), fun H'' p' => ⟨ds.length - (i + 1), by omega, rfl, hlt, p'⟩, fun x H2 y => ?_⟩
      obtain ⟨F2, x2, sx⟩ := g2 x H2 y
      have rr2 := rr.ext x2
      have fin : ∀ {Fa Ha}, Ext F2 H2 Fa Ha → Ext F H Fa Ha ∧ (Same F1 Fa ∧ Same H1 Ha) ∧ Rel W { e with pins := [] } (wipeE env vs) Fa (wipe σ vs) Ha Lw ∧ Ha Dl = some (.dK ((rs i).1.zip ws)) ∧ Fa Dl = none ∧ Shrs W Fa (rs i).2 ws := fun {Fa Ha} xa => by
        have x3 := x2.trans xa
        refine ⟨xE.trans x3, ⟨s1.1.trans x3.f, s1.2.trans x3.h⟩, rr.ext x3, x3.h _ _ hl, ?_, os.mono x3.f⟩
        cases z : Fa Dl with
        | none => rfl
        | some u =>
          rcases x3.n Dl u z with w | w
          · rw [hFD] at w; cases w
          · rw [hl] at w; cases w
      have step := hg x (wipe σ vs) H2 _ (hs i _ hd' { e with pins := [] } F2 (wipe σ vs) H2 Lw x (fun σ2 H2 => tt σ2 H2 fun b H3 => if b = true then tk σ2 H3 fun y H4 => tv σ2 H4 fun z H5 => ∃ kvs k, y = kV k ∧ H5 Dl = some (.dK kvs) ∧ kvs.length < sizeLine ∧ Iv (i + 1) (upd H5 Dl (.dK (putK kvs k z))) else Iv (i + 1) H3) rfl rr2 sx fun env2 σ2 L2 k2 q2 => ?_)
      · rw [wipe_wipe] at step
        exact step
      obtain ⟨b, hb, hy, hn⟩ := k2
      refine hb _ F2 σ2 H2 L2 _ q2 fun F3 H3 x3 => ?_
      cases b with
      | false =>
        obtain ⟨a1, a2, a3, a4, a5, a6⟩ := fin x3
        rw [if_neg (by decide)]
        refine ⟨F3, ws, a1, a2, a3, ?_, a5, ?_, ?_, ?_, ?_⟩
        · rw [hn rfl]; exact a4
        · rw [hn rfl]; exact a6
        · rw [hn rfl]; exact lk
        · rw [hn rfl]; exact nd
        · rw [hn rfl]; omega
      | true =>
        obtain ⟨y, k, z, htk, hk, htv, hput⟩ := hy rfl
        rw [if_pos rfl]
        refine htk _ F3 σ2 H3 L2 _ (q2.ext x3) fun w F4 H4 x4 sy => htv _ F4 σ2 H4 L2 _ ((q2.ext x3).ext x4) fun w2 F5 H5 x5 sz => ?_
        obtain ⟨a1, a2, a3, a4, a5, a6⟩ := fin ((x3.trans x4).trans x5)
        have hzl : ((rs i).1.zip ws).length < sizeLine := by
          rw [List.length_zip, ← lk, Nat.min_self]
          exact Nat.lt_of_le_of_lt hle (Nat.lt_of_lt_of_le (Nat.lt_trans hlt hz) (by decide))
        refine ⟨_, k, keyD_ok sy hk, a4, hzl, ?_⟩
        have ext2 : ∀ o, Ext F H F5 (upd H5 Dl o) := fun o => ⟨a1.f, fun b u hb => by rw [upd_ne (fun z => by rw [z, a5] at hb; cases hb)]; exact a1.s _ _ hb, fun b u hb => by rw [upd_ne (fun z => by rw [z, hH] at hb; cases hb)]; exact a1.h _ _ hb, a1.n⟩
        have same2 : ∀ o, Same F1 F5 ∧ Same H1 (upd H5 Dl o) := fun o => ⟨a2.1, fun b u hb => by rw [upd_ne (fun z => by rw [z, hD] at hb; cases hb)]; exact a2.2 _ _ hb⟩
        unfold putP at hput
        cases hpos : pos k (rs i).1 with
        | none =>
          rw [hpos] at hput
          have hput := Option.some.inj hput
          have e1 : (rs (i + 1)).1 = (rs i).1 ++ [k] := by rw [← hput]
          have e2 : (rs (i + 1)).2 = (rs i).2 ++ [z] := by rw [← hput]
          rw [putK_none lk hpos]
          refine ⟨F5, ws ++ [w2], ext2 _, same2 _, a3.free hDL a5 (rw'.h0 hD), by rw [e1]; exact upd_same, a5, ?_, ?_, ?_, ?_⟩
          · rw [e2]; exact a6.append (.cons sz .nil)
          · rw [e1]; simp [lk]
          · rw [e1, List.nodup_append]
            exact ⟨nd, by simp, fun x hx y hy z => pos_none_has hpos x hx (by rw [z]; simpa using hy)⟩
          · rw [e1]; simp; exact hle
        | some j =>
          rw [hpos] at hput
          obtain ⟨hall, hput⟩ := ite_some hput
          have e1 : (rs (i + 1)).1 = (rs i).1 := by rw [← hput]
          have e2 : (rs (i + 1)).2 = (rs i).2.set j z := by rw [← hput]
          have hj : j < (rs i).1.length := (List.getElem?_eq_some_iff.mp (pos_get hpos)).1
          have hjx : j < (rs i).2.length := by have := a6.length; omega
          rw [putK_some lk nd hpos]
          refine ⟨F5, ws.set j w2, ext2 _, same2 _, a3.free hDL a5 (rw'.h0 hD), by rw [e1]; exact upd_same, a5, ?_, ?_, ?_, ?_⟩
          · rw [e2, set_split hjx, set_split (by rw [← a6.length]; exact hjx), List.append_assoc, List.append_assoc]
            exact (a6.take j).append (.cons sz (a6.drop (j + 1)))
          · rw [e1, List.length_set]; exact lk
          · rw [e1]; exact nd
          · rw [e1]; omega
    · have e0 : i = ds.length := by omega
      subst e0
      refine .inl ⟨sq.stop F' H' s1.1 s1.2 rr.sF, q _ F' H' xE ⟨[Dl], .odic hl lk nd os.owns, by simp, fun a ha => ?_⟩⟩
      rw [List.mem_singleton.mp ha]; exact ⟨hH, hFD⟩
def xDc (it : XI W) (g : XG W) (c : XT W) (k x : XP W) : XP W where
  t := tDc it.t g.t c.t k.t x.t g.own
  ev env := (it.evP env).bind fun ds => if ds.length < 1000000 then (dcL (dc1 g c k x (wipeE env g.own)) ds ([], [])).map fun q => (.fr, .odic q.1 q.2) else none
  snd := fun {env kd d} e => by
    obtain ⟨ds, e1, e⟩ := Option.bind_eq_some_iff.mp e
    split at e
    · rename_i hl
      obtain ⟨q, e2, e⟩ := Option.map_eq_some_iff.mp e
      cases e
      obtain ⟨rs, r0, r1, r2⟩ := dcL_take e2
      rw [← r1]
      refine ae_dc (it.sP e1) (g.gw fun _ m => m) rs r0 (fun i d hd => ?_) hl
      obtain ⟨o, h, hr⟩ := r2 i d hd
      obtain ⟨env2, g1, h⟩ := Option.bind_eq_some_iff.mp h
      obtain ⟨b, c1, h⟩ := Option.bind_eq_some_iff.mp h
      intro e0 F σ H L v Q hP r s q
      refine g.snd g1 e0 F σ H L v Q hP r s fun env3 σ2 L2 z r3 => ?_
      subst z
      refine q _ σ2 L2 ⟨b, c.snd c1, fun hb => ?_, fun hb => ?_⟩ r3
      · subst hb
        obtain ⟨y, h8, h⟩ := Option.bind_eq_some_iff.mp h
        obtain ⟨z, h9, rfl⟩ := Option.map_eq_some_iff.mp h
        obtain ⟨yd, h10, h11⟩ := Option.bind_eq_some_iff.mp h8
        exact ⟨yd, y, z, k.sF h10, h11, x.sF h9, hr⟩
      · subst hb
        cases h
        exact (Option.some.inj hr).symm
    · cases e
/-- {k: v for k in d ..} (d in a slot) -/
def xDcD (i : Nat) (g : XG W) (c : XT W) (k x : XP W) : XP W := xpLock i (xDc (xiKeysL i) g c k x) (tDc (iKeys (tVar i)) g.t c.t k.t x.t g.own) (fun _ _ _ h q => q h)
end
end Py

namespace Py
open PySem L2
section
variable {T : Tbl} {W : Wd T} {env : Py.Env} {d : D} {P : List Nat} {E : WX} {A : AEnds}
theorem D.putAt_snoc {s : Pst} {n x y : D} : ∀ {st : List Pst} {d : D}, d.at st = some n → n.sub s = some x → d.putAt (st ++ [s]) y = d.putAt st (n.put s y)
  | [], d, h, q => by
    have h : some d = some n := h
    cases h
    show (match n.sub s with | some x => n.put s (x.putAt [] y) | none => n) = _
    rw [q]; rfl
  | p :: st, d, h, q => by
    obtain ⟨z, h1, h2⟩ := Option.bind_eq_some_iff.mp h
    show (match d.sub p with | some x => d.put p (x.putAt (st ++ [s]) y) | none => d) = (match d.sub p with | some x => d.put p (x.putAt st (n.put s y)) | none => d)
    rw [h1]
    dsimp only
    rw [D.putAt_snoc h2 q]
theorem valV_at {k : Key} : ∀ {ks : List Key} {vs : List V} {j : Nat}, ks.length = vs.length → pos k ks = some j → valV (ks.zip vs) k = vs[j]?
  | [], _, _, _, h => by cases h
  | _ :: _, [], _, h, _ => by simp at h
  | k1 :: ks, u :: vs, j, hl, h => by
    have h : (if k1 = k then some 0 else (pos k ks).map (· + 1)) = some j := h
    rw [List.zip_cons_cons]
    split at h
    · rename_i e; cases h; rw [valV_pos (p := (k1, u)) e]; rfl
    · rename_i e
      obtain ⟨i, h1, rfl⟩ := Option.map_eq_some_iff.mp h
      rw [valV_neg (p := (k1, u)) e, valV_at (by simpa using hl) h1]; rfl
theorem valV_none {k : Key} {ks : List Key} {vs : List V} (hl : ks.length = vs.length) (h : pos k ks = none) : valV (ks.zip vs) k = none := by
  cases e : valV (ks.zip vs) k with
  | none => rfl
  | some x =>
    have := hasK_valV (k := k) hl
    rw [e] at this
    have this : hasK ks k = true := this.symm
    unfold hasK at this
    obtain ⟨k', m, e'⟩ := List.any_eq_true.mp this
    exact absurd (of_decide_eq_true e') (pos_none_has h k' m)
def appK (ks : List Key) (xs : List D) (k : Key) (x : D) : Option D := if xs.length < 1000000 then (match pos k ks with
  | none => some (.odic (ks ++ [k]) (xs ++ [.olst [x]]))
  | some i => match xs[i]? with
    | some (.olst ys) => if ys.length < 1000000 then some (.odic ks (xs.set i (.olst (ys ++ [x])))) else none
    | _ => none) else none
def dappE (n y x : D) : Option D := match n with
  | .odic ks xs => guardB (isSh x) ((keyD y).bind fun k => appK ks xs k x)
  | _ => none
theorem dappE_ok {n y x z : D} (h : dappE n y x = some z) : ∃ ks xs k, n = .odic ks xs ∧ isSh x = true ∧ keyD y = some k ∧ appK ks xs k x = some z := by
  cases n <;> first | (cases h; done) | skip
  obtain ⟨h1, h⟩ := guardB_some h
  obtain ⟨k, h2, h3⟩ := Option.bind_eq_some_iff.mp h
  exact ⟨_, _, k, rfl, h1, h2, h3⟩
def xsDapp (p : XPl W) (k : XP W) (j : Nat) : XS W where
  t _ := tDrop (tBM W.K "list" rAppend (tDSetd p.t k.t (tLst tNil)) (tCons (tVar j) tNil))
  ev P env := RS.ofO ((p.ev env).bind fun q => (k.evF env).bind fun y => (getS env j).bind fun x => (dappE q.2 y x).bind fun z => (getS env p.root).map fun d0 => env.set p.root (some (d0.putAt q.1 z)))
  snd := fun P E env hn e F σ H L Dn hP r s => by
    cases h2 : ((p.ev env).bind fun q => (k.evF env).bind fun y => (getS env j).bind fun x => (dappE q.2 y x).bind fun z => (getS env p.root).map fun d0 => env.set p.root (some (d0.putAt q.1 z))) with
    | none => exact absurd (by rw [h2]; rfl) hn
    | some e2 =>
      rw [h2] at s
      obtain ⟨⟨st, n⟩, e1, h3⟩ := Option.bind_eq_some_iff.mp h2
      obtain ⟨y, ey, h3⟩ := Option.bind_eq_some_iff.mp h3
      obtain ⟨x, ex, h3⟩ := Option.bind_eq_some_iff.mp h3
      obtain ⟨z, ez, h4⟩ := Option.bind_eq_some_iff.mp h3
      obtain ⟨d0', e4, h5⟩ := Option.map_eq_some_iff.mp h4
      subst h5
      obtain ⟨d0, h0, h1⟩ := p.at_ e1
      rw [getS_some e4] at h0
      cases h0
      obtain ⟨ks, xs, kk, rfl, hsx, hk, ha⟩ := dappE_ok ez
      obtain ⟨v0, _, _, _, hs, _⟩ := r.focus (getS_some e4) h1
      obtain ⟨xv, Mx, hxv, ox, _⟩ := slot_get r (getS_some ex)
      have sx := ox.shr hsx
      refine p.loc e1 e F σ H L v0 _ r hs fun vn F1 H1 x1 p1 => ?_
      have r1 := r.ext x1
      obtain ⟨v0', vn', Ln, Lr, e5, p2, o, _⟩ := r1.focus (getS_some e4) h1
      rw [hs] at e5; cases e5
      cases p1.det p2
      cases o with
      | sh y => cases y
      | @odic a _ _ vs La hda hl hnd os =>
        refine ⟨a, rfl, .inl ⟨_, .inl hda⟩, k.sF ey e F1 σ H1 L _ r1 fun u F2 H2 x2 y2 => ⟨Nat.zero_le _, fun q hq => ?_⟩⟩
        have r2 := r1.ext x2
        have hd2 := x2.h _ _ hda
        have nq : F2 q = none := x2.s.free hq
        have aq : a ≠ q := fun z => by rw [z, hq] at hd2; cases hd2
        have sx2 := (sx.mono x1.f).mono x2.f
        have hd3 : upd H2 q (.lst []) a = some (.dK (ks.zip vs)) := by rw [upd_ne aq]; exact hd2
        have hzl : xs.length < sizeLine → (ks.zip vs).length < sizeLine := fun h => by rw [List.length_zip, ← os.length]; exact Nat.lt_of_le_of_lt (Nat.min_le_right _ _) h
        have hkv := keyD_ok y2 hk
        unfold appK at ha
        have hz : xs.length < 1000000 := by
          by_cases h : xs.length < 1000000
          · exact h
          · rw [if_neg h] at ha; cases ha
        rw [if_pos hz] at ha
        cases hpos : pos kk ks with
        | none =>
          rw [hpos] at ha
          cases ha
          refine ⟨_, kk, hd3, hkv, hzl (Nat.lt_of_lt_of_le hz (by decide)), fun v hv => ?_, fun _ => ?_⟩
          · rw [valV_none hl hpos] at hv; cases hv
          · have hq4 : upd (upd H2 q (.lst [])) a (.dK (putK (ks.zip vs) kk (.ref q))) q = some (.lst []) := by rw [upd_ne (fun z => aq z.symm), upd_same]
            refine ⟨.inl ⟨rfl, _, .of hq4⟩, _, hxv, q, [], xv, rfl, rfl, hq4, by decide, ?_⟩
            have he : upd (upd (upd H2 q (.lst [])) a (.dK (putK (ks.zip vs) kk (.ref q)))) q (.lst ([] ++ [xv])) = upd (upd H2 q (.lst [xv])) a (.dK (putK (ks.zip vs) kk (.ref q))) := by
              funext b
              by_cases h1 : b = q
              · subst h1; rw [upd_same, upd_ne (fun z => aq z.symm), upd_same]; rfl
              · rw [upd_ne h1]
                by_cases h2 : b = a
                · subst h2; rw [upd_same, upd_same]
                · rw [upd_ne h2, upd_ne h2, upd_ne h1, upd_ne h1]
            rw [he]
            have ext3 : Ext F2 H2 F2 (upd H2 q (.lst [xv])) := .newH x2.s hq
            have go : rDput (.ref a) [u, .ref q] (upd H2 q (.lst [xv])) (fun _ H => Dn.nx σ H) := by
              refine am_mop mop_dput (n := .odic ks xs) (n' := .odic (ks ++ [kk]) (xs ++ [.olst [x]])) (d := .non) (ds := [y, .olst [x]]) (r2.ext ext3) (getS_some e4) h1 hs ((p1.mono x2.h).mono ext3.h) ?_ (Ms := [] ++ ([q] ++ [])) (.cons (.sh y2) (.cons (.olst upd_same (Shrs.owns (.cons sx2 .nil))) .nil)) (by simp) (fun b hb => ?_) fun v2 F2 H2 L2 M2 r2 o2 n2 k2 => s.nx _ _ _ _ _ rfl r2
              · show (if xs.length < 1000000 then (keyD y).bind fun k => (putP ks xs k (.olst [x])).map fun q => (D.odic q.1 q.2, D.non) else none) = _
                rw [if_pos hz, hk, Option.bind_some]
                unfold putP
                rw [hpos]
                rfl
              · have hb : b = q := by simpa using hb
                rw [hb]
                refine ⟨fun z => ?_, nq, r2.h0 hq⟩
                obtain ⟨w, hw⟩ := r2.slots.lives q z
                rw [hq] at hw; cases hw
            obtain ⟨a', k2, v', H', ex', ey', hd, q'⟩ := go
            cases ex'
            cases ey'
            rcases hd with ⟨kvs, k3, h3, h4, h5, h6⟩ | ⟨kvs, k3, b, h3, _⟩
            · rw [upd_ne aq, hd2] at h3
              cases h3
              rw [hkv] at h4
              cases kV_inj h4
              rw [h6] at q'
              exact q'
            · rw [upd_ne aq, hd2] at h3; cases h3
        | some i =>
          rw [hpos] at ha
          dsimp only at ha
          split at ha
          · rename_i ys hys
            obtain ⟨hzy, ha⟩ := ite_some ha
            cases ha
            have hi := (List.getElem?_eq_some_iff.mp hys).1
            have hsub : (D.odic ks xs).sub (.key kk) = some (.olst ys) := by
              show (pos kk ks).bind _ = _
              rw [hpos]; exact hys
            have hat : d0'.at (st ++ [.key kk]) = some (.olst ys) := D.at_snoc h1 hsub
            have ext3 : Ext F2 H2 F2 (upd H2 q (.lst [])) := .newH x2.s hq
            have r3 := r2.ext ext3
            have p3 := (p1.mono x2.h).mono ext3.h
            have hvl : i < vs.length := by have := os.length; omega
            have hstep : VStep (upd H2 q (.lst [])) (.ref a) (.key kk) vs[i] := by
              obtain ⟨z1, z2⟩ := zipK_get hl
              exact ⟨a, _, rfl, hd3, i, by rw [z1]; exact hpos, by rw [z2]; exact List.getElem?_eq_getElem hvl⟩
            have p4 := p3.snoc hstep
            refine ⟨_, kk, hd3, hkv, ?_, fun v hv => ?_, fun hv => ?_⟩
            · exact hzl (Nat.lt_of_lt_of_le hz (by decide))
            · rw [valV_at hl hpos, List.getElem?_eq_getElem hvl] at hv
              cases hv
              obtain ⟨w0, wn, Lw, Lv, e6, p5, ow, _⟩ := r3.focus (getS_some e4) hat
              rw [hs] at e6; cases e6
              cases p4.det p5
              have ap := am_mop mop_append r3 (getS_some e4) hat hs p4 (ds := [x]) (n' := .olst (ys ++ [x])) (d := .non) (by show (if ys.length < 1000000 then _ else none) = _; rw [if_pos hzy]) (Ms := []) (Shrs.owns (.cons (sx2) .nil)) .nil (fun _ m => nomatch m) (Q := fun _ H => Dn.nx σ H) fun v2 F2 H2 L2 M2 r2 o2 n2 k2 => s.nx _ _ _ _ _ (by
                rw [D.putAt_snoc h1 hsub]
                show RS.ofO _ = _
                unfold D.put
                have : (D.odic ks xs).place (.key kk) = some i := hpos
                rw [this]
                rfl) r2
              generalize vs[i] = w at *
              refine ⟨?_, _, hxv, ap⟩
              cases ow with
              | sh y => cases y
              | olst h _ => exact .inl ⟨rfl, _, .of h⟩
            · rw [valV_at hl hpos, List.getElem?_eq_getElem hvl] at hv; cases hv
          · cases ha
def par2 (P : List Nat) (i j : Nat) (env : Py.Env) (ds : List D) : Option Py.Env := match ds with
  | [x, y] => (setS P i x env).bind (setS P j y)
  | _ => none
def xsPar (i j : Nat) (a : XA W) : XS W where
  t _ := tPar i j a.t
  ev P env := RS.ofO ((a.evF env).bind (par2 P i j env))
  snd := fun P E env hn e F σ H L Dn hP r s => by
    cases h : (a.evF env).bind (par2 P i j env) with
    | none => exact absurd (by rw [h]; rfl) hn
    | some e2 =>
      rw [h] at s
      obtain ⟨ds, e1, h⟩ := Option.bind_eq_some_iff.mp h
      match ds, e1, h with
      | [x, y], e1, h =>
      obtain ⟨e3, h1, h2⟩ := Option.bind_eq_some_iff.mp h
      obtain ⟨⟨h3, h4⟩, rfl⟩ := ite_some h1
      obtain ⟨⟨h5, h6⟩, rfl⟩ := ite_some h2
      refine a.sF e1 e F σ H L _ r fun vs F1 H1 x1 sh => ?_
      have sh : Shrs W F1 [x, y] vs := sh
      cases sh with
      | cons s1 t1 =>
        cases t1 with
        | cons s2 t2 =>
          cases t2
          have pn : ∀ {k : Nat}, k ∉ P → ∀ p ∈ e.pins, p.1 ≠ k := fun {k} hk p hm z => hk (by rw [hP]; exact List.mem_map.mpr ⟨p, hm, z⟩)
          obtain ⟨L2, r2⟩ := (r.ext x1).set (i := i) (d := x) (M := []) (.sh s1) (by simpa using r.nd) (fun a m => nomatch m) h3 (pn h4)
          obtain ⟨L3, r3⟩ := r2.set (i := j) (d := y) (M := []) (.sh s2) (by simpa using r2.nd) (fun a m => nomatch m) h5 (pn h6)
          exact ⟨_, _, rfl, s.nx _ _ _ _ _ rfl r3⟩
end
theorem sw_trueD {kx vx : Expr} {gs : List Comprehension} {scope : Scope} {pos py : Pos} {y : Str} {l : Nat} {env : PySem.Env} (hk : env.scope.kind = .function) (hy : env.scope.names.lookup y = some .local) (hl : (py.line == pos.line) = true)
    (ha : (scope.names.any fun (n, k) => n == y && (k == .local || k == .cell)) = false) : swapsWith (.DictComp kx vx gs scope pos) (some (.Name y py)) l env = pure true := by
  have ky : env.kindOf y = some .local := hy
  have hb : env.blockKind = .function := by unfold Env.blockKind; rw [hk]; rfl
  unfold swapsWith
  simp only [hb, ky, ha, Expr.pos, hl]
  rfl
theorem ps_setDc {X : Cx} {i : Nat} {y : Str} {py : Pos} {kx vx tg iter : Expr} {ifs : List Expr} {scope : Scope} {own : List (Str × Nat)} {pos spos : Pos} {wi : TI} {g : TG} {tt : TT} {tk tv : TE} (hc : X.calm = true) (hN : X.N.Nodup) (hy : X.N[i]? = some y) (hyl : X.env.scope.names.lookup y = some .local)
    (hsw : swapsWith (.DictComp kx vx [⟨tg, iter, ifs, 0⟩] scope pos) (some (.Name y py)) spos.line X.env = pure true) (hi : PI X tg iter wi) (ok : BlkOk X.N X.env.scope scope own)
    (hg : ∀ (s : Shared) (H : Hp) (C : Addr) (cl : List (Str × Addr)) (fp : List Addr), PG (X.blk s H scope (compEnvC scope cl C X.env) fp) tg g) (ht : ∀ (s : Shared) (H : Hp) (C : Addr) (cl : List (Str × Addr)) (fp : List Addr), PTs (X.blk s H scope (compEnvC scope cl C X.env) fp) ifs tt)
    (hk : ∀ (s : Shared) (H : Hp) (C : Addr) (cl : List (Str × Addr)) (fp : List Addr), PE (X.blk s H scope (compEnvC scope cl C X.env) fp) kx tk)
    (he : ∀ (s : Shared) (H : Hp) (C : Addr) (cl : List (Str × Addr)) (fp : List Addr), PE (X.blk s H scope (compEnvC scope cl C X.env) fp) vx tv) (hs : ∀ x, foldedSetIterable iter X.env x = pure x := by intro _; rfl) :
    PS X (.Assign [.Name y py] (.DictComp kx vx [⟨tg, iter, ifs, 0⟩] scope pos) spos) (tAsg (tDc wi g tt tk tv (own.map (·.2))) (gName i)) := by
  refine ⟨fun pins s σ H D I h => ?_⟩
  rw [exec_Assign_Name_used _ _ _ _ hsw]
  refine wpAny_bind (wpAny_standAt (wpAny_bind ?_))
  show wpAny _ X.A (do let _ ← comprehension (.DictComp kx vx [⟨tg, iter, ifs, 0⟩] scope pos) scope X.env (firstIterPos [⟨tg, iter, ifs, 0⟩] pos) newDict false (eval iter X.env) (some (assign (.Name y py) X.env))) _ _ s
  have h : tDc wi g tt tk tv (own.map (·.2)) σ H (fun x H1 => gName i x σ H1 D.nx) := h
  refine wpAny_bind (thn (dc_core (Qf := fun _ s' => SP X pins D .next s') hc hN I hi ok hg ht hk he hs h fun L C s' m H' I' q hn f => ?_) fun _ s' hq => wpAny_pure (wpAny_pure hq))
  show wpAny _ _ (assign (.Name y py) X.env (.ref L)) _ _ _
  refine wpAny_assign_Name (store_ok2 (v := V.ref L) I' hN hy (.inl hyl) rfl (fun s2 I2 ⟨a, sb, ha⟩ => ?_) (.inr hyl))
  obtain ⟨f0, f1, f2, f3, f4, f5⟩ := f
  have haC : C ≠ a := by
    rcases ha with z | z
    · rw [z]; exact f1
    · exact fun e => f4 y a z e.symm
  refine ⟨m, hn.sameBut sb haC, fun h3 sb3 => ?_⟩
  exact ⟨_, H', I2.turned (t' := s2.toks) (fun b o hb e => (sb3.2 b hb).trans e) f0 f1 f3 f4 f5, q⟩
theorem ps_lockU {X : Cx} {st : Stmt} {t : TE} {i : Nat} (h : PS X st (tAsg t (gName i))) : PS X st (tAsg (fun σ H Q => tLockE t σ H Q ∨ t σ H Q) (gName i)) := ps_alt (ps_lock h) h
theorem hu1 {k : Nat} {A : Around} (r : Room k A) : A.units + 1 < cLine := by have := r.un; omega
theorem hu65 {k : Nat} {A : Around} (r : Room k A) : A.units + 65 < cLine := by have := r.un; omega
end Py

namespace Py
open PySem L2
section
variable {T : Tbl} {W : Wd T} {env : Py.Env} {P : List Nat} {E : WX} {A : AEnds}
theorem Rel.lend {e : Ent} {F H : Hp} {σ : St} {L : List Addr} {i : Nat} {xs : List D} (r : Rel W e env F σ H L) (hg : env[i]? = some (some (.olst xs))) (hsh : xs.all isSh = true) :
    ∃ a vs Lr, σ[i]? = some (some (.ref a)) ∧ H a = some (.lst vs) ∧ Shrs W F xs vs ∧ a ∈ L ∧ a ∉ Lr ∧ (∀ b ∈ Lr, b ∈ L) ∧ Rel W ⟨F, H, Lr, (i, .ref a) :: e.pins⟩ (env.set i none) F σ H Lr := by
  obtain ⟨v, Li, Lr, e1, o, sl, nd, m⟩ := r.slots.take r.nd hg
  cases o with
  | sh y => cases y
  | @olst a _ vs M ha hs =>
    refine ⟨a, vs, Lr, e1, ha, hs.shrs hsh, (m a).mp (.inl (List.mem_cons_self ..)), ?_, fun b hb => (m b).mp (.inr hb), r.sF, sl, (List.nodup_append.mp nd).2.1, fun b hb => r.dj b ((m b).mp (.inr hb)), Same.refl _, fun _ _ h => .inl h, fun _ _ _ h => h, fun _ h => .inl h, fun p hp => ?_⟩
    · intro hb
      exact (List.nodup_append.mp nd).2.2 a (List.mem_cons_self ..) a hb rfl
    · rcases List.mem_cons.mp hp with rfl | hp
      · exact e1
      · exact r.pin p hp
theorem Rel.unlend {e : Ent} {F H F' H' : Hp} {σ σ' : St} {L Lr L' : List Addr} {i : Nat} {xs : List D} {a : Addr} {vs : List V} {env' : Py.Env} (r : Rel W e env F σ H L) (ha : H a = some (.lst vs)) (hs : Shrs W F xs vs) (hL : a ∈ L) (hr : a ∉ Lr) (hsub : ∀ b ∈ Lr, b ∈ L)
    (q : Rel W ⟨F, H, Lr, (i, .ref a) :: e.pins⟩ env' F' σ' H' L') : ∃ L'', Rel W e (env'.set i (some (.olst xs))) F' σ' H' L'' ∧ (∀ b ∈ L'', b = a ∨ b ∈ L') ∧ F' a = none ∧ (a ∈ e.L0 ∨ e.H0 a = none) := by
  have hp : σ'[i]? = some (some (.ref a)) := q.pin (i, .ref a) (List.mem_cons_self ..)
  have ha' : H' a = some (.lst vs) := q.fr a _ hr ha
  have hF : F' a = none := by
    cases z : F' a with
    | none => rfl
    | some u =>
      rcases q.nw a u z with y | y | y
      · have y : F a = some u := y
        rw [r.dj a hL] at y; cases y
      · have y : H a = none := y
        rw [ha] at y; cases y
      · exact absurd y hr
  have naL : a ∉ L' := fun z => by
    rcases q.ln a z with y | y
    · exact hr y
    · have y : H a = none := y
      rw [ha] at y; cases y
  have hi : i < env'.length := by rw [q.slots.length]; exact (List.getElem?_eq_some_iff.mp hp).1
  obtain ⟨L'', s, nd, m⟩ := q.slots.put (i := i) (d := .olst xs) (v := .ref a) (Ld := [a]) (.olst ha' (hs.mono q.s0).owns) (by rw [List.singleton_append, List.nodup_cons]; exact ⟨naL, q.nd⟩) hi
  have es : σ'.set i (some (.ref a)) = σ' := by
    apply List.ext_getElem?
    intro j
    rw [List.getElem?_set]
    by_cases h : i = j
    · subst h
      rw [if_pos rfl, hp, if_pos (List.getElem?_eq_some_iff.mp hp).1]
    · rw [if_neg h]
  rw [es] at s
  have m2 : ∀ b ∈ L'', b = a ∨ b ∈ L' := fun b hb => (m b hb).imp (fun z => by simpa using z) id
  refine ⟨L'', ⟨q.sF, s, nd, fun b hb => ?_, r.s0.trans q.s0, fun b o z => ?_, fun b o m z => ?_, fun b hb => ?_, fun p hp => q.pin p (List.mem_cons_of_mem _ hp)⟩, m2, hF, r.ln a hL⟩
  · rcases m2 b hb with rfl | z
    · exact hF
    · exact q.dj b z
  · rcases q.nw b o z with y | y | y
    · exact r.nw b o y
    · exact .inr ((r.h0 y).elim .inr .inl)
    · exact .inr ((r.ln b (hsub b y)).elim .inr .inl)
  · have h1 := r.fr b o m z
    refine q.fr b o (fun y => ?_) h1
    rcases r.ln b (hsub b y) with w | w
    · exact m w
    · rw [z] at w; cases w
  · rcases m2 b hb with rfl | z
    · exact r.ln b hL
    · rcases q.ln b z with y | y
      · exact r.ln b (hsub b y)
      · exact r.h0 y
def reE (i : Nat) (xs : List D) (e : Py.Env) : Py.Env := e.set i (some (.olst xs))
theorem as_forO {i : Nat} {xs : List D} {g : TG} {tb : TS} (hg : env[i]? = some (some (.olst xs))) (hsh : xs.all isSh = true) (Iv : Nat → Py.Env → Prop) (h0 : Iv 0 (env.set i none))
    (hs : ∀ j d env', xs[j]? = some d → Iv j env' → AG W (i :: P) g d env' fun e2 => AS W (i :: P) E tb e2 { nx := Iv (j + 1), ct := Iv (j + 1), bk := fun e => A.nx (reE i xs e), rt := fun d e => A.rt d (reE i xs e), ex := fun x e => A.ex x (reE i xs e) })
    (hd : ∀ env', Iv xs.length env' → A.nx (reE i xs env')) : AS W P E (tFor (iSeqU W.K (tVar i)) g tb) env A := fun e F σ H L Dn hP r s => by
  obtain ⟨a, vs, Lr, e1, ha, hS, hL, hr, hsub, rl⟩ := r.lend hg hsh
  refine .inl ⟨_, e1, a, rfl, ⟨vs, .of ha⟩, ?_⟩
  have hP2 : i :: P = ((i, V.ref a) :: e.pins).map (·.1) := by rw [List.map_cons, hP]
  refine ⟨fun j m σ H' => m = xs.length - j ∧ j ≤ xs.length ∧ ∃ env' F' L', Iv j env' ∧ Rel W ⟨F, H, Lr, (i, .ref a) :: e.pins⟩ env' F' σ H' L', ⟨xs.length, rfl, Nat.zero_le _, env.set i none, F, Lr, h0, rl⟩, ?_⟩
  rintro j m σ H' ⟨rfl, hj, env', F', L', hI, q⟩
  have haj : SqL W.K H' a vs := .of (q.fr a _ hr ha)
  by_cases hlt : j < xs.length
  · have hd' : xs[j]? = some xs[j] := List.getElem?_eq_getElem hlt
    obtain ⟨v, hv, sv⟩ := hS.get hd'
    refine .inr ⟨⟨vs, v, haj, hv⟩, fun σ H' => ∃ env' F' L', Iv (j + 1) env' ∧ Rel W ⟨F, H, Lr, (i, .ref a) :: e.pins⟩ env' F' σ H' L', fun σ' H' p' => ⟨xs.length - (j + 1), by omega, rfl, hlt, p'⟩, fun x H2 y => ?_⟩
    obtain ⟨rfl, y⟩ := y
    have := y vs haj
    rw [hv] at this; cases this
    refine hs j _ env' hd' hI _ F' σ H2 L' _ _ hP2 q (sv.mono q.s0) fun env2 σ2 L2 k2 q2 => k2 _ F' σ2 H2 L2 _ hP2 q2 ?_
    refine ⟨fun e3 F3 σ3 H3 L3 w q3 => ⟨e3, F3, L3, w, q3⟩, fun d e3 F3 σ3 H3 L3 v M w q3 o nd kk => ?_, fun e3 F3 σ3 H3 L3 w q3 => ?_, fun e3 F3 σ3 H3 L3 w q3 => ⟨e3, F3, L3, w, q3⟩, fun x e3 F3 σ3 H3 L3 C dd w q3 ie => ?_⟩
    · obtain ⟨L4, q4, m4, hF4, h04⟩ := r.unlend ha hS hL hr hsub q3
      rw [List.nodup_append] at nd
      have nM : a ∉ M := fun z => by
        rcases (kk a z).2 with y | y
        · exact hr y
        · have y : H a = none := y
          rw [ha] at y; cases y
      refine s.rt d _ F3 σ3 H3 L4 v M w q4 o ?_ fun b hb => ⟨(kk b hb).1, ?_⟩
      · rw [List.nodup_append]
        refine ⟨nd.1, q4.nd, fun b hb c hc z => ?_⟩
        subst z
        rcases m4 b hc with rfl | z
        · exact nM hb
        · exact nd.2.2 b hb b z rfl
      · rcases (kk b hb).2 with y | y
        · exact r.ln b (hsub b y)
        · exact r.h0 y
    · obtain ⟨L4, q4, _⟩ := r.unlend ha hS hL hr hsub q3
      exact s.nx _ _ _ _ _ w q4
    · obtain ⟨L4, q4, _⟩ := r.unlend ha hS hL hr hsub q3
      exact s.ex x _ F3 σ3 H3 L4 C dd w q4 ie
  · have e0 : j = xs.length := by omega
    subst e0
    obtain ⟨L4, q4, _⟩ := r.unlend ha hS hL hr hsub q
    exact .inl ⟨⟨vs, haj, by rw [hS.length]; exact Nat.le_refl _⟩, s.nx _ _ _ _ _ (hd env' hI) q4⟩
def reR (i : Nat) (xs : List D) : RS → RS
  | .nx e => .nx (reE i xs e)
  | .rt d e => .rt d (reE i xs e)
  | .ex x e => .ex x (reE i xs e)
  | _ => .no
def ownL (o : Option D) : Option (List D) := match o with
  | some (.olst xs) => if xs.all isSh = true then some xs else none
  | _ => none
theorem ownL_ok {o : Option D} {xs : List D} (h : ownL o = some xs) : o = some (.olst xs) ∧ xs.all isSh = true := by
  unfold ownL at h
  split at h
  · obtain ⟨h1, rfl⟩ := ite_some h
    exact ⟨rfl, h1⟩
  · cases h
/-- for x in xs: .., the list (in a slot) owned -/
def xsForO (i : Nat) (g : XG W) (b : XS W) : XS W where
  t E := tFor (iSeqU W.K (tVar i)) g.t (b.t E)
  ev P env := match ownL (getS env i) with
    | some xs => reR i xs (forL (fun d e => match g.ev (i :: P) d e with | some e2 => b.ev (i :: P) e2 | none => .no) xs (env.set i none))
    | none => (xsFor (xiSeq (xVar W i)) g b).ev P env
  snd := fun P E env hn => by
    match h : ownL (getS env i), hn with
    | none, hn => exact (xsFor (xiSeq (xVar W i)) g b).snd P E env hn
    | some xs, hn =>
      obtain ⟨h1, h2⟩ := ownL_ok h
      dsimp only at hn ⊢
      have hn2 : forL (fun d e => match g.ev (i :: P) d e with | some e2 => b.ev (i :: P) e2 | none => .no) xs (env.set i none) ≠ .no := fun z => hn (by rw [z]; rfl)
      generalize hr : forL (fun d e => match g.ev (i :: P) d e with | some e2 => b.ev (i :: P) e2 | none => .no) xs (env.set i none) = r at hn hn2 ⊢
      refine as_forO (getS_some h1) h2 (fun j e => forL (fun d e => match g.ev (i :: P) d e with | some e2 => b.ev (i :: P) e2 | none => .no) (xs.drop j) e = r) (by rw [List.drop_zero]; exact hr) (fun j d e' hd hi => ?_) fun e' he => ?_
      · rw [List.drop_eq_getElem?_toList_append, hd] at hi
        have hi : forL (fun d e => match g.ev (i :: P) d e with | some e2 => b.ev (i :: P) e2 | none => .no) (d :: xs.drop (j + 1)) e' = r := hi
        unfold forL at hi
        cases h1 : g.ev (i :: P) d e' with
        | none => rw [h1] at hi; exact absurd hi.symm hn2
        | some e2 =>
          rw [h1] at hi
          intro e0 F σ H L v Q hP rl sh q
          refine g.snd h1 e0 F σ H L v Q hP rl sh fun env3 σ2 L2 z r3 => q env3 σ2 L2 ?_ r3
          subst z
          have hb := b.snd (i :: P) E env3
          dsimp only at hi
          match h2 : b.ev (i :: P) env3, hb, hi with
          | .nx e3, hb, hi => exact (hb (by simp)).weaken (fun e h => by cases h; exact hi) (fun d e h => nomatch h) (fun e h => nomatch h) (fun e h => nomatch h) fun x e h => nomatch h
          | .ct e3, hb, hi => exact (hb (by simp)).weaken (fun e h => nomatch h) (fun d e h => nomatch h) (fun e h => nomatch h) (fun e h => by cases h; exact hi) fun x e h => nomatch h
          | .bk e3, hb, hi => exact (hb (by simp)).weaken (fun e h => nomatch h) (fun d e h => nomatch h) (fun e h => by cases h; exact (by rw [← hi]; rfl)) (fun e h => nomatch h) fun x e h => nomatch h
          | .rt d3 e3, hb, hi => exact (hb (by simp)).weaken (fun e h => nomatch h) (fun d e h => by cases h; exact (by rw [← hi]; rfl)) (fun e h => nomatch h) (fun e h => nomatch h) fun x e h => nomatch h
          | .ex x3 e3, hb, hi => exact (hb (by simp)).weaken (fun e h => nomatch h) (fun d e h => nomatch h) (fun e h => nomatch h) (fun e h => nomatch h) fun x e h => by cases h; exact (by rw [← hi]; rfl)
          | .no, hb, hi => exact absurd hi.symm hn2
      · rw [List.drop_length] at he
        rw [← he]; rfl
end
end Py

namespace Py
open PySem L2
section
variable {T : Tbl} {W : Wd T} {env : Py.Env}
def dispE : List (XP W × XP W) → Py.Env → Option (List (Key × D))
  | [], _ => some []
  | p :: r, env => (p.1.evF env).bind fun x => (keyD x).bind fun k => (p.2.evF env).bind fun y => (dispE r env).map ((k, y) :: ·)
theorem disp_pairs : ∀ (ps : List (XP W × XP W)) {kds : List (Key × D)}, dispE ps env = some kds → ∀ (e : Ent) (F : Hp) (σ : St) (H : Hp) (L : List Addr) (Q : List (V × V) → Hp → Prop), Rel W e env F σ H L →
    (∀ (kvs : List (Key × V)) F' H', Ext F H F' H' → kvs.map (·.1) = kds.map (·.1) → Shrs W F' (kds.map (·.2)) (kvs.map (·.2)) → Q (kvs.map fun kv => (kV kv.1, kv.2)) H') → tPairs (ps.map fun p => (p.1.t, p.2.t)) σ H Q
  | [], _, h, e, F, σ, H, L, Q, r, q => by
    cases h
    exact q [] F H (.refl r.sF) rfl .nil
  | p :: ps, _, h, e, F, σ, H, L, Q, r, q => by
    obtain ⟨x, e1, h⟩ := Option.bind_eq_some_iff.mp h
    obtain ⟨k, e2, h⟩ := Option.bind_eq_some_iff.mp h
    obtain ⟨y, e3, h⟩ := Option.bind_eq_some_iff.mp h
    obtain ⟨z, e4, rfl⟩ := Option.map_eq_some_iff.mp h
    refine p.1.sF e1 e F σ H L _ r fun v F1 H1 x1 y1 => p.2.sF e3 e F1 σ H1 L _ (r.ext x1) fun u F2 H2 x2 y2 => ?_
    refine disp_pairs ps e4 e F2 σ H2 L _ ((r.ext x1).ext x2) fun kvs F3 H3 x3 ek ev => ?_
    have hv := keyD_ok y1 e2
    subst hv
    exact q ((k, u) :: kvs) F3 H3 ((x1.trans x2).trans x3) (by simp [ek]) (.cons (y2.mono x3.f) ev)
theorem merge_nodup : ∀ (more kvs : List (Key × V)), ((kvs ++ more).map (·.1)).Nodup → mergeK kvs more = kvs ++ more
  | [], kvs, _ => (List.append_nil kvs).symm
  | p :: r, kvs, h => by
    have hn : (kvs.any fun kv => decide (kv.1 = p.1)) = false := by
      rw [Bool.eq_false_iff]
      intro z
      obtain ⟨q, hq, e⟩ := List.any_eq_true.mp z
      rw [List.map_append, List.nodup_append] at h
      exact h.2.2 q.1 (List.mem_map.mpr ⟨q, hq, rfl⟩) p.1 (by simp) (of_decide_eq_true e)
    have e : mergeK kvs (p :: r) = mergeK (kvs ++ [(p.1, p.2)]) r := by
      show mergeK (putK kvs p.1 p.2) r = _
      unfold putK
      rw [if_neg (by rw [hn]; decide)]
    rw [e, merge_nodup r (kvs ++ [(p.1, p.2)]) (by simpa using h)]
    simp
theorem zip_self {α β : Type} : ∀ l : List (α × β), (l.map (·.1)).zip (l.map (·.2)) = l
  | [] => rfl
  | p :: l => by rw [List.map_cons, List.map_cons, List.zip_cons_cons, zip_self l]
def xDisp (ps : List (XP W × XP W)) : XP W where
  t := tDisp (ps.map fun p => (p.1.t, p.2.t))
  ev env := (dispE ps env).bind fun kds => if (kds.map (·.1)).Nodup ∧ kds.length ≤ 15 then some (.fr, .odic (kds.map (·.1)) (kds.map (·.2))) else none
  snd := fun {env k d} h => by
    obtain ⟨kds, e1, h⟩ := Option.bind_eq_some_iff.mp h
    obtain ⟨⟨nd, hl⟩, e⟩ := ite_some h
    cases e
    intro e F σ H L Q r q p hp
    refine disp_pairs ps e1 e F σ (upd H p (.dK [])) L _ (r.ext (.newH r.sF hp)) fun kvs F2 H2 x2 ek ev => ?_
    have h2 : H2 p = some (.dK []) := x2.h _ _ upd_same
    have hF : F2 p = none := by
      cases z : F2 p with
      | none => rfl
      | some u =>
        rcases x2.n p u z with y | y
        · rw [r.sF.free hp] at y; cases y
        · rw [upd_same] at y; cases y
    have hlen : kvs.length = kds.length := by have := congrArg List.length ek; simpa using this
    refine ⟨h2, kvs, rfl, by omega, ?_⟩
    rw [merge_nodup kvs [] (by rw [List.nil_append, ek]; exact nd), List.nil_append]
    have ne : ∀ {b : Addr} {o : HO}, H b = some o → b ≠ p := fun {b o} hb z => by rw [z, hp] at hb; cases hb
    refine q _ F2 _ ⟨x2.f, fun b o z => ?_, fun b o z => ?_, fun b o z => ?_⟩ ⟨[p], .odic (vs := kvs.map (·.2)) ?_ (by simp [hlen]) nd ev.owns, by simp, fun a m => ?_⟩
    · rw [upd_ne (fun e => by rw [e, hF] at z; cases z)]; exact x2.s _ _ z
    · rw [upd_ne (ne z)]; exact x2.h _ _ (by rw [upd_ne (ne z)]; exact z)
    · rcases x2.n b o z with y | y
      · exact .inl y
      · refine .inr ?_
        by_cases e : b = p
        · rw [e]; exact hp
        · rwa [upd_ne e] at y
    · rw [upd_same]
      congr 2
      rw [← ek]
      exact (zip_self kvs).symm
    · rw [List.mem_singleton.mp m]
      exact ⟨hp, hF⟩
end
end Py

namespace Py
open PySem L2
mutual
/-- owned throughout: all that it holds is flat or owned in the same way -/
def oFl : D → Bool
  | .olst xs => oFls xs
  | .odic _ xs => oFls xs
  | .odit _ xs => oFls xs
  | .oins _ _ xs => oFls xs
  | .non | .bl _ | .int _ | .str _ | .cls _ => true
  | _ => false
def oFls : List D → Bool
  | [] => true
  | d :: ds => oFl d && oFls ds
end
theorem oFls_flat : ∀ {ds : List D}, ds.all isFlat = true → oFls ds = true
  | [], _ => by rw [oFls]
  | d :: ds, h => by
    rw [List.all_cons, Bool.and_eq_true] at h
    rw [oFls, oFls_flat h.2, Bool.and_true]
    cases d <;> first | (simp [isFlat] at h; done) | simp [oFl]
theorem oFls_all : ∀ {ds : List D}, (∀ d ∈ ds, oFl d = true) → oFls ds = true
  | [], _ => by rw [oFls]
  | d :: ds, h => by rw [oFls, h d (by simp), oFls_all fun x m => h x (List.mem_cons_of_mem _ m)]; rfl
section
variable {T : Tbl} {W : Wd T}
mutual
theorem Own.rebase {F F' H : Hp} : ∀ {d : D} {v : V} {L : List Addr}, Own W F H d v L → oFl d = true → Own W F' H d v L
  | d, _, _, .sh h, e => by
    cases d <;> first | (simp [oFl] at e; done) | exact .sh (h.flat (by rfl)) | (cases h; done)
  | _, _, _, .olst h t, e => by rw [oFl] at e; exact .olst h (Owns.rebase t e)
  | _, _, _, .odic h l n t, e => by rw [oFl] at e; exact .odic h l n (Owns.rebase t e)
  | _, _, _, .odit h l n t, e => by rw [oFl] at e; exact .odit h l n (Owns.rebase t e)
  | _, _, _, .odig h k l t, e => by simp [oFl] at e
  | _, _, _, .oins h c l t, e => by rw [oFl] at e; exact .oins h c l (Owns.rebase t e)
theorem Owns.rebase {F F' H : Hp} : ∀ {d : List D} {v : List V} {L : List Addr}, Owns W F H d v L → oFls d = true → Owns W F' H d v L
  | _, _, _, .nil, _ => .nil
  | _, _, _, .cons h t, e => by
    rw [oFls, Bool.and_eq_true] at e
    exact .cons (Own.rebase h e.1) (Owns.rebase t e.2)
end
theorem rO_rebase {F G H H' : Hp} {d : D} {v : V} (s : Same F H) (e : oFl d = true) (h : rO W d G H' H v) : rO W d F H' H v := by
  obtain ⟨L, o, nd, k⟩ := h
  exact ⟨L, o.rebase e, nd, fun a m => ⟨(k a m).1, s.free (k a m).1⟩⟩
def ofD (o : Option D) : Option (Kd × D) := o.bind fun d => if oFl d = true then some (.fr, d) else none
theorem ofD_ok {o : Option D} {k : Kd} {d : D} (h : ofD o = some (k, d)) : o = some d ∧ oFl d = true ∧ k = .fr := by
  obtain ⟨x, e1, e⟩ := Option.bind_eq_some_iff.mp h
  obtain ⟨e2, e⟩ := ite_some e
  cases e
  exact ⟨e1, e2, rfl⟩
/-- C(..) of things looked at -/
def xMakeL (φ : Sem) (c ini : String) (n : Nat) (as : XA W) : XP W where
  t := (xMake φ c ini n as [] [] (fun _ => .nil)).t
  ev env := orI (ofD ((as.evV env).bind fun ds => mk1 φ c ini n ds)) ((xMake φ c ini n as [] [] (fun _ => .nil)).ev env)
  snd := fun {env k d} e => by
    rcases orI_ok e with e | e
    · obtain ⟨e0, hf, rfl⟩ := ofD_ok e
      obtain ⟨ds, e1, h⟩ := Option.bind_eq_some_iff.mp e0
      refine fun e' F σ H L Q r q hc => as.sV e1 e' F σ H L _ r fun vs F1 H1 x1 y1 x dx hx hdx ne => ?_
      have y1 : Shrs W H1 ds vs := y1
      have hz : mk1 φ c ini n ds = some d := h
      show spR W n (φ ini) (some 0) (.ref x :: (vs ++ [])) _ _ E0
      rw [List.append_nil]
      exact makeF (Same.refl H1) y1 hc hz (fun v F3 H3 x3 y3 => q v F1 H3 (x1.trans ⟨Same.refl F1, x1.s.trans (x3.f.trans x3.s), x3.h, fun _ _ z => .inl z⟩) (rO_back x1.h (rO_rebase x1.s hf y3))) x dx hx hdx ne
    · exact (xMake φ c ini n as [] [] (fun _ => .nil)).snd e
def mkNV (φ : Sem) (c ini : String) (n m N : Nat) (bs : List Bool) (dd : List D) (f g : Option (List D)) : Option D := match f, g with
  | some ds, some zs => if ds.length = n ∧ zs.length = m then mk1 φ c ini N (ds ++ mgM bs dd zs) else none
  | _, _ => none
/-- C(.., k = v) of things looked at -/
def xMakeNL (φ : Sem) (c ini : String) (n m N : Nat) (bs : List Bool) (dd : List D) (hd : dd.all cst = true) (as ks : XA W) : XP W where
  t := (xMakeN φ c ini n m N bs dd hd as ks).t
  ev env := orI (ofD (mkNV φ c ini n m N bs dd (as.evV env) (ks.evV env))) ((xMakeN φ c ini n m N bs dd hd as ks).ev env)
  snd := fun {env k d} e => by
    rcases orI_ok e with e | e
    · obtain ⟨e0, hf, rfl⟩ := ofD_ok e
      unfold mkNV at e0
      split at e0
      · rename_i ds zs e1 e2
        obtain ⟨⟨l1, l2⟩, h⟩ := if_some' e0
        refine fun e' F σ H L Q r q hc => as.sV e1 e' F σ H L _ r fun vs F1 H1 x1 y1 => ks.sV e2 e' F1 σ H1 L _ (r.ext x1) fun ws F2 H2 x2 y2 => ?_
        have y1 : Shrs W H1 ds vs := y1
        have y2 : Shrs W H2 zs ws := y2
        refine ⟨by rw [← y1.length, l1], by rw [← y2.length, l2], fun x dx hx hdx ne => ?_⟩
        exact makeF (Same.refl H2) (Shrs.append (y1.mono x2.h) (mgM_shr hd y2)) hc h (fun v F3 H3 x3 y3 => q v F2 H3 ((x1.trans x2).trans ⟨Same.refl F2, x2.s.trans (x3.f.trans x3.s), x3.h, fun _ _ z => .inl z⟩) (rO_back (x1.trans x2).h (rO_rebase x2.s hf y3))) x dx hx hdx ne
      · cases e0
    · exact (xMakeN φ c ini n m N bs dd hd as ks).snd e
def okD0 (r : Rz) : Option D := match r with
  | .ok d _ => some d
  | _ => none
theorem okD0_ok {r : Rz} {d : D} (h : okD0 r = some d) : ∃ b, r = .ok d b := by
  cases r <;> cases h
  exact ⟨_, rfl⟩
/-- f(..) of things looked at -/
def xCallW (φ : List D → Option Nat → Rz) (n : Nat) (as : XA W) : XP W where
  t := (xCall φ n as [] [] (fun _ => .nil)).t
  ev env := orI (ofD ((as.evV env).bind fun ds => if ds.length = n then okD0 (φ ds none) else none)) ((xCall φ n as [] [] (fun _ => .nil)).ev env)
  snd := fun {env k d} e => by
    rcases orI_ok e with e | e
    · obtain ⟨e0, hf, rfl⟩ := ofD_ok e
      obtain ⟨ds, e1, e5⟩ := Option.bind_eq_some_iff.mp e0
      obtain ⟨hl, e6⟩ := if_some' e5
      obtain ⟨b, h⟩ := okD0_ok e6
      refine fun e' F σ H L Q r q => as.sV e1 e' F σ H L _ r fun vs F1 H1 x1 y1 => ?_
      have y1 : Shrs W H1 ds vs := y1
      show spR W n φ none (vs ++ []) H1 Q E0
      rw [List.append_nil]
      exact callF (Same.refl H1) y1 hl h fun v F3 H3 x3 y3 => q v F1 H3 (x1.trans ⟨Same.refl F1, x1.s.trans (x3.f.trans x3.s), x3.h, fun _ _ z => .inl z⟩) (rO_back x1.h (rO_rebase x1.s hf y3))
    · exact (xCall φ n as [] [] (fun _ => .nil)).snd e
end
end Py

namespace Py
open PySem L2 PyProof.Rows
abbrev set0 (w : World) : Obj := { cls := .type "set", dict := none, data := .set #[] 0 (.fresh 0 0 (!w.params.followText "set-order")) }
section
variable {P : Program} {w : World} {A : Around} {E : Value → Shared → Prop} {s : Shared}
theorem set_of_list {l : Addr} {xs : Array Value} (ns : List Int) {Q : Value → Shared → Prop} (hh : A.handled = none) (hl : s.heap.IsList l xs) (hi : IntsAre xs.toList ns) (hb : ns.length + 1 < scanBound)
    (q : ∀ (h' : Heap) (tk c : Nat), SetR w h' s.heap.objs.size (fun j => decide (j ∈ ns)) c → c ≤ ns.length → (∀ b o, s.heap.get? b = some o → h'.get? b = some o) → Q (.ref s.heap.objs.size) { s with heap := h', toks := tk }) :
    wpAny (model P w) A (call (.type "set") [.ref l]) Q E s := by
  have hz : xs.size = ns.length := by have e := IntsAre.length hi; rwa [Array.length_toList] at e
  generalize hsz : s.heap.objs.size = S at q
  obtain ⟨c0, tl0, hmro⟩ := F.called_set.mro
  have m1 := F.called_set.made; have m2 := F.called_set.sub
  refine wpAny_call (codeAny_of_tree (show wpAny _ _ (callAny (.type "set") _) _ _ _ from wpAny_pure ⟨Code.quiet_builtin _ (by decide +kernel), codeAny_builtin F.entry_type_call ?_⟩))
  rw [Around.under_plain (weight_type_call_type "set" [.ref l] []) rfl]
  have m3 := F.called_set.notType; have m4 := F.called_set.canCreate
  have m5 := F.typeCall_set_1 (.ref l)
  repeat (any_goals (first | assumption | wp_step))
  refine codeAny_mono (code_set_led1 (.ref l) (E := E) (Q₁ := fun v z => v = .ref S ∧ z = { s with heap := s.heap.push (set0 w) }) ⟨by rw [hsz], rfl⟩) fun r z hr => ?_
  rcases r with e | (v | _ | _ | _) <;> first | exact hr | exact hr.elim | skip
  obtain ⟨rfl, rfl⟩ := hr
  have gS : (s.heap.push (set0 w)).get? S = some (set0 w) := by rw [← hsz]; exact Heap.get?_push_size _ rfl
  have tS : Shared.TypeIs { s with heap := s.heap.push (set0 w) } (.ref S) "set" := ⟨_, gS, rfl⟩
  have i1 := F.called_set.init.lookup
  have i2 := F.called_set.init.bind (.ref S)
  repeat (any_goals (first | assumption | wp_step))
  refine codeAny_mono (codeAny_call_builtin (R := wants (fun v z => v = .none ∧ ∃ h' tk c, z = { s with heap := h', toks := tk } ∧ SetR w h' S (fun j => decide (j ∈ ns)) c ∧ c ≤ ns.length ∧ (∀ b o, s.heap.get? b = some o → h'.get? b = some o)) E)
    F.called_set.init.plain F.entry_set_init (check_set_init_1 tS ?_)) fun r z hr => ?_
  · obtain ⟨⟨oc, od, oda, osl⟩, ho, hc, nl, hd⟩ := hl
    dsimp only at hc hd
    subst hc; subst hd
    have ho' : (s.heap.push (set0 w)).get? l = some { cls := .type "list", dict := od, data := .seq xs nl, slots := osl } := Heap.get?_push_of_some _ ho
    have s1 := F.sub_list_set; have s2 := F.sub_list_frozenset
    have ne : (Value.type "list" == Value.type "dict") = false := by decide
    have hl1 : (s.heap.push (set0 w)).IsList l xs := ⟨_, ho', rfl, nl, rfl⟩
    have hlS : l < S := by rw [← hsz]; exact Heap.lt_size ho
    have hI : (s.heap.push (set0 w)).objs.size = S + 1 := by rw [Heap.size_push, hsz]
    unfold Builtin.«set.__init__» noKeywords Builtin.Frozenset.updateFrom
    generalize hPI : pyIter = PI
    wp_walk
    subst hPI
    refine wpAny_pyIter_list hl1 (wpAny_bind (wpAny_runValue ?_))
    rw [hI]
    have hval : ∀ (i : Nat) (v : Value), xs[i]? = some v → ∃ k t, ns[i]? = some k ∧ v = .int k t := fun i v hv => by
      have lt : i < ns.length := by rw [← hz]; exact (Array.getElem?_eq_some_iff.mp hv).1
      obtain ⟨t, e⟩ := IntsAre.int_at hi i v (by rw [Array.getElem?_toList]; exact hv)
      rw [List.getD_eq_getElem?_getD, List.getElem?_eq_getElem lt] at e
      exact ⟨ns[i], t, List.getElem?_eq_getElem lt, e⟩
    refine set_update_ints ((Walks.list (show A.in1.in1.in1.handled = none by simp [hh]) (S + 1) l (Nat.ne_of_lt (Nat.lt_succ_of_lt hlS)) xs).toS) S (fun z => (List.mem_cons.mp z).elim (Nat.ne_of_lt (Nat.lt_succ_self _)) fun z => Nat.ne_of_gt hlS (List.mem_singleton.mp z)) ns hz hb hval (xs.size - 0) 0 _ (by omega) (Nat.zero_le _)
      ⟨⟨_, by rw [← hI]; exact Heap.get?_push_size _ rfl, rfl, rfl⟩, hl1.push _⟩ ⟨0, Nat.le_refl 0, setR_new_at (Heap.get?_push_of_some _ gS)⟩ fun z c mv hc hS => ?_
    obtain ⟨h', g', d', tk', os'⟩ := z
    obtain rfl : g' = s.gens := mv.gens
    obtain rfl : d' = s.drawn := mv.drawn
    obtain rfl : os' = s.os := mv.os
    refine wpAny_pure (show wpAny _ _ (ret Value.none) _ _ _ from wpAny_pure ⟨rfl, h', tk', c, rfl, hS, by rw [← hz]; exact hc, fun b o e => ?_⟩)
    have lb : b < S := by rw [← hsz]; exact Heap.lt_size e
    exact mv.heap b o (fun z => (List.mem_cons.mp z).elim (Nat.ne_of_lt lb) fun z => Nat.ne_of_lt (Nat.lt_succ_of_lt lb) (List.mem_singleton.mp z)) (Heap.get?_push_of_some _ (Heap.get?_push_of_some _ e))
  · rcases r with e | (v | _ | _ | _) <;> first | exact hr | exact hr.elim | skip
    obtain ⟨rfl, h', tk, c, rfl, hS, hc, kk⟩ := hr
    repeat (any_goals (first | assumption | wp_step))
    exact q _ _ _ hS hc kk
end
end Py

namespace Py
open PySem L2
section
variable {X : Cx} {k n : Nat} {f C : Addr} {fd : FuncData} {ps ks : List Str} {sp : Sp} {E : WX} {x : Str} {p pos : Pos} {e : Expr} {es : List Expr} {kws : List Keyword} {t tkw : TA} {g : List Value → List Value → List Value} {gV : List V → List V → List V} {dvs : List V} {ds : List Value}
theorem px_callX (D : Df X.prog X.w X.K X.mg X.base (L2.CX X.prog X.w) k x ps sp) (tk : Takes X E) (hr : Room k X.A) (hg : Gl X x)
    (ha : PA X (e :: es) t) (hdb : (x == ("__debug__" : Str)) = false := by decide) (he : starEach (e :: es) X.env = (false, eval e X.env) :: starEach es X.env := by rfl) (hpl : (backTo pos (starEach es X.env)).any (·.1) = false := by rfl) :
    PE X (.Call (.Name x p) (e :: es) [] pos) (fun σ H Q => tCall sp [] (WE E σ) t σ H Q) := by
  obtain ⟨f, fd, F, hm, hk, hb⟩ := D.ex
  exact pe_callSD (E := fun σ => WE E σ) F hr hg hm hk hb .nil (fun σ => L2.passAt tk σ) ha hdb he hpl
theorem runNX {pins : List (Addr × Obj)} {σ : St} {H : Hp} {s : Shared} {Q : VK} {us ws : List Value} {vs zs : List V} (F : FnOk X.prog X.w X.K X.mg X.base (L2.CX X.prog X.w) k f fd ps sp) (hr : Room k X.A) (hb : KBn X.K fd ps n ks g gV) (tk : Takes X E)
    (I : Inv X pins σ H s) (r : Vals vs us) (rz : Vals zs ws) (l1 : vs.length = n) (l2 : zs.length = ks.length) (h : sp (gV vs zs) H Q (WE E σ)) : wpAny (model X.prog X.w) X.A (call (.ref f) us (ks.zip ws)) (EP X pins σ Q) X.xe s := by
  refine wpAny_call (codeAny_mono (F.run X.A X.stack s H ⟨us, ks.zip ws⟩ (g us ws) (gV vs zs) Q (WE E σ) hr I.env0 (hb.to s us ws I.kIn (r.length.symm.trans l1) (rz.length.symm.trans l2)) (hb.rel r rz) h) fun res s' hq => ?_)
  match res, hq with
  | .error er, hq => exact L2.passAt tk σ pins H s er s' I hq
  | .ok (.ret u), hq => exact I.after hq
  | .ok .next, hq => exact False.elim hq
  | .ok .brk, hq => exact False.elim hq
  | .ok .cont, hq => exact False.elim hq
theorem px_callNX {qual : Str} {st : Stmt} {kws0 : List (Str × V)} {bs : List Bool} (D : DfD X.prog X.w X.K X.mg X.base k x qual st kws0 ps sp) (hb : KShape X.K x qual st kws0 ps n ks bs dvs) (tk : Takes X E) (hr : Room k X.A) (hg : Gl X x)
    (ha : PA X (e :: es) t) (hkw : PK X kws tkw) (hall : (backToKw pos (keywordEach kws X.env)).all (·.1.isSome) = true := by rfl) (hks : (backToKw pos (keywordEach kws X.env)).filterMap (·.1) = ks := by rfl)
    (hdb : (x == ("__debug__" : Str)) = false := by decide) (he : starEach (e :: es) X.env = (false, eval e X.env) :: starEach es X.env := by rfl)
    (hpl : ((backTo pos (starEach (e :: es) X.env)).any (·.1) || (backToKw pos (keywordEach kws X.env)).any (·.1.isNone)) = false := by rfl) :
    PE X (.Call (.Name x p) (e :: es) kws pos) (fun σ H Q => tCallN n ks.length sp (fun vs zs => vs ++ mgM bs dvs zs) (WE E σ) t tkw σ H Q) := by
  obtain ⟨f, fd, F, hm, hk, FD⟩ := D.ex
  obtain ⟨g, hb⟩ := hb f fd FD
  refine ⟨fun pins s σ H Q I h => wpAny_Call_Name_kw (ld_glob I hg hm ?_ hdb)⟩
  refine PySem.W.callWith_KW (h₀ := X.base) I.ok.mod.kin hk hall (thn (ha.run pos pins s σ H _ I h) fun us s1 ⟨vs, H1, I1, r, q⟩ => thn (hkw.run pos pins s1 σ H1 _ I1 q) fun ws s2 ⟨zs, H2, I2, rz, l1, l2, q2⟩ => ⟨I2.kIn, ?_⟩) hpl he
  rw [hks]
  exact runNX F hr hb tk I2 r rz l1 l2 q2
theorem runMX {pins : List (Addr × Obj)} {σ : St} {H : Hp} {s : Shared} {Q : VK} {us ws : List Value} {vs : List V} {kn : List Str} (M : Mk X.K C f) (F : FnOk X.prog X.w X.K X.mg X.base (L2.CX X.prog X.w) k f fd ps sp) (hr : Room (k + 1) X.A) (tk : Takes X E)
    (I : Inv X pins σ H s)
    (hb : ∀ (s' : Shared) (a : Addr), X.K.In s'.heap → ∃ us2 : List Value, Vals (gV (.ref a :: vs) []) us2 ∧ BindsTo s' fd ⟨.ref a :: us, kn.zip ws⟩ (ps.zip us2))
    (h : ∀ x dx, H x = none → H dx = none → dx ≠ x → sp (gV (.ref x :: vs) []) (upd (upd H dx (.own x)) x (.ins C dx [])) (fun v H2 => v = .non ∧ Q (.ref x) H2) (WE E σ)) :
    wpAny (model X.prog X.w) X.A (call (.ref C) us (kn.zip ws)) (EP X pins σ Q) X.xe s := by
  have hq := h (s.heap.objs.size + 1) s.heap.objs.size (I.hok.fresh (Nat.le_succ _)) (I.hok.fresh (Nat.le_refl _)) (Nat.ne_of_lt (Nat.lt_succ_self _))
  have I2 := Inv.made (C := C) I
  obtain ⟨us2, r2, b⟩ := hb _ (s.heap.objs.size + 1) I2.kIn
  refine wpAny_call (make_map (f := f) I.kIn M.makes M.init (beq_iff_eq.mp M.fn) (codeAny_mono (F.run _ X.stack _ _ ⟨Value.ref (s.heap.objs.size + 1) :: us, kn.zip ws⟩ us2 _ _ (WE E σ) (hr.make C us (kn.zip ws)) (I2.env0.make C us (kn.zip ws)) b r2 hq) fun res s' hq' => ?_))
  match res, hq' with
  | .error er, hq' => exact L2.passAt tk σ pins _ _ er s' I2 hq'
  | .ok (.ret u), hq' =>
    obtain ⟨v, H', I3, rv, ev, q3⟩ := I2.after hq'
    subst ev
    exact ⟨rv, ⟨V.ref (s.heap.objs.size + 1), H', I3, rfl, q3⟩⟩
  | .ok .next, hq' => exact False.elim hq'
  | .ok .brk, hq' => exact False.elim hq'
  | .ok .cont, hq' => exact False.elim hq'
theorem px_makeX {c : String} {T : Tbl} {W : Wd T} {m : Nat} (M : MkAt X.prog X.w X.K X.mg X.base k x (W.cA c) m sp) (hc : W.has c) (tk : Takes X E) (hr : Room (k + 1) X.A) (hg : Gl X x)
    (ha : PA X (e :: es) t) (hdb : (x == ("__debug__" : Str)) = false := by decide) (he : starEach (e :: es) X.env = (false, eval e X.env) :: starEach es X.env := by rfl) (hpl : (backTo pos (starEach es X.env)).any (·.1) = false := by rfl) :
    PE X (.Call (.Name x p) (e :: es) [] pos) (fun σ H Q => W.has c → tMake (W.cA c) sp [] (WE E σ) t σ H Q) := by
  obtain ⟨f, fd, ps, M, F, hm, hb, _⟩ := M.ex
  refine ⟨fun pins s σ H Q I h => wpAny_Call_Name_kw (ld_glob I hg hm ?_ hdb)⟩
  refine PySem.W.callWith_K (h₀ := X.base) I.ok.mod.kin M.kp (thn (ha.run pos pins s σ H _ I (h hc)) fun us s1 ⟨vs, H1, I1, r, q⟩ => ⟨I1.kIn, ?_⟩) he hpl
  refine runMX (gV := fun vs _ => vs) (kn := []) (ws := []) M F hr tk I1 (fun s' a X' => ⟨Value.ref a :: us, .cons rfl r, ?_⟩) fun x dx h1 h2 h3 => by have := q x dx h1 h2 h3; rwa [List.append_nil] at this
  have := hb s' (Value.ref a :: us) X' (by
    have hz := q (s1.heap.objs.size + 1) s1.heap.objs.size (I1.hok.fresh (Nat.le_succ _)) (I1.hok.fresh (Nat.le_refl _)) (Nat.ne_of_lt (Nat.lt_succ_self _))
    have e := F.len _ _ _ _ hz
    rw [List.append_nil] at e ⊢
    rw [← e, List.length_cons, List.length_cons, r.length])
  rwa [List.append_nil] at this
theorem px_makeNX {c : String} {T : Tbl} {W : Wd T} {qual : Str} {st : Stmt} {kws0 : List (Str × V)} {bs : List Bool} (M : MkD X.prog X.w X.K X.mg X.base k x (W.cA c) qual st kws0 ps sp) (hb : KShape X.K "__init__" qual st kws0 ps (n + 1) ks bs dvs) (hc : W.has c) (tk : Takes X E) (hr : Room (k + 1) X.A) (hg : Gl X x)
    (ha : PA X (e :: es) t) (hkw : PK X kws tkw) (hall : (backToKw pos (keywordEach kws X.env)).all (·.1.isSome) = true := by rfl) (hks : (backToKw pos (keywordEach kws X.env)).filterMap (·.1) = ks := by rfl)
    (hdb : (x == ("__debug__" : Str)) = false := by decide) (he : starEach (e :: es) X.env = (false, eval e X.env) :: starEach es X.env := by rfl)
    (hpl : ((backTo pos (starEach (e :: es) X.env)).any (·.1) || (backToKw pos (keywordEach kws X.env)).any (·.1.isNone)) = false := by rfl) :
    PE X (.Call (.Name x p) (e :: es) kws pos) (fun σ H Q => W.has c → tMakeK (W.cA c) n ks.length sp (fun vs zs => vs ++ mgM bs dvs zs) (WE E σ) t tkw σ H Q) := by
  obtain ⟨f, fd, M, F, hm, FD⟩ := M.ex
  obtain ⟨g, hb⟩ := hb f fd FD
  refine ⟨fun pins s σ H Q I h => wpAny_Call_Name_kw (ld_glob I hg hm ?_ hdb)⟩
  refine PySem.W.callWith_KW (h₀ := X.base) I.ok.mod.kin M.kp hall (thn (ha.run pos pins s σ H _ I (h hc)) fun us s1 ⟨vs, H1, I1, r, q⟩ => thn (hkw.run pos pins s1 σ H1 _ I1 q) fun ws s2 ⟨zs, H2, I2, rz, l1, l2, q2⟩ => ⟨I2.kIn, ?_⟩) hpl he
  rw [hks]
  refine runMX (gV := fun vs _ => vs ++ mgM bs dvs zs) M F hr tk I2 (fun s' a X' => ⟨g (Value.ref a :: us) ws, hb.rel (.cons rfl r) rz, hb.to s' (Value.ref a :: us) ws X' (by rw [List.length_cons, ← r.length, l1]) (rz.length.symm.trans l2)⟩) fun x dx h1 h2 h3 => q2 x dx h1 h2 h3
theorem px_makeN0X {c : String} {T : Tbl} {W : Wd T} {qual : Str} {st : Stmt} {kws0 : List (Str × V)} {bs : List Bool} (M : MkD X.prog X.w X.K X.mg X.base k x (W.cA c) qual st kws0 ps sp) (hb : KShape X.K "__init__" qual st kws0 ps 1 ks bs dvs) (hc : W.has c) (tk : Takes X E) (hr : Room (k + 1) X.A) (hg : Gl X x)
    (hkw : PK X kws tkw) (hall : (backToKw pos (keywordEach kws X.env)).all (·.1.isSome) = true := by rfl) (hks : (backToKw pos (keywordEach kws X.env)).filterMap (·.1) = ks := by rfl)
    (hdb : (x == ("__debug__" : Str)) = false := by decide)
    (hpl : ((backTo pos (starEach [] X.env)).any (·.1) || (backToKw pos (keywordEach kws X.env)).any (·.1.isNone)) = false := by rfl) :
    PE X (.Call (.Name x p) [] kws pos) (fun σ H Q => W.has c → tMakeK (W.cA c) 0 ks.length sp (fun vs zs => vs ++ mgM bs dvs zs) (WE E σ) tNil tkw σ H Q) := by
  obtain ⟨f, fd, M, F, hm, FD⟩ := M.ex
  obtain ⟨g, hb⟩ := hb f fd FD
  refine ⟨fun pins s σ H Q I h => wpAny_Call_Name_kw (ld_glob I hg hm ?_ hdb)⟩
  refine PySem.W.callWith_KW0 (h₀ := X.base) I.ok.mod.kin M.kp hall (thn (hkw.run pos pins s σ H _ I (h hc)) fun ws s2 ⟨zs, H2, I2, rz, l1, l2, q2⟩ => ⟨I2.kIn, ?_⟩) hpl
  rw [hks]
  refine runMX (us := []) (vs := []) (gV := fun vs _ => vs ++ mgM bs dvs zs) M F hr tk I2 (fun s' a X' => ⟨g [Value.ref a] ws, hb.rel (.cons rfl .nil) rz, hb.to s' [Value.ref a] ws X' rfl (rz.length.symm.trans l2)⟩) fun x dx h1 h2 h3 => q2 x dx h1 h2 h3
end
section
variable {T : Tbl} {W : Wd T} {env : Py.Env} {P : List Nat} {E : WX} {A : AEnds} {d : D}
/-- raise C(e, ..) -/
def exOf (c : String) (fs : List String) (ds : Option (List D)) (env : Py.Env) : RS := match ds with
  | some ds => if ds.length = fs.length then .ex ⟨c, fs.zip ds⟩ env else .no
  | none => .no
theorem zip_fst {fs : List String} {ds : List D} (h : ds.length = fs.length) : (fs.zip ds).map (·.1) = fs := List.map_fst_zip (by omega)
theorem zip_snd {fs : List String} {ds : List D} (h : ds.length = fs.length) : (fs.zip ds).map (·.2) = ds := List.map_snd_zip (by omega)
def xsRaise (c : String) (fs : List String) (as : XA W) : XS W where
  t E := fun _ σ H => W.hasX c → tMkX (W.cA c) (fs.map so) as.t σ H fun cls d H' => E cls d σ H'
  ev P env := exOf c fs (as.evF env) env
  snd := fun P E env hn e F σ H L Dn hP r s hc => by
    match h : as.evF env, hn, s with
    | none, hn, s => exact absurd rfl hn
    | some ds, hn, s =>
      unfold exOf at hn s
      by_cases hl : ds.length = fs.length
      · dsimp only at s
        rw [if_pos hl] at s
        refine as.sF h e F σ H L _ r fun vs F1 H1 x1 y1 => ?_
        have y1 : Shrs W F1 ds vs := y1
        refine ⟨by rw [← y1.length, hl, List.length_map], fun a ha => ?_⟩
        refine s.ex ⟨c, fs.zip ds⟩ env (upd F1 a (.xd ((fs.map so).zip vs))) σ (upd H1 a (.xd ((fs.map so).zip vs))) L _ _ rfl ((r.ext x1).ext (.new x1.s ha)) ⟨rfl, hc, .inr ⟨a, vs, rfl, ?_, ?_⟩⟩
        · rw [upd_same, zip_fst hl]
        · rw [zip_snd hl]
          exact y1.mono (same_new (x1.s.free ha))
      · dsimp only at hn
        rw [if_neg hl] at hn
        exact absurd rfl hn
/-- f(.., k = v, ..), which may raise -/
def callNM (φ : List D → Option Nat → Rz) (n m N : Nat) (bs : List Bool) (dd : List D) (f g : Option (List D)) (env : Py.Env) : RM := match f, g with
  | some ds, some zs => if ds.length = n ∧ zs.length = m ∧ (ds ++ mgM bs dd zs).length = N then rm0 (φ (ds ++ mgM bs dd zs) none) env else .no
  | _, _ => .no
def xmCallN (φ : List D → Option Nat → Rz) (n m N : Nat) (bs : List Bool) (dd : List D) (hd : dd.all cst = true) (as ks : XA W) : XM W where
  t E := fun σ H Q => tCallN n m (spR W N φ none) (fun vs zs => vs ++ mgM bs (dd.map cV) zs) (WE E σ) as.t ks.t σ H Q
  ev P env := callNM φ n m N bs dd (as.evF env) (ks.evF env) env
  snd := fun P E env hn e F σ H L Q hP r c cx => by
    match e1 : as.evF env, e2 : ks.evF env, hn, c, cx with
    | none, _, hn, _, _ => exact absurd rfl hn
    | some _, none, hn, _, _ => exact absurd rfl hn
    | some ds, some zs, hn, c, cx =>
      unfold callNM at hn c cx
      dsimp only at hn c cx
      by_cases hl : ds.length = n ∧ zs.length = m ∧ (ds ++ mgM bs dd zs).length = N
      · rw [if_pos hl] at hn c cx
        obtain ⟨l1, l2, l3⟩ := hl
        refine as.sF e1 e F σ H L _ r fun vs F1 H1 x1 y1 => ks.sF e2 e F1 σ H1 L _ (r.ext x1) fun ws F2 H2 x2 y2 => ?_
        have y1 : Shrs W F1 ds vs := y1
        have y2 : Shrs W F2 zs ws := y2
        have r2 := (r.ext x1).ext x2
        refine ⟨by rw [← y1.length, l1], by rw [← y2.length, l2], callX x2.s (Shrs.append (y1.mono x2.f) (mgM_shr hd y2)) l3 (fun z => hn (by rw [z]; rfl)) (fun d b v F3 H3 eq x3 ⟨M, o, nd, kk⟩ => ?_) fun x b F3 H3 C dd' eq x3 ie => ?_⟩
        · rw [eq] at c
          exact c d env v F3 H3 L M rfl (r2.ext x3) o (nodup_new (H := H2) r2.nd nd r2.slots.lives fun a m => (kk a m).1) fun a m => ⟨(kk a m).2, r2.h0 (kk a m).1⟩
        · rw [eq] at cx
          exact cx x env F3 H3 L C dd' rfl (r2.ext x3) ie
      · rw [if_neg hl] at hn; exact absurd rfl hn
/-- how __init__ ends, for a class that may raise -/
def mkM (r : Rz) (env : Py.Env) : RM := match r with
  | .ok .non (some d) => .ok d env
  | .exn x _ => .exn x env
  | _ => .no
theorem makeX {n : Nat} {φ : Sem} {c ini : String} {e : Ent} {F H : Hp} {σ : St} {L : List Addr} {vs : List V} {ds : List D} {Q : VK} {E : XK} (r : Rel W e env F σ H L) (h : Shrs W F ds vs) (hc : W.has c) (hl : ds.length + 1 = n) (hn : mkM (φ ini (.oins c [] [] :: ds) (some 0)) env ≠ .no)
    (q : ∀ d env' v F' H' L' M, mkM (φ ini (.oins c [] [] :: ds) (some 0)) env = .ok d env' → Rel W e env' F' σ H' L' → Own W F' H' d v M → (M ++ L').Nodup → (∀ a ∈ M, F' a = none ∧ (a ∈ e.L0 ∨ e.H0 a = none)) → Q v H')
    (qx : ∀ x env' F' H' L' C dd, mkM (φ ini (.oins c [] [] :: ds) (some 0)) env = .exn x env' → Rel W e env' F' σ H' L' → IsExn W F' x C dd → E C dd H') (x dx : Addr) (hx : H x = none) (hd : H dx = none) (ne : dx ≠ x) :
    spR W n (φ ini) (some 0) (.ref x :: vs) (upd (upd H dx (.own x)) x (.ins (W.cA c) dx [])) (fun v H2 => v = .non ∧ Q (.ref x) H2) E := by
  have s := r.sF
  have hs : Same H (upd (upd H dx (.own x)) x (.ins (W.cA c) dx [])) := (same_new hd).trans (same_new (by rw [upd_ne ne.symm]; exact hx))
  have ext : ∀ {F' H'}, Post F (upd (upd H dx (.own x)) x (.ins (W.cA c) dx [])) [x] F' H' → Ext F H F' H' := fun {F' H'} p => ⟨p.f, p.s, fun a o ha => p.h a o (fun z => by
      obtain rfl : a = x := by simpa using z
      rw [hx] at ha; cases ha) (hs _ _ ha), fun a o ha => by
    rcases p.n a o ha with z | z | z
    · exact .inl z
    · exact .inr (hs.free z)
    · obtain rfl : a = x := by simpa using z
      exact .inr hx⟩
  refine ⟨F, .oins c [] [] :: ds, [x] ++ [], s.trans hs, .cons (.oins (vs := []) (by rw [upd_same]; rfl) hc rfl .nil) h.owns, by simp, fun a m => ?_, hl, fun z => hn (by rw [z]; rfl), fun d' bd e' F' H' v M Mb p o ob nd k => ?_, fun x' bd e' F' H' C dd Mb p ie ob nb k => ?_⟩
  · obtain rfl : a = x := by simpa using m
    exact s.free hx
  · rw [e'] at hn q
    cases d' with
    | non =>
      cases bd with
      | none => exact absurd rfl hn
      | some d2 =>
        have hv : v = .non := by cases o with | sh y => cases y; rfl
        have hM : M = [] := o.shNil rfl
        subst hM
        obtain ⟨w, hw, ow⟩ := ob
        cases hw
        have ex := ext p
        have hk : ∀ a ∈ Mb, F' a = none ∧ H a = none := fun a m => ⟨(k a (by simpa using m)).1, by
          rcases (k a (by simpa using m)).2 with z | z
          · obtain rfl : a = x := by simpa using z
            exact hx
          · exact hs.free z⟩
        refine ⟨hv, q d2 env (.ref x) F' H' L Mb rfl (r.ext ex) ow (nodup_new (H := H) r.nd (by simpa using nd) r.slots.lives fun a m => (hk a m).2) fun a m => ⟨(hk a m).1, r.h0 (hk a m).2⟩⟩
    | _ => exact absurd rfl hn
  · rw [e'] at qx
    exact qx x' env F' H' L C dd rfl (r.ext (ext p)) ie
def makeM (φ : Sem) (c ini : String) (n : Nat) (f : Option (List D)) (env : Py.Env) : RM := match f with
  | some ds => if ds.length + 1 = n then mkM (φ ini (.oins c [] [] :: ds) (some 0)) env else .no
  | none => .no
/-- C(..), which may raise -/
def xmMake (φ : Sem) (c ini : String) (n : Nat) (as : XA W) : XM W where
  t E := fun σ H Q => W.has c → tMake (W.cA c) (spR W n (φ ini) (some 0)) [] (WE E σ) as.t σ H Q
  ev P env := makeM φ c ini n (as.evF env) env
  snd := fun P E env hn e F σ H L Q hP r c1 cx hc => by
    match e1 : as.evF env, hn, c1, cx with
    | none, hn, _, _ => exact absurd rfl hn
    | some ds, hn, c1, cx =>
      unfold makeM at hn c1 cx
      dsimp only at hn c1 cx
      by_cases hl : ds.length + 1 = n
      · rw [if_pos hl] at hn c1 cx
        refine as.sF e1 e F σ H L _ r fun vs F1 H1 x1 y1 x dx hx hdx ne => ?_
        rw [List.append_nil]
        exact makeX (r.ext x1) y1 hc hl hn c1 cx x dx hx hdx ne
      · rw [if_neg hl] at hn; exact absurd rfl hn
def makeNM (φ : Sem) (c ini : String) (n m N : Nat) (bs : List Bool) (dd : List D) (f g : Option (List D)) (env : Py.Env) : RM := match f, g with
  | some ds, some zs => if ds.length = n ∧ zs.length = m ∧ (ds ++ mgM bs dd zs).length + 1 = N then mkM (φ ini (.oins c [] [] :: (ds ++ mgM bs dd zs)) (some 0)) env else .no
  | _, _ => .no
/-- C(.., k = v, ..), which may raise -/
def xmMakeN (φ : Sem) (c ini : String) (n m N : Nat) (bs : List Bool) (dd : List D) (hd : dd.all cst = true) (as ks : XA W) : XM W where
  t E := fun σ H Q => W.has c → tMakeK (W.cA c) n m (spR W N (φ ini) (some 0)) (fun vs zs => vs ++ mgM bs (dd.map cV) zs) (WE E σ) as.t ks.t σ H Q
  ev P env := makeNM φ c ini n m N bs dd (as.evF env) (ks.evF env) env
  snd := fun P E env hn e F σ H L Q hP r c1 cx hc => by
    match e1 : as.evF env, e2 : ks.evF env, hn, c1, cx with
    | none, _, hn, _, _ => exact absurd rfl hn
    | some _, none, hn, _, _ => exact absurd rfl hn
    | some ds, some zs, hn, c1, cx =>
      unfold makeNM at hn c1 cx
      dsimp only at hn c1 cx
      by_cases hl : ds.length = n ∧ zs.length = m ∧ (ds ++ mgM bs dd zs).length + 1 = N
      · rw [if_pos hl] at hn c1 cx
        obtain ⟨l1, l2, l3⟩ := hl
        refine as.sF e1 e F σ H L _ r fun vs F1 H1 x1 y1 => ks.sF e2 e F1 σ H1 L _ (r.ext x1) fun ws F2 H2 x2 y2 => ?_
        have y1 : Shrs W F1 ds vs := y1
        have y2 : Shrs W F2 zs ws := y2
        exact ⟨by rw [← y1.length, l1], by rw [← y2.length, l2], fun x dx hx hdx ne => makeX ((r.ext x1).ext x2) (Shrs.append (y1.mono x2.f) (mgM_shr hd y2)) hc l3 hn c1 cx x dx hx hdx ne⟩
      · rw [if_neg hl] at hn; exact absurd rfl hn
end
end Py

namespace Py
open PySem L2
section
variable {T : Tbl} {W : Wd T} {env : Py.Env} {P : List Nat} {E : WX} {A : AEnds} {d : D} {i : Nat}
theorem IsExn.mono {F F' : Hp} {x : Exn} {C : Value} {dd : Option Addr} (e : Same F F') (h : IsExn W F x C dd) : IsExn W F' x C dd := by
  obtain ⟨h1, h2, h3⟩ := h
  refine ⟨h1, h2, h3.imp id ?_⟩
  rintro ⟨a, vs, h4, h5, h6⟩
  exact ⟨a, vs, h4, e _ _ h5, h6.mono e⟩
def AQ {T : Tbl} (W : Wd T) (i : Nat) (x : Exn) (a : Addr) (cls : Value) (dd : Option Addr) (t : TE) (env : Py.Env) (R : Res) : Prop :=
  ∀ (e : Ent) (F : Hp) (σ : St) (H : Hp) (L : List Addr) (Q : VK), Rel W e env F σ H L → IsExn W F x cls dd → σ[i]? = some (some (.ref a)) → (∀ v F' H', Ext F H F' H' → R F' H' H v → Q v H') → t σ H Q
/-- an expression of a suite; e stands in slot i -/
structure XQ {T : Tbl} (W : Wd T) (i : Nat) where
  t : Addr → Value → Option Addr → TE
  ev : Exn → Py.Env → Option (Kd × D)
  snd : ∀ {x env k d}, ev x env = some (k, d) → ∀ a cls dd, AQ W i x a cls dd (t a cls dd) env (rK W k d)
def xqP (p : XP W) : XQ W i where
  t _ _ _ := p.t
  ev _ env := p.ev env
  snd := fun h a cls dd e F σ H L Q r _ _ q => p.snd h e F σ H L Q r q
theorem look_fld {F : Hp} {f : String} {d : D} : ∀ {fs : List (String × D)} {vs : List V}, Shrs W F (fs.map (·.2)) vs → fs.lookup f = some d → ∃ v, (((fs.map (·.1)).map so).zip vs).lookup (so f) = some v ∧ Shr W F d v
  | [], _, _, h => by simp [List.lookup] at h
  | (k, x) :: fs, _, .cons (v := v) h t, hl => by
    by_cases e : f = k
    · subst e
      simp only [List.lookup_cons_self] at hl
      cases hl
      exact ⟨v, by simp, h⟩
    · rw [List.lookup_cons, beq_eq_false_iff_ne.mpr e] at hl
      obtain ⟨u, h1, h2⟩ := look_fld t hl
      refine ⟨u, ?_, h2⟩
      rw [List.map_cons, List.map_cons, List.zip_cons_cons, List.lookup_cons, beq_eq_false_iff_ne.mpr (fun z => e (so_inj z))]
      exact h1
/-- e.f -/
def xqFld (W : Wd T) (i : Nat) (c f : String) : XQ W i where
  t a cls dd := tXf a cls dd (W.cA c) (so f) (tVar i)
  ev x _ := if x.c = c then (x.fs.lookup f).map (Prod.mk .fr) else none
  snd := fun {x env k d} h a cls dd e F σ H L Q r ie hs q => by
    obtain ⟨hc, h⟩ := if_some' h
    obtain ⟨z, h, e1⟩ := Option.map_eq_some_iff.mp h
    cases e1
    obtain ⟨h1, h2, h3⟩ := ie
    rcases h3 with h3 | ⟨p, vs, h4, h5, h6⟩
    · rw [h3] at h; simp [List.lookup] at h
    · obtain ⟨v, h7, h8⟩ := look_fld h6 h
      exact ⟨_, hs, rfl, by rw [h1, hc], p, _, v, h4, r.sF _ _ h5, h7, q v F H (.refl r.sF) (rO_sh h8)⟩
/-- the classes that isinstance(e, ..) is asked of -/
def clsXOk (W : Wd T) (c : Bool × String) : Prop := if c.1 = true then W.hasX c.2 else c.2 = "ValueError"
def isX1 (T : Tbl) (x : String) (c : Bool × String) : Bool := if c.1 = true then T.xsub x c.2 else true
theorem kit_isx {x : String} {c : Bool × String} (hx : W.hasX x) (hc : clsXOk W c) : PySem.W.kitOne W.K (.ref (W.cA x)) (clsT W c) = some (isX1 T x c) := by
  obtain ⟨b, n⟩ := c
  cases b with
  | true => exact W.xk x n hx hc
  | false =>
    have hc : n = "ValueError" := hc
    subst hc
    exact W.xv x hx
def isXA (T : Tbl) (x : String) : List (Bool × String) → Bool
  | [] => false
  | c :: cs => isX1 T x c || isXA T x cs
theorem kitAny_isx {x : String} (hx : W.hasX x) : ∀ {cs : List (Bool × String)}, (∀ c ∈ cs, clsXOk W c) → PySem.W.kitAny W.K (.ref (W.cA x)) (cs.map (clsT W)) = some (isXA T x cs)
  | [], _ => rfl
  | c :: cs, h => by
    have h1 := kit_isx hx (h c (List.mem_cons_self ..))
    have h2 := kitAny_isx hx (cs := cs) fun y m => h y (List.mem_cons_of_mem _ m)
    exact kitAny_cons h1 (fun hb => by rw [h2, isXA, hb]; rfl) fun hb => by rw [isXA, hb]; rfl
/-- the reading of isinstance(e, c), isinstance(e, (c, ..)) -/
def rIsX (K : PySem.W.Frag) (a : Addr) (cls : Value) (dd : Option Addr) : List V → Hp → VK → Prop := fun xs H Q => ∃ (D0 p : Addr) (fs : List (Str × V)) (b : Bool), cls = .ref D0 ∧ ExcC K D0 ∧ dd = some p ∧ H p = some (.xd fs) ∧
  ((∃ (c : V) (cv : Value), xs = [.ref a, c] ∧ (∀ u, RelV c u → u = cv) ∧ PySem.W.kitOne K (.ref D0) cv = some b) ∨ (∃ (tp : Addr) (cs : List V) (us : List Value), xs = [.ref a, .ref tp] ∧ H tp = some (.tup cs) ∧ Paired ClsV cs us ∧ PySem.W.kitAny K (.ref D0) us = some b)) ∧ Q (.bl b) H
theorem call_isX {X : Cx} {a : Addr} {oe : Obj} {cls : Value} {dd : Option Addr} {pn : List (Addr × Obj)} (hz : Zc cls dd oe) (hf : ∃ vs, oe.data = .fields vs) : CallR (X.suite a ((a, oe) :: pn)) (.builtin "isinstance") (rIsX X.K a cls dd) := by
  intro pins s σ H xs us Q I r h
  obtain ⟨D0, p, fs, b, ec, C, ed, hp, h, q⟩ := h
  subst ec
  subst ed
  obtain ⟨hget, _⟩ := I.pin (a, oe) (List.mem_append_left _ List.mem_cons_self)
  obtain ⟨vs, hv⟩ := hf
  have hx : ObjOk X.prog X.w H s.heap p (.xd fs) := I.hok p _ hp
  obtain ⟨mA, hns, _⟩ := hx
  obtain ⟨od, ho, hl⟩ := lookIn_ns hns
  have J : PySem.W.InstAt s.heap a oe D0 (some od) := ⟨hget, hz.1, by unfold PySem.W.notCls; rw [hv] <;> rfl, by rw [hz.2]; exact ho⟩
  have KX := PySem.W.kitx_exc (x := a) (ox := oe) (od := some od) (by obtain ⟨cd, hc, _⟩ := PySem.W.any_some C.hd; rw [hc]; rfl) C.hg C.hk C.hs C.ha C.hn C.ht C.hm
  rcases h with ⟨c, cv, rfl, hcv, e⟩ | ⟨tp, cs, ws, rfl, hT, k, e⟩
  · obtain ⟨u1, u2, rfl, r1, r2⟩ := vals2 r
    cases (show u1 = Value.ref a from r1)
    have ev := hcv _ r2
    subst ev
    exact PySem.W.kia_one KX I.kIn J e (fun z => nomatch z) fun tk => ⟨.bl b, H, I.tok tk, rfl, q⟩
  · obtain ⟨u1, u2, rfl, r1, r2⟩ := vals2 r
    cases (show u1 = Value.ref a from r1)
    cases (show u2 = Value.ref tp from r2)
    obtain ⟨_, its, rv, o, h1, h2, n, h3⟩ := (show ObjOk X.prog X.w H s.heap tp (.tup cs) from I.hok tp _ hT)
    have e3 := ClsV.all k rv
    subst e3
    obtain ⟨oc, od, dt, sl⟩ := o
    simp only at h2 h3
    subst h2 h3
    exact PySem.W.kia_tup KX I.kIn J h1 e (fun z => nomatch z) fun tk => ⟨.bl b, H, I.tok tk, rfl, q⟩
theorem clsV_rel {W : Wd T} (c : Bool × String) : ∀ u, RelV (clsV W c) u → u = clsT W c := by
  obtain ⟨b, n⟩ := c
  cases b with
  | true => intro u h; exact h
  | false => intro u h; exact h
/-- isinstance(e, c) -/
def xqIs (W : Wd T) (i : Nat) (c : Bool × String) : XQ W i where
  t a cls dd := fun σ H Q => clsXOk W c → tCB (rIsX W.K a cls dd) (tCons (tVar i) (tCons (tC (clsV W c)) tNil)) σ H Q
  ev x _ := match x.fs with
    | [] => none
    | _ :: _ => some (.fr, .bl (isX1 T x.c c))
  snd := fun {x env k d} h a cls dd e F σ H L Q r ie hs q hc => by
    obtain ⟨h1, h2, h3⟩ := ie
    split at h
    · cases h
    · rename_i z zs hfs
      cases h
      rcases h3 with h3 | ⟨p, vs, h4, h5, h6⟩
      · rw [hfs] at h3; cases h3
      · exact ⟨_, hs, W.cA x.c, p, _, _, h1, W.xc _ h2, h4, r.sF _ _ h5, .inl ⟨_, _, rfl, clsV_rel c, kit_isx h2 hc⟩, q _ F H (.refl r.sF) (rO_sh .bl)⟩
def xqIsT (W : Wd T) (i : Nat) (cs : List (Bool × String)) : XQ W i where
  t a cls dd := fun σ H Q => (∀ c ∈ cs, clsXOk W c) → cs.length ≤ 100 → tCB (rIsX W.K a cls dd) (tCons (tVar i) (tCons (tTup (tCls W cs)) tNil)) σ H Q
  ev x _ := match x.fs with
    | [] => none
    | _ :: _ => some (.fr, .bl (isXA T x.c cs))
  snd := fun {x env k d} h a cls dd e F σ H L Q r ie hs q hc hl => by
    obtain ⟨h1, h2, h3⟩ := ie
    split at h
    · cases h
    · rename_i z zs hfs
      cases h
      rcases h3 with h3 | ⟨p, vs, h4, h5, h6⟩
      · rw [hfs] at h3; cases h3
      · refine ⟨_, hs, tCls_run cs σ H _ ⟨by rw [List.length_map]; exact Nat.le_trans hl (by decide), fun tp htp => ?_⟩⟩
        have x1 : Ext F H F (upd H tp (.tup (cs.map (clsV W)))) := .newH r.sF htp
        exact ⟨W.cA x.c, p, _, _, h1, W.xc _ h2, h4, x1.h _ _ (r.sF _ _ h5), .inr ⟨_, _, _, rfl, upd_same, paired_cls cs, kitAny_isx h2 hc⟩, q _ F _ x1 (rO_sh .bl)⟩
def XQ.evB (m : XQ W i) (x : Exn) (env : Py.Env) : Option Bool := (toV (m.ev x env)).bind blD
theorem XQ.sB (m : XQ W i) {x : Exn} {b : Bool} (h : m.evB x env = some b) (a : Addr) (cls : Value) (dd : Option Addr) : AQ W i x a cls dd (m.t a cls dd) env (rV W (.bl b)) := by
  obtain ⟨y, e1, e⟩ := Option.bind_eq_some_iff.mp h
  cases blD_ok e
  match e2 : m.ev x env, e1 with
  | some (k, d0), e1 =>
    have e1 : some (fz d0) = some (.bl b) := e1
    exact fun e F σ H L Q r ie hs q => m.snd e2 a cls dd e F σ H L Q r ie hs fun v F' H' x' y => q v F' H' x' (by
      have := rK_view x'.s y
      rwa [Option.some.inj e1] at this)
def xqAnd (m n : XQ W i) : XQ W i where
  t a cls dd := tAndV (m.t a cls dd) (n.t a cls dd)
  ev x env := (andE (m.evB x env) fun _ => n.evB x env).map fun c => (.fr, .bl c)
  snd := fun {x env k d} h a cls dd e F σ H L Q r ie hs q => by
    obtain ⟨c, e1, h⟩ := Option.map_eq_some_iff.mp h
    cases h
    match ha : m.evB x env, e1 with
    | some b, e1 =>
      refine m.sB ha a cls dd e F σ H L _ r ie hs fun v F1 H1 x1 y1 => ?_
      have y1 : Shr W H1 (.bl b) v := y1
      cases y1
      refine ⟨b, rfl, ?_⟩
      cases b with
      | true =>
        refine n.sB e1 a cls dd e F1 σ H1 L _ (r.ext x1) (ie.mono x1.f) hs fun u F2 H2 x2 y2 => ?_
        have y2 : Shr W H2 (.bl c) u := y2
        cases y2
        exact q _ F2 H2 (x1.trans x2) (rO_sh .bl)
      | false => cases e1; exact q _ F1 H1 x1 (rO_sh .bl)
def xqOr (m n : XQ W i) : XQ W i where
  t a cls dd := tOrV (m.t a cls dd) (n.t a cls dd)
  ev x env := (orE (m.evB x env) fun _ => n.evB x env).map fun c => (.fr, .bl c)
  snd := fun {x env k d} h a cls dd e F σ H L Q r ie hs q => by
    obtain ⟨c, e1, h⟩ := Option.map_eq_some_iff.mp h
    cases h
    match ha : m.evB x env, e1 with
    | some b, e1 =>
      refine m.sB ha a cls dd e F σ H L _ r ie hs fun v F1 H1 x1 y1 => ?_
      have y1 : Shr W H1 (.bl b) v := y1
      cases y1
      refine ⟨b, rfl, ?_⟩
      cases b with
      | false =>
        refine n.sB e1 a cls dd e F1 σ H1 L _ (r.ext x1) (ie.mono x1.f) hs fun u F2 H2 x2 y2 => ?_
        have y2 : Shr W H2 (.bl c) u := y2
        cases y2
        exact q _ F2 H2 (x1.trans x2) (rO_sh .bl)
      | true => cases e1; exact q _ F1 H1 x1 (rO_sh .bl)
def xqNot (m : XQ W i) : XQ W i where
  t a cls dd := tNotV (m.t a cls dd)
  ev x env := (m.evB x env).map fun c => (.fr, .bl (!c))
  snd := fun {x env k d} h a cls dd e F σ H L Q r ie hs q => by
    obtain ⟨c, e1, h⟩ := Option.map_eq_some_iff.mp h
    cases h
    refine m.sB e1 a cls dd e F σ H L _ r ie hs fun v F1 H1 x1 y1 => ?_
    have y1 : Shr W H1 (.bl c) v := y1
    cases y1
    exact ⟨c, rfl, q _ F1 H1 x1 (rO_sh .bl)⟩
def toQ (o : Option (Kd × D)) : Option D := match o with
  | some (.fr, d) => if isSh d = true then some d else none
  | some (.pl, d) => if isSh d = true then some d else none
  | some (.vw, d) => if isFlat d = true then some d else none
  | none => none
def XQ.evF (m : XQ W i) (x : Exn) (env : Py.Env) : Option D := toQ (m.ev x env)
theorem XQ.sF (m : XQ W i) {x : Exn} (h : m.evF x env = some d) (a : Addr) (cls : Value) (dd : Option Addr) : AQ W i x a cls dd (m.t a cls dd) env (rF W d) := by
  unfold XQ.evF toQ at h
  intro e F σ H L Q r ie hs q
  split at h
  · rename_i d0 e2
    obtain ⟨h1, rfl⟩ := ite_some h
    exact m.snd e2 a cls dd e F σ H L Q r ie hs fun v F' H' x' ⟨M, o, _, _⟩ => q v F' H' x' (o.shr h1)
  · rename_i d0 e2
    obtain ⟨h1, rfl⟩ := ite_some h
    exact m.snd e2 a cls dd e F σ H L Q r ie hs fun v F' H' x' ⟨M, o⟩ => q v F' H' x' (o.shr h1)
  · rename_i d0 e2
    obtain ⟨h1, rfl⟩ := ite_some h
    exact m.snd e2 a cls dd e F σ H L Q r ie hs fun v F' H' x' y => q v F' H' x' (Shr.flat y h1)
  · cases h
structure XQs {T : Tbl} (W : Wd T) (i : Nat) where
  t : Addr → Value → Option Addr → TA
  ev : Exn → Py.Env → Option (List D)
  snd : ∀ {x env ds}, ev x env = some ds → ∀ a cls dd (e : Ent) (F : Hp) (σ : St) (H : Hp) (L : List Addr) (Q : List V → Hp → Prop), Rel W e env F σ H L → IsExn W F x cls dd → σ[i]? = some (some (.ref a)) → (∀ vs F' H', Ext F H F' H' → Shrs W F' ds vs → Q vs H') → t a cls dd σ H Q
def xqsNil (W : Wd T) (i : Nat) : XQs W i where
  t _ _ _ := tNil
  ev _ _ := some []
  snd := fun h a cls dd e F σ H L Q r _ _ q => by cases h; exact q [] F H (.refl r.sF) .nil
def xqsCons (m : XQ W i) (n : XQs W i) : XQs W i where
  t a cls dd := tCons (m.t a cls dd) (n.t a cls dd)
  ev x env := (m.evF x env).bind fun y => (n.ev x env).map (y :: ·)
  snd := fun {x env ds} h a cls dd e F σ H L Q r ie hs q => by
    obtain ⟨y, e1, h⟩ := Option.bind_eq_some_iff.mp h
    obtain ⟨ys, e2, rfl⟩ := Option.map_eq_some_iff.mp h
    exact m.sF e1 a cls dd e F σ H L _ r ie hs fun v F1 H1 x1 y1 => n.snd e2 a cls dd e F1 σ H1 L _ (r.ext x1) (ie.mono x1.f) hs fun vs F2 H2 x2 y2 => q _ F2 H2 (x1.trans x2) (.cons (Shr.mono x2.f y1) y2)
/-- [..] -/
def xqLst (n : XQs W i) : XQ W i where
  t a cls dd := tLst (n.t a cls dd)
  ev x env := (n.ev x env).bind fun ds => if ds.length ≤ 1000000 then some (.fr, .olst ds) else none
  snd := fun {x env k d} h a cls dd e F σ H L Q r ie hs q => by
    obtain ⟨ds, e1, h⟩ := Option.bind_eq_some_iff.mp h
    obtain ⟨hl, h⟩ := ite_some h
    cases h
    refine n.snd e1 a cls dd e F σ H L _ r ie hs fun vs F1 H1 x1 y1 => ⟨by rw [← y1.length]; exact Nat.le_trans hl (by decide), fun p hp => q _ F1 _ (x1.trans (.newH x1.s hp)) ⟨[p], .olst upd_same y1.owns, by simp, fun b m => ?_⟩⟩
    obtain rfl := List.mem_singleton.mp m
    exact ⟨x1.h.free hp, x1.s.free hp⟩
structure XH {T : Tbl} (W : Wd T) (i : Nat) where
  t : Addr → Value → Option Addr → TS
  ev : Exn → List Nat → Py.Env → RS
  snd : ∀ {x P env} (a : Addr) (cls : Value) (dd : Option Addr), ev x P env ≠ .no → ∀ (e : Ent) (F : Hp) (σ : St) (H : Hp) (L : List Addr) (E : WX) (Dn : Ends), P = e.pins.map (·.1) → Rel W e env F σ H L → IsExn W F x cls dd → σ[i]? = some (some (.ref a)) → Sat W e E (ends (ev x P env)) Dn → t a cls dd Dn σ H
def XQ.evO (m : XQ W i) (x : Exn) (env : Py.Env) : Option D := toO (m.ev x env)
theorem XQ.sO (m : XQ W i) {x : Exn} (h : m.evO x env = some d) (a : Addr) (cls : Value) (dd : Option Addr) : AQ W i x a cls dd (m.t a cls dd) env (rO W d) := by
  unfold XQ.evO at h
  intro e F σ H L Q r ie hs q
  match e2 : m.ev x env, h with
  | some (.fr, d0), h => cases h; exact m.snd e2 a cls dd e F σ H L Q r ie hs q
  | some (.pl, d0), h =>
    obtain ⟨h1, rfl⟩ := ite_some h
    exact m.snd e2 a cls dd e F σ H L Q r ie hs fun v F' H' x' ⟨M, o⟩ => q v F' H' x' (rO_sh (o.shr h1))
  | some (.vw, d0), h =>
    obtain ⟨h1, rfl⟩ := ite_some h
    exact m.snd e2 a cls dd e F σ H L Q r ie hs fun v F' H' x' y => q v F' H' x' (rO_sh (Shr.flat y h1))
def xhAsgK (P : List Nat) (j : Nat) (env : Py.Env) : Option D → RS
  | some d => RS.ofO (setS P j d env)
  | none => .no
def xhAsg (j : Nat) (m : XQ W i) : XH W i where
  t a cls dd := tAsg (m.t a cls dd) (gName j)
  ev x P env := xhAsgK P j env (m.evO x env)
  snd := fun {x P env} a cls dd hn e F σ H L E Dn hP r ie hs s => by
    match h : m.evO x env, hn, s with
    | none, hn, _ => exact absurd rfl hn
    | some d, hn, s =>
      have hn : RS.ofO (setS P j d env) ≠ .no := hn
      have s : Sat W e E (ends (RS.ofO (setS P j d env))) Dn := s
      cases h2 : setS P j d env with
      | none => rw [h2] at hn; exact absurd rfl hn
      | some e2 =>
        rw [h2] at s
        obtain ⟨⟨h3, h4⟩, rfl⟩ := ite_some h2
        refine m.sO h a cls dd e F σ H L _ r ie hs fun v F' H' x1 ⟨M, o, nd, k⟩ => ?_
        obtain ⟨L2, r2⟩ := (r.ext x1).set (i := j) o (nodup_new (H := H) r.nd nd r.slots.lives fun b m => (k b m).1) (fun b m => ⟨(k b m).2, r.h0 (k b m).1⟩) h3 fun p hm z => h4 (by rw [hP]; exact List.mem_map.mpr ⟨p, hm, z⟩)
        exact s.nx _ _ _ _ _ rfl r2
def xhRetK (env : Py.Env) : Option D → RS
  | some d => .rt d env
  | none => .no
def xhRet (m : XQ W i) : XH W i where
  t a cls dd := tRet (m.t a cls dd)
  ev x P env := xhRetK env (m.evO x env)
  snd := fun {x P env} a cls dd hn e F σ H L E Dn hP r ie hs s => by
    match h : m.evO x env, hn, s with
    | none, hn, _ => exact absurd rfl hn
    | some d, hn, s =>
      refine m.sO h a cls dd e F σ H L _ r ie hs fun v F' H' x1 ⟨M, o, nd, k⟩ => ?_
      exact s.rt _ _ _ _ _ _ _ _ rfl (r.ext x1) o (nodup_new (H := H) r.nd nd r.slots.lives fun b m => (k b m).1) fun b m => ⟨(k b m).2, r.h0 (k b m).1⟩
theorem Slots.junk {F H : Hp} : ∀ {env : Py.Env} {σ : St} {L : List Addr}, Slots W F H env σ L → ∀ (i : Nat) (o : Option V), ∃ L', Slots W F H (env.set i none) (σ.set i o) L' ∧ (∀ a ∈ L', a ∈ L) ∧ (L.Nodup → L'.Nodup)
  | _, _, _, .nil, i, o => ⟨[], .nil, fun _ h => h, id⟩
  | _, _, _, .so (L := L1) (M := M1) h t, 0, o => ⟨M1, .no t, fun a m => List.mem_append_right _ m, fun n => (List.nodup_append.mp n).2.1⟩
  | _, _, _, .so (L := L1) (M := M1) h t, i + 1, o => by
    obtain ⟨L', s, m, n⟩ := t.junk i o
    refine ⟨L1 ++ L', .so h s, fun a ha => ?_, fun nd => ?_⟩
    · rcases List.mem_append.mp ha with z | z
      · exact List.mem_append_left _ z
      · exact List.mem_append_right _ (m a z)
    · rw [List.nodup_append] at nd ⊢
      exact ⟨nd.1, n nd.2.1, fun a ha b hb => nd.2.2 a ha b (m b hb)⟩
  | _, _, _, .no t, 0, o => ⟨_, .no t, fun _ h => h, id⟩
  | _, _, _, .no t, i + 1, o => by
    obtain ⟨L', s, m, n⟩ := t.junk i o
    exact ⟨L', .no s, m, n⟩
theorem Rel.junk {e : Ent} {F H : Hp} {σ : St} {L : List Addr} (r : Rel W e env F σ H L) (i : Nat) (o : Option V) (hp : ∀ p ∈ e.pins, p.1 ≠ i) : ∃ L', Rel W e (env.set i none) F (σ.set i o) H L' := by
  obtain ⟨L', s, m, n⟩ := r.slots.junk i o
  refine ⟨L', r.sF, s, n r.nd, fun a ha => r.dj a (m a ha), r.s0, r.nw, r.fr, fun a ha => r.ln a (m a ha), fun p hm => ?_⟩
  rw [List.getElem?_set_ne (fun z => hp p hm z.symm)]
  exact r.pin p hm
def RS.clr (i : Nat) : RS → RS
  | .nx e => .nx (e.set i none)
  | .bk e => .bk (e.set i none)
  | .ct e => .ct (e.set i none)
  | .rt d e => .rt d e
  | _ => .no
def tryK (T : Tbl) {W : Wd T} (i : Nat) (c : String) (s : XH W i) (P : List Nat) : RS → RS
  | .ex x env1 => if T.xsub x.c c = true then (if i ∈ P ∨ env1.length ≤ i then .no else (s.ev x P (env1.set i none)).clr i) else .ex x env1
  | r => r
theorem Slots.len {F H : Hp} {env : Py.Env} {σ : St} {L : List Addr} (h : Slots W F H env σ L) : env.length = σ.length := h.length
/-- try: b / except c as e: s -/
def xsTryAs (i : Nat) (c : String) (b : XS W) (s : XH W i) : XS W where
  t E := fun Dn σ H => W.hasX c → b.t (wAs W.K (.ref (W.cA c)) i s.t E Dn) Dn σ H
  ev P env := tryK T i c s P (b.ev P env)
  snd := fun P E env hn e F σ H L Dn hP r sat hc => by
    have hb : b.ev P env ≠ .no := fun z => hn (by rw [z]; rfl)
    refine b.snd P _ env hb e F σ H L Dn hP r ⟨fun env' F' σ' H' L' h r' => ?_, fun d env' F' σ' H' L' v M h r' => ?_, fun env' F' σ' H' L' h r' => ?_, fun env' F' σ' H' L' h r' => ?_, fun x env1 F1 σ1 H1 L1 C dd h r1 ie => ?_⟩
    · exact sat.nx _ _ _ _ _ (show tryK T i c s P (b.ev P env) = .nx env' by rw [show b.ev P env = .nx env' from h]; rfl) r'
    · exact sat.rt _ _ _ _ _ _ _ _ (show tryK T i c s P (b.ev P env) = .rt d env' by rw [show b.ev P env = .rt d env' from h]; rfl) r'
    · exact sat.bk _ _ _ _ _ (show tryK T i c s P (b.ev P env) = .bk env' by rw [show b.ev P env = .bk env' from h]; rfl) r'
    · exact sat.ct _ _ _ _ _ (show tryK T i c s P (b.ev P env) = .ct env' by rw [show b.ev P env = .ct env' from h]; rfl) r'
    · have h : b.ev P env = .ex x env1 := h
      rw [h] at hn sat
      unfold tryK at hn sat
      refine ⟨T.xsub x.c c, by rw [ie.1]; exact W.xm _ _ ie.2.1 hc, fun ht a ha => ?_, fun hf => ?_⟩
      · dsimp only at hn sat
        rw [if_pos ht] at hn sat
        by_cases hi : i ∈ P ∨ env1.length ≤ i
        · rw [if_pos hi] at hn; exact absurd rfl hn
        · rw [if_neg hi] at hn sat
          rw [not_or] at hi
          have hp : ∀ p ∈ e.pins, p.1 ≠ i := fun p hm z => hi.1 (by rw [hP]; exact List.mem_map.mpr ⟨p, hm, z⟩)
          obtain ⟨L2, r2⟩ := r1.junk i (some (.ref a)) hp
          have hs : (σ1.set i (some (.ref a)))[i]? = some (some (.ref a)) := List.getElem?_set_self (by rw [← r1.slots.length]; omega)
          have hn2 : s.ev x P (env1.set i none) ≠ .no := fun z => hn (by rw [z]; rfl)
          refine s.snd a C dd hn2 e F1 _ H1 L2 E _ hP r2 ie hs ⟨fun env' F' σ' H' L' h' r' => ?_, fun d env' F' σ' H' L' v M h' r' => ?_, fun env' F' σ' H' L' h' r' => ?_, fun env' F' σ' H' L' h' r' => ?_, fun x' env' F' σ' H' L' C' dd' h' r' ie' => ?_⟩
          · have h' : s.ev x P (env1.set i none) = .nx env' := h'
            obtain ⟨L3, r3⟩ := r'.junk i none hp
            exact sat.nx _ _ _ _ _ (show (s.ev x P (env1.set i none)).clr i = _ by rw [h']; rfl) r3
          · have h' : s.ev x P (env1.set i none) = .rt d env' := h'
            exact sat.rt _ _ _ _ _ _ _ _ (show (s.ev x P (env1.set i none)).clr i = _ by rw [h']; rfl) r'
          · have h' : s.ev x P (env1.set i none) = .bk env' := h'
            obtain ⟨L3, r3⟩ := r'.junk i none hp
            exact sat.bk _ _ _ _ _ (show (s.ev x P (env1.set i none)).clr i = _ by rw [h']; rfl) r3
          · have h' : s.ev x P (env1.set i none) = .ct env' := h'
            obtain ⟨L3, r3⟩ := r'.junk i none hp
            exact sat.ct _ _ _ _ _ (show (s.ev x P (env1.set i none)).clr i = _ by rw [h']; rfl) r3
          · have h' : s.ev x P (env1.set i none) = .ex x' env' := h'
            rw [h'] at hn
            exact absurd rfl hn
      · dsimp only at sat
        rw [if_neg (by rw [hf]; exact Bool.false_ne_true)] at sat
        exact sat.ex x env1 F1 σ1 H1 L1 C dd rfl r1 ie
def apmK (i : Nat) (d : D) (e : Py.Env) : RM := RM.ofO ((getS e i).bind fun n => (appendD n [d]).map fun z => (z.2, e.set i (some z.1)))
def isOl : Option D → Bool
  | some (.olst _) => true
  | _ => false
def xmAppendR (j : Nat) (m : XM W) : XM W where
  t E := tBM W.K "list" rAppend (tVar j) (tCons (m.t E) tNil)
  ev P env := if isOl (getS env j) = true then (m.ev P env).thenM (apmK j) else .no
  snd := fun P E env hn e F σ H L Q hP r c cx => by
    by_cases hl : isOl (getS env j) = true
    · rw [if_pos hl] at hn c cx
      cases hg : getS env j with
      | none => rw [hg] at hl; cases hl
      | some n0 =>
        rw [hg] at hl
        cases n0 with
        | olst xs =>
          obtain ⟨v0, M0, hs, o0, _⟩ := slot_get r (getS_some hg)
          cases o0 with
          | sh y => cases y
          | olst ha _ =>
            refine ⟨_, hs, .inl ⟨rfl, _, .of ha⟩, ?_⟩
            have hm : m.ev P env ≠ .no := fun z => hn (by rw [z]; rfl)
            refine m.snd P E env hm e F σ H L _ hP r (fun d env1 v F1 H1 L1 M h r1 o nd kk => ?_) fun x env1 F1 H1 L1 C dd h r1 ie => cx x env1 F1 H1 L1 C dd (by rw [h]; rfl) r1 ie
            rw [h] at hn c
            have hn : apmK j d env1 ≠ .no := hn
            have c : ∀ d' env' v F' H' L' M, apmK j d env1 = .ok d' env' → _ := c
            unfold apmK at hn c
            obtain ⟨d2, env2, h2⟩ := RM.ofO_ok hn
            rw [h2] at c
            obtain ⟨n1, e3, h2⟩ := Option.bind_eq_some_iff.mp h2
            obtain ⟨⟨n2, d3⟩, e4, h2⟩ := Option.map_eq_some_iff.mp h2
            cases h2
            rw [List.nodup_append] at nd
            exact am_mop (st := []) mop_append r1 (getS_some e3) rfl hs rfl e4 (.cons o .nil) (by simpa using nd.1) (fun a ha => by
              have ha : a ∈ M := by simpa using ha
              exact ⟨fun z => nd.2.2 a ha a z rfl, kk a ha⟩) fun v F' H' L' M r' o nd kk => c _ _ v F' H' L' M rfl r' o nd kk
        | _ => cases hl
    · rw [if_neg hl] at hn; exact absurd rfl hn
/-- o(..), which may raise -/
def callOM (T : Tbl) (φ : Sem) (n : Nat) (f : Option D) (fs : Option (List D)) (env : Py.Env) : RM := match f, fs with
  | some d, some ds => rm0 (callO1 T φ n (d :: ds)) env
  | _, _ => .no
def xmCallO (φ : Sem) (n : Nat) (a : XP W) (as : XA W) : XM W where
  t E := fun σ H Q => tCallO W φ n none (WE E σ) a.t as.t σ H Q
  ev P env := callOM T φ n (a.evF env) (as.evF env) env
  snd := fun P E env hn e F σ H L Q hP r c cx => by
    match e1 : a.evF env, e2 : as.evF env, hn, c, cx with
    | none, _, hn, _, _ => exact absurd rfl hn
    | some _, none, hn, _, _ => exact absurd rfl hn
    | some d0, some ds, hn, c, cx =>
      have hn : rm0 (callO1 T φ n (d0 :: ds)) env ≠ .no := hn
      have hm : callO1 T φ n (d0 :: ds) ≠ .no := fun z => hn (by rw [z]; rfl)
      obtain ⟨cn, ns, xs, nm, rfl, h1, h3, h4⟩ := callO1_ok hm
      have c : ∀ d env' v F' H' L' M, rm0 (callO1 T φ n (.ins cn ns xs :: ds)) env = .ok d env' → _ := c
      have cx : ∀ x env' F' H' L' C dd, rm0 (callO1 T φ n (.ins cn ns xs :: ds)) env = .exn x env' → _ := cx
      rw [h4] at hm c cx
      refine a.sF e1 e F σ H L _ r fun v F1 H1 x1 y1 => ?_
      obtain ⟨p, dx, vs, rfl, hp, hc⟩ := shr_ins y1
      refine ⟨p, rfl, as.sF e2 e F1 σ H1 L _ (r.ext x1) fun ws F2 H2 x2 y2 => ?_⟩
      obtain ⟨p', dx', vs', hv, hp', hc'⟩ := shr_ins (y1.mono x2.f)
      cases hv
      have r2 := (r.ext x1).ext x2
      refine ⟨cn, nm, dx', _, x2.s _ _ hp', hc, h1, ?_⟩
      refine callX x2.s (.cons (y1.mono x2.f) y2) h3 hm (fun d b v F3 H3 eq x3 ⟨M, o, nd, kk⟩ => ?_) fun x b F3 H3 C dd eq x3 ie => ?_
      · rw [eq] at c
        exact c d env v F3 H3 L M rfl (r2.ext x3) o (nodup_new (H := H2) r2.nd nd r2.slots.lives fun a m => (kk a m).1) fun a m => ⟨(kk a m).2, r2.h0 (kk a m).1⟩
      · rw [eq] at cx
        exact cx x env F3 H3 L C dd rfl (r2.ext x3) ie
end
theorem ps_imp {X : Cx} {s : Stmt} {t : TS} {c : Prop} (hc : c) (h : PS X s t) : PS X s (fun Dn σ H => c → t Dn σ H) := ⟨fun pins s σ H Dn I q => h.run pins s σ H Dn I (q hc)⟩
section
variable {X : Cx} {T : Tbl} {W : Wd T} {E : WX}
theorem px_raise {c : String} {fs : List String} {a : Expr} {es : List Expr} {ta : TA} {x : Str} {p pos pos2 : Pos} {k : Nat} (D : ExcD X.prog X.K X.mg x (W.cA c) (fs.map so)) (hx : W.hasX c) (tk : Takes X E) (hc : X.calm = true) (hr : Room k X.A) (ha : PA X (a :: es) ta) (hg : Gl X x)
    (hd : (x == ("__debug__" : Str)) = false := by decide) (he : starEach (a :: es) X.env = (false, eval a X.env) :: starEach es X.env := by rfl) (hpl : (backTo pos (starEach es X.env)).any (·.1) = false := by rfl) :
    PS X (.Raise (some (.Call (.Name x p) (a :: es) [] pos)) none pos2) (fun _ σ H => W.hasX c → tMkX (W.cA c) (fs.map so) ta σ H fun cls d H' => E cls d σ H') :=
  ps_imp hx (ps_raise hc tk (pmk_x D hr ha hg hd he hpl))
theorem px_isX {a : Addr} {oe : Obj} {cls : Value} {dd : Option Addr} {pn : List (Addr × Obj)} {e ce : Expr} {te : TE} {p1 pos : Pos} {c : Bool × String} (hz : Zc cls dd oe) (hf : ∃ vs, oe.data = .fields vs) (hm : X.mg "isinstance" = none) (hok : clsXOk W c) (hE : PE (X.suite a ((a, oe) :: pn)) e te)
    (hC : PE (X.suite a ((a, oe) :: pn)) ce (tC (clsV W c))) (hg : Gl (X.suite a ((a, oe) :: pn)) "isinstance" := by rfl)
    (hs : starEach [e, ce] X.env = (false, eval e X.env) :: starEach [ce] X.env := by rfl) (hs2 : starEach [ce] X.env = (false, eval ce X.env) :: starEach [] X.env := by rfl)
    (hpl : (backTo pos (starEach [ce] X.env)).any (·.1) = false := by rfl) :
    PE (X.suite a ((a, oe) :: pn)) (.Call (.Name "isinstance" p1) [e, ce] [] pos) (fun σ H Q => clsXOk W c → tCB (rIsX X.K a cls dd) (tCons te (tCons (tC (clsV W c)) tNil)) σ H Q) :=
  pe_imp hok (pe_callB (X := X.suite a ((a, oe) :: pn)) (call_isX hz hf) hg hm (by decide +kernel) (pa_cons hE (pa_cons hC pa_nil hs2) hs) (he := hs) (hpl := hpl))
theorem px_isXT {a : Addr} {oe : Obj} {cls : Value} {dd : Option Addr} {pn : List (Addr × Obj)} {e : Expr} {es : List Expr} {te : TE} {p1 p2 pos : Pos} {kk : Nat} {cs : List (Bool × String)} (hz : Zc cls dd oe) (hf : ∃ vs, oe.data = .fields vs) (hm : X.mg "isinstance" = none) (hok : ∀ c ∈ cs, clsXOk W c) (hl : cs.length ≤ 100) (hE : PE (X.suite a ((a, oe) :: pn)) e te)
    (hC : PA (X.suite a ((a, oe) :: pn)) es (tCls W cs)) (hg : Gl (X.suite a ((a, oe) :: pn)) "isinstance" := by rfl)
    (hs : starEach [e, .Tuple es kk p2] X.env = (false, eval e X.env) :: starEach [.Tuple es kk p2] X.env := by rfl) (hs2 : starEach [.Tuple es kk p2] X.env = (false, eval (.Tuple es kk p2) X.env) :: starEach [] X.env := by rfl)
    (hpl : (backTo pos (starEach [.Tuple es kk p2] X.env)).any (·.1) = false := by rfl) (hplE : (starEach es X.env).any (·.1) = false := by rfl) :
    PE (X.suite a ((a, oe) :: pn)) (.Call (.Name "isinstance" p1) [e, .Tuple es kk p2] [] pos) (fun σ H Q => (∀ c ∈ cs, clsXOk W c) → cs.length ≤ 100 → tCB (rIsX X.K a cls dd) (tCons te (tCons (tTup (tCls W cs)) tNil)) σ H Q) :=
  pe_imp hok (pe_imp hl (pe_callB (X := X.suite a ((a, oe) :: pn)) (call_isX hz hf) hg hm (by decide +kernel) (pa_cons hE (pa_cons (pe_tup hC) pa_nil hs2) hs) (he := hs) (hpl := hpl)))
theorem exd_no {P : Program} {K : PySem.W.Frag} {mg : Str → Option Value} {x : Str} {C : Addr} {fs : List Str} (D : ExcD P K mg x C fs) {f : Str} (h : f ∈ fs) : PySem.W.findIn K (.ref C) f = some none := by
  obtain ⟨_, _, _, _, _, T, _⟩ := D.ex
  exact T.noN f h
theorem px_xf {c f : String} {fs : List String} {x : Str} {a : Addr} {oe : Obj} {cls : Value} {dd : Option Addr} {pn : List (Addr × Obj)} {e : Expr} {te : TE} {pos : Pos} (D : ExcD X.prog X.K X.mg x (W.cA c) (fs.map so)) (hx : W.hasX c) (hK : W.K = X.K) (hm : f ∈ fs)
    (hz : Zc cls dd oe) (hf : ∃ vs, oe.data = .fields vs) (he : PE (X.suite a ((a, oe) :: pn)) e te) (hb : attributeBase e (so f) X.env (eval e X.env) = eval e X.env := by rfl) :
    PE (X.suite a ((a, oe) :: pn)) (.Attribute e (so f) pos) (tXf a cls dd (W.cA c) (so f) te) := by
  have q := W.xc c hx
  rw [hK] at q
  exact pe_xf ⟨q.hg, q.hk, q.hs, q.hd⟩ (exd_no D (List.mem_map_of_mem hm)) hz hf he hb
theorem cx_tk {P : Program} {w : World} {K : PySem.W.Frag} {mg : Str → Option Value} {base : Heap} {N : List Str} {qual : Str} {sc : Scope} {f : Addr} {cdv : Value} {A : Around} {outer : List PySem.Env} {s : Shared} {H : Hp} {E : XK} :
    Takes (cxOf (L2.CX P w) P w K mg base N qual sc f cdv A outer s H E) (fun c d _ H => E c d H) := takes_of rfl rfl rfl rfl
theorem cx_po {P : Program} {w : World} {K : PySem.W.Frag} {mg : Str → Option Value} {base : Heap} {N : List Str} {qual : Str} {sc : Scope} {f : Addr} {cdv : Value} {A : Around} {outer : List PySem.Env} {s : Shared} {H : Hp} {E : XK} :
    PassesOwn (model P w) (cxOf (L2.CX P w) P w K mg base N qual sc f cdv A outer s H E).A (cxOf (L2.CX P w) P w K mg base N qual sc f cdv A outer s H E).env (cxOf (L2.CX P w) P w K mg base N qual sc f cdv A outer s H E).xe := passes_of (X := cxOf (L2.CX P w) P w K mg base N qual sc f cdv A outer s H E) rfl
/-- a property's getter -/
theorem pw_of {P : Program} {w : World} {K : PySem.W.Frag} {mg : Str → Option Value} {base : Heap} {x qual : Str} {st : Stmt} {N ps : List Str} {k : Nat} {sp : Sp} {f : Addr} {fd : FuncData} (F : FunD K x qual (defArgs st) (defBody st) (defScope st) [] [] f fd) (S : FnScope N ps (defScope st)) (len : ∀ vs H Q E, sp vs H Q E → vs.length = ps.length)
    (hbody : ∀ (f : Addr) (cdv : Value) (A : Around) (outer : List PySem.Env) (s : Shared) (H : Hp) (vs : List V) (Q : VK) (E : XK), Room k (A.deeper (PyProof.Rows.envOfC qual (defScope st) s.heap.objs.size f cdv)) → sp vs H Q E →
      ∃ t, PSs (cxOf (L2.CX P w) P w K mg base N qual (defScope st) f cdv A outer s H E) (defBody st) t ∧ t { nx := fun _ H' => Q .non H', rt := Q } (L2.start N vs) H) : FnOk P w K mg base (L2.CX P w) (k + 1) f fd ps sp :=
  F.ok S len fun cdv A outer s H vs Q E hr h => hbody f cdv A outer s H vs Q E hr h
theorem spL_len {K : PySem.W.Frag} : ∀ vs H Q E, spL K vs H Q E → vs.length = 1 := fun vs H Q E h => by
  obtain ⟨_, _, rfl, _⟩ := h
  rfl
theorem boot_VE : bootBuiltins "ValueError" = some (.type "ValueError") := by decide +kernel
end
end Py

namespace Py
open PySem L2
def IteT (K : PySem.W.Frag) (a : Addr) : It :=
  ⟨fun i H => ∃ (xs : List V) (x : V), SqT K H a xs ∧ xs[i]? = some x, fun i H v H' => ∃ T x, v = .ref T ∧ H T = none ∧ H' = upd H T (.tup [.int (i : Nat), x]) ∧ ∀ xs, SqT K H a xs → xs[i]? = some x, fun i H => ∃ xs : List V, SqT K H a xs ∧ xs.length ≤ i⟩
theorem tup_ne_iter {h : Heap} {a it b : Addr} {xs} {i : Nat} (h1 : h.IsTuple a xs) (h2 : h.IsTupleIter it b i) : a ≠ it := by
  rintro rfl
  obtain ⟨o, e, c, d⟩ := h1
  obtain ⟨o', e', c', d'⟩ := h2
  rw [e] at e'; cases e'
  rw [c] at c'; exact absurd c' (by decide)
theorem tup_ne_enum {h : Heap} {a e b : Addr} {xs} {i : Int} {old : Value} (h1 : h.IsTuple a xs) (h2 : IsEnum h e b i old) : e ≠ a := by
  rintro rfl
  obtain ⟨o, e', c, d⟩ := h1
  have h2 : h.get? _ = some _ := h2
  rw [e'] at h2
  rw [Option.some.inj h2] at c
  have c : Value.type "enumerate" = Value.type "tuple" := c
  exact absurd c (by decide)
theorem turn_enumT {P : Program} {w : World} {K : PySem.W.Frag} {elts : List Expr} {kk : Nat} {tpos : Pos} (a e it : Addr) :
    Turn P w K (.Tuple elts kk tpos) (IteT K a) [e, it] e (fun i h => (∃ old, IsEnum h e it ((i : Nat) : Int) old) ∧ h.IsTupleIter it a i ∧ e ≠ it) where
  mem := by simp
  obj := fun i h st b hb => by
    obtain ⟨⟨old, he⟩, ⟨o, ho, hc, hd⟩, _⟩ := st
    have e' : b = e ∨ b = it := by simpa using hb
    rcases e' with z | z
    · rw [z]; exact ⟨_, he, fun v q => nomatch q⟩
    · rw [z]; exact ⟨o, ho, fun v q => by rw [hd] at q; cases q⟩
  keep := fun i h h' st k => let ⟨⟨old, he⟩, hi, hne⟩ := st; ⟨⟨old, k e (by simp) _ he⟩, hi.at fun o q => k it (by simp) o q, hne⟩
  item := by
    intro X hP hw hK hc i pins s σ H E I hf st hg
    subst hP hw hK
    obtain ⟨⟨old, he⟩, hit, hne⟩ := st
    obtain ⟨xs, x, hq, hx⟩ := hg
    obtain ⟨its, rv, p, hz⟩ := I.tuple hq
    have p' : s.heap.IsTuple a its.toArray := p
    obtain ⟨u0, hu0, ru0⟩ := rv.get hx
    have hlen : i < its.toArray.size := by
      have := (List.getElem?_eq_some_iff.mp hu0).1
      simpa using this
    have hel : e < s.heap.objs.size := Heap.lt_size he
    have hil : it < s.heap.objs.size := by obtain ⟨_, q, _⟩ := hit; exact Heap.lt_size q
    refine wpAny_pyNext_enum_itemD (Draws.tuple (A := X.A.in1) (I.ok.hd hc) it a (tup_ne_iter p' hit) its.toArray) he ⟨hit, p'⟩ hlen hne (by
      have := tup_ne_enum p' he
      simp [hne, this]) fun u h' tk hu ho st' hT hsz hk => ?_
    have hu' : its[i]? = some u := by simpa using hu
    rw [hu0] at hu'; cases hu'
    obtain ⟨hit', _⟩ := st'
    refine ⟨_, rfl, wpAny_letOwnedTupleGo_enum (s := { s with heap := h', toks := tk + 1 }) ho fun h'' he' sb => ?_⟩
    have hT2 : h''.get? s.heap.objs.size = some { cls := .type "tuple", data := .seq #[.int i tk, u0] } := (sb.2 _ (Nat.ne_of_gt hel)).trans hT
    have new : ObjOk X.prog X.w (upd H s.heap.objs.size (.tup [.int (i : Nat), x])) h'' s.heap.objs.size (.tup [.int (i : Nat), x]) :=
      ⟨by show 2 ≤ sizeLine; decide, [.int i tk, u0], .cons ⟨_, rfl⟩ (.cons ru0 .nil), ⟨_, hT2, rfl, _, rfl⟩⟩
    have I1 : Inv X pins σ (upd H s.heap.objs.size (.tup [.int (i : Nat), x])) { s with heap := h'', toks := tk + 1 } :=
      I.turnedNew (ch := [e, it]) (fun b ob hb q => (sb.2 b (fun z => hb (by simp [z]))).trans (hk b ob (fun z => hb (by simp [z])) (fun z => hb (by simp [z])) q)) hf (Nat.le_refl _) new
    refine ⟨.ref s.heap.objs.size, _, I1, rfl, ⟨_, x, rfl, I.hok.fresh (Nat.le_refl _), rfl, fun ys hy => by rw [I.tuple_inj hy hq]; exact hx⟩, ⟨⟨u0, ?_⟩, hit'.at fun o q => (sb.2 it (Ne.symm hne)).trans q, hne⟩, fun b hb => ?_⟩
    · have e1 : ((i + 1 : Nat) : Int) = (i : Int) + 1 := by omega
      rw [e1]; exact he'
    · have hb' : b < s.heap.objs.size := by
        have e' : b = e ∨ b = it := by simpa using hb
        rcases e' with z | z
        · rw [z]; exact hel
        · rw [z]; exact hil
      rw [upd_ne (Nat.ne_of_lt hb')]
      exact (hf b hb).1
  done := by
    intro X hP hw hK hc i pins s σ H E I hf st hg
    subst hP hw hK
    obtain ⟨⟨old, he⟩, hit, hne⟩ := st
    obtain ⟨xs, hq, hx⟩ := hg
    obtain ⟨its, rv, p, hz⟩ := I.tuple hq
    have p' : s.heap.IsTuple a its.toArray := p
    obtain ⟨f0, f1, f2, f3, f4, f5⟩ := hf it (by simp)
    have hl := rv.length
    have hnx : its.toArray[i]? = none := by simp; omega
    have D : Draws X.prog X.w X.A.in1 it [it, a] 0 (fun _ _ => True) (fun _ h => h.IsTupleIter it a i ∧ h.IsTuple a its.toArray) := {
      live := fun _ _ st => let ⟨o, ho, _⟩ := st.1; ⟨o, ho⟩
      frame := fun _ _ _ st hk => ⟨st.1.at fun o e => hk it (by simp) o e, st.2.at fun o e => hk a (by simp) o e⟩
      item := fun j s Q E hi st hQ => absurd hi (Nat.not_lt_zero j)
      done := fun s Q E st hE => wpAny_nextOf_tuple_end (I.ok.hd hc) st.1 st.2 hnx hE }
    exact wpAny_pyNext_enum_endD D he ⟨hit, p'⟩ fun h' eb => ⟨rfl, I.turned (t' := s.toks) (fun b o hb q => eb b o hb q) f0 f1 f3 f4 f5⟩
  self := fun A i s Q E st h => let ⟨⟨_, he⟩, _⟩ := st; wpAny_pyIter_enum he h
def iEnumT (K : PySem.W.Frag) (ta : TA) : TI := fun σ H R => ta σ H fun vs H1 => ∃ a xs, vs = [.ref a] ∧ SqT K H1 a xs ∧ R (IteT K a) H1
theorem pi_enumT {X : Cx} {e : Expr} {ta : TA} {p pos tpos : Pos} {elts : List Expr} {kk : Nat} (hg : Gl X "enumerate") (hm : X.mg "enumerate" = none) (ha : PA X [e] ta) (hs : starEach [e] X.env = [(false, eval e X.env)] := by rfl) :
    PI X (.Tuple elts kk tpos) (.Call (.Name "enumerate" p) [e] [] pos) (iEnumT X.K ta) := by
  refine ⟨fun pins s σ H R I h => ?_⟩
  refine PyProof.Rows.Call_ (ld_blt I hg hm PyProof.Rows.boot_enumerate (PyProof.Rows.callWith_type1 (thn (ha.run pos pins s σ H _ I h) fun us s1 ⟨vs, H1, I1, r1, q1⟩ => ?_) hs rfl))
  obtain ⟨a, xs, ex, hq, q⟩ := q1
  subst ex
  cases r1 with
  | cons r rr =>
    cases rr
    cases r
    obtain ⟨its, rv, p', hz⟩ := I1.tuple hq
    have p2 : s1.heap.IsTuple a its.toArray := p'
    refine call_en ?_
    refine wpAny_pyIter_tuple p2 ?_
    refine ⟨_, rfl, fun h' he hsz hk => wpAny_pyIter_enum he ?_⟩
    generalize hh2 : s1.heap.push { cls := .type "tuple_iterator", data := .fields #[.ref a, .int 0 0] } = h2 at he hsz hk ⊢
    have hk2 : ∀ b o, s1.heap.get? b = some o → h2.get? b = some o := fun b o q => by rw [← hh2]; exact Heap.get?_push_of_some _ q
    have hz2 : h2.objs.size = s1.heap.objs.size + 1 := by rw [← hh2]; exact Heap.size_push ..
    have hit : h2.IsTupleIter s1.heap.objs.size a 0 := ⟨_, by rw [← hh2]; exact Heap.get?_push_size _ rfl, rfl, rfl⟩
    have I2 : Inv X pins σ H1 { s1 with heap := h' } := I1.kept (t' := s1.toks) fun b o q => hk b o (hk2 b o q)
    refine ⟨h2.objs.size, [h2.objs.size, s1.heap.objs.size], _, _, H1, rfl, I2, turn_enumT a h2.objs.size s1.heap.objs.size, ⟨⟨.none, he⟩, hit.at fun o q => hk _ _ q, by rw [hz2]; exact Nat.succ_ne_self _⟩, fun b hb => ?_, q⟩
    have e' : b = h2.objs.size ∨ b = s1.heap.objs.size := by simpa using hb
    have hle : s1.heap.objs.size ≤ b := by
      rcases e' with z | z
      · rw [z, hz2]; exact Nat.le_add_right _ _
      · rw [z]; exact Nat.le_refl _
    exact I1.fpOk hle (I1.hok.fresh hle)
theorem seq_enumT {T : Tbl} {W : Wd T} {F0 : Hp} {a : Addr} {ds : List D} {vs : List V} (h : F0 a = some (.tup vs)) (hs : Shrs W F0 ds vs) : Seq W (IteT W.K a) (enumD ds) F0 where
  go := fun i d F H s1 s2 hd => by
    obtain ⟨y, hy, rfl⟩ := enumD_get hd
    obtain ⟨w, hw, sw⟩ := hs.get hy
    refine ⟨⟨vs, w, .of (s2 _ _ (s1 _ _ h)), hw⟩, fun x H' yl => ?_⟩
    obtain ⟨T, y', rfl, hT', rfl, hy'⟩ := yl
    have := hy' vs (.of (s2 _ _ (s1 _ _ h)))
    rw [hw] at this; cases this
    exact ⟨_, .new s2 hT', .tup upd_same (.cons .int (.cons ((sw.mono s1).mono (same_new (s2.free hT'))) .nil))⟩
  stop := fun F H s1 s2 => ⟨vs, .of (s2 _ _ (s1 _ _ h)), by rw [enumD_length, hs.length]; exact Nat.le_refl _⟩
theorem ait_enumT {T : Tbl} {W : Wd T} {t : TE} {env : Py.Env} {ds : List D} (h : AE W t env (rF W (.tup ds))) : AIt W (iEnumT W.K (tCons t tNil)) env (enumD ds) := fun e F σ H L R r q =>
  h e F σ H L _ r fun v F1 H1 x1 y1 => by
    cases y1 with
    | tup hF hS => exact ⟨_, _, rfl, .of (x1.s _ _ hF), q _ F1 H1 x1 (seq_enumT hF hS)⟩
section
variable {T : Tbl} {W : Wd T}
def enTI (T : Tbl) : D → Option (List D)
  | .tup xs => some (enumD xs)
  | d => enFI T d
theorem enTI_cases {d : D} {ds : List D} (h : enTI T d = some ds) : (∃ xs, d = .tup xs ∧ ds = enumD xs) ∨ enFI T d = some ds := by
  unfold enTI at h
  split at h
  · exact .inl ⟨_, rfl, (Option.some.inj h).symm⟩
  · exact .inr h
def xiEnumT (a : XP W) : XI W where
  t := fun σ H R => (xiEnumU a).t σ H R ∨ iEnumT W.K (tCons a.t tNil) σ H R
  evF env := (a.evF env).bind (enTI T)
  evP env := (xiEnumU a).evP env
  sF := fun {env ds} e => by
    obtain ⟨d, e1, e⟩ := Option.bind_eq_some_iff.mp e
    rcases enTI_cases e with ⟨xs, rfl, rfl⟩ | h
    · exact fun e' F σ H L R r q => .inr (ait_enumT (a.sF e1) e' F σ H L R r q)
    · exact fun e' F σ H L R r q => .inl ((xiEnumU a).sF (show (a.evF env).bind (enFI T) = some ds by rw [e1]; exact h) e' F σ H L R r q)
  sP := fun {env ds} e => fun e' F σ H L R r q => .inl ((xiEnumU a).sP e e' F σ H L R r q)
end
end Py

namespace Py
open PySem L2
mutual
def oNl : D → Bool
  | .olst xs => oNls xs
  | .odic _ xs => oNls xs
  | .odit _ xs => oNls xs
  | .oins _ _ xs => oNls xs
  | .tup xs => oNls xs
  | .dic _ xs => oNls xs
  | .dit _ xs => oNls xs
  | .ins _ _ xs => oNls xs
  | .non | .bl _ | .int _ | .str _ | .cls _ => true
  | _ => false
def oNls : List D → Bool
  | [] => true
  | d :: ds => oNl d && oNls ds
end
theorem oNls_all : ∀ {ds : List D}, (∀ d ∈ ds, oNl d = true) → oNls ds = true
  | [], _ => by rw [oNls]
  | d :: ds, h => by rw [oNls, h d (by simp), oNls_all fun x m => h x (List.mem_cons_of_mem _ m)]; rfl
section
variable {T : Tbl} {W : Wd T}
theorem keep_at {F F' : Hp} (hF : ∀ b o, F b = some o → F' b = some o ∨ ∃ vs, o = .lst vs) {b : Addr} {o : HO} (h : F b = some o) (hn : ∀ vs, o ≠ .lst vs) : F' b = some o :=
  (hF b o h).elim id fun ⟨vs, e⟩ => absurd e (hn vs)
theorem keep_rd {F F' : Hp} (hF : ∀ b o, F b = some o → F' b = some o ∨ ∃ vs, o = .lst vs) {b : Addr} {u : HO} (h : Rd F b u) (hn : ∀ vs, u ≠ .lst vs) : Rd F' b u :=
  h.elim (fun h => .inl (keep_at hF h hn)) fun ⟨o, h⟩ => .inr ⟨o, keep_at hF h fun _ z => nomatch z⟩
mutual
theorem Shr.unl {F F' : Hp} (hF : ∀ b o, F b = some o → F' b = some o ∨ ∃ vs, o = .lst vs) : ∀ {d : D} {v : V}, Shr W F d v → oNl d = true → Shr W F' d v
  | _, _, .non, _ => .non
  | _, _, .bl, _ => .bl
  | _, _, .int, _ => .int
  | _, _, .str, _ => .str
  | _, _, .cls h, _ => .cls h
  | _, _, .sei h n, e => by simp [oNl] at e
  | _, _, .scr h, e => by simp [oNl] at e
  | _, _, .tup h hs, e => .tup (keep_at hF h fun _ z => nomatch z) (Shrs.unl hF hs (by rw [oNl] at e; exact e))
  | _, _, .lst h hs, e => by simp [oNl] at e
  | _, _, .dic h l n hs, e => .dic (keep_rd hF h fun _ z => nomatch z) l n (Shrs.unl hF hs (by rw [oNl] at e; exact e))
  | _, _, .dit h l n hs, e => .dit (keep_rd hF h fun _ z => nomatch z) l n (Shrs.unl hF hs (by rw [oNl] at e; exact e))
  | _, _, .dig h k l hs, e => by simp [oNl] at e
  | _, _, .ins h c l hs, e => .ins (keep_at hF h fun _ z => nomatch z) c l (Shrs.unl hF hs (by rw [oNl] at e; exact e))
theorem Shrs.unl {F F' : Hp} (hF : ∀ b o, F b = some o → F' b = some o ∨ ∃ vs, o = .lst vs) : ∀ {d : List D} {v : List V}, Shrs W F d v → oNls d = true → Shrs W F' d v
  | _, _, .nil, _ => .nil
  | _, _, .cons h t, e => by
    rw [oNls, Bool.and_eq_true] at e
    exact .cons (Shr.unl hF h e.1) (Shrs.unl hF t e.2)
end
mutual
theorem Own.unl {F F' H : Hp} (hF : ∀ b o, F b = some o → F' b = some o ∨ ∃ vs, o = .lst vs) : ∀ {d : D} {v : V} {L : List Addr}, Own W F H d v L → oNl d = true → Own W F' H d v L
  | _, _, _, .sh h, e => .sh (h.unl hF e)
  | _, _, _, .olst h t, e => .olst h (Owns.unl hF t (by rw [oNl] at e; exact e))
  | _, _, _, .odic h l n t, e => .odic h l n (Owns.unl hF t (by rw [oNl] at e; exact e))
  | _, _, _, .odit h l n t, e => .odit h l n (Owns.unl hF t (by rw [oNl] at e; exact e))
  | _, _, _, .odig h k l t, e => by simp [oNl] at e
  | _, _, _, .oins h c l t, e => .oins h c l (Owns.unl hF t (by rw [oNl] at e; exact e))
theorem Owns.unl {F F' H : Hp} (hF : ∀ b o, F b = some o → F' b = some o ∨ ∃ vs, o = .lst vs) : ∀ {d : List D} {v : List V} {L : List Addr}, Owns W F H d v L → oNls d = true → Owns W F' H d v L
  | _, _, _, .nil, _ => .nil
  | _, _, _, .cons h t, e => by
    rw [oNls, Bool.and_eq_true] at e
    exact .cons (Own.unl hF h e.1) (Owns.unl hF t e.2)
end
/-- the shared part with the lent list, and without it -/
theorem lend_on {F1 H1 : Hp} {a : Addr} {vs : List V} (s : Same F1 H1) (ha : H1 a = some (.lst vs)) : Same F1 (upd F1 a (.lst vs)) ∧ Same (upd F1 a (.lst vs)) H1 := by
  constructor
  · intro b o h
    by_cases e : b = a
    · subst e
      have := s _ _ h
      rw [ha] at this
      rw [upd_same, this]
    · rw [upd_ne e]; exact h
  · intro b o h
    by_cases e : b = a
    · subst e
      rw [upd_same] at h
      rw [← h]; exact ha
    · rw [upd_ne e] at h; exact s _ _ h
def offA (a : Addr) (F1 F : Hp) : Hp := fun b => if b = a then F1 a else F b
theorem lend_off {F1 H1 F3 H3 : Hp} {a : Addr} {vs : List V} {d : D} {v : V} (s : Same F1 H1) (ha : H1 a = some (.lst vs)) (x : Ext (upd F1 a (.lst vs)) H1 F3 H3) (y : rO W d F3 H3 H1 v) (hn : oNl d = true) :
    ∃ F', Ext F1 H1 F' H3 ∧ rO W d F' H3 H1 v := by
  have h3 : F3 a = some (.lst vs) := x.f _ _ upd_same
  have off_ne : ∀ {b}, b ≠ a → offA a F1 F3 b = F3 b := fun {b} e => if_neg e
  have off_eq : offA a F1 F3 a = F1 a := if_pos rfl
  refine ⟨offA a F1 F3, ⟨fun b o h => ?_, fun b o h => ?_, x.h, fun b o h => ?_⟩, ?_⟩
  · by_cases e : b = a
    · subst e; rw [off_eq]; exact h
    · rw [off_ne e]; exact x.f _ _ (by rw [upd_ne e]; exact h)
  · by_cases e : b = a
    · subst e; rw [off_eq] at h; exact x.h _ _ (s _ _ h)
    · rw [off_ne e] at h; exact x.s _ _ h
  · by_cases e : b = a
    · subst e; rw [off_eq] at h; exact .inl h
    · rw [off_ne e] at h
      rcases x.n b o h with z | z
      · rw [upd_ne e] at z; exact .inl z
      · exact .inr z
  · obtain ⟨L, o, nd, k⟩ := y
    refine ⟨L, o.unl (fun b o h => ?_) hn, nd, fun b m => ⟨(k b m).1, ?_⟩⟩
    · by_cases e : b = a
      · subst e; rw [h3] at h; exact .inr ⟨vs, (Option.some.inj h).symm⟩
      · rw [off_ne e]; exact .inl h
    · have e : b ≠ a := fun e => by have := (k b m).2; rw [e, h3] at this; cases this
      rw [off_ne e]; exact (k b m).2
def ofB (o : Option D) : Option (Kd × D) := o.bind fun d => if oNl d = true then some (.fr, d) else none
theorem ofB_ok {o : Option D} {k : Kd} {d : D} (h : ofB o = some (k, d)) : o = some d ∧ oNl d = true ∧ k = .fr := by
  obtain ⟨x, e1, e⟩ := Option.bind_eq_some_iff.mp h
  obtain ⟨e2, e⟩ := ite_some e
  cases e
  exact ⟨e1, e2, rfl⟩
def lentE (φ : Sem) (c ini : String) (n : Nat) (o : Option (List D)) : Option (Kd × D) := match o with
  | some xs => ofB (mk1 φ c ini n [.lst xs])
  | none => none
/-- C(xs) -/
def xMakeB (φ : Sem) (c ini : String) (n : Nat) (x : XP W) : XP W where
  t := (xMake φ c ini n (xaCons x (xaNil W)) [] [] (fun _ => .nil)).t
  ev env := orI (lentE φ c ini n (ownL (x.evK env))) ((xMake φ c ini n (xaCons x (xaNil W)) [] [] (fun _ => .nil)).ev env)
  snd := fun {env k d} e => by
    rcases orI_ok e with e | e
    · unfold lentE at e
      split at e
      · rename_i xs e1
        obtain ⟨e2, hf, rfl⟩ := ofB_ok e
        obtain ⟨e3, hsh⟩ := ownL_ok e1
        refine fun e' F σ H L Q r q hc => x.sK e3 e' F σ H L _ r fun w F1 H1 x1 ⟨M, o⟩ z dx hx hdx ne => ?_
        cases o with
        | sh y => cases y
        | @olst a _ vs M' ha hs =>
          have hS : Shrs W F1 xs vs := hs.shrs hsh
          obtain ⟨s1, s2⟩ := lend_on x1.s ha
          have y2 : Shrs W (upd F1 a (.lst vs)) [.lst xs] [.ref a] := .cons (.lst upd_same (hS.mono s1)) .nil
          show spR W n (φ ini) (some 0) (.ref z :: ([.ref a] ++ [])) _ _ E0
          rw [List.append_nil]
          refine makeF s2 y2 hc e2 (fun v F3 H3 x3 y3 => ?_) z dx hx hdx ne
          obtain ⟨F', x4, y4⟩ := lend_off x1.s ha x3 y3 hf
          exact q v F' H3 (x1.trans x4) (rO_back x1.h y4)
      · cases e
    · exact (xMake φ c ini n (xaCons x (xaNil W)) [] [] (fun _ => .nil)).snd e
end
end Py

namespace Py
open PySem L2
section
variable {T : Tbl} {W : Wd T}
def xAndO (φ : Sem) (a b : XP W) : XP W where
  t := tOp (fun x y H Q => False ∨ rOwn W φ "__and__" (gSame W) x y H Q) a.t b.t
  ev env := ownEF T φ "__and__" okSame (a.evF env) (b.evF env) (a.evV env) (b.evV env)
  snd := fun {env k d} e => own_snd (r := fun x y H Q => False) okG_same a b e
theorem pe_andO {X : Cx} {k : Nat} {φ : Sem} {a b : Expr} {ta tb : TE} {pos : Pos} (D : Dun W) (M : Mt X.prog X.w X.K X.mg X.base W k "__and__" 2 φ none) (hr : Room k X.A) (hK : W.K = X.K) (ha : PE X a ta) (hb : PE X b tb) :
    PE X (.BinOp a .BitAnd b pos) (tOp (fun x y H Q => False ∨ rOwn W φ "__and__" (gSame W) x y H Q) ta tb) :=
  pe_op (OpR.or (fun _ _ _ _ _ _ _ _ _ _ _ _ z => z.elim) (op_binOwn D M hr hK)) ha hb
end
end Py

namespace Py
open PySem L2 PyProof.Rows
def rMkSet (K : PySem.W.Frag) (w : World) : List V → Hp → VK → Prop := fun vs H Q => ∃ (l : Addr) (ns : List Int), vs = [.ref l] ∧ SqL K H l (ns.map V.int) ∧ ns.length < 64 ∧
  ∀ (a : Addr) (n : Nat), H a = none → n ≤ ns.length → Q (.ref a) (upd H a (SetO w a (fun j => decide (j ∈ ns)) n))
theorem call_setI {X : Cx} (hc : X.calm = true) : CallR X (.type "set") (rMkSet X.K X.w) := by
  intro pins s σ H vs us Q I r h
  obtain ⟨l, ns, rfl, hl, hb, q⟩ := h
  rw [Vals.ref1 r]
  obtain ⟨its, rv, p, hz⟩ := I.list hl
  refine set_of_list ns (I.ok.hd hc) p.isList (by simpa using intsAre_of rv) (by unfold scanBound; omega) fun h' tk c R hcn hk => ?_
  have hn : H s.heap.objs.size = none := I.hok.fresh (Nat.le_refl _)
  exact ⟨.ref _, upd H s.heap.objs.size (SetO X.w s.heap.objs.size (fun j => decide (j ∈ ns)) c), I.laid (t' := tk) hk (Nat.le_refl _) (setO_new R), rfl, q _ c hn hcn⟩
/-- put in its place, unless it is there -/
def insU (i : Int) : List Int → List Int
  | [] => [i]
  | x :: xs => if i < x then i :: x :: xs else if i = x then x :: xs else x :: insU i xs
def ssI : List Int → List Int
  | [] => []
  | x :: xs => insU x (ssI xs)
theorem insU_mem {i : Int} : ∀ {xs : List Int} {k : Int}, k ∈ insU i xs ↔ k = i ∨ k ∈ xs
  | [], k => by simp [insU]
  | x :: xs, k => by
    unfold insU
    split
    · simp
    · split
      · rename_i h; subst h; simp
      · rw [List.mem_cons, insU_mem, List.mem_cons]
        constructor
        · rintro (h | h | h) <;> simp [h]
        · rintro (h | h | h) <;> simp [h]
theorem insU_sorted {i : Int} : ∀ {xs : List Int}, xs.Pairwise (· < ·) → (insU i xs).Pairwise (· < ·)
  | [], _ => by simp [insU]
  | x :: xs, h => by
    have h1 := List.pairwise_cons.mp h
    unfold insU
    split
    · rename_i hi
      refine List.pairwise_cons.mpr ⟨fun k hk => ?_, h⟩
      rcases List.mem_cons.mp hk with rfl | hk
      · exact hi
      · have := h1.1 k hk; omega
    · split
      · exact h
      · refine List.pairwise_cons.mpr ⟨fun k hk => ?_, insU_sorted h1.2⟩
        rcases insU_mem.mp hk with rfl | hk
        · omega
        · exact h1.1 k hk
theorem ssI_mem : ∀ {xs : List Int} {k : Int}, k ∈ ssI xs ↔ k ∈ xs
  | [], k => by simp [ssI]
  | x :: xs, k => by rw [ssI, insU_mem, ssI_mem, List.mem_cons]
theorem ssI_sorted : ∀ xs : List Int, (ssI xs).Pairwise (· < ·)
  | [] => .nil
  | x :: xs => insU_sorted (ssI_sorted xs)
theorem sorted_uniq : ∀ {xs ys : List Int}, xs.Pairwise (· < ·) → ys.Pairwise (· < ·) → (∀ k, k ∈ xs ↔ k ∈ ys) → xs = ys
  | [], [], _, _, _ => rfl
  | [], y :: ys, _, _, h => by have := (h y).mpr (by simp); simp at this
  | x :: xs, [], _, _, h => by have := (h x).mp (by simp); simp at this
  | x :: xs, y :: ys, hx, hy, h => by
    have hx1 := List.pairwise_cons.mp hx
    have hy1 := List.pairwise_cons.mp hy
    have e : x = y := by
      rcases List.mem_cons.mp ((h x).mp (by simp)) with e | m
      · exact e
      · rcases List.mem_cons.mp ((h y).mpr (by simp)) with e | m2
        · exact e.symm
        · have a := hy1.1 x m
          have b := hx1.1 y m2
          omega
    subst e
    rw [sorted_uniq hx1.2 hy1.2 fun k => ?_]
    constructor
    · intro m
      rcases List.mem_cons.mp ((h k).mp (List.mem_cons_of_mem _ m)) with e | m2
      · have := hx1.1 k m; omega
      · exact m2
    · intro m
      rcases List.mem_cons.mp ((h k).mpr (List.mem_cons_of_mem _ m)) with e | m2
      · have := hy1.1 k m; omega
      · exact m2
section
variable {T : Tbl} {W : Wd T}
def sosD (xs : List D) : Option (Kd × D) := (intsOf xs).bind fun ns => if ns.length < 64 then some (.fr, .olst ((ssI ns).map .int)) else none
/-- sorted(set(a)) -/
def xSortSet (a : XP W) : XP W where
  t := tCB (rSortedSet W.w) (tCons (tCB (rMkSet W.K W.w) (tCons a.t tNil)) tNil)
  ev env := ((a.evK env).bind lstOf).bind sosD
  snd := fun {env k d} e => by
    obtain ⟨xs, e0, e⟩ := Option.bind_eq_some_iff.mp e
    obtain ⟨d1, e1, e2⟩ := Option.bind_eq_some_iff.mp e0
    obtain ⟨ns, e3, e⟩ := Option.bind_eq_some_iff.mp e
    obtain ⟨hl, e⟩ := ite_some e
    cases e
    have := intsOf_ok e3
    subst this
    intro e' F σ H L Q r q
    refine a.sK e1 e' F σ H L _ r fun v F1 H1 x1 ⟨L1, o⟩ => ?_
    obtain ⟨b, vs, rfl, sh, hb⟩ := lstOf_ok x1.s o e2
    have := shrs_int sh
    subst this
    refine ⟨b, ns, rfl, .of hb, hl, fun S n hS hn => ⟨S, _, n, rfl, upd_same, by omega, fun ms p hpw hmem hlen hp => ?_⟩⟩
    have e4 : ms = ssI ns := sorted_uniq hpw (ssI_sorted ns) fun k => by rw [hmem, ssI_mem]; simp
    subst e4
    have x2 : Ext F1 H1 F1 (upd H1 S (SetO W.w S (fun j => decide (j ∈ ns)) n)) := .newH x1.s hS
    refine q _ F1 _ ((x1.trans x2).trans (.newH x2.s hp)) ⟨[p], .olst upd_same (shrs_ints (ssI ns)).owns, by simp, fun x m => ?_⟩
    rw [List.mem_singleton.mp m]
    exact ⟨(x1.trans x2).h.free hp, x2.s.free hp⟩
end
end Py

namespace Py
open PySem L2
section
variable {T : Tbl} {W : Wd T}
def onL (As : List Addr) (H F : Hp) : Hp := fun b => if b ∈ As then H b else F b
theorem onL_in {As : List Addr} {H F : Hp} {b : Addr} (h : b ∈ As) : onL As H F b = H b := if_pos h
theorem onL_out {As : List Addr} {H F : Hp} {b : Addr} (h : b ∉ As) : onL As H F b = F b := if_neg h
theorem onL_same {As : List Addr} {F H : Hp} (s : Same F H) : Same F (onL As H F) ∧ Same (onL As H F) H := by
  constructor
  · intro b o h
    by_cases e : b ∈ As
    · rw [onL_in e]; exact s _ _ h
    · rw [onL_out e]; exact h
  · intro b o h
    by_cases e : b ∈ As
    · rw [onL_in e] at h; exact h
    · rw [onL_out e] at h; exact s _ _ h
theorem offL {As : List Addr} {F1 H1 F3 H3 : Hp} {d : D} {v : V} (s : Same F1 H1) (hA : ∀ b ∈ As, ∃ ws, H1 b = some (.lst ws)) (x : Ext (onL As H1 F1) H1 F3 H3) (y : rO W d F3 H3 H1 v) (hn : oNl d = true) :
    ∃ F', Ext F1 H1 F' H3 ∧ rO W d F' H3 H1 v := by
  have h3 : ∀ b ∈ As, ∃ ws, F3 b = some (.lst ws) := fun b hb => by
    obtain ⟨ws, h⟩ := hA b hb
    exact ⟨ws, x.f _ _ (by rw [onL_in hb]; exact h)⟩
  refine ⟨onL As F1 F3, ⟨fun b o h => ?_, fun b o h => ?_, x.h, fun b o h => ?_⟩, ?_⟩
  · by_cases e : b ∈ As
    · rw [onL_in e]; exact h
    · rw [onL_out e]; exact x.f _ _ (by rw [onL_out e]; exact h)
  · by_cases e : b ∈ As
    · rw [onL_in e] at h; exact x.h _ _ (s _ _ h)
    · rw [onL_out e] at h; exact x.s _ _ h
  · by_cases e : b ∈ As
    · rw [onL_in e] at h; exact .inl h
    · rw [onL_out e] at h
      rcases x.n b o h with z | z
      · rw [onL_out e] at z; exact .inl z
      · exact .inr z
  · obtain ⟨L, o, nd, k⟩ := y
    refine ⟨L, o.unl (fun b o h => ?_) hn, nd, fun b m => ⟨(k b m).1, ?_⟩⟩
    · by_cases e : b ∈ As
      · obtain ⟨ws, h4⟩ := h3 b e
        rw [h4] at h; exact .inr ⟨ws, (Option.some.inj h).symm⟩
      · rw [onL_out e]; exact .inl h
    · have e : b ∉ As := fun e => by
        obtain ⟨ws, h4⟩ := h3 b e
        have := (k b m).2; rw [h4] at this; cases this
      rw [onL_out e]; exact (k b m).2
inductive Lents {T : Tbl} (W : Wd T) (F H : Hp) : List D → List V → List Addr → Prop
  | nil : Lents W F H [] [] []
  | sh {d v ds vs As} : Shr W F d v → Lents W F H ds vs As → Lents W F H (d :: ds) (v :: vs) As
  | le {a xs ws ds vs As} : H a = some (.lst ws) → Shrs W F xs ws → Lents W F H ds vs As → Lents W F H (.lst xs :: ds) (.ref a :: vs) (a :: As)
theorem Lents.ext {F H F' H' : Hp} (x : Ext F H F' H') : ∀ {ds : List D} {vs : List V} {As : List Addr}, Lents W F H ds vs As → Lents W F' H' ds vs As
  | _, _, _, .nil => .nil
  | _, _, _, .sh h t => .sh (h.mono x.f) (t.ext x)
  | _, _, _, .le h s t => .le (x.h _ _ h) (s.mono x.f) (t.ext x)
theorem Lents.lists {F H : Hp} : ∀ {ds : List D} {vs : List V} {As : List Addr}, Lents W F H ds vs As → ∀ b ∈ As, ∃ ws, H b = some (.lst ws)
  | _, _, _, .nil, b, m => nomatch m
  | _, _, _, .sh h t, b, m => t.lists b m
  | _, _, _, .le h s t, b, m => by
    rcases List.mem_cons.mp m with rfl | m
    · exact ⟨_, h⟩
    · exact t.lists b m
theorem Lents.shrs {F H : Hp} {Bs : List Addr} (s : Same F H) : ∀ {ds : List D} {vs : List V} {As : List Addr}, Lents W F H ds vs As → (∀ b ∈ As, b ∈ Bs) → Shrs W (onL Bs H F) ds vs
  | _, _, _, .nil, _ => .nil
  | _, _, _, .sh h t, k => .cons (h.mono (onL_same s).1) (t.shrs s k)
  | _, _, _, .le h u t, k => .cons (.lst (by rw [onL_in (k _ (List.mem_cons_self ..))]; exact h) (u.mono (onL_same s).1)) (t.shrs s fun b m => k b (List.mem_cons_of_mem _ m))
structure XB {T : Tbl} (W : Wd T) where
  t : TA
  ev : Py.Env → Option (List D)
  snd : ∀ {env ds}, ev env = some ds → ∀ (e : Ent) (F : Hp) (σ : St) (H : Hp) (L : List Addr) (Q : List V → Hp → Prop), Rel W e env F σ H L → (∀ vs F' H' As, Ext F H F' H' → Lents W F' H' ds vs As → Q vs H') → t σ H Q
def xbNil (W : Wd T) : XB W where
  t := tNil
  ev _ := some []
  snd := fun {env ds} e e' F σ H L Q r q => by
    cases e
    exact q [] F H [] (Ext.refl r.sF) .nil
def lendD : Option D → Option D
  | some (.olst xs) => if xs.all isSh = true then some (.lst xs) else none
  | some d => if isSh d = true then some d else none
  | none => none
theorem lendD_ok {o : Option D} {d : D} (h : lendD o = some d) : (∃ xs, o = some (.olst xs) ∧ xs.all isSh = true ∧ d = .lst xs) ∨ (o = some d ∧ isSh d = true) := by
  unfold lendD at h
  split at h
  · obtain ⟨h1, rfl⟩ := ite_some h
    exact .inl ⟨_, rfl, h1, rfl⟩
  · obtain ⟨h1, rfl⟩ := ite_some h
    exact .inr ⟨rfl, h1⟩
  · cases h
def xbCons (x : XP W) (b : XB W) : XB W where
  t := tCons x.t b.t
  ev env := (lendD (x.evK env)).bind fun d => (b.ev env).map (d :: ·)
  snd := fun {env ds} e e' F σ H L Q r q => by
    obtain ⟨d, e1, e⟩ := Option.bind_eq_some_iff.mp e
    obtain ⟨ds2, e2, rfl⟩ := Option.map_eq_some_iff.mp e
    rcases lendD_ok e1 with ⟨xs, e3, hx, rfl⟩ | ⟨e3, hs⟩
    · refine x.sK e3 e' F σ H L _ r fun v F1 H1 x1 ⟨M, o⟩ => b.snd e2 e' F1 σ H1 L _ (r.ext x1) fun vs F2 H2 As x2 y2 => ?_
      cases o with
      | sh y => cases y
      | @olst a _ ws M' ha hs =>
        exact q _ F2 H2 _ (x1.trans x2) (.le (x2.h _ _ ha) ((hs.shrs hx).mono x2.f) y2)
    · refine x.sK e3 e' F σ H L _ r fun v F1 H1 x1 ⟨M, o⟩ => b.snd e2 e' F1 σ H1 L _ (r.ext x1) fun vs F2 H2 As x2 y2 => ?_
      exact q _ F2 H2 _ (x1.trans x2) (.sh ((o.shr hs).mono x2.f) y2)
/-- f(..) -/
def xCallB (φ : List D → Option Nat → Rz) (n : Nat) (as : XB W) : XP W where
  t := tCall (spR W n φ none) [] E0 as.t
  ev env := (as.ev env).bind fun ds => if ds.length = n then ofB (okD0 (φ ds none)) else none
  snd := fun {env k d} e => by
    obtain ⟨ds, e1, e⟩ := Option.bind_eq_some_iff.mp e
    obtain ⟨hl, e⟩ := if_some' e
    obtain ⟨e2, hf, rfl⟩ := ofB_ok e
    obtain ⟨b, h⟩ := okD0_ok e2
    refine fun e' F σ H L Q r q => as.snd e1 e' F σ H L _ r fun vs F1 H1 As x1 y1 => ?_
    show spR W n φ none (vs ++ []) H1 Q E0
    rw [List.append_nil]
    refine callF (onL_same (As := As) x1.s).2 (y1.shrs x1.s fun _ m => m) hl h fun v F3 H3 x3 y3 => ?_
    obtain ⟨F', x4, y4⟩ := offL x1.s y1.lists x3 y3 hf
    exact q v F' H3 (x1.trans x4) (rO_back x1.h y4)
end
end Py

namespace Py
open PySem L2 NdefX
/-- what the text says of a method of the class at D, at g, that says super() -/
structure SupT (P : Program) (K : PySem.W.Frag) (D g : Addr) (fd : FuncData) (cda cc : Addr) : Prop where
  look : ∃ oc od osl, K.lookup g = some ⟨oc, od, .func fd, osl⟩
  head : ∃ ar : Arg, (fd.params.posonlyargs ++ fd.params.args).head? = some ar ∧ ar.arg = ("self" : Str)
  code : ∃ ccl cdd vs ccs file tf, K.lookup cda = some ⟨ccl, cdd, .fields vs, ccs⟩ ∧ vs[2]? = some (.str file tf) ∧ ((P.main.file : Str) == file) = true
  cell : ∃ cl cld csl, K.lookup cc = some ⟨cl, cld, .cell (some (.ref D)), csl⟩
  dcl : ∃ cd, PySem.W.clsIn K D = some cd
  top : (P.main.scope.names.lookup ("super" : Str)).isSome = false
open PySem.W in
theorem wpAt_sup {X : Cx} {pins : List (Addr × Obj)} {σ : L2.St} {H : Hp} {s : Shared} {body : List Stmt} {fd : FuncData} {D g cda cc a C dx L g2 : Addr} {fs : List (Str × V)} {qual m : Str} {scope : Scope} {p0 p1 p2 p4 : Pos} {e : Expr} {es : List Expr} {t : TA} {k : Nat} {sp : Sp} {E : XK} {CX : CXT} {Q : VK} {pl : PySem.Sem Bool}
    (T : SupT X.prog X.K D g fd cda cc) (henv : X.env = ksEnv qual scope L g (.ref cda) cc) (hk : scope.kind = .function) (hsup : scope.names.lookup ("super" : Str) = some .globalImplicit) (hcl : scope.names.lookup ("__class__" : Str) = some .free) (hself : scope.names.lookup ("self" : Str) = some .local)
    (hms : X.mg "super" = none) (I : Inv X pins σ H s) (h0 : X.N[0]? = some ("self" : Str)) (hσ : σ[0]? = some (some (.ref a))) (ha : H a = some (.ins C dx fs))
    (hm : ks_superIn X.K C D m = some (some (.ref g2))) (ht : typeIn X.K (.ref g2) = some (.type "function")) (hsub : mroIn X.K C (.ref D) = some true) (opq : nsIn X.K cStatics "thirdparty.any" = some none) (hn : (m == ("__class__" : Str)) = false)
    (fi : fnIn X.K g2 = true) (F : FnR X.prog X.w X.K X.mg X.base CX k g2 sp) (hr : Room k X.A) (hx : Passes CX X E) (hA : PA X (e :: es) t)
    (hst : starEach (e :: es) X.env = (false, eval e X.env) :: starEach es X.env) (hpl : (backTo p4 (starEach es X.env)).any (·.1) = false)
    (hev : eval (.Call (.Attribute (.Call (.Name "super" p0) [] [] p1) m p2) (e :: es) [] p4) X.env = (do
      let ov ← attributeBase (.Call (.Name "super" p0) [] [] p1) m X.env (eval (.Call (.Name "super" p0) [] [] p1) X.env)
      standAt p2.atName
      let (f, first) ← holding [ov] (getMethod ov m pl)
      callWith p4 f first (backTo p4 (starEach (e :: es) X.env)) []))
    (q : t σ H fun vs H2 => sp (.ref a :: vs) H2 Q E) :
    wpAt (model X.prog X.w) X.A (.func body X.env) (eval (.Call (.Attribute (.Call (.Name "super" p0) [] [] p1) m p2) (e :: es) [] p4) X.env) (EP X pins σ Q) X.xe s := by
  obtain ⟨oc, od, osl, ho⟩ := T.look
  obtain ⟨ar, har, hars⟩ := T.head
  obtain ⟨ccl, cdd, vs, ccs, file, tf, hcode, hvs, hfile⟩ := T.code
  obtain ⟨cl, cld, csl, hcc⟩ := T.cell
  obtain ⟨cdD, hD⟩ := T.dcl
  have X1 := I.kIn
  obtain ⟨oD, hD1, hD2⟩ : ∃ oD, s.heap.get? D = some oD ∧ oD.data = .cls cdD := by
    unfold clsIn at hD
    split at hD
    · rename_i c d cd' sl hz
      cases hD
      exact ⟨_, X1 _ _ hz, rfl⟩
    · cases hD
  obtain ⟨ml, hns, hval⟩ := I.loc
  have hkind : X.env.scope = scope := by rw [henv]
  obtain ⟨u, ru, hlk⟩ := hval 0 _ _ h0 hσ (.inl (by rw [hkind]; exact hself))
  obtain rfl : u = Value.ref a := ru
  have hml : ml ("self" : Str) = some (.ref a) := by
    rcases hlk with ⟨_, z⟩ | ⟨z, _⟩
    · exact z
    · have z1 : X.env.kindOf "self" = scope.names.lookup ("self" : Str) := by rw [henv]; rfl
      rw [z1, hself] at z
      rcases z with z | z <;> cases z
  obtain ⟨mA, J, _⟩ := ins_get I.hok ha
  obtain ⟨od2, J, _⟩ := J.look
  obtain ⟨mb, hB, hmb⟩ := I.ok.mod.blt
  have hG := I.ok.mod.glob.keeps I.bk
  have hB2 := hB.keeps I.bk
  have kS : X.env.kindOf "super" = some .globalImplicit := by rw [henv]; exact hsup
  have kC : X.env.kindOf "__class__" = some .free := by rw [henv]; exact hcl
  have kL : X.env.kindOf "self" = some .local := by rw [henv]; exact hself
  have kK : X.env.scope.kind = .function := by rw [hkind]; exact hk
  have hn' : mainGlobals = X.env.globals := by rw [henv]
  have hb' : builtinsNs = X.env.builtins := by rw [henv]
  refine ks_wpAt_MethodCall (pl := pl) ?_ hev
  refine ks_wpAt_super_base (ar := ar) kS kC hn (by rw [henv]) (X1 _ _ ho) rfl har (by rw [henv]) (X1 _ _ hcode) rfl hvs hfile T.top ?_
  refine ks_loadName_global kK kS (PySem.Calls.loadGlobal_builtin (hn' ▸ hG) hms (hb' ▸ hB2) ((hmb _ (by decide)).trans (by decide +kernel)) ⟨rfl, ?_⟩)
  refine wpAny_loadName_free kK kC (by rw [henv]; rfl) ⟨_, X1 _ _ hcc, rfl⟩ ?_
  rw [hars]
  refine wpAny_loadName_local kK kL hns hml ?_
  obtain ⟨hh, gg, dd, tt, os⟩ := s
  refine ks_wpAny_isType_cls hD1 hD2 ⟨rfl, ?_⟩
  refine ks_wpAny_call_super hD1 hD2 J.at_ J.cls (fun c e => ?_) (looks_mroIn X1 hsub) (fun h2 e2 k2 => ?_)
  · have := J.no
    unfold notCls at this
    rw [e] at this
    exact Bool.noConfusion this
  have I2 : Inv X pins σ H ⟨h2, gg, dd, tt, os⟩ := I.kept (t' := tt) k2
  have X2 := I2.kIn
  cases hc : clsIn X.K C with
  | none => unfold ks_superIn at hm; rw [hc] at hm; cases hm
  | some cd =>
  unfold ks_superIn at hm
  rw [hc] at hm
  obtain ⟨of, hof, hofc⟩ : ∃ of, h2.get? g2 = some of ∧ of.cls = .type "function" := by
    have ht' : (X.K.lookup g2).map (·.cls) = some (.type "function") := ht
    cases z : X.K.lookup g2 with
    | none => rw [z] at ht'; cases ht'
    | some of => rw [z] at ht'; exact ⟨of, X2 _ _ z, Option.some.inj ht'⟩
  have hne : a ≠ C := ks_ne X1 J hc
  refine ks_wpAny_getMethod_super e2 (looks_opaque X2 opq) (l₀ := cd.mro) ?_ rfl X2 hm hof hofc hne hn ?_
  · exact fun A Q E s k q => wpAny_bind ((looks_clsIn X2 hc) A _ E s k (wpAny_pure q))
  have I3 : Inv X ((h2.objs.size, methodObj (.ref g2) (.ref a)) :: pins) σ H ⟨h2.push (methodObj (.ref g2) (.ref a)), gg, dd, tt + 1, os⟩ :=
    ClX.pin_new (t' := tt + 1) I2 (fun _ _ z => Heap.get?_push_of_some _ z) (Nat.le_refl _) (Heap.get?_push_size _ rfl) (fun v z => nomatch z)
  refine ClX.callwith_cm I3 (ClX.base_none I2 (Nat.le_refl _)) fi (thn (hA.run p4 _ _ σ H _ I3 q) fun us s3 ⟨vs, H2, I4, rv, q2⟩ => ⟨⟨ClX.pin_at I4, I4.kIn⟩, ?_⟩) hst hpl
  exact ClX.run_cm F hr hx I4 rv q2
section
variable {M : Model} {A : Around} {E : Value → Shared → Prop} {s : Shared} {env : PySem.Env} {c0 : Code}
theorem wpAt_or {e₁ e₂ : Expr} {rest : List Expr} {pos : Pos} {Q : Value → Shared → Prop}
    (h : wpAt M A c0 (eval e₁ env) (fun v s₁ => wpAny M A (truthy v) (fun c s₂ => if c then Q v s₂ else wpAny M A (eval (.BoolOp .Or (e₂ :: rest) pos) env) Q E s₂) E s₁) E s) :
    wpAt M A c0 (eval (.BoolOp .Or (e₁ :: e₂ :: rest) pos) env) Q E s := by
  show wpAt M A c0 (do
    let v ← eval e₁ env
    standAt pos
    let c ← holding [v] (truthy v)
    match BoolOp.Or, c with
    | .And, false | .Or, true => pure v
    | _, _ => boolOp pos .Or (eval e₂ env :: evalEach rest env)) Q E s
  refine wpAt_bind (wpAt_mono h (fun v s₁ h₁ => wpAt_of_wpAny (wpAny_bind (wpAny_standAt (wpAny_bind (wpAny_holding (wpAny_mono h₁ (fun c s₂ h₂ => ?_) fun _ _ x => x)))))) fun _ _ x => x)
  cases c with
  | false => exact h₂
  | true => exact wpAny_pure h₂
theorem wpAt_not {x : Expr} {pos : Pos} {Q : Value → Shared → Prop} (h : wpAt M A c0 (eval x env) (fun v s₁ => wpAny M A (truthy v) (fun c s' => Q (.bool (!c)) s') E s₁) E s) :
    wpAt M A c0 (eval (.UnaryOp .Not x pos) env) Q E s := by
  rw [PyProof.Rows.eval_UnaryOp]
  exact wpAt_bind (wpAt_mono h (fun v s₁ h₁ => wpAt_of_wpAny (wpAny_bind (wpAny_standAt (wpAny_holding (PyProof.Rows.not_of h₁))))) fun _ _ x => x)
end
def supF (φ : Sem) (r : String → Option String) (x y : D) : Rz := match x with
  | .ins c _ _ => match r c with
    | some nm => φ nm [x, y] none
    | none => .no
  | _ => .no
def orB (b : Bool) : Rz → Rz
  | .ok (.bl c) _ => .ok (.bl (c || !b)) none
  | _ => .no
def noB : Rz → Rz
  | .ok (.bl c) _ => .ok (.bl (!c)) none
  | _ => .no
/-- super().m(met) or not met -/
def runSupOr (φ : Sem) (r : String → Option String) : List D → Option Nat → Rz
  | [x, .bl b], none => orB b (supF φ r x (.bl b))
  | _, _ => .no
/-- not super().m(met) -/
def runSupNot (φ : Sem) (r : String → Option String) : List D → Option Nat → Rz
  | [x, .bl b], none => noB (supF φ r x (.bl b))
  | _, _ => .no
theorem supF_ok {φ : Sem} {r : String → Option String} {x y d : D} {bd : Option D} (h : supF φ r x y = .ok d bd) : ∃ c ns xs nm, x = .ins c ns xs ∧ r c = some nm ∧ φ nm [x, y] none = .ok d bd := by
  unfold supF at h
  split at h
  · split at h
    · exact ⟨_, _, _, _, rfl, by assumption, h⟩
    · cases h
  · cases h
theorem supOr_ok {φ : Sem} {r : String → Option String} {ds : List D} {bo : Option Nat} (h : runSupOr φ r ds bo ≠ .no) : ∃ x b c bd, ds = [x, .bl b] ∧ bo = none ∧ supF φ r x (.bl b) = .ok (.bl c) bd ∧ runSupOr φ r ds bo = .ok (.bl (c || !b)) none := by
  unfold runSupOr at h ⊢
  split at h
  · rename_i x b
    cases e : supF φ r x (.bl b) with
    | ok d bd =>
      rw [e] at h
      cases d <;> first | (exact absurd rfl h) | skip
      exact ⟨x, b, _, bd, rfl, rfl, e, by simp only [e, orB]⟩
    | exn => rw [e] at h; exact absurd rfl h
    | no => rw [e] at h; exact absurd rfl h
  · exact absurd rfl h
theorem supNot_ok {φ : Sem} {r : String → Option String} {ds : List D} {bo : Option Nat} (h : runSupNot φ r ds bo ≠ .no) : ∃ x b c bd, ds = [x, .bl b] ∧ bo = none ∧ supF φ r x (.bl b) = .ok (.bl c) bd ∧ runSupNot φ r ds bo = .ok (.bl (!c)) none := by
  unfold runSupNot at h ⊢
  split at h
  · rename_i x b
    cases e : supF φ r x (.bl b) with
    | ok d bd =>
      rw [e] at h
      cases d <;> first | (exact absurd rfl h) | skip
      exact ⟨x, b, _, bd, rfl, rfl, e, by simp only [e, noB]⟩
    | exn => rw [e] at h; exact absurd rfl h
    | no => rw [e] at h; exact absurd rfl h
  · exact absurd rfl h
def supE (m : Str) (p0 p1 p2 p3 p4 : Pos) : Expr := .Call (.Attribute (.Call (.Name "super" p0) [] [] p1) m p2) [.Name "met" p3] [] p4
def retE (isOr : Bool) (m : Str) (p0 p1 p2 p3 p4 p5 p6 p7 : Pos) : Expr := if isOr = true then .BoolOp .Or [supE m p0 p1 p2 p3 p4, .UnaryOp .Not (.Name "met" p5) p6] p7 else .UnaryOp .Not (supE m p0 p1 p2 p3 p4) p7
def combB (isOr c b : Bool) : Bool := if isOr = true then c || !b else !c
structure SupM (P : Program) (w : World) (K : PySem.W.Frag) (mg : Str → Option Value) (base : Heap) {T : Tbl} (W : Wd T) (k : Nat) (φ : Sem) (D : Addr) (m : Str) (r : String → Option String) : Prop where
  at_ : ∀ c nm, W.has c → r c = some nm → ∃ g2 fd2 ps2, PySem.W.ks_superIn K (W.cA c) D m = some (some (.ref g2)) ∧ PySem.W.typeIn K (.ref g2) = some (.type "function") ∧ PySem.W.mroIn K (W.cA c) (.ref D) = some true ∧ PySem.W.fnIn K g2 = true ∧
    FnOk P w K mg base (L2.CX P w) k g2 fd2 ps2 (spR W 2 (φ nm) none) ∧ Binds K fd2 ps2 []
abbrev nfOf (name qual : Str) (params : Arguments) (body : List Stmt) (scope : Scope) (cc cda : Addr) : NF := ⟨name, qual, params, body, scope, [("__class__", cc)], cda⟩
open PySem.W in
theorem fn_sup {P : Program} {w : World} {K : Frag} {mg : Str → Option Value} {base : Heap} {T : Tbl} {W : Wd T} {k : Nat} {φ : Sem} {φ' : List D → Option Nat → Rz} {D g cda cc : Addr} {isOr : Bool} {name qual m : Str} {params : Arguments} {scope : Scope} {doc pm ct : Value} {an : Option Addr}
    {p0 p1 p2 p3 p4 p5 p6 p7 p8 : Pos} {r : String → Option String}
    (T1 : SupT P K D g (ksFn name qual params [.Return (some (retE isOr m p0 p1 p2 p3 p4 p5 p6 p7)) p8] scope .none .none doc pm an (.ref cda) ct cc) cda cc)
    (hcd : codeIn K (.ref cda) qual = true) (S : NScope ["self", "met", "__class__"] ["self", "met"] ["__class__"] scope) (hsup : scope.names.lookup ("super" : Str) = some .globalImplicit)
    (hms : mg "super" = none) (opq : nsIn K cStatics "thirdparty.any" = some none) (hn : (m == ("__class__" : Str)) = false) (M : SupM P w K mg base W k φ D m r)
    (hφ : ∀ ds bo, φ' ds bo ≠ .no → ∃ x b c bd, ds = [x, .bl b] ∧ bo = none ∧ supF φ r x (.bl b) = .ok (.bl c) bd ∧ φ' ds bo = .ok (.bl (combB isOr c b)) none)
    (hev : ∀ (L : Addr), ∃ pl : PySem.Sem Bool, eval (supE m p0 p1 p2 p3 p4) (ksEnv qual scope L g (.ref cda) cc) = (do
      let ov ← attributeBase (.Call (.Name "super" p0) [] [] p1) m (ksEnv qual scope L g (.ref cda) cc) (eval (.Call (.Name "super" p0) [] [] p1) (ksEnv qual scope L g (.ref cda) cc))
      standAt p2.atName
      let (f, first) ← holding [ov] (getMethod ov m pl)
      callWith p4 f first (backTo p4 (starEach [.Name "met" p3] (ksEnv qual scope L g (.ref cda) cc))) []))
    (hst : ∀ (L : Addr), starEach [.Name "met" p3] (ksEnv qual scope L g (.ref cda) cc) = (false, eval (.Name "met" p3) (ksEnv qual scope L g (.ref cda) cc)) :: starEach [] (ksEnv qual scope L g (.ref cda) cc)) :
    FnOk P w K mg base (L2.CX P w) (k + 1) g (ksFn name qual params [.Return (some (retE isOr m p0 p1 p2 p3 p4 p5 p6 p7)) p8] scope .none .none doc pm an (.ref cda) ct cc) ["self", "met"] (spR W 2 φ' none) := by
  refine ⟨fun vs H Q E h => spR_len vs H Q E h, fun A outer s H args us vs Q E hr e0 hb r1 hsp => ?_⟩
  have hr' := hr
  obtain ⟨F, ds, L0, sF, hO, nd0, hF0, hl, hne, hok, hex⟩ := hsp
  obtain ⟨x, b, c, bd, rfl, _, hsu, hres⟩ := hφ ds none hne
  obtain ⟨cl, ns, xs, nm, rfl, hrc, hphi⟩ := supF_ok hsu
  have hsh : Shrs W F [.ins cl ns xs, .bl b] vs := hO.shrs rfl
  have hL0 : L0 = [] := by
    cases hO with
    | cons o1 o2 => cases o2 with
      | cons o2 o3 => cases o3; rw [o1.shNil rfl, o2.shNil rfl]; rfl
  subst hL0
  cases hsh with
  | cons y1 y2 => cases y2 with
    | cons y2 y3 =>
      cases y3
      cases y2
      obtain ⟨a, dx, ws, rfl, haF, hc⟩ := shr_ins y1
      have haH := sF _ _ haF
      cases r1 with
      | cons r1 r2 => cases r2 with
        | cons r2 r3 =>
          cases r3
          rename_i u1 u2
          obtain rfl : u1 = Value.ref a := r1
          obtain rfl : u2 = Value.bool b := r2
          have KX : K.In s.heap := e0.mod.kin.keeps fun b o e => (e0.bs b o e).1
          have lim : s.heap.NoLimit := e0.mod.nolimit.keeps fun b o e => (e0.bs b o e).1
          obtain ⟨oc, od, osl, hlo⟩ := T1.look
          obtain ⟨clc, cld, csl, hcc⟩ := T1.cell
          refine ks_codeAny_call_defAt (binds := List.zip ["self", "met"] [Value.ref a, Value.bool b]) hr.depth (KX _ _ hlo) rfl lim (codeRec_of KX hcd) rfl hb S.nocell (fun y hy => S.par _ (List.of_mem_zip (show (y.1, y.2) ∈ _ from hy)).1) (fun h₁ hns k1 => ?_) S.co S.gen S.kind
          have hccB := e0.mod.kin _ _ hcc
          have Cl : CellsAt [("__class__", cc)] ["__class__"] [some (V.ref D)] s.heap H := by
            refine ⟨rfl, fun y c' h => ?_, fun x y c' h1 h2 => ?_, fun i y h => ?_⟩
            · obtain rfl : c' = cc := by
                have := PySem.mem_of_lookup h
                simp at this; exact this.2
              exact ⟨(e0.bs _ _ hccB).2, _, _, KX _ _ hcc, rfl⟩
            · have z1 := PySem.mem_of_lookup h1
              have z2 := PySem.mem_of_lookup h2
              simp at z1 z2
              rw [z1.1, z2.1]
            · match i, h with
              | 0, h =>
                cases h
                exact ⟨cc, rfl, fun v hv => by cases hv; exact ⟨.ref D, rfl, _, KX _ _ hcc, rfl⟩⟩
          have I : Inv (ncx (L2.CX P w) P w K mg base ["self", "met", "__class__"] (nfOf name qual params [.Return (some (retE isOr m p0 p1 p2 p3 p4 p5 p6 p7)) p8] scope cc cda) g A outer s H E) [] (startF ["self", "met", "__class__"] [.ref a, .bl b] [some (.ref D)]) H { s with heap := h₁, toks := s.toks + (List.zip (["self", "met"] : List Str) [Value.ref a, Value.bool b]).length } :=
            inv_startN (us := [Value.ref a, Value.bool b]) S hr.hd e0 rfl (.cons rfl (.cons rfl .nil)) Cl hns k1
          generalize hX : ncx (L2.CX P w) P w K mg base ["self", "met", "__class__"] (nfOf name qual params [.Return (some (retE isOr m p0 p1 p2 p3 p4 p5 p6 p7)) p8] scope cc cda) g A outer s H E = X at I
          obtain ⟨g2, fd2, ps2, hm, ht, hsub, fi, FO, hb2⟩ := M.at_ cl nm hc hrc
          have FR2 : FnR P w K mg base (L2.CX P w) k g2 (spR W 2 (φ nm) none) := (FO.raw hb2 .nil).imp (fun vs H Q E h => by rw [List.append_nil]; exact h)
          have q0 : (tCons (tVar 1) tNil) (startF ["self", "met", "__class__"] [.ref a, .bl b] [some (.ref D)]) H fun vs H2 => spR W 2 (φ nm) none (.ref a :: vs) H2 (fun v H' => v = .bl c ∧ ∃ F', Ext F H F' H') E0 :=
            ⟨.bl b, rfl, callF sF (.cons y1 (.cons .bl .nil)) rfl hphi fun v F' H' x3 y3 => ⟨by
              obtain ⟨L, o, _⟩ := y3
              cases o with
              | sh y => cases y; rfl, F', x3⟩⟩
          obtain ⟨pl, hev⟩ := hev s.heap.objs.size
          have hPA : PA X [.Name "met" p3] (tCons (tVar 1) tNil) := by
            subst hX
            exact pa_cons (pe_var rfl (.inl (S.par "met" (by simp)))) pa_nil (hst _)
          have hPN : PE X (.UnaryOp .Not (.Name "met" p5) p6) (tNotV (tVar 1)) := by
            subst hX
            exact pe_not (pe_var rfl (.inl (S.par "met" (by simp))))
          have core := fun (bod : List Stmt) => wpAt_sup (X := X) (body := bod) (p0 := p0) (p1 := p1) (p2 := p2) (p4 := p4) (pl := pl) (e := .Name "met" p3) (es := []) (by subst hX; exact T1) (by subst hX; rfl) S.kind hsup (S.frk _ (by simp)) (S.par _ (by simp)) (by subst hX; exact hms) I (by subst hX; rfl) rfl haH (by subst hX; exact hm) (by subst hX; exact ht) (by subst hX; exact hsub) (by subst hX; exact opq) hn (by subst hX; exact fi) (by subst hX; exact FR2) (by subst hX; exact hr.deeper _) (by subst hX; exact passE0) hPA (by subst hX; exact hst _) (by subst hX; rfl) (by subst hX; exact hev) q0
          have fin : ∀ {σ' : L2.St} {H' : Hp} {v : V} {u : Value} {s' : Shared}, Inv X [] σ' H' s' → RelV v u → Q v H' → CE outer P w H s Q u s' := fun {σ' H' v u s'} J rv q => by
            subst hX
            exact ⟨v, H', J.os, J.bare, J.base, J.hok, rv, q⟩
          have done : ∀ {F' H' : Hp}, Ext F H F' H' → Q (.bl (combB isOr c b)) H' := fun {F' H'} x =>
            hok _ _ hres F' H' _ [] [] ⟨x.f, x.s, fun a o _ h => x.h a o h, fun a o h => (x.n a o h).imp id .inl⟩ (.sh .bl) rfl .nil (fun a m => nomatch m)
          refine ks_wpAt_execs_cons (ks_wpAt_Return_some ?_)
          have core := core [.Return (some (retE isOr m p0 p1 p2 p3 p4 p5 p6 p7)) p8]
          have goal : wpAt (model X.prog X.w) X.A (.func [.Return (some (retE isOr m p0 p1 p2 p3 p4 p5 p6 p7)) p8] X.env) (eval (retE isOr m p0 p1 p2 p3 p4 p5 p6 p7) X.env) (fun u s' => CE outer P w H s Q u s') X.xe { s with heap := h₁, toks := s.toks + (List.zip (["self", "met"] : List Str) [Value.ref a, Value.bool b]).length } := by
            cases isOr with
            | true =>
              show wpAt _ _ _ (eval (.BoolOp .Or [supE m p0 p1 p2 p3 p4, .UnaryOp .Not (.Name "met" p5) p6] p7) X.env) _ _ _
              refine wpAt_or (wpAt_mono core (fun v s' h => ?_) fun _ _ z => z)
              obtain ⟨v0, H', J, rv, rfl, F', x⟩ := h
              cases rv
              refine wpAny_truthy_bool ?_
              cases c with
              | true => exact fin J (v := .bl true) rfl (done x)
              | false =>
                refine PyProof.Rows.BoolOp_one (wpAny_mono (hPN.run [] s' _ H' Q J ⟨.bl b, rfl, b, rfl, done x⟩) (fun u s2 ⟨v, H2, J2, r2, q2⟩ => fin J2 r2 q2) fun _ _ z => z)
            | false =>
              show wpAt _ _ _ (eval (.UnaryOp .Not (supE m p0 p1 p2 p3 p4) p7) X.env) _ _ _
              refine wpAt_not (wpAt_mono core (fun v s' h => ?_) fun _ _ z => z)
              obtain ⟨v0, H', J, rv, rfl, F', x⟩ := h
              cases rv
              exact wpAny_truthy_bool (fin J (v := .bl (!c)) rfl (done x))
          subst hX
          exact goal
end Py

namespace Py
open PySem L2
structure Mk0 (K : PySem.W.Frag) (C : Addr) : Prop where
  makes : PySem.W.makesIn K C = true
  init : PySem.W.findIn K (.ref C) "__init__" = some (some (.builtin "object.__init__"))
  top : PySem.W.mroIn K C (.type "object") = some true
  kp : PySem.W.keepIn K (.ref C) = true
section
variable {X : Cx} {C : Addr} {pins : List (Addr × Obj)} {σ : L2.St} {H : Hp} {s : Shared} {Q : VK}
open PySem.W NwA in
theorem run_mk0 (M : Mk0 X.K C) (I : Inv X pins σ H s) (h : ∀ x dx, H x = none → H dx = none → dx ≠ x → Q (.ref x) (upd (upd H dx (.own x)) x (.ins C dx []))) :
    wpAny (model X.prog X.w) X.A (call (.ref C) []) (EP X pins σ Q) X.xe s := by
  have hq := h (s.heap.objs.size + 1) s.heap.objs.size (I.hok.fresh (Nat.le_succ _)) (I.hok.fresh (Nat.le_refl _)) (Nat.ne_of_lt (Nat.lt_succ_self _))
  have I2 := Inv.made (C := C) I
  refine wpAny_call (make_map0 I.kIn M.makes M.init (fun self => Looks.of_pure (oi_bind _)) ?_)
  have X2 := I2.kIn
  have ho : ((s.heap.push emptyDict).push (instObj C s.heap.objs.size)).get? (s.heap.objs.size + 1) = some (instObj C s.heap.objs.size) := Heap.get?_push_at (by rw [Heap.size_push]) rfl
  have t2 : Looks (model X.prog X.w) ((s.heap.push emptyDict).push (instObj C s.heap.objs.size)) (isInstance (.ref (s.heap.objs.size + 1)) (.type "object")) true := (type_at ho rfl).andThen (looks_mroIn X2 M.top)
  refine codeAny_call_builtin oi_plain entry_oi (@check_slot (model X.prog X.w) _ _ _ "object.__init__" "object" "__init__" (.ref (s.heap.objs.size + 1)) [] [] _ oi_kind oi_split t2 (oi_args_any _ [] []) ?_)
  rw [oi_run]
  exact wpAny_pure ⟨rfl, ⟨V.ref (s.heap.objs.size + 1), _, I2, rfl, hq⟩⟩
/-- C() -/
def tMk0 (C : Addr) : TE := fun σ H Q => ∀ x dx, H x = none → H dx = none → dx ≠ x → Q (.ref x) (upd (upd H dx (.own x)) x (.ins C dx []))
theorem pe_mk0 {x : Str} {p pos : Pos} (M : Mk0 X.K C) (hg : Gl X x) (hm : X.mg x = some (.ref C)) (hdb : (x == ("__debug__" : Str)) = false := by decide) : PE X (.Call (.Name x p) [] [] pos) (tMk0 C) := by
  refine ⟨fun pins s σ H Q I h => ?_⟩
  refine wpAny_Call_Name_kw (ld_glob I hg hm ?_ hdb)
  exact PySem.W.callWith_K0 I.kIn M.kp (run_mk0 M I h)
end
section
variable {T : Tbl} {W : Wd T}
/-- C() -/
def xMk0 (W : Wd T) (c : String) : XP W where
  t := fun σ H Q => W.has c → tMk0 (W.cA c) σ H Q
  ev _ := some (.fr, .oins c [] [])
  snd := fun {env k d} e e' F σ H L Q r q hc => by
    cases e
    intro x dx hx hdx ne
    have hs : Same H (upd (upd H dx (.own x)) x (.ins (W.cA c) dx [])) := (same_new hdx).trans (same_new (by rw [upd_ne ne.symm]; exact hx))
    refine q (.ref x) F _ ⟨Same.refl F, r.sF.trans hs, hs, fun _ _ z => .inl z⟩ ⟨[x], .oins (vs := []) (by rw [upd_same]; rfl) hc rfl .nil, by simp, fun b m => ?_⟩
    rw [List.mem_singleton.mp m]
    exact ⟨hx, r.sF.free hx⟩
theorem px_mk0 {X : Cx} {x : Str} {c : String} {p pos : Pos} (M : Mk0 X.K (W.cA c)) (hc : W.has c) (hg : Gl X x) (hm : X.mg x = some (.ref (W.cA c))) (hdb : (x == ("__debug__" : Str)) = false := by decide) :
    PE X (.Call (.Name x p) [] [] pos) (fun σ H Q => W.has c → tMk0 (W.cA c) σ H Q) := pe_imp hc (pe_mk0 M hg hm hdb)
end
end Py

namespace Py
open PySem L2 NdefX
section
variable {T : Tbl} {W : Wd T}
def ConOk (W : Wd T) (r : String → Option String) (f : String) : Prop := ∀ c x, W.has c → r c = some x → ∃ u, Con W.K (W.cA c) (so f) (.str (so x)) u
def conD (r : String → Option String) (f : String) : D → Option String
  | .ins c ns _ => if pos f ns = none then r c else none
  | _ => none
theorem conD_ok {r : String → Option String} {f : String} {d : D} {x : String} (h : conD r f d = some x) : ∃ c ns xs, d = .ins c ns xs ∧ pos f ns = none ∧ r c = some x := by
  unfold conD at h
  split at h
  · obtain ⟨h1, h2⟩ := if_some' h
    exact ⟨_, _, _, rfl, h1, h2⟩
  · cases h
def xCon (r : String → Option String) (f : String) (a : XP W) : XP W where
  t := fun σ H Q => ConOk W r f → tCon W.K a.t (so f) σ H Q
  ev env := ((a.evV env).bind (conD r f)).map fun x => (.fr, .str x)
  snd := fun {env k d} e e' F σ H L Q rl q hC => by
    obtain ⟨x, e1, e⟩ := Option.map_eq_some_iff.mp e
    cases e
    obtain ⟨d1, e2, e3⟩ := Option.bind_eq_some_iff.mp e1
    obtain ⟨c, ns, xs, rfl, h1, h2⟩ := conD_ok e3
    refine a.sV e2 e' F σ H L _ rl fun v F1 H1 x1 y1 => ?_
    obtain ⟨p, dx, vs, rfl, hp, hc⟩ := shr_ins y1
    obtain ⟨u, hu⟩ := hC c x hc h2
    exact ⟨p, _, dx, _, _, u, rfl, hp, W.cl c hc, hu, lookup_zip_none h1, q _ F1 H1 x1 (rO_sh .str)⟩
end
open PySem.W in
structure SupAt (P : Program) (K : Frag) (C : Addr) (m : String) (qual : Str) (st : Stmt) (D : Addr) : Prop where
  ex : ∃ (g cda cc : Addr) (doc pm ct : Value) (an : Option Addr), Meth K C (so m) g ∧ codeIn K (.ref cda) qual = true ∧ SupT P K D g (ksFn (so m) qual (defArgs st) (defBody st) (defScope st) .none .none doc pm an (.ref cda) ct cc) cda cc
open PySem.W in
structure SupC (K : Frag) (C D : Addr) (m : String) (E : Addr) : Prop where
  ex : ∃ g2, ks_superIn K C D (so m) = some (some (.ref g2)) ∧ findIn K (.ref E) (so m) = some (some (.ref g2)) ∧ typeIn K (.ref g2) = some (.type "function") ∧ mroIn K C (.ref D) = some true ∧ fnIn K g2 = true
open PySem.W in
def BindsS (m : String) (qual : Str) (st : Stmt) : Prop := ∀ (doc pm : Value) (an : Option Addr) (cdv ct : Value) (cc : Addr) (us : List Value), us.length = 2 → bindArgs (ksFn (so m) qual (defArgs st) (defBody st) (defScope st) .none .none doc pm an cdv ct cc) ⟨us, []⟩ = pure ((["self", "met"] : List Str).zip us)
/-- how the call of super()'s method is evaluated -/
def EvS (m : String) (qual : Str) (st : Stmt) (p0 p1 p2 p3 p4 : Pos) : Prop := ∀ (L g : Addr) (cda : Value) (cc : Addr), ∃ pl : PySem.Sem Bool, eval (supE (so m) p0 p1 p2 p3 p4) (PySem.W.ksEnv qual (defScope st) L g cda cc) = (do
      let ov ← attributeBase (.Call (.Name "super" p0) [] [] p1) (so m) (PySem.W.ksEnv qual (defScope st) L g cda cc) (eval (.Call (.Name "super" p0) [] [] p1) (PySem.W.ksEnv qual (defScope st) L g cda cc))
      standAt p2.atName
      let (f, first) ← holding [ov] (getMethod ov (so m) pl)
      callWith p4 f first (backTo p4 (starEach [.Name "met" p3] (PySem.W.ksEnv qual (defScope st) L g cda cc))) [])
section
variable {P : Program} {w : World} {K : PySem.W.Frag} {mg : Str → Option Value} {base : Heap} {T : Tbl} {W : Wd T}
theorem supM_of {k : Nat} {φ : Sem} {D : Addr} {m : String} {r : String → Option String} (h : ∀ c nm, W.has c → r c = some nm → ∃ e, SupC K (W.cA c) D m (W.cA e) ∧ W.has e ∧ T.res e m = some nm) (M : Mt P w K mg base W k m 2 φ none) : SupM P w K mg base W k φ D (so m) r :=
  ⟨fun c nm hc hr => by
    obtain ⟨e, ⟨g2, h1, h2, h3, h4, h5⟩, he, hn⟩ := h c nm hc hr
    obtain ⟨g, fd, ps, hm, F, hb⟩ := M.ex e nm he hn
    have := hm.at_
    rw [h2] at this
    cases this
    exact ⟨g2, fd, ps, h1, h3, h4, h5, F, hb⟩⟩
open PySem.W in
theorem md_sup {C Dc : Addr} {m : String} {qual : Str} {st : Stmt} {k : Nat} {φ : Sem} {φ' : List D → Option Nat → Rz} {r : String → Option String} {isOr : Bool} {p0 p1 p2 p3 p4 p5 p6 p7 p8 : Pos} {b : Option Nat} (A : SupAt P K C m qual st Dc)
    (hbd : defBody st = [.Return (some (retE isOr (so m) p0 p1 p2 p3 p4 p5 p6 p7)) p8]) (S : NScope ["self", "met", "__class__"] ["self", "met"] ["__class__"] (defScope st)) (hsup : (defScope st).names.lookup ("super" : Str) = some .globalImplicit)
    (bp : BindsS m qual st) (hev : EvS m qual st p0 p1 p2 p3 p4) (hms : mg "super" = none) (opq : nsIn K cStatics "thirdparty.any" = some none) (hn : (so m == ("__class__" : Str)) = false) (M : SupM P w K mg base W k φ Dc (so m) r)
    (hφ : ∀ ds bo, φ' ds bo ≠ .no → ∃ x b c bd, ds = [x, .bl b] ∧ bo = none ∧ supF φ r x (.bl b) = .ok (.bl c) bd ∧ φ' ds bo = .ok (.bl (combB isOr c b)) none) :
    MdOk P w K mg base (k + 1) C m 2 (spR W 2 φ' b) := by
  obtain ⟨g, cda, cc, doc, pm, ct, an, hm, hcd, T1⟩ := A.ex
  have hB : Binds K (ksFn (so m) qual (defArgs st) (defBody st) (defScope st) .none .none doc pm an (.ref cda) ct cc) ["self", "met"] [] := fun s us hK hl => by
    rw [List.append_nil] at hl ⊢
    exact BindsTo.of_eq (bp _ _ _ _ _ _ us hl)
  cases b with
  | some i =>
    refine ⟨g, _, ["self", "met"], hm, ⟨fun vs H Q E h => spR_len vs H Q E h, fun A outer s H args us vs Q E hr e0 hb r1 hsp => ?_⟩, hB, rfl⟩
    obtain ⟨F, ds, L0, sF, hO, nd0, hF0, hl, hne, _⟩ := hsp
    obtain ⟨_, _, _, _, _, z, _⟩ := hφ ds (some i) hne
    cases z
  | none =>
    rw [hbd] at T1 hB
    exact ⟨g, _, ["self", "met"], hm, fn_sup T1 hcd S hsup hms opq hn M hφ (fun L => hev L g (.ref cda) cc) (fun L => rfl), hB, rfl⟩
theorem mdk_mono {C : Addr} {m : String} {n k j : Nat} {sp : Sp} (M : MdOk P w K mg base j C m n sp) (h : j ≤ k) : MdOk P w K mg base k C m n sp := by
  obtain ⟨g, fd, ps, h1, F, h2, h3⟩ := M.ex
  exact ⟨g, fd, ps, h1, F.mono h, h2, h3⟩
theorem md_noS {C Dc : Addr} {m : String} {qual : Str} {st : Stmt} {k : Nat} {sp : Sp} (A : SupAt P K C m qual st Dc) (bp : BindsS m qual st) (h : ∀ vs H Q E, ¬ sp vs H Q E) : MdOk P w K mg base k C m 2 sp := by
  obtain ⟨g, cda, cc, doc, pm, ct, an, hm, hcd, T1⟩ := A.ex
  have hB : Binds K (PySem.W.ksFn (so m) qual (defArgs st) (defBody st) (defScope st) .none .none doc pm an (.ref cda) ct cc) ["self", "met"] [] := fun s us hK hl => by
    rw [List.append_nil] at hl ⊢
    exact BindsTo.of_eq (bp _ _ _ _ _ _ us hl)
  exact ⟨g, _, ["self", "met"], hm, ⟨fun vs H Q E z => absurd z (h vs H Q E), fun A outer s H args us vs Q E _ _ _ _ z => absurd z (h vs H Q E)⟩, hB, rfl⟩
end
end Py

namespace Py
open PySem L2
def getM (p : Kd) (z : Kd × D) : Option D → Kd × D
  | some x => p.of x
  | none => z
def lockR (b : Bool) (r : RS) : RS := match b with
  | true => noEx r
  | false => .no
def frE (o : Option (Kd × D)) : Option (Kd × D) := match o with
  | some (.fr, d) => some (.fr, d)
  | _ => none
def dcJ {T : Tbl} {W : Wd T} (k x : XP W) (b : Option Bool) (e : Py.Env) : Option (Option (Key × D)) := b.bind fun b => if b = true then ((k.evF e).bind keyD).bind fun y => (x.evF e).map fun z => some (y, z) else some none
def dcK {T : Tbl} {W : Wd T} (c : XT W) (k x : XP W) (o : Option Py.Env) : Option (Option (Key × D)) := o.bind fun e => dcJ k x (c.ev e) e
theorem nr {α : Type} {a b : α} (h : a = b) : a = b := h
theorem atI_litN {α : Type} {xs : List α} (n : Nat) : atI xs (n : Int) = xs[n]? := by
  unfold atI ixN
  rw [if_pos (by omega)]
  by_cases h : (n : Int) < xs.length
  · rw [if_pos h]; rfl
  · rw [if_neg h, List.getElem?_eq_none (by omega)]; rfl
theorem atI_last {α : Type} {xs : List α} : atI xs (-1) = xs.getLast? := by
  unfold atI ixN
  rw [if_neg (by omega)]
  cases xs with
  | nil => rfl
  | cons x xs =>
    rw [if_pos (by simp; omega), List.getLast?_eq_getElem?]
    show (x :: xs)[_]? = _
    congr 1
    simp
    omega
def callE (φ : List D → Option Nat → Rz) (n : Nat) (dds : List D) (f v : Option (List D)) : Option (Kd × D) := match f with
  | some ds => if (ds ++ dds).length = n then (φ (ds ++ dds) none).toF else none
  | none => match v with
    | some ds => if (ds ++ dds).length = n then (φ (ds ++ dds) none).toV else none
    | none => none
def turnE (o : Option Py.Env) (f : Py.Env → RS) : RS := match o with
  | some e => f e
  | none => .no
def forE (f : D → Py.Env → RS) (o : Option (List D)) (env : Py.Env) : RS := match o with
  | some ds => forL f ds env
  | none => .no
def frzO (env : Py.Env) (i : Nat) : Option D → Py.Env
  | some d => env.set i (some (fz d))
  | none => env
def resE (o : Option String) (f : String → Rz) : Rz := match o with
  | some nm => f nm
  | none => .no
def lenQ (o : Option String) (f : String → Option D) : Option D := match o with
  | some nm => f nm
  | none => none
def lenR : Rz → Option D
  | .ok (.int i) _ => if 0 ≤ i ∧ i ≤ 1000000 then some (.int i) else none
  | _ => none
def itQ (o : Option (List D)) (f : List D → Option (Kd × D)) : Option (Kd × D) := match o with
  | some zs => f zs
  | none => none
def setO (xs : List D) (o : Option Nat) (y : D) : List D := match o with
  | some j => xs.set j y
  | none => xs
def putE (d : D) (s : Pst) (st : List Pst) (n : D) (o : Option D) : D := match o with
  | some x => d.put s (x.putAt st n)
  | none => d
def retZ (o : Option (Option D)) (d : D) : Rz := match o with
  | some x => .ok d x
  | none => .no
def retX (o : Option (Option D)) (x : Exn) : Rz := match o with
  | some y => .exn x y
  | none => .no
def tryJ {T : Tbl} {W : Wd T} (b : Bool) (x : Exn) (i : Nat) (s : XH W i) (P : List Nat) (e : Py.Env) : RS := match b with
  | true => if i ∈ P ∨ e.length ≤ i then .no else (s.ev x P (e.set i none)).clr i
  | false => .ex x e
def ipD (f : Int → Int → Int) (x y : D) : Option D := match x, y with
  | .int i, .int j => some (.int (f i j))
  | _, _ => none
def subFld (T : Tbl) (f : String) (q : List Pst × D) : Option (List Pst × D) := match q.2 with
  | .oins c ns xs => if T.fOk c f = true then ((pos f ns).bind fun j => xs[j]?).map fun x => (q.1 ++ [.fld f], x) else none
  | _ => none
def subIx (q : List Pst × D) (y : D) : Option (List Pst × D) := match q.2, y with
  | .olst xs, .int i => (ixN xs.length i).bind fun j => (xs[j]?).map fun x => (q.1 ++ [.idx j], x)
  | _, _ => none
def forT (f : D → Py.Env → RS) (ds : List D) : RS → RS
  | .nx e => forL f ds e
  | .ct e => forL f ds e
  | .bk e => .nx e
  | r => r
def asgK (P : List Nat) (i : Nat) (d : D) (e : Py.Env) : RS := RS.ofO (setS P i d e)
def asgGK {T : Tbl} {W : Wd T} (P : List Nat) (g : XG W) (d : D) (e : Py.Env) : RS := RS.ofO (g.ev P (fz d) e)
def iteF (b : Option Bool) (s u : Py.Env → RS) (e : Py.Env) : RS := match b with
  | some true => s e
  | some false => u e
  | none => .no
def andF (b : Option Bool) (f : Py.Env → Option Bool) (e : Py.Env) : Option Bool := match b with
  | some true => f e
  | some false => some false
  | none => none
def orF (b : Option Bool) (f : Py.Env → Option Bool) (e : Py.Env) : Option Bool := match b with
  | some false => f e
  | some true => some true
  | none => none
def ifF (b : Option Bool) (s u : Py.Env → Option (Kd × D)) (e : Py.Env) : Option (Kd × D) := b.bind fun k => if k = true then s e else u e
def chF (b : Option Bool) (g : Int → Int → Bool) (y : D) (c : Py.Env → Option D) (e : Py.Env) : Option (Kd × D) := b.bind fun k => if k = true then (c e).bind fun z => ((cmpD g y z).bind blD).map fun k => (.fr, .bl k) else some (.fr, .bl false)
def forK {T : Tbl} {W : Wd T} (g : XG W) (b : XS W) (P : List Nat) (d : D) (e : Py.Env) : RS := turnE (g.ev P d e) (b.ev P)
def forOF {T : Tbl} {W : Wd T} (o : Option (List D)) (i : Nat) (g : XG W) (b : XS W) (P : List Nat) (env : Py.Env) : RS := match o with
  | some xs => reR i xs (forL (forK g b (i :: P)) xs (env.set i none))
  | none => (xsFor (xiSeq (xVar W i)) g b).ev P env
def orEE (o : Option (Kd × D)) (f : Py.Env → Option (Kd × D)) (env : Py.Env) : Option (Kd × D) := match o with
  | some x => some x
  | none => f env
def lcJ {T : Tbl} {W : Wd T} (x : XP W) (b : Option Bool) (e : Py.Env) : Option (List D) := b.bind fun k => if k = true then (x.evO e).map fun y => [y] else some []
def lcK {T : Tbl} {W : Wd T} (c : XT W) (x : XP W) (o : Option Py.Env) : Option (List D) := o.bind fun e => lcJ x (c.ev e) e
theorem e_xsSeq {T : Tbl} {W : Wd T} {s u : XS W} {P env} : (xsSeq s u).ev P env = (s.ev P env).then (u.ev P) := nr rfl
theorem e_xsNext {T : Tbl} {W : Wd T} {P env} : (xsNext W).ev P env = .nx env := nr rfl
theorem e_xsBreak {T : Tbl} {W : Wd T} {P env} : (xsBreak W).ev P env = .bk env := nr rfl
theorem e_xsCont {T : Tbl} {W : Wd T} {P env} : (xsCont W).ev P env = .ct env := nr rfl
theorem e_xsNever {T : Tbl} {W : Wd T} {P env} : (xsNever W).ev P env = .no := nr rfl
theorem e_xsRetN {T : Tbl} {W : Wd T} {P env} : (xsRetN W).ev P env = .rt .non env := nr rfl
theorem e_xsAsg {T : Tbl} {W : Wd T} {i} {m : XM W} {P env} : (xsAsg i m).ev P env = (m.ev P env).thenS (asgK P i) := nr rfl
theorem e_xsAsgG {T : Tbl} {W : Wd T} {g : XG W} {m : XM W} {P env} : (xsAsgG g m).ev P env = (m.ev P env).thenS (asgGK P g) := nr rfl
theorem e_xsExpr {T : Tbl} {W : Wd T} {m : XM W} {P env} : (xsExpr m).ev P env = (m.ev P env).thenS fun _ => RS.nx := nr rfl
theorem e_xsRet {T : Tbl} {W : Wd T} {m : XM W} {P env} : (xsRet m).ev P env = (m.ev P env).thenS RS.rt := nr rfl
theorem e_xsIf {T : Tbl} {W : Wd T} {c : XT W} {s u : XS W} {P env} : (xsIf c s u).ev P env = iteF (c.ev env) (s.ev P) (u.ev P) env := nr rfl
theorem e_xsFrz {T : Tbl} {W : Wd T} {is} {s : XS W} {P env} : (xsFrz is s).ev P env = s.ev P (is.foldl frzS env) := nr rfl
theorem e_xmP {T : Tbl} {W : Wd T} {p : XP W} {P env} : (xmP p).ev P env = RM.of (p.evO env) env := nr rfl
theorem e_xVar_V {T : Tbl} {W : Wd T} {i env} : (xVar W i).evV env = (getS env i).map fz := by show toV ((getS env i).map _) = _; cases getS env i <;> rfl
theorem e_xtV {T : Tbl} {W : Wd T} {a : XP W} {env} : (xtV a).ev env = (a.evV env).bind blD := nr rfl
theorem e_xtTru {T : Tbl} {W : Wd T} {a : XP W} {env} : (xtTru a).ev env = (a.evV env).bind truD := nr rfl
theorem e_xtAnd {T : Tbl} {W : Wd T} {a b : XT W} {env} : (xtAnd a b).ev env = andF (a.ev env) b.ev env := nr rfl
theorem e_xtOr {T : Tbl} {W : Wd T} {a b : XT W} {env} : (xtOr a b).ev env = orF (a.ev env) b.ev env := nr rfl
theorem e_xtNot {T : Tbl} {W : Wd T} {a : XT W} {env} : (xtNot a).ev env = (a.ev env).map (!·) := nr rfl
theorem e_xtYes {T : Tbl} {W : Wd T} {env} : (xtYes W).ev env = some true := nr rfl
theorem e_xVar {T : Tbl} {W : Wd T} {i env} : (xVar W i).ev env = (getS env i).map (Prod.mk .pl) := nr rfl
theorem e_xInt {T : Tbl} {W : Wd T} {i env} : (xInt W i).ev env = some (.fr, .int i) := nr rfl
theorem e_xBl {T : Tbl} {W : Wd T} {b env} : (xBl W b).ev env = some (.fr, .bl b) := nr rfl
theorem e_xNon {T : Tbl} {W : Wd T} {env} : (xNon W).ev env = some (.fr, .non) := nr rfl
theorem e_xStr {T : Tbl} {W : Wd T} {x env} : (xStr W x).ev env = some (.fr, .str x) := nr rfl
theorem e_xSub {T : Tbl} {W : Wd T} {a b : XP W} {env} : (xSub a b).ev env = (a.evV env).bind fun x => (b.evV env).bind fun y => (subD x y).map (Prod.mk .fr) := nr rfl
theorem e_xMul {T : Tbl} {W : Wd T} {a b : XP W} {env} : (xMul a b).ev env = (a.evV env).bind fun x => (b.evV env).bind fun y => (mulD x y).map (Prod.mk .fr) := nr rfl
theorem e_xDiv {T : Tbl} {W : Wd T} {a b : XP W} {env} : (xDiv a b).ev env = (a.evV env).bind fun x => (b.evV env).bind fun y => (divD x y).map (Prod.mk .fr) := nr rfl
theorem e_xMod {T : Tbl} {W : Wd T} {a b : XP W} {env} : (xMod a b).ev env = (a.evV env).bind fun x => (b.evV env).bind fun y => (modD x y).map (Prod.mk .fr) := nr rfl
theorem e_xPow {T : Tbl} {W : Wd T} {a b : XP W} {env} : (xPow a b).ev env = (a.evV env).bind fun x => (b.evV env).bind fun y => (powD x y).map (Prod.mk .fr) := nr rfl
theorem e_xNeg {T : Tbl} {W : Wd T} {a : XP W} {env} : (xNeg a).ev env = (a.evV env).bind fun x => (negD x).map (Prod.mk .fr) := by show (match a.evV env with | some x => _ | none => _) = _; cases a.evV env <;> rfl
theorem e_xAdd {T : Tbl} {W : Wd T} {a b : XP W} {env} : (xAdd a b).ev env = (a.evK env).bind fun x => (b.evK env).bind fun y => (addD x y).map (Prod.mk .fr) := nr rfl
theorem e_xEq {T : Tbl} {W : Wd T} {a b : XP W} {env} : (xEq a b).ev env = (a.evV env).bind fun x => (b.evV env).bind fun y => (eqD x y).map (Prod.mk .fr) := nr rfl
theorem e_xInE {T : Tbl} {W : Wd T} {a b : XP W} {env} : (xInE a b).ev env = (a.evV env).bind fun x => (b.evV env).bind fun y => (inE x y).map (Prod.mk .fr) := nr rfl
theorem e_xNe {T : Tbl} {W : Wd T} {a b : XP W} {env} : (xNe a b).ev env = (a.evV env).bind fun x => (b.evV env).bind fun y => (neD x y).map (Prod.mk .fr) := nr rfl
theorem e_xLt {T : Tbl} {W : Wd T} {a b : XP W} {env} : (xLt a b).ev env = (a.evV env).bind fun x => (b.evV env).bind fun y => (ltD x y).map (Prod.mk .fr) := nr rfl
theorem e_xLe {T : Tbl} {W : Wd T} {a b : XP W} {env} : (xLe a b).ev env = (a.evV env).bind fun x => (b.evV env).bind fun y => (cmpD (fun i j => decide (i ≤ j)) x y).map (Prod.mk .fr) := nr rfl
theorem e_xGt {T : Tbl} {W : Wd T} {a b : XP W} {env} : (xGt a b).ev env = (a.evV env).bind fun x => (b.evV env).bind fun y => (cmpD (fun i j => decide (j < i)) x y).map (Prod.mk .fr) := nr rfl
theorem e_xGe {T : Tbl} {W : Wd T} {a b : XP W} {env} : (xGe a b).ev env = (a.evV env).bind fun x => (b.evV env).bind fun y => (cmpD (fun i j => decide (j ≤ i)) x y).map (Prod.mk .fr) := nr rfl
theorem e_xIsN {T : Tbl} {W : Wd T} {a : XP W} {env} : (xIsN a).ev env = (a.evV env).map fun x => (.fr, .bl (isNon x)) := nr rfl
theorem e_xNotN {T : Tbl} {W : Wd T} {a : XP W} {env} : (xNotN a).ev env = (a.evV env).map fun x => (.fr, .bl (!isNon x)) := nr rfl
theorem e_xAnd {T : Tbl} {W : Wd T} {a b : XP W} {env} : (xAnd a b).ev env = (andF (a.evB env) b.evB env).map fun c => (.fr, .bl c) := nr rfl
theorem e_xOr {T : Tbl} {W : Wd T} {a b : XP W} {env} : (xOr a b).ev env = (orF (a.evB env) b.evB env).map fun c => (.fr, .bl c) := nr rfl
theorem e_xNot {T : Tbl} {W : Wd T} {a : XP W} {env} : (xNot a).ev env = (a.evB env).map fun c => (.fr, .bl (!c)) := nr rfl
theorem e_xChainI {T : Tbl} {W : Wd T} {f g} {a b c : XP W} {env} : (xChainI f g a b c).ev env = (a.evV env).bind fun x => (b.evV env).bind fun y => chF ((cmpD f x y).bind blD) g y c.evV env := nr rfl
theorem e_xIf {T : Tbl} {W : Wd T} {c : XT W} {a b : XP W} {env} : (xIf c a b).ev env = ifF (c.ev env) a.ev b.ev env := nr rfl
theorem e_xTup {T : Tbl} {W : Wd T} {as : XA W} {env} : (xTup as).ev env = (as.evF env).bind fun ds => if ds.length ≤ 1000000 then some (.fr, .tup ds) else none := nr rfl
theorem e_xLst {T : Tbl} {W : Wd T} {as : XA W} {env} : (xLst as).ev env = (as.evF env).bind fun ds => if ds.length ≤ 1000000 then some (.fr, .olst ds) else none := nr rfl
theorem e_xInt1 {T : Tbl} {W : Wd T} {as : XA W} {env} : (xInt1 as).ev env = (as.evV env).bind fun ds => (intD ds).map (Prod.mk .fr) := nr rfl
theorem e_xAbs {T : Tbl} {W : Wd T} {as : XA W} {env} : (xAbs as).ev env = (as.evV env).bind fun ds => (absD ds).map (Prod.mk .fr) := nr rfl
theorem e_xMax2 {T : Tbl} {W : Wd T} {as : XA W} {env} : (xMax2 as).ev env = (as.evV env).bind fun ds => (max2D ds).map (Prod.mk .fr) := nr rfl
theorem e_xMin2 {T : Tbl} {W : Wd T} {as : XA W} {env} : (xMin2 as).ev env = (as.evV env).bind fun ds => (min2D ds).map (Prod.mk .fr) := nr rfl
theorem e_xLen {T : Tbl} {W : Wd T} {as : XA W} {env} : (xLen as).ev env = (as.evV env).bind fun ds => (lenD ds).map (Prod.mk .fr) := nr rfl
theorem e_xIx {T : Tbl} {W : Wd T} {a b : XP W} {env} : (xIx a b).ev env = (a.ev env).bind fun p => (b.evV env).bind fun y => (ixD p.2 y).map p.1.of := nr rfl
theorem e_xFld {T : Tbl} {W : Wd T} {a : XP W} {f env} : (xFld a f).ev env = (a.ev env).bind fun p => (fldD T f p.2).map p.1.of := nr rfl
theorem e_xList {T : Tbl} {W : Wd T} {a : XP W} {env} : (xList a).ev env = (a.evK env).bind fun d => (seqOf d).map fun p => (.fr, .olst p.2) := nr rfl
theorem e_xTuple {T : Tbl} {W : Wd T} {a : XP W} {env} : (xTuple a).ev env = (a.evK env).bind fun d => (seqOf d).map fun p => (.fr, .tup p.2) := nr rfl
theorem e_xIsi {T : Tbl} {W : Wd T} {c} {a : XP W} {env} : (xIsi c a).ev env = (a.evV env).bind fun x => (tyD x).map fun t => (.fr, .bl (isi1 T t c)) := nr rfl
theorem e_xIsiT {T : Tbl} {W : Wd T} {cs} {a : XP W} {env} : (xIsiT cs a).ev env = (a.evV env).bind fun x => (tyD x).map fun t => (.fr, .bl (isiA T t cs)) := nr rfl
theorem e_xCall {T : Tbl} {W : Wd T} {φ n} {as : XA W} {dds dvs hd env} : (xCall φ n as dds dvs hd).ev env = callE φ n dds (as.evF env) (as.evV env) := by show (match as.evF env with | some ds => _ | none => _) = _; unfold callE; cases as.evF env <;> first | rfl | (cases as.evV env <;> rfl)
theorem e_xLc {T : Tbl} {W : Wd T} {it : XI W} {g : XG W} {c x env} : (xLc it g c x).ev env = (it.evP env).bind fun ds => if ds.length < 1000000 then (lcL (lc1 g c x (wipeE env g.own)) ds).map fun ys => (.fr, .olst ys) else none := nr rfl
theorem e_xSorted {T : Tbl} {W : Wd T} {a : XP W} {env} : (xSorted a).ev env = (a.evK env).bind fun d => (seqOf d).bind fun p => if p.1 = false then (sortD p.2).map fun ys => (.fr, .olst ys) else none := nr rfl
theorem e_xmVar {T : Tbl} {W : Wd T} {i P env} : (xmVar W i).ev P env = RM.ofO ((getS env i).map fun d => (fz d, if isSh d = true then env else env.set i (some (fz d)))) := by show (match getS env i with | some d => _ | none => _) = _; cases getS env i <;> rfl
theorem e_xmMove {T : Tbl} {W : Wd T} {i P env} : (xmMove W i).ev P env = RM.ofO ((getS env i).map fun d => (d, env.set i none)) := by show (match getS env i with | some d => _ | none => _) = _; cases getS env i <;> rfl
theorem e_xmAppend {T : Tbl} {W : Wd T} {p : XPl W} {a : XP W} {P env} : (xmAppend p a).ev P env = RM.ofO ((p.ev env).bind fun q => ((xoCons a (xoNil W)).ev env).bind fun ds => (appendD q.2 ds).bind fun z => (getS env p.root).map fun d0 => (z.2, env.set p.root (some (d0.putAt q.1 z.1)))) := nr rfl
theorem e_xmExtend {T : Tbl} {W : Wd T} {p : XPl W} {a : XP W} {P env} : (xmExtend p a).ev P env = RM.ofO ((p.ev env).bind fun q => ((xoCons a (xoNil W)).ev env).bind fun ds => (extendD q.2 ds).bind fun z => (getS env p.root).map fun d0 => (z.2, env.set p.root (some (d0.putAt q.1 z.1)))) := nr rfl
theorem e_xmInsert {T : Tbl} {W : Wd T} {p : XPl W} {a b : XP W} {P env} : (xmInsert p a b).ev P env = RM.ofO ((p.ev env).bind fun q => ((xoCons a (xoCons b (xoNil W))).ev env).bind fun ds => (insertD q.2 ds).bind fun z => (getS env p.root).map fun d0 => (z.2, env.set p.root (some (d0.putAt q.1 z.1)))) := nr rfl
theorem e_xmPop {T : Tbl} {W : Wd T} {p : XPl W} {P env} : (xmPop p).ev P env = RM.ofO ((p.ev env).bind fun q => ((xoNil W).ev env).bind fun ds => (popD q.2 ds).bind fun z => (getS env p.root).map fun d0 => (z.2, env.set p.root (some (d0.putAt q.1 z.1)))) := nr rfl
theorem e_xmReverse {T : Tbl} {W : Wd T} {p : XPl W} {P env} : (xmReverse p).ev P env = RM.ofO ((p.ev env).bind fun q => ((xoNil W).ev env).bind fun ds => (reverseD q.2 ds).bind fun z => (getS env p.root).map fun d0 => (z.2, env.set p.root (some (d0.putAt q.1 z.1)))) := nr rfl
theorem e_xmClear {T : Tbl} {W : Wd T} {p : XPl W} {P env} : (xmClear p).ev P env = RM.ofO ((p.ev env).bind fun q => ((xoNil W).ev env).bind fun ds => (clearD q.2 ds).bind fun z => (getS env p.root).map fun d0 => (z.2, env.set p.root (some (d0.putAt q.1 z.1)))) := nr rfl
theorem e_xoNil {T : Tbl} {W : Wd T} {env} : (xoNil W).ev env = some [] := nr rfl
theorem e_xoCons {T : Tbl} {W : Wd T} {a : XP W} {as : XO W} {env} : (xoCons a as).ev env = (a.evO env).bind fun x => (as.ev env).map (x :: ·) := nr rfl
theorem e_plVar {T : Tbl} {W : Wd T} {i env} : (plVar W i).ev env = (getS env i).map fun d => ([], d) := nr rfl
theorem r_plVar {T : Tbl} {W : Wd T} {i} : (plVar W i).root = i := nr rfl
theorem r_plFld {T : Tbl} {W : Wd T} {p : XPl W} {f} : (plFld p f).root = p.root := nr rfl
theorem r_plIx {T : Tbl} {W : Wd T} {p : XPl W} {k} : (plIx p k).root = p.root := nr rfl
theorem e_plFld {T : Tbl} {W : Wd T} {p : XPl W} {f env} : (plFld p f).ev env = (p.ev env).bind fun q => subFld T f q := nr rfl
theorem e_plIx {T : Tbl} {W : Wd T} {p : XPl W} {k : XP W} {env} : (plIx p k).ev env = (p.ev env).bind fun q => (k.evV env).bind fun y => subIx q y := nr rfl
theorem e_xaNilV {T : Tbl} {W : Wd T} {env} : (xaNil W).evV env = some [] := nr rfl
theorem e_xaNilF {T : Tbl} {W : Wd T} {env} : (xaNil W).evF env = some [] := nr rfl
theorem e_xaConsV {T : Tbl} {W : Wd T} {a : XP W} {as : XA W} {env} : (xaCons a as).evV env = (a.evV env).bind fun x => (as.evV env).map (x :: ·) := nr rfl
theorem e_xaConsF {T : Tbl} {W : Wd T} {a : XP W} {as : XA W} {env} : (xaCons a as).evF env = (a.evF env).bind fun x => (as.evF env).map (x :: ·) := nr rfl
theorem e_xgN {T : Tbl} {W : Wd T} {i P d env} : (xgN W i).ev P d env = setS P i d env := nr rfl
theorem e_xgsNil {T : Tbl} {W : Wd T} {P env} : (xgsNil W).ev P [] env = some env := nr rfl
theorem e_xgsCons {T : Tbl} {W : Wd T} {g : XG W} {gs : XGs W} {P d ds env} : (xgsCons g gs).ev P (d :: ds) env = (g.ev P d env).bind (gs.ev P ds) := nr rfl
theorem e_xgT {T : Tbl} {W : Wd T} {n} {gs : XGs W} {P ds env} : (xgT n gs).ev P (.tup ds) env = if ds.length = n then gs.ev P ds env else none := nr rfl
theorem o_xgN {T : Tbl} {W : Wd T} {i} : (xgN W i).own = [i] := nr rfl
theorem o_xgT {T : Tbl} {W : Wd T} {n} {gs : XGs W} : (xgT n gs).own = gs.own := nr rfl
theorem o_xgsNil {T : Tbl} {W : Wd T}  : (xgsNil W).own = [] := nr rfl
theorem o_xgsCons {T : Tbl} {W : Wd T} {g : XG W} {gs : XGs W} : (xgsCons g gs).own = g.own ++ gs.own := nr rfl
theorem e_xiSeqF {T : Tbl} {W : Wd T} {a : XP W} {env} : (xiSeq a).evF env = (a.evF env).bind seqF := nr rfl
theorem e_xiSeqP {T : Tbl} {W : Wd T} {a : XP W} {env} : (xiSeq a).evP env = (a.evK env).bind fun d => (seqOf d).map (·.2) := nr rfl
theorem e_xiR1F {T : Tbl} {W : Wd T} {as : XA W} {env} : (xiR1 as).evF env = (as.evV env).bind rng1D := nr rfl
theorem e_xiR1P {T : Tbl} {W : Wd T} {as : XA W} {env} : (xiR1 as).evP env = (as.evV env).bind rng1D := nr rfl
theorem e_xiR2F {T : Tbl} {W : Wd T} {as : XA W} {env} : (xiR2 as).evF env = (as.evV env).bind rng2D := nr rfl
theorem e_xiR2P {T : Tbl} {W : Wd T} {as : XA W} {env} : (xiR2 as).evP env = (as.evV env).bind rng2D := nr rfl
theorem e_xiEnumF {T : Tbl} {W : Wd T} {a : XP W} {env} : (xiEnum a).evF env = ((a.evF env).bind lstF).map enumD := nr rfl
theorem e_xiZipF {T : Tbl} {W : Wd T} {a b : XP W} {env} : (xiZip a b).evF env = ((a.evF env).bind lstF).bind fun xs => ((b.evF env).bind lstF).map fun ys => zipD xs ys := nr rfl
theorem e_xiEnumP {T : Tbl} {W : Wd T} {a : XP W} {env} : (xiEnum a).evP env = ((a.evF env).bind lstF).map enumD := nr rfl
theorem e_xiZipP {T : Tbl} {W : Wd T} {a b : XP W} {env} : (xiZip a b).evP env = ((a.evF env).bind lstF).bind fun xs => ((b.evF env).bind lstF).map fun ys => zipD xs ys := nr rfl
theorem e_xsFor {T : Tbl} {W : Wd T} {it : XI W} {g : XG W} {b : XS W} {P env} : (xsFor it g b).ev P env = forE (forK g b P) (it.evF env) env := by show (match it.evF env with | some ds => _ | none => _) = _; unfold forE forK turnE; cases it.evF env <;> rfl
theorem e_xsWhile {T : Tbl} {W : Wd T} {c : XT W} {b : XS W} {P env} : (xsWhile c b).ev P env = whileN c.ev (b.ev P) fuel env := nr rfl
theorem e_xsAug {T : Tbl} {W : Wd T} {i f} {a : XP W} {P env} : (xsAug i f a).ev P env = RS.ofO ((getS env i).bind fun x => (a.evV env).bind fun y => (ipD f x y).bind fun z => setS P i z env) := by show RS.ofO _ = _; congr 1; congr 1; funext x; congr 1; funext y; unfold ipD; cases x <;> cases y <;> rfl
theorem e_evV {T : Tbl} {W : Wd T} {x : XP W} {env} : x.evV env = toV (x.ev env) := nr rfl
theorem e_evK {T : Tbl} {W : Wd T} {x : XP W} {env} : x.evK env = toK (x.ev env) := nr rfl
theorem e_evF {T : Tbl} {W : Wd T} {x : XP W} {env} : x.evF env = toF (x.ev env) := nr rfl
theorem e_evO {T : Tbl} {W : Wd T} {x : XP W} {env} : x.evO env = toO (x.ev env) := nr rfl
theorem e_evB {T : Tbl} {W : Wd T} {x : XP W} {env} : x.evB env = (x.evV env).bind blD := nr rfl
theorem h_getS0 {d e} : getS (some d :: e) 0 = some d := nr rfl
theorem h_getS0n {e} : getS (none :: e) 0 = none := nr rfl
theorem h_getSs {x e} {n : Nat} : getS (x :: e) (n + 1) = getS e n := nr rfl
theorem h_toV {k d} : toV (some (k, d)) = some (fz d) := nr rfl
theorem h_toVn  : toV none = none := nr rfl
theorem h_toKf {d} : toK (some (.fr, d)) = some d := nr rfl
theorem h_toKp {d} : toK (some (.pl, d)) = some d := nr rfl
theorem h_toKv {d} : toK (some (.vw, d)) = if isFlat d = true then some d else none := nr rfl
theorem h_toKn  : toK none = none := nr rfl
theorem h_toFf {d} : toF (some (.fr, d)) = some (fz d) := nr rfl
theorem h_toFp {d} : toF (some (.pl, d)) = if isSh d = true then some d else none := nr rfl
theorem h_toFv {d} : toF (some (.vw, d)) = if isFlat d = true then some d else none := nr rfl
theorem h_toFn  : toF none = none := nr rfl
theorem h_toOf {d} : toO (some (.fr, d)) = some d := nr rfl
theorem h_toOp {d} : toO (some (.pl, d)) = if isSh d = true then some d else none := nr rfl
theorem h_toOv {d} : toO (some (.vw, d)) = if isFlat d = true then some d else none := nr rfl
theorem h_toOn  : toO none = none := nr rfl
theorem h_of_f {d} : Kd.of .fr d = (.pl, d) := nr rfl
theorem h_of_p {d} : Kd.of .pl d = (.pl, d) := nr rfl
theorem h_of_v {d} : Kd.of .vw d = (.vw, fz d) := nr rfl
theorem h_then_nx {e f} : RS.then (.nx e) f = f e := nr rfl
theorem h_then_rt {d e f} : RS.then (.rt d e) f = .rt d e := nr rfl
theorem h_then_bk {e f} : RS.then (.bk e) f = .bk e := nr rfl
theorem h_then_ct {e f} : RS.then (.ct e) f = .ct e := nr rfl
theorem h_then_ex {x e f} : RS.then (.ex x e) f = .ex x e := nr rfl
theorem h_then_no {f} : RS.then .no f = .no := nr rfl
theorem h_thenS_ok {d e f} : RM.thenS (.ok d e) f = f d e := nr rfl
theorem h_thenS_exn {x e f} : RM.thenS (.exn x e) f = .ex x e := nr rfl
theorem h_thenS_no {f} : RM.thenS .no f = .no := nr rfl
theorem h_ofO {e} : RS.ofO (some e) = .nx e := nr rfl
theorem h_ofOn  : RS.ofO none = .no := nr rfl
theorem h_of {d e} : RM.of (some d) e = .ok d e := nr rfl
theorem h_ofn {e} : RM.of none e = .no := nr rfl
theorem h_mofO {d e} : RM.ofO (some (d, e)) = .ok d e := nr rfl
theorem h_mofOn  : RM.ofO none = .no := nr rfl
theorem h_iteF1 {s u e} : iteF (some true) s u e = s e := nr rfl
theorem h_iteF0 {s u e} : iteF (some false) s u e = u e := nr rfl
theorem h_iteFn {s u e} : iteF none s u e = .no := nr rfl
theorem h_asgK {P i d e} : asgK P i d e = RS.ofO (setS P i d e) := nr rfl
theorem h_asgGK {T : Tbl} {W : Wd T} {P} {g : XG W} {d e} : asgGK P g d e = RS.ofO (g.ev P (fz d) e) := nr rfl
theorem h_ifF1 {s u e} : ifF (some true) s u e = s e := nr rfl
theorem h_ifF0 {s u e} : ifF (some false) s u e = u e := nr rfl
theorem h_forK {T : Tbl} {W : Wd T} {g : XG W} {b : XS W} {P d e} : forK g b P d e = turnE (g.ev P d e) (b.ev P) := nr rfl
theorem h_chF0 {g y c e} : chF (some false) g y c e = some (.fr, .bl false) := nr rfl
theorem h_chF1 {g y c e} : chF (some true) g y c e = (c e).bind fun z => ((cmpD g y z).bind blD).map fun k => (.fr, .bl k) := nr rfl
theorem h_andF1 {f e} : andF (some true) f e = f e := nr rfl
theorem h_andF0 {f e} : andF (some false) f e = some false := nr rfl
theorem h_orF1 {f e} : orF (some true) f e = some true := nr rfl
theorem h_orF0 {f e} : orF (some false) f e = f e := nr rfl
theorem h_blD {b} : blD (.bl b) = some b := nr rfl
theorem h_turn {e f} : turnE (some e) f = f e := nr rfl
theorem h_turnn {f} : turnE none f = .no := nr rfl
theorem h_forE {f ds env} : forE f (some ds) env = forL f ds env := nr rfl
theorem h_forEn {f env} : forE f none env = .no := nr rfl
theorem h_callF {φ : List D → Option Nat → Rz} {n dds ds v} : callE φ n dds (some ds) v = if (ds ++ dds).length = n then (φ (ds ++ dds) none).toF else none := nr rfl
theorem h_callV {φ : List D → Option Nat → Rz} {n dds ds} : callE φ n dds none (some ds) = if (ds ++ dds).length = n then (φ (ds ++ dds) none).toV else none := nr rfl
theorem h_rzF {d b} : (Rz.ok d b).toF = some (.fr, d) := nr rfl
theorem h_rzV {d b} : (Rz.ok d b).toV = some (if isFlat d = true then (.fr, d) else (.vw, fz d)) := nr rfl
theorem h_fz_non  : fz (.non) = .non := by simp [fz]
theorem h_sh_non  : isSh (.non) = true := nr rfl
theorem h_fl_non  : isFlat (.non) = true := nr rfl
theorem h_isN_non  : isNon (.non) = true := nr rfl
theorem h_fz_bl {b} : fz (.bl b) = .bl b := by simp [fz]
theorem h_sh_bl {b} : isSh (.bl b) = true := nr rfl
theorem h_fl_bl {b} : isFlat (.bl b) = true := nr rfl
theorem h_fz_int {i} : fz (.int i) = .int i := by simp [fz]
theorem h_sh_int {i} : isSh (.int i) = true := nr rfl
theorem h_fl_int {i} : isFlat (.int i) = true := nr rfl
theorem h_isN_int {i} : isNon (.int i) = false := nr rfl
theorem h_fz_str {x} : fz (.str x) = .str x := by simp [fz]
theorem h_sh_str {x} : isSh (.str x) = true := nr rfl
theorem h_fl_str {x} : isFlat (.str x) = true := nr rfl
theorem h_isN_str {x} : isNon (.str x) = false := nr rfl
theorem h_fz_cls {c} : fz (.cls c) = .cls c := by simp [fz]
theorem h_sh_cls {c} : isSh (.cls c) = true := nr rfl
theorem h_fl_cls {c} : isFlat (.cls c) = true := nr rfl
theorem h_isN_cls {c} : isNon (.cls c) = false := nr rfl
theorem h_fz_sei {xs} : fz (.sei xs) = .sei xs := by simp [fz]
theorem h_sh_sei {xs} : isSh (.sei xs) = true := nr rfl
theorem h_fl_sei {xs} : isFlat (.sei xs) = false := nr rfl
theorem h_isN_sei {xs} : isNon (.sei xs) = false := nr rfl
theorem h_fz_scr {ns} : fz (.scr ns) = .scr ns := by simp [fz]
theorem h_sh_scr {ns} : isSh (.scr ns) = true := nr rfl
theorem h_fl_scr {ns} : isFlat (.scr ns) = false := nr rfl
theorem h_isN_scr {ns} : isNon (.scr ns) = false := nr rfl
theorem h_fz_tup {xs} : fz (.tup xs) = .tup xs := by simp [fz]
theorem h_sh_tup {xs} : isSh (.tup xs) = true := nr rfl
theorem h_fl_tup {xs} : isFlat (.tup xs) = false := nr rfl
theorem h_isN_tup {xs} : isNon (.tup xs) = false := nr rfl
theorem h_fz_lst {xs} : fz (.lst xs) = .lst xs := by simp [fz]
theorem h_sh_lst {xs} : isSh (.lst xs) = true := nr rfl
theorem h_fl_lst {xs} : isFlat (.lst xs) = false := nr rfl
theorem h_isN_lst {xs} : isNon (.lst xs) = false := nr rfl
theorem h_fz_dic {ks xs} : fz (.dic ks xs) = .dic ks xs := by simp [fz]
theorem h_sh_dic {ks xs} : isSh (.dic ks xs) = true := nr rfl
theorem h_fl_dic {ks xs} : isFlat (.dic ks xs) = false := nr rfl
theorem h_isN_dic {ks xs} : isNon (.dic ks xs) = false := nr rfl
theorem h_fz_dit {ks xs} : fz (.dit ks xs) = .dit ks xs := by simp [fz]
theorem h_sh_dit {ks xs} : isSh (.dit ks xs) = true := nr rfl
theorem h_fl_dit {ks xs} : isFlat (.dit ks xs) = false := nr rfl
theorem h_isN_dit {ks xs} : isNon (.dit ks xs) = false := nr rfl
theorem h_fz_dig {ks xs} : fz (.dig ks xs) = .dig ks xs := by simp [fz]
theorem h_sh_dig {ks xs} : isSh (.dig ks xs) = true := nr rfl
theorem h_fl_dig {ks xs} : isFlat (.dig ks xs) = false := nr rfl
theorem h_isN_dig {ks xs} : isNon (.dig ks xs) = false := nr rfl
theorem h_fz_ins {c ns xs} : fz (.ins c ns xs) = .ins c ns xs := by simp [fz]
theorem h_sh_ins {c ns xs} : isSh (.ins c ns xs) = true := nr rfl
theorem h_fl_ins {c ns xs} : isFlat (.ins c ns xs) = false := nr rfl
theorem h_isN_ins {c ns xs} : isNon (.ins c ns xs) = false := nr rfl
theorem h_isN_bl {b} : isNon (.bl b) = false := nr rfl
theorem h_fz_olst {xs} : fz (.olst xs) = .lst (fzs xs) := by rw [fz]
theorem h_sh_olst {xs} : isSh (.olst xs) = false := nr rfl
theorem h_fl_olst {xs} : isFlat (.olst xs) = false := nr rfl
theorem h_fz_odic {ks xs} : fz (.odic ks xs) = .dic ks (fzs xs) := by rw [fz]
theorem h_sh_odic {ks xs} : isSh (.odic ks xs) = false := nr rfl
theorem h_fl_odic {ks xs} : isFlat (.odic ks xs) = false := nr rfl
theorem h_fz_odit {ks xs} : fz (.odit ks xs) = .dit ks (fzs xs) := by rw [fz]
theorem h_sh_odit {ks xs} : isSh (.odit ks xs) = false := nr rfl
theorem h_fl_odit {ks xs} : isFlat (.odit ks xs) = false := nr rfl
theorem h_fz_odig {ks xs} : fz (.odig ks xs) = .dig ks (fzs xs) := by rw [fz]
theorem h_sh_odig {ks xs} : isSh (.odig ks xs) = false := nr rfl
theorem h_fl_odig {ks xs} : isFlat (.odig ks xs) = false := nr rfl
theorem h_fz_oins {c ns xs} : fz (.oins c ns xs) = .ins c ns (fzs xs) := by rw [fz]
theorem h_sh_oins {c ns xs} : isSh (.oins c ns xs) = false := nr rfl
theorem h_fl_oins {c ns xs} : isFlat (.oins c ns xs) = false := nr rfl
theorem h_fzs_nil  : fzs [] = [] := by rw [fzs]
theorem h_fzs_cons {x xs} : fzs (x :: xs) = fz x :: fzs xs := by rw [fzs]
theorem h_fzs_app {xs ys} : fzs (xs ++ ys) = fzs xs ++ fzs ys := by rw [fzs_eq, fzs_eq, fzs_eq, List.map_append]
theorem h_tru_bl {b} : truD (.bl b) = some b := nr rfl
theorem h_tru_non  : truD .non = some false := nr rfl
theorem h_tru_int {i} : truD (.int i) = some (decide (i ≠ 0)) := nr rfl
theorem h_tru_lst {ds} : truD (.lst ds) = some (!ds.isEmpty) := nr rfl
theorem h_tru_tup {ds} : truD (.tup ds) = some (!ds.isEmpty) := nr rfl
theorem h_sub {i j} : subD (.int i) (.int j) = some (.int (i - j)) := nr rfl
theorem h_neg {i} : negD (.int i) = some (.int (-i)) := nr rfl
theorem h_addI {i j} : addD (.int i) (.int j) = some (.int (i + j)) := nr rfl
theorem h_addT {xs ys} : addD (.tup xs) (.tup ys) = if xs ≠ [] ∧ xs.length + ys.length ≤ 1000000 then some (.tup (xs ++ ys)) else none := nr rfl
theorem h_addL {xs ys} : addD (.lst xs) (.lst ys) = if xs.length + ys.length ≤ 1000000 then some (.olst (xs ++ ys)) else none := nr rfl
theorem h_addLo {xs ys} : addD (.lst xs) (.olst ys) = if ys.all isSh = true then (if xs.length + ys.length ≤ 1000000 then some (.olst (xs ++ ys)) else none) else none := by by_cases h1 : xs.all isSh = true <;> by_cases h2 : ys.all isSh = true <;> simp only [addD, lstOf, h1, h2, if_true, if_false, and_self, and_true, true_and, and_false, false_and, Bool.false_eq_true]
theorem h_addoL {xs ys} : addD (.olst xs) (.lst ys) = if xs.all isSh = true then (if xs.length + ys.length ≤ 1000000 then some (.olst (xs ++ ys)) else none) else none := by by_cases h1 : xs.all isSh = true <;> by_cases h2 : ys.all isSh = true <;> simp only [addD, lstOf, h1, h2, if_true, if_false, and_self, and_true, true_and, and_false, false_and, Bool.false_eq_true]
theorem h_addoo {xs ys} : addD (.olst xs) (.olst ys) = if xs.all isSh = true ∧ ys.all isSh = true then (if xs.length + ys.length ≤ 1000000 then some (.olst (xs ++ ys)) else none) else none := by by_cases h1 : xs.all isSh = true <;> by_cases h2 : ys.all isSh = true <;> simp only [addD, lstOf, h1, h2, if_true, if_false, and_self, and_true, true_and, and_false, false_and, Bool.false_eq_true]
theorem h_mulL {i j} (h1 : -18446744073709551616 < i) (h2 : i < 18446744073709551616) : mulD (.int i) (.int j) = some (.int (i * j)) := if_pos (.inl ⟨h1, h2⟩)
theorem h_mulR {i j} (h1 : -18446744073709551616 < j) (h2 : j < 18446744073709551616) : mulD (.int i) (.int j) = some (.int (i * j)) := if_pos (.inr (.inl ⟨h1, h2⟩))
theorem h_div {i j} (h1 : 0 < j) (h2 : j < 1073741824) : divD (.int i) (.int j) = some (.int (i / j)) := if_pos ⟨h1, .inl h2⟩
theorem h_mod {i j} (h1 : 0 < j) : modD (.int i) (.int j) = some (.int (i % j)) := if_pos h1
theorem h_eqD {x y} : eqD x y = if okD 60 x = true ∧ okD 60 y = true then some (.bl (eqB x y)) else none := nr rfl
theorem h_neD {x y} : neD x y = if okD 60 x = true ∧ okD 60 y = true then some (.bl (!eqB x y)) else none := nr rfl
theorem h_ok_non {n} : okD n (.non) = true := by cases n <;> simp [okD]
theorem h_ok_bl {n}{b} : okD n (.bl b) = true := by cases n <;> simp [okD]
theorem h_ok_int {n}{i} : okD n (.int i) = true := by cases n <;> simp [okD]
theorem h_ok_str {n}{x} : okD n (.str x) = true := by cases n <;> simp [okD]
theorem h_ok_tup {n xs} : okD (n + 1) (.tup xs) = okDs n xs := by rw [okD]
theorem h_ok_lst {n xs} : okD (n + 1) (.lst xs) = okDs n xs := by rw [okD]
theorem h_oks_nil {n} : okDs n [] = true := by rw [okDs]
theorem h_oks_cons {n x xs} : okDs n (x :: xs) = (okD n x && okDs n xs) := by rw [okDs]
theorem h_eqB_ii {i j} : eqB (.int i) (.int j) = decide (i = j) := by rw [eqB]
theorem h_eqB_ss {x y} : eqB (.str x) (.str y) = decide (x = y) := by rw [eqB]
theorem h_eqB_bb {a b} : eqB (.bl a) (.bl b) = decide (a = b) := by rw [eqB]
theorem h_eqB_nn  : eqB .non .non = true := by rw [eqB]
theorem h_eqB_ni {i} : eqB .non (.int i) = false := by simp [eqB]
theorem h_eqB_in {i} : eqB (.int i) .non = false := by simp [eqB]
theorem h_eqB_nt {xs} : eqB .non (.tup xs) = false := by simp [eqB]
theorem h_eqB_tn {xs} : eqB (.tup xs) .non = false := by simp [eqB]
theorem h_eqB_tt {xs ys} : eqB (.tup xs) (.tup ys) = eqBs xs ys := by rw [eqB]
theorem h_eqB_ll {xs ys} : eqB (.lst xs) (.lst ys) = eqBs xs ys := by rw [eqB]
theorem h_eqBs_nn  : eqBs [] [] = true := by rw [eqBs]
theorem h_eqBs_cc {x xs y ys} : eqBs (x :: xs) (y :: ys) = (eqB x y && eqBs xs ys) := by rw [eqBs]
theorem h_eqBs_nc {y ys} : eqBs [] (y :: ys) = false := by simp [eqBs]
theorem h_eqBs_cn {y ys} : eqBs (y :: ys) [] = false := by simp [eqBs]
theorem h_cmp {f i j} : cmpD f (.int i) (.int j) = some (.bl (f i j)) := nr rfl
theorem h_ltI {i j} : ltD (.int i) (.int j) = some (.bl (decide (i < j))) := nr rfl
theorem h_ltT {xs ys} : ltD (.tup xs) (.tup ys) = (intsOf xs).bind fun ns => (intsOf ys).map fun ms => .bl (HT.lexLt ns ms) := nr rfl
theorem h_ints_nil  : intsOf [] = some [] := nr rfl
theorem h_ints_cons {i ds} : intsOf (.int i :: ds) = (intsOf ds).map (i :: ·) := nr rfl
theorem h_intI {i} : intD [.int i] = some (.int i) := nr rfl
theorem h_intB {b} : intD [.bl b] = some (.int (if b = true then 1 else 0)) := nr rfl
theorem h_abs {i} : absD [.int i] = some (.int (if i < 0 then -i else i)) := nr rfl
theorem h_max2 {i j} : max2D [.int i, .int j] = some (.int (if j > i then j else i)) := nr rfl
theorem h_min2 {i j} : min2D [.int i, .int j] = some (.int (if j < i then j else i)) := nr rfl
theorem h_lenL {ds} : lenD [.lst ds] = some (.int ds.length) := nr rfl
theorem h_lenT {ds} : lenD [.tup ds] = some (.int ds.length) := nr rfl
theorem h_lenS {ns} : lenD [.scr ns] = some (.int ns.length) := nr rfl
theorem h_ix {d i} : ixD d (.int i) = (itemsD d).bind fun xs => atI xs i := nr rfl
theorem h_it_lst {xs} : itemsD (.lst xs) = some xs := nr rfl
theorem h_it_olst {xs} : itemsD (.olst xs) = some xs := nr rfl
theorem h_it_tup {xs} : itemsD (.tup xs) = some xs := nr rfl
theorem h_it_scr {ns} : itemsD (.scr ns) = some (ns.map .int) := nr rfl
theorem h_at0 {α : Type} {x : α} {xs} : atI (x :: xs) 0 = some x := by simp [atI, ixN]
theorem h_at1 {α : Type} {xs : List α} : atI xs 1 = xs[1]? := atI_litN 1
theorem h_at2 {α : Type} {xs : List α} : atI xs 2 = xs[2]? := atI_litN 2
theorem h_at3 {α : Type} {xs : List α} : atI xs 3 = xs[3]? := atI_litN 3
theorem h_at4 {α : Type} {xs : List α} : atI xs 4 = xs[4]? := atI_litN 4
theorem h_at5 {α : Type} {xs : List α} : atI xs 5 = xs[5]? := atI_litN 5
theorem h_at6 {α : Type} {xs : List α} : atI xs 6 = xs[6]? := atI_litN 6
theorem h_at7 {α : Type} {xs : List α} : atI xs 7 = xs[7]? := atI_litN 7
theorem h_at8 {α : Type} {xs : List α} : atI xs 8 = xs[8]? := atI_litN 8
theorem h_at9 {α : Type} {xs : List α} : atI xs 9 = xs[9]? := atI_litN 9
theorem h_at10 {α : Type} {xs : List α} : atI xs 10 = xs[10]? := atI_litN 10
theorem h_at11 {α : Type} {xs : List α} : atI xs 11 = xs[11]? := atI_litN 11
theorem h_at12 {α : Type} {xs : List α} : atI xs 12 = xs[12]? := atI_litN 12
theorem h_atm1 {α : Type} {xs : List α} : atI xs (-1) = xs.getLast? := atI_last
theorem h_seq_lst {xs} : seqOf (.lst xs) = some (false, xs) := nr rfl
theorem h_seq_tup {xs} : seqOf (.tup xs) = some (true, xs) := nr rfl
theorem h_seq_olst {xs} : seqOf (.olst xs) = if xs.all isSh = true then some (false, xs) else none := nr rfl
theorem h_seq_scr {ns} : seqOf (.scr ns) = some (false, ns.map .int) := nr rfl
theorem h_sF_lst {xs} : seqF (.lst xs) = some xs := nr rfl
theorem h_sF_tup {xs} : seqF (.tup xs) = some xs := nr rfl
theorem h_sF_scr {ns} : seqF (.scr ns) = some (ns.map .int) := nr rfl
theorem h_lF_lst {xs} : lstF (.lst xs) = some xs := nr rfl
theorem h_ty_non  : tyD (.non) = some (false, "NoneType") := nr rfl
theorem h_ty_bl {b} : tyD (.bl b) = some (false, "bool") := nr rfl
theorem h_ty_int {i} : tyD (.int i) = some (false, "int") := nr rfl
theorem h_ty_str {x} : tyD (.str x) = some (false, "str") := nr rfl
theorem h_ty_lst {xs} : tyD (.lst xs) = some (false, "list") := nr rfl
theorem h_ty_tup {xs} : tyD (.tup xs) = some (false, "tuple") := nr rfl
theorem h_ty_ins {c ns xs} : tyD (.ins c ns xs) = some (true, c) := nr rfl
theorem h_isi_bb {T : Tbl} {a b} : isi1 T (false, a) (false, b) = isiB a b := nr rfl
theorem h_isi_bo {T : Tbl} {a b} : isi1 T (false, a) (true, b) = false := nr rfl
theorem h_isi_ob {T : Tbl} {a b} : isi1 T (true, a) (false, b) = false := nr rfl
theorem h_isi_oo {T : Tbl} {a b} : isi1 T (true, a) (true, b) = T.sub a b := nr rfl
theorem h_isiA_n {T : Tbl} {t} : isiA T t [] = false := nr rfl
theorem h_isiA_c {T : Tbl} {t c cs} : isiA T t (c :: cs) = (isi1 T t c || isiA T t cs) := nr rfl
theorem h_isiB_NoneType_bool  : isiB "NoneType" "bool" = false := by decide
theorem h_isiB_NoneType_int  : isiB "NoneType" "int" = false := by decide
theorem h_isiB_NoneType_str  : isiB "NoneType" "str" = false := by decide
theorem h_isiB_NoneType_list  : isiB "NoneType" "list" = false := by decide
theorem h_isiB_NoneType_tuple  : isiB "NoneType" "tuple" = false := by decide
theorem h_isiB_NoneType_dict  : isiB "NoneType" "dict" = false := by decide
theorem h_isiB_bool_bool  : isiB "bool" "bool" = true := by decide
theorem h_isiB_bool_int  : isiB "bool" "int" = true := by decide
theorem h_isiB_bool_str  : isiB "bool" "str" = false := by decide
theorem h_isiB_bool_list  : isiB "bool" "list" = false := by decide
theorem h_isiB_bool_tuple  : isiB "bool" "tuple" = false := by decide
theorem h_isiB_bool_dict  : isiB "bool" "dict" = false := by decide
theorem h_isiB_int_bool  : isiB "int" "bool" = false := by decide
theorem h_isiB_int_int  : isiB "int" "int" = true := by decide
theorem h_isiB_int_str  : isiB "int" "str" = false := by decide
theorem h_isiB_int_list  : isiB "int" "list" = false := by decide
theorem h_isiB_int_tuple  : isiB "int" "tuple" = false := by decide
theorem h_isiB_int_dict  : isiB "int" "dict" = false := by decide
theorem h_isiB_str_bool  : isiB "str" "bool" = false := by decide
theorem h_isiB_str_int  : isiB "str" "int" = false := by decide
theorem h_isiB_str_str  : isiB "str" "str" = true := by decide
theorem h_isiB_str_list  : isiB "str" "list" = false := by decide
theorem h_isiB_str_tuple  : isiB "str" "tuple" = false := by decide
theorem h_isiB_str_dict  : isiB "str" "dict" = false := by decide
theorem h_isiB_list_bool  : isiB "list" "bool" = false := by decide
theorem h_isiB_list_int  : isiB "list" "int" = false := by decide
theorem h_isiB_list_str  : isiB "list" "str" = false := by decide
theorem h_isiB_list_list  : isiB "list" "list" = true := by decide
theorem h_isiB_list_tuple  : isiB "list" "tuple" = false := by decide
theorem h_isiB_list_dict  : isiB "list" "dict" = false := by decide
theorem h_isiB_tuple_bool  : isiB "tuple" "bool" = false := by decide
theorem h_isiB_tuple_int  : isiB "tuple" "int" = false := by decide
theorem h_isiB_tuple_str  : isiB "tuple" "str" = false := by decide
theorem h_isiB_tuple_list  : isiB "tuple" "list" = false := by decide
theorem h_isiB_tuple_tuple  : isiB "tuple" "tuple" = true := by decide
theorem h_isiB_tuple_dict  : isiB "tuple" "dict" = false := by decide
theorem h_isiB_dict_bool  : isiB "dict" "bool" = false := by decide
theorem h_isiB_dict_int  : isiB "dict" "int" = false := by decide
theorem h_isiB_dict_str  : isiB "dict" "str" = false := by decide
theorem h_isiB_dict_list  : isiB "dict" "list" = false := by decide
theorem h_isiB_dict_tuple  : isiB "dict" "tuple" = false := by decide
theorem h_isiB_dict_dict  : isiB "dict" "dict" = true := by decide
theorem h_append {xs d} : appendD (.olst xs) [d] = if xs.length < 1000000 then some (.olst (xs ++ [d]), .non) else none := nr rfl
theorem h_extL {xs ys} : extendD (.olst xs) [.lst ys] = if xs.length + ys.length ≤ 1000000 then some (.olst (xs ++ ys), .non) else none := nr rfl
theorem h_extO {xs ys} : extendD (.olst xs) [.olst ys] = if xs.length + ys.length ≤ 1000000 then some (.olst (xs ++ ys), .non) else none := nr rfl
theorem h_pop {xs} : popD (.olst xs) [] = (xs.getLast?).map fun x => (.olst xs.dropLast, x) := nr rfl
theorem h_rev {xs} : reverseD (.olst xs) [] = if xs.all isSh = true then some (.olst xs.reverse, .non) else none := nr rfl
theorem h_clear {xs} : clearD (.olst xs) [] = some (.olst [], .non) := nr rfl
theorem h_insert {xs i d} : insertD (.olst xs) [.int i, d] = if xs.all isSh = true ∧ xs.length < 1000000 ∧ 0 ≤ i ∧ i < 1000000 then some (.olst (xs.take i.toNat ++ [d] ++ xs.drop i.toNat), .non) else none := nr rfl
theorem h_put0 {d n : D} : D.putAt d [] n = n := nr rfl
theorem h_rng1 {n} : rng1D [.int n] = guardB (rngOk n) (some (rangeD 0 n.toNat)) := nr rfl
theorem h_rng2 {m n} : rng2D [.int m, .int n] = guardB (rngOk m && rngOk n) (some (rangeD m (n - m).toNat)) := nr rfl
theorem h_guard1 {α : Type} {x : Option α} : guardB true x = x := nr rfl
theorem h_guard0 {α : Type} {x : Option α} : guardB false x = none := nr rfl
theorem h_rngOk {i : Int} (h1 : -1000000000000000000 ≤ i) (h2 : i ≤ 1000000000000000000) : rngOk i = true := Nat.ble_eq_true_of_le (by omega)
theorem h_forLn {f env} : forL f [] env = .nx env := nr rfl
theorem h_forLc {f d ds env} : forL f (d :: ds) env = forT f ds (f d env) := by show (match f d env with | .nx e => _ | .ct e => _ | .bk e => _ | r => r) = _; cases f d env <;> rfl
theorem h_forT_nx {f ds e} : forT f ds (.nx e) = forL f ds e := nr rfl
theorem h_forT_ct {f ds e} : forT f ds (.ct e) = forL f ds e := nr rfl
theorem h_forT_bk {f ds e} : forT f ds (.bk e) = .nx e := nr rfl
theorem h_forT_rt {f ds d e} : forT f ds (.rt d e) = .rt d e := nr rfl
theorem h_forT_ex {f ds x e} : forT f ds (.ex x e) = .ex x e := nr rfl
theorem h_lc1 {T : Tbl} {W : Wd T} {g : XG W} {c : XT W} {x : XP W} {env d} : lc1 g c x env d = lcK c x (g.ev [] d env) := by show (g.ev [] d env).bind _ = _; cases g.ev [] d env <;> rfl
theorem h_lcK {T : Tbl} {W : Wd T} {c : XT W} {x : XP W} {e} : lcK c x (some e) = lcJ x (c.ev e) e := nr rfl
theorem h_lcJ1 {T : Tbl} {W : Wd T} {x : XP W} {e} : lcJ x (some true) e = (x.evO e).map fun y => [y] := nr rfl
theorem h_lcJ0 {T : Tbl} {W : Wd T} {x : XP W} {e} : lcJ x (some false) e = some [] := nr rfl
theorem h_wipe0 {env} : wipeE env [] = env := nr rfl
theorem h_wipes {env v vs} : wipeE env (v :: vs) = (wipeE env vs).set v none := nr rfl
theorem h_frz {env i} : frzS env i = frzO env i (getS env i) := by unfold frzS frzO; cases getS env i <;> rfl
theorem h_frzO {env i d} : frzO env i (some d) = env.set i (some (fz d)) := nr rfl
theorem h_frzOn {env i} : frzO env i none = env := nr rfl
theorem h_runR_rt {b d env} : runR b (.rt d env) = retZ (bGet b env) d := by cases hb : bGet b env <;> simp [runR, retZ, hb]
theorem h_runR_nx {b env} : runR b (.nx env) = retZ (bGet b env) .non := by cases hb : bGet b env <;> simp [runR, retZ, hb]
theorem h_retZ {x d} : retZ (some x) d = .ok d x := nr rfl
theorem h_bGetn {env} : bGet none env = some none := nr rfl
theorem h_bGets {i env} : bGet (some i) env = (getS env i).map some := nr rfl
theorem h_setS {P i d env} : setS P i d env = if i < env.length ∧ i ∉ P then some (env.set i (some d)) else none := nr rfl
theorem h_ipD {f i j} : ipD f (.int i) (.int j) = some (.int (f i j)) := nr rfl
theorem h_fldI {T : Tbl} {f c ns xs} : fldD T f (.ins c ns xs) = if T.fOk c f = true then (pos f ns).bind fun j => xs[j]? else none := nr rfl
theorem h_fldO {T : Tbl} {f c ns xs} : fldD T f (.oins c ns xs) = if T.fOk c f = true then (pos f ns).bind fun j => xs[j]? else none := nr rfl
theorem h_sfld {T : Tbl} {f c ns xs st} : subFld T f (st, .oins c ns xs) = if T.fOk c f = true then ((pos f ns).bind fun j => xs[j]?).map fun x => (st ++ [.fld f], x) else none := nr rfl
theorem h_six {xs i st} : subIx (st, .olst xs) (.int i) = (ixN xs.length i).bind fun j => (xs[j]?).map fun x => (st ++ [.idx j], x) := nr rfl
theorem h_iteFd1 {p : Prop} [Decidable p] {s u e} (h : p) : iteF (some (decide p)) s u e = s e := by rw [decide_eq_true h]; rfl
theorem h_iteFd0 {p : Prop} [Decidable p] {s u e} (h : ¬ p) : iteF (some (decide p)) s u e = u e := by rw [decide_eq_false h]; rfl
theorem h_iteFe1 {p : Prop} [Decidable p] {s u e} (h : ¬ p) : iteF (some (!decide p)) s u e = s e := by rw [decide_eq_false h]; rfl
theorem h_iteFe0 {p : Prop} [Decidable p] {s u e} (h : p) : iteF (some (!decide p)) s u e = u e := by rw [decide_eq_true h]; rfl
theorem h_andFd1 {p : Prop} [Decidable p] {s e} (h : p) : andF (some (decide p)) s e = s e := by rw [decide_eq_true h]; rfl
theorem h_andFd0 {p : Prop} [Decidable p] {s e} (h : ¬ p) : andF (some (decide p)) s e = some false := by rw [decide_eq_false h]; rfl
theorem h_andFe1 {p : Prop} [Decidable p] {s e} (h : ¬ p) : andF (some (!decide p)) s e = s e := by rw [decide_eq_false h]; rfl
theorem h_andFe0 {p : Prop} [Decidable p] {s e} (h : p) : andF (some (!decide p)) s e = some false := by rw [decide_eq_true h]; rfl
theorem h_orFd1 {p : Prop} [Decidable p] {s e} (h : p) : orF (some (decide p)) s e = some true := by rw [decide_eq_true h]; rfl
theorem h_orFd0 {p : Prop} [Decidable p] {s e} (h : ¬ p) : orF (some (decide p)) s e = s e := by rw [decide_eq_false h]; rfl
theorem h_orFe1 {p : Prop} [Decidable p] {s e} (h : ¬ p) : orF (some (!decide p)) s e = some true := by rw [decide_eq_false h]; rfl
theorem h_orFe0 {p : Prop} [Decidable p] {s e} (h : p) : orF (some (!decide p)) s e = s e := by rw [decide_eq_true h]; rfl
theorem h_ifFd1 {p : Prop} [Decidable p] {s u e} (h : p) : ifF (some (decide p)) s u e = s e := by rw [decide_eq_true h]; rfl
theorem h_ifFd0 {p : Prop} [Decidable p] {s u e} (h : ¬ p) : ifF (some (decide p)) s u e = u e := by rw [decide_eq_false h]; rfl
theorem h_ifFe1 {p : Prop} [Decidable p] {s u e} (h : ¬ p) : ifF (some (!decide p)) s u e = s e := by rw [decide_eq_false h]; rfl
theorem h_ifFe0 {p : Prop} [Decidable p] {s u e} (h : p) : ifF (some (!decide p)) s u e = u e := by rw [decide_eq_true h]; rfl
theorem h_lcJd1 {T : Tbl} {W : Wd T} {x : XP W} {e} {p : Prop} [Decidable p] (h : p) : lcJ x (some (decide p)) e = (x.evO e).map fun y => [y] := by rw [decide_eq_true h]; rfl
theorem h_lcJd0 {T : Tbl} {W : Wd T} {x : XP W} {e} {p : Prop} [Decidable p] (h : ¬ p) : lcJ x (some (decide p)) e = some [] := by rw [decide_eq_false h]; rfl
theorem h_lcJe1 {T : Tbl} {W : Wd T} {x : XP W} {e} {p : Prop} [Decidable p] (h : ¬ p) : lcJ x (some (!decide p)) e = (x.evO e).map fun y => [y] := by rw [decide_eq_false h]; rfl
theorem h_lcJe0 {T : Tbl} {W : Wd T} {x : XP W} {e} {p : Prop} [Decidable p] (h : p) : lcJ x (some (!decide p)) e = some [] := by rw [decide_eq_true h]; rfl
theorem h_eMeth {T : Tbl} {W : Wd T} {φ : Sem} {m n} {a : XP W} {as : XA W} {env} : (xMeth φ m n a as).ev env = methE T φ m n (a.evF env) (as.evF env) (a.evV env) (as.evV env) := nr rfl
theorem h_methF {T : Tbl} {φ : Sem} {m n d ds v vs} : methE T φ m n (some d) (some ds) v vs = (meth1 T φ m n (d :: ds)).toF := nr rfl
theorem h_methV {T : Tbl} {φ : Sem} {m n fs d ds} : methE T φ m n none fs (some d) (some ds) = (meth1 T φ m n (d :: ds)).toV := nr rfl
theorem h_methW {T : Tbl} {φ : Sem} {m n f d ds} : methE T φ m n (some f) none (some d) (some ds) = (meth1 T φ m n (d :: ds)).toV := nr rfl
theorem h_eCallO {T : Tbl} {W : Wd T} {φ : Sem} {n} {a : XP W} {as : XA W} {env} : (xCallO φ n a as).ev env = callOE T φ n (a.evF env) (as.evF env) (a.evV env) (as.evV env) := nr rfl
theorem h_callOF {T : Tbl} {φ : Sem} {n d ds v vs} : callOE T φ n (some d) (some ds) v vs = (callO1 T φ n (d :: ds)).toF := nr rfl
theorem h_callOV {T : Tbl} {φ : Sem} {n fs d ds} : callOE T φ n none fs (some d) (some ds) = (callO1 T φ n (d :: ds)).toV := nr rfl
theorem h_callOW {T : Tbl} {φ : Sem} {n f d ds} : callOE T φ n (some f) none (some d) (some ds) = (callO1 T φ n (d :: ds)).toV := nr rfl
theorem h_callO1 {T : Tbl} {φ : Sem} {n c ns xs ds} : callO1 T φ n (.ins c ns xs :: ds) = resE (T.res c "__call__") fun nm => if ds.length + 1 = n then φ nm (.ins c ns xs :: ds) none else .no := by show (match T.res c "__call__" with | some nm => _ | none => _) = _; cases T.res c "__call__" <;> rfl
theorem h_meth1 {T : Tbl} {φ : Sem} {m n c ns xs ds} : meth1 T φ m n (.ins c ns xs :: ds) = resE (T.res c m) fun nm => if pos m ns = none ∧ ds.length + 1 = n then φ nm (.ins c ns xs :: ds) none else .no := by show (match T.res c m with | some nm => _ | none => _) = _; cases T.res c m <;> rfl
theorem h_meth2 {T : Tbl} {φ : Sem} {m n c ns xs ds} : meth2 T φ m n (.oins c ns xs :: ds) = resE (T.res c m) fun nm => if pos m ns = none ∧ ds.length + 1 = n then φ nm (.oins c ns xs :: ds) (some 0) else .no := by show (match T.res c m with | some nm => _ | none => _) = _; cases T.res c m <;> rfl
theorem h_resE {nm f} : resE (some nm) f = f nm := nr rfl
theorem h_resEn {f} : resE none f = .no := nr rfl
theorem h_posn {m : String} : pos m [] = none := nr rfl
theorem h_posc {m n : String} {ns} : pos m (n :: ns) = if n = m then some 0 else (pos m ns).map (· + 1) := nr rfl
theorem h_eMmeth {T : Tbl} {W : Wd T} {φ : Sem} {m n} {p : XPl W} {as : XA W} {P env} : (xmMeth φ m n p as).ev P env = methM T φ m n p.root (p.ev env) (as.evF env) env := nr rfl
theorem h_methM1 {T : Tbl} {φ : Sem} {m n i st c ns xs ds env} : methM T φ m n i (some (st, .oins c ns xs)) (some ds) env = rm1 (meth2 T φ m n (.oins c ns xs :: ds)) (getS env i) i st env := nr rfl
theorem h_methM0 {T : Tbl} {φ : Sem} {m n i st c ns xs ds env} : methM T φ m n i (some (st, .ins c ns xs)) (some ds) env = rm0 (meth1 T φ m n (.ins c ns xs :: ds)) env := nr rfl
theorem h_rm0o {d b e} : rm0 (.ok d b) e = .ok d e := nr rfl
theorem h_rm0x {x b e} : rm0 (.exn x b) e = .exn x e := nr rfl
theorem h_rm0n {e} : rm0 .no e = .no := nr rfl
theorem h_rm1o {d n d0 i st e} : rm1 (.ok d (some n)) (some d0) i st e = .ok d (e.set i (some (d0.putAt st n))) := nr rfl
theorem h_rm1x {x n d0 i st e} : rm1 (.exn x (some n)) (some d0) i st e = .exn x (e.set i (some (d0.putAt st n))) := nr rfl
theorem h_putc {d : D} {s st n} : D.putAt d (s :: st) n = putE d s st n (d.sub s) := by show (match d.sub s with | some x => _ | none => _) = _; cases d.sub s <;> rfl
theorem h_putE {d : D} {s st n x} : putE d s st n (some x) = d.put s (x.putAt st n) := nr rfl
theorem h_subF {c ns xs f} : D.sub (.oins c ns xs) (.fld f) = (pos f ns).bind fun j => xs[j]? := nr rfl
theorem h_subI {xs k} : D.sub (.olst xs) (.idx k) = xs[k]? := nr rfl
theorem h_putF {c ns xs f y} : D.put (.oins c ns xs) (.fld f) y = .oins c ns (setO xs (pos f ns) y) := by show (match pos f ns with | some j => _ | none => _) = _; cases pos f ns <;> rfl
theorem h_putI {xs k y} : D.put (.olst xs) (.idx k) y = .olst (xs.set k y) := nr rfl
theorem h_setOs {xs : List D} {j y} : setO xs (some j) y = xs.set j y := nr rfl
theorem h_eSfld {T : Tbl} {W : Wd T} {p : XPl W} {f} {m : XM W} {P env} : (xsFld p f m).ev P env = (m.ev P env).thenS (fldK T p f) := nr rfl
theorem h_fldK {T : Tbl} {W : Wd T} {p : XPl W} {f d e} : fldK T p f d e = RS.ofO ((p.ev e).bind fun q => (setFD T f q.2 [d]).bind fun z => (getS e p.root).map fun d0 => e.set p.root (some (d0.putAt q.1 z.1))) := nr rfl
theorem h_setFD {T : Tbl} {f c ns xs d} : setFD T f (.oins c ns xs) [d] = if T.fOk c f = true ∧ ns.length < 1000 then some (.oins c (setF f d ns xs).1 (setF f d ns xs).2, .non) else none := nr rfl
theorem h_setFn {f d} : setF f d [] [] = ([f], [d]) := nr rfl
theorem h_setFc {f d n ns x xs} : setF f d (n :: ns) (x :: xs) = if n = f then (n :: ns, d :: xs) else ((n :: (setF f d ns xs).1), x :: (setF f d ns xs).2) := nr rfl
theorem h_eMake {T : Tbl} {W : Wd T} {φ : Sem} {c ini n} {as : XA W} {dds dvs hd env} : (xMake φ c ini n as dds dvs hd).ev env = makeE φ c ini n dds (as.evF env) (as.evV env) := nr rfl
theorem h_makeF {φ : Sem} {c ini n dds ds v} : makeE φ c ini n dds (some ds) v = (mk1 φ c ini n (ds ++ dds)).map (Prod.mk .fr) := nr rfl
theorem h_makeV {φ : Sem} {c ini n dds ds} : makeE φ c ini n dds none (some ds) = (mk1 φ c ini n (ds ++ dds)).map fun d => (.vw, fz d) := nr rfl
theorem h_mk1 {φ : Sem} {c ini n ds} : mk1 φ c ini n ds = if ds.length + 1 = n then mkR (φ ini (.oins c [] [] :: ds) (some 0)) else none := nr rfl
theorem h_mkR {d} : mkR (.ok .non (some d)) = some d := nr rfl
theorem h_eProp {T : Tbl} {W : Wd T} {φ : Sem} {m} {a : XP W} {env} : (xProp φ m a).ev env = propE T φ m (a.evF env) (a.evV env) := nr rfl
theorem h_propF {T : Tbl} {φ : Sem} {m d v} : propE T φ m (some d) v = (prop1 T φ m d).toF := nr rfl
theorem h_propV {T : Tbl} {φ : Sem} {m d} : propE T φ m none (some d) = (prop1 T φ m d).toV := nr rfl
theorem h_prop1 {T : Tbl} {φ : Sem} {m c ns xs} : prop1 T φ m (.ins c ns xs) = resE (T.res c m) fun nm => φ nm [.ins c ns xs] none := by show (match T.res c m with | some nm => _ | none => _) = _; cases T.res c m <;> rfl
theorem h_eLenU {T : Tbl} {W : Wd T} {φ : Sem} {as : XA W} {env} : (xLenU φ as).ev env = (as.evV env).bind fun ds => (lenI1 T φ ds).map (Prod.mk .fr) := nr rfl
theorem h_lenI_lst {T : Tbl} {φ : Sem} {xs} : lenI1 T φ [.lst xs] = lenD [.lst xs] := nr rfl
theorem h_lenI_tup {T : Tbl} {φ : Sem} {xs} : lenI1 T φ [.tup xs] = lenD [.tup xs] := nr rfl
theorem h_lenI_scr {T : Tbl} {φ : Sem} {xs} : lenI1 T φ [.scr xs] = lenD [.scr xs] := nr rfl
theorem h_lenI_ins {T : Tbl} {φ : Sem} {c ns xs} : lenI1 T φ [.ins c ns xs] = lenQ (T.res c "__len__") fun nm => lenR (φ nm [.ins c ns xs] none) := by show (match T.res c "__len__" with | some nm => _ | none => _) = _; cases T.res c "__len__" <;> rfl
theorem h_lenQ {nm f} : lenQ (some nm) f = f nm := nr rfl
theorem h_lenR {i b} : lenR (.ok (.int i) b) = if 0 ≤ i ∧ i ≤ 1000000 then some (.int i) else none := nr rfl
theorem h_eSl {T : Tbl} {W : Wd T} {a : XP W} {lo hi env} : (xSl a lo hi).ev env = slE (a.evK env) (evI lo env) (evI hi env) := nr rfl
theorem h_slE {d l u} : slE (some d) (some l) (some u) = (seqOf d).bind fun p => if p.1 = false then some (.fr, .olst (cutL p.2 l u)) else none := nr rfl
theorem h_evI0 {T : Tbl} {W : Wd T} {env} : evI (W := W) none env = some none := nr rfl
theorem h_evI1 {T : Tbl} {W : Wd T} {p : XP W} {env} : evI (some p) env = (p.evV env).bind intO := nr rfl
theorem h_intO {i} : intO (.int i) = some (some i) := nr rfl
theorem h_eSortR {T : Tbl} {W : Wd T} {a : XP W} {env} : (xSortedR a).ev env = (a.evK env).bind fun d => (seqOf d).bind fun p => if p.1 = false then (sortDR p.2).map fun ys => (.fr, .olst ys) else none := nr rfl
theorem h_eMs0 {T : Tbl} {W : Wd T} {P env} : (xmsNil W).ev P env = .ok [] env := nr rfl
theorem h_eMs1 {T : Tbl} {W : Wd T} {m : XM W} {ms : XMs W} {P env} : (xmsCons m ms).ev P env = (m.ev P env).thenL (consK ms P) := nr rfl
theorem h_RMthenL_ok {d e f} : RM.thenL (.ok d e) f = f d e := nr rfl
theorem h_RLthenL_ok {d e f} : RL.thenL (.ok d e) f = f d e := nr rfl
theorem h_RLthenM_ok {d e f} : RL.thenM (.ok d e) f = f d e := nr rfl
theorem h_RMthenM_ok {d e f} : RM.thenM (.ok d e) f = f d e := nr rfl
theorem h_RMthenT_ok {d e f} : RM.thenT (.ok d e) f = f d e := nr rfl
theorem h_RTthen_ok {d e f} : RT.then (.ok d e) f = f d e := nr rfl
theorem h_RTthenS_ok {d e f} : RT.thenS (.ok d e) f = f d e := nr rfl
theorem h_RMthenL_exn {x e f} : RM.thenL (.exn x e) f = .exn x e := nr rfl
theorem h_RLthenL_exn {x e f} : RL.thenL (.exn x e) f = .exn x e := nr rfl
theorem h_RLthenM_exn {x e f} : RL.thenM (.exn x e) f = .exn x e := nr rfl
theorem h_RMthenM_exn {x e f} : RM.thenM (.exn x e) f = .exn x e := nr rfl
theorem h_RMthenT_exn {x e f} : RM.thenT (.exn x e) f = .exn x e := nr rfl
theorem h_RTthen_exn {x e f} : RT.then (.exn x e) f = .exn x e := nr rfl
theorem h_RTthenS_exn {x e f} : RT.thenS (.exn x e) f = .ex x e := nr rfl
theorem h_consK {T : Tbl} {W : Wd T} {ms : XMs W} {P d e} : consK ms P d e = (ms.ev P e).thenL (consL (fz d)) := nr rfl
theorem h_consL {d ds e} : consL d ds e = .ok (d :: ds) e := nr rfl
theorem h_eCallM {T : Tbl} {W : Wd T} {φ n} {ms : XMs W} {dds dvs hd P env} : (xmCallM φ n ms dds dvs hd).ev P env = (ms.ev P env).thenM (callM φ n dds) := nr rfl
theorem h_callM {φ : List D → Option Nat → Rz} {n dds ds e} : callM φ n dds ds e = if (ds ++ dds).length = n then rm0 (φ (ds ++ dds) none) e else .no := nr rfl
theorem h_etmT {T : Tbl} {W : Wd T} {c : XT W} {P env} : (xtmT c).ev P env = RT.of (c.ev env) env := nr rfl
theorem h_etmTru {T : Tbl} {W : Wd T} {m : XM W} {P env} : (xtmTru m).ev P env = (m.ev P env).thenT truK := nr rfl
theorem h_etmNot {T : Tbl} {W : Wd T} {c : XTM W} {P env} : (xtmNot c).ev P env = (c.ev P env).then notK := nr rfl
theorem h_etmAnd {T : Tbl} {W : Wd T} {c u : XTM W} {P env} : (xtmAnd c u).ev P env = (c.ev P env).then (andK u P) := nr rfl
theorem h_etmOr {T : Tbl} {W : Wd T} {c u : XTM W} {P env} : (xtmOr c u).ev P env = (c.ev P env).then (orK u P) := nr rfl
theorem h_RTof {b e} : RT.of (some b) e = .ok b e := nr rfl
theorem h_truK {d e} : truK d e = RT.of (truD (fz d)) e := nr rfl
theorem h_notK {b e} : notK b e = .ok (!b) e := nr rfl
theorem h_andK1 {T : Tbl} {W : Wd T} {u : XTM W} {P e} : andK u P true e = u.ev P e := nr rfl
theorem h_andK0 {T : Tbl} {W : Wd T} {u : XTM W} {P e} : andK u P false e = .ok false e := nr rfl
theorem h_orK1 {T : Tbl} {W : Wd T} {u : XTM W} {P e} : orK u P true e = .ok true e := nr rfl
theorem h_orK0 {T : Tbl} {W : Wd T} {u : XTM W} {P e} : orK u P false e = u.ev P e := nr rfl
theorem h_esIfM {T : Tbl} {W : Wd T} {c : XTM W} {s u : XS W} {P env} : (xsIfM c s u).ev P env = (c.ev P env).thenS (ifK s u P) := nr rfl
theorem h_ifK1 {T : Tbl} {W : Wd T} {s u : XS W} {P e} : ifK s u P true e = s.ev P e := nr rfl
theorem h_ifK0 {T : Tbl} {W : Wd T} {s u : XS W} {P e} : ifK s u P false e = u.ev P e := nr rfl
theorem h_eOpL {T : Tbl} {W : Wd T} {r f hh} {m : XM W} {b : XP W} {P env} : (xmOpL (W := W) r f hh m b).ev P env = (m.ev P env).thenM (opK f b) := nr rfl
theorem h_opK {T : Tbl} {W : Wd T} {f} {b : XP W} {d e} : opK f b d e = RM.of ((b.evV e).bind fun y => f (fz d) y) e := nr rfl
theorem h_andKd1 {T : Tbl} {W : Wd T} {u : XTM W} {P e} {p : Prop} [Decidable p] (h : p) : andK u P (decide p) e = u.ev P e := by rw [decide_eq_true h]; rfl
theorem h_andKd0 {T : Tbl} {W : Wd T} {u : XTM W} {P e} {p : Prop} [Decidable p] (h : ¬ p) : andK u P (decide p) e = .ok false e := by rw [decide_eq_false h]; rfl
theorem h_orKd1 {T : Tbl} {W : Wd T} {u : XTM W} {P e} {p : Prop} [Decidable p] (h : p) : orK u P (decide p) e = .ok true e := by rw [decide_eq_true h]; rfl
theorem h_orKd0 {T : Tbl} {W : Wd T} {u : XTM W} {P e} {p : Prop} [Decidable p] (h : ¬ p) : orK u P (decide p) e = u.ev P e := by rw [decide_eq_false h]; rfl
theorem h_ifKd1 {T : Tbl} {W : Wd T} {s u : XS W} {P e} {p : Prop} [Decidable p] (h : p) : ifK s u P (decide p) e = s.ev P e := by rw [decide_eq_true h]; rfl
theorem h_ifKd0 {T : Tbl} {W : Wd T} {s u : XS W} {P e} {p : Prop} [Decidable p] (h : ¬ p) : ifK s u P (decide p) e = u.ev P e := by rw [decide_eq_false h]; rfl
theorem h_eFz {T : Tbl} {W : Wd T} {a : XP W} {env} : (xFz a).ev env = (a.evF env).map (Prod.mk .fr) := nr rfl
theorem h_eListU {T : Tbl} {W : Wd T} {φ : Sem} {a : XP W} {env} : (xListU φ a).ev env = (a.evK env).bind (lstE T φ) := nr rfl
theorem h_lstE_lst {T : Tbl} {φ : Sem} {xs} : lstE T φ (.lst xs) = some (.fr, .olst xs) := nr rfl
theorem h_lstE_tup {T : Tbl} {φ : Sem} {xs} : lstE T φ (.tup xs) = some (.fr, .olst xs) := nr rfl
theorem h_lstE_scr {T : Tbl} {φ : Sem} {ns} : lstE T φ (.scr ns) = some (.fr, .olst (ns.map .int)) := nr rfl
theorem h_lstE_olst {T : Tbl} {φ : Sem} {xs} : lstE T φ (.olst xs) = if xs.all isSh = true then some (.fr, .olst xs) else none := by by_cases h : xs.all isSh = true <;> simp only [lstE, seqOf, itOf, h, if_true, if_false, Option.bind_none, Bool.false_eq_true]
theorem h_lstE_ins {T : Tbl} {φ : Sem} {c ns xs} : lstE T φ (.ins c ns xs) = itQ (itOf T (.ins c ns xs)) fun zs => (lenI1 T φ [.ins c ns xs]).bind fun _ => if zs.length ≤ 1000000 then some (.fr, .olst zs) else none := by unfold lstE; show (itOf T (.ins c ns xs)).bind _ = _; rw [fz_isSh rfl]; cases itOf T (.ins c ns xs) <;> rfl
theorem h_itQ {zs f} : itQ (some zs) f = f zs := nr rfl
theorem h_it_ins {T : Tbl} {c ns xs} : itOf T (.ins c ns xs) = (T.it c).bind fun f => (pos f ns).bind fun j => (xs[j]?).bind lstOf := nr rfl
theorem h_lo_lst {xs} : lstOf (.lst xs) = some xs := nr rfl
theorem h_lo_olst {xs} : lstOf (.olst xs) = if xs.all isSh = true then some xs else none := nr rfl
theorem h_eiSeqUF {T : Tbl} {W : Wd T} {a : XP W} {env} : (xiSeqU a).evF env = (a.evF env).bind (seqFI T) := nr rfl
theorem h_eiSeqUP {T : Tbl} {W : Wd T} {a : XP W} {env} : (xiSeqU a).evP env = (a.evK env).bind (seqKI T) := nr rfl
theorem h_eiEnumUF {T : Tbl} {W : Wd T} {a : XP W} {env} : (xiEnumU a).evF env = (a.evF env).bind (enFI T) := nr rfl
theorem h_eiEnumUP {T : Tbl} {W : Wd T} {a : XP W} {env} : (xiEnumU a).evP env = (a.evK env).bind (enKI T) := nr rfl
theorem h_eiEnumTF {T : Tbl} {W : Wd T} {a : XP W} {env} : (xiEnumT a).evF env = (a.evF env).bind (enTI T) := nr rfl
theorem h_eiEnumTP {T : Tbl} {W : Wd T} {a : XP W} {env} : (xiEnumT a).evP env = (a.evK env).bind (enKI T) := nr rfl
theorem h_enTI_tup {T : Tbl} {xs} : enTI T (.tup xs) = some (enumD xs) := nr rfl
theorem h_enTI_lst {T : Tbl} {xs} : enTI T (.lst xs) = some (enumD xs) := nr rfl
theorem h_enTI_ins {T : Tbl} {c ns xs} : enTI T (.ins c ns xs) = (itOf T (.ins c ns xs)).map enumD := nr rfl
theorem h_seqFI_lst {T : Tbl} {xs} : seqFI T (.lst xs) = some xs := nr rfl
theorem h_seqFI_tup {T : Tbl} {xs} : seqFI T (.tup xs) = some xs := nr rfl
theorem h_seqFI_scr {T : Tbl} {ns} : seqFI T (.scr ns) = some (ns.map .int) := nr rfl
theorem h_seqFI_ins {T : Tbl} {c ns xs} : seqFI T (.ins c ns xs) = itOf T (.ins c ns xs) := nr rfl
theorem h_seqKI_lst {T : Tbl} {xs} : seqKI T (.lst xs) = some xs := nr rfl
theorem h_seqKI_tup {T : Tbl} {xs} : seqKI T (.tup xs) = some xs := nr rfl
theorem h_seqKI_scr {T : Tbl} {ns} : seqKI T (.scr ns) = some (ns.map .int) := nr rfl
theorem h_seqKI_ins {T : Tbl} {c ns xs} : seqKI T (.ins c ns xs) = itOf T (.ins c ns xs) := nr rfl
theorem h_seqKI_olst {T : Tbl} {xs} : seqKI T (.olst xs) = if xs.all isSh = true then some xs else none := by by_cases h : xs.all isSh = true <;> simp only [seqKI, seqOf, itOf, h, if_true, if_false, Bool.false_eq_true]
theorem h_enFI_lst {T : Tbl} {xs} : enFI T (.lst xs) = some (enumD xs) := nr rfl
theorem h_enFI_ins {T : Tbl} {c ns xs} : enFI T (.ins c ns xs) = (itOf T (.ins c ns xs)).map enumD := nr rfl
theorem h_enKI_lst {T : Tbl} {xs} : enKI T (.lst xs) = some (enumD xs) := nr rfl
theorem h_enKI_ins {T : Tbl} {c ns xs} : enKI T (.ins c ns xs) = (itOf T (.ins c ns xs)).map enumD := nr rfl
theorem h_enKI_olst {T : Tbl} {xs} : enKI T (.olst xs) = if xs.all isSh = true then some (enumD xs) else none := by by_cases h : xs.all isSh = true <;> simp only [enKI, lstOf, itOf, h, if_true, if_false, Option.map_none, Bool.false_eq_true]
theorem h_eIxO {T : Tbl} {W : Wd T} {φ : Sem} {a b : XP W} {env} : (xIxO φ a b).ev env = orI ((a.ev env).bind fun p => (b.evV env).bind fun y => (ixD p.2 y).map p.1.of) (ownEF T φ "__getitem__" okAny (a.evF env) (b.evF env) (a.evV env) (b.evV env)) := nr rfl
theorem h_eEqO {T : Tbl} {W : Wd T} {φ : Sem} {a b : XP W} {env} : (xEqO φ a b).ev env = orI ((a.evV env).bind fun x => (b.evV env).bind fun y => (eqD x y).map (Prod.mk .fr)) (ownEF T φ "__eq__" okEq (a.evF env) (b.evF env) (a.evV env) (b.evV env)) := nr rfl
theorem h_eAddO {T : Tbl} {W : Wd T} {φ : Sem} {a b : XP W} {env} : (xAddO φ a b).ev env = orI ((a.evK env).bind fun x => (b.evK env).bind fun y => (addD x y).map (Prod.mk .fr)) (ownEF T φ "__add__" okSame (a.evF env) (b.evF env) (a.evV env) (b.evV env)) := nr rfl
theorem h_orI_s {α : Type} {x : α} {y} : orI (some x) y = some x := nr rfl
theorem h_orI_n {α : Type} {y : Option α} : orI none y = y := nr rfl
theorem h_ixD_ins {c ns xs i} : ixD (.ins c ns xs) (.int i) = none := nr rfl
theorem h_okD_ins {n c ns xs} : okD n (.ins c ns xs) = false := by cases n <;> simp [okD]
theorem h_eqD_ins {c ns xs y} : eqD (.ins c ns xs) y = none := by show (if okD 60 (.ins c ns xs) = true ∧ okD 60 y = true then _ else _) = _; rw [if_neg (fun z => nomatch z.1)]
theorem h_addD_ins {c ns xs y} : addD (.ins c ns xs) y = none := nr rfl
theorem h_addD_oins {c ns xs y} : addD (.oins c ns xs) y = none := nr rfl
theorem h_own_F {T : Tbl} {φ : Sem} {m ok x y v w} : ownEF T φ m ok (some x) (some y) v w = (ownE T φ m ok x y).bind Rz.toF := nr rfl
theorem h_own_V {T : Tbl} {φ : Sem} {m ok g x y} : ownEF T φ m ok none g (some x) (some y) = (ownE T φ m ok x y).bind Rz.toV := nr rfl
theorem h_own_W {T : Tbl} {φ : Sem} {m ok f x y} : ownEF T φ m ok (some f) none (some x) (some y) = (ownE T φ m ok x y).bind Rz.toV := nr rfl
theorem h_ownE {T : Tbl} {φ : Sem} {m ok c ns xs y} : ownE T φ m ok (.ins c ns xs) y = if ok c y = true then some (meth1 T φ m 2 [.ins c ns xs, y]) else none := nr rfl
theorem h_okAny {c y} : okAny c y = true := nr rfl
theorem h_okSame {c c' ns xs} : okSame c (.ins c' ns xs) = decide (c' = c) := nr rfl
theorem h_okEq_i {c c' ns xs} : okEq c (.ins c' ns xs) = decide (c' = c) := nr rfl
theorem h_okEq_non {c} : okEq c (.non) = true := nr rfl
theorem h_okEq_bl {c b} : okEq c (.bl b) = true := nr rfl
theorem h_okEq_int {c i} : okEq c (.int i) = true := nr rfl
theorem h_okEq_str {c x} : okEq c (.str x) = true := nr rfl
theorem h_okEq_lst {c xs} : okEq c (.lst xs) = true := nr rfl
theorem h_okEq_tup {c xs} : okEq c (.tup xs) = true := nr rfl
theorem h_okEq_scr {c xs} : okEq c (.scr xs) = true := nr rfl
theorem h_eBest {T : Tbl} {W : Wd T} {g} {a : XP W} {env} : (xBest g a).ev env = (a.evK env).bind fun d => (seqOf d).bind fun p => if p.1 = false then (bestD g p.2).map (Prod.mk .fr) else none := nr rfl
theorem h_eSum {T : Tbl} {W : Wd T} {a : XP W} {env} : (xSum a).ev env = (a.evK env).bind fun d => (seqOf d).bind fun p => (sumI p.2).map (Prod.mk .fr) := nr rfl
theorem h_sumI {ns : List Int} : sumI (ns.map .int) = some (.int ns.sum) := by unfold sumI; rw [intsOf_map]; rfl
theorem h_eAddV {T : Tbl} {W : Wd T} {a b : XP W} {env} : (xAddV a b).ev env = orI ((a.evK env).bind fun x => (b.evK env).bind fun y => (addD x y).map (Prod.mk .fr)) ((a.evV env).bind fun x => (b.evV env).bind fun y => addLV x y) := nr rfl
theorem h_addLV {xs ys} : addLV (.lst xs) (.lst ys) = if xs.length + ys.length ≤ 1000000 then some (.vw, .lst (xs ++ ys)) else none := nr rfl
theorem h_eSortV {T : Tbl} {W : Wd T} {a : XP W} {env} : (xSortedV a).ev env = orI ((a.evK env).bind fun d => (seqOf d).bind fun p => if p.1 = false then (sortD p.2).map fun ys => (.fr, .olst ys) else none) ((a.evV env).bind sortV) := nr rfl
theorem h_sortV {xs} : sortV (.lst xs) = (sortD xs).map fun ys => (.vw, .lst ys) := nr rfl
theorem h_eSset {T : Tbl} {W : Wd T} {p : XPl W} {k : XP W} {m : XM W} {P env} : (xsSet p k m).ev P env = (m.ev P env).thenS (setK p k) := nr rfl
theorem h_setK {T : Tbl} {W : Wd T} {p : XPl W} {k : XP W} {d e} : setK p k d e = RS.ofO ((p.ev e).bind fun q => (k.evV e).bind fun i => (storeD q.2 [i, d]).bind fun z => (getS e p.root).map fun d0 => e.set p.root (some (d0.putAt q.1 z.1))) := nr rfl
theorem h_storeD {xs i d} : storeD (.olst xs) [.int i, d] = if xs.all isSh = true then (ixN xs.length i).map fun j => (.olst (xs.set j d), .non) else none := nr rfl
theorem h_eCallN {T : Tbl} {W : Wd T} {φ n m N bs dd hd} {as ks : XA W} {env} : (xCallN φ n m N bs dd hd as ks).ev env = kwE φ n m N bs dd (as.evF env) (ks.evF env) (as.evV env) (ks.evV env) := nr rfl
theorem h_kwE_F {φ n m N bs dd ds zs v w} : kwE φ n m N bs dd (some ds) (some zs) v w = if ds.length = n ∧ zs.length = m ∧ (ds ++ mgM bs dd zs).length = N then (φ (ds ++ mgM bs dd zs) none).toF else none := nr rfl
theorem h_kwE_V {φ n m N bs dd g ds zs} : kwE φ n m N bs dd none g (some ds) (some zs) = if ds.length = n ∧ zs.length = m ∧ (ds ++ mgM bs dd zs).length = N then (φ (ds ++ mgM bs dd zs) none).toV else none := nr rfl
theorem h_kwE_W {φ n m N bs dd f ds zs} : kwE φ n m N bs dd (some f) none (some ds) (some zs) = if ds.length = n ∧ zs.length = m ∧ (ds ++ mgM bs dd zs).length = N then (φ (ds ++ mgM bs dd zs) none).toV else none := nr rfl
theorem h_eMakeN {T : Tbl} {W : Wd T} {φ c ini n m N bs dd hd} {as ks : XA W} {env} : (xMakeN φ c ini n m N bs dd hd as ks).ev env = makeNE φ c ini n m N bs dd (as.evF env) (ks.evF env) (as.evV env) (ks.evV env) := nr rfl
theorem h_makeNE_F {φ c ini n m N bs dd ds zs v w} : makeNE φ c ini n m N bs dd (some ds) (some zs) v w = (mkN φ c ini n m N bs dd ds zs).map (Prod.mk .fr) := nr rfl
theorem h_makeNE_V {φ c ini n m N bs dd g ds zs} : makeNE φ c ini n m N bs dd none g (some ds) (some zs) = (mkN φ c ini n m N bs dd ds zs).map fun d => (.vw, fz d) := nr rfl
theorem h_makeNE_W {φ c ini n m N bs dd f ds zs} : makeNE φ c ini n m N bs dd (some f) none (some ds) (some zs) = (mkN φ c ini n m N bs dd ds zs).map fun d => (.vw, fz d) := nr rfl
theorem h_mkN {φ c ini n m N bs dd ds zs} : mkN φ c ini n m N bs dd ds zs = if ds.length = n ∧ zs.length = m then mk1 φ c ini N (ds ++ mgM bs dd zs) else none := nr rfl
theorem h_mgM_t {bs m} {ms ws : List D} : mgM (true :: bs) (m :: ms) ws = m :: mgM bs ms ws := nr rfl
theorem h_mgM_f {bs w} {ms ws : List D} : mgM (false :: bs) ms (w :: ws) = w :: mgM bs ms ws := by cases ms <;> rfl
theorem h_mgM_n {ms ws : List D} : mgM [] ms ws = [] := by cases ms <;> rfl
theorem h_eCallL {T : Tbl} {W : Wd T} {φ n} {as : XA W} {env} : (xCallL φ n as).ev env = orI ((as.evV env).bind fun ds => if ds.length = n then listFl (φ ds none) else none) ((xCall φ n as [] [] (fun _ => .nil)).ev env) := nr rfl
theorem h_listFl {xs b} : listFl (.ok (.olst xs) b) = if xs.all isFlat = true then some (.fr, .olst xs) else none := nr rfl
theorem h_eDnew {T : Tbl} {W : Wd T} {env} : (xDnew W).ev env = some (.fr, .odic [] []) := nr rfl
theorem h_eDget2 {T : Tbl} {W : Wd T} {a b c : XP W} {env} : (xDget2 a b c).ev env = (a.ev env).bind fun p => (dicOf p.2).bind fun q => (b.evV env).bind fun y => (c.ev env).bind fun z => getE q.1 q.2 p.1 y z := nr rfl
theorem h_getE_non {ks xs p z} : getE ks xs p .non z = some z := nr rfl
theorem h_getE_int {ks xs p i z} : getE ks xs p (.int i) z = some (getM p z (dg ks xs (.inl i))) := by simp only [getE, keyD, Option.map_some]; cases dg ks xs (Sum.inl i) <;> rfl
theorem h_getE_str {ks xs p x z} : getE ks xs p (.str x) z = some (getM p z (dg ks xs (.inr (so x)))) := by simp only [getE, keyD, Option.map_some]; cases dg ks xs (Sum.inr (so x)) <;> rfl
theorem h_getM_s {p : Kd} {z x} : getM p z (some x) = p.of x := nr rfl
theorem h_getM_n {p : Kd} {z} : getM p z none = z := nr rfl
theorem h_eDix {T : Tbl} {W : Wd T} {a b : XP W} {env} : (xDix a b).ev env = (a.ev env).bind fun p => (dicOf p.2).bind fun q => (b.evV env).bind fun y => dgE q.1 q.2 p.1 y := nr rfl
theorem h_dgE_int {ks xs p i} : dgE ks xs p (.int i) = (dg ks xs (.inl i)).map p.of := nr rfl
theorem h_dgE_str {ks xs p x} : dgE ks xs p (.str x) = (dg ks xs (.inr (so x))).map p.of := nr rfl
theorem h_eIn {T : Tbl} {W : Wd T} {neg} {a b : XP W} {env} : (xIn neg a b).ev env = (a.evV env).bind fun x => (b.evV env).bind fun y => (seqOf y).bind fun p => (inL neg x p.2).map (Prod.mk .fr) := nr rfl
theorem h_eDin {T : Tbl} {W : Wd T} {neg} {a b : XP W} {env} : (xDin neg a b).ev env = (a.evV env).bind fun y => (b.ev env).bind fun p => (dicOf p.2).bind fun q => (inK neg q.1 y).map (Prod.mk .fr) := nr rfl
theorem h_inK_non {neg ks} : inK neg ks .non = some (.bl neg) := nr rfl
theorem h_inK_int {neg ks i} : inK neg ks (.int i) = some (.bl (if neg = true then !hasK ks (.inl i) else hasK ks (.inl i))) := nr rfl
theorem h_inK_str {neg ks x} : inK neg ks (.str x) = some (.bl (if neg = true then !hasK ks (.inr (so x)) else hasK ks (.inr (so x)))) := nr rfl
theorem h_eDlist {T : Tbl} {W : Wd T} {a : XP W} {env} : (xDlist a).ev env = (a.ev env).bind fun p => (dicOf p.2).bind fun q => (kDs q.1).map fun ds => (.fr, .olst ds) := nr rfl
theorem h_eDict {T : Tbl} {W : Wd T} {a : XP W} {env} : (xDict a).ev env = (a.evK env).bind fun d => (dicF d).map fun q => (.fr, .odic q.1 q.2) := nr rfl
theorem h_eDlen {T : Tbl} {W : Wd T} {a : XP W} {env} : (xDlen a).ev env = (a.ev env).bind fun p => (dicOf p.2).map fun q => (.fr, .int q.1.length) := nr rfl
theorem h_dicOf_d {ks xs} : dicOf (.dic ks xs) = some (ks, xs) := nr rfl
theorem h_dicOf_o {ks xs} : dicOf (.odic ks xs) = some (ks, xs) := nr rfl
theorem h_dicF_d {ks xs} : dicF (.dic ks xs) = some (ks, xs) := nr rfl
theorem h_dicF_o {ks xs} : dicF (.odic ks xs) = if xs.all isSh = true then some (ks, xs) else none := nr rfl
theorem h_eDput {T : Tbl} {W : Wd T} {p : XPl W} {k : XP W} {m : XM W} {P env} : (xsDput p k m).ev P env = (m.ev P env).thenS (dputK p k) := nr rfl
theorem h_dputK {T : Tbl} {W : Wd T} {p : XPl W} {k : XP W} {d e} : dputK p k d e = RS.ofO ((p.ev e).bind fun q => (k.evF e).bind fun i => (dputD q.2 [i, d]).bind fun z => (getS e p.root).map fun d0 => e.set p.root (some (d0.putAt q.1 z.1))) := nr rfl
theorem h_dputI {ks xs i d} : dputD (.odic ks xs) [.int i, d] = if xs.length < 1000000 then (putP ks xs (.inl i) d).map fun q => (.odic q.1 q.2, .non) else none := nr rfl
theorem h_dputS {ks xs x d} : dputD (.odic ks xs) [.str x, d] = if xs.length < 1000000 then (putP ks xs (.inr (so x)) d).map fun q => (.odic q.1 q.2, .non) else none := nr rfl
theorem h_eForD {T : Tbl} {W : Wd T} {i} {g : XG W} {b : XS W} {P env} : (xsForD i g b).ev P env = lockR (isDic (getS env i)) (forE (forK g b P) (dsK (getS env i)) env) := by show (match isDic (getS env i) with | true => noEx ((xsFor (xiKeysL i) g b).ev P env) | false => RS.no) = _; rw [e_xsFor]; cases isDic (getS env i) <;> rfl
theorem h_lockR {r} : lockR true r = noEx r := nr rfl
theorem h_noEx_nx {e} : noEx (.nx e) = .nx e := nr rfl
theorem h_noEx_rt {d e} : noEx (.rt d e) = .rt d e := nr rfl
theorem h_isDic {ks xs} : isDic (some (.dic ks xs)) = true := nr rfl
theorem h_dsK {ks xs} : dsK (some (.dic ks xs)) = kDs ks := nr rfl
theorem h_eLcD {T : Tbl} {W : Wd T} {i} {g : XG W} {c : XT W} {x : XP W} {env} : (xLcD i g c x).ev env = guardB (isDic (getS env i)) (frE ((dsK (getS env i)).bind fun ds => if ds.length < 1000000 then (lcL (lc1 g c x (wipeE env g.own)) ds).map fun ys => (.fr, .olst ys) else none)) := by rfl
theorem h_eDc {T : Tbl} {W : Wd T} {it : XI W} {g : XG W} {c : XT W} {k x : XP W} {env} : (xDc it g c k x).ev env = (it.evP env).bind fun ds => if ds.length < 1000000 then (dcL (dc1 g c k x (wipeE env g.own)) ds ([], [])).map fun q => (.fr, .odic q.1 q.2) else none := nr rfl
theorem h_eDcD {T : Tbl} {W : Wd T} {i} {g : XG W} {c : XT W} {k x : XP W} {env} : (xDcD i g c k x).ev env = guardB (isDic (getS env i)) (frE ((dsK (getS env i)).bind fun ds => if ds.length < 1000000 then (dcL (dc1 g c k x (wipeE env g.own)) ds ([], [])).map fun q => (.fr, .odic q.1 q.2) else none)) := by rfl
theorem h_frE_s {d} : frE (some (.fr, d)) = some (.fr, d) := nr rfl
theorem h_frE_n  : frE none = none := nr rfl
theorem h_guardB_t {α : Type} {x : Option α} : guardB true x = x := nr rfl
theorem h_dc1 {T : Tbl} {W : Wd T} {g : XG W} {c : XT W} {k x : XP W} {env d} : dc1 g c k x env d = dcK c k x (g.ev [] d env) := nr rfl
theorem h_dcK {T : Tbl} {W : Wd T} {c : XT W} {k x : XP W} {e} : dcK c k x (some e) = dcJ k x (c.ev e) e := nr rfl
theorem h_dcJ1 {T : Tbl} {W : Wd T} {k x : XP W} {e} : dcJ k x (some true) e = ((k.evF e).bind keyD).bind fun y => (x.evF e).map fun z => some (y, z) := nr rfl
theorem h_dcJ0 {T : Tbl} {W : Wd T} {k x : XP W} {e} : dcJ k x (some false) e = some none := nr rfl
theorem h_keyD_i {i} : keyD (.int i) = some (.inl i) := nr rfl
theorem h_keyD_s {x} : keyD (.str x) = some (.inr (so x)) := nr rfl
theorem h_eDapp {T : Tbl} {W : Wd T} {p : XPl W} {k : XP W} {j P env} : (xsDapp p k j).ev P env = RS.ofO ((p.ev env).bind fun q => (k.evF env).bind fun y => (getS env j).bind fun x => (dappE q.2 y x).bind fun z => (getS env p.root).map fun d0 => env.set p.root (some (d0.putAt q.1 z))) := nr rfl
theorem h_dappI {ks xs i x} : dappE (.odic ks xs) (.int i) x = guardB (isSh x) (appK ks xs (.inl i) x) := nr rfl
theorem h_kDs_n  : kDs [] = some [] := nr rfl
theorem h_kDs_c {i ks} : kDs (.inl i :: ks) = (kDs ks).map (.int i :: ·) := nr rfl
theorem h_dcL_n {f acc} : dcL f [] acc = some acc := nr rfl
theorem h_putP_n {k y} : putP [] [] k y = some ([k], [y]) := nr rfl
theorem h_eMakeL {T : Tbl} {W : Wd T} {φ : Sem} {c ini n} {as : XA W} {env} : (xMakeL φ c ini n as).ev env = orEE (ofD ((as.evV env).bind fun ds => mk1 φ c ini n ds)) (xMake φ c ini n as [] [] (fun _ => .nil)).ev env := by show orI _ _ = orEE _ _ _; unfold orI orEE; cases ofD ((as.evV env).bind fun ds => mk1 φ c ini n ds) <;> rfl
theorem h_eMakeNL {T : Tbl} {W : Wd T} {φ : Sem} {c ini n m N bs dd hd} {as ks : XA W} {env} : (xMakeNL φ c ini n m N bs dd hd as ks).ev env = orEE (ofD (mkNV φ c ini n m N bs dd (as.evV env) (ks.evV env))) (xMakeN φ c ini n m N bs dd hd as ks).ev env := by show orI _ _ = orEE _ _ _; unfold orI orEE; cases ofD (mkNV φ c ini n m N bs dd (as.evV env) (ks.evV env)) <;> rfl
theorem h_eCallW {T : Tbl} {W : Wd T} {φ n} {as : XA W} {env} : (xCallW φ n as).ev env = orEE (ofD ((as.evV env).bind fun ds => if ds.length = n then okD0 (φ ds none) else none)) (xCall φ n as [] [] (fun _ => .nil)).ev env := by show orI _ _ = orEE _ _ _; unfold orI orEE; cases ofD ((as.evV env).bind fun ds => if ds.length = n then okD0 (φ ds none) else none) <;> rfl
theorem h_orEEs {x f env} : orEE (some x) f env = some x := nr rfl
theorem h_orEEn {f env} : orEE none f env = f env := nr rfl
theorem h_mkNV {φ c ini n m N bs dd ds zs} : mkNV φ c ini n m N bs dd (some ds) (some zs) = if ds.length = n ∧ zs.length = m then mk1 φ c ini N (ds ++ mgM bs dd zs) else none := nr rfl
theorem h_eMk0 {T : Tbl} {W : Wd T} {c env} : (xMk0 W c).ev env = some (.fr, .oins c [] []) := nr rfl
theorem h_eCon {T : Tbl} {W : Wd T} {r f} {a : XP W} {env} : (xCon r f a).ev env = ((a.evV env).bind (conD r f)).map fun x => (.fr, .str x) := nr rfl
theorem h_conD0 {r f c xs} : conD r f (.ins c [] xs) = r c := nr rfl
theorem h_eSortSet {T : Tbl} {W : Wd T} {a : XP W} {env} : (xSortSet a).ev env = ((a.evK env).bind lstOf).bind sosD := nr rfl
theorem h_eAndO {T : Tbl} {W : Wd T} {φ : Sem} {a b : XP W} {env} : (xAndO φ a b).ev env = ownEF T φ "__and__" okSame (a.evF env) (b.evF env) (a.evV env) (b.evV env) := nr rfl
theorem h_eCallB {T : Tbl} {W : Wd T} {φ : List D → Option Nat → Rz} {n} {as : XB W} {env} : (xCallB φ n as).ev env = (as.ev env).bind fun ds => if ds.length = n then ofB (okD0 (φ ds none)) else none := nr rfl
theorem h_ebNil {T : Tbl} {W : Wd T} {env} : (xbNil W).ev env = some [] := nr rfl
theorem h_ebCons {T : Tbl} {W : Wd T} {x : XP W} {b : XB W} {env} : (xbCons x b).ev env = (lendD (x.evK env)).bind fun d => (b.ev env).map (d :: ·) := nr rfl
theorem h_lend_olst {xs} : lendD (some (.olst xs)) = if xs.all isSh = true then some (.lst xs) else none := nr rfl
theorem h_lend_int {i} : lendD (some (.int i)) = some (.int i) := nr rfl
theorem h_lend_str {i} : lendD (some (.str i)) = some (.str i) := nr rfl
theorem h_lend_bl {i} : lendD (some (.bl i)) = some (.bl i) := nr rfl
theorem h_lend_non  : lendD (some (.non)) = some (.non) := nr rfl
theorem h_lend_tup {xs} : lendD (some (.tup xs)) = some (.tup xs) := nr rfl
theorem h_lend_lst {xs} : lendD (some (.lst xs)) = some (.lst xs) := nr rfl
theorem h_lend_ins {c ns xs} : lendD (some (.ins c ns xs)) = some (.ins c ns xs) := nr rfl
theorem h_lend_dic {ks xs} : lendD (some (.dic ks xs)) = some (.dic ks xs) := nr rfl
theorem h_eMakeB {T : Tbl} {W : Wd T} {φ : Sem} {c ini n} {x : XP W} {env} : (xMakeB φ c ini n x).ev env = orI (lentE φ c ini n (ownL (x.evK env))) ((xMake φ c ini n (xaCons x (xaNil W)) [] [] (fun _ => .nil)).ev env) := nr rfl
theorem h_lentEs {φ : Sem} {c ini n xs} : lentE φ c ini n (some xs) = ofB (mk1 φ c ini n [.lst xs]) := nr rfl
theorem h_lentEn {φ : Sem} {c ini n} : lentE φ c ini n none = none := nr rfl
theorem h_ofBs {d} : ofB (some d) = if oNl d = true then some (.fr, d) else none := nr rfl
theorem h_ofBn  : ofB none = none := nr rfl
theorem h_oNl_int {i} : oNl (.int i) = true := by simp [oNl]
theorem h_oNl_str {i} : oNl (.str i) = true := by simp [oNl]
theorem h_oNl_bl {i} : oNl (.bl i) = true := by simp [oNl]
theorem h_oNl_n  : oNl .non = true := by simp [oNl]
theorem h_oNl_ins {c ns xs} : oNl (.ins c ns xs) = oNls xs := by rw [oNl]
theorem h_oNl_oins {c ns xs} : oNl (.oins c ns xs) = oNls xs := by rw [oNl]
theorem h_oNl_dic {ks xs} : oNl (.dic ks xs) = oNls xs := by rw [oNl]
theorem h_oNl_odic {ks xs} : oNl (.odic ks xs) = oNls xs := by rw [oNl]
theorem h_oNl_tup {xs} : oNl (.tup xs) = oNls xs := by rw [oNl]
theorem h_oNl_olst {xs} : oNl (.olst xs) = oNls xs := by rw [oNl]
theorem h_oNls_n  : oNls [] = true := by rw [oNls]
theorem h_oNls_c {x xs} : oNls (x :: xs) = (oNl x && oNls xs) := by rw [oNls]
theorem h_ofDs {d} : ofD (some d) = if oFl d = true then some (.fr, d) else none := nr rfl
theorem h_ofDn  : ofD none = none := nr rfl
theorem h_okD0s {d b} : okD0 (.ok d b) = some d := nr rfl
theorem h_oFl_i {i} : oFl (.int i) = true := by simp [oFl]
theorem h_oFl_s {i} : oFl (.str i) = true := by simp [oFl]
theorem h_oFl_b {i} : oFl (.bl i) = true := by simp [oFl]
theorem h_oFl_n  : oFl .non = true := by simp [oFl]
theorem h_oFl_ins {c ns xs} : oFl (.oins c ns xs) = oFls xs := by rw [oFl]
theorem h_oFl_odic {ks xs} : oFl (.odic ks xs) = oFls xs := by rw [oFl]
theorem h_oFl_olst {xs} : oFl (.olst xs) = oFls xs := by rw [oFl]
theorem h_oFls_n  : oFls [] = true := by rw [oFls]
theorem h_oFls_c {x xs} : oFls (x :: xs) = (oFl x && oFls xs) := by rw [oFls]
theorem h_eDisp {T : Tbl} {W : Wd T} {ps : List (XP W × XP W)} {env} : (xDisp ps).ev env = (dispE ps env).bind fun kds => if (kds.map (·.1)).Nodup ∧ kds.length ≤ 15 then some (.fr, .odic (kds.map (·.1)) (kds.map (·.2))) else none := nr rfl
theorem h_dispEn {T : Tbl} {W : Wd T} {env} : dispE ([] : List (XP W × XP W)) env = some [] := nr rfl
theorem h_dispEc {T : Tbl} {W : Wd T} {a b : XP W} {r env} : dispE ((a, b) :: r) env = (a.evF env).bind fun x => (keyD x).bind fun k => (b.evF env).bind fun y => (dispE r env).map ((k, y) :: ·) := nr rfl
theorem h_eForO {T : Tbl} {W : Wd T} {i} {g : XG W} {b : XS W} {P env} : (xsForO i g b).ev P env = forOF (ownL (getS env i)) i g b P env := by show (match ownL (getS env i) with | some xs => _ | none => _) = _; unfold forOF forK turnE; cases ownL (getS env i) <;> rfl
theorem h_forOFs {T : Tbl} {W : Wd T} {xs i} {g : XG W} {b : XS W} {P env} : forOF (some xs) i g b P env = reR i xs (forL (forK g b (i :: P)) xs (env.set i none)) := nr rfl
theorem h_forOFn {T : Tbl} {W : Wd T} {i} {g : XG W} {b : XS W} {P env} : forOF none i g b P env = (xsFor (xiSeq (xVar W i)) g b).ev P env := nr rfl
theorem h_ownLo {xs} : ownL (some (.olst xs)) = if xs.all isSh = true then some xs else none := nr rfl
theorem h_ownLl {xs} : ownL (some (.lst xs)) = none := nr rfl
theorem h_ownLt {xs} : ownL (some (.tup xs)) = none := nr rfl
theorem h_ownLs {xs} : ownL (some (.scr xs)) = none := nr rfl
theorem h_ownLn  : ownL none = none := nr rfl
theorem h_reRn {i xs e} : reR i xs (.nx e) = .nx (e.set i (some (.olst xs))) := nr rfl
theorem h_reRr {i xs d e} : reR i xs (.rt d e) = .rt d (e.set i (some (.olst xs))) := nr rfl
theorem h_reRx {i xs x e} : reR i xs (.ex x e) = .ex x (e.set i (some (.olst xs))) := nr rfl
theorem h_ePar {T : Tbl} {W : Wd T} {i j} {a : XA W} {P env} : (xsPar i j a).ev P env = RS.ofO ((a.evF env).bind (par2 P i j env)) := nr rfl
theorem h_par2 {P i j env x y} : par2 P i j env [x, y] = (setS P i x env).bind (setS P j y) := nr rfl
theorem h_eRaise {T : Tbl} {W : Wd T} {c fs} {as : XA W} {P env} : (xsRaise c fs as).ev P env = exOf c fs (as.evF env) env := nr rfl
theorem h_exOf {c fs ds env} : exOf c fs (some ds) env = if ds.length = fs.length then .ex ⟨c, fs.zip ds⟩ env else .no := nr rfl
theorem h_exOfn {c fs env} : exOf c fs none env = .no := nr rfl
theorem h_eTryAs {T : Tbl} {W : Wd T} {i c} {b : XS W} {s : XH W i} {P env} : (xsTryAs i c b s).ev P env = tryK T i c s P (b.ev P env) := nr rfl
theorem h_tryK_nx {T : Tbl} {W : Wd T} {i c} {s : XH W i} {P e} : tryK T i c s P (.nx e) = .nx e := nr rfl
theorem h_tryK_rt {T : Tbl} {W : Wd T} {i c} {s : XH W i} {P d e} : tryK T i c s P (.rt d e) = .rt d e := nr rfl
theorem h_tryK_bk {T : Tbl} {W : Wd T} {i c} {s : XH W i} {P e} : tryK T i c s P (.bk e) = .bk e := nr rfl
theorem h_tryK_ct {T : Tbl} {W : Wd T} {i c} {s : XH W i} {P e} : tryK T i c s P (.ct e) = .ct e := nr rfl
theorem h_tryK_no {T : Tbl} {W : Wd T} {i c} {s : XH W i} {P} : tryK T i c s P .no = .no := nr rfl
theorem h_tryK_ex {T : Tbl} {W : Wd T} {i c} {s : XH W i} {P n fs e} : tryK T i c s P (.ex ⟨n, fs⟩ e) = tryJ (T.xsub n c) ⟨n, fs⟩ i s P e := by show (if T.xsub n c = true then _ else _) = _; cases T.xsub n c <;> rfl
theorem h_tryJ1 {T : Tbl} {W : Wd T} {i} {s : XH W i} {x P e} : tryJ true x i s P e = if i ∈ P ∨ e.length ≤ i then .no else (s.ev x P (e.set i none)).clr i := nr rfl
theorem h_tryJ0 {T : Tbl} {W : Wd T} {i} {s : XH W i} {x P e} : tryJ false x i s P e = .ex x e := nr rfl
theorem h_clr_nx {i e} : RS.clr i (.nx e) = .nx (e.set i none) := nr rfl
theorem h_clr_rt {i d e} : RS.clr i (.rt d e) = .rt d e := nr rfl
theorem h_clr_bk {i e} : RS.clr i (.bk e) = .bk (e.set i none) := nr rfl
theorem h_clr_ct {i e} : RS.clr i (.ct e) = .ct (e.set i none) := nr rfl
theorem h_clr_no {i} : RS.clr i .no = .no := nr rfl
theorem h_ehAsg {T : Tbl} {W : Wd T} {i j} {m : XQ W i} {x P env} : (xhAsg j m).ev x P env = xhAsgK P j env (m.evO x env) := nr rfl
theorem h_hAsgK {P j env d} : xhAsgK P j env (some d) = RS.ofO (setS P j d env) := nr rfl
theorem h_hAsgKn {P j env} : xhAsgK P j env none = .no := nr rfl
theorem h_ehRet {T : Tbl} {W : Wd T} {i} {m : XQ W i} {x P env} : (xhRet m).ev x P env = xhRetK env (m.evO x env) := nr rfl
theorem h_hRetK {env d} : xhRetK env (some d) = .rt d env := nr rfl
theorem h_hRetKn {env} : xhRetK env none = .no := nr rfl
theorem h_qevO {T : Tbl} {W : Wd T} {i} {m : XQ W i} {x env} : m.evO x env = toO (m.ev x env) := nr rfl
theorem h_qevB {T : Tbl} {W : Wd T} {i} {m : XQ W i} {x env} : m.evB x env = (toV (m.ev x env)).bind blD := nr rfl
theorem h_qevF {T : Tbl} {W : Wd T} {i} {m : XQ W i} {x env} : m.evF x env = toQ (m.ev x env) := nr rfl
theorem h_toQf {d} : toQ (some (.fr, d)) = if isSh d = true then some d else none := nr rfl
theorem h_toQp {d} : toQ (some (.pl, d)) = if isSh d = true then some d else none := nr rfl
theorem h_toQv {d} : toQ (some (.vw, d)) = if isFlat d = true then some d else none := nr rfl
theorem h_toQn  : toQ none = none := nr rfl
theorem h_eqP {T : Tbl} {W : Wd T} {i} {p : XP W} {x env} : (xqP (i := i) p).ev x env = p.ev env := nr rfl
theorem h_eqFld {T : Tbl} {W : Wd T} {i c f n fs env} : (xqFld W i c f).ev ⟨n, fs⟩ env = if n = c then (fs.lookup f).map (Prod.mk .fr) else none := nr rfl
theorem h_eqIs {T : Tbl} {W : Wd T} {i c n p fs env} : (xqIs W i c).ev ⟨n, p :: fs⟩ env = some (.fr, .bl (isX1 T n c)) := nr rfl
theorem h_eqIsT {T : Tbl} {W : Wd T} {i cs n p fs env} : (xqIsT W i cs).ev ⟨n, p :: fs⟩ env = some (.fr, .bl (isXA T n cs)) := nr rfl
theorem h_isX1t {T : Tbl} {x y} : isX1 T x (true, y) = T.xsub x y := nr rfl
theorem h_isX1f {T : Tbl} {x y} : isX1 T x (false, y) = true := nr rfl
theorem h_isXAn {T : Tbl} {x} : isXA T x [] = false := nr rfl
theorem h_isXAc {T : Tbl} {x c cs} : isXA T x (c :: cs) = (isX1 T x c || isXA T x cs) := nr rfl
theorem h_eqAnd {T : Tbl} {W : Wd T} {i} {m n : XQ W i} {x env} : (xqAnd m n).ev x env = (andF (m.evB x env) (n.evB x) env).map fun c => (.fr, .bl c) := by show (andE (m.evB x env) fun _ => n.evB x env).map _ = _; unfold andE andF; rfl
theorem h_eqOr {T : Tbl} {W : Wd T} {i} {m n : XQ W i} {x env} : (xqOr m n).ev x env = (orF (m.evB x env) (n.evB x) env).map fun c => (.fr, .bl c) := by show (orE (m.evB x env) fun _ => n.evB x env).map _ = _; unfold orE orF; rfl
theorem h_eqNot {T : Tbl} {W : Wd T} {i} {m : XQ W i} {x env} : (xqNot m).ev x env = (m.evB x env).map fun c => (.fr, .bl (!c)) := nr rfl
theorem h_eqLst {T : Tbl} {W : Wd T} {i} {n : XQs W i} {x env} : (xqLst n).ev x env = (n.ev x env).bind fun ds => if ds.length ≤ 1000000 then some (.fr, .olst ds) else none := nr rfl
theorem h_eqs0 {T : Tbl} {W : Wd T} {i x env} : (xqsNil W i).ev x env = some [] := nr rfl
theorem h_eqs1 {T : Tbl} {W : Wd T} {i} {m : XQ W i} {n : XQs W i} {x env} : (xqsCons m n).ev x env = (m.evF x env).bind fun y => (n.ev x env).map (y :: ·) := nr rfl
theorem h_eCallNM {T : Tbl} {W : Wd T} {φ n m N bs dd hd} {as ks : XA W} {P env} : (xmCallN φ n m N bs dd hd as ks).ev P env = callNM φ n m N bs dd (as.evF env) (ks.evF env) env := nr rfl
theorem h_callNM {φ n m N bs dd ds zs env} : callNM φ n m N bs dd (some ds) (some zs) env = if ds.length = n ∧ zs.length = m ∧ (ds ++ mgM bs dd zs).length = N then rm0 (φ (ds ++ mgM bs dd zs) none) env else .no := nr rfl
theorem h_eMakeM {T : Tbl} {W : Wd T} {φ : Sem} {c ini n} {as : XA W} {P env} : (xmMake φ c ini n as).ev P env = makeM φ c ini n (as.evF env) env := nr rfl
theorem h_makeM {φ : Sem} {c ini n ds env} : makeM φ c ini n (some ds) env = if ds.length + 1 = n then mkM (φ ini (.oins c [] [] :: ds) (some 0)) env else .no := nr rfl
theorem h_mkMo {d env} : mkM (.ok .non (some d)) env = .ok d env := nr rfl
theorem h_mkMx {x b env} : mkM (.exn x b) env = .exn x env := nr rfl
theorem h_mkMn {env} : mkM .no env = .no := nr rfl
theorem h_eMakeNM {T : Tbl} {W : Wd T} {φ : Sem} {c ini n m N bs dd hd} {as ks : XA W} {P env} : (xmMakeN φ c ini n m N bs dd hd as ks).ev P env = makeNM φ c ini n m N bs dd (as.evF env) (ks.evF env) env := nr rfl
theorem h_makeNM {φ : Sem} {c ini n m N bs dd ds zs env} : makeNM φ c ini n m N bs dd (some ds) (some zs) env = if ds.length = n ∧ zs.length = m ∧ (ds ++ mgM bs dd zs).length + 1 = N then mkM (φ ini (.oins c [] [] :: (ds ++ mgM bs dd zs)) (some 0)) env else .no := nr rfl
theorem h_eCallOM {T : Tbl} {W : Wd T} {φ : Sem} {n} {a : XP W} {as : XA W} {P env} : (xmCallO φ n a as).ev P env = callOM T φ n (a.evF env) (as.evF env) env := nr rfl
theorem h_callOMs {T : Tbl} {φ : Sem} {n d ds env} : callOM T φ n (some d) (some ds) env = rm0 (callO1 T φ n (d :: ds)) env := nr rfl
theorem h_eAppR {T : Tbl} {W : Wd T} {j} {m : XM W} {P env} : (xmAppendR j m).ev P env = if isOl (getS env j) = true then (m.ev P env).thenM (apmK j) else .no := nr rfl
theorem h_isOl {xs} : isOl (some (.olst xs)) = true := nr rfl
theorem h_apmK {i d e} : apmK i d e = RM.ofO ((getS e i).bind fun n => (appendD n [d]).map fun z => (z.2, e.set i (some z.1))) := nr rfl
theorem h_runR_ex {b x env} : runR b (.ex x env) = retX (bGet b env) x := by cases hb : bGet b env <;> simp [runR, retX, hb]
theorem h_retX {o x} : retX (some o) x = .exn x o := nr rfl
theorem h_look1 {k : String} {d : D} {r} : List.lookup k ((k, d) :: r) = some d := by simp
theorem h_look2 {k f : String} {d : D} {r} (h : ¬ f = k) : List.lookup f ((k, d) :: r) = List.lookup f r := by rw [List.lookup_cons, beq_eq_false_iff_ne.mpr h]
end Py

namespace Py
open PySem L2
theorem forL_gen {f : D → Py.Env → RS} {r : RS} : ∀ {ds : List D} {env : Py.Env} (I : Nat → Py.Env → Prop), forL f ds env = r → I 0 env → (∀ i d e, ds[i]? = some d → I i e → ∃ e', (f d e = .nx e' ∨ f d e = .ct e') ∧ I (i + 1) e') → ∃ e', r = .nx e' ∧ I ds.length e'
  | [], env, I, h, h0, _ => ⟨env, h.symm, h0⟩
  | d :: ds, env, I, h, h0, hs => by
    obtain ⟨e', h1, h2⟩ := hs 0 d env rfl h0
    have h : (match f d env with | .nx e => forL f ds e | .ct e => forL f ds e | .bk e => .nx e | r => r) = r := h
    have h3 : forL f ds e' = r := by rcases h1 with h1 | h1 <;> (rw [h1] at h; exact h)
    exact forL_gen (fun i e => I (i + 1) e) h3 h2 fun i d e hd hi => hs (i + 1) d e (by simpa using hd) hi
/-- a loop that may end in the midst by a return -/
theorem forL_ret {f : D → Py.Env → RS} {r : RS} : ∀ {ds : List D} {env : Py.Env} (I : Nat → Py.Env → Prop) (J : RS → Prop), forL f ds env = r → I 0 env → (∀ i d e, ds[i]? = some d → I i e → (∃ e', (f d e = .nx e' ∨ f d e = .ct e') ∧ I (i + 1) e') ∨ (∃ x e', f d e = .rt x e' ∧ J (.rt x e'))) → (∃ e', r = .nx e' ∧ I ds.length e') ∨ J r
  | [], env, I, J, h, h0, _ => .inl ⟨env, h.symm, h0⟩
  | d :: ds, env, I, J, h, h0, hs => by
    have h : (match f d env with | .nx e => forL f ds e | .ct e => forL f ds e | .bk e => .nx e | r => r) = r := h
    rcases hs 0 d env rfl h0 with ⟨e', h1, h2⟩ | ⟨x, e', h1, h2⟩
    · have h3 : forL f ds e' = r := by rcases h1 with h1 | h1 <;> (rw [h1] at h; exact h)
      exact forL_ret (fun i e => I (i + 1) e) J h3 h2 fun i d e hd hi => hs (i + 1) d e (by simpa using hd) hi
    · rw [h1] at h
      exact .inr (h ▸ h2)
theorem whileN_gen {c : Py.Env → Option Bool} {f : Py.Env → RS} {r : RS} (I : Nat → Py.Env → Prop) (hs : ∀ m e, I m e → (c e = some false) ∨ ∃ m' e', m' < m ∧ c e = some true ∧ (f e = .nx e' ∨ f e = .ct e') ∧ I m' e') :
    ∀ {n m : Nat} {env : Py.Env}, m < n → whileN c f n env = r → I m env → ∃ e' m', r = .nx e' ∧ I m' e' ∧ c e' = some false
  | 0, _, _, h, _, _ => absurd h (Nat.not_lt_zero _)
  | n + 1, m, env, hm, h, hi => by
    unfold whileN at h
    rcases hs m env hi with h1 | ⟨m', e', h1, h2, h3, h4⟩
    · rw [h1] at h
      exact ⟨env, m, h.symm, hi, h1⟩
    · rw [h2] at h
      have h5 : whileN c f n e' = r := by rcases h3 with h3 | h3 <;> (rw [h3] at h; exact h)
      exact whileN_gen I hs (by omega) h5 h4
theorem atI_map {α β : Type} (f : α → β) (xs : List α) (i : Int) : atI (xs.map f) i = (atI xs i).map f := by
  unfold atI
  rw [List.length_map]
  cases ixN xs.length i with
  | none => rfl
  | some j => show (xs.map f)[j]? = _; rw [List.getElem?_map]; rfl
theorem atI_of {α : Type} {xs : List α} {j : Nat} {x : α} (h : xs[j]? = some x) : atI xs (j : Int) = some x := by rw [atI_litN, h]
theorem atI_int {α : Type} {xs : List α} {i : Int} {x : α} (h0 : 0 ≤ i) (h : xs[i.toNat]? = some x) : atI xs i = some x := by
  obtain ⟨j, rfl⟩ := Int.eq_ofNat_of_zero_le h0
  exact atI_of h
theorem atI_get {α : Type} {xs : List α} {i : Int} (h0 : 0 ≤ i) (h : i < xs.length) : ∃ x, atI xs i = some x ∧ xs[i.toNat]? = some x := by
  obtain ⟨j, rfl⟩ := Int.eq_ofNat_of_zero_le h0
  have : xs[j]? = some (xs[j]'(by omega)) := List.getElem?_eq_getElem (by omega)
  exact ⟨_, atI_of this, this⟩
theorem get_map {α β : Type} {f : α → β} {xs : List α} {i : Nat} {y : β} (h : (xs.map f)[i]? = some y) : ∃ x, xs[i]? = some x ∧ y = f x := by
  rw [List.getElem?_map] at h
  cases e : xs[i]? with
  | none => rw [e] at h; cases h
  | some x => rw [e] at h; exact ⟨x, rfl, (Option.some.inj h).symm⟩
theorem sh_map {α : Type} {enc : α → D} (h : ∀ a, isSh (enc a) = true) (xs : List α) : (xs.map enc).all isSh = true := by
  rw [List.all_eq_true]
  intro d hd
  obtain ⟨a, _, rfl⟩ := List.mem_map.mp hd
  exact h a
theorem fzs_map {α : Type} {enc : α → D} (h : ∀ a, isSh (enc a) = true) (xs : List α) : fzs (xs.map enc) = xs.map enc := by
  rw [fzs_eq, List.map_map]
  exact List.map_congr_left fun a _ => fz_isSh (h a)
theorem okDs_map {α : Type} {enc : α → D} {n : Nat} (h : ∀ a, okD n (enc a) = true) (xs : List α) : okDs n (xs.map enc) = true := by
  rw [okDs_all, List.all_eq_true]
  intro d hd
  obtain ⟨a, _, rfl⟩ := List.mem_map.mp hd
  exact h a
theorem eqBs_map {α : Type} [DecidableEq α] {enc : α → D} (h : ∀ a b, eqB (enc a) (enc b) = decide (a = b)) : ∀ xs ys : List α, eqBs (xs.map enc) (ys.map enc) = decide (xs = ys)
  | [], [] => by rw [List.map_nil, eqBs]; rfl
  | [], y :: ys => by rw [List.map_nil, List.map_cons, h_eqBs_nc]; rfl
  | x :: xs, [] => by rw [List.map_nil, List.map_cons, h_eqBs_cn]; rfl
  | x :: xs, y :: ys => by
    rw [List.map_cons, List.map_cons, eqBs, h, eqBs_map h xs ys]
    by_cases h1 : x = y <;> by_cases h2 : xs = ys <;> simp [h1, h2]
/-- == of two lists of coded things -/
theorem eqD_lst {α : Type} [DecidableEq α] {enc : α → D} (ho : ∀ a, okD 59 (enc a) = true) (h : ∀ a b, eqB (enc a) (enc b) = decide (a = b)) (xs ys : List α) : eqD (.lst (xs.map enc)) (.lst (ys.map enc)) = some (.bl (decide (xs = ys))) := by
  have h1 := fun zs : List α => (h_ok_lst (n := 59) (xs := zs.map enc)).trans (okDs_map ho zs)
  rw [h_eqD, if_pos ⟨h1 xs, h1 ys⟩, h_eqB_ll, eqBs_map h]
theorem neD_lst {α : Type} [DecidableEq α] {enc : α → D} (ho : ∀ a, okD 59 (enc a) = true) (h : ∀ a b, eqB (enc a) (enc b) = decide (a = b)) (xs ys : List α) : neD (.lst (xs.map enc)) (.lst (ys.map enc)) = some (.bl (!decide (xs = ys))) := by
  have h1 := fun zs : List α => (h_ok_lst (n := 59) (xs := zs.map enc)).trans (okDs_map ho zs)
  rw [h_neD, if_pos ⟨h1 xs, h1 ys⟩, h_eqB_ll, eqBs_map h]
theorem eqD_enc {α : Type} [DecidableEq α] {enc : α → D} (ho : ∀ a, okD 60 (enc a) = true) (h : ∀ a b, eqB (enc a) (enc b) = decide (a = b)) (x y : α) : eqD (enc x) (enc y) = some (.bl (decide (x = y))) := by
  rw [h_eqD, if_pos ⟨ho x, ho y⟩, h]
theorem neD_enc {α : Type} [DecidableEq α] {enc : α → D} (ho : ∀ a, okD 60 (enc a) = true) (h : ∀ a b, eqB (enc a) (enc b) = decide (a = b)) (x y : α) : neD (enc x) (enc y) = some (.bl (!decide (x = y))) := by
  rw [h_neD, if_pos ⟨ho x, ho y⟩, h]
/-- a comprehension over coded things, item by item -/
theorem lcL_map {α : Type} {enc : α → D} {f : D → Option (List D)} {g : α → List D} (xs : List α) (h : ∀ a ∈ xs, f (enc a) = some (g a)) : lcL f (xs.map enc) = some (xs.flatMap g) := by
  induction xs with
  | nil => rfl
  | cons x xs ih =>
    show (f (enc x)).bind _ = _
    rw [h x (List.mem_cons_self ..), Option.bind_some, ih fun a m => h a (List.mem_cons_of_mem _ m)]
    rfl
theorem flatMap_one {α β : Type} (f : α → β) (xs : List α) : (xs.flatMap fun a => [f a]) = xs.map f := by
  induction xs with
  | nil => rfl
  | cons x xs ih => rw [List.flatMap_cons, ih]; rfl
theorem flatMap_if {α β : Type} (p : α → Bool) (f : α → β) (xs : List α) : (xs.flatMap fun a => if p a = true then [f a] else []) = (xs.filter p).map f := by
  induction xs with
  | nil => rfl
  | cons x xs ih =>
    rw [List.flatMap_cons, ih, List.filter_cons]
    split <;> rfl
theorem lcL_mapE {α β : Type} {enc : α → D} {enc2 : β → D} {f : D → Option (List D)} (g : α → β) (xs : List α) (h : ∀ a ∈ xs, f (enc a) = some [enc2 (g a)]) : lcL f (xs.map enc) = some ((xs.map g).map enc2) := by
  rw [lcL_map (g := fun a => [enc2 (g a)]) xs h, flatMap_one, List.map_map]; rfl
theorem lcL_filterE {α : Type} {enc : α → D} {f : D → Option (List D)} (p : α → Bool) (xs : List α) (h : ∀ a ∈ xs, f (enc a) = some (if p a = true then [enc a] else [])) : lcL f (xs.map enc) = some ((xs.filter p).map enc) := by
  rw [lcL_map (g := fun a => if p a = true then [enc a] else []) xs h, flatMap_if]
end Py

namespace Py
open PySem L2
local macro_rules | `(tactic| walk_at "ev") => `(tactic| try simp (maxSteps := 1000000) (disch := first | omega | decide) only [e_xsSeq, e_xsNext, e_xsBreak, e_xsCont, e_xsNever, e_xsRetN, e_xsAsg, e_xsAsgG, e_xsExpr, e_xsRet, e_xsIf, e_xsFrz, e_xmP, e_xVar_V, e_xtV, e_xtTru, e_xtAnd, e_xtOr, e_xtNot, e_xtYes, e_xVar, e_xInt, e_xBl, e_xNon, e_xStr, e_xSub, e_xMul, e_xDiv, e_xMod, e_xPow, e_xNeg, e_xAdd, e_xEq, e_xInE, e_xNe, e_xLt, e_xLe, e_xGt, e_xGe, e_xIsN, e_xNotN, e_xAnd, e_xOr, e_xNot, e_xChainI, e_xIf, e_xTup, e_xLst, e_xInt1, e_xAbs, e_xMax2, e_xMin2, e_xLen, e_xIx, e_xFld, e_xList, e_xTuple, e_xIsi, e_xIsiT, e_xCall, e_xLc, e_xSorted, e_xmVar, e_xmMove, e_xmAppend, e_xmExtend, e_xmInsert, e_xmPop, e_xmReverse, e_xmClear, e_xoNil, e_xoCons, e_plVar, r_plVar, r_plFld, r_plIx, e_plFld, e_plIx, e_xaNilV, e_xaNilF, e_xaConsV, e_xaConsF, e_xgN, e_xgsNil, e_xgsCons, e_xgT, o_xgN, o_xgT, o_xgsNil, o_xgsCons, e_xiSeqF, e_xiSeqP, e_xiR1F, e_xiR1P, e_xiR2F, e_xiR2P, e_xiEnumF, e_xiZipF, e_xiEnumP, e_xiZipP, e_xsFor, e_xsWhile, e_xsAug, e_evV, e_evK, e_evF, e_evO, e_evB, h_getS0, h_getS0n, h_getSs, h_toV, h_toVn, h_toKf, h_toKp, h_toKv, h_toKn, h_toFf, h_toFp, h_toFv, h_toFn, h_toOf, h_toOp, h_toOv, h_toOn, h_of_f, h_of_p, h_of_v, h_then_nx, h_then_rt, h_then_bk, h_then_ct, h_then_ex, h_then_no, h_thenS_ok, h_thenS_exn, h_thenS_no, h_ofO, h_ofOn, h_of, h_ofn, h_mofO, h_mofOn, h_iteF1, h_iteF0, h_iteFn, h_asgK, h_asgGK, h_ifF1, h_ifF0, h_forK, h_chF0, h_chF1, h_andF1, h_andF0, h_orF1, h_orF0, h_blD, h_turn, h_turnn, h_forE, h_forEn, h_callF, h_callV, h_rzF, h_rzV, h_fz_non, h_sh_non, h_fl_non, h_isN_non, h_fz_bl, h_sh_bl, h_fl_bl, h_fz_int, h_sh_int, h_fl_int, h_isN_int, h_fz_str, h_sh_str, h_fl_str, h_isN_str, h_fz_cls, h_sh_cls, h_fl_cls, h_isN_cls, h_fz_sei, h_sh_sei, h_fl_sei, h_isN_sei, h_fz_scr, h_sh_scr, h_fl_scr, h_isN_scr, h_fz_tup, h_sh_tup, h_fl_tup, h_isN_tup, h_fz_lst, h_sh_lst, h_fl_lst, h_isN_lst, h_fz_dic, h_sh_dic, h_fl_dic, h_isN_dic, h_fz_dit, h_sh_dit, h_fl_dit, h_isN_dit, h_fz_dig, h_sh_dig, h_fl_dig, h_isN_dig, h_fz_ins, h_sh_ins, h_fl_ins, h_isN_ins, h_isN_bl, h_fz_olst, h_sh_olst, h_fl_olst, h_fz_odic, h_sh_odic, h_fl_odic, h_fz_odit, h_sh_odit, h_fl_odit, h_fz_odig, h_sh_odig, h_fl_odig, h_fz_oins, h_sh_oins, h_fl_oins, h_fzs_nil, h_fzs_cons, h_fzs_app, h_tru_bl, h_tru_non, h_tru_int, h_tru_lst, h_tru_tup, h_sub, h_neg, h_addI, h_addT, h_addL, h_addLo, h_addoL, h_addoo, h_eqD, h_neD, h_ok_non, h_ok_bl, h_ok_int, h_ok_str, h_ok_tup, h_ok_lst, h_oks_nil, h_oks_cons, h_eqB_ii, h_eqB_ss, h_eqB_bb, h_eqB_nn, h_eqB_ni, h_eqB_in, h_eqB_nt, h_eqB_tn, h_eqB_tt, h_eqB_ll, h_eqBs_nn, h_eqBs_cc, h_eqBs_nc, h_eqBs_cn, h_cmp, h_ltI, h_ltT, h_ints_nil, h_ints_cons, h_intI, h_intB, h_abs, h_max2, h_min2, h_lenL, h_lenT, h_lenS, h_ix, h_it_lst, h_it_olst, h_it_tup, h_it_scr, h_at0, h_at1, h_at2, h_at3, h_at4, h_at5, h_at6, h_at7, h_at8, h_at9, h_at10, h_at11, h_at12, h_atm1, h_seq_lst, h_seq_tup, h_seq_olst, h_seq_scr, h_sF_lst, h_sF_tup, h_sF_scr, h_lF_lst, h_ty_non, h_ty_bl, h_ty_int, h_ty_str, h_ty_lst, h_ty_tup, h_ty_ins, h_isi_bb, h_isi_bo, h_isi_ob, h_isi_oo, h_isiA_n, h_isiA_c, h_isiB_NoneType_bool, h_isiB_NoneType_int, h_isiB_NoneType_str, h_isiB_NoneType_list, h_isiB_NoneType_tuple, h_isiB_NoneType_dict, h_isiB_bool_bool, h_isiB_bool_int, h_isiB_bool_str, h_isiB_bool_list, h_isiB_bool_tuple, h_isiB_bool_dict, h_isiB_int_bool, h_isiB_int_int, h_isiB_int_str, h_isiB_int_list, h_isiB_int_tuple, h_isiB_int_dict, h_isiB_str_bool, h_isiB_str_int, h_isiB_str_str, h_isiB_str_list, h_isiB_str_tuple, h_isiB_str_dict, h_isiB_list_bool, h_isiB_list_int, h_isiB_list_str, h_isiB_list_list, h_isiB_list_tuple, h_isiB_list_dict, h_isiB_tuple_bool, h_isiB_tuple_int, h_isiB_tuple_str, h_isiB_tuple_list, h_isiB_tuple_tuple, h_isiB_tuple_dict, h_isiB_dict_bool, h_isiB_dict_int, h_isiB_dict_str, h_isiB_dict_list, h_isiB_dict_tuple, h_isiB_dict_dict, h_append, h_extL, h_extO, h_pop, h_rev, h_clear, h_insert, h_put0, h_rng1, h_rng2, h_guard1, h_guard0, h_forLn, h_forLc, h_forT_nx, h_forT_ct, h_forT_bk, h_forT_rt, h_forT_ex, h_lc1, h_lcK, h_lcJ1, h_lcJ0, h_wipe0, h_wipes, h_frz, h_frzO, h_frzOn, h_runR_rt, h_runR_nx, h_retZ, h_bGetn, h_bGets, h_setS, h_ipD, h_fldI, h_fldO, h_sfld, h_six, h_iteFd1, h_iteFd0, h_iteFe1, h_iteFe0, h_andFd1, h_andFd0, h_andFe1, h_andFe0, h_orFd1, h_orFd0, h_orFe1, h_orFe0, h_ifFd1, h_ifFd0, h_ifFe1, h_ifFe0, h_lcJd1, h_lcJd0, h_lcJe1, h_lcJe0, h_eMeth, h_methF, h_methV, h_methW, h_eCallO, h_callOF, h_callOV, h_callOW, h_callO1, h_meth1, h_meth2, h_resE, h_resEn, h_posn, h_posc, h_eMmeth, h_methM1, h_methM0, h_rm0o, h_rm0x, h_rm0n, h_rm1o, h_rm1x, h_putc, h_putE, h_subF, h_subI, h_putF, h_putI, h_setOs, h_eSfld, h_fldK, h_setFD, h_setFn, h_setFc, h_eMake, h_makeF, h_makeV, h_mk1, h_mkR, h_eProp, h_propF, h_propV, h_prop1, h_eLenU, h_lenI_lst, h_lenI_tup, h_lenI_scr, h_lenI_ins, h_lenQ, h_lenR, h_eSl, h_slE, h_evI0, h_evI1, h_intO, h_eSortR, h_eMs0, h_eMs1, h_RMthenL_ok, h_RLthenL_ok, h_RLthenM_ok, h_RMthenM_ok, h_RMthenT_ok, h_RTthen_ok, h_RTthenS_ok, h_RMthenL_exn, h_RLthenL_exn, h_RLthenM_exn, h_RMthenM_exn, h_RMthenT_exn, h_RTthen_exn, h_RTthenS_exn, h_consK, h_consL, h_eCallM, h_callM, h_etmT, h_etmTru, h_etmNot, h_etmAnd, h_etmOr, h_RTof, h_truK, h_notK, h_andK1, h_andK0, h_orK1, h_orK0, h_esIfM, h_ifK1, h_ifK0, h_eOpL, h_opK, h_andKd1, h_andKd0, h_orKd1, h_orKd0, h_ifKd1, h_ifKd0, h_eFz, h_eListU, h_lstE_lst, h_lstE_tup, h_lstE_scr, h_lstE_olst, h_lstE_ins, h_itQ, h_it_ins, h_lo_lst, h_lo_olst, h_eiSeqUF, h_eiSeqUP, h_eiEnumUF, h_eiEnumUP, h_eiEnumTF, h_eiEnumTP, h_enTI_tup, h_enTI_lst, h_enTI_ins, h_seqFI_lst, h_seqFI_tup, h_seqFI_scr, h_seqFI_ins, h_seqKI_lst, h_seqKI_tup, h_seqKI_scr, h_seqKI_ins, h_seqKI_olst, h_enFI_lst, h_enFI_ins, h_enKI_lst, h_enKI_ins, h_enKI_olst, h_eIxO, h_eEqO, h_eAddO, h_orI_s, h_orI_n, h_ixD_ins, h_okD_ins, h_eqD_ins, h_addD_ins, h_addD_oins, h_own_F, h_own_V, h_own_W, h_ownE, h_okAny, h_okSame, h_okEq_i, h_okEq_non, h_okEq_bl, h_okEq_int, h_okEq_str, h_okEq_lst, h_okEq_tup, h_okEq_scr, h_eBest, h_eSum, h_sumI, h_eAddV, h_addLV, h_eSortV, h_sortV, h_eSset, h_setK, h_storeD, h_eCallN, h_kwE_F, h_kwE_V, h_kwE_W, h_eMakeN, h_makeNE_F, h_makeNE_V, h_makeNE_W, h_mkN, h_mgM_t, h_mgM_f, h_mgM_n, h_eCallL, h_listFl, h_eDnew, h_eDget2, h_getE_non, h_getE_int, h_getE_str, h_getM_s, h_getM_n, h_eDix, h_dgE_int, h_dgE_str, h_eIn, h_eDin, h_inK_non, h_inK_int, h_inK_str, h_eDlist, h_eDict, h_eDlen, h_dicOf_d, h_dicOf_o, h_dicF_d, h_dicF_o, h_eDput, h_dputK, h_dputI, h_dputS, h_eForD, h_lockR, h_noEx_nx, h_noEx_rt, h_isDic, h_dsK, h_eLcD, h_eDc, h_eDcD, h_frE_s, h_frE_n, h_guardB_t, h_dc1, h_dcK, h_dcJ1, h_dcJ0, h_keyD_i, h_keyD_s, h_eDapp, h_dappI, h_kDs_n, h_kDs_c, h_dcL_n, h_putP_n, h_eMakeL, h_eMakeNL, h_eCallW, h_orEEs, h_orEEn, h_mkNV, h_eMk0, h_eCon, h_conD0, h_eSortSet, h_eAndO, h_eCallB, h_ebNil, h_ebCons, h_lend_olst, h_lend_int, h_lend_str, h_lend_bl, h_lend_non, h_lend_tup, h_lend_lst, h_lend_ins, h_lend_dic, h_eMakeB, h_lentEs, h_lentEn, h_ofBs, h_ofBn, h_oNl_int, h_oNl_str, h_oNl_bl, h_oNl_n, h_oNl_ins, h_oNl_oins, h_oNl_dic, h_oNl_odic, h_oNl_tup, h_oNl_olst, h_oNls_n, h_oNls_c, h_ofDs, h_ofDn, h_okD0s, h_oFl_i, h_oFl_s, h_oFl_b, h_oFl_n, h_oFl_ins, h_oFl_odic, h_oFl_olst, h_oFls_n, h_oFls_c, h_eDisp, h_dispEn, h_dispEc, h_eForO, h_forOFs, h_forOFn, h_ownLo, h_ownLl, h_ownLt, h_ownLs, h_ownLn, h_reRn, h_reRr, h_reRx, h_ePar, h_par2, h_eRaise, h_exOf, h_exOfn, h_eTryAs, h_tryK_nx, h_tryK_rt, h_tryK_bk, h_tryK_ct, h_tryK_no, h_tryK_ex, h_tryJ1, h_tryJ0, h_clr_nx, h_clr_rt, h_clr_bk, h_clr_ct, h_clr_no, h_ehAsg, h_hAsgK, h_hAsgKn, h_ehRet, h_hRetK, h_hRetKn, h_qevO, h_qevB, h_qevF, h_toQf, h_toQp, h_toQv, h_toQn, h_eqP, h_eqFld, h_eqIs, h_eqIsT, h_isX1t, h_isX1f, h_isXAn, h_isXAc, h_eqAnd, h_eqOr, h_eqNot, h_eqLst, h_eqs0, h_eqs1, h_eCallNM, h_callNM, h_eMakeM, h_makeM, h_mkMo, h_mkMx, h_mkMn, h_eMakeNM, h_makeNM, h_eCallOM, h_callOMs, h_eAppR, h_isOl, h_apmK, h_runR_ex, h_retX, h_look1, h_look2, h_div, h_mod, h_mulL, h_mulR, h_rngOk, List.zip_cons_cons, List.zip_nil_left, if_pos, if_neg, List.getElem?_cons_zero, List.getElem?_cons_succ, List.getElem?_nil, List.getLast?_append, List.getLast?_singleton, List.getLast?_cons_cons, runFn, env0, Option.toList, List.map_cons, List.map_nil, List.length_cons, List.length_nil, List.length_append, List.length_map, List.length_set, List.replicate, List.cons_append, List.nil_append, List.append_nil, Nat.reduceSub, Nat.reduceAdd, Nat.reduceLT, Nat.reduceLeDiff, Nat.reduceEqDiff, Nat.zero_add, Nat.add_zero, List.set_cons_zero, List.set_cons_succ, List.set_nil, Option.bind_some, Option.bind_none, Option.map_some, Option.map_none, List.foldl_cons, List.foldl_nil, not_false_eq_true, not_true_eq_false, and_true, true_and, and_self, and_false, false_and, if_true, if_false, ite_true, ite_false, reduceIte, List.not_mem_nil, reduceCtorEq, List.mem_cons, or_false, false_or, or_self, ne_eq, Bool.not_true, Bool.not_false, Bool.and_true, Bool.and_false, Bool.true_and, Bool.false_and, Bool.or_true, Bool.or_false, Bool.true_or, Bool.false_or, Bool.and_self, Bool.or_self, List.all_cons, List.all_nil, decide_true, decide_false, decide_not, decide_eq_true_eq, decide_eq_false_iff_not, Bool.not_not, Int.reduceLT, Int.reduceLE, Int.reduceEq, Int.reduceNe, Int.reduceAdd, Int.reduceMul, Int.reduceSub, Int.reduceNeg, List.isEmpty_cons, List.isEmpty_nil, Bool.false_eq_true, Bool.true_eq_false, String.reduceEq, Function.comp_apply, Option.isNone_none, Option.some_or, Option.isNone_some, List.getLast?_concat, List.dropLast_concat, List.all_append])

abbrev Pr := Int × Int
def eR (p : Pr) : D := .tup [.int p.1, .int p.2]
def oR : Option Pr → D
  | none => .non
  | some p => eR p
def ltR (p q : Pr) : Bool := HT.lexLt [p.1, p.2] [q.1, q.2]
def dR (p : Pr) : PyData := .tuple [.int p.1, .int p.2]
theorem sh_eR (p : Pr) : isSh (eR p) = true := rfl
theorem fz_eR (p : Pr) : fz (eR p) = eR p := fz_isSh rfl
theorem fl_eR (p : Pr) : isFlat (eR p) = false := rfl
theorem sh_oR (o : Option Pr) : isSh (oR o) = true := by cases o <;> rfl
theorem fz_oR (o : Option Pr) : fz (oR o) = oR o := fz_isSh (sh_oR o)
theorem ok_eR (n : Nat) (p : Pr) : okD (n + 1) (eR p) = true := by unfold eR; walk_at "ev"
theorem ok_oR (n : Nat) (o : Option Pr) : okD (n + 1) (oR o) = true := by cases o with
  | none => unfold oR; walk_at "ev"
  | some p => exact ok_eR n p
theorem eq_eR (p q : Pr) : eqB (eR p) (eR q) = decide (p = q) := by
  unfold eR; walk_at "ev"; rw [Bool.eq_iff_iff]; simp [Prod.ext_iff]
theorem eq_eRn (p : Pr) : eqB (eR p) .non = false := by unfold eR; walk_at "ev"
theorem eq_neR (p : Pr) : eqB .non (eR p) = false := by unfold eR; walk_at "ev"
theorem eq_oR (p q : Option Pr) : eqB (oR p) (oR q) = decide (p = q) := by
  cases p <;> cases q <;> (unfold oR)
  · walk_at "ev"
  · rw [eq_neR]; simp
  · rw [eq_eRn]; simp
  · rw [eq_eR]; simp
theorem isN_eR (p : Pr) : isNon (eR p) = false := rfl
theorem isN_oR (o : Option Pr) : isNon (oR o) = o.isNone := by cases o <;> rfl
theorem ty_eR (p : Pr) : tyD (eR p) = some (false, "tuple") := rfl
theorem len_eR (p : Pr) : lenD [eR p] = some (.int 2) := rfl
theorem sF_eR (p : Pr) : seqF (eR p) = some [.int p.1, .int p.2] := rfl
theorem it_eR (p : Pr) : itemsD (eR p) = some [.int p.1, .int p.2] := rfl
theorem lt_eR (p q : Pr) : ltD (eR p) (eR q) = some (.bl (ltR p q)) := by unfold eR ltR; walk_at "ev"
theorem okl_eR (n : Nat) (ps : List Pr) : okDs (n + 1) (ps.map eR) = true := okDs_map (ok_eR n) ps
theorem eql_eR (ps qs : List Pr) : eqBs (ps.map eR) (qs.map eR) = decide (ps = qs) := eqBs_map eq_eR ps qs
theorem shl_eR (ps : List Pr) : (ps.map eR).all isSh = true := sh_map sh_eR ps
theorem fzl_eR (ps : List Pr) : fzs (ps.map eR) = ps.map eR := fzs_map sh_eR ps
theorem pd_eR (p : Pr) : pd (eR p) = some (dR p) := by unfold eR dR; simp [pd, pds]
theorem sortOk_dR (ps : List Pr) : sortOk (ps.map dR) = true := by
  unfold sortOk
  simp only [Bool.and_eq_true, List.all_eq_true, Bool.or_eq_true]
  refine ⟨⟨?_, .inl ?_⟩, ?_⟩
  · intro a ha b hb
    obtain ⟨x, _, rfl⟩ := List.mem_map.mp ha
    obtain ⟨y, _, rfl⟩ := List.mem_map.mp hb
    simp [dR, PySem.W.alike, PySem.W.alikeAll]
  · intro a ha
    obtain ⟨x, _, rfl⟩ := List.mem_map.mp ha
    rfl
  · intro a ha
    obtain ⟨x, _, rfl⟩ := List.mem_map.mp ha
    simp [dR, PyData.depth, PyData.depthAll]
theorem ltR_iff (p q : Pr) : ltR p q = true ↔ p.1 < q.1 ∨ p.1 = q.1 ∧ p.2 < q.2 := by
  unfold ltR
  rw [HT.lexLt_cons, HT.lexLt_cons, HT.lexLt_nil_nil]
  by_cases h : p.1 = q.1 <;> by_cases h2 : p.2 = q.2 <;> simp [h, h2]
/-- not greater -/
def leR (p q : Pr) : Bool := !ltR q p
theorem le_dR : PySem.W.dataLe false dR = leR := by
  funext p q
  rw [PySem.W.dataLe_eq]
  show (!PySem.W.dataLt (dR q) (dR p)) = _
  unfold dR leR
  rw [PySem.W.dataLt_ii, Bool.eq_iff_iff]
  simp [← ltR_iff]
theorem leR_iff (p q : Pr) : leR p q = true ↔ p.1 < q.1 ∨ p.1 = q.1 ∧ p.2 ≤ q.2 := by
  unfold leR
  rw [Bool.not_eq_true', ← Bool.not_eq_true, ltR_iff]
  omega
theorem leR_trans {p q r : Pr} (h1 : leR p q = true) (h2 : leR q r = true) : leR p r = true := by rw [leR_iff] at *; omega
theorem leR_total (p q : Pr) : (leR p q || leR q p) = true := by rw [Bool.or_eq_true, leR_iff, leR_iff]; omega
theorem leR_anti {p q : Pr} (h1 : leR p q = true) (h2 : leR q p = true) : p = q := by rw [leR_iff] at *; ext <;> omega
theorem leR_refl (p : Pr) : leR p p = true := by rw [leR_iff]; omega
abbrev AscR (ps : List Pr) : Prop := ps.Pairwise fun p q => leR p q = true
def srtR (ps : List Pr) : List Pr := ps.mergeSort leR
theorem srtR_perm (ps : List Pr) : (srtR ps).Perm ps := List.mergeSort_perm _ _
theorem srtR_len (ps : List Pr) : (srtR ps).length = ps.length := (srtR_perm ps).length_eq
theorem srtR_asc (ps : List Pr) : AscR (srtR ps) := List.pairwise_mergeSort (le := leR) (fun a b c => leR_trans) leR_total ps
theorem asc_unique : ∀ {ps qs : List Pr}, AscR ps → AscR qs → ps.Perm qs → ps = qs
  | [], qs, _, _, h => (h.symm.eq_nil).symm
  | p :: ps, [], _, _, h => absurd h.eq_nil (by simp)
  | p :: ps, q :: qs, h1, h2, h => by
    rw [AscR, List.pairwise_cons] at h1 h2
    have e : p = q := by
      rcases List.mem_cons.mp (h.subset (List.mem_cons_self ..)) with e | m
      · exact e
      · rcases List.mem_cons.mp (h.symm.subset (List.mem_cons_self ..)) with e | m2
        · exact e.symm
        · exact leR_anti (h1.1 q m2) (h2.1 p m)
    subst e
    rw [asc_unique h1.2 h2.2 (List.Perm.cons_inv h)]
theorem srtR_of {ps qs : List Pr} (h : AscR qs) (hp : qs.Perm ps) : srtR ps = qs := asc_unique (srtR_asc ps) h ((srtR_perm ps).trans hp.symm)
theorem srt_eR (ps : List Pr) : sortD (ps.map eR) = some ((srtR ps).map eR) := by
  rw [sortD_map pd_eR ps (sortOk_dR ps), le_dR]; rfl
/-- put into a row of falling things -/
def insD (p : Pr) : List Pr → List Pr
  | [] => [p]
  | x :: xs => if ltR p x = true then x :: insD p xs else p :: x :: xs
/-- put into a row of rising things, from behind -/
def insR (p : Pr) (ps : List Pr) : List Pr := (insD p ps.reverse).reverse
theorem insD_cons (p x : Pr) (xs : List Pr) : insD p (x :: xs) = if ltR p x = true then x :: insD p xs else p :: x :: xs := rfl
theorem insD_perm (p : Pr) : ∀ xs : List Pr, (insD p xs).Perm (p :: xs)
  | [] => .refl _
  | x :: xs => by
    unfold insD
    split
    · exact ((insD_perm p xs).cons x).trans (.swap ..)
    · exact .refl _
theorem insR_perm (p : Pr) (ps : List Pr) : (insR p ps).Perm (ps ++ [p]) := by
  refine (List.reverse_perm _).trans ((insD_perm p _).trans ?_)
  exact ((List.reverse_perm ps).cons p).trans (List.perm_append_comm (l₁ := [p]))
theorem insD_desc (p : Pr) : ∀ {xs : List Pr}, xs.Pairwise (fun a b => leR b a = true) → (insD p xs).Pairwise fun a b => leR b a = true
  | [], _ => by simp [insD]
  | x :: xs, h => by
    unfold insD
    have h' := List.pairwise_cons.mp h
    split
    · rename_i e
      refine List.pairwise_cons.mpr ⟨fun a ha => ?_, insD_desc p h'.2⟩
      rcases List.mem_cons.mp ((insD_perm p xs).subset ha) with rfl | m
      · rw [leR_iff]; rw [ltR_iff] at e; omega
      · exact h'.1 a m
    · rename_i e
      have hx : leR x p = true := by unfold leR; simpa using e
      refine List.pairwise_cons.mpr ⟨fun a ha => ?_, h⟩
      rcases List.mem_cons.mp ha with rfl | m
      · exact hx
      · exact leR_trans (h'.1 a m) hx
theorem insR_asc (p : Pr) {ps : List Pr} (h : AscR ps) : AscR (insR p ps) := by
  unfold insR AscR
  rw [List.pairwise_reverse]
  exact insD_desc p (List.pairwise_reverse.mpr h)
theorem srt_insR (p : Pr) {ps : List Pr} (h : AscR ps) : srtR (ps ++ [p]) = insR p ps := srtR_of (insR_asc p h) (insR_perm p ps)
theorem insR_nil (p : Pr) : insR p [] = [p] := rfl
theorem insR_snoc (p x : Pr) (ps : List Pr) : insR p (ps ++ [x]) = if ltR p x = true then insR p ps ++ [x] else ps ++ [x] ++ [p] := by
  unfold insR
  rw [List.reverse_append]
  show (insD p (x :: ps.reverse)).reverse = _
  rw [insD_cons]
  split
  · rw [List.reverse_cons]
  · simp
theorem insR_len (p : Pr) (ps : List Pr) : (insR p ps).length = ps.length + 1 := by rw [(insR_perm p ps).length_eq]; simp
end Py

namespace Py
open PySem L2
local macro_rules | `(tactic| walk_at "ev") => `(tactic| try simp (maxSteps := 1000000) (disch := first | omega | decide) only [e_xsSeq, e_xsNext, e_xsBreak, e_xsCont, e_xsNever, e_xsRetN, e_xsAsg, e_xsAsgG, e_xsExpr, e_xsRet, e_xsIf, e_xsFrz, e_xmP, e_xVar_V, e_xtV, e_xtTru, e_xtAnd, e_xtOr, e_xtNot, e_xtYes, e_xVar, e_xInt, e_xBl, e_xNon, e_xStr, e_xSub, e_xMul, e_xDiv, e_xMod, e_xPow, e_xNeg, e_xAdd, e_xEq, e_xInE, e_xNe, e_xLt, e_xLe, e_xGt, e_xGe, e_xIsN, e_xNotN, e_xAnd, e_xOr, e_xNot, e_xChainI, e_xIf, e_xTup, e_xLst, e_xInt1, e_xAbs, e_xMax2, e_xMin2, e_xLen, e_xIx, e_xFld, e_xList, e_xTuple, e_xIsi, e_xIsiT, e_xCall, e_xLc, e_xSorted, e_xmVar, e_xmMove, e_xmAppend, e_xmExtend, e_xmInsert, e_xmPop, e_xmReverse, e_xmClear, e_xoNil, e_xoCons, e_plVar, r_plVar, r_plFld, r_plIx, e_plFld, e_plIx, e_xaNilV, e_xaNilF, e_xaConsV, e_xaConsF, e_xgN, e_xgsNil, e_xgsCons, e_xgT, o_xgN, o_xgT, o_xgsNil, o_xgsCons, e_xiSeqF, e_xiSeqP, e_xiR1F, e_xiR1P, e_xiR2F, e_xiR2P, e_xiEnumF, e_xiZipF, e_xiEnumP, e_xiZipP, e_xsFor, e_xsWhile, e_xsAug, e_evV, e_evK, e_evF, e_evO, e_evB, h_getS0, h_getS0n, h_getSs, h_toV, h_toVn, h_toKf, h_toKp, h_toKv, h_toKn, h_toFf, h_toFp, h_toFv, h_toFn, h_toOf, h_toOp, h_toOv, h_toOn, h_of_f, h_of_p, h_of_v, h_then_nx, h_then_rt, h_then_bk, h_then_ct, h_then_ex, h_then_no, h_thenS_ok, h_thenS_exn, h_thenS_no, h_ofO, h_ofOn, h_of, h_ofn, h_mofO, h_mofOn, h_iteF1, h_iteF0, h_iteFn, h_asgK, h_asgGK, h_ifF1, h_ifF0, h_forK, h_chF0, h_chF1, h_andF1, h_andF0, h_orF1, h_orF0, h_blD, h_turn, h_turnn, h_forE, h_forEn, h_callF, h_callV, h_rzF, h_rzV, h_fz_non, h_sh_non, h_fl_non, h_isN_non, h_fz_bl, h_sh_bl, h_fl_bl, h_fz_int, h_sh_int, h_fl_int, h_isN_int, h_fz_str, h_sh_str, h_fl_str, h_isN_str, h_fz_cls, h_sh_cls, h_fl_cls, h_isN_cls, h_fz_sei, h_sh_sei, h_fl_sei, h_isN_sei, h_fz_scr, h_sh_scr, h_fl_scr, h_isN_scr, h_fz_tup, h_sh_tup, h_fl_tup, h_isN_tup, h_fz_lst, h_sh_lst, h_fl_lst, h_isN_lst, h_fz_dic, h_sh_dic, h_fl_dic, h_isN_dic, h_fz_dit, h_sh_dit, h_fl_dit, h_isN_dit, h_fz_dig, h_sh_dig, h_fl_dig, h_isN_dig, h_fz_ins, h_sh_ins, h_fl_ins, h_isN_ins, h_isN_bl, h_fz_olst, h_sh_olst, h_fl_olst, h_fz_odic, h_sh_odic, h_fl_odic, h_fz_odit, h_sh_odit, h_fl_odit, h_fz_odig, h_sh_odig, h_fl_odig, h_fz_oins, h_sh_oins, h_fl_oins, h_fzs_nil, h_fzs_cons, h_fzs_app, h_tru_bl, h_tru_non, h_tru_int, h_tru_lst, h_tru_tup, h_sub, h_neg, h_addI, h_addT, h_addL, h_addLo, h_addoL, h_addoo, h_eqD, h_neD, h_ok_non, h_ok_bl, h_ok_int, h_ok_str, h_ok_tup, h_ok_lst, h_oks_nil, h_oks_cons, h_eqB_ii, h_eqB_ss, h_eqB_bb, h_eqB_nn, h_eqB_ni, h_eqB_in, h_eqB_nt, h_eqB_tn, h_eqB_tt, h_eqB_ll, h_eqBs_nn, h_eqBs_cc, h_eqBs_nc, h_eqBs_cn, h_cmp, h_ltI, h_ltT, h_ints_nil, h_ints_cons, h_intI, h_intB, h_abs, h_max2, h_min2, h_lenL, h_lenT, h_lenS, h_ix, h_it_lst, h_it_olst, h_it_tup, h_it_scr, h_at0, h_at1, h_at2, h_at3, h_at4, h_at5, h_at6, h_at7, h_at8, h_at9, h_at10, h_at11, h_at12, h_atm1, h_seq_lst, h_seq_tup, h_seq_olst, h_seq_scr, h_sF_lst, h_sF_tup, h_sF_scr, h_lF_lst, h_ty_non, h_ty_bl, h_ty_int, h_ty_str, h_ty_lst, h_ty_tup, h_ty_ins, h_isi_bb, h_isi_bo, h_isi_ob, h_isi_oo, h_isiA_n, h_isiA_c, h_isiB_NoneType_bool, h_isiB_NoneType_int, h_isiB_NoneType_str, h_isiB_NoneType_list, h_isiB_NoneType_tuple, h_isiB_NoneType_dict, h_isiB_bool_bool, h_isiB_bool_int, h_isiB_bool_str, h_isiB_bool_list, h_isiB_bool_tuple, h_isiB_bool_dict, h_isiB_int_bool, h_isiB_int_int, h_isiB_int_str, h_isiB_int_list, h_isiB_int_tuple, h_isiB_int_dict, h_isiB_str_bool, h_isiB_str_int, h_isiB_str_str, h_isiB_str_list, h_isiB_str_tuple, h_isiB_str_dict, h_isiB_list_bool, h_isiB_list_int, h_isiB_list_str, h_isiB_list_list, h_isiB_list_tuple, h_isiB_list_dict, h_isiB_tuple_bool, h_isiB_tuple_int, h_isiB_tuple_str, h_isiB_tuple_list, h_isiB_tuple_tuple, h_isiB_tuple_dict, h_isiB_dict_bool, h_isiB_dict_int, h_isiB_dict_str, h_isiB_dict_list, h_isiB_dict_tuple, h_isiB_dict_dict, h_append, h_extL, h_extO, h_pop, h_rev, h_clear, h_insert, h_put0, h_rng1, h_rng2, h_guard1, h_guard0, h_forLn, h_forLc, h_forT_nx, h_forT_ct, h_forT_bk, h_forT_rt, h_forT_ex, h_lc1, h_lcK, h_lcJ1, h_lcJ0, h_wipe0, h_wipes, h_frz, h_frzO, h_frzOn, h_runR_rt, h_runR_nx, h_retZ, h_bGetn, h_bGets, h_setS, h_ipD, h_fldI, h_fldO, h_sfld, h_six, h_iteFd1, h_iteFd0, h_iteFe1, h_iteFe0, h_andFd1, h_andFd0, h_andFe1, h_andFe0, h_orFd1, h_orFd0, h_orFe1, h_orFe0, h_ifFd1, h_ifFd0, h_ifFe1, h_ifFe0, h_lcJd1, h_lcJd0, h_lcJe1, h_lcJe0, h_eMeth, h_methF, h_methV, h_methW, h_eCallO, h_callOF, h_callOV, h_callOW, h_callO1, h_meth1, h_meth2, h_resE, h_resEn, h_posn, h_posc, h_eMmeth, h_methM1, h_methM0, h_rm0o, h_rm0x, h_rm0n, h_rm1o, h_rm1x, h_putc, h_putE, h_subF, h_subI, h_putF, h_putI, h_setOs, h_eSfld, h_fldK, h_setFD, h_setFn, h_setFc, h_eMake, h_makeF, h_makeV, h_mk1, h_mkR, h_eProp, h_propF, h_propV, h_prop1, h_eLenU, h_lenI_lst, h_lenI_tup, h_lenI_scr, h_lenI_ins, h_lenQ, h_lenR, h_eSl, h_slE, h_evI0, h_evI1, h_intO, h_eSortR, h_eMs0, h_eMs1, h_RMthenL_ok, h_RLthenL_ok, h_RLthenM_ok, h_RMthenM_ok, h_RMthenT_ok, h_RTthen_ok, h_RTthenS_ok, h_RMthenL_exn, h_RLthenL_exn, h_RLthenM_exn, h_RMthenM_exn, h_RMthenT_exn, h_RTthen_exn, h_RTthenS_exn, h_consK, h_consL, h_eCallM, h_callM, h_etmT, h_etmTru, h_etmNot, h_etmAnd, h_etmOr, h_RTof, h_truK, h_notK, h_andK1, h_andK0, h_orK1, h_orK0, h_esIfM, h_ifK1, h_ifK0, h_eOpL, h_opK, h_andKd1, h_andKd0, h_orKd1, h_orKd0, h_ifKd1, h_ifKd0, h_eFz, h_eListU, h_lstE_lst, h_lstE_tup, h_lstE_scr, h_lstE_olst, h_lstE_ins, h_itQ, h_it_ins, h_lo_lst, h_lo_olst, h_eiSeqUF, h_eiSeqUP, h_eiEnumUF, h_eiEnumUP, h_eiEnumTF, h_eiEnumTP, h_enTI_tup, h_enTI_lst, h_enTI_ins, h_seqFI_lst, h_seqFI_tup, h_seqFI_scr, h_seqFI_ins, h_seqKI_lst, h_seqKI_tup, h_seqKI_scr, h_seqKI_ins, h_seqKI_olst, h_enFI_lst, h_enFI_ins, h_enKI_lst, h_enKI_ins, h_enKI_olst, h_eIxO, h_eEqO, h_eAddO, h_orI_s, h_orI_n, h_ixD_ins, h_okD_ins, h_eqD_ins, h_addD_ins, h_addD_oins, h_own_F, h_own_V, h_own_W, h_ownE, h_okAny, h_okSame, h_okEq_i, h_okEq_non, h_okEq_bl, h_okEq_int, h_okEq_str, h_okEq_lst, h_okEq_tup, h_okEq_scr, h_eBest, h_eSum, h_sumI, h_eAddV, h_addLV, h_eSortV, h_sortV, h_eSset, h_setK, h_storeD, h_eCallN, h_kwE_F, h_kwE_V, h_kwE_W, h_eMakeN, h_makeNE_F, h_makeNE_V, h_makeNE_W, h_mkN, h_mgM_t, h_mgM_f, h_mgM_n, h_eCallL, h_listFl, h_eDnew, h_eDget2, h_getE_non, h_getE_int, h_getE_str, h_getM_s, h_getM_n, h_eDix, h_dgE_int, h_dgE_str, h_eIn, h_eDin, h_inK_non, h_inK_int, h_inK_str, h_eDlist, h_eDict, h_eDlen, h_dicOf_d, h_dicOf_o, h_dicF_d, h_dicF_o, h_eDput, h_dputK, h_dputI, h_dputS, h_eForD, h_lockR, h_noEx_nx, h_noEx_rt, h_isDic, h_dsK, h_eLcD, h_eDc, h_eDcD, h_frE_s, h_frE_n, h_guardB_t, h_dc1, h_dcK, h_dcJ1, h_dcJ0, h_keyD_i, h_keyD_s, h_eDapp, h_dappI, h_kDs_n, h_kDs_c, h_dcL_n, h_putP_n, h_eMakeL, h_eMakeNL, h_eCallW, h_orEEs, h_orEEn, h_mkNV, h_eMk0, h_eCon, h_conD0, h_eSortSet, h_eAndO, h_eCallB, h_ebNil, h_ebCons, h_lend_olst, h_lend_int, h_lend_str, h_lend_bl, h_lend_non, h_lend_tup, h_lend_lst, h_lend_ins, h_lend_dic, h_eMakeB, h_lentEs, h_lentEn, h_ofBs, h_ofBn, h_oNl_int, h_oNl_str, h_oNl_bl, h_oNl_n, h_oNl_ins, h_oNl_oins, h_oNl_dic, h_oNl_odic, h_oNl_tup, h_oNl_olst, h_oNls_n, h_oNls_c, h_ofDs, h_ofDn, h_okD0s, h_oFl_i, h_oFl_s, h_oFl_b, h_oFl_n, h_oFl_ins, h_oFl_odic, h_oFl_olst, h_oFls_n, h_oFls_c, h_eDisp, h_dispEn, h_dispEc, h_eForO, h_forOFs, h_forOFn, h_ownLo, h_ownLl, h_ownLt, h_ownLs, h_ownLn, h_reRn, h_reRr, h_reRx, h_ePar, h_par2, h_eRaise, h_exOf, h_exOfn, h_eTryAs, h_tryK_nx, h_tryK_rt, h_tryK_bk, h_tryK_ct, h_tryK_no, h_tryK_ex, h_tryJ1, h_tryJ0, h_clr_nx, h_clr_rt, h_clr_bk, h_clr_ct, h_clr_no, h_ehAsg, h_hAsgK, h_hAsgKn, h_ehRet, h_hRetK, h_hRetKn, h_qevO, h_qevB, h_qevF, h_toQf, h_toQp, h_toQv, h_toQn, h_eqP, h_eqFld, h_eqIs, h_eqIsT, h_isX1t, h_isX1f, h_isXAn, h_isXAc, h_eqAnd, h_eqOr, h_eqNot, h_eqLst, h_eqs0, h_eqs1, h_eCallNM, h_callNM, h_eMakeM, h_makeM, h_mkMo, h_mkMx, h_mkMn, h_eMakeNM, h_makeNM, h_eCallOM, h_callOMs, h_eAppR, h_isOl, h_apmK, h_runR_ex, h_retX, h_look1, h_look2, h_div, h_mod, h_mulL, h_mulR, h_rngOk, List.zip_cons_cons, List.zip_nil_left, if_pos, if_neg, List.getElem?_cons_zero, List.getElem?_cons_succ, List.getElem?_nil, List.getLast?_append, List.getLast?_singleton, List.getLast?_cons_cons, runFn, env0, Option.toList, List.map_cons, List.map_nil, List.length_cons, List.length_nil, List.length_append, List.length_map, List.length_set, List.replicate, List.cons_append, List.nil_append, List.append_nil, Nat.reduceSub, Nat.reduceAdd, Nat.reduceLT, Nat.reduceLeDiff, Nat.reduceEqDiff, Nat.zero_add, Nat.add_zero, List.set_cons_zero, List.set_cons_succ, List.set_nil, Option.bind_some, Option.bind_none, Option.map_some, Option.map_none, List.foldl_cons, List.foldl_nil, not_false_eq_true, not_true_eq_false, and_true, true_and, and_self, and_false, false_and, if_true, if_false, ite_true, ite_false, reduceIte, List.not_mem_nil, reduceCtorEq, List.mem_cons, or_false, false_or, or_self, ne_eq, Bool.not_true, Bool.not_false, Bool.and_true, Bool.and_false, Bool.true_and, Bool.false_and, Bool.or_true, Bool.or_false, Bool.true_or, Bool.false_or, Bool.and_self, Bool.or_self, List.all_cons, List.all_nil, decide_true, decide_false, decide_not, decide_eq_true_eq, decide_eq_false_iff_not, Bool.not_not, Int.reduceLT, Int.reduceLE, Int.reduceEq, Int.reduceNe, Int.reduceAdd, Int.reduceMul, Int.reduceSub, Int.reduceNeg, List.isEmpty_cons, List.isEmpty_nil, Bool.false_eq_true, Bool.true_eq_false, String.reduceEq, Function.comp_apply, Option.isNone_none, Option.some_or, Option.isNone_some, List.getLast?_concat, List.dropLast_concat, List.all_append])

class Enc (α : Type) [DecidableEq α] where
  enc : α → D
  sh : ∀ a, isSh (enc a) = true
  dp : Nat
  ok : ∀ n a, okD (n + dp) (enc a) = true
  eq : ∀ a b, eqB (enc a) (enc b) = decide (a = b)
open Enc (enc)
/-- .. that is never None -/
class EncN (α : Type) [DecidableEq α] [Enc α] : Prop where
  nn : ∀ a : α, isNon (enc a) = false
  en : ∀ a : α, eqB (enc a) .non = false
  ne : ∀ a : α, eqB .non (enc a) = false
/-- .. carried by value -/
class EncF (α : Type) [DecidableEq α] [Enc α] : Prop where
  fl : ∀ a : α, isFlat (enc a) = true
theorem okD_mono : ∀ (n : Nat) (d : D), okD n d = true → okD (n + 1) d = true := by
  have go : ∀ n, (∀ d, okD n d = true → okD (n + 1) d = true) := by
    intro n
    induction n with
    | zero =>
      intro d h
      cases d <;> first | (simp [okD]; done) | (simp [okD] at h)
    | succ n ih =>
      intro d h
      cases d <;> first | (simp [okD]; done) | skip
      all_goals first | (simp [okD] at h; done) | skip
      all_goals
        rw [okD, okDs_all, List.all_eq_true] at h ⊢
        exact fun x hx => ih x (h x hx)
  exact go
theorem okD_le {n m : Nat} {d : D} (h : okD n d = true) (hm : n ≤ m) : okD m d = true := by
  induction m with
  | zero => obtain rfl : n = 0 := by omega
            exact h
  | succ m ih =>
    by_cases e : n = m + 1
    · subst e; exact h
    · exact okD_mono m d (ih (by omega))
section
variable {α β γ : Type} [DecidableEq α] [DecidableEq β] [DecidableEq γ] [Enc α] [Enc β] [Enc γ]
theorem sh_enc (a : α) : isSh (enc a) = true := Enc.sh a
theorem fz_enc (a : α) : fz (enc a) = enc a := fz_isSh (Enc.sh a)
theorem shl_enc (xs : List α) : (xs.map enc).all isSh = true := sh_map Enc.sh xs
theorem fzl_enc (xs : List α) : fzs (xs.map enc) = xs.map enc := fzs_map Enc.sh xs
theorem fl_enc [EncF α] (a : α) : isFlat (enc a) = true := EncF.fl a
theorem nn_enc [EncN α] (a : α) : isNon (enc a) = false := EncN.nn a
theorem ok_enc {n : Nat} (a : α) (h : Enc.dp α ≤ n) : okD n (enc a) = true := by
  have := Enc.ok (n - Enc.dp α) a
  rwa [show n - Enc.dp α + Enc.dp α = n by omega] at this
theorem okl_enc {n : Nat} (xs : List α) (h : Enc.dp α ≤ n) : okDs n (xs.map enc) = true := okDs_map (fun a => ok_enc a h) xs
theorem eq_enc (a b : α) : eqB (enc a) (enc b) = decide (a = b) := Enc.eq a b
theorem eql_enc (xs ys : List α) : eqBs (xs.map enc) (ys.map enc) = decide (xs = ys) := eqBs_map Enc.eq xs ys
theorem en_enc [EncN α] (a : α) : eqB (enc a) .non = false := EncN.en a
theorem ne_enc [EncN α] (a : α) : eqB .non (enc a) = false := EncN.ne a
end
instance : Enc Int := ⟨.int, fun _ => rfl, 0, fun n a => by walk_at "ev", fun a b => by walk_at "ev"⟩
instance : EncN Int := ⟨fun _ => rfl, fun a => by show eqB (.int a) .non = _; walk_at "ev", fun a => by show eqB .non (.int a) = _; walk_at "ev"⟩
instance : EncF Int := ⟨fun _ => rfl⟩
theorem enc_int (i : Int) : enc i = .int i := rfl
instance : Enc Bool := ⟨.bl, fun _ => rfl, 0, fun n a => by walk_at "ev", fun a b => by walk_at "ev"⟩
instance : EncN Bool := ⟨fun _ => rfl, fun a => by show eqB (.bl a) .non = _; simp [eqB], fun a => by show eqB .non (.bl a) = _; simp [eqB]⟩
instance : EncF Bool := ⟨fun _ => rfl⟩
theorem enc_bool (i : Bool) : enc i = .bl i := rfl
instance : Enc String := ⟨.str, fun _ => rfl, 0, fun n a => by walk_at "ev", fun a b => by walk_at "ev"⟩
instance : EncN String := ⟨fun _ => rfl, fun a => by show eqB (.str a) .non = _; simp [eqB], fun a => by show eqB .non (.str a) = _; simp [eqB]⟩
instance : EncF String := ⟨fun _ => rfl⟩
theorem enc_str (i : String) : enc i = .str i := rfl
section
variable {α β γ : Type} [DecidableEq α] [DecidableEq β] [DecidableEq γ] [Enc α] [Enc β] [Enc γ]
def encO : Option α → D
  | none => .non
  | some a => enc a
instance [EncN α] : Enc (Option α) where
  enc := encO
  sh a := by cases a; rfl; exact Enc.sh _
  dp := Enc.dp α
  ok n a := by
    cases a with
    | none => show okD _ .non = true; walk_at "ev"
    | some a => exact Enc.ok n a
  eq a b := by
    cases a <;> cases b
    · show eqB .non .non = _; walk_at "ev"
    · rename_i b; show eqB .non (enc b) = _; rw [ne_enc]; simp
    · rename_i b; show eqB (enc b) .non = _; rw [en_enc]; simp
    · rename_i a b; show eqB (enc a) (enc b) = _; rw [eq_enc]; simp
instance [EncN α] [EncF α] : EncF (Option α) := ⟨fun a => by cases a; rfl; exact EncF.fl (α := α) _⟩
theorem enc_none [EncN α] : enc (none : Option α) = .non := rfl
theorem enc_some [EncN α] (a : α) : enc (some a) = enc a := rfl
theorem isN_opt [EncN α] (o : Option α) : isNon (enc o) = o.isNone := by
  cases o with
  | none => rfl
  | some a => exact nn_enc a
def enc2 (p : α × β) : D := .tup [enc p.1, enc p.2]
instance : Enc (α × β) where
  enc := enc2
  sh _ := rfl
  dp := max (Enc.dp α) (Enc.dp β) + 1
  ok n a := by
    show okD (n + (max (Enc.dp α) (Enc.dp β) + 1)) (.tup [enc a.1, enc a.2]) = true
    rw [← Nat.add_assoc, h_ok_tup, h_oks_cons, h_oks_cons, h_oks_nil, ok_enc _ (by omega), ok_enc _ (by omega)]; rfl
  eq a b := by
    show eqB (.tup [enc a.1, enc a.2]) (.tup [enc b.1, enc b.2]) = _
    rw [h_eqB_tt, h_eqBs_cc, h_eqBs_cc, h_eqBs_nn, eq_enc, eq_enc, Bool.eq_iff_iff]
    simp [Prod.ext_iff]
instance : EncN (α × β) := ⟨fun _ => rfl, fun a => by show eqB (.tup _) .non = _; walk_at "ev", fun a => by show eqB .non (.tup _) = _; walk_at "ev"⟩
theorem enc_pair (a : α) (b : β) : enc (a, b) = .tup [enc a, enc b] := rfl
theorem it_pair (p : α × β) : itemsD (enc p) = some [enc p.1, enc p.2] := rfl
theorem sF_pair (p : α × β) : seqF (enc p) = some [enc p.1, enc p.2] := rfl
theorem sFI_pair {T : Tbl} (p : α × β) : seqFI T (enc p) = some [enc p.1, enc p.2] := rfl
theorem sKI_pair {T : Tbl} (p : α × β) : seqKI T (enc p) = some [enc p.1, enc p.2] := rfl
theorem so_pair (p : α × β) : seqOf (enc p) = some (true, [enc p.1, enc p.2]) := rfl
theorem ty_pair (p : α × β) : tyD (enc p) = some (false, "tuple") := rfl
theorem len_pair (p : α × β) : lenD [enc p] = some (.int 2) := rfl
theorem lenI_pair {T : Tbl} {φ : Sem} (p : α × β) : lenI1 T φ [enc p] = some (.int 2) := rfl
theorem fl_pair (p : α × β) : isFlat (enc p) = false := rfl
theorem tru_pair (p : α × β) : truD (enc p) = some true := rfl
theorem xg_pair {W : Wd T} {gs : XGs W} {P : List Nat} {env : Py.Env} (p : α × β) : (xgT 2 gs).ev P (enc p) env = gs.ev P [enc p.1, enc p.2] env := by show (xgT 2 gs).ev P (.tup [enc p.1, enc p.2]) env = _; rw [e_xgT]; exact if_pos rfl
/-- three things as a tuple -/
structure T3 (α β γ : Type) where
  a : α
  b : β
  c : γ
deriving DecidableEq
instance : Enc (T3 α β γ) where
  enc p := .tup [enc p.a, enc p.b, enc p.c]
  sh _ := rfl
  dp := max (Enc.dp α) (max (Enc.dp β) (Enc.dp γ)) + 1
  ok n a := by
    show okD (n + (max (Enc.dp α) (max (Enc.dp β) (Enc.dp γ)) + 1)) (.tup [enc a.a, enc a.b, enc a.c]) = true
    rw [← Nat.add_assoc, h_ok_tup, h_oks_cons, h_oks_cons, h_oks_cons, h_oks_nil, ok_enc _ (by omega), ok_enc _ (by omega), ok_enc _ (by omega)]; rfl
  eq a b := by
    show eqB (.tup [enc a.a, enc a.b, enc a.c]) (.tup [enc b.a, enc b.b, enc b.c]) = _
    rw [h_eqB_tt, h_eqBs_cc, h_eqBs_cc, h_eqBs_cc, h_eqBs_nn, eq_enc, eq_enc, eq_enc, Bool.eq_iff_iff]
    cases a; cases b
    simp
instance : EncN (T3 α β γ) := ⟨fun _ => rfl, fun a => by show eqB (.tup _) .non = _; walk_at "ev", fun a => by show eqB .non (.tup _) = _; walk_at "ev"⟩
theorem enc_t3 (a : α) (b : β) (c : γ) : enc (T3.mk a b c) = .tup [enc a, enc b, enc c] := rfl
theorem it_t3 (p : T3 α β γ) : itemsD (enc p) = some [enc p.a, enc p.b, enc p.c] := rfl
theorem sF_t3 (p : T3 α β γ) : seqF (enc p) = some [enc p.a, enc p.b, enc p.c] := rfl
theorem sFI_t3 {T : Tbl} (p : T3 α β γ) : seqFI T (enc p) = some [enc p.a, enc p.b, enc p.c] := rfl
theorem ty_t3 (p : T3 α β γ) : tyD (enc p) = some (false, "tuple") := rfl
theorem len_t3 (p : T3 α β γ) : lenD [enc p] = some (.int 3) := rfl
theorem lenI_t3 {T : Tbl} {φ : Sem} (p : T3 α β γ) : lenI1 T φ [enc p] = some (.int 3) := rfl
theorem fl_t3 (p : T3 α β γ) : isFlat (enc p) = false := rfl
theorem xg_t3 {W : Wd T} {gs : XGs W} {P : List Nat} {env : Py.Env} (p : T3 α β γ) : (xgT 3 gs).ev P (enc p) env = gs.ev P [enc p.a, enc p.b, enc p.c] env := by show (xgT 3 gs).ev P (.tup [enc p.a, enc p.b, enc p.c]) env = _; rw [e_xgT]; exact if_pos rfl
instance : Enc (List α) where
  enc xs := .lst (xs.map enc)
  sh _ := rfl
  dp := Enc.dp α + 1
  ok n a := by
    show okD (n + (Enc.dp α + 1)) (.lst _) = true
    rw [← Nat.add_assoc, h_ok_lst]; exact okl_enc a (by omega)
  eq a b := by
    show eqB (.lst _) (.lst _) = _
    rw [h_eqB_ll, eql_enc]
instance : EncN (List α) := ⟨fun _ => rfl, fun a => by show eqB (.lst _) .non = _; simp [eqB], fun a => by show eqB .non (.lst _) = _; simp [eqB]⟩
theorem enc_list (xs : List α) : enc xs = .lst (xs.map enc) := rfl
/-- a tuple of any length -/
structure Tp (α : Type) where
  l : List α
deriving DecidableEq
instance : Enc (Tp α) where
  enc xs := .tup (xs.l.map enc)
  sh _ := rfl
  dp := Enc.dp α + 1
  ok n a := by
    show okD (n + (Enc.dp α + 1)) (.tup _) = true
    rw [← Nat.add_assoc, h_ok_tup]; exact okl_enc a.l (by omega)
  eq a b := by
    show eqB (.tup _) (.tup _) = _
    rw [h_eqB_tt, eql_enc]
    cases a; cases b; simp
instance : EncN (Tp α) := ⟨fun _ => rfl, fun a => by show eqB (.tup _) .non = _; simp [eqB], fun a => by show eqB .non (.tup _) = _; simp [eqB]⟩
theorem enc_tp (xs : List α) : enc (Tp.mk xs) = .tup (xs.map enc) := rfl
end
theorem map_snoc {α β : Type} (f : α → β) (xs : List α) (x : α) : xs.map f ++ [f x] = (xs ++ [x]).map f := by simp
theorem map_app {α β : Type} (f : α → β) (xs ys : List α) : xs.map f ++ ys.map f = (xs ++ ys).map f := by simp
theorem cutL_map {α β : Type} (f : α → β) (xs : List α) (lo hi : Option Int) : cutL (xs.map f) lo hi = (cutL xs lo hi).map f := by
  unfold cutL
  rw [List.length_map, List.map_take, List.map_drop]
theorem cutL_take {α : Type} (xs : List α) (n : Nat) : cutL xs none (some (n : Int)) = xs.take n := by
  unfold cutL
  rw [HT.sIx_nat, HT.sIx_none, Nat.sub_zero, List.drop_zero]
  by_cases h : n ≤ xs.length
  · rw [Nat.min_eq_left h]
  · rw [Nat.min_eq_right (by omega), List.take_of_length_le (Nat.le_refl _), List.take_of_length_le (by omega)]
theorem cutL_drop {α : Type} (xs : List α) (n : Nat) : cutL xs (some (n : Int)) none = xs.drop n := by
  unfold cutL
  rw [HT.sIx_nat, HT.sIx_none]
  by_cases h : n ≤ xs.length
  · rw [Nat.min_eq_left h, List.take_of_length_le (by simp)]
  · rw [Nat.min_eq_right (by omega), List.drop_of_length_le (by omega)]; simp; omega
/-- the items with their places, from k on -/
def withIx {α : Type} : Nat → List α → List (Int × α)
  | _, [] => []
  | k, x :: xs => ((k : Int), x) :: withIx (k + 1) xs
theorem withIx_length {α : Type} : ∀ (k : Nat) (xs : List α), (withIx k xs).length = xs.length
  | _, [] => rfl
  | k, _ :: xs => congrArg (· + 1) (withIx_length (k + 1) xs)
theorem withIx_get {α : Type} : ∀ (k : Nat) (xs : List α) (i : Nat), (withIx k xs)[i]? = (xs[i]?).map fun x => (((k + i : Nat) : Int), x)
  | _, [], _ => by simp [withIx]
  | k, x :: xs, 0 => by simp [withIx]
  | k, x :: xs, i + 1 => by
    show (withIx (k + 1) xs)[i]? = _
    rw [withIx_get (k + 1) xs i, List.getElem?_cons_succ, show k + 1 + i = k + (i + 1) by omega]
theorem enumD_enc {α : Type} [DecidableEq α] [Enc α] (xs : List α) : enumD (xs.map enc) = (withIx 0 xs).map enc := by
  apply List.ext_getElem?
  intro i
  unfold enumD
  rw [List.getElem?_mapIdx, List.getElem?_map, List.getElem?_map, withIx_get]
  cases xs[i]? with
  | none => rfl
  | some x => simp only [Option.map_some, Nat.zero_add]; rfl
theorem withIx_app {α : Type} : ∀ (k : Nat) (xs ys : List α), withIx k (xs ++ ys) = withIx k xs ++ withIx (k + xs.length) ys
  | _, [], _ => rfl
  | k, x :: xs, ys => by
    show _ :: withIx (k + 1) (xs ++ ys) = _
    rw [withIx_app (k + 1) xs ys]
    show _ = _ :: (withIx (k + 1) xs ++ withIx (k + (xs.length + 1)) ys)
    rw [show k + 1 + xs.length = k + (xs.length + 1) by omega]
theorem withIx_snd {α : Type} : ∀ (k : Nat) (xs : List α), (withIx k xs).map Prod.snd = xs
  | _, [] => rfl
  | k, x :: xs => congrArg (x :: ·) (withIx_snd (k + 1) xs)
theorem withIx_range {α : Type} (d : α) (xs : List α) : withIx 0 xs = (List.range xs.length).map fun k : Nat => ((k : Int), xs.getD k d) := by
  apply List.ext_getElem?
  intro i
  rw [withIx_get, List.getElem?_map]
  by_cases h : i < xs.length
  · rw [List.getElem?_range h, List.getElem?_eq_getElem h]
    simp [List.getD, List.getElem?_eq_getElem h]
  · rw [List.getElem?_eq_none (by omega), List.getElem?_eq_none (by simpa using h)]; rfl
theorem getD_some {α : Type} {xs : List α} {i : Nat} {x d : α} (h : xs[i]? = some x) : xs.getD i d = x := by simp [List.getD, h]
theorem atI_enc {α : Type} [DecidableEq α] [Enc α] {xs : List α} {j : Nat} {x : α} (h : xs[j]? = some x) : atI (xs.map enc) (0 + (j : Int)) = some (enc x) := by
  rw [Int.zero_add, atI_map, atI_of h]; rfl
/-- a comprehension over a range -/
theorem lcL_range {f : D → Option (List D)} {g : Nat → List D} (n : Nat) (h : ∀ k, k < n → f (.int (0 + (k : Int))) = some (g k)) : lcL f (rangeD 0 n) = some ((List.range n).flatMap g) :=
  lcL_map (enc := fun k : Nat => D.int (0 + (k : Int))) (List.range n) fun k m => h k (List.mem_range.mp m)
/-- a loop over coded things: an invariant over what has been walked -/
theorem forL_enc {α : Type} {g : α → D} {f : D → Py.Env → RS} {r : RS} : ∀ {xs : List α} {env : Py.Env} (I : List α → Py.Env → Prop), forL f (xs.map g) env = r → I [] env →
    (∀ ys x zs e, xs = ys ++ x :: zs → I ys e → ∃ e', (f (g x) e = .nx e' ∨ f (g x) e = .ct e') ∧ I (ys ++ [x]) e') → ∃ e', r = .nx e' ∧ I xs e'
  | [], env, I, h, h0, _ => ⟨env, h.symm, h0⟩
  | x :: xs, env, I, h, h0, hs => by
    obtain ⟨e', h1, h2⟩ := hs [] x xs env rfl h0
    have h : (match f (g x) env with | .nx e => forL f (xs.map g) e | .ct e => forL f (xs.map g) e | .bk e => .nx e | r => r) = r := h
    have h3 : forL f (xs.map g) e' = r := by rcases h1 with h1 | h1 <;> (rw [h1] at h; exact h)
    exact forL_enc (fun ys e => I (x :: ys) e) h3 h2 fun ys y zs e hy hi => hs (x :: ys) y zs e (by rw [hy]; rfl) hi
/-- .. that may end in the midst -/
theorem forL_encR {α : Type} {g : α → D} {f : D → Py.Env → RS} {r : RS} : ∀ {xs : List α} {env : Py.Env} (I : List α → Py.Env → Prop) (J : RS → Prop), forL f (xs.map g) env = r → I [] env →
    (∀ ys x zs e, xs = ys ++ x :: zs → I ys e → (∃ e', (f (g x) e = .nx e' ∨ f (g x) e = .ct e') ∧ I (ys ++ [x]) e') ∨ (J (f (g x) e) ∧ ((∃ d e', f (g x) e = .rt d e') ∨ ∃ d e', f (g x) e = .ex d e'))) → (∃ e', r = .nx e' ∧ I xs e') ∨ J r
  | [], env, I, J, h, h0, _ => .inl ⟨env, h.symm, h0⟩
  | x :: xs, env, I, J, h, h0, hs => by
    have h : (match f (g x) env with | .nx e => forL f (xs.map g) e | .ct e => forL f (xs.map g) e | .bk e => .nx e | r => r) = r := h
    rcases hs [] x xs env rfl h0 with ⟨e', h1, h2⟩ | ⟨h1, ⟨d, e', h2⟩ | ⟨d, e', h2⟩⟩
    · have h3 : forL f (xs.map g) e' = r := by rcases h1 with h1 | h1 <;> (rw [h1] at h; exact h)
      exact forL_encR (fun ys e => I (x :: ys) e) J h3 h2 fun ys y zs e hy hi => hs (x :: ys) y zs e (by rw [hy]; rfl) hi
    · rw [h2] at h h1; exact .inr (h ▸ h1)
    · rw [h2] at h h1; exact .inr (h ▸ h1)
theorem forL_range {f : D → Py.Env → RS} {r : RS} {n : Nat} {env : Py.Env} (I : Nat → Py.Env → Prop) (h : forL f (rangeD 0 n) env = r) (h0 : I 0 env)
    (hs : ∀ j e, j < n → I j e → ∃ e', (f (.int (j : Int)) e = .nx e' ∨ f (.int (j : Int)) e = .ct e') ∧ I (j + 1) e') : ∃ e', r = .nx e' ∧ I n e' := by
  obtain ⟨e', h1, h2⟩ := forL_gen I h h0 fun i d e hd hi => by
    obtain ⟨hi2, rfl⟩ := rangeD_get hd
    rw [Int.zero_add]
    exact hs i e hi2 hi
  rw [rangeD_length] at h2
  exact ⟨e', h1, h2⟩
theorem atI_encN {α : Type} [DecidableEq α] [Enc α] {xs : List α} {j : Nat} {x : α} (h : xs[j]? = some x) : atI (xs.map enc) (j : Int) = some (enc x) := by
  rw [atI_map, atI_of h]; rfl
theorem flatMap_snoc {α β : Type} (f : α → List β) (xs : List α) (x : α) : (xs ++ [x]).flatMap f = xs.flatMap f ++ f x := by simp
theorem filterMap_snoc {α β : Type} (f : α → Option β) (xs : List α) (x : α) : (xs ++ [x]).filterMap f = xs.filterMap f ++ (f x).toList := by
  rw [List.filterMap_append]; cases h : f x <;> simp [h]
theorem filter_snoc {α : Type} (p : α → Bool) (xs : List α) (x : α) : (xs ++ [x]).filter p = xs.filter p ++ if p x = true then [x] else [] := by
  rw [List.filter_append]; cases h : p x <;> simp [h]
theorem pre_le {α : Type} {xs ys zs : List α} {x : α} (h : xs = ys ++ x :: zs) : ys.length < xs.length := by rw [h]; simp
theorem mem_withIx {α : Type} {xs : List α} {p : Int × α} : p ∈ withIx 0 xs ↔ ∃ i : Nat, p.1 = (i : Int) ∧ xs[i]? = some p.2 := by
  constructor
  · intro h
    obtain ⟨i, hi, e⟩ := List.getElem_of_mem h
    have e2 := List.getElem?_eq_getElem hi
    rw [e, withIx_get] at e2
    obtain ⟨x, hx, rfl⟩ := Option.map_eq_some_iff.mp e2
    exact ⟨i, by simp, hx⟩
  · rintro ⟨i, h1, h2⟩
    have : (withIx 0 xs)[i]? = some p := by rw [withIx_get, h2]; obtain ⟨a, b⟩ := p; simp at h1; subst h1; simp
    exact List.mem_of_getElem? this
theorem withIx_asc {α : Type} : ∀ (k : Nat) (xs : List α), (withIx k xs).Pairwise fun p q => p.1 < q.1
  | _, [] => .nil
  | k, x :: xs => by
    refine List.pairwise_cons.mpr ⟨fun q hq => ?_, withIx_asc (k + 1) xs⟩
    obtain ⟨i, hi, e⟩ := List.getElem_of_mem hq
    have e2 := List.getElem?_eq_getElem hi
    rw [e, withIx_get] at e2
    obtain ⟨y, _, rfl⟩ := Option.map_eq_some_iff.mp e2
    show (k : Int) < ((k + 1 + i : Nat) : Int)
    omega
end Py

namespace Py
open PySem L2
open Enc (enc)
section
variable {α β : Type} [DecidableEq α] [Enc α]
def kI (m : List (Int × β)) : List Key := m.map fun p => Sum.inl p.1
def vE (g : β → D) (m : List (Int × β)) : List D := m.map fun p => g p.2
def alG (m : List (Int × β)) (k : Int) : Option β := (m.find? fun p => decide (p.1 = k)).map (·.2)
def alP (m : List (Int × β)) (k : Int) (a : β) : List (Int × β) := if (m.any fun p => decide (p.1 = k)) = true then m.map (fun p => if p.1 = k then (k, a) else p) else m ++ [(k, a)]
theorem kI_length (m : List (Int × β)) : (kI m).length = m.length := by simp [kI]
theorem vE_length (g : β → D) (m : List (Int × β)) : (vE g m).length = m.length := by simp [vE]
theorem vE_sh {g : β → D} (h : ∀ b, isSh (g b) = true) (m : List (Int × β)) : (vE g m).all isSh = true := by
  unfold vE
  rw [List.all_map]
  exact List.all_eq_true.mpr fun p _ => h p.2
theorem inl_eq (i j : Int) : ((Sum.inl i : Key) = Sum.inl j) = (i = j) := by
  apply propext; exact ⟨fun h => Sum.inl.inj h, fun h => by rw [h]⟩
theorem dg_al (g : β → D) (k : Int) : ∀ m : List (Int × β), dg (kI m) (vE g m) (.inl k) = (alG m k).map g
  | [] => rfl
  | p :: m => by
    show dg (Sum.inl p.1 :: kI m) (g p.2 :: vE g m) (.inl k) = _
    unfold dg
    by_cases h : p.1 = k
    · rw [if_pos (by rw [h])]
      unfold alG
      rw [List.find?_cons_of_pos (by simpa using h)]
      rfl
    · rw [if_neg (by rw [inl_eq]; exact h), dg_al g k m]
      unfold alG
      rw [List.find?_cons_of_neg (by simpa using h)]
theorem hasK_al (k : Int) : ∀ m : List (Int × β), hasK (kI m) (.inl k) = m.any fun p => decide (p.1 = k)
  | [] => rfl
  | p :: m => by
    show (decide ((Sum.inl p.1 : Key) = Sum.inl k) || hasK (kI m) (.inl k)) = _
    rw [hasK_al k m, List.any_cons]
    congr 1
    exact decide_eq_decide.mpr (by rw [inl_eq])
theorem pos_al (k : Int) : ∀ m : List (Int × β), (pos (Sum.inl k : Key) (kI m) = none ∧ (m.any fun p => decide (p.1 = k)) = false) ∨ ∃ j p, pos (Sum.inl k : Key) (kI m) = some j ∧ m[j]? = some p ∧ p.1 = k ∧ (m.any fun p => decide (p.1 = k)) = true ∧ m.find? (fun p => decide (p.1 = k)) = some p
  | [] => .inl ⟨rfl, rfl⟩
  | p :: m => by
    show ((if (Sum.inl p.1 : Key) = Sum.inl k then some 0 else (pos (Sum.inl k : Key) (kI m)).map (· + 1)) = none ∧ _) ∨ ∃ j q, (if (Sum.inl p.1 : Key) = Sum.inl k then some 0 else (pos (Sum.inl k : Key) (kI m)).map (· + 1)) = some j ∧ _
    by_cases h : p.1 = k
    · rw [if_pos (by rw [h])]
      exact .inr ⟨0, p, rfl, rfl, h, by rw [List.any_cons, decide_eq_true h]; rfl, List.find?_cons_of_pos (by simpa using h)⟩
    · rw [if_neg (by rw [inl_eq]; exact h)]
      rcases pos_al k m with ⟨h1, h2⟩ | ⟨j, q, h1, h2, h3, h4, h5⟩
      · exact .inl ⟨by rw [h1]; rfl, by rw [List.any_cons, h2, decide_eq_false h]; rfl⟩
      · exact .inr ⟨j + 1, q, by rw [h1]; rfl, by simpa using h2, h3, by rw [List.any_cons, h4, Bool.or_true], by rw [List.find?_cons_of_neg (by simpa using h)]; exact h5⟩
/-- the keys are unlike -/
def Nk (m : List (Int × β)) : Prop := (m.map (·.1)).Nodup
theorem alP_map {k : Int} {a : β} : ∀ {m : List (Int × β)} {j : Nat}, Nk m → pos (Sum.inl k : Key) (kI m) = some j → m.map (fun p => if p.1 = k then (k, a) else p) = m.set j (k, a)
  | [], _, _, h => by cases h
  | p :: m, j, hn, h => by
    have h : (if (Sum.inl p.1 : Key) = Sum.inl k then some 0 else (pos (Sum.inl k : Key) (kI m)).map (· + 1)) = some j := h
    unfold Nk at hn
    rw [List.map_cons, List.nodup_cons] at hn
    rw [List.map_cons]
    by_cases e : p.1 = k
    · rw [if_pos (by rw [e])] at h
      cases h
      rw [if_pos e, List.set_cons_zero]
      congr 1
      have : ∀ q ∈ m, (if q.1 = k then (k, a) else q) = q := fun q hq => by
        rw [if_neg]
        intro z
        exact hn.1 (by rw [e, ← z]; exact List.mem_map.mpr ⟨q, hq, rfl⟩)
      exact (List.map_congr_left this).trans (List.map_id _)
    · rw [if_neg (by rw [inl_eq]; exact e)] at h
      obtain ⟨i, h1, rfl⟩ := Option.map_eq_some_iff.mp h
      rw [if_neg e, List.set_cons_succ, alP_map hn.2 h1]
theorem putP_al {g : β → D} (hg : ∀ b, isSh (g b) = true) {k : Int} {a : β} {m : List (Int × β)} (hn : Nk m) : putP (kI m) (vE g m) (.inl k) (g a) = some (kI (alP m k a), vE g (alP m k a)) := by
  unfold putP alP
  rcases pos_al k m with ⟨h1, h2⟩ | ⟨j, q, h1, h2, h3, h4, _⟩
  · rw [h1, if_neg (by rw [h2]; decide)]
    simp [kI, vE]
  · rw [h1, if_pos h4, alP_map hn h1]
    dsimp only
    rw [if_pos (vE_sh hg m)]
    have hj := (List.getElem?_eq_some_iff.mp h2).1
    congr 2
    · unfold kI
      rw [List.map_set]
      apply List.ext_getElem?
      intro i
      by_cases e : j = i
      · subst e
        rw [List.getElem?_set_self (by simpa using hj), List.getElem?_map, h2]
        simp [h3]
      · rw [List.getElem?_set_ne e]
    · unfold vE
      rw [List.map_set]
theorem mem_alP_keys {k : Int} {a : β} {m : List (Int × β)} {x : Int} : x ∈ (alP m k a).map (·.1) ↔ x ∈ m.map (·.1) ∨ x = k := by
  unfold alP
  split
  · rename_i h
    obtain ⟨p, hp, e⟩ := List.any_eq_true.mp h
    have e := of_decide_eq_true e
    constructor
    · intro hx
      obtain ⟨q, hq, rfl⟩ := List.mem_map.mp hx
      obtain ⟨r, hr, rfl⟩ := List.mem_map.mp hq
      split
      · exact .inr rfl
      · exact .inl (List.mem_map.mpr ⟨r, hr, rfl⟩)
    · rintro (hx | rfl)
      · obtain ⟨r, hr, rfl⟩ := List.mem_map.mp hx
        by_cases z : r.1 = k
        · exact List.mem_map.mpr ⟨(k, a), List.mem_map.mpr ⟨r, hr, if_pos z⟩, z.symm⟩
        · exact List.mem_map.mpr ⟨r, List.mem_map.mpr ⟨r, hr, if_neg z⟩, rfl⟩
      · exact List.mem_map.mpr ⟨(x, a), List.mem_map.mpr ⟨p, hp, if_pos e⟩, rfl⟩
  · simp
theorem Nk.put {k : Int} {a : β} {m : List (Int × β)} (hn : Nk m) : Nk (alP m k a) := by
  unfold Nk
  unfold alP
  rcases pos_al k m with ⟨h1, h2⟩ | ⟨j, q, h1, h2, h3, h4, _⟩
  · rw [if_neg (by rw [h2]; decide), List.map_append, List.nodup_append]
    refine ⟨hn, by simp, fun x hx y hy z => ?_⟩
    have hy : y = k := by simpa using hy
    subst z hy
    obtain ⟨p, hp, e⟩ := List.mem_map.mp hx
    have : (m.any fun p => decide (p.1 = x)) = true := List.any_eq_true.mpr ⟨p, hp, decide_eq_true e⟩
    rw [h2] at this; cases this
  · rw [if_pos h4, alP_map hn h1, List.map_set]
    have hj := (List.getElem?_eq_some_iff.mp h2).1
    have : (m.map (·.1)).set j k = m.map (·.1) := by
      apply List.ext_getElem?
      intro i
      by_cases e : j = i
      · subst e
        rw [List.getElem?_set_self (by simpa using hj), List.getElem?_map, h2, Option.map_some, h3]
      · rw [List.getElem?_set_ne e]
    show ((m.map (·.1)).set j k).Nodup
    rw [this]
    exact hn
theorem alP_length {k : Int} {a : β} {m : List (Int × β)} : (alP m k a).length ≤ m.length + 1 := by
  unfold alP
  split <;> simp
theorem alG_alP {k j : Int} {a : β} : ∀ {m : List (Int × β)}, alG (alP m k a) j = if j = k then some a else alG m j := by
  intro m
  unfold alP
  split
  · rename_i h
    induction m with
    | nil => cases h
    | cons p m ih =>
      rw [List.map_cons]
      unfold alG at ih ⊢
      by_cases e : p.1 = k
      · rw [if_pos e]
        by_cases z : j = k
        · rw [if_pos z, List.find?_cons_of_pos (by simpa using z.symm)]; rfl
        · rw [if_neg z, List.find?_cons_of_neg (by simpa using fun y => z y.symm), List.find?_cons_of_neg (by simpa using fun y => z (y.symm.trans e))]
          by_cases h2 : (m.any fun p => decide (p.1 = k)) = true
          · have := ih h2; rw [if_neg z] at this; exact this
          · have : ∀ q ∈ m, (if q.1 = k then (k, a) else q) = q := fun q hq => by
              rw [if_neg]
              intro y
              exact h2 (List.any_eq_true.mpr ⟨q, hq, decide_eq_true y⟩)
            rw [(List.map_congr_left this).trans (List.map_id _)]
      · rw [if_neg e]
        have h2 : (m.any fun p => decide (p.1 = k)) = true := by
          rw [List.any_cons, decide_eq_false e, Bool.false_or] at h; exact h
        by_cases z : p.1 = j
        · rw [List.find?_cons_of_pos (by simpa using z), List.find?_cons_of_pos (by simpa using z), if_neg (fun y => e (z.trans y))]
        · rw [List.find?_cons_of_neg (by simpa using z), List.find?_cons_of_neg (by simpa using z)]
          exact ih h2
  · rename_i h
    unfold alG
    rw [List.find?_append]
    by_cases z : j = k
    · rw [if_pos z]
      have : m.find? (fun p => decide (p.1 = j)) = none := by
        rw [List.find?_eq_none]
        intro q hq y
        exact h (List.any_eq_true.mpr ⟨q, hq, by rw [z] at y; exact y⟩)
      rw [this]
      simp [z]
    · rw [if_neg z]
      have : ([(k, a)] : List (Int × β)).find? (fun p => decide (p.1 = j)) = none := by
        rw [List.find?_cons_of_neg (by simpa using fun y => z y.symm)]; rfl
      rw [this]; simp
theorem kDs_al : ∀ m : List (Int × β), kDs (kI m) = some (m.map fun p => .int p.1)
  | [] => rfl
  | p :: m => by
    show (kDs (kI m)).map _ = _
    rw [kDs_al m]; rfl
theorem fzs_vE {g h : β → D} (e : ∀ b, fz (g b) = h b) (m : List (Int × β)) : fzs (vE g m) = vE h m := by
  unfold vE
  rw [fzs_eq, List.map_map]
  exact List.map_congr_left fun p _ => e p.2
/-- a dict comprehension over coded things -/
theorem dcL_al {γ : Type} {c : γ → D} {g : β → D} (hg : ∀ b, isSh (g b) = true) {f : D → Option (Option (Key × D))} {ky : γ → Int} {vl : γ → β} : ∀ {xs : List γ} {m : List (Int × β)}, Nk m → (∀ x ∈ xs, f (c x) = some (some (.inl (ky x), g (vl x)))) →
    dcL f (xs.map c) (kI m, vE g m) = some (kI (xs.foldl (fun m x => alP m (ky x) (vl x)) m), vE g (xs.foldl (fun m x => alP m (ky x) (vl x)) m))
  | [], m, _, _ => rfl
  | x :: xs, m, hn, h => by
    show (f (c x)).bind (fun o => (putO (kI m, vE g m) o).bind (dcL f (xs.map c))) = _
    rw [h x (List.mem_cons_self ..), Option.bind_some]
    show (putP (kI m) (vE g m) (.inl (ky x)) (g (vl x))).bind _ = _
    rw [putP_al hg hn, Option.bind_some, dcL_al hg hn.put fun y hy => h y (List.mem_cons_of_mem _ hy)]
    rfl
/-- the keys of a comprehension -/
def dcM {γ : Type} (ky : γ → Int) (vl : γ → β) (xs : List γ) : List (Int × β) := xs.foldl (fun m x => alP m (ky x) (vl x)) []
theorem dcL_al0 {γ : Type} {c : γ → D} {g : β → D} (hg : ∀ b, isSh (g b) = true) {f : D → Option (Option (Key × D))} (ky : γ → Int) (vl : γ → β) (xs : List γ) (h : ∀ x ∈ xs, f (c x) = some (some (.inl (ky x), g (vl x)))) :
    dcL f (xs.map c) ([], []) = some (kI (dcM ky vl xs), vE g (dcM ky vl xs)) := dcL_al (m := []) hg .nil h
theorem dcM_any {γ : Type} {ky : γ → Int} {vl : γ → β} (k : Int) : ∀ {xs : List γ} {m : List (Int × β)}, ((xs.foldl (fun m x => alP m (ky x) (vl x)) m).any fun p => decide (p.1 = k)) = ((m.any fun p => decide (p.1 = k)) || xs.any fun x => decide (ky x = k))
  | [], m => by simp
  | x :: xs, m => by
    rw [List.foldl_cons, dcM_any k, List.any_cons, ← Bool.or_assoc]
    congr 1
    rw [Bool.eq_iff_iff, List.any_eq_true, Bool.or_eq_true, List.any_eq_true]
    have h1 : (∃ y, y ∈ alP m (ky x) (vl x) ∧ decide (y.1 = k) = true) ↔ k ∈ (alP m (ky x) (vl x)).map (·.1) := by
      rw [List.mem_map]
      exact ⟨fun ⟨y, h, e⟩ => ⟨y, h, of_decide_eq_true e⟩, fun ⟨y, h, e⟩ => ⟨y, h, decide_eq_true e⟩⟩
    have h2 : (∃ y, y ∈ m ∧ decide (y.1 = k) = true) ↔ k ∈ m.map (·.1) := by
      rw [List.mem_map]
      exact ⟨fun ⟨y, h, e⟩ => ⟨y, h, of_decide_eq_true e⟩, fun ⟨y, h, e⟩ => ⟨y, h, decide_eq_true e⟩⟩
    rw [h1, h2, mem_alP_keys, decide_eq_true_eq, eq_comm (a := k)]
theorem dcM_len {γ : Type} {ky : γ → Int} {vl : γ → β} : ∀ {xs : List γ} {m : List (Int × β)}, (xs.foldl (fun m x => alP m (ky x) (vl x)) m).length ≤ m.length + xs.length
  | [], m => Nat.le_refl _
  | x :: xs, m => by
    rw [List.foldl_cons, List.length_cons]
    have h1 := dcM_len (ky := ky) (vl := vl) (xs := xs) (m := alP m (ky x) (vl x))
    have h2 : (alP m (ky x) (vl x)).length ≤ m.length + 1 := alP_length
    omega
/-- a value's list grows -/
def alA (m : List (Int × List β)) (k : Int) (x : β) : List (Int × List β) := alP m k ((alG m k).getD [] ++ [x])
theorem appK_al {g : β → D} {k : Int} {x : β} {m : List (Int × List β)} (hn : Nk m) (hl : m.length < 1000000) (hv : ∀ p ∈ m, p.2.length < 1000000) :
    appK (kI m) (vE (fun l : List β => .olst (l.map g)) m) (.inl k) (g x) = some (.odic (kI (alA m k x)) (vE (fun l : List β => .olst (l.map g)) (alA m k x))) := by
  unfold appK alA alG
  rw [vE_length, if_pos hl]
  rcases pos_al k m with ⟨h1, h2⟩ | ⟨j, q, h1, h2, h3, h4, h5⟩
  · have hf : m.find? (fun p => decide (p.1 = k)) = none := by
      rw [List.find?_eq_none]
      intro q hq y
      have : (m.any fun p => decide (p.1 = k)) = true := List.any_eq_true.mpr ⟨q, hq, y⟩
      rw [h2] at this; cases this
    rw [h1, hf]
    unfold alP
    rw [if_neg (by rw [h2]; decide)]
    simp [kI, vE]
  · rw [h1, h5]
    unfold alP
    rw [if_pos h4, alP_map hn h1]
    dsimp only
    have e : (vE (fun l : List β => D.olst (l.map g)) m)[j]? = some (.olst (q.2.map g)) := by
      unfold vE
      rw [List.getElem?_map, h2]; rfl
    rw [e]
    dsimp only
    rw [List.length_map, if_pos (hv q (List.mem_of_getElem? h2))]
    have hj := (List.getElem?_eq_some_iff.mp h2).1
    congr 2
    · unfold kI
      rw [List.map_set]
      apply List.ext_getElem?
      intro i
      by_cases e : j = i
      · subst e
        rw [List.getElem?_set_self (by simpa using hj), List.getElem?_map, h2]
        simp [h3]
      · rw [List.getElem?_set_ne e]
    · unfold vE
      rw [List.map_set]
      simp
end
/-- x in a list of ints -/
theorem inL_int (neg : Bool) (i : Int) (xs : List Int) : inL neg (.int i) (xs.map enc) = some (.bl (if neg = true then !decide (i ∈ xs) else decide (i ∈ xs))) := by
  have h1 : fls (xs.map enc) = some (xs.map V.int) := by
    induction xs with
    | nil => rfl
    | cons x xs ih =>
      show (fl (D.int x)).bind (fun v => (fls (xs.map enc)).map (v :: ·)) = _
      rw [ih]; rfl
  have h2 : inV (.int i) (xs.map V.int) = decide (i ∈ xs) := by
    unfold inV
    rw [List.any_map]
    induction xs with
    | nil => rfl
    | cons x xs ih =>
      rw [List.any_cons, ih (by
        show fls (xs.map enc) = _
        have : (fl (D.int x)).bind (fun v => (fls (xs.map enc)).map (v :: ·)) = some (V.int x :: xs.map V.int) := h1
        cases e : fls (xs.map enc) with
        | none => rw [e] at this; cases this
        | some l => rw [e] at this; have := Option.some.inj this; injection this with _ h; rw [h])]
      show (decide (x = i) || _) = _
      by_cases e : x = i
      · subst e; simp
      · simp [e]
        exact fun y => absurd y.symm e
  unfold inL
  rw [h1]
  show some (D.bl (if neg = true then !inV (.int i) _ else inV (.int i) _)) = _
  rw [h2]
end Py

namespace Py
open PySem L2
abbrev FB := PySem.W.Frag → Bool
abbrev ga (K : PySem.W.Frag) (c : String) : Addr := He.ga K (so c)
abbrev ma (K : PySem.W.Frag) (c m : String) : Addr := He.ma K (ga K c) (so m)
/-- the getter of a property -/
def pa (K : PySem.W.Frag) (c f : String) : Addr := match PySem.W.findIn K (.ref (ga K c)) (so f) with
  | some (some (.ref p)) => (match PySem.W.recIn K p "property" with
    | some (.ref g :: _) => g
    | _ => 0)
  | _ => 0
/-- the object of a property -/
def pr (K : PySem.W.Frag) (c f : String) : Addr := match PySem.W.findIn K (.ref (ga K c)) (so f) with
  | some (some (.ref p)) => p
  | _ => 0
structure DefX where
  ad : PySem.W.Frag → Addr
  name : Str
  qual : Str
  st : Stmt
  dfl : List He.Dv := []
  kwd : List (Str × He.Dv) := []
  /-- an __init__ that says super() -/
  cl : Bool := false
def fnX (K : PySem.W.Frag) (a : Addr) : He.FnW := match K.lookup a with
  | some ⟨_, _, .func fd, _⟩ => some (fd.name, fd.qualname, fd.params, fd.body, fd.scope, fd.globals, fd.closure, fd.builtins)
  | _ => none
/-- .. the closure by its names -/
def fnXc (K : PySem.W.Frag) (a : Addr) : He.FnW := match K.lookup a with
  | some ⟨_, _, .func fd, _⟩ => some (fd.name, fd.qualname, fd.params, fd.body, fd.scope, fd.globals, fd.closure.map fun p => (p.1, 0), fd.builtins)
  | _ => none
def fnXd (K : PySem.W.Frag) (d : DefX) : He.FnW := match d.cl with
  | true => fnXc K (d.ad K)
  | false => fnX K (d.ad K)
def DefX.val (d : DefX) : He.FnW := some (d.name, d.qual, defArgs d.st, .stmts (defBody d.st), defScope d.st, mainGlobals, (match d.cl with | true => [(("__class__" : Str), 0)] | false => []), builtinsNs)
def DefX.dvs (K : PySem.W.Frag) (d : DefX) : List V := d.dfl.map (He.Dv.v K)
def DefX.kws (K : PySem.W.Frag) (d : DefX) : List (Str × V) := d.kwd.map fun q => (q.1, q.2.v K)
def DefX.ok (K : PySem.W.Frag) (d : DefX) : Bool := PySem.W.keepIn K (.ref (d.ad K)) && (match K.lookup (d.ad K) with
  | some ⟨_, _, .func fd, _⟩ => PySem.W.codeIn K fd.code d.qual && (He.dflB K fd.defaults (d.dvs K) && He.kwdB K fd.kwdefaults (d.kws K))
  | _ => false)
theorem DefX.funD {K : PySem.W.Frag} {d : DefX} (hcl : d.cl = false) (e : fnXd K d = d.val) (c : d.ok K = true) : ∃ fd, FunD K d.name d.qual (defArgs d.st) (defBody d.st) (defScope d.st) (d.dvs K) (d.kws K) (d.ad K) fd := by
  obtain ⟨kp, c2⟩ := He.ba c
  unfold fnXd DefX.val at e
  rw [hcl] at e
  dsimp only at e
  unfold fnX at e
  cases q : K.lookup (d.ad K) with
  | none =>
    rw [q] at c2
    cases c2
  | some o =>
    obtain ⟨oc, od, dt, osl⟩ := o
    rw [q] at c2 e
    cases dt with
    | func fd =>
      obtain ⟨n1, n2, n3, n4, n5, n6, n7, n8, n9, n10, n11, n12, n13, n14, n15⟩ := fd
      have e2 : (some (n1, n2, n3, n4, n5, n6, n7, n15) : He.FnW) = some (d.name, d.qual, defArgs d.st, .stmts (defBody d.st), defScope d.st, mainGlobals, [], builtinsNs) := e
      simp only [Option.some.injEq, Prod.mk.injEq] at e2
      obtain ⟨h1, h2, h3, h4, h5, h6, h7, h8⟩ := e2
      subst h1 h2 h6 h7 h8
      have c3 : (PySem.W.codeIn K n13 d.qual && (He.dflB K n8 (d.dvs K) && He.kwdB K n9 (d.kws K))) = true := c2
      obtain ⟨k1, k2⟩ := He.ba c3
      obtain ⟨k3, k4⟩ := He.ba k2
      rw [h3, h4, h5] at q
      exact ⟨_, ⟨oc, od, n8, n9, n10, n11, n12, n13, n14, osl, rfl, q, k1, He.dflB_ok k3, He.kwdB_ok k4⟩, kp⟩
    | _ => cases c2
def obsX (fa : List FB) (fn : List DefX) (K : PySem.W.Frag) : He.AlD := ((fa.all fun f => f K) && fn.all fun d => d.ok K, fn.map fun d => fnXd K d)
def valX (fn : List DefX) : He.AlD := (true, fn.map DefX.val)
def SaysX (fa : List FB) (fn : List DefX) (K : PySem.W.Frag) : Prop := obsX fa fn K = valX fn
def obsXG (n : Nat) (fa : List FB) (fn : List DefX) (g : Addr → Option Obj) : He.AlD := obsX fa fn (He.frG g (PySem.cStatics :: He.asD g n))
def hookX (n : Nat) (fa : List FB) (fn : List DefX) : PySem.W.Hook where
  α := He.AlD
  obs := fun s => obsXG n fa fn s.heap.get?
  val := fun _ => valX fn
  says := fun _ h => ∃ K : PySem.W.Frag, K.In h ∧ SaysX fa fn K
  of := fun _ _ e => ⟨_, He.frG_in, e⟩
  keeps := fun _ _ _ ⟨K, hK, c⟩ k => ⟨K, PySem.W.Frag.In.keeps hK k, c⟩
theorem obsXG_eq {n : Nat} {fa : List FB} {fn : List DefX} {g : Addr → Option Obj} {s : Shared} (h : ∀ a, g a = s.heap.get? a) : obsXG n fa fn g = (hookX n fa fn).obs s := by
  have e : g = s.heap.get? := funext h
  rw [e] <;> rfl
section
variable {fa : List FB} {fn : List DefX} {K : PySem.W.Frag}
theorem SaysX.fact (c : SaysX fa fn K) (i : Nat) {f : FB} (h : fa[i]? = some f := by rfl) : f K = true := by
  have c1 := (He.ba (show ((fa.all fun f => f K) && fn.all fun d => d.ok K) = true from congrArg (fun z : He.AlD => z.1) c)).1
  exact List.all_eq_true.mp c1 f (List.mem_of_getElem? h)
theorem SaysX.def_ (c : SaysX fa fn K) (i : Nat) {d : DefX} (h : fn[i]? = some d := by rfl) (hcl : d.cl = false := by rfl) : ∃ fd, FunD K d.name d.qual (defArgs d.st) (defBody d.st) (defScope d.st) (d.dvs K) (d.kws K) (d.ad K) fd := by
  have c2 := (He.ba (show ((fa.all fun f => f K) && fn.all fun d => d.ok K) = true from congrArg (fun z : He.AlD => z.1) c)).2
  have e : fn.map (fun d => fnXd K d) = fn.map DefX.val := congrArg (fun z : He.AlD => z.2) c
  have e2 : (fn.map fun d => fnXd K d)[i]? = (fn.map DefX.val)[i]? := by rw [e]
  rw [List.getElem?_map, List.getElem?_map, h] at e2
  exact DefX.funD hcl (Option.some.inj e2) (List.all_eq_true.mp c2 d (List.mem_of_getElem? h))
theorem SaysX.cld (c : SaysX fa fn K) (i : Nat) {d : DefX} (h : fn[i]? = some d := by rfl) (hcl : d.cl = true := by rfl) : fnXc K (d.ad K) = some (d.name, d.qual, defArgs d.st, .stmts (defBody d.st), defScope d.st, mainGlobals, [(("__class__" : Str), 0)], builtinsNs) := by
  have e : fn.map (fun d => fnXd K d) = fn.map DefX.val := congrArg (fun z : He.AlD => z.2) c
  have e2 : (fn.map fun d => fnXd K d)[i]? = (fn.map DefX.val)[i]? := by rw [e]
  rw [List.getElem?_map, List.getElem?_map, h] at e2
  have e3 : fnXd K d = d.val := Option.some.inj e2
  obtain ⟨q1, q2, q3, q4, q5, q6, q7⟩ := d
  have hcl : q7 = true := hcl
  subst hcl
  exact e3
end
def fnExB (K : PySem.W.Frag) (C : Addr) (qual file : Str) (fI : Addr) : Bool := match K.lookup fI with
  | some ⟨_, _, .func fd, _⟩ => (match fd.closure with
    | [(_, cc)] => (match K.lookup cc with
      | some ⟨_, _, .cell (some (.ref D)), _⟩ => decide (D = C)
      | _ => false)
    | _ => false) && ((match fd.code with
    | .ref cda => PySem.W.codeIn K (.ref cda) qual && (match K.lookup cda with
      | some ⟨_, _, .fields vs, _⟩ => (match (vs[2]? : Option Value) with
        | some (.str f _) => decide (f = file)
        | _ => false)
      | _ => false)
    | _ => false) && ((match fd.defaults with
    | .none => true
    | _ => false) && (match fd.kwdefaults with
    | .none => true
    | _ => false)))
  | _ => false
def fExc (c qual : String) (fs : List String) (file : Str) : FB := fun K => PySem.W.excInitIn K (ga K c) PySem.HandSPX.veTail "ValueError.__new__" && ((match PySem.W.clsIn K (ga K c) with
    | some cd => PySem.HandSPX.refsVE cd.mro && cd.hasDict
    | none => false) && (decide (PySem.W.findIn K (.ref (ga K c)) "__setattr__" = some (some (.builtin "object.__setattr__"))) && ((fs.all fun f => decide (PySem.W.findIn K (.ref (ga K c)) (so f) = some none)) &&
  (decide (PySem.W.findIn K (.ref (ga K c)) "__init__" = some (some (.ref (ma K c "__init__")))) && (decide (PySem.W.typeIn K (.ref (ma K c "__init__")) = some (.type "function")) && (decide (PySem.W.subIn K (.ref (ga K c)) (.type "BaseException") = some true) &&
  (decide (PySem.W.subIn K (.ref (ga K c)) (.type "ValueError") = some true) && (decide (PySem.W.typeIn K (.ref (ga K c)) = some (.type "type")) && (decide (PySem.W.nsIn K PySem.cStatics "thirdparty.any" = some none) &&
  (decide (PySem.W.ks_superIn K (ga K c) (ga K c) "__init__" = some (some (.builtin "ValueError.__init__"))) && (decide (PySem.W.mroIn K (ga K c) (.ref (ga K c)) = some true) && (fnExB K (ga K c) (so qual) file (ma K c "__init__") && PySem.W.keepIn K (.ref (ga K c))))))))))))))
theorem fExc_ok {P : Program} {K : PySem.W.Frag} {c qual : String} {fs : List String} {file : Str} {params : Arguments} {body : List Stmt} {scope : Scope} (h : fExc c qual fs file K = true)
    (e : fnXc K (ma K c "__init__") = some (("__init__" : Str), so qual, params, .stmts body, scope, mainGlobals, [(("__class__" : Str), 0)], builtinsNs)) (hP : ((P.main.file : Str) == file) = true) :
    PySem.PxE.ExTxt P K (ga K c) (ma K c "__init__") (so qual) params body scope (fs.map so) ∧ PySem.W.keepIn K (.ref (ga K c)) = true := by
  obtain ⟨h1, h⟩ := He.ba h
  obtain ⟨h2, h⟩ := He.ba h
  obtain ⟨h3, h⟩ := He.ba h
  obtain ⟨h4, h⟩ := He.ba h
  obtain ⟨h5, h⟩ := He.ba h
  obtain ⟨h6, h⟩ := He.ba h
  obtain ⟨h7, h⟩ := He.ba h
  obtain ⟨h8, h⟩ := He.ba h
  obtain ⟨h9, h⟩ := He.ba h
  obtain ⟨h10, h⟩ := He.ba h
  obtain ⟨h11, h⟩ := He.ba h
  obtain ⟨h12, h⟩ := He.ba h
  obtain ⟨h13, h14⟩ := He.ba h
  refine ⟨⟨h1, ?_, of_decide_eq_true h3, fun f hf => ?_, of_decide_eq_true h5, of_decide_eq_true h6, of_decide_eq_true h7, of_decide_eq_true h8, of_decide_eq_true h9, of_decide_eq_true h10, of_decide_eq_true h11, of_decide_eq_true h12, ?_⟩, h14⟩
  · split at h2
    · rename_i cd q
      obtain ⟨a, b⟩ := He.ba h2
      exact ⟨cd, q, a, b⟩
    · cases h2
  · obtain ⟨f', hf', rfl⟩ := List.mem_map.mp hf
    exact of_decide_eq_true (List.all_eq_true.mp h4 f' hf')
  · unfold fnExB at h13
    unfold fnXc at e
    cases q : K.lookup (ma K c "__init__") with
    | none => rw [q] at h13; cases h13
    | some o =>
      obtain ⟨oc, od, dt, osl⟩ := o
      rw [q] at h13 e
      cases dt with
      | func fd =>
        obtain ⟨n1, n2, n3, n4, n5, n6, n7, n8, n9, n10, n11, n12, n13, n14, n15⟩ := fd
        have e2 : (some (n1, n2, n3, n4, n5, n6, n7.map fun p => (p.1, 0), n15) : He.FnW) = some (("__init__" : Str), so qual, params, .stmts body, scope, mainGlobals, [(("__class__" : Str), 0)], builtinsNs) := e
        simp only [Option.some.injEq, Prod.mk.injEq] at e2
        obtain ⟨z1, z2, z3, z4, z5, z6, z7, z8⟩ := e2
        subst z1 z2 z3 z4 z5 z6 z8
        dsimp only at h13
        obtain ⟨k1, k2⟩ := He.ba h13
        obtain ⟨k2, k3⟩ := He.ba k2
        obtain ⟨k3, k4⟩ := He.ba k3
        match n7, z7, k1 with
        | [(nm, cc)], z7, k1 =>
          have z9 : nm = "__class__" := by
            simp only [List.map_cons, List.map_nil, List.cons.injEq, Prod.mk.injEq, and_true] at z7
            exact z7
          subst z9
          dsimp only at k1
          cases q2 : K.lookup cc with
          | none => rw [q2] at k1; cases k1
          | some o2 =>
            obtain ⟨oc2, od2, dt2, osl2⟩ := o2
            rw [q2] at k1
            cases dt2 with
            | cell v =>
              cases v with
              | none => cases k1
              | some v =>
                cases v with
                | ref Dd =>
                  have k1 : Dd = ga K c := of_decide_eq_true k1
                  subst k1
                  cases n13 with
                  | ref cda =>
                    dsimp only at k2
                    obtain ⟨k5, k6⟩ := He.ba k2
                    cases q3 : K.lookup cda with
                    | none => rw [q3] at k6; cases k6
                    | some o3 =>
                      obtain ⟨oc3, od3, dt3, osl3⟩ := o3
                      rw [q3] at k6
                      cases dt3 with
                      | fields vs =>
                        dsimp only at k6
                        cases q4 : vs[2]? with
                        | none => rw [q4] at k6; cases k6
                        | some v4 =>
                          rw [q4] at k6
                          cases v4 with
                          | str f tf =>
                            have k6 : f = file := of_decide_eq_true k6
                            subst k6
                            have k7 : n8 = .none := by cases n8 <;> first | rfl | cases k3
                            have k8 : n9 = .none := by cases n9 <;> first | rfl | cases k4
                            subst k7 k8
                            exact ⟨oc, od, n10, n11, n12, n14, osl, cda, cc, oc3, od3, vs, osl3, f, tf, oc2, od2, osl2, by first | exact q | rfl, k5, by first | exact q3 | rfl, by first | exact q4 | rfl, hP, by first | exact q2 | rfl⟩
                          | _ => cases k6
                      | _ => cases k6
                  | _ => cases k2
                | _ => cases k1
            | _ => cases k1
      | _ => cases h13
def fXm (cs : List String) (sub : String → String → Bool) : FB := fun K => cs.all fun c => cs.all fun d => decide (PySem.W.exmOne K (.ref (ga K c)) (.ref (ga K d)) = some (sub c d)) && decide (PySem.W.kitOne K (.ref (ga K c)) (.ref (ga K d)) = some (sub c d))
def fXc (cs : List String) : FB := fun K => cs.all fun c => decide (PySem.W.findIn K (.ref (ga K c)) "__getattribute__" = some (some (.builtin "BaseException.__getattribute__"))) && (decide (PySem.W.findIn K (.ref (ga K c)) "__getattr__" = some none) && (decide (PySem.W.subIn K (.ref (ga K c)) (.type "BaseException") = some true) &&
  (PySem.W.hasDictIn K (ga K c) && (decide (PySem.W.findIn K (.ref (ga K c)) "__class__" = some (some (.builtin "object.__class__"))) && (decide (PySem.W.specialIn K (.builtin "object.__class__") "__get__" = some (some (.builtin "getset_descriptor.__get__"))) &&
  (decide (PySem.W.takesIn K (.builtin "object.__class__") = some true) && decide (PySem.W.mroIn K (ga K c) (.type "object") = some true)))))))
def fXv (cs : List String) : FB := fun K => cs.all fun c => decide (PySem.W.kitOne K (.ref (ga K c)) (.type "ValueError") = some true)
def fGlo (x : String) : FB := fun K => (He.Fa.glo (so x)).ok K
def fInt (x : String) (i : Int) : FB := fun K => (He.Fa.int (so x) i).ok K
def fStr (x z : String) : FB := fun K => (He.Fa.str (so x) (so z)).ok K
def fFree (x : String) : FB := fun K => (He.Fa.free (so x)).ok K
def fCls (cs : List String) : FB := fun K => cs.all fun c => (He.Fa.cls (so c)).ok K
def fNoat (cs : List String) (fl : String → List String) : FB := fun K => cs.all fun c => (fl c).all fun f => (He.Fa.noat (so c) (so f)).ok K
def fIsT (cs : List String) : FB := fun K => cs.all fun c => decide (PySem.W.findIn K (.ref (ga K c)) "__class__" = some (some (.builtin "object.__class__"))) && (decide (PySem.W.specialIn K (.builtin "object.__class__") "__get__" = some (some (.builtin "getset_descriptor.__get__"))) &&
  (decide (PySem.W.takesIn K (.builtin "object.__class__") = some true) && decide (PySem.W.mroIn K (ga K c) (.type "object") = some true)))
def tyTO : List String := ["NoneType", "bool", "int", "str", "list", "tuple", "dict"]
def tyOT : List String := ["int", "bool", "str", "list", "tuple", "dict"]
def fTO (cs : List String) : FB := fun K => tyTO.all fun t => cs.all fun c => decide (PySem.W.kitOne K (.type t) (.ref (ga K c)) = some false)
def fOT (cs : List String) : FB := fun K => cs.all fun c => tyOT.all fun t => decide (PySem.W.kitOne K (.ref (ga K c)) (.type t) = some false)
def fOO (cs : List String) (sub : String → String → Bool) : FB := fun K => cs.all fun c => cs.all fun d => decide (PySem.W.kitOne K (.ref (ga K c)) (.ref (ga K d)) = some (sub c d))
def fMeth (c m : String) : FB := fun K => (He.Fa.meth (so c) (so m)).ok K
def fMkr (c : String) : FB := fun K => (He.Fa.mkr (so c)).ok K
def fPr (c f : String) : FB := fun K => decide (PySem.W.findIn K (.ref (ga K c)) (so f) = some (some (.ref (pr K c f)))) && (decide (PySem.W.specialIn K (.ref (pr K c f)) "__get__" = some (some (.builtin "property.__get__"))) && (decide (PySem.W.takesIn K (.ref (pr K c f)) = some true) &&
  (match PySem.W.recIn K (pr K c f) "property" with
    | some (.ref g :: _) => decide (g = pa K c f)
    | _ => false)))
def fLaw (T : Tbl) (P : Program) (w : World) (K : PySem.W.Frag) (cs : List String) (fl : String → List String) (hT : ∀ c f, c ∈ cs → T.fOk c f = true → f ∈ fl c) (sub : String → String → Bool) (hs : ∀ c d, T.sub c d = sub c d)
    (xs : List String) (xsub : String → String → Bool) (hx : ∀ c d, T.xsub c d = xsub c d) (x1 : fXm xs xsub K = true) (x2 : fXv xs K = true) (x3 : fXc xs K = true)
    (h1 : fCls cs K = true) (h2 : fNoat cs fl K = true) (h3 : fIsT cs K = true) (h4 : fTO cs K = true) (h5 : fOT cs K = true) (h6 : fOO cs sub K = true) : Wd T where
  K := K
  P := P
  w := w
  cA := ga K
  has c := c ∈ cs
  cl c hc := by
    obtain ⟨a, b, c', d⟩ := He.cls_ok (List.all_eq_true.mp h1 c hc)
    exact ⟨a, b, c', d⟩
  na c f hc hf := He.noat_ok (List.all_eq_true.mp (List.all_eq_true.mp h2 c hc) f (hT c f hc hf))
  isT c hc := by
    obtain ⟨a, b⟩ := He.ba (List.all_eq_true.mp h3 c hc)
    obtain ⟨b, d⟩ := He.ba b
    obtain ⟨d, e⟩ := He.ba d
    exact ⟨of_decide_eq_true a, of_decide_eq_true b, of_decide_eq_true d, of_decide_eq_true e⟩
  isTO t c ht hc := of_decide_eq_true (List.all_eq_true.mp (List.all_eq_true.mp h4 t ht) c hc)
  isOT c t hc ht := of_decide_eq_true (List.all_eq_true.mp (List.all_eq_true.mp h5 c hc) t ht)
  hasX c := c ∈ xs
  xm c d hc hd := by
    rw [hx]
    exact of_decide_eq_true (He.ba (List.all_eq_true.mp (List.all_eq_true.mp x1 c hc) d hd)).1
  xk c d hc hd := by
    rw [hx]
    exact of_decide_eq_true (He.ba (List.all_eq_true.mp (List.all_eq_true.mp x1 c hc) d hd)).2
  xv c hc := of_decide_eq_true (List.all_eq_true.mp x2 c hc)
  xc c hc := by
    obtain ⟨h1, h⟩ := He.ba (List.all_eq_true.mp x3 c hc)
    obtain ⟨h2, h⟩ := He.ba h
    obtain ⟨h3, h⟩ := He.ba h
    obtain ⟨h4, h⟩ := He.ba h
    obtain ⟨h5, h⟩ := He.ba h
    obtain ⟨h6, h⟩ := He.ba h
    obtain ⟨h7, h8⟩ := He.ba h
    exact ⟨of_decide_eq_true h1, of_decide_eq_true h2, of_decide_eq_true h3, h4, of_decide_eq_true h5, of_decide_eq_true h6, of_decide_eq_true h7, of_decide_eq_true h8⟩
  isOO c d hc hd := by rw [hs]; exact of_decide_eq_true (List.all_eq_true.mp (List.all_eq_true.mp h6 c hc) d hd)
def fDun (cs : List String) : FB := fun K => cs.all fun c => PySem.W.selfFirst K (ga K c) && ((["NoneType", "bool", "int", "str", "list", "tuple", "dict"].all fun t => PySem.W.notFirst K (ga K c) (.type t)) && (match PySem.W.findIn K (.ref (ga K c)) (so "__getitem__") with
  | some (some (.ref f)) => PySem.W.fnIn K f
  | _ => true))
theorem fDun_ok {T : Tbl} {W : Wd T} {cs : List String} (hh : ∀ c, W.has c → c ∈ cs) (hc : ∀ c, W.cA c = ga W.K c) (h : fDun cs W.K = true) : Dun W := by
  have g := fun c hc' => He.ba (List.all_eq_true.mp h c (hh c hc'))
  refine ⟨fun c z => hc c ▸ (g c z).1, fun c t z m => hc c ▸ List.all_eq_true.mp (He.ba (g c z).2).1 t m, fun c f z m => ?_⟩
  have := (He.ba (g c z).2).2
  rw [hc c] at m
  rw [m] at this
  exact this
theorem fPr_ok {K : PySem.W.Frag} {c f : String} (h : fPr c f K = true) : PropOf K (ga K c) (so f) (pr K c f) (pa K c f) := by
  obtain ⟨a, b⟩ := He.ba h
  obtain ⟨b, d⟩ := He.ba b
  obtain ⟨d, e⟩ := He.ba d
  refine ⟨of_decide_eq_true a, of_decide_eq_true b, of_decide_eq_true d, ?_⟩
  split at e
  · rename_i g rest q
    exact ⟨rest, by rw [q, of_decide_eq_true e]⟩
  · cases e
end Py

namespace Py
open PySem L2 NdefX
theorem fnEx_ok {P : Program} {K : PySem.W.Frag} {C fI : Addr} {name qual file : Str} {params : Arguments} {body : List Stmt} {scope : Scope} (h13 : fnExB K C qual file fI = true)
    (e : fnXc K fI = some (name, qual, params, .stmts body, scope, mainGlobals, [(("__class__" : Str), 0)], builtinsNs)) (hP : ((P.main.file : Str) == file) = true) :
    ∃ (oc : Value) (od : Option Addr) (doc pm : Value) (an : Option Addr) (ct : Value) (osl : Array (Option Value)) (cda cc : Addr) (ccl : Value) (cdd : Option Addr) (vs : Array Value) (ccs : Array (Option Value)) (file : Str) (tf : Tok) (cl : Value) (cld : Option Addr) (csl : Array (Option Value)),
    K.lookup fI = some ⟨oc, od, .func (PySem.W.ksFn name qual params body scope .none .none doc pm an (.ref cda) ct cc), osl⟩ ∧ PySem.W.codeIn K (.ref cda) qual = true ∧ K.lookup cda = some ⟨ccl, cdd, .fields vs, ccs⟩ ∧ vs[2]? = some (.str file tf) ∧ ((P.main.file : Str) == file) = true ∧
      K.lookup cc = some ⟨cl, cld, .cell (some (.ref C)), csl⟩ := by
  unfold fnExB at h13
  unfold fnXc at e
  cases q : K.lookup fI with
  | none => rw [q] at h13; cases h13
  | some o =>
    obtain ⟨oc, od, dt, osl⟩ := o
    rw [q] at h13 e
    cases dt with
    | func fd =>
      obtain ⟨n1, n2, n3, n4, n5, n6, n7, n8, n9, n10, n11, n12, n13, n14, n15⟩ := fd
      have e2 : (some (n1, n2, n3, n4, n5, n6, n7.map fun p => (p.1, 0), n15) : He.FnW) = some (name, qual, params, .stmts body, scope, mainGlobals, [(("__class__" : Str), 0)], builtinsNs) := e
      simp only [Option.some.injEq, Prod.mk.injEq] at e2
      obtain ⟨z1, z2, z3, z4, z5, z6, z7, z8⟩ := e2
      subst z1 z2 z3 z4 z5 z6 z8
      dsimp only at h13
      obtain ⟨k1, k2⟩ := He.ba h13
      obtain ⟨k2, k3⟩ := He.ba k2
      obtain ⟨k3, k4⟩ := He.ba k3
      match n7, z7, k1 with
      | [(nm, cc)], z7, k1 =>
        have z9 : nm = "__class__" := by
          simp only [List.map_cons, List.map_nil, List.cons.injEq, Prod.mk.injEq, and_true] at z7
          exact z7
        subst z9
        dsimp only at k1
        cases q2 : K.lookup cc with
        | none => rw [q2] at k1; cases k1
        | some o2 =>
          obtain ⟨oc2, od2, dt2, osl2⟩ := o2
          rw [q2] at k1
          cases dt2 with
          | cell v =>
            cases v with
            | none => cases k1
            | some v =>
              cases v with
              | ref Dd =>
                have k1 : Dd = C := of_decide_eq_true k1
                subst k1
                cases n13 with
                | ref cda =>
                  dsimp only at k2
                  obtain ⟨k5, k6⟩ := He.ba k2
                  cases q3 : K.lookup cda with
                  | none => rw [q3] at k6; cases k6
                  | some o3 =>
                    obtain ⟨oc3, od3, dt3, osl3⟩ := o3
                    rw [q3] at k6
                    cases dt3 with
                    | fields vs =>
                      dsimp only at k6
                      cases q4 : vs[2]? with
                      | none => rw [q4] at k6; cases k6
                      | some v4 =>
                        rw [q4] at k6
                        cases v4 with
                        | str f tf =>
                          have k6 : f = file := of_decide_eq_true k6
                          subst k6
                          have k7 : n8 = .none := by cases n8 <;> first | rfl | cases k3
                          have k8 : n9 = .none := by cases n9 <;> first | rfl | cases k4
                          subst k7 k8
                          exact ⟨oc, od, n10, n11, n12, n14, osl, cda, cc, oc3, od3, vs, osl3, f, tf, oc2, od2, osl2, by first | exact q | rfl, k5, by first | exact q3 | rfl, by first | exact q4 | rfl, hP, by first | exact q2 | rfl⟩
                        | _ => cases k6
                    | _ => cases k6
                | _ => cases k2
              | _ => cases k1
          | _ => cases k1
    | _ => cases h13
def fMk0 (c : String) : FB := fun K => PySem.W.makesIn K (ga K c) && (decide (PySem.W.findIn K (.ref (ga K c)) "__init__" = some (some (.builtin "object.__init__"))) && (decide (PySem.W.mroIn K (ga K c) (.type "object") = some true) && PySem.W.keepIn K (.ref (ga K c))))
theorem fMk0_ok {K : PySem.W.Frag} {c : String} (h : fMk0 c K = true) : Mk0 K (ga K c) := by
  obtain ⟨h1, h⟩ := He.ba h
  obtain ⟨h2, h⟩ := He.ba h
  obtain ⟨h3, h4⟩ := He.ba h
  exact ⟨h1, of_decide_eq_true h2, of_decide_eq_true h3, h4⟩
def fCon (c f x : String) : FB := fun K => (match PySem.W.findIn K (.ref (ga K c)) (so f) with
  | some (some (.str y t)) => decide (y = so x) && decide (PySem.W.specialIn K (.str y t) "__get__" = some none)
  | _ => false) && !PySem.W.copiedNames.contains (so f)
theorem fCon_ok {K : PySem.W.Frag} {c f x : String} (h : fCon c f x K = true) : ∃ u, Con K (ga K c) (so f) (.str (so x)) u := by
  obtain ⟨h1, h2⟩ := He.ba h
  split at h1
  · rename_i y t q
    obtain ⟨h3, h4⟩ := He.ba h1
    have h3 := of_decide_eq_true h3
    subst h3
    exact ⟨_, q, ⟨_, rfl⟩, of_decide_eq_true h4, by simpa using h2⟩
  · cases h1
def fOpq : FB := fun K => decide (PySem.W.nsIn K PySem.cStatics "thirdparty.any" = some none)
/-- the method m that the class c has, of the class d, says super() -/
def fSuA (c d m qual : String) (file : Str) : FB := fun K => (He.Fa.meth (so c) (so m)).ok K && (fnExB K (ga K d) (so qual) file (ma K c m) && (PySem.W.clsIn K (ga K d)).isSome)
theorem fSuA_ok {P : Program} {K : PySem.W.Frag} {c d m qual : String} {file : Str} {st : Stmt} (h : fSuA c d m qual file K = true)
    (e : fnXc K (ma K c m) = some (so m, so qual, defArgs st, .stmts (defBody st), defScope st, mainGlobals, [(("__class__" : Str), 0)], builtinsNs)) (hP : ((P.main.file : Str) == file) = true) (hPs : (P.main.scope.names.lookup ("super" : Str)).isSome = false)
    (har : ∃ ar : Arg, ((defArgs st).posonlyargs ++ (defArgs st).args).head? = some ar ∧ ar.arg = ("self" : Str)) : SupAt P K (ga K c) m (so qual) st (ga K d) := by
  obtain ⟨h1, h⟩ := He.ba h
  obtain ⟨h2, h3⟩ := He.ba h
  obtain ⟨oc, od, doc, pm, an, ct, osl, cda, cc, ccl, cdd, vs, ccs, file', tf, cl, cld, csl, k1, k2, k3, k4, k5, k6⟩ := fnEx_ok h2 e hP
  exact ⟨⟨ma K c m, cda, cc, doc, pm, ct, an, He.meth_ok h1, k2, ⟨⟨oc, od, osl, k1⟩, har, ⟨ccl, cdd, vs, ccs, file', tf, k3, k4, k5⟩, ⟨cl, cld, csl, k6⟩, Option.isSome_iff_exists.mp h3, hPs⟩⟩⟩
def fSuC (c d m e : String) : FB := fun K => decide (PySem.W.ks_superIn K (ga K c) (ga K d) (so m) = some (some (.ref (ma K e m)))) && (decide (PySem.W.findIn K (.ref (ga K e)) (so m) = some (some (.ref (ma K e m)))) && (decide (PySem.W.typeIn K (.ref (ma K e m)) = some (.type "function")) &&
  (decide (PySem.W.mroIn K (ga K c) (.ref (ga K d)) = some true) && PySem.W.fnIn K (ma K e m))))
theorem fSuC_ok {K : PySem.W.Frag} {c d m e : String} (h : fSuC c d m e K = true) : SupC K (ga K c) (ga K d) m (ga K e) := by
  obtain ⟨h1, h⟩ := He.ba h
  obtain ⟨h2, h⟩ := He.ba h
  obtain ⟨h3, h⟩ := He.ba h
  obtain ⟨h4, h5⟩ := He.ba h
  exact ⟨⟨_, of_decide_eq_true h1, of_decide_eq_true h2, of_decide_eq_true h3, of_decide_eq_true h4, h5⟩⟩
end Py

namespace Py
open PySem L2
def rc_WORD : String → Option String := fun c => if c = "Inner" then some "inner" else if c = "LeftOuter" then some "left" else if c = "RightOuter" then some "right" else if c = "FullOuter" then some "full" else if c = "Semi" then some "semi" else if c = "Anti" then some "anti" else none
def b_Inner_pairs {T : Tbl} (W : Wd T) (φ : Sem) : XS W :=
  (xsRet (xmP (xBl W true)))
def b_Inner_left_alone {T : Tbl} (W : Wd T) (φ : Sem) : XS W :=
  (xsRet (xmP (xBl W false)))
def b_Inner_right_alone {T : Tbl} (W : Wd T) (φ : Sem) : XS W :=
  (xsRet (xmP (xBl W false)))
def r_LeftOuter_left_alone : String → Option String := fun c => if c = "LeftOuter" then some "Inner.left_alone" else if c = "FullOuter" then some "Inner.left_alone" else none
def r_RightOuter_right_alone : String → Option String := fun c => if c = "RightOuter" then some "Inner.right_alone" else none
def r_FullOuter_right_alone : String → Option String := fun c => if c = "FullOuter" then some "Inner.right_alone" else none
def b_Semi_pairs {T : Tbl} (W : Wd T) (φ : Sem) : XS W :=
  (xsRet (xmP (xBl W false)))
def b_Semi_left_alone {T : Tbl} (W : Wd T) (φ : Sem) : XS W :=
  (xsRet (xmMove W 1))
def r_Anti_left_alone : String → Option String := fun c => if c = "Anti" then some "Semi.left_alone" else none
def l1_kind_named {T : Tbl} (W : Wd T) (φ : Sem) : XS W :=
  (xsIf (xtV (xEq (xCon rc_WORD "WORD" (xVar W 2)) (xVar W 0))) (xsRet (xmMove W 2)) (xsNext W))
def b_kind_named {T : Tbl} (W : Wd T) (φ : Sem) : XS W :=
  (xsSeq (xsAsg 1 (xmP (xLst (xaCons (xMk0 W "Inner") (xaCons (xMk0 W "LeftOuter") (xaCons (xMk0 W "RightOuter") (xaCons (xMk0 W "FullOuter") (xaCons (xMk0 W "Semi") (xaCons (xMk0 W "Anti") (xaNil W))))))))))
  (xsSeq (xsFrz [1] (xsFrz [1] (xsFor (xiSeq (xVar W 1)) (xgN W 2) (l1_kind_named W φ))))
  (xsRaise "BadKind" ["word"] (xaCons (xVar W 0) (xaNil W)))))
def l1_law_draws {T : Tbl} (W : Wd T) (φ : Sem) : XS W :=
  (xsSeq (xsAsg 7 (xmP (xInt W 0)))
  (xsSeq (xsIf (xtTru (xVar W 4)) (xsSeq (xsAsg 7 (xmP (xMod (xInt1 (xaCons (xVar W 3) (xaNil W))) (xInt W 1000))))
  (xsAsg 3 (xmP (xDiv (xVar W 3) (xInt W 1000))))) (xsIf (xtV (xGt (xVar W 3) (xInt W 0))) (xsSeq (xsAsg 8 (xmP (xMod (xInt1 (xaCons (xAdd (xMul (xVar W 3) (xAdd (xInt W 48271) (xMul (xInt W 6) (xVar W 6)))) (xMul (xInt W 69621) (xVar W 6))) (xaNil W))) (xInt W 2147483647))))
  (xsSeq (xsAsg 8 (xmP (xMod (xInt1 (xaCons (xAdd (xAdd (xMul (xVar W 8) (xVar W 8)) (xMul (xInt W 40692) (xVar W 6))) (xInt W 1)) (xaNil W))) (xInt W 2147483629))))
  (xsAsg 7 (xmP (xMod (xInt1 (xaCons (xVar W 8) (xaNil W))) (xInt W 1000)))))) (xsNext W)))
  (xsExpr (xmAppend (plVar W 5) (xVar W 7)))))
def b_law_draws {T : Tbl} (W : Wd T) (φ : Sem) : XS W :=
  (xsSeq (xsAsg 3 (xmP (xInt W 0)))
  (xsSeq (xsIf (xtV (xLt (xVar W 1) (xLen (xaCons (xVar W 0) (xaNil W))))) (xsAsg 3 (xmP (xAbs (xaCons (xIx (xVar W 0) (xVar W 1)) (xaNil W))))) (xsNext W))
  (xsSeq (xsAsg 4 (xmP (xGe (xVar W 3) (xPow (xInt W 10) (xInt W 18)))))
  (xsSeq (xsAsg 5 (xmP (xLst (xaNil W))))
  (xsSeq (xsFor (xiR1 (xaCons (xVar W 2) (xaNil W))) (xgN W 6) (l1_law_draws W φ))
  (xsRet (xmMove W 5)))))))
def b_law_classes {T : Tbl} (W : Wd T) (φ : Sem) : XS W :=
  (xsSeq (xsAsg 1 (xmP (xLst (xaNil W))))
  (xsSeq (xsIf (xtTru (xIsi (true, "Inner") (xVar W 0))) (xsExpr (xmAppend (plVar W 1) (xStr W "inner"))) (xsNext W))
  (xsSeq (xsIf (xtTru (xIsi (true, "LeftOuter") (xVar W 0))) (xsExpr (xmAppend (plVar W 1) (xStr W "left"))) (xsNext W))
  (xsSeq (xsIf (xtTru (xIsi (true, "RightOuter") (xVar W 0))) (xsExpr (xmAppend (plVar W 1) (xStr W "right"))) (xsNext W))
  (xsSeq (xsIf (xtTru (xIsi (true, "FullOuter") (xVar W 0))) (xsExpr (xmAppend (plVar W 1) (xStr W "full"))) (xsNext W))
  (xsSeq (xsIf (xtTru (xIsi (true, "Semi") (xVar W 0))) (xsExpr (xmAppend (plVar W 1) (xStr W "semi"))) (xsNext W))
  (xsSeq (xsIf (xtTru (xIsi (true, "Anti") (xVar W 0))) (xsExpr (xmAppend (plVar W 1) (xStr W "anti"))) (xsNext W))
  (xsRet (xmMove W 1)))))))))
def b_law_due {T : Tbl} (W : Wd T) (φ : Sem) : XS W :=
  (xsSeq (xsAsg 2 (xmP (xAnd (xNe (xVar W 0) (xStr W "semi")) (xNe (xVar W 0) (xStr W "anti")))))
  (xsSeq (xsAsg 3 (xmP (xBl W false)))
  (xsSeq (xsIf (xtOr (xtV (xEq (xVar W 0) (xStr W "left"))) (xtOr (xtV (xEq (xVar W 0) (xStr W "full"))) (xtV (xEq (xVar W 0) (xStr W "anti"))))) (xsAsg 3 (xmP (xNot (xVar W 1)))) (xsNext W))
  (xsSeq (xsIf (xtV (xEq (xVar W 0) (xStr W "semi"))) (xsAsg 3 (xmVar W 1)) (xsNext W))
  (xsSeq (xsAsg 4 (xmP (xAnd (xOr (xEq (xVar W 0) (xStr W "right")) (xEq (xVar W 0) (xStr W "full"))) (xNot (xVar W 1)))))
  (xsFrz [2, 3, 4] (xsRet (xmP (xLst (xaCons (xVar W 2) (xaCons (xVar W 3) (xaCons (xVar W 4) (xaNil W)))))))))))))
def l2_law_is_kind {T : Tbl} (W : Wd T) (φ : Sem) : XS W :=
  (xsIf (xtNot (xtTru (xIsi (false, "bool") (xVar W 5)))) (xsRet (xmP (xBl W false))) (xsNext W))
def l1_law_is_kind {T : Tbl} (W : Wd T) (φ : Sem) : XS W :=
  (xsSeq (xsFrz [0, 3] (xsAsg 4 (xmP (xLst (xaCons (xMeth φ "pairs" 1 (xVar W 0) (xaNil W)) (xaCons (xMeth φ "left_alone" 2 (xVar W 0) (xaCons (xVar W 3) (xaNil W))) (xaCons (xMeth φ "right_alone" 2 (xVar W 0) (xaCons (xVar W 3) (xaNil W))) (xaNil W))))))))
  (xsSeq (xsFrz [4] (xsFor (xiSeq (xVar W 4)) (xgN W 5) (l2_law_is_kind W φ)))
  (xsIf (xtV (xNe (xVar W 4) (xCall (φ "_law_due") 2 (xaCons (xVar W 1) (xaCons (xVar W 3) (xaNil W))) [] [] (fun _ => .nil)))) (xsRet (xmP (xBl W false))) (xsNext W))))
def b_law_is_kind {T : Tbl} (W : Wd T) (φ : Sem) : XS W :=
  (xsSeq (xsAsg 2 (xmP (xDisp [((xStr W "inner"), (xLst (xaCons (xStr W "inner") (xaNil W)))), ((xStr W "left"), (xLst (xaCons (xStr W "inner") (xaCons (xStr W "left") (xaNil W))))), ((xStr W "right"), (xLst (xaCons (xStr W "inner") (xaCons (xStr W "right") (xaNil W)))))])))
  (xsSeq (xsDput (plVar W 2) (xStr W "full") (xmP (xLst (xaCons (xStr W "inner") (xaCons (xStr W "left") (xaCons (xStr W "full") (xaNil W)))))))
  (xsSeq (xsDput (plVar W 2) (xStr W "semi") (xmP (xLst (xaCons (xStr W "inner") (xaCons (xStr W "semi") (xaNil W))))))
  (xsSeq (xsDput (plVar W 2) (xStr W "anti") (xmP (xLst (xaCons (xStr W "inner") (xaCons (xStr W "semi") (xaCons (xStr W "anti") (xaNil W)))))))
  (xsSeq (xsIf (xtOr (xtV (xNe (xCall (φ "_law_classes") 1 (xaCons (xVar W 0) (xaNil W)) [] [] (fun _ => .nil)) (xDix (xVar W 2) (xVar W 1)))) (xtOr (xtNot (xtTru (xIsi (false, "str") (xCon rc_WORD "WORD" (xVar W 0))))) (xtV (xNe (xCon rc_WORD "WORD" (xVar W 0)) (xVar W 1))))) (xsRet (xmP (xBl W false))) (xsNext W))
  (xsSeq (xsFor (xiSeq (xLst (xaCons (xBl W true) (xaCons (xBl W false) (xaCons (xBl W true) (xaNil W)))))) (xgN W 3) (l1_law_is_kind W φ))
  (xsRet (xmP (xBl W true)))))))))
def b_law {T : Tbl} (W : Wd T) (φ : Sem) : XS W :=
  (xsSeq (xsFrz [0] (xsAsg 1 (xmP (xCall (φ "_law_draws") 3 (xaCons (xVar W 0) (xaCons (xInt W 0) (xaCons (xInt W 4) (xaNil W)))) [] [] (fun _ => .nil)))))
  (xsSeq (xsAsg 2 (xmP (xLst (xaCons (xStr W "inner") (xaCons (xStr W "left") (xaCons (xStr W "right") (xaCons (xStr W "full") (xaCons (xStr W "semi") (xaCons (xStr W "anti") (xaNil W))))))))))
  (xsSeq (xsAsg 3 (xmP (xIx (xVar W 2) (xMod (xInt1 (xaCons (xIx (xVar W 1) (xInt W 0)) (xaNil W))) (xInt W 6)))))
  (xsSeq (xsIfM (xtmNot (xtmTru (xmP (xCall (φ "_law_is_kind") 2 (xaCons (xCall (φ "kind_named") 1 (xaCons (xVar W 3) (xaNil W)) [] [] (fun _ => .nil)) (xaCons (xVar W 3) (xaNil W))) [] [] (fun _ => .nil))))) (xsRet (xmP (xBl W false))) (xsNext W))
  (xsSeq (xsAsg 4 (xmP (xLst (xaCons (xMk0 W "Inner") (xaCons (xMk0 W "LeftOuter") (xaCons (xMk0 W "RightOuter") (xaCons (xMk0 W "FullOuter") (xaCons (xMk0 W "Semi") (xaCons (xMk0 W "Anti") (xaNil W))))))))))
  (xsSeq (xsFrz [4] (xsIf (xtNot (xtTru (xCall (φ "_law_is_kind") 2 (xaCons (xIx (xVar W 4) (xMod (xInt1 (xaCons (xIx (xVar W 1) (xInt W 2)) (xaNil W))) (xInt W 6))) (xaCons (xIx (xVar W 2) (xMod (xInt1 (xaCons (xIx (xVar W 1) (xInt W 2)) (xaNil W))) (xInt W 6))) (xaNil W))) [] [] (fun _ => .nil)))) (xsRet (xmP (xBl W false))) (xsNext W)))
  (xsSeq (xsIf (xtV (xNe (xMod (xInt1 (xaCons (xIx (xVar W 1) (xInt W 1)) (xaNil W))) (xInt W 4)) (xInt W 3))) (xsRet (xmP (xBl W true))) (xsNext W))
  (xsSeq (xsAsg 5 (xmP (xLst (xaCons (xStr W "") (xaCons (xStr W "Inner") (xaCons (xStr W "outer") (xaCons (xStr W "inner ") (xaCons (xStr W "full\n") (xaCons (xNon W) (xaCons (xBl W true) (xaCons (xInt W 3) (xaCons (xLst (xaCons (xStr W "inner") (xaNil W))) (xaCons (xTup (xaCons (xStr W "left") (xaNil W))) (xaCons (xStr W "leftright") (xaCons (xStr W "ANTI") (xaNil W))))))))))))))))
  (xsSeq (xsAsg 6 (xmP (xIx (xVar W 5) (xMod (xInt1 (xaCons (xIx (xVar W 1) (xInt W 3)) (xaNil W))) (xInt W 12)))))
  (xsSeq (xsAsg 7 (xmP (xLst (xaCons (xInt W 0) (xaNil W)))))
  (xsSeq (xsTryAs 8 "BadKind" (xsFrz [6] (xsExpr (xmCallM (φ "kind_named") 1 (xmsCons (xmVar W 6) (xmsNil W)) [] [] (fun _ => .nil)))) (xhAsg 7 (xqLst (xqsCons (xqFld W 8 "BadKind" "word") (xqsNil W 8)))))
  (xsSeq (xsAsg 9 (xmP (xBl W false)))
  (xsSeq (xsTryAs 8 "JoinError" (xsFrz [6] (xsExpr (xmCallM (φ "kind_named") 1 (xmsCons (xmVar W 6) (xmsNil W)) [] [] (fun _ => .nil)))) (xhAsg 9 (xqAnd (xqIs W 8 (false, "ValueError")) (xqNot (xqIs W 8 (true, "BadRow"))))))
  (xsRet (xmP (xAnd (xVar W 9) (xAnd (xEq (xVar W 7) (xLst (xaCons (xVar W 6) (xaNil W)))) (xEq (xIsi (false, "bool") (xIx (xVar W 7) (xInt W 0))) (xIsi (false, "bool") (xVar W 6))))))))))))))))))))
def clsL : List String := ["Inner", "LeftOuter", "RightOuter", "FullOuter", "Semi", "Anti"]
def fldL (c : String) : List String := if c = "Inner" then [] else if c = "LeftOuter" then [] else if c = "RightOuter" then [] else if c = "FullOuter" then [] else if c = "Semi" then [] else if c = "Anti" then [] else []
def resT (c m : String) : Option String := if c = "Inner" then (if m = "pairs" then some "Inner.pairs" else if m = "left_alone" then some "Inner.left_alone" else if m = "right_alone" then some "Inner.right_alone" else none) else if c = "LeftOuter" then (if m = "pairs" then some "Inner.pairs" else if m = "left_alone" then some "LeftOuter.left_alone" else if m = "right_alone" then some "Inner.right_alone" else none) else if c = "RightOuter" then (if m = "pairs" then some "Inner.pairs" else if m = "left_alone" then some "Inner.left_alone" else if m = "right_alone" then some "RightOuter.right_alone" else none) else if c = "FullOuter" then (if m = "pairs" then some "Inner.pairs" else if m = "left_alone" then some "LeftOuter.left_alone" else if m = "right_alone" then some "FullOuter.right_alone" else none) else if c = "Semi" then (if m = "pairs" then some "Semi.pairs" else if m = "left_alone" then some "Semi.left_alone" else if m = "right_alone" then some "Inner.right_alone" else none) else if c = "Anti" then (if m = "pairs" then some "Semi.pairs" else if m = "left_alone" then some "Anti.left_alone" else if m = "right_alone" then some "Inner.right_alone" else none) else none
def subT (c d : String) : Bool := if c = "Inner" then (["Inner"]).contains d else if c = "LeftOuter" then (["LeftOuter", "Inner"]).contains d else if c = "RightOuter" then (["RightOuter", "Inner"]).contains d else if c = "FullOuter" then (["FullOuter", "LeftOuter", "Inner"]).contains d else if c = "Semi" then (["Semi", "Inner"]).contains d else if c = "Anti" then (["Anti", "Semi", "Inner"]).contains d else false
def itT (c : String) : Option String :=  none
def xL : List String := ["JoinError", "BadRow", "BadKind"]
def xsubT (c d : String) : Bool := if c = "JoinError" then (["JoinError"]).contains d else if c = "BadRow" then (["BadRow", "JoinError"]).contains d else if c = "BadKind" then (["BadKind", "JoinError"]).contains d else false
def TT : Tbl := ⟨fun c f => (fldL c).contains f, fun _ _ => none, subT, resT, itT, xsubT⟩
theorem xs_JoinError_JoinError : TT.xsub "JoinError" "JoinError" = true := by simp [TT, xsubT]
theorem xs_JoinError_BadRow : TT.xsub "JoinError" "BadRow" = false := by simp [TT, xsubT]
theorem xs_JoinError_BadKind : TT.xsub "JoinError" "BadKind" = false := by simp [TT, xsubT]
theorem xs_BadRow_JoinError : TT.xsub "BadRow" "JoinError" = true := by simp [TT, xsubT]
theorem xs_BadRow_BadRow : TT.xsub "BadRow" "BadRow" = true := by simp [TT, xsubT]
theorem xs_BadRow_BadKind : TT.xsub "BadRow" "BadKind" = false := by simp [TT, xsubT]
theorem xs_BadKind_JoinError : TT.xsub "BadKind" "JoinError" = true := by simp [TT, xsubT]
theorem xs_BadKind_BadRow : TT.xsub "BadKind" "BadRow" = false := by simp [TT, xsubT]
theorem xs_BadKind_BadKind : TT.xsub "BadKind" "BadKind" = true := by simp [TT, xsubT]
theorem ik_Inner : TT.it "Inner" = none := by simp [TT, itT]
theorem rs_Inner_left_alone : TT.res "Inner" "left_alone" = some "Inner.left_alone" := by simp [TT, resT]
theorem rs_Inner_pairs : TT.res "Inner" "pairs" = some "Inner.pairs" := by simp [TT, resT]
theorem rs_Inner_right_alone : TT.res "Inner" "right_alone" = some "Inner.right_alone" := by simp [TT, resT]
theorem sb_Inner_Inner : TT.sub "Inner" "Inner" = true := by simp [TT, subT]
theorem sb_Inner_LeftOuter : TT.sub "Inner" "LeftOuter" = false := by simp [TT, subT]
theorem sb_Inner_RightOuter : TT.sub "Inner" "RightOuter" = false := by simp [TT, subT]
theorem sb_Inner_FullOuter : TT.sub "Inner" "FullOuter" = false := by simp [TT, subT]
theorem sb_Inner_Semi : TT.sub "Inner" "Semi" = false := by simp [TT, subT]
theorem sb_Inner_Anti : TT.sub "Inner" "Anti" = false := by simp [TT, subT]
theorem ik_LeftOuter : TT.it "LeftOuter" = none := by simp [TT, itT]
theorem rs_LeftOuter_left_alone : TT.res "LeftOuter" "left_alone" = some "LeftOuter.left_alone" := by simp [TT, resT]
theorem rs_LeftOuter_pairs : TT.res "LeftOuter" "pairs" = some "Inner.pairs" := by simp [TT, resT]
theorem rs_LeftOuter_right_alone : TT.res "LeftOuter" "right_alone" = some "Inner.right_alone" := by simp [TT, resT]
theorem sb_LeftOuter_Inner : TT.sub "LeftOuter" "Inner" = true := by simp [TT, subT]
theorem sb_LeftOuter_LeftOuter : TT.sub "LeftOuter" "LeftOuter" = true := by simp [TT, subT]
theorem sb_LeftOuter_RightOuter : TT.sub "LeftOuter" "RightOuter" = false := by simp [TT, subT]
theorem sb_LeftOuter_FullOuter : TT.sub "LeftOuter" "FullOuter" = false := by simp [TT, subT]
theorem sb_LeftOuter_Semi : TT.sub "LeftOuter" "Semi" = false := by simp [TT, subT]
theorem sb_LeftOuter_Anti : TT.sub "LeftOuter" "Anti" = false := by simp [TT, subT]
theorem ik_RightOuter : TT.it "RightOuter" = none := by simp [TT, itT]
theorem rs_RightOuter_left_alone : TT.res "RightOuter" "left_alone" = some "Inner.left_alone" := by simp [TT, resT]
theorem rs_RightOuter_pairs : TT.res "RightOuter" "pairs" = some "Inner.pairs" := by simp [TT, resT]
theorem rs_RightOuter_right_alone : TT.res "RightOuter" "right_alone" = some "RightOuter.right_alone" := by simp [TT, resT]
theorem sb_RightOuter_Inner : TT.sub "RightOuter" "Inner" = true := by simp [TT, subT]
theorem sb_RightOuter_LeftOuter : TT.sub "RightOuter" "LeftOuter" = false := by simp [TT, subT]
theorem sb_RightOuter_RightOuter : TT.sub "RightOuter" "RightOuter" = true := by simp [TT, subT]
theorem sb_RightOuter_FullOuter : TT.sub "RightOuter" "FullOuter" = false := by simp [TT, subT]
theorem sb_RightOuter_Semi : TT.sub "RightOuter" "Semi" = false := by simp [TT, subT]
theorem sb_RightOuter_Anti : TT.sub "RightOuter" "Anti" = false := by simp [TT, subT]
theorem ik_FullOuter : TT.it "FullOuter" = none := by simp [TT, itT]
theorem rs_FullOuter_left_alone : TT.res "FullOuter" "left_alone" = some "LeftOuter.left_alone" := by simp [TT, resT]
theorem rs_FullOuter_pairs : TT.res "FullOuter" "pairs" = some "Inner.pairs" := by simp [TT, resT]
theorem rs_FullOuter_right_alone : TT.res "FullOuter" "right_alone" = some "FullOuter.right_alone" := by simp [TT, resT]
theorem sb_FullOuter_Inner : TT.sub "FullOuter" "Inner" = true := by simp [TT, subT]
theorem sb_FullOuter_LeftOuter : TT.sub "FullOuter" "LeftOuter" = true := by simp [TT, subT]
theorem sb_FullOuter_RightOuter : TT.sub "FullOuter" "RightOuter" = false := by simp [TT, subT]
theorem sb_FullOuter_FullOuter : TT.sub "FullOuter" "FullOuter" = true := by simp [TT, subT]
theorem sb_FullOuter_Semi : TT.sub "FullOuter" "Semi" = false := by simp [TT, subT]
theorem sb_FullOuter_Anti : TT.sub "FullOuter" "Anti" = false := by simp [TT, subT]
theorem ik_Semi : TT.it "Semi" = none := by simp [TT, itT]
theorem rs_Semi_left_alone : TT.res "Semi" "left_alone" = some "Semi.left_alone" := by simp [TT, resT]
theorem rs_Semi_pairs : TT.res "Semi" "pairs" = some "Semi.pairs" := by simp [TT, resT]
theorem rs_Semi_right_alone : TT.res "Semi" "right_alone" = some "Inner.right_alone" := by simp [TT, resT]
theorem sb_Semi_Inner : TT.sub "Semi" "Inner" = true := by simp [TT, subT]
theorem sb_Semi_LeftOuter : TT.sub "Semi" "LeftOuter" = false := by simp [TT, subT]
theorem sb_Semi_RightOuter : TT.sub "Semi" "RightOuter" = false := by simp [TT, subT]
theorem sb_Semi_FullOuter : TT.sub "Semi" "FullOuter" = false := by simp [TT, subT]
theorem sb_Semi_Semi : TT.sub "Semi" "Semi" = true := by simp [TT, subT]
theorem sb_Semi_Anti : TT.sub "Semi" "Anti" = false := by simp [TT, subT]
theorem ik_Anti : TT.it "Anti" = none := by simp [TT, itT]
theorem rs_Anti_left_alone : TT.res "Anti" "left_alone" = some "Anti.left_alone" := by simp [TT, resT]
theorem rs_Anti_pairs : TT.res "Anti" "pairs" = some "Semi.pairs" := by simp [TT, resT]
theorem rs_Anti_right_alone : TT.res "Anti" "right_alone" = some "Inner.right_alone" := by simp [TT, resT]
theorem sb_Anti_Inner : TT.sub "Anti" "Inner" = true := by simp [TT, subT]
theorem sb_Anti_LeftOuter : TT.sub "Anti" "LeftOuter" = false := by simp [TT, subT]
theorem sb_Anti_RightOuter : TT.sub "Anti" "RightOuter" = false := by simp [TT, subT]
theorem sb_Anti_FullOuter : TT.sub "Anti" "FullOuter" = false := by simp [TT, subT]
theorem sb_Anti_Semi : TT.sub "Anti" "Semi" = true := by simp [TT, subT]
theorem sb_Anti_Anti : TT.sub "Anti" "Anti" = true := by simp [TT, subT]
def tbl {T : Tbl} (W : Wd T) : String → Option (Sem → List D → Option Nat → Rz)
  | "Inner.pairs" => some fun φ => runFn 1 (b_Inner_pairs W φ)
  | "Inner.left_alone" => some fun φ => runFn 2 (b_Inner_left_alone W φ)
  | "Inner.right_alone" => some fun φ => runFn 2 (b_Inner_right_alone W φ)
  | "LeftOuter.left_alone" => some fun φ => runSupOr φ r_LeftOuter_left_alone
  | "RightOuter.right_alone" => some fun φ => runSupOr φ r_RightOuter_right_alone
  | "FullOuter.right_alone" => some fun φ => runSupOr φ r_FullOuter_right_alone
  | "Semi.pairs" => some fun φ => runFn 1 (b_Semi_pairs W φ)
  | "Semi.left_alone" => some fun φ => runFn 2 (b_Semi_left_alone W φ)
  | "Anti.left_alone" => some fun φ => runSupNot φ r_Anti_left_alone
  | "kind_named" => some fun φ => runFn 3 (b_kind_named W φ)
  | "_law_draws" => some fun φ => runFn 9 (b_law_draws W φ)
  | "_law_classes" => some fun φ => runFn 2 (b_law_classes W φ)
  | "_law_due" => some fun φ => runFn 5 (b_law_due W φ)
  | "_law_is_kind" => some fun φ => runFn 6 (b_law_is_kind W φ)
  | _ => none
theorem sem_Inner_pairs {T : Tbl} (W : Wd T) (k : Nat) (args : List D) (b : Option Nat) : semT (tbl W) (k + 1) "Inner.pairs" args b = runFn 1 (b_Inner_pairs W (semT (tbl W) k)) args b := rfl
theorem sem_Inner_left_alone {T : Tbl} (W : Wd T) (k : Nat) (args : List D) (b : Option Nat) : semT (tbl W) (k + 1) "Inner.left_alone" args b = runFn 2 (b_Inner_left_alone W (semT (tbl W) k)) args b := rfl
theorem sem_Inner_right_alone {T : Tbl} (W : Wd T) (k : Nat) (args : List D) (b : Option Nat) : semT (tbl W) (k + 1) "Inner.right_alone" args b = runFn 2 (b_Inner_right_alone W (semT (tbl W) k)) args b := rfl
theorem sem_LeftOuter_left_alone {T : Tbl} (W : Wd T) (k : Nat) (args : List D) (b : Option Nat) : semT (tbl W) (k + 1) "LeftOuter.left_alone" args b = runSupOr (semT (tbl W) k) r_LeftOuter_left_alone args b := rfl
theorem sem_RightOuter_right_alone {T : Tbl} (W : Wd T) (k : Nat) (args : List D) (b : Option Nat) : semT (tbl W) (k + 1) "RightOuter.right_alone" args b = runSupOr (semT (tbl W) k) r_RightOuter_right_alone args b := rfl
theorem sem_FullOuter_right_alone {T : Tbl} (W : Wd T) (k : Nat) (args : List D) (b : Option Nat) : semT (tbl W) (k + 1) "FullOuter.right_alone" args b = runSupOr (semT (tbl W) k) r_FullOuter_right_alone args b := rfl
theorem sem_Semi_pairs {T : Tbl} (W : Wd T) (k : Nat) (args : List D) (b : Option Nat) : semT (tbl W) (k + 1) "Semi.pairs" args b = runFn 1 (b_Semi_pairs W (semT (tbl W) k)) args b := rfl
theorem sem_Semi_left_alone {T : Tbl} (W : Wd T) (k : Nat) (args : List D) (b : Option Nat) : semT (tbl W) (k + 1) "Semi.left_alone" args b = runFn 2 (b_Semi_left_alone W (semT (tbl W) k)) args b := rfl
theorem sem_Anti_left_alone {T : Tbl} (W : Wd T) (k : Nat) (args : List D) (b : Option Nat) : semT (tbl W) (k + 1) "Anti.left_alone" args b = runSupNot (semT (tbl W) k) r_Anti_left_alone args b := rfl
theorem sem_kind_named {T : Tbl} (W : Wd T) (k : Nat) (args : List D) (b : Option Nat) : semT (tbl W) (k + 1) "kind_named" args b = runFn 3 (b_kind_named W (semT (tbl W) k)) args b := rfl
theorem sem_law_draws {T : Tbl} (W : Wd T) (k : Nat) (args : List D) (b : Option Nat) : semT (tbl W) (k + 1) "_law_draws" args b = runFn 9 (b_law_draws W (semT (tbl W) k)) args b := rfl
theorem sem_law_classes {T : Tbl} (W : Wd T) (k : Nat) (args : List D) (b : Option Nat) : semT (tbl W) (k + 1) "_law_classes" args b = runFn 2 (b_law_classes W (semT (tbl W) k)) args b := rfl
theorem sem_law_due {T : Tbl} (W : Wd T) (k : Nat) (args : List D) (b : Option Nat) : semT (tbl W) (k + 1) "_law_due" args b = runFn 5 (b_law_due W (semT (tbl W) k)) args b := rfl
theorem sem_law_is_kind {T : Tbl} (W : Wd T) (k : Nat) (args : List D) (b : Option Nat) : semT (tbl W) (k + 1) "_law_is_kind" args b = runFn 6 (b_law_is_kind W (semT (tbl W) k)) args b := rfl
end Py

namespace Py
open PySem L2
def top (i : Nat) : Stmt := PySem.Challenge.pw_anyhashes_k05_six_kinds.main.body.getD i (.Pass ⟨0, 0, 0, 0⟩)
def inClass (s : Stmt) (j : Nat) : Stmt := match s with
  | .ClassDef _ _ _ body _ _ _ _ _ _ _ => body.getD j (.Pass ⟨0, 0, 0, 0⟩)
  | s => s
abbrev s_kind_named : Stmt := top 11
abbrev N_kind_named : List Str := ["word", "kinds", "kind"]
abbrev A_kind_named : List Str := ["word"]
theorem sc_kind_named : FnScope N_kind_named A_kind_named (defScope s_kind_named) := ⟨rfl, rfl, rfl, by decide +kernel, rfl, by decide +kernel, by decide +kernel⟩
theorem bp_kind_named : BindsP "kind_named" "kind_named" s_kind_named A_kind_named := fun _ _ _ _ _ _ us hl => match us, hl with | [_], _ => rfl
abbrev s_law_draws : Stmt := top 13
abbrev N_law_draws : List Str := ["_law_script", "_law_at", "_law_many", "_law_number", "_law_big", "_law_found", "_law_k", "_law_draw", "_law_mixed"]
abbrev A_law_draws : List Str := ["_law_script", "_law_at", "_law_many"]
theorem sc_law_draws : FnScope N_law_draws A_law_draws (defScope s_law_draws) := ⟨rfl, rfl, rfl, by decide +kernel, rfl, by decide +kernel, by decide +kernel⟩
theorem bp_law_draws : BindsP "_law_draws" "_law_draws" s_law_draws A_law_draws := fun _ _ _ _ _ _ us hl => match us, hl with | [_, _, _], _ => rfl
abbrev s_law_classes : Stmt := top 14
abbrev N_law_classes : List Str := ["_law_kind", "_law_found"]
abbrev A_law_classes : List Str := ["_law_kind"]
theorem sc_law_classes : FnScope N_law_classes A_law_classes (defScope s_law_classes) := ⟨rfl, rfl, rfl, by decide +kernel, rfl, by decide +kernel, by decide +kernel⟩
theorem bp_law_classes : BindsP "_law_classes" "_law_classes" s_law_classes A_law_classes := fun _ _ _ _ _ _ us hl => match us, hl with | [_], _ => rfl
abbrev s_law_due : Stmt := top 15
abbrev N_law_due : List Str := ["_law_word", "_law_met", "_law_pairs", "_law_left", "_law_right"]
abbrev A_law_due : List Str := ["_law_word", "_law_met"]
theorem sc_law_due : FnScope N_law_due A_law_due (defScope s_law_due) := ⟨rfl, rfl, rfl, by decide +kernel, rfl, by decide +kernel, by decide +kernel⟩
theorem bp_law_due : BindsP "_law_due" "_law_due" s_law_due A_law_due := fun _ _ _ _ _ _ us hl => match us, hl with | [_, _], _ => rfl
abbrev s_law_is_kind : Stmt := top 16
abbrev N_law_is_kind : List Str := ["_law_kind", "_law_word", "_law_chains", "_law_met", "_law_told", "_law_answer"]
abbrev A_law_is_kind : List Str := ["_law_kind", "_law_word"]
theorem sc_law_is_kind : FnScope N_law_is_kind A_law_is_kind (defScope s_law_is_kind) := ⟨rfl, rfl, rfl, by decide +kernel, rfl, by decide +kernel, by decide +kernel⟩
theorem bp_law_is_kind : BindsP "_law_is_kind" "_law_is_kind" s_law_is_kind A_law_is_kind := fun _ _ _ _ _ _ us hl => match us, hl with | [_, _], _ => rfl
abbrev s_Inner_pairs : Stmt := inClass (top 5) 1
abbrev N_Inner_pairs : List Str := ["self"]
abbrev A_Inner_pairs : List Str := ["self"]
theorem sc_Inner_pairs : FnScope N_Inner_pairs A_Inner_pairs (defScope s_Inner_pairs) := ⟨rfl, rfl, rfl, by decide +kernel, rfl, by decide +kernel, by decide +kernel⟩
theorem bp_Inner_pairs : BindsP "pairs" "Inner.pairs" s_Inner_pairs A_Inner_pairs := fun _ _ _ _ _ _ us hl => match us, hl with | [_], _ => rfl
abbrev s_Inner_left_alone : Stmt := inClass (top 5) 2
abbrev N_Inner_left_alone : List Str := ["self", "met"]
abbrev A_Inner_left_alone : List Str := ["self", "met"]
theorem sc_Inner_left_alone : FnScope N_Inner_left_alone A_Inner_left_alone (defScope s_Inner_left_alone) := ⟨rfl, rfl, rfl, by decide +kernel, rfl, by decide +kernel, by decide +kernel⟩
theorem bp_Inner_left_alone : BindsP "left_alone" "Inner.left_alone" s_Inner_left_alone A_Inner_left_alone := fun _ _ _ _ _ _ us hl => match us, hl with | [_, _], _ => rfl
abbrev s_Inner_right_alone : Stmt := inClass (top 5) 3
abbrev N_Inner_right_alone : List Str := ["self", "met"]
abbrev A_Inner_right_alone : List Str := ["self", "met"]
theorem sc_Inner_right_alone : FnScope N_Inner_right_alone A_Inner_right_alone (defScope s_Inner_right_alone) := ⟨rfl, rfl, rfl, by decide +kernel, rfl, by decide +kernel, by decide +kernel⟩
theorem bp_Inner_right_alone : BindsP "right_alone" "Inner.right_alone" s_Inner_right_alone A_Inner_right_alone := fun _ _ _ _ _ _ us hl => match us, hl with | [_, _], _ => rfl
abbrev s_LeftOuter_left_alone : Stmt := inClass (top 6) 1
theorem bs_LeftOuter_left_alone : BindsS "left_alone" "LeftOuter.left_alone" s_LeftOuter_left_alone := fun _ _ _ _ _ _ us hl => match us, hl with | [_, _], _ => rfl
theorem ns_LeftOuter_left_alone : NdefX.NScope ["self", "met", "__class__"] ["self", "met"] ["__class__"] (defScope s_LeftOuter_left_alone) := NdefX.nscope_by (by decide +kernel)
abbrev s_RightOuter_right_alone : Stmt := inClass (top 7) 1
theorem bs_RightOuter_right_alone : BindsS "right_alone" "RightOuter.right_alone" s_RightOuter_right_alone := fun _ _ _ _ _ _ us hl => match us, hl with | [_, _], _ => rfl
theorem ns_RightOuter_right_alone : NdefX.NScope ["self", "met", "__class__"] ["self", "met"] ["__class__"] (defScope s_RightOuter_right_alone) := NdefX.nscope_by (by decide +kernel)
abbrev s_FullOuter_right_alone : Stmt := inClass (top 8) 1
theorem bs_FullOuter_right_alone : BindsS "right_alone" "FullOuter.right_alone" s_FullOuter_right_alone := fun _ _ _ _ _ _ us hl => match us, hl with | [_, _], _ => rfl
theorem ns_FullOuter_right_alone : NdefX.NScope ["self", "met", "__class__"] ["self", "met"] ["__class__"] (defScope s_FullOuter_right_alone) := NdefX.nscope_by (by decide +kernel)
abbrev s_Semi_pairs : Stmt := inClass (top 9) 1
abbrev N_Semi_pairs : List Str := ["self"]
abbrev A_Semi_pairs : List Str := ["self"]
theorem sc_Semi_pairs : FnScope N_Semi_pairs A_Semi_pairs (defScope s_Semi_pairs) := ⟨rfl, rfl, rfl, by decide +kernel, rfl, by decide +kernel, by decide +kernel⟩
theorem bp_Semi_pairs : BindsP "pairs" "Semi.pairs" s_Semi_pairs A_Semi_pairs := fun _ _ _ _ _ _ us hl => match us, hl with | [_], _ => rfl
abbrev s_Semi_left_alone : Stmt := inClass (top 9) 2
abbrev N_Semi_left_alone : List Str := ["self", "met"]
abbrev A_Semi_left_alone : List Str := ["self", "met"]
theorem sc_Semi_left_alone : FnScope N_Semi_left_alone A_Semi_left_alone (defScope s_Semi_left_alone) := ⟨rfl, rfl, rfl, by decide +kernel, rfl, by decide +kernel, by decide +kernel⟩
theorem bp_Semi_left_alone : BindsP "left_alone" "Semi.left_alone" s_Semi_left_alone A_Semi_left_alone := fun _ _ _ _ _ _ us hl => match us, hl with | [_, _], _ => rfl
abbrev s_Anti_left_alone : Stmt := inClass (top 10) 1
theorem bs_Anti_left_alone : BindsS "left_alone" "Anti.left_alone" s_Anti_left_alone := fun _ _ _ _ _ _ us hl => match us, hl with | [_, _], _ => rfl
theorem ns_Anti_left_alone : NdefX.NScope ["self", "met", "__class__"] ["self", "met"] ["__class__"] (defScope s_Anti_left_alone) := NdefX.nscope_by (by decide +kernel)
abbrev s_law : Stmt := top 17
abbrev N_law : List Str := ["_law_script", "_law_shape", "_law_words", "_law_word", "_law_made", "_law_things", "_law_thing", "_law_told", "e", "_law_base"]
abbrev A_law : List Str := ["_law_script"]
theorem sc_law : FnScope N_law A_law (defScope s_law) := ⟨rfl, rfl, rfl, by decide +kernel, rfl, by decide +kernel, by decide +kernel⟩
theorem bp_law : BindsP "law" "law" s_law A_law := fun _ _ _ _ _ _ us hl => match us, hl with | [_], _ => rfl
section
variable {W : Wd TT} {mg : Str → Option Value} {base : Heap}
structure Cs (W : Wd TT) (mg : Str → Option Value) : Prop where
  hasL : ∀ c, W.has c → c ∈ clsL
  dun : Dun W
  has_Inner : W.has "Inner"
  g_Inner : mg "Inner" = some (.ref (W.cA "Inner"))
  a_Inner_pairs : MethAt W.K (W.cA "Inner") "pairs" "pairs" "Inner.pairs" s_Inner_pairs [] []
  a_Inner_left_alone : MethAt W.K (W.cA "Inner") "left_alone" "left_alone" "Inner.left_alone" s_Inner_left_alone [] []
  a_Inner_right_alone : MethAt W.K (W.cA "Inner") "right_alone" "right_alone" "Inner.right_alone" s_Inner_right_alone [] []
  k0_Inner : Mk0 W.K (W.cA "Inner")
  has_LeftOuter : W.has "LeftOuter"
  g_LeftOuter : mg "LeftOuter" = some (.ref (W.cA "LeftOuter"))
  a_LeftOuter_pairs : MethAt W.K (W.cA "LeftOuter") "pairs" "pairs" "Inner.pairs" s_Inner_pairs [] []
  a_LeftOuter_left_alone : SupAt W.P W.K (W.cA "LeftOuter") "left_alone" "LeftOuter.left_alone" s_LeftOuter_left_alone (W.cA "LeftOuter")
  sc_LeftOuter_left_alone : SupC W.K (W.cA "LeftOuter") (W.cA "LeftOuter") "left_alone" (W.cA "Inner")
  a_LeftOuter_right_alone : MethAt W.K (W.cA "LeftOuter") "right_alone" "right_alone" "Inner.right_alone" s_Inner_right_alone [] []
  k0_LeftOuter : Mk0 W.K (W.cA "LeftOuter")
  has_RightOuter : W.has "RightOuter"
  g_RightOuter : mg "RightOuter" = some (.ref (W.cA "RightOuter"))
  a_RightOuter_pairs : MethAt W.K (W.cA "RightOuter") "pairs" "pairs" "Inner.pairs" s_Inner_pairs [] []
  a_RightOuter_left_alone : MethAt W.K (W.cA "RightOuter") "left_alone" "left_alone" "Inner.left_alone" s_Inner_left_alone [] []
  a_RightOuter_right_alone : SupAt W.P W.K (W.cA "RightOuter") "right_alone" "RightOuter.right_alone" s_RightOuter_right_alone (W.cA "RightOuter")
  sc_RightOuter_right_alone : SupC W.K (W.cA "RightOuter") (W.cA "RightOuter") "right_alone" (W.cA "Inner")
  k0_RightOuter : Mk0 W.K (W.cA "RightOuter")
  has_FullOuter : W.has "FullOuter"
  g_FullOuter : mg "FullOuter" = some (.ref (W.cA "FullOuter"))
  a_FullOuter_pairs : MethAt W.K (W.cA "FullOuter") "pairs" "pairs" "Inner.pairs" s_Inner_pairs [] []
  a_FullOuter_left_alone : SupAt W.P W.K (W.cA "FullOuter") "left_alone" "LeftOuter.left_alone" s_LeftOuter_left_alone (W.cA "LeftOuter")
  sc_FullOuter_left_alone : SupC W.K (W.cA "FullOuter") (W.cA "LeftOuter") "left_alone" (W.cA "Inner")
  a_FullOuter_right_alone : SupAt W.P W.K (W.cA "FullOuter") "right_alone" "FullOuter.right_alone" s_FullOuter_right_alone (W.cA "FullOuter")
  sc_FullOuter_right_alone : SupC W.K (W.cA "FullOuter") (W.cA "FullOuter") "right_alone" (W.cA "Inner")
  k0_FullOuter : Mk0 W.K (W.cA "FullOuter")
  has_Semi : W.has "Semi"
  g_Semi : mg "Semi" = some (.ref (W.cA "Semi"))
  a_Semi_pairs : MethAt W.K (W.cA "Semi") "pairs" "pairs" "Semi.pairs" s_Semi_pairs [] []
  a_Semi_left_alone : MethAt W.K (W.cA "Semi") "left_alone" "left_alone" "Semi.left_alone" s_Semi_left_alone [] []
  a_Semi_right_alone : MethAt W.K (W.cA "Semi") "right_alone" "right_alone" "Inner.right_alone" s_Inner_right_alone [] []
  k0_Semi : Mk0 W.K (W.cA "Semi")
  has_Anti : W.has "Anti"
  g_Anti : mg "Anti" = some (.ref (W.cA "Anti"))
  a_Anti_pairs : MethAt W.K (W.cA "Anti") "pairs" "pairs" "Semi.pairs" s_Semi_pairs [] []
  a_Anti_left_alone : SupAt W.P W.K (W.cA "Anti") "left_alone" "Anti.left_alone" s_Anti_left_alone (W.cA "Anti")
  sc_Anti_left_alone : SupC W.K (W.cA "Anti") (W.cA "Anti") "left_alone" (W.cA "Semi")
  a_Anti_right_alone : MethAt W.K (W.cA "Anti") "right_alone" "right_alone" "Inner.right_alone" s_Inner_right_alone [] []
  k0_Anti : Mk0 W.K (W.cA "Anti")
  opq : PySem.W.nsIn W.K PySem.cStatics "thirdparty.any" = some none
  con_WORD : ConOk W rc_WORD "WORD"
  noVE : mg "ValueError" = none
  hx_JoinError : W.hasX "JoinError"
  gx_JoinError : mg "JoinError" = some (.ref (W.cA "JoinError"))
  hx_BadRow : W.hasX "BadRow"
  gx_BadRow : mg "BadRow" = some (.ref (W.cA "BadRow"))
  x_BadRow : ExcD W.P W.K mg "BadRow" (W.cA "BadRow") (["number"].map so)
  hx_BadKind : W.hasX "BadKind"
  gx_BadKind : mg "BadKind" = some (.ref (W.cA "BadKind"))
  x_BadKind : ExcD W.P W.K mg "BadKind" (W.cA "BadKind") (["word"].map so)
structure Ds (W : Wd TT) (mg : Str → Option Value) (base : Heap) (φ : Sem) (k : Nat) : Prop where
  its : Its W.P W.w W.K mg base W
  d_kind_named : ∀ b, (∀ i, b = some i → i < 1) → Df W.P W.w W.K mg base (L2.CX W.P W.w) k "kind_named" A_kind_named (spR W 1 (φ "kind_named") b)
  d_law_draws : ∀ b, (∀ i, b = some i → i < 3) → Df W.P W.w W.K mg base (L2.CX W.P W.w) k "_law_draws" A_law_draws (spR W 3 (φ "_law_draws") b)
  d_law_classes : ∀ b, (∀ i, b = some i → i < 1) → Df W.P W.w W.K mg base (L2.CX W.P W.w) k "_law_classes" A_law_classes (spR W 1 (φ "_law_classes") b)
  d_law_due : ∀ b, (∀ i, b = some i → i < 2) → Df W.P W.w W.K mg base (L2.CX W.P W.w) k "_law_due" A_law_due (spR W 2 (φ "_law_due") b)
  d_law_is_kind : ∀ b, (∀ i, b = some i → i < 2) → Df W.P W.w W.K mg base (L2.CX W.P W.w) k "_law_is_kind" A_law_is_kind (spR W 2 (φ "_law_is_kind") b)
  m_left_alone : ∀ b, (∀ i, b = some i → i < 2) → Mt W.P W.w W.K mg base W k "left_alone" 2 φ b
  m_pairs : ∀ b, (∀ i, b = some i → i < 1) → Mt W.P W.w W.K mg base W k "pairs" 1 φ b
  m_right_alone : ∀ b, (∀ i, b = some i → i < 2) → Mt W.P W.w W.K mg base W k "right_alone" 2 φ b
theorem it_all (C : Cs W mg) (B : Blt mg) : Its W.P W.w W.K mg base W := by
  refine ⟨fun c f hc hf => ?_⟩
  have hm := C.hasL c hc
  simp only [clsL, List.mem_cons, List.not_mem_nil, or_false] at hm
  rcases hm with rfl | rfl | rfl | rfl | rfl | rfl
  · rw [ik_Inner] at hf; cases hf
  · rw [ik_LeftOuter] at hf; cases hf
  · rw [ik_RightOuter] at hf; cases hf
  · rw [ik_FullOuter] at hf; cases hf
  · rw [ik_Semi] at hf; cases hf
  · rw [ik_Anti] at hf; cases hf
theorem ok_kind_named {φ : Sem} {k : Nat} (D : Ds W mg base φ k) (C : Cs W mg) (D' : DefAt W.K mg "kind_named" "kind_named" s_kind_named [] []) (B : Blt mg) : ∀ b, (∀ i, b = some i → i < 1) → Df W.P W.w W.K mg base (L2.CX W.P W.w) (k + 4) "kind_named" A_kind_named (spR W 1 (runFn 3 (b_kind_named W φ)) b) := by
  intro b hb
  refine df_of D' sc_kind_named bp_kind_named spR_len fun f cdv A outer s H vs Q E hr hsp => ⟨(b_kind_named W φ).t (fun c d _ H => E c d H), ?_, fn_run (N := N_kind_named) hb hsp⟩
  dsimp only [b_kind_named, l1_kind_named, xsSeq, xsNext, xsBreak, xsCont, xsNever, xsRetN, xsAsg, xsAsgG, xsExpr, xsRet, xsIf, xsFrz, xsFor, xsWhile, xsAug, xmP, xmVar, xmMove, xmBM, xmBM0, xmAppend, xmExtend, xmInsert, xmPop, xmReverse, xmClear, plVar, plFld, plIx, xoNil, xoCons, xVar, xC, xInt, xBl, xNon, xStr, xOp, xSub, xFz, xMul, xDiv, xMod, xPow, xNeg, xAdd, xEq, xNe, xLt, xCmp, xLe, xGt, xGe, xIsN, xNotN, xAnd, xOr, xNot, xChain, xChainI, xtV, xtTru, xtAnd, xtOr, xtNot, xtYes, xIf, xaNil, xaCons, xTup, xLst, xCb, xInt1, xAbs, xMax2, xMin2, xLen, xIx, xInE, xFld, xList, xTuple, xIsi, xIsiT, xCall, xgN, xgsNil, xgsCons, xgT, xiSeq, xiR1, xiR2, xiEnum, xiZip, xLc, xSorted, xMeth, xmMeth, xMake, xProp, xLenU, xmsNil, xmsCons, xmCallM, xtmT, xtmTru, xtmNot, xtmAnd, xtmOr, xsIfM, xmOpL, xsFld, xSl, tO, xSortedR, xListU, xiSeqU, xiEnumU, xiEnumT, xMakeB, tCls, xIxO, xEqO, xAddO, xMk0, xCon, xAndO, xSortSet, xCallB, xbNil, xbCons, xBest, xSum, xAddV, xSortedV, xsSet, xCallN, xMakeN, xCallL, xDnew, xDget2, xDix, xIn, xDin, tInK, xDlist, xDict, xDlen, xsDput, xsForD, xsLock, xiKeysL, xpLock, xLcD, xDc, xDcD, xsDapp, xpAlt, xsAlt, xsPar, xCallO, xsForO, xiSeq, xVar, xDisp, List.map_cons, List.map_nil, xMakeL, xMakeNL, xCallW, xsRaise, xsTryAs, xhAsg, xhRet, xqP, xqFld, xqIs, xqIsT, xqAnd, xqOr, xqNot, xqLst, xqsNil, xqsCons, xmCallN, xmMake, xmMakeN, xmCallO, xmAppendR]
  exact (pss_cons (ps_set (i := 1) sc_kind_named.nd rfl (Or.inl rfl) (pe_lst (pa_cons (px_mk0 C.k0_Inner C.has_Inner (by rfl) C.g_Inner) (pa_cons (px_mk0 C.k0_LeftOuter C.has_LeftOuter (by rfl) C.g_LeftOuter) (pa_cons (px_mk0 C.k0_RightOuter C.has_RightOuter (by rfl) C.g_RightOuter) (pa_cons (px_mk0 C.k0_FullOuter C.has_FullOuter (by rfl) C.g_FullOuter) (pa_cons (px_mk0 C.k0_Semi C.has_Semi (by rfl) C.g_Semi) (pa_cons (px_mk0 C.k0_Anti C.has_Anti (by rfl) C.g_Anti) pa_nil))))))))
      (pss_cons (ps_for cx_po rfl (pi_seqU (pv 1)) (pg_name (i := 2) sc_kind_named.nd rfl (Or.inl rfl)) (pss_one (ps_if (pt_cmpR (opEq hr.units) (pe_imp C.con_WORD (pe_con (pv 2) rfl)) (pv 0) (nomark _)) (pss_one (ps_ret (pv 2))) pss_nil)))
      (pss_one (px_raise C.x_BadKind C.hx_BadKind cx_tk rfl hr (pa_cons (pv 0) pa_nil) rfl))))
theorem ok_law_draws {φ : Sem} {k : Nat} (D : Ds W mg base φ k) (C : Cs W mg) (D' : DefAt W.K mg "_law_draws" "_law_draws" s_law_draws [] []) (B : Blt mg) : ∀ b, (∀ i, b = some i → i < 3) → Df W.P W.w W.K mg base (L2.CX W.P W.w) (k + 4) "_law_draws" A_law_draws (spR W 3 (runFn 9 (b_law_draws W φ)) b) := by
  intro b hb
  refine df_of D' sc_law_draws bp_law_draws spR_len fun f cdv A outer s H vs Q E hr hsp => ⟨(b_law_draws W φ).t (fun c d _ H => E c d H), ?_, fn_run (N := N_law_draws) hb hsp⟩
  dsimp only [b_law_draws, l1_law_draws, xsSeq, xsNext, xsBreak, xsCont, xsNever, xsRetN, xsAsg, xsAsgG, xsExpr, xsRet, xsIf, xsFrz, xsFor, xsWhile, xsAug, xmP, xmVar, xmMove, xmBM, xmBM0, xmAppend, xmExtend, xmInsert, xmPop, xmReverse, xmClear, plVar, plFld, plIx, xoNil, xoCons, xVar, xC, xInt, xBl, xNon, xStr, xOp, xSub, xFz, xMul, xDiv, xMod, xPow, xNeg, xAdd, xEq, xNe, xLt, xCmp, xLe, xGt, xGe, xIsN, xNotN, xAnd, xOr, xNot, xChain, xChainI, xtV, xtTru, xtAnd, xtOr, xtNot, xtYes, xIf, xaNil, xaCons, xTup, xLst, xCb, xInt1, xAbs, xMax2, xMin2, xLen, xIx, xInE, xFld, xList, xTuple, xIsi, xIsiT, xCall, xgN, xgsNil, xgsCons, xgT, xiSeq, xiR1, xiR2, xiEnum, xiZip, xLc, xSorted, xMeth, xmMeth, xMake, xProp, xLenU, xmsNil, xmsCons, xmCallM, xtmT, xtmTru, xtmNot, xtmAnd, xtmOr, xsIfM, xmOpL, xsFld, xSl, tO, xSortedR, xListU, xiSeqU, xiEnumU, xiEnumT, xMakeB, tCls, xIxO, xEqO, xAddO, xMk0, xCon, xAndO, xSortSet, xCallB, xbNil, xbCons, xBest, xSum, xAddV, xSortedV, xsSet, xCallN, xMakeN, xCallL, xDnew, xDget2, xDix, xIn, xDin, tInK, xDlist, xDict, xDlen, xsDput, xsForD, xsLock, xiKeysL, xpLock, xLcD, xDc, xDcD, xsDapp, xpAlt, xsAlt, xsPar, xCallO, xsForO, xiSeq, xVar, xDisp, List.map_cons, List.map_nil, xMakeL, xMakeNL, xCallW, xsRaise, xsTryAs, xhAsg, xhRet, xqP, xqFld, xqIs, xqIsT, xqAnd, xqOr, xqNot, xqLst, xqsNil, xqsCons, xmCallN, xmMake, xmMakeN, xmCallO, xmAppendR]
  exact (pss_cons (ps_set (i := 3) sc_law_draws.nd rfl (Or.inl rfl) pe_int)
      (pss_cons (ps_if (pt_cmpR (opLt hr.units0) (pv 1) (pe_callB call_lenA (by rfl) B.len (by decide +kernel) (pa_cons (pv 0) pa_nil)) (nomark _)) (pss_one (ps_set (i := 3) sc_law_draws.nd rfl (Or.inl rfl) (pe_callB call_absU (by rfl) B.abs (by decide +kernel) (pa_cons (pe_ix ixU (pv 0) (pv 1) (fun _ _ => rfl)) pa_nil)))) pss_nil)
      (pss_cons (ps_set (i := 4) sc_law_draws.nd rfl (Or.inl rfl) (pe_cmpR op_ge (pv 3) (pe_op op_pow pe_int pe_int) (nomark _)))
      (pss_cons (ps_set (i := 5) sc_law_draws.nd rfl (Or.inl rfl) (pe_lst pa_nil))
      (pss_cons (ps_for cx_po rfl (pi_range1 rfl B.range (pa_cons (pv 2) pa_nil)) (pg_name (i := 6) sc_law_draws.nd rfl (Or.inl rfl)) (pss_cons (ps_set (i := 7) sc_law_draws.nd rfl (Or.inl rfl) pe_int)
      (pss_cons (ps_if (pt_truU (pv 4)) (pss_cons (ps_set (i := 7) sc_law_draws.nd rfl (Or.inl rfl) (pe_op op_mod (pe_callTy call_intU (by rfl) B.int (by decide +kernel) (pa_cons (pv 3) pa_nil)) pe_int))
      (pss_one (ps_set (i := 3) sc_law_draws.nd rfl (Or.inl rfl) (pe_op opDiv (pv 3) pe_int)))) (pss_one (ps_if (pt_cmpR op_gt (pv 3) pe_int (nomark _)) (pss_cons (ps_set (i := 8) sc_law_draws.nd rfl (Or.inl rfl) (pe_op op_mod (pe_callTy call_intU (by rfl) B.int (by decide +kernel) (pa_cons (pe_op opAdd (pe_op opMul (pv 3) (pe_op opAdd pe_int (pe_op opMul pe_int (pv 6)))) (pe_op opMul pe_int (pv 6))) pa_nil)) pe_int))
      (pss_cons (ps_set (i := 8) sc_law_draws.nd rfl (Or.inl rfl) (pe_op op_mod (pe_callTy call_intU (by rfl) B.int (by decide +kernel) (pa_cons (pe_op opAdd (pe_op opAdd (pe_op opMul (pv 8) (pv 8)) (pe_op opMul pe_int (pv 6))) pe_int) pa_nil)) pe_int))
      (pss_one (ps_set (i := 7) sc_law_draws.nd rfl (Or.inl rfl) (pe_op op_mod (pe_callTy call_intU (by rfl) B.int (by decide +kernel) (pa_cons (pv 8) pa_nil)) pe_int))))) pss_nil)))
      (pss_one (ps_expr (pe_bm PySem.F.plainAttrs_list PySem.F.slot_list_append PySem.F.type_list_append mt_append (pv 5) (pa_cons (pv 7) pa_nil)))))))
      (pss_one (ps_ret (pv 5))))))))
theorem ok_law_classes {φ : Sem} {k : Nat} (D : Ds W mg base φ k) (C : Cs W mg) (D' : DefAt W.K mg "_law_classes" "_law_classes" s_law_classes [] []) (B : Blt mg) : ∀ b, (∀ i, b = some i → i < 1) → Df W.P W.w W.K mg base (L2.CX W.P W.w) (k + 4) "_law_classes" A_law_classes (spR W 1 (runFn 2 (b_law_classes W φ)) b) := by
  intro b hb
  refine df_of D' sc_law_classes bp_law_classes spR_len fun f cdv A outer s H vs Q E hr hsp => ⟨(b_law_classes W φ).t (fun c d _ H => E c d H), ?_, fn_run (N := N_law_classes) hb hsp⟩
  dsimp only [b_law_classes, xsSeq, xsNext, xsBreak, xsCont, xsNever, xsRetN, xsAsg, xsAsgG, xsExpr, xsRet, xsIf, xsFrz, xsFor, xsWhile, xsAug, xmP, xmVar, xmMove, xmBM, xmBM0, xmAppend, xmExtend, xmInsert, xmPop, xmReverse, xmClear, plVar, plFld, plIx, xoNil, xoCons, xVar, xC, xInt, xBl, xNon, xStr, xOp, xSub, xFz, xMul, xDiv, xMod, xPow, xNeg, xAdd, xEq, xNe, xLt, xCmp, xLe, xGt, xGe, xIsN, xNotN, xAnd, xOr, xNot, xChain, xChainI, xtV, xtTru, xtAnd, xtOr, xtNot, xtYes, xIf, xaNil, xaCons, xTup, xLst, xCb, xInt1, xAbs, xMax2, xMin2, xLen, xIx, xInE, xFld, xList, xTuple, xIsi, xIsiT, xCall, xgN, xgsNil, xgsCons, xgT, xiSeq, xiR1, xiR2, xiEnum, xiZip, xLc, xSorted, xMeth, xmMeth, xMake, xProp, xLenU, xmsNil, xmsCons, xmCallM, xtmT, xtmTru, xtmNot, xtmAnd, xtmOr, xsIfM, xmOpL, xsFld, xSl, tO, xSortedR, xListU, xiSeqU, xiEnumU, xiEnumT, xMakeB, tCls, xIxO, xEqO, xAddO, xMk0, xCon, xAndO, xSortSet, xCallB, xbNil, xbCons, xBest, xSum, xAddV, xSortedV, xsSet, xCallN, xMakeN, xCallL, xDnew, xDget2, xDix, xIn, xDin, tInK, xDlist, xDict, xDlen, xsDput, xsForD, xsLock, xiKeysL, xpLock, xLcD, xDc, xDcD, xsDapp, xpAlt, xsAlt, xsPar, xCallO, xsForO, xiSeq, xVar, xDisp, List.map_cons, List.map_nil, xMakeL, xMakeNL, xCallW, xsRaise, xsTryAs, xhAsg, xhRet, xqP, xqFld, xqIs, xqIsT, xqAnd, xqOr, xqNot, xqLst, xqsNil, xqsCons, xmCallN, xmMake, xmMakeN, xmCallO, xmAppendR]
  exact (pss_cons (ps_set (i := 1) sc_law_classes.nd rfl (Or.inl rfl) (pe_lst pa_nil))
      (pss_cons (ps_if (pt_truU (px_isiO B.isinstance C.has_Inner C.g_Inner (pv 0))) (pss_one (ps_expr (pe_bm PySem.F.plainAttrs_list PySem.F.slot_list_append PySem.F.type_list_append mt_append (pv 1) (pa_cons pe_str pa_nil)))) pss_nil)
      (pss_cons (ps_if (pt_truU (px_isiO B.isinstance C.has_LeftOuter C.g_LeftOuter (pv 0))) (pss_one (ps_expr (pe_bm PySem.F.plainAttrs_list PySem.F.slot_list_append PySem.F.type_list_append mt_append (pv 1) (pa_cons pe_str pa_nil)))) pss_nil)
      (pss_cons (ps_if (pt_truU (px_isiO B.isinstance C.has_RightOuter C.g_RightOuter (pv 0))) (pss_one (ps_expr (pe_bm PySem.F.plainAttrs_list PySem.F.slot_list_append PySem.F.type_list_append mt_append (pv 1) (pa_cons pe_str pa_nil)))) pss_nil)
      (pss_cons (ps_if (pt_truU (px_isiO B.isinstance C.has_FullOuter C.g_FullOuter (pv 0))) (pss_one (ps_expr (pe_bm PySem.F.plainAttrs_list PySem.F.slot_list_append PySem.F.type_list_append mt_append (pv 1) (pa_cons pe_str pa_nil)))) pss_nil)
      (pss_cons (ps_if (pt_truU (px_isiO B.isinstance C.has_Semi C.g_Semi (pv 0))) (pss_one (ps_expr (pe_bm PySem.F.plainAttrs_list PySem.F.slot_list_append PySem.F.type_list_append mt_append (pv 1) (pa_cons pe_str pa_nil)))) pss_nil)
      (pss_cons (ps_if (pt_truU (px_isiO B.isinstance C.has_Anti C.g_Anti (pv 0))) (pss_one (ps_expr (pe_bm PySem.F.plainAttrs_list PySem.F.slot_list_append PySem.F.type_list_append mt_append (pv 1) (pa_cons pe_str pa_nil)))) pss_nil)
      (pss_one (ps_ret (pv 1))))))))))
theorem ok_law_due {φ : Sem} {k : Nat} (D : Ds W mg base φ k) (C : Cs W mg) (D' : DefAt W.K mg "_law_due" "_law_due" s_law_due [] []) (B : Blt mg) : ∀ b, (∀ i, b = some i → i < 2) → Df W.P W.w W.K mg base (L2.CX W.P W.w) (k + 4) "_law_due" A_law_due (spR W 2 (runFn 5 (b_law_due W φ)) b) := by
  intro b hb
  refine df_of D' sc_law_due bp_law_due spR_len fun f cdv A outer s H vs Q E hr hsp => ⟨(b_law_due W φ).t (fun c d _ H => E c d H), ?_, fn_run (N := N_law_due) hb hsp⟩
  dsimp only [b_law_due, xsSeq, xsNext, xsBreak, xsCont, xsNever, xsRetN, xsAsg, xsAsgG, xsExpr, xsRet, xsIf, xsFrz, xsFor, xsWhile, xsAug, xmP, xmVar, xmMove, xmBM, xmBM0, xmAppend, xmExtend, xmInsert, xmPop, xmReverse, xmClear, plVar, plFld, plIx, xoNil, xoCons, xVar, xC, xInt, xBl, xNon, xStr, xOp, xSub, xFz, xMul, xDiv, xMod, xPow, xNeg, xAdd, xEq, xNe, xLt, xCmp, xLe, xGt, xGe, xIsN, xNotN, xAnd, xOr, xNot, xChain, xChainI, xtV, xtTru, xtAnd, xtOr, xtNot, xtYes, xIf, xaNil, xaCons, xTup, xLst, xCb, xInt1, xAbs, xMax2, xMin2, xLen, xIx, xInE, xFld, xList, xTuple, xIsi, xIsiT, xCall, xgN, xgsNil, xgsCons, xgT, xiSeq, xiR1, xiR2, xiEnum, xiZip, xLc, xSorted, xMeth, xmMeth, xMake, xProp, xLenU, xmsNil, xmsCons, xmCallM, xtmT, xtmTru, xtmNot, xtmAnd, xtmOr, xsIfM, xmOpL, xsFld, xSl, tO, xSortedR, xListU, xiSeqU, xiEnumU, xiEnumT, xMakeB, tCls, xIxO, xEqO, xAddO, xMk0, xCon, xAndO, xSortSet, xCallB, xbNil, xbCons, xBest, xSum, xAddV, xSortedV, xsSet, xCallN, xMakeN, xCallL, xDnew, xDget2, xDix, xIn, xDin, tInK, xDlist, xDict, xDlen, xsDput, xsForD, xsLock, xiKeysL, xpLock, xLcD, xDc, xDcD, xsDapp, xpAlt, xsAlt, xsPar, xCallO, xsForO, xiSeq, xVar, xDisp, List.map_cons, List.map_nil, xMakeL, xMakeNL, xCallW, xsRaise, xsTryAs, xhAsg, xhRet, xqP, xqFld, xqIs, xqIsT, xqAnd, xqOr, xqNot, xqLst, xqsNil, xqsCons, xmCallN, xmMake, xmMakeN, xmCallO, xmAppendR]
  exact (pss_cons (ps_set (i := 2) sc_law_due.nd rfl (Or.inl rfl) (pe_and (pe_cmpR (opNe hr.units) (pv 0) pe_str (nomark _)) (pe_one (pe_cmpR (opNe hr.units) (pv 0) pe_str (nomark _)))))
      (pss_cons (ps_set (i := 3) sc_law_due.nd rfl (Or.inl rfl) pe_bl)
      (pss_cons (ps_if (PW.pt (pw_or (pt_cmpR (opEq hr.units) (pv 0) pe_str (nomark _)) (pw_or (pt_cmpR (opEq hr.units) (pv 0) pe_str (nomark _)) (pw_or1 (pt_cmpR (opEq hr.units) (pv 0) pe_str (nomark _)))))) (pss_one (ps_set (i := 3) sc_law_due.nd rfl (Or.inl rfl) (pe_not (pv 1)))) pss_nil)
      (pss_cons (ps_if (pt_cmpR (opEq hr.units) (pv 0) pe_str (nomark _)) (pss_one (ps_set (i := 3) sc_law_due.nd rfl (Or.inl rfl) (pv 1))) pss_nil)
      (pss_cons (ps_set (i := 4) sc_law_due.nd rfl (Or.inl rfl) (pe_and (pe_or (pe_cmpR (opEq hr.units) (pv 0) pe_str (nomark _)) (pe_one (pe_cmpR (opEq hr.units) (pv 0) pe_str (nomark _)))) (pe_one (pe_not (pv 1)))))
      (pss_one (ps_ret (pe_lst (pa_cons (pv 2) (pa_cons (pv 3) (pa_cons (pv 4) pa_nil)))))))))))
theorem ok_law_is_kind {φ : Sem} {k : Nat} (D : Ds W mg base φ k) (C : Cs W mg) (D' : DefAt W.K mg "_law_is_kind" "_law_is_kind" s_law_is_kind [] []) (B : Blt mg) : ∀ b, (∀ i, b = some i → i < 2) → Df W.P W.w W.K mg base (L2.CX W.P W.w) (k + 4) "_law_is_kind" A_law_is_kind (spR W 2 (runFn 6 (b_law_is_kind W φ)) b) := by
  intro b hb
  refine df_of D' sc_law_is_kind bp_law_is_kind spR_len fun f cdv A outer s H vs Q E hr hsp => ⟨(b_law_is_kind W φ).t (fun c d _ H => E c d H), ?_, fn_run (N := N_law_is_kind) hb hsp⟩
  dsimp only [b_law_is_kind, l1_law_is_kind, l2_law_is_kind, xsSeq, xsNext, xsBreak, xsCont, xsNever, xsRetN, xsAsg, xsAsgG, xsExpr, xsRet, xsIf, xsFrz, xsFor, xsWhile, xsAug, xmP, xmVar, xmMove, xmBM, xmBM0, xmAppend, xmExtend, xmInsert, xmPop, xmReverse, xmClear, plVar, plFld, plIx, xoNil, xoCons, xVar, xC, xInt, xBl, xNon, xStr, xOp, xSub, xFz, xMul, xDiv, xMod, xPow, xNeg, xAdd, xEq, xNe, xLt, xCmp, xLe, xGt, xGe, xIsN, xNotN, xAnd, xOr, xNot, xChain, xChainI, xtV, xtTru, xtAnd, xtOr, xtNot, xtYes, xIf, xaNil, xaCons, xTup, xLst, xCb, xInt1, xAbs, xMax2, xMin2, xLen, xIx, xInE, xFld, xList, xTuple, xIsi, xIsiT, xCall, xgN, xgsNil, xgsCons, xgT, xiSeq, xiR1, xiR2, xiEnum, xiZip, xLc, xSorted, xMeth, xmMeth, xMake, xProp, xLenU, xmsNil, xmsCons, xmCallM, xtmT, xtmTru, xtmNot, xtmAnd, xtmOr, xsIfM, xmOpL, xsFld, xSl, tO, xSortedR, xListU, xiSeqU, xiEnumU, xiEnumT, xMakeB, tCls, xIxO, xEqO, xAddO, xMk0, xCon, xAndO, xSortSet, xCallB, xbNil, xbCons, xBest, xSum, xAddV, xSortedV, xsSet, xCallN, xMakeN, xCallL, xDnew, xDget2, xDix, xIn, xDin, tInK, xDlist, xDict, xDlen, xsDput, xsForD, xsLock, xiKeysL, xpLock, xLcD, xDc, xDcD, xsDapp, xpAlt, xsAlt, xsPar, xCallO, xsForO, xiSeq, xVar, xDisp, List.map_cons, List.map_nil, xMakeL, xMakeNL, xCallW, xsRaise, xsTryAs, xhAsg, xhRet, xqP, xqFld, xqIs, xqIsT, xqAnd, xqOr, xqNot, xqLst, xqsNil, xqsCons, xmCallN, xmMake, xmMakeN, xmCallO, xmAppendR]
  exact (pss_cons (ps_set (i := 2) sc_law_is_kind.nd rfl (Or.inl rfl) (pe_disp (pps_cons pe_str (pe_lst (pa_cons pe_str pa_nil)) (pps_cons pe_str (pe_lst (pa_cons pe_str (pa_cons pe_str pa_nil))) (pps_cons pe_str (pe_lst (pa_cons pe_str (pa_cons pe_str pa_nil))) pps_nil))) rfl rfl (by simp) (by decide)))
      (pss_cons (ps_asg (pe_lst (pa_cons pe_str (pa_cons pe_str (pa_cons pe_str pa_nil)))) (pg_sub (pv 2) pe_str (set_dict (hu1 hr))))
      (pss_cons (ps_asg (pe_lst (pa_cons pe_str (pa_cons pe_str pa_nil))) (pg_sub (pv 2) pe_str (set_dict (hu1 hr))))
      (pss_cons (ps_asg (pe_lst (pa_cons pe_str (pa_cons pe_str (pa_cons pe_str pa_nil)))) (pg_sub (pv 2) pe_str (set_dict (hu1 hr))))
      (pss_cons (ps_if (PW.pt (pw_or (pt_cmpR (opNe hr.units) (px_call (D.d_law_classes none (by nofun)) (ro0 hr) rfl (pa_cons (pv 0) pa_nil)) (pe_dget (hu1 hr) (pv 2) (pv 1) (fun _ _ => rfl)) (nomark _)) (pw_or (pt_not (pt_truU (px_isi (n := "str") B.isinstance B.str (pe_imp C.con_WORD (pe_con (pv 0) rfl))))) (pw_or1 (pt_cmpR (opNe hr.units) (pe_imp C.con_WORD (pe_con (pv 0) rfl)) (pv 1) (nomark _)))))) (pss_one (ps_ret pe_bl)) pss_nil)
      (pss_cons (ps_for cx_po rfl (pi_seqU (pe_lst (pa_cons pe_bl (pa_cons pe_bl (pa_cons pe_bl pa_nil))))) (pg_name (i := 3) sc_law_is_kind.nd rfl (Or.inl rfl)) (pss_cons (ps_set (i := 4) sc_law_is_kind.nd rfl (Or.inl rfl) (pe_lst (pa_cons (px_meth0 (D.m_pairs none (by nofun)) (ro0 hr) rfl (pv 0)) (pa_cons (px_meth (D.m_left_alone none (by nofun)) (ro0 hr) rfl (pv 0) (pa_cons (pv 3) pa_nil)) (pa_cons (px_meth (D.m_right_alone none (by nofun)) (ro0 hr) rfl (pv 0) (pa_cons (pv 3) pa_nil)) pa_nil)))))
      (pss_cons (ps_for cx_po rfl (pi_seqU (pv 4)) (pg_name (i := 5) sc_law_is_kind.nd rfl (Or.inl rfl)) (pss_one (ps_if (pt_not (pt_truU (px_isi (n := "bool") B.isinstance B.bool (pv 5)))) (pss_one (ps_ret pe_bl)) pss_nil)))
      (pss_one (ps_if (pt_cmpR (opNe hr.units) (pv 4) (px_call (D.d_law_due none (by nofun)) (ro0 hr) rfl (pa_cons (pv 1) (pa_cons (pv 3) pa_nil))) (nomark _)) (pss_one (ps_ret pe_bl)) pss_nil)))))
      (pss_one (ps_ret pe_bl))))))))
theorem ok_Inner_pairs {φ : Sem} {k : Nat} (D : Ds W mg base φ k) (C : Cs W mg) {C0 : Addr} (D' : MethAt W.K C0 "pairs" "pairs" "Inner.pairs" s_Inner_pairs [] []) (B : Blt mg) : ∀ b, (∀ i, b = some i → i < 1) → MdOk W.P W.w W.K mg base (k + 4) C0 "pairs" 1 (spR W 1 (runFn 1 (b_Inner_pairs W φ)) b) := by
  intro b hb
  refine md_of D' sc_Inner_pairs bp_Inner_pairs rfl spR_len fun f cdv A outer s H vs Q E hr hsp => ⟨(b_Inner_pairs W φ).t (fun c d _ H => E c d H), ?_, fn_run (N := N_Inner_pairs) hb hsp⟩
  dsimp only [b_Inner_pairs, xsSeq, xsNext, xsBreak, xsCont, xsNever, xsRetN, xsAsg, xsAsgG, xsExpr, xsRet, xsIf, xsFrz, xsFor, xsWhile, xsAug, xmP, xmVar, xmMove, xmBM, xmBM0, xmAppend, xmExtend, xmInsert, xmPop, xmReverse, xmClear, plVar, plFld, plIx, xoNil, xoCons, xVar, xC, xInt, xBl, xNon, xStr, xOp, xSub, xFz, xMul, xDiv, xMod, xPow, xNeg, xAdd, xEq, xNe, xLt, xCmp, xLe, xGt, xGe, xIsN, xNotN, xAnd, xOr, xNot, xChain, xChainI, xtV, xtTru, xtAnd, xtOr, xtNot, xtYes, xIf, xaNil, xaCons, xTup, xLst, xCb, xInt1, xAbs, xMax2, xMin2, xLen, xIx, xInE, xFld, xList, xTuple, xIsi, xIsiT, xCall, xgN, xgsNil, xgsCons, xgT, xiSeq, xiR1, xiR2, xiEnum, xiZip, xLc, xSorted, xMeth, xmMeth, xMake, xProp, xLenU, xmsNil, xmsCons, xmCallM, xtmT, xtmTru, xtmNot, xtmAnd, xtmOr, xsIfM, xmOpL, xsFld, xSl, tO, xSortedR, xListU, xiSeqU, xiEnumU, xiEnumT, xMakeB, tCls, xIxO, xEqO, xAddO, xMk0, xCon, xAndO, xSortSet, xCallB, xbNil, xbCons, xBest, xSum, xAddV, xSortedV, xsSet, xCallN, xMakeN, xCallL, xDnew, xDget2, xDix, xIn, xDin, tInK, xDlist, xDict, xDlen, xsDput, xsForD, xsLock, xiKeysL, xpLock, xLcD, xDc, xDcD, xsDapp, xpAlt, xsAlt, xsPar, xCallO, xsForO, xiSeq, xVar, xDisp, List.map_cons, List.map_nil, xMakeL, xMakeNL, xCallW, xsRaise, xsTryAs, xhAsg, xhRet, xqP, xqFld, xqIs, xqIsT, xqAnd, xqOr, xqNot, xqLst, xqsNil, xqsCons, xmCallN, xmMake, xmMakeN, xmCallO, xmAppendR]
  exact (pss_one (ps_ret pe_bl))
theorem ok_Inner_left_alone {φ : Sem} {k : Nat} (D : Ds W mg base φ k) (C : Cs W mg) {C0 : Addr} (D' : MethAt W.K C0 "left_alone" "left_alone" "Inner.left_alone" s_Inner_left_alone [] []) (B : Blt mg) : ∀ b, (∀ i, b = some i → i < 2) → MdOk W.P W.w W.K mg base (k + 4) C0 "left_alone" 2 (spR W 2 (runFn 2 (b_Inner_left_alone W φ)) b) := by
  intro b hb
  refine md_of D' sc_Inner_left_alone bp_Inner_left_alone rfl spR_len fun f cdv A outer s H vs Q E hr hsp => ⟨(b_Inner_left_alone W φ).t (fun c d _ H => E c d H), ?_, fn_run (N := N_Inner_left_alone) hb hsp⟩
  dsimp only [b_Inner_left_alone, xsSeq, xsNext, xsBreak, xsCont, xsNever, xsRetN, xsAsg, xsAsgG, xsExpr, xsRet, xsIf, xsFrz, xsFor, xsWhile, xsAug, xmP, xmVar, xmMove, xmBM, xmBM0, xmAppend, xmExtend, xmInsert, xmPop, xmReverse, xmClear, plVar, plFld, plIx, xoNil, xoCons, xVar, xC, xInt, xBl, xNon, xStr, xOp, xSub, xFz, xMul, xDiv, xMod, xPow, xNeg, xAdd, xEq, xNe, xLt, xCmp, xLe, xGt, xGe, xIsN, xNotN, xAnd, xOr, xNot, xChain, xChainI, xtV, xtTru, xtAnd, xtOr, xtNot, xtYes, xIf, xaNil, xaCons, xTup, xLst, xCb, xInt1, xAbs, xMax2, xMin2, xLen, xIx, xInE, xFld, xList, xTuple, xIsi, xIsiT, xCall, xgN, xgsNil, xgsCons, xgT, xiSeq, xiR1, xiR2, xiEnum, xiZip, xLc, xSorted, xMeth, xmMeth, xMake, xProp, xLenU, xmsNil, xmsCons, xmCallM, xtmT, xtmTru, xtmNot, xtmAnd, xtmOr, xsIfM, xmOpL, xsFld, xSl, tO, xSortedR, xListU, xiSeqU, xiEnumU, xiEnumT, xMakeB, tCls, xIxO, xEqO, xAddO, xMk0, xCon, xAndO, xSortSet, xCallB, xbNil, xbCons, xBest, xSum, xAddV, xSortedV, xsSet, xCallN, xMakeN, xCallL, xDnew, xDget2, xDix, xIn, xDin, tInK, xDlist, xDict, xDlen, xsDput, xsForD, xsLock, xiKeysL, xpLock, xLcD, xDc, xDcD, xsDapp, xpAlt, xsAlt, xsPar, xCallO, xsForO, xiSeq, xVar, xDisp, List.map_cons, List.map_nil, xMakeL, xMakeNL, xCallW, xsRaise, xsTryAs, xhAsg, xhRet, xqP, xqFld, xqIs, xqIsT, xqAnd, xqOr, xqNot, xqLst, xqsNil, xqsCons, xmCallN, xmMake, xmMakeN, xmCallO, xmAppendR]
  exact (pss_one (ps_ret pe_bl))
theorem ok_Inner_right_alone {φ : Sem} {k : Nat} (D : Ds W mg base φ k) (C : Cs W mg) {C0 : Addr} (D' : MethAt W.K C0 "right_alone" "right_alone" "Inner.right_alone" s_Inner_right_alone [] []) (B : Blt mg) : ∀ b, (∀ i, b = some i → i < 2) → MdOk W.P W.w W.K mg base (k + 4) C0 "right_alone" 2 (spR W 2 (runFn 2 (b_Inner_right_alone W φ)) b) := by
  intro b hb
  refine md_of D' sc_Inner_right_alone bp_Inner_right_alone rfl spR_len fun f cdv A outer s H vs Q E hr hsp => ⟨(b_Inner_right_alone W φ).t (fun c d _ H => E c d H), ?_, fn_run (N := N_Inner_right_alone) hb hsp⟩
  dsimp only [b_Inner_right_alone, xsSeq, xsNext, xsBreak, xsCont, xsNever, xsRetN, xsAsg, xsAsgG, xsExpr, xsRet, xsIf, xsFrz, xsFor, xsWhile, xsAug, xmP, xmVar, xmMove, xmBM, xmBM0, xmAppend, xmExtend, xmInsert, xmPop, xmReverse, xmClear, plVar, plFld, plIx, xoNil, xoCons, xVar, xC, xInt, xBl, xNon, xStr, xOp, xSub, xFz, xMul, xDiv, xMod, xPow, xNeg, xAdd, xEq, xNe, xLt, xCmp, xLe, xGt, xGe, xIsN, xNotN, xAnd, xOr, xNot, xChain, xChainI, xtV, xtTru, xtAnd, xtOr, xtNot, xtYes, xIf, xaNil, xaCons, xTup, xLst, xCb, xInt1, xAbs, xMax2, xMin2, xLen, xIx, xInE, xFld, xList, xTuple, xIsi, xIsiT, xCall, xgN, xgsNil, xgsCons, xgT, xiSeq, xiR1, xiR2, xiEnum, xiZip, xLc, xSorted, xMeth, xmMeth, xMake, xProp, xLenU, xmsNil, xmsCons, xmCallM, xtmT, xtmTru, xtmNot, xtmAnd, xtmOr, xsIfM, xmOpL, xsFld, xSl, tO, xSortedR, xListU, xiSeqU, xiEnumU, xiEnumT, xMakeB, tCls, xIxO, xEqO, xAddO, xMk0, xCon, xAndO, xSortSet, xCallB, xbNil, xbCons, xBest, xSum, xAddV, xSortedV, xsSet, xCallN, xMakeN, xCallL, xDnew, xDget2, xDix, xIn, xDin, tInK, xDlist, xDict, xDlen, xsDput, xsForD, xsLock, xiKeysL, xpLock, xLcD, xDc, xDcD, xsDapp, xpAlt, xsAlt, xsPar, xCallO, xsForO, xiSeq, xVar, xDisp, List.map_cons, List.map_nil, xMakeL, xMakeNL, xCallW, xsRaise, xsTryAs, xhAsg, xhRet, xqP, xqFld, xqIs, xqIsT, xqAnd, xqOr, xqNot, xqLst, xqsNil, xqsCons, xmCallN, xmMake, xmMakeN, xmCallO, xmAppendR]
  exact (pss_one (ps_ret pe_bl))
theorem ok_LeftOuter_left_alone {φ : Sem} {k : Nat} (D : Ds W mg base φ k) (C : Cs W mg) {C0 : Addr} (D' : SupAt W.P W.K C0 "left_alone" "LeftOuter.left_alone" s_LeftOuter_left_alone (W.cA "LeftOuter")) (B : Blt mg) : ∀ b, (∀ i, b = some i → i < 2) → MdOk W.P W.w W.K mg base (k + 4) C0 "left_alone" 2 (spR W 2 (runSupOr φ r_LeftOuter_left_alone) b) := by
  intro b hb
  refine mdk_mono (md_sup (isOr := true) (r := r_LeftOuter_left_alone) (φ := φ) D' rfl ns_LeftOuter_left_alone (by decide +kernel) bs_LeftOuter_left_alone (fun _ _ _ _ => ⟨_, rfl⟩) B.super C.opq (by decide) (supM_of (fun c nm hc hr => ?_) (D.m_left_alone none (by nofun))) (fun ds bo h => supOr_ok h)) (by omega)
  have hm := C.hasL c hc
  simp only [clsL, List.mem_cons, List.not_mem_nil, or_false] at hm
  rcases hm with rfl | rfl | rfl | rfl | rfl | rfl
  · simp [r_LeftOuter_left_alone] at hr
  · obtain rfl : "Inner.left_alone" = nm := by simpa [r_LeftOuter_left_alone] using hr
    exact ⟨"Inner", C.sc_LeftOuter_left_alone, C.has_Inner, rs_Inner_left_alone⟩
  · simp [r_LeftOuter_left_alone] at hr
  · obtain rfl : "Inner.left_alone" = nm := by simpa [r_LeftOuter_left_alone] using hr
    exact ⟨"Inner", C.sc_FullOuter_left_alone, C.has_Inner, rs_Inner_left_alone⟩
  · simp [r_LeftOuter_left_alone] at hr
  · simp [r_LeftOuter_left_alone] at hr
theorem ok_RightOuter_right_alone {φ : Sem} {k : Nat} (D : Ds W mg base φ k) (C : Cs W mg) {C0 : Addr} (D' : SupAt W.P W.K C0 "right_alone" "RightOuter.right_alone" s_RightOuter_right_alone (W.cA "RightOuter")) (B : Blt mg) : ∀ b, (∀ i, b = some i → i < 2) → MdOk W.P W.w W.K mg base (k + 4) C0 "right_alone" 2 (spR W 2 (runSupOr φ r_RightOuter_right_alone) b) := by
  intro b hb
  refine mdk_mono (md_sup (isOr := true) (r := r_RightOuter_right_alone) (φ := φ) D' rfl ns_RightOuter_right_alone (by decide +kernel) bs_RightOuter_right_alone (fun _ _ _ _ => ⟨_, rfl⟩) B.super C.opq (by decide) (supM_of (fun c nm hc hr => ?_) (D.m_right_alone none (by nofun))) (fun ds bo h => supOr_ok h)) (by omega)
  have hm := C.hasL c hc
  simp only [clsL, List.mem_cons, List.not_mem_nil, or_false] at hm
  rcases hm with rfl | rfl | rfl | rfl | rfl | rfl
  · simp [r_RightOuter_right_alone] at hr
  · simp [r_RightOuter_right_alone] at hr
  · obtain rfl : "Inner.right_alone" = nm := by simpa [r_RightOuter_right_alone] using hr
    exact ⟨"Inner", C.sc_RightOuter_right_alone, C.has_Inner, rs_Inner_right_alone⟩
  · simp [r_RightOuter_right_alone] at hr
  · simp [r_RightOuter_right_alone] at hr
  · simp [r_RightOuter_right_alone] at hr
theorem ok_FullOuter_right_alone {φ : Sem} {k : Nat} (D : Ds W mg base φ k) (C : Cs W mg) {C0 : Addr} (D' : SupAt W.P W.K C0 "right_alone" "FullOuter.right_alone" s_FullOuter_right_alone (W.cA "FullOuter")) (B : Blt mg) : ∀ b, (∀ i, b = some i → i < 2) → MdOk W.P W.w W.K mg base (k + 4) C0 "right_alone" 2 (spR W 2 (runSupOr φ r_FullOuter_right_alone) b) := by
  intro b hb
  refine mdk_mono (md_sup (isOr := true) (r := r_FullOuter_right_alone) (φ := φ) D' rfl ns_FullOuter_right_alone (by decide +kernel) bs_FullOuter_right_alone (fun _ _ _ _ => ⟨_, rfl⟩) B.super C.opq (by decide) (supM_of (fun c nm hc hr => ?_) (D.m_right_alone none (by nofun))) (fun ds bo h => supOr_ok h)) (by omega)
  have hm := C.hasL c hc
  simp only [clsL, List.mem_cons, List.not_mem_nil, or_false] at hm
  rcases hm with rfl | rfl | rfl | rfl | rfl | rfl
  · simp [r_FullOuter_right_alone] at hr
  · simp [r_FullOuter_right_alone] at hr
  · simp [r_FullOuter_right_alone] at hr
  · obtain rfl : "Inner.right_alone" = nm := by simpa [r_FullOuter_right_alone] using hr
    exact ⟨"Inner", C.sc_FullOuter_right_alone, C.has_Inner, rs_Inner_right_alone⟩
  · simp [r_FullOuter_right_alone] at hr
  · simp [r_FullOuter_right_alone] at hr
theorem ok_Semi_pairs {φ : Sem} {k : Nat} (D : Ds W mg base φ k) (C : Cs W mg) {C0 : Addr} (D' : MethAt W.K C0 "pairs" "pairs" "Semi.pairs" s_Semi_pairs [] []) (B : Blt mg) : ∀ b, (∀ i, b = some i → i < 1) → MdOk W.P W.w W.K mg base (k + 4) C0 "pairs" 1 (spR W 1 (runFn 1 (b_Semi_pairs W φ)) b) := by
  intro b hb
  refine md_of D' sc_Semi_pairs bp_Semi_pairs rfl spR_len fun f cdv A outer s H vs Q E hr hsp => ⟨(b_Semi_pairs W φ).t (fun c d _ H => E c d H), ?_, fn_run (N := N_Semi_pairs) hb hsp⟩
  dsimp only [b_Semi_pairs, xsSeq, xsNext, xsBreak, xsCont, xsNever, xsRetN, xsAsg, xsAsgG, xsExpr, xsRet, xsIf, xsFrz, xsFor, xsWhile, xsAug, xmP, xmVar, xmMove, xmBM, xmBM0, xmAppend, xmExtend, xmInsert, xmPop, xmReverse, xmClear, plVar, plFld, plIx, xoNil, xoCons, xVar, xC, xInt, xBl, xNon, xStr, xOp, xSub, xFz, xMul, xDiv, xMod, xPow, xNeg, xAdd, xEq, xNe, xLt, xCmp, xLe, xGt, xGe, xIsN, xNotN, xAnd, xOr, xNot, xChain, xChainI, xtV, xtTru, xtAnd, xtOr, xtNot, xtYes, xIf, xaNil, xaCons, xTup, xLst, xCb, xInt1, xAbs, xMax2, xMin2, xLen, xIx, xInE, xFld, xList, xTuple, xIsi, xIsiT, xCall, xgN, xgsNil, xgsCons, xgT, xiSeq, xiR1, xiR2, xiEnum, xiZip, xLc, xSorted, xMeth, xmMeth, xMake, xProp, xLenU, xmsNil, xmsCons, xmCallM, xtmT, xtmTru, xtmNot, xtmAnd, xtmOr, xsIfM, xmOpL, xsFld, xSl, tO, xSortedR, xListU, xiSeqU, xiEnumU, xiEnumT, xMakeB, tCls, xIxO, xEqO, xAddO, xMk0, xCon, xAndO, xSortSet, xCallB, xbNil, xbCons, xBest, xSum, xAddV, xSortedV, xsSet, xCallN, xMakeN, xCallL, xDnew, xDget2, xDix, xIn, xDin, tInK, xDlist, xDict, xDlen, xsDput, xsForD, xsLock, xiKeysL, xpLock, xLcD, xDc, xDcD, xsDapp, xpAlt, xsAlt, xsPar, xCallO, xsForO, xiSeq, xVar, xDisp, List.map_cons, List.map_nil, xMakeL, xMakeNL, xCallW, xsRaise, xsTryAs, xhAsg, xhRet, xqP, xqFld, xqIs, xqIsT, xqAnd, xqOr, xqNot, xqLst, xqsNil, xqsCons, xmCallN, xmMake, xmMakeN, xmCallO, xmAppendR]
  exact (pss_one (ps_ret pe_bl))
theorem ok_Semi_left_alone {φ : Sem} {k : Nat} (D : Ds W mg base φ k) (C : Cs W mg) {C0 : Addr} (D' : MethAt W.K C0 "left_alone" "left_alone" "Semi.left_alone" s_Semi_left_alone [] []) (B : Blt mg) : ∀ b, (∀ i, b = some i → i < 2) → MdOk W.P W.w W.K mg base (k + 4) C0 "left_alone" 2 (spR W 2 (runFn 2 (b_Semi_left_alone W φ)) b) := by
  intro b hb
  refine md_of D' sc_Semi_left_alone bp_Semi_left_alone rfl spR_len fun f cdv A outer s H vs Q E hr hsp => ⟨(b_Semi_left_alone W φ).t (fun c d _ H => E c d H), ?_, fn_run (N := N_Semi_left_alone) hb hsp⟩
  dsimp only [b_Semi_left_alone, xsSeq, xsNext, xsBreak, xsCont, xsNever, xsRetN, xsAsg, xsAsgG, xsExpr, xsRet, xsIf, xsFrz, xsFor, xsWhile, xsAug, xmP, xmVar, xmMove, xmBM, xmBM0, xmAppend, xmExtend, xmInsert, xmPop, xmReverse, xmClear, plVar, plFld, plIx, xoNil, xoCons, xVar, xC, xInt, xBl, xNon, xStr, xOp, xSub, xFz, xMul, xDiv, xMod, xPow, xNeg, xAdd, xEq, xNe, xLt, xCmp, xLe, xGt, xGe, xIsN, xNotN, xAnd, xOr, xNot, xChain, xChainI, xtV, xtTru, xtAnd, xtOr, xtNot, xtYes, xIf, xaNil, xaCons, xTup, xLst, xCb, xInt1, xAbs, xMax2, xMin2, xLen, xIx, xInE, xFld, xList, xTuple, xIsi, xIsiT, xCall, xgN, xgsNil, xgsCons, xgT, xiSeq, xiR1, xiR2, xiEnum, xiZip, xLc, xSorted, xMeth, xmMeth, xMake, xProp, xLenU, xmsNil, xmsCons, xmCallM, xtmT, xtmTru, xtmNot, xtmAnd, xtmOr, xsIfM, xmOpL, xsFld, xSl, tO, xSortedR, xListU, xiSeqU, xiEnumU, xiEnumT, xMakeB, tCls, xIxO, xEqO, xAddO, xMk0, xCon, xAndO, xSortSet, xCallB, xbNil, xbCons, xBest, xSum, xAddV, xSortedV, xsSet, xCallN, xMakeN, xCallL, xDnew, xDget2, xDix, xIn, xDin, tInK, xDlist, xDict, xDlen, xsDput, xsForD, xsLock, xiKeysL, xpLock, xLcD, xDc, xDcD, xsDapp, xpAlt, xsAlt, xsPar, xCallO, xsForO, xiSeq, xVar, xDisp, List.map_cons, List.map_nil, xMakeL, xMakeNL, xCallW, xsRaise, xsTryAs, xhAsg, xhRet, xqP, xqFld, xqIs, xqIsT, xqAnd, xqOr, xqNot, xqLst, xqsNil, xqsCons, xmCallN, xmMake, xmMakeN, xmCallO, xmAppendR]
  exact (pss_one (ps_ret (pv 1)))
theorem ok_Anti_left_alone {φ : Sem} {k : Nat} (D : Ds W mg base φ k) (C : Cs W mg) {C0 : Addr} (D' : SupAt W.P W.K C0 "left_alone" "Anti.left_alone" s_Anti_left_alone (W.cA "Anti")) (B : Blt mg) : ∀ b, (∀ i, b = some i → i < 2) → MdOk W.P W.w W.K mg base (k + 4) C0 "left_alone" 2 (spR W 2 (runSupNot φ r_Anti_left_alone) b) := by
  intro b hb
  refine mdk_mono (md_sup (isOr := false) (p5 := ⟨0, 0, 0, 0⟩) (p6 := ⟨0, 0, 0, 0⟩) (r := r_Anti_left_alone) (φ := φ) D' rfl ns_Anti_left_alone (by decide +kernel) bs_Anti_left_alone (fun _ _ _ _ => ⟨_, rfl⟩) B.super C.opq (by decide) (supM_of (fun c nm hc hr => ?_) (D.m_left_alone none (by nofun))) (fun ds bo h => supNot_ok h)) (by omega)
  have hm := C.hasL c hc
  simp only [clsL, List.mem_cons, List.not_mem_nil, or_false] at hm
  rcases hm with rfl | rfl | rfl | rfl | rfl | rfl
  · simp [r_Anti_left_alone] at hr
  · simp [r_Anti_left_alone] at hr
  · simp [r_Anti_left_alone] at hr
  · simp [r_Anti_left_alone] at hr
  · simp [r_Anti_left_alone] at hr
  · obtain rfl : "Semi.left_alone" = nm := by simpa [r_Anti_left_alone] using hr
    exact ⟨"Semi", C.sc_Anti_left_alone, C.has_Semi, rs_Semi_left_alone⟩
theorem ok_law {φ : Sem} {k : Nat} (D : Ds W mg base φ k) (C : Cs W mg) {f0 : Addr} {fd0 : FuncData} (F0 : FunD W.K "law" "law" (defArgs s_law) (defBody s_law) (defScope s_law) [] [] f0 fd0) (B : Blt mg) (hL : ∀ vs H Q E, spL W.K vs H Q E → spR W 1 (runFn 10 (b_law W φ)) none vs H Q E) : FnOk W.P W.w W.K mg base CX0 (k + 4) f0 fd0 A_law (spL W.K) := by
  refine lw_of F0 sc_law spL_len fun f cdv A outer s H vs Q E hr hsp => ⟨(b_law W φ).t (fun c d _ H => E0 c d H), ?_, fn_run (N := N_law) (by intro i h; cases h) (hL vs H Q E0 hsp)⟩
  dsimp only [b_law, xsSeq, xsNext, xsBreak, xsCont, xsNever, xsRetN, xsAsg, xsAsgG, xsExpr, xsRet, xsIf, xsFrz, xsFor, xsWhile, xsAug, xmP, xmVar, xmMove, xmBM, xmBM0, xmAppend, xmExtend, xmInsert, xmPop, xmReverse, xmClear, plVar, plFld, plIx, xoNil, xoCons, xVar, xC, xInt, xBl, xNon, xStr, xOp, xSub, xFz, xMul, xDiv, xMod, xPow, xNeg, xAdd, xEq, xNe, xLt, xCmp, xLe, xGt, xGe, xIsN, xNotN, xAnd, xOr, xNot, xChain, xChainI, xtV, xtTru, xtAnd, xtOr, xtNot, xtYes, xIf, xaNil, xaCons, xTup, xLst, xCb, xInt1, xAbs, xMax2, xMin2, xLen, xIx, xInE, xFld, xList, xTuple, xIsi, xIsiT, xCall, xgN, xgsNil, xgsCons, xgT, xiSeq, xiR1, xiR2, xiEnum, xiZip, xLc, xSorted, xMeth, xmMeth, xMake, xProp, xLenU, xmsNil, xmsCons, xmCallM, xtmT, xtmTru, xtmNot, xtmAnd, xtmOr, xsIfM, xmOpL, xsFld, xSl, tO, xSortedR, xListU, xiSeqU, xiEnumU, xiEnumT, xMakeB, tCls, xIxO, xEqO, xAddO, xMk0, xCon, xAndO, xSortSet, xCallB, xbNil, xbCons, xBest, xSum, xAddV, xSortedV, xsSet, xCallN, xMakeN, xCallL, xDnew, xDget2, xDix, xIn, xDin, tInK, xDlist, xDict, xDlen, xsDput, xsForD, xsLock, xiKeysL, xpLock, xLcD, xDc, xDcD, xsDapp, xpAlt, xsAlt, xsPar, xCallO, xsForO, xiSeq, xVar, xDisp, List.map_cons, List.map_nil, xMakeL, xMakeNL, xCallW, xsRaise, xsTryAs, xhAsg, xhRet, xqP, xqFld, xqIs, xqIsT, xqAnd, xqOr, xqNot, xqLst, xqsNil, xqsCons, xmCallN, xmMake, xmMakeN, xmCallO, xmAppendR]
  exact (pss_cons (ps_set (i := 1) sc_law.nd rfl (Or.inl rfl) (px_call (D.d_law_draws none (by nofun)) (ro0 hr) rfl (pa_cons (pv 0) (pa_cons pe_int (pa_cons pe_int pa_nil)))))
      (pss_cons (ps_set (i := 2) sc_law.nd rfl (Or.inl rfl) (pe_lst (pa_cons pe_str (pa_cons pe_str (pa_cons pe_str (pa_cons pe_str (pa_cons pe_str (pa_cons pe_str pa_nil))))))))
      (pss_cons (ps_set (i := 3) sc_law.nd rfl (Or.inl rfl) (pe_ix ixU (pv 2) (pe_op op_mod (pe_callTy call_intU (by rfl) B.int (by decide +kernel) (pa_cons (pe_ix ixU (pv 1) pe_int (fun _ _ => rfl)) pa_nil)) pe_int) (fun _ _ => rfl)))
      (pss_cons (ps_if (pt_not (pt_truU (px_call (D.d_law_is_kind none (by nofun)) (ro0 hr) rfl (pa_cons (px_call (D.d_kind_named none (by nofun)) (ro0 hr) rfl (pa_cons (pv 3) pa_nil)) (pa_cons (pv 3) pa_nil))))) (pss_one (ps_ret pe_bl)) pss_nil)
      (pss_cons (ps_set (i := 4) sc_law.nd rfl (Or.inl rfl) (pe_lst (pa_cons (px_mk0 C.k0_Inner C.has_Inner (by rfl) C.g_Inner) (pa_cons (px_mk0 C.k0_LeftOuter C.has_LeftOuter (by rfl) C.g_LeftOuter) (pa_cons (px_mk0 C.k0_RightOuter C.has_RightOuter (by rfl) C.g_RightOuter) (pa_cons (px_mk0 C.k0_FullOuter C.has_FullOuter (by rfl) C.g_FullOuter) (pa_cons (px_mk0 C.k0_Semi C.has_Semi (by rfl) C.g_Semi) (pa_cons (px_mk0 C.k0_Anti C.has_Anti (by rfl) C.g_Anti) pa_nil))))))))
      (pss_cons (ps_if (pt_not (pt_truU (px_call (D.d_law_is_kind none (by nofun)) (ro0 hr) rfl (pa_cons (pe_ix ixU (pv 4) (pe_op op_mod (pe_callTy call_intU (by rfl) B.int (by decide +kernel) (pa_cons (pe_ix ixU (pv 1) pe_int (fun _ _ => rfl)) pa_nil)) pe_int) (fun _ _ => rfl)) (pa_cons (pe_ix ixU (pv 2) (pe_op op_mod (pe_callTy call_intU (by rfl) B.int (by decide +kernel) (pa_cons (pe_ix ixU (pv 1) pe_int (fun _ _ => rfl)) pa_nil)) pe_int) (fun _ _ => rfl)) pa_nil))))) (pss_one (ps_ret pe_bl)) pss_nil)
      (pss_cons (ps_if (pt_cmpR (opNe hr.units) (pe_op op_mod (pe_callTy call_intU (by rfl) B.int (by decide +kernel) (pa_cons (pe_ix ixU (pv 1) pe_int (fun _ _ => rfl)) pa_nil)) pe_int) pe_int (nomark _)) (pss_one (ps_ret pe_bl)) pss_nil)
      (pss_cons (ps_set (i := 5) sc_law.nd rfl (Or.inl rfl) (pe_lst (pa_cons pe_str (pa_cons pe_str (pa_cons pe_str (pa_cons pe_str (pa_cons pe_str (pa_cons pe_non (pa_cons pe_bl (pa_cons pe_int (pa_cons (pe_lst (pa_cons pe_str pa_nil)) (pa_cons (pe_tup (pa_cons pe_str pa_nil)) (pa_cons pe_str (pa_cons pe_str pa_nil))))))))))))))
      (pss_cons (ps_set (i := 6) sc_law.nd rfl (Or.inl rfl) (pe_ix ixU (pv 5) (pe_op op_mod (pe_callTy call_intU (by rfl) B.int (by decide +kernel) (pa_cons (pe_ix ixU (pv 1) pe_int (fun _ _ => rfl)) pa_nil)) pe_int) (fun _ _ => rfl)))
      (pss_cons (ps_set (i := 7) sc_law.nd rfl (Or.inl rfl) (pe_lst (pa_cons pe_int pa_nil)))
      (pss_cons (ps_imp C.hx_BadKind (ps_try_as (i := 8) (tb := fun W1 => ((xsFrz [6] (xsExpr (xmCallM (φ "kind_named") 1 (xmsCons (xmVar W 6) (xmsNil W)) [] [] (fun _ => .nil))))).t W1) (ts := ((xhAsg 7 (xqLst (xqsCons (xqFld W 8 "BadKind" "word") (xqsNil W 8)))) : XH W 8).t) rfl rfl sc_law.nd rfl rfl ⟨rfl, by decide, .inl C.gx_BadKind⟩ takesN (fun W1 pn xe tk po => (pss_one (ps_expr (px_callX (D.d_kind_named none (by nofun)) tk (ro0 hr) (by rfl) (pa_cons (pv 6) pa_nil))))) (fun a0 oe0 cls0 d0 pn0 hz hf => (pss_one (ps_set (i := 7) sc_law.nd rfl (Or.inl rfl) (pe_lst (pa_cons (px_xf C.x_BadKind C.hx_BadKind rfl (by simp) hz hf (pv 8)) pa_nil)))))))
      (pss_cons (ps_set (i := 9) sc_law.nd rfl (Or.inl rfl) pe_bl)
      (pss_cons (ps_imp C.hx_JoinError (ps_try_as (i := 8) (tb := fun W1 => ((xsFrz [6] (xsExpr (xmCallM (φ "kind_named") 1 (xmsCons (xmVar W 6) (xmsNil W)) [] [] (fun _ => .nil))))).t W1) (ts := ((xhAsg 9 (xqAnd (xqIs W 8 (false, "ValueError")) (xqNot (xqIs W 8 (true, "BadRow"))))) : XH W 8).t) rfl rfl sc_law.nd rfl rfl ⟨rfl, by decide, .inl C.gx_JoinError⟩ takesN (fun W1 pn xe tk po => (pss_one (ps_expr (px_callX (D.d_kind_named none (by nofun)) tk (ro0 hr) (by rfl) (pa_cons (pv 6) pa_nil))))) (fun a0 oe0 cls0 d0 pn0 hz hf => (pss_one (ps_set (i := 9) sc_law.nd rfl (Or.inl rfl) (pe_and (px_isX (c := (false, "ValueError")) hz hf B.isinstance rfl (pv 8) (pe_bltn (v := clsV W (false, "ValueError")) (by rfl) C.noVE boot_VE (by rfl))) (pe_one (pe_not (px_isX (c := (true, "BadRow")) hz hf B.isinstance C.hx_BadRow (pv 8) (pe_glob (v := clsV W (true, "BadRow")) (by rfl) C.gx_BadRow (by rfl)))))))))))
      (pss_one (ps_ret (pe_and (pv 9) (pe_and (pe_cmpR (opEq hr.units) (pv 7) (pe_lst (pa_cons (pv 6) pa_nil)) (nomark _)) (pe_one (pe_cmpR (opEq hr.units) (px_isi (n := "bool") B.isinstance B.bool (pe_ix ixU (pv 7) pe_int (fun _ _ => rfl))) (px_isi (n := "bool") B.isinstance B.bool (pv 6)) (nomark _))))))))))))))))))))
theorem mt_left_alone {φ : Sem} {k : Nat} {b : Option Nat} (C : Cs W mg) (h_Inner : MdOk W.P W.w W.K mg base k (W.cA "Inner") "left_alone" 2 (spR W 2 (φ "Inner.left_alone") b)) (h_LeftOuter : MdOk W.P W.w W.K mg base k (W.cA "LeftOuter") "left_alone" 2 (spR W 2 (φ "LeftOuter.left_alone") b)) (h_RightOuter : MdOk W.P W.w W.K mg base k (W.cA "RightOuter") "left_alone" 2 (spR W 2 (φ "Inner.left_alone") b)) (h_FullOuter : MdOk W.P W.w W.K mg base k (W.cA "FullOuter") "left_alone" 2 (spR W 2 (φ "LeftOuter.left_alone") b)) (h_Semi : MdOk W.P W.w W.K mg base k (W.cA "Semi") "left_alone" 2 (spR W 2 (φ "Semi.left_alone") b)) (h_Anti : MdOk W.P W.w W.K mg base k (W.cA "Anti") "left_alone" 2 (spR W 2 (φ "Anti.left_alone") b)) : Mt W.P W.w W.K mg base W k "left_alone" 2 φ b := by
  refine ⟨fun c nm hc hr => ?_⟩
  have hm := C.hasL c hc
  simp only [clsL, List.mem_cons, List.not_mem_nil, or_false] at hm
  rcases hm with rfl | rfl | rfl | rfl | rfl | rfl
  · rw [rs_Inner_left_alone] at hr; cases hr; obtain ⟨g, fd, ps, x1, x2, x3, _⟩ := h_Inner.ex; exact ⟨g, fd, ps, x1, x2, x3⟩
  · rw [rs_LeftOuter_left_alone] at hr; cases hr; obtain ⟨g, fd, ps, x1, x2, x3, _⟩ := h_LeftOuter.ex; exact ⟨g, fd, ps, x1, x2, x3⟩
  · rw [rs_RightOuter_left_alone] at hr; cases hr; obtain ⟨g, fd, ps, x1, x2, x3, _⟩ := h_RightOuter.ex; exact ⟨g, fd, ps, x1, x2, x3⟩
  · rw [rs_FullOuter_left_alone] at hr; cases hr; obtain ⟨g, fd, ps, x1, x2, x3, _⟩ := h_FullOuter.ex; exact ⟨g, fd, ps, x1, x2, x3⟩
  · rw [rs_Semi_left_alone] at hr; cases hr; obtain ⟨g, fd, ps, x1, x2, x3, _⟩ := h_Semi.ex; exact ⟨g, fd, ps, x1, x2, x3⟩
  · rw [rs_Anti_left_alone] at hr; cases hr; obtain ⟨g, fd, ps, x1, x2, x3, _⟩ := h_Anti.ex; exact ⟨g, fd, ps, x1, x2, x3⟩
theorem mt_pairs {φ : Sem} {k : Nat} {b : Option Nat} (C : Cs W mg) (h_Inner : MdOk W.P W.w W.K mg base k (W.cA "Inner") "pairs" 1 (spR W 1 (φ "Inner.pairs") b)) (h_LeftOuter : MdOk W.P W.w W.K mg base k (W.cA "LeftOuter") "pairs" 1 (spR W 1 (φ "Inner.pairs") b)) (h_RightOuter : MdOk W.P W.w W.K mg base k (W.cA "RightOuter") "pairs" 1 (spR W 1 (φ "Inner.pairs") b)) (h_FullOuter : MdOk W.P W.w W.K mg base k (W.cA "FullOuter") "pairs" 1 (spR W 1 (φ "Inner.pairs") b)) (h_Semi : MdOk W.P W.w W.K mg base k (W.cA "Semi") "pairs" 1 (spR W 1 (φ "Semi.pairs") b)) (h_Anti : MdOk W.P W.w W.K mg base k (W.cA "Anti") "pairs" 1 (spR W 1 (φ "Semi.pairs") b)) : Mt W.P W.w W.K mg base W k "pairs" 1 φ b := by
  refine ⟨fun c nm hc hr => ?_⟩
  have hm := C.hasL c hc
  simp only [clsL, List.mem_cons, List.not_mem_nil, or_false] at hm
  rcases hm with rfl | rfl | rfl | rfl | rfl | rfl
  · rw [rs_Inner_pairs] at hr; cases hr; obtain ⟨g, fd, ps, x1, x2, x3, _⟩ := h_Inner.ex; exact ⟨g, fd, ps, x1, x2, x3⟩
  · rw [rs_LeftOuter_pairs] at hr; cases hr; obtain ⟨g, fd, ps, x1, x2, x3, _⟩ := h_LeftOuter.ex; exact ⟨g, fd, ps, x1, x2, x3⟩
  · rw [rs_RightOuter_pairs] at hr; cases hr; obtain ⟨g, fd, ps, x1, x2, x3, _⟩ := h_RightOuter.ex; exact ⟨g, fd, ps, x1, x2, x3⟩
  · rw [rs_FullOuter_pairs] at hr; cases hr; obtain ⟨g, fd, ps, x1, x2, x3, _⟩ := h_FullOuter.ex; exact ⟨g, fd, ps, x1, x2, x3⟩
  · rw [rs_Semi_pairs] at hr; cases hr; obtain ⟨g, fd, ps, x1, x2, x3, _⟩ := h_Semi.ex; exact ⟨g, fd, ps, x1, x2, x3⟩
  · rw [rs_Anti_pairs] at hr; cases hr; obtain ⟨g, fd, ps, x1, x2, x3, _⟩ := h_Anti.ex; exact ⟨g, fd, ps, x1, x2, x3⟩
theorem mt_right_alone {φ : Sem} {k : Nat} {b : Option Nat} (C : Cs W mg) (h_Inner : MdOk W.P W.w W.K mg base k (W.cA "Inner") "right_alone" 2 (spR W 2 (φ "Inner.right_alone") b)) (h_LeftOuter : MdOk W.P W.w W.K mg base k (W.cA "LeftOuter") "right_alone" 2 (spR W 2 (φ "Inner.right_alone") b)) (h_RightOuter : MdOk W.P W.w W.K mg base k (W.cA "RightOuter") "right_alone" 2 (spR W 2 (φ "RightOuter.right_alone") b)) (h_FullOuter : MdOk W.P W.w W.K mg base k (W.cA "FullOuter") "right_alone" 2 (spR W 2 (φ "FullOuter.right_alone") b)) (h_Semi : MdOk W.P W.w W.K mg base k (W.cA "Semi") "right_alone" 2 (spR W 2 (φ "Inner.right_alone") b)) (h_Anti : MdOk W.P W.w W.K mg base k (W.cA "Anti") "right_alone" 2 (spR W 2 (φ "Inner.right_alone") b)) : Mt W.P W.w W.K mg base W k "right_alone" 2 φ b := by
  refine ⟨fun c nm hc hr => ?_⟩
  have hm := C.hasL c hc
  simp only [clsL, List.mem_cons, List.not_mem_nil, or_false] at hm
  rcases hm with rfl | rfl | rfl | rfl | rfl | rfl
  · rw [rs_Inner_right_alone] at hr; cases hr; obtain ⟨g, fd, ps, x1, x2, x3, _⟩ := h_Inner.ex; exact ⟨g, fd, ps, x1, x2, x3⟩
  · rw [rs_LeftOuter_right_alone] at hr; cases hr; obtain ⟨g, fd, ps, x1, x2, x3, _⟩ := h_LeftOuter.ex; exact ⟨g, fd, ps, x1, x2, x3⟩
  · rw [rs_RightOuter_right_alone] at hr; cases hr; obtain ⟨g, fd, ps, x1, x2, x3, _⟩ := h_RightOuter.ex; exact ⟨g, fd, ps, x1, x2, x3⟩
  · rw [rs_FullOuter_right_alone] at hr; cases hr; obtain ⟨g, fd, ps, x1, x2, x3, _⟩ := h_FullOuter.ex; exact ⟨g, fd, ps, x1, x2, x3⟩
  · rw [rs_Semi_right_alone] at hr; cases hr; obtain ⟨g, fd, ps, x1, x2, x3, _⟩ := h_Semi.ex; exact ⟨g, fd, ps, x1, x2, x3⟩
  · rw [rs_Anti_right_alone] at hr; cases hr; obtain ⟨g, fd, ps, x1, x2, x3, _⟩ := h_Anti.ex; exact ⟨g, fd, ps, x1, x2, x3⟩
theorem ds_all (D0 : DefAt W.K mg "kind_named" "kind_named" s_kind_named [] []) (D1 : DefAt W.K mg "_law_draws" "_law_draws" s_law_draws [] []) (D2 : DefAt W.K mg "_law_classes" "_law_classes" s_law_classes [] []) (D3 : DefAt W.K mg "_law_due" "_law_due" s_law_due [] []) (D4 : DefAt W.K mg "_law_is_kind" "_law_is_kind" s_law_is_kind [] []) (C : Cs W mg) (B : Blt mg) : ∀ n, Ds W mg base (semT (tbl W) n) (4 * n)
  | 0 => ⟨it_all C B,
    fun b _ => df_no D0 bp_kind_named spR_no,
    fun b _ => df_no D1 bp_law_draws spR_no,
    fun b _ => df_no D2 bp_law_classes spR_no,
    fun b _ => df_no D3 bp_law_due spR_no,
    fun b _ => df_no D4 bp_law_is_kind spR_no,
    fun b _ => mt_left_alone C (md_no C.a_Inner_left_alone bp_Inner_left_alone rfl spR_no) (md_noS C.a_LeftOuter_left_alone bs_LeftOuter_left_alone spR_no) (md_no C.a_RightOuter_left_alone bp_Inner_left_alone rfl spR_no) (md_noS C.a_FullOuter_left_alone bs_LeftOuter_left_alone spR_no) (md_no C.a_Semi_left_alone bp_Semi_left_alone rfl spR_no) (md_noS C.a_Anti_left_alone bs_Anti_left_alone spR_no),
    fun b _ => mt_pairs C (md_no C.a_Inner_pairs bp_Inner_pairs rfl spR_no) (md_no C.a_LeftOuter_pairs bp_Inner_pairs rfl spR_no) (md_no C.a_RightOuter_pairs bp_Inner_pairs rfl spR_no) (md_no C.a_FullOuter_pairs bp_Inner_pairs rfl spR_no) (md_no C.a_Semi_pairs bp_Semi_pairs rfl spR_no) (md_no C.a_Anti_pairs bp_Semi_pairs rfl spR_no),
    fun b _ => mt_right_alone C (md_no C.a_Inner_right_alone bp_Inner_right_alone rfl spR_no) (md_no C.a_LeftOuter_right_alone bp_Inner_right_alone rfl spR_no) (md_noS C.a_RightOuter_right_alone bs_RightOuter_right_alone spR_no) (md_noS C.a_FullOuter_right_alone bs_FullOuter_right_alone spR_no) (md_no C.a_Semi_right_alone bp_Inner_right_alone rfl spR_no) (md_no C.a_Anti_right_alone bp_Inner_right_alone rfl spR_no)⟩
  | n + 1 => ⟨it_all C B,
    ok_kind_named (ds_all D0 D1 D2 D3 D4 C B n) C D0 B,
    ok_law_draws (ds_all D0 D1 D2 D3 D4 C B n) C D1 B,
    ok_law_classes (ds_all D0 D1 D2 D3 D4 C B n) C D2 B,
    ok_law_due (ds_all D0 D1 D2 D3 D4 C B n) C D3 B,
    ok_law_is_kind (ds_all D0 D1 D2 D3 D4 C B n) C D4 B,
    fun b hb => mt_left_alone C (ok_Inner_left_alone (ds_all D0 D1 D2 D3 D4 C B n) C C.a_Inner_left_alone B b hb) (ok_LeftOuter_left_alone (ds_all D0 D1 D2 D3 D4 C B n) C C.a_LeftOuter_left_alone B b hb) (ok_Inner_left_alone (ds_all D0 D1 D2 D3 D4 C B n) C C.a_RightOuter_left_alone B b hb) (ok_LeftOuter_left_alone (ds_all D0 D1 D2 D3 D4 C B n) C C.a_FullOuter_left_alone B b hb) (ok_Semi_left_alone (ds_all D0 D1 D2 D3 D4 C B n) C C.a_Semi_left_alone B b hb) (ok_Anti_left_alone (ds_all D0 D1 D2 D3 D4 C B n) C C.a_Anti_left_alone B b hb),
    fun b hb => mt_pairs C (ok_Inner_pairs (ds_all D0 D1 D2 D3 D4 C B n) C C.a_Inner_pairs B b hb) (ok_Inner_pairs (ds_all D0 D1 D2 D3 D4 C B n) C C.a_LeftOuter_pairs B b hb) (ok_Inner_pairs (ds_all D0 D1 D2 D3 D4 C B n) C C.a_RightOuter_pairs B b hb) (ok_Inner_pairs (ds_all D0 D1 D2 D3 D4 C B n) C C.a_FullOuter_pairs B b hb) (ok_Semi_pairs (ds_all D0 D1 D2 D3 D4 C B n) C C.a_Semi_pairs B b hb) (ok_Semi_pairs (ds_all D0 D1 D2 D3 D4 C B n) C C.a_Anti_pairs B b hb),
    fun b hb => mt_right_alone C (ok_Inner_right_alone (ds_all D0 D1 D2 D3 D4 C B n) C C.a_Inner_right_alone B b hb) (ok_Inner_right_alone (ds_all D0 D1 D2 D3 D4 C B n) C C.a_LeftOuter_right_alone B b hb) (ok_RightOuter_right_alone (ds_all D0 D1 D2 D3 D4 C B n) C C.a_RightOuter_right_alone B b hb) (ok_FullOuter_right_alone (ds_all D0 D1 D2 D3 D4 C B n) C C.a_FullOuter_right_alone B b hb) (ok_Inner_right_alone (ds_all D0 D1 D2 D3 D4 C B n) C C.a_Semi_right_alone B b hb) (ok_Inner_right_alone (ds_all D0 D1 D2 D3 D4 C B n) C C.a_Anti_right_alone B b hb)⟩
end
end Py

namespace Py
open PySem L2
open Enc (enc)
local macro_rules | `(tactic| walk_at "ev") => `(tactic| try simp (maxSteps := 1000000) (disch := first | omega | decide) only [e_xsSeq, e_xsNext, e_xsBreak, e_xsCont, e_xsNever, e_xsRetN, e_xsAsg, e_xsAsgG, e_xsExpr, e_xsRet, e_xsIf, e_xsFrz, e_xmP, e_xVar_V, e_xtV, e_xtTru, e_xtAnd, e_xtOr, e_xtNot, e_xtYes, e_xVar, e_xInt, e_xBl, e_xNon, e_xStr, e_xSub, e_xMul, e_xDiv, e_xMod, e_xPow, e_xNeg, e_xAdd, e_xEq, e_xInE, e_xNe, e_xLt, e_xLe, e_xGt, e_xGe, e_xIsN, e_xNotN, e_xAnd, e_xOr, e_xNot, e_xChainI, e_xIf, e_xTup, e_xLst, e_xInt1, e_xAbs, e_xMax2, e_xMin2, e_xLen, e_xIx, e_xFld, e_xList, e_xTuple, e_xIsi, e_xIsiT, e_xCall, e_xLc, e_xSorted, e_xmVar, e_xmMove, e_xmAppend, e_xmExtend, e_xmInsert, e_xmPop, e_xmReverse, e_xmClear, e_xoNil, e_xoCons, e_plVar, r_plVar, r_plFld, r_plIx, e_plFld, e_plIx, e_xaNilV, e_xaNilF, e_xaConsV, e_xaConsF, e_xgN, e_xgsNil, e_xgsCons, e_xgT, o_xgN, o_xgT, o_xgsNil, o_xgsCons, e_xiSeqF, e_xiSeqP, e_xiR1F, e_xiR1P, e_xiR2F, e_xiR2P, e_xiEnumF, e_xiZipF, e_xiEnumP, e_xiZipP, e_xsFor, e_xsWhile, e_xsAug, e_evV, e_evK, e_evF, e_evO, e_evB, h_getS0, h_getS0n, h_getSs, h_toV, h_toVn, h_toKf, h_toKp, h_toKv, h_toKn, h_toFf, h_toFp, h_toFv, h_toFn, h_toOf, h_toOp, h_toOv, h_toOn, h_of_f, h_of_p, h_of_v, h_then_nx, h_then_rt, h_then_bk, h_then_ct, h_then_ex, h_then_no, h_thenS_ok, h_thenS_exn, h_thenS_no, h_ofO, h_ofOn, h_of, h_ofn, h_mofO, h_mofOn, h_iteF1, h_iteF0, h_iteFn, h_asgK, h_asgGK, h_ifF1, h_ifF0, h_forK, h_chF0, h_chF1, h_andF1, h_andF0, h_orF1, h_orF0, h_blD, h_turn, h_turnn, h_forE, h_forEn, h_callF, h_callV, h_rzF, h_rzV, h_fz_non, h_sh_non, h_fl_non, h_isN_non, h_fz_bl, h_sh_bl, h_fl_bl, h_fz_int, h_sh_int, h_fl_int, h_isN_int, h_fz_str, h_sh_str, h_fl_str, h_isN_str, h_fz_cls, h_sh_cls, h_fl_cls, h_isN_cls, h_fz_sei, h_sh_sei, h_fl_sei, h_isN_sei, h_fz_scr, h_sh_scr, h_fl_scr, h_isN_scr, h_fz_tup, h_sh_tup, h_fl_tup, h_isN_tup, h_fz_lst, h_sh_lst, h_fl_lst, h_isN_lst, h_fz_dic, h_sh_dic, h_fl_dic, h_isN_dic, h_fz_dit, h_sh_dit, h_fl_dit, h_isN_dit, h_fz_dig, h_sh_dig, h_fl_dig, h_isN_dig, h_fz_ins, h_sh_ins, h_fl_ins, h_isN_ins, h_isN_bl, h_fz_olst, h_sh_olst, h_fl_olst, h_fz_odic, h_sh_odic, h_fl_odic, h_fz_odit, h_sh_odit, h_fl_odit, h_fz_odig, h_sh_odig, h_fl_odig, h_fz_oins, h_sh_oins, h_fl_oins, h_fzs_nil, h_fzs_cons, h_fzs_app, h_tru_bl, h_tru_non, h_tru_int, h_tru_lst, h_tru_tup, h_sub, h_neg, h_addI, h_addT, h_addL, h_addLo, h_addoL, h_addoo, h_eqD, h_neD, h_ok_non, h_ok_bl, h_ok_int, h_ok_str, h_ok_tup, h_ok_lst, h_oks_nil, h_oks_cons, h_eqB_ii, h_eqB_ss, h_eqB_bb, h_eqB_nn, h_eqB_ni, h_eqB_in, h_eqB_nt, h_eqB_tn, h_eqB_tt, h_eqB_ll, h_eqBs_nn, h_eqBs_cc, h_eqBs_nc, h_eqBs_cn, h_cmp, h_ltI, h_ltT, h_ints_nil, h_ints_cons, h_intI, h_intB, h_abs, h_max2, h_min2, h_lenL, h_lenT, h_lenS, h_ix, h_it_lst, h_it_olst, h_it_tup, h_it_scr, h_at0, h_at1, h_at2, h_at3, h_at4, h_at5, h_at6, h_at7, h_at8, h_at9, h_at10, h_at11, h_at12, h_atm1, h_seq_lst, h_seq_tup, h_seq_olst, h_seq_scr, h_sF_lst, h_sF_tup, h_sF_scr, h_lF_lst, h_ty_non, h_ty_bl, h_ty_int, h_ty_str, h_ty_lst, h_ty_tup, h_ty_ins, h_isi_bb, h_isi_bo, h_isi_ob, h_isi_oo, h_isiA_n, h_isiA_c, h_isiB_NoneType_bool, h_isiB_NoneType_int, h_isiB_NoneType_str, h_isiB_NoneType_list, h_isiB_NoneType_tuple, h_isiB_NoneType_dict, h_isiB_bool_bool, h_isiB_bool_int, h_isiB_bool_str, h_isiB_bool_list, h_isiB_bool_tuple, h_isiB_bool_dict, h_isiB_int_bool, h_isiB_int_int, h_isiB_int_str, h_isiB_int_list, h_isiB_int_tuple, h_isiB_int_dict, h_isiB_str_bool, h_isiB_str_int, h_isiB_str_str, h_isiB_str_list, h_isiB_str_tuple, h_isiB_str_dict, h_isiB_list_bool, h_isiB_list_int, h_isiB_list_str, h_isiB_list_list, h_isiB_list_tuple, h_isiB_list_dict, h_isiB_tuple_bool, h_isiB_tuple_int, h_isiB_tuple_str, h_isiB_tuple_list, h_isiB_tuple_tuple, h_isiB_tuple_dict, h_isiB_dict_bool, h_isiB_dict_int, h_isiB_dict_str, h_isiB_dict_list, h_isiB_dict_tuple, h_isiB_dict_dict, h_append, h_extL, h_extO, h_pop, h_rev, h_clear, h_insert, h_put0, h_rng1, h_rng2, h_guard1, h_guard0, h_forLn, h_forLc, h_forT_nx, h_forT_ct, h_forT_bk, h_forT_rt, h_forT_ex, h_lc1, h_lcK, h_lcJ1, h_lcJ0, h_wipe0, h_wipes, h_frz, h_frzO, h_frzOn, h_runR_rt, h_runR_nx, h_retZ, h_bGetn, h_bGets, h_setS, h_ipD, h_fldI, h_fldO, h_sfld, h_six, h_iteFd1, h_iteFd0, h_iteFe1, h_iteFe0, h_andFd1, h_andFd0, h_andFe1, h_andFe0, h_orFd1, h_orFd0, h_orFe1, h_orFe0, h_ifFd1, h_ifFd0, h_ifFe1, h_ifFe0, h_lcJd1, h_lcJd0, h_lcJe1, h_lcJe0, h_eMeth, h_methF, h_methV, h_methW, h_eCallO, h_callOF, h_callOV, h_callOW, h_callO1, h_meth1, h_meth2, h_resE, h_resEn, h_posn, h_posc, h_eMmeth, h_methM1, h_methM0, h_rm0o, h_rm0x, h_rm0n, h_rm1o, h_rm1x, h_putc, h_putE, h_subF, h_subI, h_putF, h_putI, h_setOs, h_eSfld, h_fldK, h_setFD, h_setFn, h_setFc, h_eMake, h_makeF, h_makeV, h_mk1, h_mkR, h_eProp, h_propF, h_propV, h_prop1, h_eLenU, h_lenI_lst, h_lenI_tup, h_lenI_scr, h_lenI_ins, h_lenQ, h_lenR, h_eSl, h_slE, h_evI0, h_evI1, h_intO, h_eSortR, h_eMs0, h_eMs1, h_RMthenL_ok, h_RLthenL_ok, h_RLthenM_ok, h_RMthenM_ok, h_RMthenT_ok, h_RTthen_ok, h_RTthenS_ok, h_RMthenL_exn, h_RLthenL_exn, h_RLthenM_exn, h_RMthenM_exn, h_RMthenT_exn, h_RTthen_exn, h_RTthenS_exn, h_consK, h_consL, h_eCallM, h_callM, h_etmT, h_etmTru, h_etmNot, h_etmAnd, h_etmOr, h_RTof, h_truK, h_notK, h_andK1, h_andK0, h_orK1, h_orK0, h_esIfM, h_ifK1, h_ifK0, h_eOpL, h_opK, h_andKd1, h_andKd0, h_orKd1, h_orKd0, h_ifKd1, h_ifKd0, h_eFz, h_eListU, h_lstE_lst, h_lstE_tup, h_lstE_scr, h_lstE_olst, h_lstE_ins, h_itQ, h_it_ins, h_lo_lst, h_lo_olst, h_eiSeqUF, h_eiSeqUP, h_eiEnumUF, h_eiEnumUP, h_eiEnumTF, h_eiEnumTP, h_enTI_tup, h_enTI_lst, h_enTI_ins, h_seqFI_lst, h_seqFI_tup, h_seqFI_scr, h_seqFI_ins, h_seqKI_lst, h_seqKI_tup, h_seqKI_scr, h_seqKI_ins, h_seqKI_olst, h_enFI_lst, h_enFI_ins, h_enKI_lst, h_enKI_ins, h_enKI_olst, h_eIxO, h_eEqO, h_eAddO, h_orI_s, h_orI_n, h_ixD_ins, h_okD_ins, h_eqD_ins, h_addD_ins, h_addD_oins, h_own_F, h_own_V, h_own_W, h_ownE, h_okAny, h_okSame, h_okEq_i, h_okEq_non, h_okEq_bl, h_okEq_int, h_okEq_str, h_okEq_lst, h_okEq_tup, h_okEq_scr, h_eBest, h_eSum, h_sumI, h_eAddV, h_addLV, h_eSortV, h_sortV, h_eSset, h_setK, h_storeD, h_eCallN, h_kwE_F, h_kwE_V, h_kwE_W, h_eMakeN, h_makeNE_F, h_makeNE_V, h_makeNE_W, h_mkN, h_mgM_t, h_mgM_f, h_mgM_n, h_eCallL, h_listFl, h_eDnew, h_eDget2, h_getE_non, h_getE_int, h_getE_str, h_getM_s, h_getM_n, h_eDix, h_dgE_int, h_dgE_str, h_eIn, h_eDin, h_inK_non, h_inK_int, h_inK_str, h_eDlist, h_eDict, h_eDlen, h_dicOf_d, h_dicOf_o, h_dicF_d, h_dicF_o, h_eDput, h_dputK, h_dputI, h_dputS, h_eForD, h_lockR, h_noEx_nx, h_noEx_rt, h_isDic, h_dsK, h_eLcD, h_eDc, h_eDcD, h_frE_s, h_frE_n, h_guardB_t, h_dc1, h_dcK, h_dcJ1, h_dcJ0, h_keyD_i, h_keyD_s, h_eDapp, h_dappI, h_kDs_n, h_kDs_c, h_dcL_n, h_putP_n, h_eMakeL, h_eMakeNL, h_eCallW, h_orEEs, h_orEEn, h_mkNV, h_eMk0, h_eCon, h_conD0, h_eSortSet, h_eAndO, h_eCallB, h_ebNil, h_ebCons, h_lend_olst, h_lend_int, h_lend_str, h_lend_bl, h_lend_non, h_lend_tup, h_lend_lst, h_lend_ins, h_lend_dic, h_eMakeB, h_lentEs, h_lentEn, h_ofBs, h_ofBn, h_oNl_int, h_oNl_str, h_oNl_bl, h_oNl_n, h_oNl_ins, h_oNl_oins, h_oNl_dic, h_oNl_odic, h_oNl_tup, h_oNl_olst, h_oNls_n, h_oNls_c, h_ofDs, h_ofDn, h_okD0s, h_oFl_i, h_oFl_s, h_oFl_b, h_oFl_n, h_oFl_ins, h_oFl_odic, h_oFl_olst, h_oFls_n, h_oFls_c, h_eDisp, h_dispEn, h_dispEc, h_eForO, h_forOFs, h_forOFn, h_ownLo, h_ownLl, h_ownLt, h_ownLs, h_ownLn, h_reRn, h_reRr, h_reRx, h_ePar, h_par2, h_eRaise, h_exOf, h_exOfn, h_eTryAs, h_tryK_nx, h_tryK_rt, h_tryK_bk, h_tryK_ct, h_tryK_no, h_tryK_ex, h_tryJ1, h_tryJ0, h_clr_nx, h_clr_rt, h_clr_bk, h_clr_ct, h_clr_no, h_ehAsg, h_hAsgK, h_hAsgKn, h_ehRet, h_hRetK, h_hRetKn, h_qevO, h_qevB, h_qevF, h_toQf, h_toQp, h_toQv, h_toQn, h_eqP, h_eqFld, h_eqIs, h_eqIsT, h_isX1t, h_isX1f, h_isXAn, h_isXAc, h_eqAnd, h_eqOr, h_eqNot, h_eqLst, h_eqs0, h_eqs1, h_eCallNM, h_callNM, h_eMakeM, h_makeM, h_mkMo, h_mkMx, h_mkMn, h_eMakeNM, h_makeNM, h_eCallOM, h_callOMs, h_eAppR, h_isOl, h_apmK, h_runR_ex, h_retX, h_look1, h_look2, h_div, h_mod, h_mulL, h_mulR, h_rngOk, List.zip_cons_cons, List.zip_nil_left, if_pos, if_neg, List.getElem?_cons_zero, List.getElem?_cons_succ, List.getElem?_nil, List.getLast?_append, List.getLast?_singleton, List.getLast?_cons_cons, runFn, env0, Option.toList, List.map_cons, List.map_nil, List.length_cons, List.length_nil, List.length_append, List.length_map, List.length_set, List.replicate, List.cons_append, List.nil_append, List.append_nil, Nat.reduceSub, Nat.reduceAdd, Nat.reduceLT, Nat.reduceLeDiff, Nat.reduceEqDiff, Nat.zero_add, Nat.add_zero, List.set_cons_zero, List.set_cons_succ, List.set_nil, Option.bind_some, Option.bind_none, Option.map_some, Option.map_none, List.foldl_cons, List.foldl_nil, not_false_eq_true, not_true_eq_false, and_true, true_and, and_self, and_false, false_and, if_true, if_false, ite_true, ite_false, reduceIte, List.not_mem_nil, reduceCtorEq, List.mem_cons, or_false, false_or, or_self, ne_eq, Bool.not_true, Bool.not_false, Bool.and_true, Bool.and_false, Bool.true_and, Bool.false_and, Bool.or_true, Bool.or_false, Bool.true_or, Bool.false_or, Bool.and_self, Bool.or_self, List.all_cons, List.all_nil, decide_true, decide_false, decide_not, decide_eq_true_eq, decide_eq_false_iff_not, Bool.not_not, Int.reduceLT, Int.reduceLE, Int.reduceEq, Int.reduceNe, Int.reduceAdd, Int.reduceMul, Int.reduceSub, Int.reduceNeg, List.isEmpty_cons, List.isEmpty_nil, Bool.false_eq_true, Bool.true_eq_false, String.reduceEq, Function.comp_apply, Option.isNone_none, Option.some_or, Option.isNone_some, List.getLast?_concat, List.dropLast_concat, List.all_append])

section
variable {W : Wd TT}
def drawStep (big : Bool) (k : Int) (n : Int) : Int × Int :=
  if big = true then (n % 1000, n / 1000)
  else if 0 < n then
    ((((n * (48271 + 6 * k) + 69621 * k) % 2147483647 * ((n * (48271 + 6 * k) + 69621 * k) % 2147483647) + 40692 * k + 1) % 2147483629) % 1000, n)
  else (0, n)
def drawsGo (big : Bool) (n : Int) : Nat → List Int × Int
  | 0 => ([], n)
  | i + 1 => ((drawsGo big n i).1 ++ [(drawStep big (0 + i) (drawsGo big n i).2).1], (drawStep big (0 + i) (drawsGo big n i).2).2)
def drawNum (ns : List Int) (at' : Int) : Int := if h : 0 ≤ at' ∧ at' < ns.length then (if ns[at'.toNat]'(by omega) < 0 then -(ns[at'.toNat]'(by omega)) else ns[at'.toNat]'(by omega)) else 0
def draws (ns : List Int) (at' many : Int) : List Int := (drawsGo (decide (10 ^ 18 ≤ drawNum ns at')) (drawNum ns at') many.toNat).1
theorem drawStep_ok {big : Bool} {k n : Int} (h : 0 ≤ n) : 0 ≤ (drawStep big k n).1 ∧ (drawStep big k n).1 < 1000 ∧ 0 ≤ (drawStep big k n).2 ∧ (drawStep big k n).2 ≤ n := by
  unfold drawStep
  split
  · simp only; omega
  · split
    · simp only; omega
    · simp only; omega
theorem drawsGo_ok {big : Bool} {n : Int} (h : 0 ≤ n) : ∀ i, (drawsGo big n i).1.length = i ∧ (∀ d ∈ (drawsGo big n i).1, 0 ≤ d ∧ d < 1000) ∧ 0 ≤ (drawsGo big n i).2 ∧ (drawsGo big n i).2 ≤ n
  | 0 => ⟨rfl, (fun _ m => nomatch m), h, Int.le_refl _⟩
  | i + 1 => by
    obtain ⟨h1, h2, h3, h4⟩ := drawsGo_ok (big := big) h i
    obtain ⟨q1, q2, q3, q4⟩ := drawStep_ok (big := big) (k := 0 + i) h3
    refine ⟨by rw [drawsGo]; simp [h1], fun d m => ?_, q3, Int.le_trans q4 h4⟩
    rw [drawsGo] at m
    rcases List.mem_append.mp m with m | m
    · exact h2 d m
    · rw [List.mem_singleton.mp m]; exact ⟨q1, q2⟩
theorem drawNum_nn (ns : List Int) (at' : Int) : 0 ≤ drawNum ns at' := by
  unfold drawNum
  split
  · split <;> omega
  · omega
theorem draws_length (ns : List Int) (at' many : Int) : (draws ns at' many).length = many.toNat := (drawsGo_ok (drawNum_nn ns at') _).1
theorem draws_ok (ns : List Int) (at' many : Int) : ∀ d ∈ draws ns at' many, 0 ≤ d ∧ d < 1000 := (drawsGo_ok (drawNum_nn ns at') _).2.1
theorem f_law_draws (k : Nat) {ns : List Int} {i n : Int} (h0 : 0 ≤ i) (h1 : 0 ≤ n) (h2 : n ≤ 1000) : semT (tbl W) (k + 1) "_law_draws" [.scr ns, .int i, .int n] none = .ok (.olst ((draws ns i n).map .int)) none := by
  rw [sem_law_draws]
  unfold b_law_draws
  have loop : ∀ (b : Bool) (m : Int), 0 ≤ m → ∀ e0, e0 = [some (.scr ns), some (.int i), some (.int n), some (.int m), some (.bl b), some (.olst []), none, none, none] → ∀ r, forL (forK (xgN W 6) (l1_law_draws W (semT (tbl W) k)) []) (rangeD 0 n.toNat) e0 = r →
      ∃ e', r = .nx e' ∧ getS e' 5 = some (.olst ((drawsGo b m n.toNat).1.map .int)) ∧ e'.length = 9 := by
    intro b m hm e0 he r hF
    obtain ⟨e', rfl, o6, o7, o8, h⟩ := forL_gen (fun j e => ∃ o6 o7 o8, e = [some (.scr ns), some (.int i), some (.int n), some (.int (drawsGo b m j).2), some (.bl b), some (.olst ((drawsGo b m j).1.map .int)), o6, o7, o8]) hF ⟨none, none, none, he⟩ (by
      rintro j d _ hd ⟨o6, o7, o8, rfl⟩
      obtain ⟨hj, rfl⟩ := rangeD_get hd
      obtain ⟨q1, q2, q3, q4⟩ := drawsGo_ok (big := b) hm j
      generalize hg : drawsGo b m j = g at q1 q2 q3 q4
      have hs : drawsGo b m (j + 1) = (g.1 ++ [(drawStep b (0 + j) g.2).1], (drawStep b (0 + j) g.2).2) := by rw [drawsGo, hg]
      rw [hs]
      have hj2 : (0 : Int) + (j : Int) < 1000 := by omega
      generalize hx : (0 : Int) + (j : Int) = x at hj2
      have hx0 : 0 ≤ x := by omega
      have hl : g.1.length < 1000000 := by omega
      clear hx hj hd hs hg q4 hF q2
      unfold drawStep l1_law_draws
      cases b with
      | true =>
        refine ⟨_, .inl (by walk_at "ev"; rfl), ?_⟩
        rw [List.map_append]
        exact ⟨_, _, _, rfl⟩
      | false =>
        by_cases hp : 0 < g.2
        · generalize hy : g.2 * (48271 + 6 * x) + 69621 * x = y
          have e1 : 0 ≤ y % 2147483647 := by omega
          have e2 : y % 2147483647 < 2147483647 := by omega
          generalize hz : y % 2147483647 = z at e1 e2
          refine ⟨_, .inl (by walk_at "ev"; rw [hy, hz]), ?_⟩
          rw [if_neg (by decide), if_pos hp, List.map_append]
          exact ⟨_, _, _, rfl⟩
        · refine ⟨_, .inl (by walk_at "ev"; rfl), ?_⟩
          rw [if_neg (by decide), if_neg hp, List.map_append]
          exact ⟨_, _, _, rfl⟩)
    rw [rangeD_length] at h
    exact ⟨e', rfl, by rw [h]; rfl, by rw [h]; rfl⟩
  have fin : ∀ e' : Py.Env, getS e' 5 = some (.olst ((draws ns i n).map .int)) → runR none (RS.then (.nx e') ((xsRet (xmMove W 5)).ev [])) = .ok (.olst ((draws ns i n).map .int)) none := fun e' he => by
    walk_at "ev"
    rw [he]
    walk_at "ev"
  have hp : powD (.int 10) (.int 18) = some (.int 1000000000000000000) := rfl
  by_cases hi : i < ns.length
  · obtain ⟨x, hx1, hx2⟩ := atI_get h0 hi
    have en : drawNum ns i = if x < 0 then -x else x := by
      have : x = ns[i.toNat]'(by omega) := by rw [List.getElem?_eq_getElem (by omega)] at hx2; exact (Option.some.inj hx2).symm
      unfold drawNum
      rw [dif_pos ⟨h0, hi⟩, this]
    walk_at "ev"
    rw [atI_map, hx1]
    walk_at "ev"
    rw [hp]
    walk_at "ev"
    rw [← en]
    have hn := drawNum_nn ns i
    have e0 : drawsGo (decide (1000000000000000000 ≤ drawNum ns i)) (drawNum ns i) n.toNat = drawsGo (decide (10 ^ 18 ≤ drawNum ns i)) (drawNum ns i) n.toNat := rfl
    generalize hF : forL _ _ _ = r
    obtain ⟨e', rfl, h5, _⟩ := loop _ _ hn _ rfl _ hF
    exact fin e' (by rw [h5, e0]; rfl)
  · have en : drawNum ns i = 0 := by
      unfold drawNum
      rw [dif_neg (by omega)]
    walk_at "ev"
    rw [hp]
    walk_at "ev"
    generalize hF : forL _ _ _ = r
    obtain ⟨e', rfl, h5, _⟩ := loop false 0 (Int.le_refl _) _ rfl _ hF
    exact fin e' (by rw [h5]; unfold draws; rw [en]; rfl)

theorem q_sl {xs y} : eqB (.str y) (.lst xs) = false := by simp [eqB]
theorem q_st {xs y} : eqB (.str y) (.tup xs) = false := by simp [eqB]
theorem q_si {xs y} : eqB (.str y) (.int xs) = false := by simp [eqB]
theorem q_sb {xs y} : eqB (.str y) (.bl xs) = false := by simp [eqB]
theorem q_sn {y} : eqB (.str y) .non = false := by simp [eqB]
theorem rw_Inner : rc_WORD "Inner" = some "inner" := by simp [rc_WORD]
theorem rw_LeftOuter : rc_WORD "LeftOuter" = some "left" := by simp [rc_WORD]
theorem rw_RightOuter : rc_WORD "RightOuter" = some "right" := by simp [rc_WORD]
theorem rw_FullOuter : rc_WORD "FullOuter" = some "full" := by simp [rc_WORD]
theorem rw_Semi : rc_WORD "Semi" = some "semi" := by simp [rc_WORD]
theorem rw_Anti : rc_WORD "Anti" = some "anti" := by simp [rc_WORD]
local macro_rules | `(tactic| walk_at "evc") => `(tactic| try simp (maxSteps := 1000000) (disch := first | omega | decide) only [q_sl, q_st, q_si, q_sb, q_sn, rw_Inner, rw_LeftOuter, rw_RightOuter, rw_FullOuter, rw_Semi, rw_Anti, xs_JoinError_JoinError, xs_JoinError_BadRow, xs_JoinError_BadKind, xs_BadRow_JoinError, xs_BadRow_BadRow, xs_BadRow_BadKind, xs_BadKind_JoinError, xs_BadKind_BadRow, xs_BadKind_BadKind, ik_Inner, rs_Inner_left_alone, rs_Inner_pairs, rs_Inner_right_alone, sb_Inner_Inner, sb_Inner_LeftOuter, sb_Inner_RightOuter, sb_Inner_FullOuter, sb_Inner_Semi, sb_Inner_Anti, ik_LeftOuter, rs_LeftOuter_left_alone, rs_LeftOuter_pairs, rs_LeftOuter_right_alone, sb_LeftOuter_Inner, sb_LeftOuter_LeftOuter, sb_LeftOuter_RightOuter, sb_LeftOuter_FullOuter, sb_LeftOuter_Semi, sb_LeftOuter_Anti, ik_RightOuter, rs_RightOuter_left_alone, rs_RightOuter_pairs, rs_RightOuter_right_alone, sb_RightOuter_Inner, sb_RightOuter_LeftOuter, sb_RightOuter_RightOuter, sb_RightOuter_FullOuter, sb_RightOuter_Semi, sb_RightOuter_Anti, ik_FullOuter, rs_FullOuter_left_alone, rs_FullOuter_pairs, rs_FullOuter_right_alone, sb_FullOuter_Inner, sb_FullOuter_LeftOuter, sb_FullOuter_RightOuter, sb_FullOuter_FullOuter, sb_FullOuter_Semi, sb_FullOuter_Anti, ik_Semi, rs_Semi_left_alone, rs_Semi_pairs, rs_Semi_right_alone, sb_Semi_Inner, sb_Semi_LeftOuter, sb_Semi_RightOuter, sb_Semi_FullOuter, sb_Semi_Semi, sb_Semi_Anti, ik_Anti, rs_Anti_left_alone, rs_Anti_pairs, rs_Anti_right_alone, sb_Anti_Inner, sb_Anti_LeftOuter, sb_Anti_RightOuter, sb_Anti_FullOuter, sb_Anti_Semi, sb_Anti_Anti, e_xsSeq, e_xsNext, e_xsBreak, e_xsCont, e_xsNever, e_xsRetN, e_xsAsg, e_xsAsgG, e_xsExpr, e_xsRet, e_xsIf, e_xsFrz, e_xmP, e_xVar_V, e_xtV, e_xtTru, e_xtAnd, e_xtOr, e_xtNot, e_xtYes, e_xVar, e_xInt, e_xBl, e_xNon, e_xStr, e_xSub, e_xMul, e_xDiv, e_xMod, e_xPow, e_xNeg, e_xAdd, e_xEq, e_xInE, e_xNe, e_xLt, e_xLe, e_xGt, e_xGe, e_xIsN, e_xNotN, e_xAnd, e_xOr, e_xNot, e_xChainI, e_xIf, e_xTup, e_xLst, e_xInt1, e_xAbs, e_xMax2, e_xMin2, e_xLen, e_xIx, e_xFld, e_xList, e_xTuple, e_xIsi, e_xIsiT, e_xCall, e_xLc, e_xSorted, e_xmVar, e_xmMove, e_xmAppend, e_xmExtend, e_xmInsert, e_xmPop, e_xmReverse, e_xmClear, e_xoNil, e_xoCons, e_plVar, r_plVar, r_plFld, r_plIx, e_plFld, e_plIx, e_xaNilV, e_xaNilF, e_xaConsV, e_xaConsF, e_xgN, e_xgsNil, e_xgsCons, e_xgT, o_xgN, o_xgT, o_xgsNil, o_xgsCons, e_xiSeqF, e_xiSeqP, e_xiR1F, e_xiR1P, e_xiR2F, e_xiR2P, e_xiEnumF, e_xiZipF, e_xiEnumP, e_xiZipP, e_xsFor, e_xsWhile, e_xsAug, e_evV, e_evK, e_evF, e_evO, e_evB, h_getS0, h_getS0n, h_getSs, h_toV, h_toVn, h_toKf, h_toKp, h_toKv, h_toKn, h_toFf, h_toFp, h_toFv, h_toFn, h_toOf, h_toOp, h_toOv, h_toOn, h_of_f, h_of_p, h_of_v, h_then_nx, h_then_rt, h_then_bk, h_then_ct, h_then_ex, h_then_no, h_thenS_ok, h_thenS_exn, h_thenS_no, h_ofO, h_ofOn, h_of, h_ofn, h_mofO, h_mofOn, h_iteF1, h_iteF0, h_iteFn, h_asgK, h_asgGK, h_ifF1, h_ifF0, h_forK, h_chF0, h_chF1, h_andF1, h_andF0, h_orF1, h_orF0, h_blD, h_turn, h_turnn, h_forE, h_forEn, h_callF, h_callV, h_rzF, h_rzV, h_fz_non, h_sh_non, h_fl_non, h_isN_non, h_fz_bl, h_sh_bl, h_fl_bl, h_fz_int, h_sh_int, h_fl_int, h_isN_int, h_fz_str, h_sh_str, h_fl_str, h_isN_str, h_fz_cls, h_sh_cls, h_fl_cls, h_isN_cls, h_fz_sei, h_sh_sei, h_fl_sei, h_isN_sei, h_fz_scr, h_sh_scr, h_fl_scr, h_isN_scr, h_fz_tup, h_sh_tup, h_fl_tup, h_isN_tup, h_fz_lst, h_sh_lst, h_fl_lst, h_isN_lst, h_fz_dic, h_sh_dic, h_fl_dic, h_isN_dic, h_fz_dit, h_sh_dit, h_fl_dit, h_isN_dit, h_fz_dig, h_sh_dig, h_fl_dig, h_isN_dig, h_fz_ins, h_sh_ins, h_fl_ins, h_isN_ins, h_isN_bl, h_fz_olst, h_sh_olst, h_fl_olst, h_fz_odic, h_sh_odic, h_fl_odic, h_fz_odit, h_sh_odit, h_fl_odit, h_fz_odig, h_sh_odig, h_fl_odig, h_fz_oins, h_sh_oins, h_fl_oins, h_fzs_nil, h_fzs_cons, h_fzs_app, h_tru_bl, h_tru_non, h_tru_int, h_tru_lst, h_tru_tup, h_sub, h_neg, h_addI, h_addT, h_addL, h_addLo, h_addoL, h_addoo, h_eqD, h_neD, h_ok_non, h_ok_bl, h_ok_int, h_ok_str, h_ok_tup, h_ok_lst, h_oks_nil, h_oks_cons, h_eqB_ii, h_eqB_ss, h_eqB_bb, h_eqB_nn, h_eqB_ni, h_eqB_in, h_eqB_nt, h_eqB_tn, h_eqB_tt, h_eqB_ll, h_eqBs_nn, h_eqBs_cc, h_eqBs_nc, h_eqBs_cn, h_cmp, h_ltI, h_ltT, h_ints_nil, h_ints_cons, h_intI, h_intB, h_abs, h_max2, h_min2, h_lenL, h_lenT, h_lenS, h_ix, h_it_lst, h_it_olst, h_it_tup, h_it_scr, h_at0, h_at1, h_at2, h_at3, h_at4, h_at5, h_at6, h_at7, h_at8, h_at9, h_at10, h_at11, h_at12, h_atm1, h_seq_lst, h_seq_tup, h_seq_olst, h_seq_scr, h_sF_lst, h_sF_tup, h_sF_scr, h_lF_lst, h_ty_non, h_ty_bl, h_ty_int, h_ty_str, h_ty_lst, h_ty_tup, h_ty_ins, h_isi_bb, h_isi_bo, h_isi_ob, h_isi_oo, h_isiA_n, h_isiA_c, h_isiB_NoneType_bool, h_isiB_NoneType_int, h_isiB_NoneType_str, h_isiB_NoneType_list, h_isiB_NoneType_tuple, h_isiB_NoneType_dict, h_isiB_bool_bool, h_isiB_bool_int, h_isiB_bool_str, h_isiB_bool_list, h_isiB_bool_tuple, h_isiB_bool_dict, h_isiB_int_bool, h_isiB_int_int, h_isiB_int_str, h_isiB_int_list, h_isiB_int_tuple, h_isiB_int_dict, h_isiB_str_bool, h_isiB_str_int, h_isiB_str_str, h_isiB_str_list, h_isiB_str_tuple, h_isiB_str_dict, h_isiB_list_bool, h_isiB_list_int, h_isiB_list_str, h_isiB_list_list, h_isiB_list_tuple, h_isiB_list_dict, h_isiB_tuple_bool, h_isiB_tuple_int, h_isiB_tuple_str, h_isiB_tuple_list, h_isiB_tuple_tuple, h_isiB_tuple_dict, h_isiB_dict_bool, h_isiB_dict_int, h_isiB_dict_str, h_isiB_dict_list, h_isiB_dict_tuple, h_isiB_dict_dict, h_append, h_extL, h_extO, h_pop, h_rev, h_clear, h_insert, h_put0, h_rng1, h_rng2, h_guard1, h_guard0, h_forLn, h_forLc, h_forT_nx, h_forT_ct, h_forT_bk, h_forT_rt, h_forT_ex, h_lc1, h_lcK, h_lcJ1, h_lcJ0, h_wipe0, h_wipes, h_frz, h_frzO, h_frzOn, h_runR_rt, h_runR_nx, h_retZ, h_bGetn, h_bGets, h_setS, h_ipD, h_fldI, h_fldO, h_sfld, h_six, h_iteFd1, h_iteFd0, h_iteFe1, h_iteFe0, h_andFd1, h_andFd0, h_andFe1, h_andFe0, h_orFd1, h_orFd0, h_orFe1, h_orFe0, h_ifFd1, h_ifFd0, h_ifFe1, h_ifFe0, h_lcJd1, h_lcJd0, h_lcJe1, h_lcJe0, h_eMeth, h_methF, h_methV, h_methW, h_eCallO, h_callOF, h_callOV, h_callOW, h_callO1, h_meth1, h_meth2, h_resE, h_resEn, h_posn, h_posc, h_eMmeth, h_methM1, h_methM0, h_rm0o, h_rm0x, h_rm0n, h_rm1o, h_rm1x, h_putc, h_putE, h_subF, h_subI, h_putF, h_putI, h_setOs, h_eSfld, h_fldK, h_setFD, h_setFn, h_setFc, h_eMake, h_makeF, h_makeV, h_mk1, h_mkR, h_eProp, h_propF, h_propV, h_prop1, h_eLenU, h_lenI_lst, h_lenI_tup, h_lenI_scr, h_lenI_ins, h_lenQ, h_lenR, h_eSl, h_slE, h_evI0, h_evI1, h_intO, h_eSortR, h_eMs0, h_eMs1, h_RMthenL_ok, h_RLthenL_ok, h_RLthenM_ok, h_RMthenM_ok, h_RMthenT_ok, h_RTthen_ok, h_RTthenS_ok, h_RMthenL_exn, h_RLthenL_exn, h_RLthenM_exn, h_RMthenM_exn, h_RMthenT_exn, h_RTthen_exn, h_RTthenS_exn, h_consK, h_consL, h_eCallM, h_callM, h_etmT, h_etmTru, h_etmNot, h_etmAnd, h_etmOr, h_RTof, h_truK, h_notK, h_andK1, h_andK0, h_orK1, h_orK0, h_esIfM, h_ifK1, h_ifK0, h_eOpL, h_opK, h_andKd1, h_andKd0, h_orKd1, h_orKd0, h_ifKd1, h_ifKd0, h_eFz, h_eListU, h_lstE_lst, h_lstE_tup, h_lstE_scr, h_lstE_olst, h_lstE_ins, h_itQ, h_it_ins, h_lo_lst, h_lo_olst, h_eiSeqUF, h_eiSeqUP, h_eiEnumUF, h_eiEnumUP, h_eiEnumTF, h_eiEnumTP, h_enTI_tup, h_enTI_lst, h_enTI_ins, h_seqFI_lst, h_seqFI_tup, h_seqFI_scr, h_seqFI_ins, h_seqKI_lst, h_seqKI_tup, h_seqKI_scr, h_seqKI_ins, h_seqKI_olst, h_enFI_lst, h_enFI_ins, h_enKI_lst, h_enKI_ins, h_enKI_olst, h_eIxO, h_eEqO, h_eAddO, h_orI_s, h_orI_n, h_ixD_ins, h_okD_ins, h_eqD_ins, h_addD_ins, h_addD_oins, h_own_F, h_own_V, h_own_W, h_ownE, h_okAny, h_okSame, h_okEq_i, h_okEq_non, h_okEq_bl, h_okEq_int, h_okEq_str, h_okEq_lst, h_okEq_tup, h_okEq_scr, h_eBest, h_eSum, h_sumI, h_eAddV, h_addLV, h_eSortV, h_sortV, h_eSset, h_setK, h_storeD, h_eCallN, h_kwE_F, h_kwE_V, h_kwE_W, h_eMakeN, h_makeNE_F, h_makeNE_V, h_makeNE_W, h_mkN, h_mgM_t, h_mgM_f, h_mgM_n, h_eCallL, h_listFl, h_eDnew, h_eDget2, h_getE_non, h_getE_int, h_getE_str, h_getM_s, h_getM_n, h_eDix, h_dgE_int, h_dgE_str, h_eIn, h_eDin, h_inK_non, h_inK_int, h_inK_str, h_eDlist, h_eDict, h_eDlen, h_dicOf_d, h_dicOf_o, h_dicF_d, h_dicF_o, h_eDput, h_dputK, h_dputI, h_dputS, h_eForD, h_lockR, h_noEx_nx, h_noEx_rt, h_isDic, h_dsK, h_eLcD, h_eDc, h_eDcD, h_frE_s, h_frE_n, h_guardB_t, h_dc1, h_dcK, h_dcJ1, h_dcJ0, h_keyD_i, h_keyD_s, h_eDapp, h_dappI, h_kDs_n, h_kDs_c, h_dcL_n, h_putP_n, h_eMakeL, h_eMakeNL, h_eCallW, h_orEEs, h_orEEn, h_mkNV, h_eMk0, h_eCon, h_conD0, h_eSortSet, h_eAndO, h_eCallB, h_ebNil, h_ebCons, h_lend_olst, h_lend_int, h_lend_str, h_lend_bl, h_lend_non, h_lend_tup, h_lend_lst, h_lend_ins, h_lend_dic, h_eMakeB, h_lentEs, h_lentEn, h_ofBs, h_ofBn, h_oNl_int, h_oNl_str, h_oNl_bl, h_oNl_n, h_oNl_ins, h_oNl_oins, h_oNl_dic, h_oNl_odic, h_oNl_tup, h_oNl_olst, h_oNls_n, h_oNls_c, h_ofDs, h_ofDn, h_okD0s, h_oFl_i, h_oFl_s, h_oFl_b, h_oFl_n, h_oFl_ins, h_oFl_odic, h_oFl_olst, h_oFls_n, h_oFls_c, h_eDisp, h_dispEn, h_dispEc, h_eForO, h_forOFs, h_forOFn, h_ownLo, h_ownLl, h_ownLt, h_ownLs, h_ownLn, h_reRn, h_reRr, h_reRx, h_ePar, h_par2, h_eRaise, h_exOf, h_exOfn, h_eTryAs, h_tryK_nx, h_tryK_rt, h_tryK_bk, h_tryK_ct, h_tryK_no, h_tryK_ex, h_tryJ1, h_tryJ0, h_clr_nx, h_clr_rt, h_clr_bk, h_clr_ct, h_clr_no, h_ehAsg, h_hAsgK, h_hAsgKn, h_ehRet, h_hRetK, h_hRetKn, h_qevO, h_qevB, h_qevF, h_toQf, h_toQp, h_toQv, h_toQn, h_eqP, h_eqFld, h_eqIs, h_eqIsT, h_isX1t, h_isX1f, h_isXAn, h_isXAc, h_eqAnd, h_eqOr, h_eqNot, h_eqLst, h_eqs0, h_eqs1, h_eCallNM, h_callNM, h_eMakeM, h_makeM, h_mkMo, h_mkMx, h_mkMn, h_eMakeNM, h_makeNM, h_eCallOM, h_callOMs, h_eAppR, h_isOl, h_apmK, h_runR_ex, h_retX, h_look1, h_look2, h_div, h_mod, h_mulL, h_mulR, h_rngOk, List.zip_cons_cons, List.zip_nil_left, if_pos, if_neg, List.getElem?_cons_zero, List.getElem?_cons_succ, List.getElem?_nil, List.getLast?_append, List.getLast?_singleton, List.getLast?_cons_cons, runFn, env0, Option.toList, List.map_cons, List.map_nil, List.length_cons, List.length_nil, List.length_append, List.length_map, List.length_set, List.replicate, List.cons_append, List.nil_append, List.append_nil, Nat.reduceSub, Nat.reduceAdd, Nat.reduceLT, Nat.reduceLeDiff, Nat.reduceEqDiff, Nat.zero_add, Nat.add_zero, List.set_cons_zero, List.set_cons_succ, List.set_nil, Option.bind_some, Option.bind_none, Option.map_some, Option.map_none, List.foldl_cons, List.foldl_nil, not_false_eq_true, not_true_eq_false, and_true, true_and, and_self, and_false, false_and, if_true, if_false, ite_true, ite_false, reduceIte, List.not_mem_nil, reduceCtorEq, List.mem_cons, or_false, false_or, or_self, ne_eq, Bool.not_true, Bool.not_false, Bool.and_true, Bool.and_false, Bool.true_and, Bool.false_and, Bool.or_true, Bool.or_false, Bool.true_or, Bool.false_or, Bool.and_self, Bool.or_self, List.all_cons, List.all_nil, decide_true, decide_false, decide_not, decide_eq_true_eq, decide_eq_false_iff_not, Bool.not_not, Int.reduceLT, Int.reduceLE, Int.reduceEq, Int.reduceNe, Int.reduceAdd, Int.reduceMul, Int.reduceSub, Int.reduceNeg, List.isEmpty_cons, List.isEmpty_nil, Bool.false_eq_true, Bool.true_eq_false, String.reduceEq, Function.comp_apply, Option.isNone_none, Option.some_or, Option.isNone_some, List.getLast?_concat, List.dropLast_concat, List.all_append])
theorem atI_mem {α : Type} {xs : List α} {i : Int} (h0 : 0 ≤ i) (h1 : i < xs.length) : ∃ x ∈ xs, atI xs i = some x := by
  have hi : i.toNat < xs.length := by omega
  refine ⟨xs[i.toNat], List.getElem_mem _, ?_⟩
  have e : atI xs i = xs[i.toNat]? := by
    have e : i = (i.toNat : Int) := by omega
    generalize i.toNat = n at e
    subst e
    exact atI_litN _
  rw [e, List.getElem?_eq_getElem hi]
abbrev kd (c : String) : D := .ins c [] []
theorem u_ip (k : Nat) (c : String) : semT (tbl W) (k + 1) "Inner.pairs" [kd c] none = .ok (.bl true) none := by
  rw [sem_Inner_pairs]; unfold b_Inner_pairs; walk_at "evc"
theorem u_sp (k : Nat) (c : String) : semT (tbl W) (k + 1) "Semi.pairs" [kd c] none = .ok (.bl false) none := by
  rw [sem_Semi_pairs]; unfold b_Semi_pairs; walk_at "evc"
theorem u_il (k : Nat) (c : String) (b : Bool) : semT (tbl W) (k + 1) "Inner.left_alone" [kd c, .bl b] none = .ok (.bl false) none := by
  rw [sem_Inner_left_alone]; unfold b_Inner_left_alone; walk_at "evc"
theorem u_ir (k : Nat) (c : String) (b : Bool) : semT (tbl W) (k + 1) "Inner.right_alone" [kd c, .bl b] none = .ok (.bl false) none := by
  rw [sem_Inner_right_alone]; unfold b_Inner_right_alone; walk_at "evc"
theorem u_sl (k : Nat) (c : String) (b : Bool) : semT (tbl W) (k + 1) "Semi.left_alone" [kd c, .bl b] none = .ok (.bl b) none := by
  rw [sem_Semi_left_alone]; unfold b_Semi_left_alone; walk_at "evc"
theorem runOr_eq (φ : Sem) (r : String → Option String) (x : D) (b : Bool) : runSupOr φ r [x, .bl b] none = orB b (supF φ r x (.bl b)) := rfl
theorem runNot_eq (φ : Sem) (r : String → Option String) (x : D) (b : Bool) : runSupNot φ r [x, .bl b] none = noB (supF φ r x (.bl b)) := rfl
theorem u_ll (k : Nat) (c : String) (hc : c = "LeftOuter" ∨ c = "FullOuter") (b : Bool) : semT (tbl W) (k + 2) "LeftOuter.left_alone" [kd c, .bl b] none = .ok (.bl (!b)) none := by
  rw [sem_LeftOuter_left_alone]
  have e : supF (semT (tbl W) (k + 1)) r_LeftOuter_left_alone (kd c) (.bl b) = .ok (.bl false) none := by
    rw [← u_il (W := W) k c b]
    rcases hc with rfl | rfl <;> simp [supF, r_LeftOuter_left_alone]
  rw [runOr_eq, e]; simp [orB]
theorem u_rr (k : Nat) (b : Bool) : semT (tbl W) (k + 2) "RightOuter.right_alone" [kd "RightOuter", .bl b] none = .ok (.bl (!b)) none := by
  rw [sem_RightOuter_right_alone]
  have e : supF (semT (tbl W) (k + 1)) r_RightOuter_right_alone (kd "RightOuter") (.bl b) = .ok (.bl false) none := by
    rw [← u_ir (W := W) k "RightOuter" b]
    simp [supF, r_RightOuter_right_alone]
  rw [runOr_eq, e]; simp [orB]
theorem u_fr (k : Nat) (b : Bool) : semT (tbl W) (k + 2) "FullOuter.right_alone" [kd "FullOuter", .bl b] none = .ok (.bl (!b)) none := by
  rw [sem_FullOuter_right_alone]
  have e : supF (semT (tbl W) (k + 1)) r_FullOuter_right_alone (kd "FullOuter") (.bl b) = .ok (.bl false) none := by
    rw [← u_ir (W := W) k "FullOuter" b]
    simp [supF, r_FullOuter_right_alone]
  rw [runOr_eq, e]; simp [orB]
theorem u_al (k : Nat) (b : Bool) : semT (tbl W) (k + 2) "Anti.left_alone" [kd "Anti", .bl b] none = .ok (.bl (!b)) none := by
  rw [sem_Anti_left_alone]
  have e : supF (semT (tbl W) (k + 1)) r_Anti_left_alone (kd "Anti") (.bl b) = .ok (.bl b) none := by
    rw [← u_sl (W := W) k "Anti" b]
    simp [supF, r_Anti_left_alone]
  rw [runNot_eq, e]; simp [noB]
def k6 : List (String × String) := [("Inner", "inner"), ("LeftOuter", "left"), ("RightOuter", "right"), ("FullOuter", "full"), ("Semi", "semi"), ("Anti", "anti")]
def pairsB (c : String) : Bool := if c = "Semi" ∨ c = "Anti" then false else true
def leftB (c : String) (b : Bool) : Bool := if c = "LeftOuter" ∨ c = "FullOuter" ∨ c = "Anti" then !b else if c = "Semi" then b else false
def rightB (c : String) (b : Bool) : Bool := if c = "RightOuter" ∨ c = "FullOuter" then !b else false
theorem f_due (k : Nat) {c w : String} (h : (c, w) ∈ k6) (b : Bool) : semT (tbl W) (k + 1) "_law_due" [.str w, .bl b] none = .ok (.olst [.bl (pairsB c), .bl (leftB c b), .bl (rightB c b)]) none := by
  rw [sem_law_due]
  unfold b_law_due
  simp only [k6, List.mem_cons, List.not_mem_nil, or_false, Prod.mk.injEq] at h
  rcases h with ⟨rfl, rfl⟩ | ⟨rfl, rfl⟩ | ⟨rfl, rfl⟩ | ⟨rfl, rfl⟩ | ⟨rfl, rfl⟩ | ⟨rfl, rfl⟩ <;> (walk_at "evc"; try rfl)
def classesL (c : String) : List D := if c = "Inner" then [.str "inner"] else if c = "LeftOuter" then [.str "inner", .str "left"] else if c = "RightOuter" then [.str "inner", .str "right"] else if c = "FullOuter" then [.str "inner", .str "left", .str "full"] else if c = "Semi" then [.str "inner", .str "semi"] else [.str "inner", .str "semi", .str "anti"]
theorem f_classes (k : Nat) {c w : String} (h : (c, w) ∈ k6) : semT (tbl W) (k + 1) "_law_classes" [kd c] none = .ok (.olst (classesL c)) none := by
  rw [sem_law_classes]
  unfold b_law_classes
  simp only [k6, List.mem_cons, List.not_mem_nil, or_false, Prod.mk.injEq] at h
  rcases h with ⟨rfl, rfl⟩ | ⟨rfl, rfl⟩ | ⟨rfl, rfl⟩ | ⟨rfl, rfl⟩ | ⟨rfl, rfl⟩ | ⟨rfl, rfl⟩ <;> (walk_at "evc"; try rfl)
theorem f_kind_named (k : Nat) {c w : String} (h : (c, w) ∈ k6) : semT (tbl W) (k + 1) "kind_named" [.str w] none = .ok (kd c) none := by
  rw [sem_kind_named]
  unfold b_kind_named
  simp only [k6, List.mem_cons, List.not_mem_nil, or_false, Prod.mk.injEq] at h
  rcases h with ⟨rfl, rfl⟩ | ⟨rfl, rfl⟩ | ⟨rfl, rfl⟩ | ⟨rfl, rfl⟩ | ⟨rfl, rfl⟩ | ⟨rfl, rfl⟩ <;> (walk_at "evc"; unfold l1_kind_named; walk_at "evc"; try rfl)
def wt : List D := [.str "", .str "Inner", .str "outer", .str "inner ", .str "full\n", .non, .bl true, .int 3, .lst [.str "inner"], .tup [.str "left"], .str "leftright", .str "ANTI"]
theorem wt_sh {r : D} (h : r ∈ wt) : isSh r = true := by
  simp only [wt, List.mem_cons, List.not_mem_nil, or_false] at h
  rcases h with rfl | rfl | rfl | rfl | rfl | rfl | rfl | rfl | rfl | rfl | rfl | rfl <;> rfl
abbrev bkx (d : D) : Exn := ⟨"BadKind", [("word", d)]⟩
theorem x_kind_named (k : Nat) {d : D} (h : d ∈ wt) : semT (tbl W) (k + 1) "kind_named" [d] none = .exn (bkx d) none := by
  rw [sem_kind_named]
  unfold b_kind_named
  simp only [wt, List.mem_cons, List.not_mem_nil, or_false] at h
  rcases h with rfl | rfl | rfl | rfl | rfl | rfl | rfl | rfl | rfl | rfl | rfl | rfl <;> (walk_at "evc"; unfold l1_kind_named; walk_at "evc"; try rfl)
theorem u_ll1 (k : Nat) (b : Bool) : semT (tbl W) (k + 2) "LeftOuter.left_alone" [kd "LeftOuter", .bl b] none = .ok (.bl (!b)) none := u_ll k _ (.inl rfl) b
theorem u_ll2 (k : Nat) (b : Bool) : semT (tbl W) (k + 2) "LeftOuter.left_alone" [kd "FullOuter", .bl b] none = .ok (.bl (!b)) none := u_ll k _ (.inr rfl) b
theorem pp1 {a b c d : D} : putP [Sum.inr (so "inner"), Sum.inr (so "left"), Sum.inr (so "right")] [a, b, c] (Sum.inr (so "full")) d = some ([Sum.inr (so "inner"), Sum.inr (so "left"), Sum.inr (so "right"), Sum.inr (so "full")], [a, b, c, d]) := rfl
theorem pp2 {a b c d e : D} : putP [Sum.inr (so "inner"), Sum.inr (so "left"), Sum.inr (so "right"), Sum.inr (so "full")] [a, b, c, d] (Sum.inr (so "semi")) e = some ([Sum.inr (so "inner"), Sum.inr (so "left"), Sum.inr (so "right"), Sum.inr (so "full"), Sum.inr (so "semi")], [a, b, c, d, e]) := rfl
theorem pp3 {a b c d e f : D} : putP [Sum.inr (so "inner"), Sum.inr (so "left"), Sum.inr (so "right"), Sum.inr (so "full"), Sum.inr (so "semi")] [a, b, c, d, e] (Sum.inr (so "anti")) f = some ([Sum.inr (so "inner"), Sum.inr (so "left"), Sum.inr (so "right"), Sum.inr (so "full"), Sum.inr (so "semi"), Sum.inr (so "anti")], [a, b, c, d, e, f]) := rfl
theorem dg1 {a b c d e f : D} : dg [Sum.inr (so "inner"), Sum.inr (so "left"), Sum.inr (so "right"), Sum.inr (so "full"), Sum.inr (so "semi"), Sum.inr (so "anti")] [a, b, c, d, e, f] (Sum.inr (so "inner")) = some a := rfl
theorem dg2 {a b c d e f : D} : dg [Sum.inr (so "inner"), Sum.inr (so "left"), Sum.inr (so "right"), Sum.inr (so "full"), Sum.inr (so "semi"), Sum.inr (so "anti")] [a, b, c, d, e, f] (Sum.inr (so "left")) = some b := rfl
theorem dg3 {a b c d e f : D} : dg [Sum.inr (so "inner"), Sum.inr (so "left"), Sum.inr (so "right"), Sum.inr (so "full"), Sum.inr (so "semi"), Sum.inr (so "anti")] [a, b, c, d, e, f] (Sum.inr (so "right")) = some c := rfl
theorem dg4 {a b c d e f : D} : dg [Sum.inr (so "inner"), Sum.inr (so "left"), Sum.inr (so "right"), Sum.inr (so "full"), Sum.inr (so "semi"), Sum.inr (so "anti")] [a, b, c, d, e, f] (Sum.inr (so "full")) = some d := rfl
theorem dg5 {a b c d e f : D} : dg [Sum.inr (so "inner"), Sum.inr (so "left"), Sum.inr (so "right"), Sum.inr (so "full"), Sum.inr (so "semi"), Sum.inr (so "anti")] [a, b, c, d, e, f] (Sum.inr (so "semi")) = some e := rfl
theorem dg6 {a b c d e f : D} : dg [Sum.inr (so "inner"), Sum.inr (so "left"), Sum.inr (so "right"), Sum.inr (so "full"), Sum.inr (so "semi"), Sum.inr (so "anti")] [a, b, c, d, e, f] (Sum.inr (so "anti")) = some f := rfl
local macro_rules | `(tactic| walk_at "evk") => `(tactic| try simp (maxSteps := 1000000) (disch := first | omega | decide) only [pp1, pp2, pp3, dg1, dg2, dg3, dg4, dg5, dg6, u_ip, u_sp, u_il, u_ir, u_sl, u_ll1, u_ll2, u_rr, u_fr, u_al, q_sl, q_st, q_si, q_sb, q_sn, rw_Inner, rw_LeftOuter, rw_RightOuter, rw_FullOuter, rw_Semi, rw_Anti, xs_JoinError_JoinError, xs_JoinError_BadRow, xs_JoinError_BadKind, xs_BadRow_JoinError, xs_BadRow_BadRow, xs_BadRow_BadKind, xs_BadKind_JoinError, xs_BadKind_BadRow, xs_BadKind_BadKind, ik_Inner, rs_Inner_left_alone, rs_Inner_pairs, rs_Inner_right_alone, sb_Inner_Inner, sb_Inner_LeftOuter, sb_Inner_RightOuter, sb_Inner_FullOuter, sb_Inner_Semi, sb_Inner_Anti, ik_LeftOuter, rs_LeftOuter_left_alone, rs_LeftOuter_pairs, rs_LeftOuter_right_alone, sb_LeftOuter_Inner, sb_LeftOuter_LeftOuter, sb_LeftOuter_RightOuter, sb_LeftOuter_FullOuter, sb_LeftOuter_Semi, sb_LeftOuter_Anti, ik_RightOuter, rs_RightOuter_left_alone, rs_RightOuter_pairs, rs_RightOuter_right_alone, sb_RightOuter_Inner, sb_RightOuter_LeftOuter, sb_RightOuter_RightOuter, sb_RightOuter_FullOuter, sb_RightOuter_Semi, sb_RightOuter_Anti, ik_FullOuter, rs_FullOuter_left_alone, rs_FullOuter_pairs, rs_FullOuter_right_alone, sb_FullOuter_Inner, sb_FullOuter_LeftOuter, sb_FullOuter_RightOuter, sb_FullOuter_FullOuter, sb_FullOuter_Semi, sb_FullOuter_Anti, ik_Semi, rs_Semi_left_alone, rs_Semi_pairs, rs_Semi_right_alone, sb_Semi_Inner, sb_Semi_LeftOuter, sb_Semi_RightOuter, sb_Semi_FullOuter, sb_Semi_Semi, sb_Semi_Anti, ik_Anti, rs_Anti_left_alone, rs_Anti_pairs, rs_Anti_right_alone, sb_Anti_Inner, sb_Anti_LeftOuter, sb_Anti_RightOuter, sb_Anti_FullOuter, sb_Anti_Semi, sb_Anti_Anti, e_xsSeq, e_xsNext, e_xsBreak, e_xsCont, e_xsNever, e_xsRetN, e_xsAsg, e_xsAsgG, e_xsExpr, e_xsRet, e_xsIf, e_xsFrz, e_xmP, e_xVar_V, e_xtV, e_xtTru, e_xtAnd, e_xtOr, e_xtNot, e_xtYes, e_xVar, e_xInt, e_xBl, e_xNon, e_xStr, e_xSub, e_xMul, e_xDiv, e_xMod, e_xPow, e_xNeg, e_xAdd, e_xEq, e_xInE, e_xNe, e_xLt, e_xLe, e_xGt, e_xGe, e_xIsN, e_xNotN, e_xAnd, e_xOr, e_xNot, e_xChainI, e_xIf, e_xTup, e_xLst, e_xInt1, e_xAbs, e_xMax2, e_xMin2, e_xLen, e_xIx, e_xFld, e_xList, e_xTuple, e_xIsi, e_xIsiT, e_xCall, e_xLc, e_xSorted, e_xmVar, e_xmMove, e_xmAppend, e_xmExtend, e_xmInsert, e_xmPop, e_xmReverse, e_xmClear, e_xoNil, e_xoCons, e_plVar, r_plVar, r_plFld, r_plIx, e_plFld, e_plIx, e_xaNilV, e_xaNilF, e_xaConsV, e_xaConsF, e_xgN, e_xgsNil, e_xgsCons, e_xgT, o_xgN, o_xgT, o_xgsNil, o_xgsCons, e_xiSeqF, e_xiSeqP, e_xiR1F, e_xiR1P, e_xiR2F, e_xiR2P, e_xiEnumF, e_xiZipF, e_xiEnumP, e_xiZipP, e_xsFor, e_xsWhile, e_xsAug, e_evV, e_evK, e_evF, e_evO, e_evB, h_getS0, h_getS0n, h_getSs, h_toV, h_toVn, h_toKf, h_toKp, h_toKv, h_toKn, h_toFf, h_toFp, h_toFv, h_toFn, h_toOf, h_toOp, h_toOv, h_toOn, h_of_f, h_of_p, h_of_v, h_then_nx, h_then_rt, h_then_bk, h_then_ct, h_then_ex, h_then_no, h_thenS_ok, h_thenS_exn, h_thenS_no, h_ofO, h_ofOn, h_of, h_ofn, h_mofO, h_mofOn, h_iteF1, h_iteF0, h_iteFn, h_asgK, h_asgGK, h_ifF1, h_ifF0, h_forK, h_chF0, h_chF1, h_andF1, h_andF0, h_orF1, h_orF0, h_blD, h_turn, h_turnn, h_forE, h_forEn, h_callF, h_callV, h_rzF, h_rzV, h_fz_non, h_sh_non, h_fl_non, h_isN_non, h_fz_bl, h_sh_bl, h_fl_bl, h_fz_int, h_sh_int, h_fl_int, h_isN_int, h_fz_str, h_sh_str, h_fl_str, h_isN_str, h_fz_cls, h_sh_cls, h_fl_cls, h_isN_cls, h_fz_sei, h_sh_sei, h_fl_sei, h_isN_sei, h_fz_scr, h_sh_scr, h_fl_scr, h_isN_scr, h_fz_tup, h_sh_tup, h_fl_tup, h_isN_tup, h_fz_lst, h_sh_lst, h_fl_lst, h_isN_lst, h_fz_dic, h_sh_dic, h_fl_dic, h_isN_dic, h_fz_dit, h_sh_dit, h_fl_dit, h_isN_dit, h_fz_dig, h_sh_dig, h_fl_dig, h_isN_dig, h_fz_ins, h_sh_ins, h_fl_ins, h_isN_ins, h_isN_bl, h_fz_olst, h_sh_olst, h_fl_olst, h_fz_odic, h_sh_odic, h_fl_odic, h_fz_odit, h_sh_odit, h_fl_odit, h_fz_odig, h_sh_odig, h_fl_odig, h_fz_oins, h_sh_oins, h_fl_oins, h_fzs_nil, h_fzs_cons, h_fzs_app, h_tru_bl, h_tru_non, h_tru_int, h_tru_lst, h_tru_tup, h_sub, h_neg, h_addI, h_addT, h_addL, h_addLo, h_addoL, h_addoo, h_eqD, h_neD, h_ok_non, h_ok_bl, h_ok_int, h_ok_str, h_ok_tup, h_ok_lst, h_oks_nil, h_oks_cons, h_eqB_ii, h_eqB_ss, h_eqB_bb, h_eqB_nn, h_eqB_ni, h_eqB_in, h_eqB_nt, h_eqB_tn, h_eqB_tt, h_eqB_ll, h_eqBs_nn, h_eqBs_cc, h_eqBs_nc, h_eqBs_cn, h_cmp, h_ltI, h_ltT, h_ints_nil, h_ints_cons, h_intI, h_intB, h_abs, h_max2, h_min2, h_lenL, h_lenT, h_lenS, h_ix, h_it_lst, h_it_olst, h_it_tup, h_it_scr, h_at0, h_at1, h_at2, h_at3, h_at4, h_at5, h_at6, h_at7, h_at8, h_at9, h_at10, h_at11, h_at12, h_atm1, h_seq_lst, h_seq_tup, h_seq_olst, h_seq_scr, h_sF_lst, h_sF_tup, h_sF_scr, h_lF_lst, h_ty_non, h_ty_bl, h_ty_int, h_ty_str, h_ty_lst, h_ty_tup, h_ty_ins, h_isi_bb, h_isi_bo, h_isi_ob, h_isi_oo, h_isiA_n, h_isiA_c, h_isiB_NoneType_bool, h_isiB_NoneType_int, h_isiB_NoneType_str, h_isiB_NoneType_list, h_isiB_NoneType_tuple, h_isiB_NoneType_dict, h_isiB_bool_bool, h_isiB_bool_int, h_isiB_bool_str, h_isiB_bool_list, h_isiB_bool_tuple, h_isiB_bool_dict, h_isiB_int_bool, h_isiB_int_int, h_isiB_int_str, h_isiB_int_list, h_isiB_int_tuple, h_isiB_int_dict, h_isiB_str_bool, h_isiB_str_int, h_isiB_str_str, h_isiB_str_list, h_isiB_str_tuple, h_isiB_str_dict, h_isiB_list_bool, h_isiB_list_int, h_isiB_list_str, h_isiB_list_list, h_isiB_list_tuple, h_isiB_list_dict, h_isiB_tuple_bool, h_isiB_tuple_int, h_isiB_tuple_str, h_isiB_tuple_list, h_isiB_tuple_tuple, h_isiB_tuple_dict, h_isiB_dict_bool, h_isiB_dict_int, h_isiB_dict_str, h_isiB_dict_list, h_isiB_dict_tuple, h_isiB_dict_dict, h_append, h_extL, h_extO, h_pop, h_rev, h_clear, h_insert, h_put0, h_rng1, h_rng2, h_guard1, h_guard0, h_forLn, h_forLc, h_forT_nx, h_forT_ct, h_forT_bk, h_forT_rt, h_forT_ex, h_lc1, h_lcK, h_lcJ1, h_lcJ0, h_wipe0, h_wipes, h_frz, h_frzO, h_frzOn, h_runR_rt, h_runR_nx, h_retZ, h_bGetn, h_bGets, h_setS, h_ipD, h_fldI, h_fldO, h_sfld, h_six, h_iteFd1, h_iteFd0, h_iteFe1, h_iteFe0, h_andFd1, h_andFd0, h_andFe1, h_andFe0, h_orFd1, h_orFd0, h_orFe1, h_orFe0, h_ifFd1, h_ifFd0, h_ifFe1, h_ifFe0, h_lcJd1, h_lcJd0, h_lcJe1, h_lcJe0, h_eMeth, h_methF, h_methV, h_methW, h_eCallO, h_callOF, h_callOV, h_callOW, h_callO1, h_meth1, h_meth2, h_resE, h_resEn, h_posn, h_posc, h_eMmeth, h_methM1, h_methM0, h_rm0o, h_rm0x, h_rm0n, h_rm1o, h_rm1x, h_putc, h_putE, h_subF, h_subI, h_putF, h_putI, h_setOs, h_eSfld, h_fldK, h_setFD, h_setFn, h_setFc, h_eMake, h_makeF, h_makeV, h_mk1, h_mkR, h_eProp, h_propF, h_propV, h_prop1, h_eLenU, h_lenI_lst, h_lenI_tup, h_lenI_scr, h_lenI_ins, h_lenQ, h_lenR, h_eSl, h_slE, h_evI0, h_evI1, h_intO, h_eSortR, h_eMs0, h_eMs1, h_RMthenL_ok, h_RLthenL_ok, h_RLthenM_ok, h_RMthenM_ok, h_RMthenT_ok, h_RTthen_ok, h_RTthenS_ok, h_RMthenL_exn, h_RLthenL_exn, h_RLthenM_exn, h_RMthenM_exn, h_RMthenT_exn, h_RTthen_exn, h_RTthenS_exn, h_consK, h_consL, h_eCallM, h_callM, h_etmT, h_etmTru, h_etmNot, h_etmAnd, h_etmOr, h_RTof, h_truK, h_notK, h_andK1, h_andK0, h_orK1, h_orK0, h_esIfM, h_ifK1, h_ifK0, h_eOpL, h_opK, h_andKd1, h_andKd0, h_orKd1, h_orKd0, h_ifKd1, h_ifKd0, h_eFz, h_eListU, h_lstE_lst, h_lstE_tup, h_lstE_scr, h_lstE_olst, h_lstE_ins, h_itQ, h_it_ins, h_lo_lst, h_lo_olst, h_eiSeqUF, h_eiSeqUP, h_eiEnumUF, h_eiEnumUP, h_eiEnumTF, h_eiEnumTP, h_enTI_tup, h_enTI_lst, h_enTI_ins, h_seqFI_lst, h_seqFI_tup, h_seqFI_scr, h_seqFI_ins, h_seqKI_lst, h_seqKI_tup, h_seqKI_scr, h_seqKI_ins, h_seqKI_olst, h_enFI_lst, h_enFI_ins, h_enKI_lst, h_enKI_ins, h_enKI_olst, h_eIxO, h_eEqO, h_eAddO, h_orI_s, h_orI_n, h_ixD_ins, h_okD_ins, h_eqD_ins, h_addD_ins, h_addD_oins, h_own_F, h_own_V, h_own_W, h_ownE, h_okAny, h_okSame, h_okEq_i, h_okEq_non, h_okEq_bl, h_okEq_int, h_okEq_str, h_okEq_lst, h_okEq_tup, h_okEq_scr, h_eBest, h_eSum, h_sumI, h_eAddV, h_addLV, h_eSortV, h_sortV, h_eSset, h_setK, h_storeD, h_eCallN, h_kwE_F, h_kwE_V, h_kwE_W, h_eMakeN, h_makeNE_F, h_makeNE_V, h_makeNE_W, h_mkN, h_mgM_t, h_mgM_f, h_mgM_n, h_eCallL, h_listFl, h_eDnew, h_eDget2, h_getE_non, h_getE_int, h_getE_str, h_getM_s, h_getM_n, h_eDix, h_dgE_int, h_dgE_str, h_eIn, h_eDin, h_inK_non, h_inK_int, h_inK_str, h_eDlist, h_eDict, h_eDlen, h_dicOf_d, h_dicOf_o, h_dicF_d, h_dicF_o, h_eDput, h_dputK, h_dputI, h_dputS, h_eForD, h_lockR, h_noEx_nx, h_noEx_rt, h_isDic, h_dsK, h_eLcD, h_eDc, h_eDcD, h_frE_s, h_frE_n, h_guardB_t, h_dc1, h_dcK, h_dcJ1, h_dcJ0, h_keyD_i, h_keyD_s, h_eDapp, h_dappI, h_kDs_n, h_kDs_c, h_dcL_n, h_putP_n, h_eMakeL, h_eMakeNL, h_eCallW, h_orEEs, h_orEEn, h_mkNV, h_eMk0, h_eCon, h_conD0, h_eSortSet, h_eAndO, h_eCallB, h_ebNil, h_ebCons, h_lend_olst, h_lend_int, h_lend_str, h_lend_bl, h_lend_non, h_lend_tup, h_lend_lst, h_lend_ins, h_lend_dic, h_eMakeB, h_lentEs, h_lentEn, h_ofBs, h_ofBn, h_oNl_int, h_oNl_str, h_oNl_bl, h_oNl_n, h_oNl_ins, h_oNl_oins, h_oNl_dic, h_oNl_odic, h_oNl_tup, h_oNl_olst, h_oNls_n, h_oNls_c, h_ofDs, h_ofDn, h_okD0s, h_oFl_i, h_oFl_s, h_oFl_b, h_oFl_n, h_oFl_ins, h_oFl_odic, h_oFl_olst, h_oFls_n, h_oFls_c, h_eDisp, h_dispEn, h_dispEc, h_eForO, h_forOFs, h_forOFn, h_ownLo, h_ownLl, h_ownLt, h_ownLs, h_ownLn, h_reRn, h_reRr, h_reRx, h_ePar, h_par2, h_eRaise, h_exOf, h_exOfn, h_eTryAs, h_tryK_nx, h_tryK_rt, h_tryK_bk, h_tryK_ct, h_tryK_no, h_tryK_ex, h_tryJ1, h_tryJ0, h_clr_nx, h_clr_rt, h_clr_bk, h_clr_ct, h_clr_no, h_ehAsg, h_hAsgK, h_hAsgKn, h_ehRet, h_hRetK, h_hRetKn, h_qevO, h_qevB, h_qevF, h_toQf, h_toQp, h_toQv, h_toQn, h_eqP, h_eqFld, h_eqIs, h_eqIsT, h_isX1t, h_isX1f, h_isXAn, h_isXAc, h_eqAnd, h_eqOr, h_eqNot, h_eqLst, h_eqs0, h_eqs1, h_eCallNM, h_callNM, h_eMakeM, h_makeM, h_mkMo, h_mkMx, h_mkMn, h_eMakeNM, h_makeNM, h_eCallOM, h_callOMs, h_eAppR, h_isOl, h_apmK, h_runR_ex, h_retX, h_look1, h_look2, h_div, h_mod, h_mulL, h_mulR, h_rngOk, List.zip_cons_cons, List.zip_nil_left, if_pos, if_neg, List.getElem?_cons_zero, List.getElem?_cons_succ, List.getElem?_nil, List.getLast?_append, List.getLast?_singleton, List.getLast?_cons_cons, runFn, env0, Option.toList, List.map_cons, List.map_nil, List.length_cons, List.length_nil, List.length_append, List.length_map, List.length_set, List.replicate, List.cons_append, List.nil_append, List.append_nil, Nat.reduceSub, Nat.reduceAdd, Nat.reduceLT, Nat.reduceLeDiff, Nat.reduceEqDiff, Nat.zero_add, Nat.add_zero, List.set_cons_zero, List.set_cons_succ, List.set_nil, Option.bind_some, Option.bind_none, Option.map_some, Option.map_none, List.foldl_cons, List.foldl_nil, not_false_eq_true, not_true_eq_false, and_true, true_and, and_self, and_false, false_and, if_true, if_false, ite_true, ite_false, reduceIte, List.not_mem_nil, reduceCtorEq, List.mem_cons, or_false, false_or, or_self, ne_eq, Bool.not_true, Bool.not_false, Bool.and_true, Bool.and_false, Bool.true_and, Bool.false_and, Bool.or_true, Bool.or_false, Bool.true_or, Bool.false_or, Bool.and_self, Bool.or_self, List.all_cons, List.all_nil, decide_true, decide_false, decide_not, decide_eq_true_eq, decide_eq_false_iff_not, Bool.not_not, Int.reduceLT, Int.reduceLE, Int.reduceEq, Int.reduceNe, Int.reduceAdd, Int.reduceMul, Int.reduceSub, Int.reduceNeg, List.isEmpty_cons, List.isEmpty_nil, Bool.false_eq_true, Bool.true_eq_false, String.reduceEq, Function.comp_apply, Option.isNone_none, Option.some_or, Option.isNone_some, List.getLast?_concat, List.dropLast_concat, List.all_append])
theorem f_is_kind (k : Nat) {c w : String} (h : (c, w) ∈ k6) : semT (tbl W) (k + 4) "_law_is_kind" [kd c, .str w] none = .ok (.bl true) none := by
  have hd := fun b => f_due (W := W) (k + 2) h b
  have hc := f_classes (W := W) (k + 2) h
  rw [sem_law_is_kind]
  unfold b_law_is_kind
  simp only [k6, List.mem_cons, List.not_mem_nil, or_false, Prod.mk.injEq] at h
  rcases h with ⟨rfl, rfl⟩ | ⟨rfl, rfl⟩ | ⟨rfl, rfl⟩ | ⟨rfl, rfl⟩ | ⟨rfl, rfl⟩ | ⟨rfl, rfl⟩
  all_goals
    simp only [classesL, if_true, if_false, String.reduceEq] at hc
    simp only [pairsB, leftB, rightB, if_true, if_false, String.reduceEq, or_true, true_or, or_false, false_or] at hd
    walk_at "evk"
    rw [hc]
    walk_at "evk"
    unfold l1_law_is_kind l2_law_is_kind
    walk_at "evk"
    rw [hd]
    walk_at "evk"
    rw [hd]
    walk_at "evk"
    rw [hd]
    walk_at "evk"
theorem law_true (W : Wd TT) (ns : List Int) (hns : ns.length ≤ 63) : runFn 10 (b_law W (semT (tbl W) 5)) [.scr ns] none = .ok (.bl true) none := by
  unfold b_law
  walk_at "evc"
  rw [f_law_draws 4 (by decide) (by decide) (by decide)]
  have hl := draws_length ns 0 4
  have ho := draws_ok ns 0 4
  match hd : draws ns 0 4, hl with
  | [a, b, c, d], _ =>
  rw [hd] at ho
  have ha := ho a (by simp)
  have hb := ho b (by simp)
  have hc := ho c (by simp)
  have hd := ho d (by simp)
  have six : ∀ i : Int, 0 ≤ i → i < 6 → ∃ cl w, (cl, w) ∈ k6 ∧ atI [D.str "inner", .str "left", .str "right", .str "full", .str "semi", .str "anti"] i = some (.str w) ∧ atI [kd "Inner", kd "LeftOuter", kd "RightOuter", kd "FullOuter", kd "Semi", kd "Anti"] i = some (kd cl) := by
    intro i h0 h1
    obtain ⟨n, rfl⟩ : ∃ n : Nat, i = (n : Int) := ⟨i.toNat, by omega⟩
    have hn : n < 6 := by omega
    rw [atI_litN, atI_litN]
    match n, hn with
    | 0, _ => exact ⟨_, _, by simp [k6], rfl, rfl⟩
    | 1, _ => exact ⟨_, _, by simp [k6], rfl, rfl⟩
    | 2, _ => exact ⟨_, _, by simp [k6], rfl, rfl⟩
    | 3, _ => exact ⟨_, _, by simp [k6], rfl, rfl⟩
    | 4, _ => exact ⟨_, _, by simp [k6], rfl, rfl⟩
    | 5, _ => exact ⟨_, _, by simp [k6], rfl, rfl⟩
  obtain ⟨c1, w1, m1, e1, _⟩ := six (a % 6) (by omega) (by omega)
  obtain ⟨c2, w2, m2, e2, e3⟩ := six (c % 6) (by omega) (by omega)
  have k1 := f_kind_named (W := W) 4 m1
  have i1 := f_is_kind (W := W) 1 m1
  have i2 := f_is_kind (W := W) 1 m2
  walk_at "evc"
  rw [e1]
  walk_at "evc"
  rw [k1]
  walk_at "evc"
  rw [i1]
  walk_at "evc"
  rw [e2, e3]
  walk_at "evc"
  rw [i2]
  walk_at "evc"
  by_cases hb4 : b % 4 = 3
  · rw [decide_eq_true hb4]
    walk_at "evc"
    obtain ⟨t, ht, et⟩ := atI_mem (xs := wt) (i := d % 12) (by omega) (by show d % 12 < 12; omega)
    have hts := wt_sh ht
    have x1 := x_kind_named (W := W) 4 ht
    unfold wt at et
    rw [et]
    clear et hts
    simp only [wt, List.mem_cons, List.not_mem_nil, or_false] at ht
    rcases ht with rfl | rfl | rfl | rfl | rfl | rfl | rfl | rfl | rfl | rfl | rfl | rfl
    all_goals
      walk_at "evc"
      rw [x1]
      walk_at "evc"
      rw [x1]
      walk_at "evc"
  · rw [decide_eq_false hb4]
    walk_at "evc"
end
end Py

namespace Py
open PySem L2
def dd_kind_named : DefX := ⟨fun K => ga K "kind_named", "kind_named", "kind_named", s_kind_named, [], [], false⟩
def dd_law_draws : DefX := ⟨fun K => ga K "_law_draws", "_law_draws", "_law_draws", s_law_draws, [], [], false⟩
def dd_law_classes : DefX := ⟨fun K => ga K "_law_classes", "_law_classes", "_law_classes", s_law_classes, [], [], false⟩
def dd_law_due : DefX := ⟨fun K => ga K "_law_due", "_law_due", "_law_due", s_law_due, [], [], false⟩
def dd_law_is_kind : DefX := ⟨fun K => ga K "_law_is_kind", "_law_is_kind", "_law_is_kind", s_law_is_kind, [], [], false⟩
def dd_law : DefX := ⟨fun K => ga K "law", "law", "law", s_law, [], [], false⟩
def de_Inner_pairs : DefX := ⟨fun K => ma K "Inner" "pairs", "pairs", "Inner.pairs", s_Inner_pairs, [], [], false⟩
def de_Inner_left_alone : DefX := ⟨fun K => ma K "Inner" "left_alone", "left_alone", "Inner.left_alone", s_Inner_left_alone, [], [], false⟩
def de_Inner_right_alone : DefX := ⟨fun K => ma K "Inner" "right_alone", "right_alone", "Inner.right_alone", s_Inner_right_alone, [], [], false⟩
def de_LeftOuter_pairs : DefX := ⟨fun K => ma K "LeftOuter" "pairs", "pairs", "Inner.pairs", s_Inner_pairs, [], [], false⟩
def de_LeftOuter_left_alone : DefX := ⟨fun K => ma K "LeftOuter" "left_alone", "left_alone", "LeftOuter.left_alone", s_LeftOuter_left_alone, [], [], true⟩
def de_LeftOuter_right_alone : DefX := ⟨fun K => ma K "LeftOuter" "right_alone", "right_alone", "Inner.right_alone", s_Inner_right_alone, [], [], false⟩
def de_RightOuter_pairs : DefX := ⟨fun K => ma K "RightOuter" "pairs", "pairs", "Inner.pairs", s_Inner_pairs, [], [], false⟩
def de_RightOuter_left_alone : DefX := ⟨fun K => ma K "RightOuter" "left_alone", "left_alone", "Inner.left_alone", s_Inner_left_alone, [], [], false⟩
def de_RightOuter_right_alone : DefX := ⟨fun K => ma K "RightOuter" "right_alone", "right_alone", "RightOuter.right_alone", s_RightOuter_right_alone, [], [], true⟩
def de_FullOuter_pairs : DefX := ⟨fun K => ma K "FullOuter" "pairs", "pairs", "Inner.pairs", s_Inner_pairs, [], [], false⟩
def de_FullOuter_left_alone : DefX := ⟨fun K => ma K "FullOuter" "left_alone", "left_alone", "LeftOuter.left_alone", s_LeftOuter_left_alone, [], [], true⟩
def de_FullOuter_right_alone : DefX := ⟨fun K => ma K "FullOuter" "right_alone", "right_alone", "FullOuter.right_alone", s_FullOuter_right_alone, [], [], true⟩
def de_Semi_pairs : DefX := ⟨fun K => ma K "Semi" "pairs", "pairs", "Semi.pairs", s_Semi_pairs, [], [], false⟩
def de_Semi_left_alone : DefX := ⟨fun K => ma K "Semi" "left_alone", "left_alone", "Semi.left_alone", s_Semi_left_alone, [], [], false⟩
def de_Semi_right_alone : DefX := ⟨fun K => ma K "Semi" "right_alone", "right_alone", "Inner.right_alone", s_Inner_right_alone, [], [], false⟩
def de_Anti_pairs : DefX := ⟨fun K => ma K "Anti" "pairs", "pairs", "Semi.pairs", s_Semi_pairs, [], [], false⟩
def de_Anti_left_alone : DefX := ⟨fun K => ma K "Anti" "left_alone", "left_alone", "Anti.left_alone", s_Anti_left_alone, [], [], true⟩
def de_Anti_right_alone : DefX := ⟨fun K => ma K "Anti" "right_alone", "right_alone", "Inner.right_alone", s_Inner_right_alone, [], [], false⟩
abbrev s_BadRow___init__ : Stmt := inClass (top 2) 0
def dx_BadRow : DefX := ⟨fun K => ma K "BadRow" "__init__", "__init__", "BadRow.__init__", s_BadRow___init__, [], [], true⟩
theorem exd_BadRow {P : Program} {K : PySem.W.Frag} {mg : Str → Option Value} (T : PySem.PxE.ExTxt P K (ga K "BadRow") (ma K "BadRow" "__init__") (so "BadRow.__init__") (defArgs s_BadRow___init__) (defBody s_BadRow___init__) (defScope s_BadRow___init__) (["number"].map so)) (top : (P.main.scope.names.lookup ("super" : Str)).isSome = false) (gC : mg "BadRow" = some (.ref (ga K "BadRow"))) (gs : mg "super" = none) (kC : PySem.W.keepIn K (.ref (ga K "BadRow")) = true) : ExcD P K mg "BadRow" (ga K "BadRow") (["number"].map so) :=
  ⟨⟨_, _, _, _, _, T, ⟨_, _, _, rfl, ⟨_, _, _, _, _, _, _, rfl, fun _ _ _ _ => ⟨_, rfl⟩⟩, .cons (.nil)⟩, ⟨_, rfl, rfl⟩, by decide +kernel, rfl, rfl, by decide +kernel, rfl, rfl, rfl, fun us hl x doc pm an cdv ct cc => match us, hl with | [_], _ => rfl⟩, ⟨by simp, by decide +kernel, by decide, by decide +kernel⟩, top, gC, gs, kC⟩
abbrev s_BadKind___init__ : Stmt := inClass (top 3) 0
def dx_BadKind : DefX := ⟨fun K => ma K "BadKind" "__init__", "__init__", "BadKind.__init__", s_BadKind___init__, [], [], true⟩
theorem exd_BadKind {P : Program} {K : PySem.W.Frag} {mg : Str → Option Value} (T : PySem.PxE.ExTxt P K (ga K "BadKind") (ma K "BadKind" "__init__") (so "BadKind.__init__") (defArgs s_BadKind___init__) (defBody s_BadKind___init__) (defScope s_BadKind___init__) (["word"].map so)) (top : (P.main.scope.names.lookup ("super" : Str)).isSome = false) (gC : mg "BadKind" = some (.ref (ga K "BadKind"))) (gs : mg "super" = none) (kC : PySem.W.keepIn K (.ref (ga K "BadKind")) = true) : ExcD P K mg "BadKind" (ga K "BadKind") (["word"].map so) :=
  ⟨⟨_, _, _, _, _, T, ⟨_, _, _, rfl, ⟨_, _, _, _, _, _, _, rfl, fun _ _ _ _ => ⟨_, rfl⟩⟩, .cons (.nil)⟩, ⟨_, rfl, rfl⟩, by decide +kernel, rfl, rfl, by decide +kernel, rfl, rfl, rfl, fun us hl x doc pm an cdv ct cc => match us, hl with | [_], _ => rfl⟩, ⟨by simp, by decide +kernel, by decide, by decide +kernel⟩, top, gC, gs, kC⟩
def fnL : List DefX := [dd_kind_named, dd_law_draws, dd_law_classes, dd_law_due, dd_law_is_kind, dd_law, de_Inner_pairs, de_Inner_left_alone, de_Inner_right_alone, de_LeftOuter_pairs, de_LeftOuter_left_alone, de_LeftOuter_right_alone, de_RightOuter_pairs, de_RightOuter_left_alone, de_RightOuter_right_alone, de_FullOuter_pairs, de_FullOuter_left_alone, de_FullOuter_right_alone, de_Semi_pairs, de_Semi_left_alone, de_Semi_right_alone, de_Anti_pairs, de_Anti_left_alone, de_Anti_right_alone, dx_BadRow, dx_BadKind]
def fileL : Str := PySem.Challenge.pw_anyhashes_k05_six_kinds.main.file
def faL : List FB := [fGlo "kind_named", fGlo "_law_draws", fGlo "_law_classes", fGlo "_law_due", fGlo "_law_is_kind", fGlo "law", fFree "len", fFree "range", fFree "abs", fFree "int", fFree "bool", fFree "str", fFree "list", fFree "tuple", fFree "isinstance", fFree "sorted", fFree "enumerate", fFree "zip", fFree "sum", fFree "any", fFree "all", fFree "max", fFree "min", fFree "dict", fFree "set", fFree "type", fFree "iter", fFree "super", fCls clsL, fNoat clsL fldL, fIsT clsL, fTO clsL, fOT clsL, fOO clsL subT, fDun clsL, fXm xL xsubT, fXv xL, fXc xL, fFree "ValueError", fGlo "JoinError", fGlo "BadRow", fExc "BadRow" "BadRow.__init__" ["number"] fileL, fGlo "BadKind", fExc "BadKind" "BadKind.__init__" ["word"] fileL, fGlo "Inner", fMeth "Inner" "pairs", fMeth "Inner" "left_alone", fMeth "Inner" "right_alone", fMk0 "Inner", fCon "Inner" "WORD" "inner", fGlo "LeftOuter", fMeth "LeftOuter" "pairs", fSuA "LeftOuter" "LeftOuter" "left_alone" "LeftOuter.left_alone" fileL, fSuC "LeftOuter" "LeftOuter" "left_alone" "Inner", fMeth "LeftOuter" "right_alone", fMk0 "LeftOuter", fCon "LeftOuter" "WORD" "left", fGlo "RightOuter", fMeth "RightOuter" "pairs", fMeth "RightOuter" "left_alone", fSuA "RightOuter" "RightOuter" "right_alone" "RightOuter.right_alone" fileL, fSuC "RightOuter" "RightOuter" "right_alone" "Inner", fMk0 "RightOuter", fCon "RightOuter" "WORD" "right", fGlo "FullOuter", fMeth "FullOuter" "pairs", fSuA "FullOuter" "LeftOuter" "left_alone" "LeftOuter.left_alone" fileL, fSuC "FullOuter" "LeftOuter" "left_alone" "Inner", fSuA "FullOuter" "FullOuter" "right_alone" "FullOuter.right_alone" fileL, fSuC "FullOuter" "FullOuter" "right_alone" "Inner", fMk0 "FullOuter", fCon "FullOuter" "WORD" "full", fGlo "Semi", fMeth "Semi" "pairs", fMeth "Semi" "left_alone", fMeth "Semi" "right_alone", fMk0 "Semi", fCon "Semi" "WORD" "semi", fGlo "Anti", fMeth "Anti" "pairs", fSuA "Anti" "Anti" "left_alone" "Anti.left_alone" fileL, fSuC "Anti" "Anti" "left_alone" "Semi", fMeth "Anti" "right_alone", fMk0 "Anti", fCon "Anti" "WORD" "anti", fOpq]
def nmL : List Str := (["JoinError", "BadRow", "BadKind", "Inner", "LeftOuter", "RightOuter", "FullOuter", "Semi", "Anti", "kind_named", "_law_draws", "_law_classes", "_law_due", "_law_is_kind"] : List Str)
abbrev lawAt : Nat := 17
theorem fldL_ok (c f : String) (_ : c ∈ clsL) (h : TT.fOk c f = true) : f ∈ fldL c := List.contains_iff_mem.mp h
theorem factsL {P : Program} {w : World} {K : PySem.W.Frag} {h : Heap} {mg : Str → Option Value} {f : Addr} (X : K.In h) (G : h.Ns mainGlobals mg) (hfa : mg ("law" : Str) = some (.ref f)) (c : SaysX faL fnL K) (hPf : ((P.main.file : Str) == fileL) = true) (hPs : (P.main.scope.names.lookup ("super" : Str)).isSome = false) :
    ∃ fd : FuncData, (∀ (s : Shared) (v : Value), BindsTo s fd ⟨[v], []⟩ [("_law_script", v)]) ∧ ∀ base : Heap, K.In base → base.Ns mainGlobals mg → FnOk P w K mg base CX0 24 f fd A_law (spL K) := by
  let W : Wd TT := fLaw TT P w K clsL fldL fldL_ok subT (fun _ _ => rfl) xL xsubT (fun _ _ => rfl) (c.fact 35 (f := fXm xL xsubT) rfl) (c.fact 36 (f := fXv xL) rfl) (c.fact 37 (f := fXc xL) rfl) (c.fact 28 (f := fCls clsL) rfl) (c.fact 29 (f := fNoat clsL fldL) rfl) (c.fact 30 (f := fIsT clsL) rfl) (c.fact 31 (f := fTO clsL) rfl) (c.fact 32 (f := fOT clsL) rfl) (c.fact 33 (f := fOO clsL subT) rfl)
  have D_kind_named : DefAt K mg "kind_named" "kind_named" s_kind_named [] [] := by
    obtain ⟨fd, F⟩ := c.def_ 0 (d := dd_kind_named) rfl
    exact ⟨_, fd, F, He.glo_ok X G (c.fact 0 (f := fGlo "kind_named") rfl)⟩
  have D_law_draws : DefAt K mg "_law_draws" "_law_draws" s_law_draws [] [] := by
    obtain ⟨fd, F⟩ := c.def_ 1 (d := dd_law_draws) rfl
    exact ⟨_, fd, F, He.glo_ok X G (c.fact 1 (f := fGlo "_law_draws") rfl)⟩
  have D_law_classes : DefAt K mg "_law_classes" "_law_classes" s_law_classes [] [] := by
    obtain ⟨fd, F⟩ := c.def_ 2 (d := dd_law_classes) rfl
    exact ⟨_, fd, F, He.glo_ok X G (c.fact 2 (f := fGlo "_law_classes") rfl)⟩
  have D_law_due : DefAt K mg "_law_due" "_law_due" s_law_due [] [] := by
    obtain ⟨fd, F⟩ := c.def_ 3 (d := dd_law_due) rfl
    exact ⟨_, fd, F, He.glo_ok X G (c.fact 3 (f := fGlo "_law_due") rfl)⟩
  have D_law_is_kind : DefAt K mg "_law_is_kind" "_law_is_kind" s_law_is_kind [] [] := by
    obtain ⟨fd, F⟩ := c.def_ 4 (d := dd_law_is_kind) rfl
    exact ⟨_, fd, F, He.glo_ok X G (c.fact 4 (f := fGlo "_law_is_kind") rfl)⟩
  have B : Blt mg := ⟨He.free_ok X G (c.fact 6 (f := fFree "len") rfl), He.free_ok X G (c.fact 7 (f := fFree "range") rfl), He.free_ok X G (c.fact 8 (f := fFree "abs") rfl), He.free_ok X G (c.fact 9 (f := fFree "int") rfl), He.free_ok X G (c.fact 10 (f := fFree "bool") rfl), He.free_ok X G (c.fact 11 (f := fFree "str") rfl), He.free_ok X G (c.fact 12 (f := fFree "list") rfl), He.free_ok X G (c.fact 13 (f := fFree "tuple") rfl), He.free_ok X G (c.fact 14 (f := fFree "isinstance") rfl), He.free_ok X G (c.fact 15 (f := fFree "sorted") rfl), He.free_ok X G (c.fact 16 (f := fFree "enumerate") rfl), He.free_ok X G (c.fact 17 (f := fFree "zip") rfl), He.free_ok X G (c.fact 18 (f := fFree "sum") rfl), He.free_ok X G (c.fact 19 (f := fFree "any") rfl), He.free_ok X G (c.fact 20 (f := fFree "all") rfl), He.free_ok X G (c.fact 21 (f := fFree "max") rfl), He.free_ok X G (c.fact 22 (f := fFree "min") rfl), He.free_ok X G (c.fact 23 (f := fFree "dict") rfl), He.free_ok X G (c.fact 24 (f := fFree "set") rfl), He.free_ok X G (c.fact 25 (f := fFree "type") rfl), He.free_ok X G (c.fact 26 (f := fFree "iter") rfl), He.free_ok X G (c.fact 27 (f := fFree "super") rfl)⟩
  have C : Cs W mg := ⟨fun c h => h,
    fDun_ok (fun c h => h) (fun c => rfl) (c.fact 34 (f := fDun clsL) rfl),
    (by simp [W, fLaw, clsL]),
    He.glo_ok X G (c.fact 44 (f := fGlo "Inner") rfl),
    (let ⟨fd, F⟩ := c.def_ 6 (d := de_Inner_pairs) rfl; ⟨_, fd, F, He.meth_ok (c.fact 45 (f := fMeth "Inner" "pairs") rfl)⟩),
    (let ⟨fd, F⟩ := c.def_ 7 (d := de_Inner_left_alone) rfl; ⟨_, fd, F, He.meth_ok (c.fact 46 (f := fMeth "Inner" "left_alone") rfl)⟩),
    (let ⟨fd, F⟩ := c.def_ 8 (d := de_Inner_right_alone) rfl; ⟨_, fd, F, He.meth_ok (c.fact 47 (f := fMeth "Inner" "right_alone") rfl)⟩),
    fMk0_ok (c.fact 48 (f := fMk0 "Inner") rfl),
    (by simp [W, fLaw, clsL]),
    He.glo_ok X G (c.fact 50 (f := fGlo "LeftOuter") rfl),
    (let ⟨fd, F⟩ := c.def_ 9 (d := de_LeftOuter_pairs) rfl; ⟨_, fd, F, He.meth_ok (c.fact 51 (f := fMeth "LeftOuter" "pairs") rfl)⟩),
    (fSuA_ok (st := s_LeftOuter_left_alone) (c.fact 52 (f := fSuA "LeftOuter" "LeftOuter" "left_alone" "LeftOuter.left_alone" fileL) rfl) (c.cld 10 (d := de_LeftOuter_left_alone) rfl) hPf hPs ⟨_, rfl, rfl⟩),
    (fSuC_ok (c.fact 53 (f := fSuC "LeftOuter" "LeftOuter" "left_alone" "Inner") rfl)),
    (let ⟨fd, F⟩ := c.def_ 11 (d := de_LeftOuter_right_alone) rfl; ⟨_, fd, F, He.meth_ok (c.fact 54 (f := fMeth "LeftOuter" "right_alone") rfl)⟩),
    fMk0_ok (c.fact 55 (f := fMk0 "LeftOuter") rfl),
    (by simp [W, fLaw, clsL]),
    He.glo_ok X G (c.fact 57 (f := fGlo "RightOuter") rfl),
    (let ⟨fd, F⟩ := c.def_ 12 (d := de_RightOuter_pairs) rfl; ⟨_, fd, F, He.meth_ok (c.fact 58 (f := fMeth "RightOuter" "pairs") rfl)⟩),
    (let ⟨fd, F⟩ := c.def_ 13 (d := de_RightOuter_left_alone) rfl; ⟨_, fd, F, He.meth_ok (c.fact 59 (f := fMeth "RightOuter" "left_alone") rfl)⟩),
    (fSuA_ok (st := s_RightOuter_right_alone) (c.fact 60 (f := fSuA "RightOuter" "RightOuter" "right_alone" "RightOuter.right_alone" fileL) rfl) (c.cld 14 (d := de_RightOuter_right_alone) rfl) hPf hPs ⟨_, rfl, rfl⟩),
    (fSuC_ok (c.fact 61 (f := fSuC "RightOuter" "RightOuter" "right_alone" "Inner") rfl)),
    fMk0_ok (c.fact 62 (f := fMk0 "RightOuter") rfl),
    (by simp [W, fLaw, clsL]),
    He.glo_ok X G (c.fact 64 (f := fGlo "FullOuter") rfl),
    (let ⟨fd, F⟩ := c.def_ 15 (d := de_FullOuter_pairs) rfl; ⟨_, fd, F, He.meth_ok (c.fact 65 (f := fMeth "FullOuter" "pairs") rfl)⟩),
    (fSuA_ok (st := s_LeftOuter_left_alone) (c.fact 66 (f := fSuA "FullOuter" "LeftOuter" "left_alone" "LeftOuter.left_alone" fileL) rfl) (c.cld 16 (d := de_FullOuter_left_alone) rfl) hPf hPs ⟨_, rfl, rfl⟩),
    (fSuC_ok (c.fact 67 (f := fSuC "FullOuter" "LeftOuter" "left_alone" "Inner") rfl)),
    (fSuA_ok (st := s_FullOuter_right_alone) (c.fact 68 (f := fSuA "FullOuter" "FullOuter" "right_alone" "FullOuter.right_alone" fileL) rfl) (c.cld 17 (d := de_FullOuter_right_alone) rfl) hPf hPs ⟨_, rfl, rfl⟩),
    (fSuC_ok (c.fact 69 (f := fSuC "FullOuter" "FullOuter" "right_alone" "Inner") rfl)),
    fMk0_ok (c.fact 70 (f := fMk0 "FullOuter") rfl),
    (by simp [W, fLaw, clsL]),
    He.glo_ok X G (c.fact 72 (f := fGlo "Semi") rfl),
    (let ⟨fd, F⟩ := c.def_ 18 (d := de_Semi_pairs) rfl; ⟨_, fd, F, He.meth_ok (c.fact 73 (f := fMeth "Semi" "pairs") rfl)⟩),
    (let ⟨fd, F⟩ := c.def_ 19 (d := de_Semi_left_alone) rfl; ⟨_, fd, F, He.meth_ok (c.fact 74 (f := fMeth "Semi" "left_alone") rfl)⟩),
    (let ⟨fd, F⟩ := c.def_ 20 (d := de_Semi_right_alone) rfl; ⟨_, fd, F, He.meth_ok (c.fact 75 (f := fMeth "Semi" "right_alone") rfl)⟩),
    fMk0_ok (c.fact 76 (f := fMk0 "Semi") rfl),
    (by simp [W, fLaw, clsL]),
    He.glo_ok X G (c.fact 78 (f := fGlo "Anti") rfl),
    (let ⟨fd, F⟩ := c.def_ 21 (d := de_Anti_pairs) rfl; ⟨_, fd, F, He.meth_ok (c.fact 79 (f := fMeth "Anti" "pairs") rfl)⟩),
    (fSuA_ok (st := s_Anti_left_alone) (c.fact 80 (f := fSuA "Anti" "Anti" "left_alone" "Anti.left_alone" fileL) rfl) (c.cld 22 (d := de_Anti_left_alone) rfl) hPf hPs ⟨_, rfl, rfl⟩),
    (fSuC_ok (c.fact 81 (f := fSuC "Anti" "Anti" "left_alone" "Semi") rfl)),
    (let ⟨fd, F⟩ := c.def_ 23 (d := de_Anti_right_alone) rfl; ⟨_, fd, F, He.meth_ok (c.fact 82 (f := fMeth "Anti" "right_alone") rfl)⟩),
    fMk0_ok (c.fact 83 (f := fMk0 "Anti") rfl),
    of_decide_eq_true (c.fact 85 (f := fOpq) rfl),
    (by
      intro c0 x0 hc hr
      have hm : c0 ∈ clsL := hc
      simp only [clsL, List.mem_cons, List.not_mem_nil, or_false] at hm
      rcases hm with rfl | rfl | rfl | rfl | rfl | rfl
      · obtain rfl : "inner" = x0 := by simpa [rc_WORD] using hr
        exact fCon_ok (c.fact 49 (f := fCon "Inner" "WORD" "inner") rfl)
      · obtain rfl : "left" = x0 := by simpa [rc_WORD] using hr
        exact fCon_ok (c.fact 56 (f := fCon "LeftOuter" "WORD" "left") rfl)
      · obtain rfl : "right" = x0 := by simpa [rc_WORD] using hr
        exact fCon_ok (c.fact 63 (f := fCon "RightOuter" "WORD" "right") rfl)
      · obtain rfl : "full" = x0 := by simpa [rc_WORD] using hr
        exact fCon_ok (c.fact 71 (f := fCon "FullOuter" "WORD" "full") rfl)
      · obtain rfl : "semi" = x0 := by simpa [rc_WORD] using hr
        exact fCon_ok (c.fact 77 (f := fCon "Semi" "WORD" "semi") rfl)
      · obtain rfl : "anti" = x0 := by simpa [rc_WORD] using hr
        exact fCon_ok (c.fact 84 (f := fCon "Anti" "WORD" "anti") rfl)
      ),
    He.free_ok X G (c.fact 38 (f := fFree "ValueError") rfl),
    (by simp [W, fLaw, xL]),
    He.glo_ok X G (c.fact 39 (f := fGlo "JoinError") rfl),
    (by simp [W, fLaw, xL]),
    He.glo_ok X G (c.fact 40 (f := fGlo "BadRow") rfl),
    (let z := fExc_ok (c.fact 41 (f := fExc "BadRow" "BadRow.__init__" ["number"] fileL) rfl) (c.cld 24 (d := dx_BadRow) rfl) hPf; exd_BadRow z.1 hPs (He.glo_ok X G (c.fact 40 (f := fGlo "BadRow") rfl)) B.super z.2),
    (by simp [W, fLaw, xL]),
    He.glo_ok X G (c.fact 42 (f := fGlo "BadKind") rfl),
    (let z := fExc_ok (c.fact 43 (f := fExc "BadKind" "BadKind.__init__" ["word"] fileL) rfl) (c.cld 25 (d := dx_BadKind) rfl) hPf; exd_BadKind z.1 hPs (He.glo_ok X G (c.fact 42 (f := fGlo "BadKind") rfl)) B.super z.2)⟩
  obtain ⟨fdL, FL⟩ := c.def_ 5 (d := dd_law) rfl
  have e := hfa.symm.trans (He.glo_ok X G (c.fact 5 (f := fGlo "law") rfl))
  cases e
  have b := FunD.bindsA (ps := A_law) FL bp_law
  refine ⟨fdL, fun s v => b s [v] rfl, fun base _ _ => ?_⟩
  exact ok_law (W := W) (ds_all (W := W) (base := base) D_kind_named D_law_draws D_law_classes D_law_due D_law_is_kind C B 5) C FL B (spL_spR (W := W) (law_true W))
abbrev RowL : PySem.W.OpenRow := PySem.W.OpenLaw.row PySem.Challenge.rw_anyhashes_k05_six_kinds
abbrev hkL : PySem.W.Hook := hookX 6 faL fnL
def obL (s : PySem.W.SharedT) : He.AlD := obsXG 6 faL fnL (HandSHeadRun.getT s)
theorem obL_eq (s : PySem.W.SharedT) : obL s = hkL.obs s.abs := obsXG_eq (HandSHeadRun.getT_eq s)
theorem runL (w : World) : HandSHeadRun.RunEq RowL (PySem.W.view RowL.prog [lawAt]) hkL obL 12000 nmL w := by
  intro os
  kernel_rfl
end Py
open PySem PySem.W PySem.Calls PyProof.Rows
theorem PySem.Challenge.cw_anyhashes_k05_six_kinds_holds : PySem.Challenge.rw_anyhashes_k05_six_kinds.Holds := by
  w_on; o_law
  refine HandSHeadRun.head_any (r := OpenLaw.row PySem.Challenge.rw_anyhashes_k05_six_kinds) (q := view (OpenLaw.row PySem.Challenge.rw_anyhashes_k05_six_kinds).prog [Py.lawAt]) (H := Py.hkL) (ob := Py.obL) (M := 12000) (loose := Py.nmL) (d := HandSHeadRun.topDef (OpenLaw.row PySem.Challenge.rw_anyhashes_k05_six_kinds).prog Py.lawAt) (kwd := []) Py.obL_eq
    (by kernel_rfl) (fun s => by kernel_rfl) Py.runL (by kernel_rfl) (by kernel_rfl) (by kernel_rfl) (by rfl) (by first | assumption | decide +kernel) (by decide +kernel) ⟨rfl, rfl, rfl, rfl, rfl, by decide +kernel⟩ ?hw ?hc
  case hw => w_witness2
  case hc =>
    refine L2.walk_ofE (l := PySem.Challenge.rw_anyhashes_k05_six_kinds) (n := 63) (k := 24) (x := "_law_script") (CX := L2.CX0) rfl (by decide) (by kernel_rfl) ⟨rfl, by decide, by decide⟩ ?F (fun _ _ _ _ z => z)
    intro w mg fa h Y G hmg0
    obtain ⟨K, KX, c⟩ := Y
    have hmg : mg ("law" : PySem.Str) = some (.ref fa) := by
      have e : (HandSHeadRun.topDef (OpenLaw.row PySem.Challenge.rw_anyhashes_k05_six_kinds).prog Py.lawAt).name = ("law" : PySem.Str) := by kernel_rfl
      rw [← e]
      exact hmg0
    obtain ⟨fd, hb, hF⟩ := Py.factsL (P := (PySem.Challenge.rw_anyhashes_k05_six_kinds).prog) (w := w) KX G hmg c (by kernel_rfl) (by kernel_rfl)
    exact ⟨K, fd, Py.spL K, KX, hb, fun H a ns hl _ hS => Py.spL_in hl hS, hF⟩
