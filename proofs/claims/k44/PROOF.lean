import PyProof.Rows.All
import Wide.All
import OpenK.AllK
import Wide.FinOn
import KE.KFromBytes
import KE.KSuper
import KE.KExcSuper
import KE.KExcIs
import HandS.ForMost
import HandS.Exc
import HandS.ExcOwn
import HandS.ExcSuper
import HandS.TryOnly
import HandS.TryMany
import HandS.CallSlots
import HandS.ExcIs
import KE.KDictKeyed
import HandS.IsInst
import HandS.Wide
import HandS.Defaults
import HandS.Zip
import HandS.More
import KE.SortData
import HandS.Property
import HandS.MakeKwOnly
import HandS.SortKw
import HandS.IterVal
import HandS.OwnIter
import HandS.OwnEq
import KE.DataMinMax
import KE.KTupSum
import HandS.Deep
import HandS.Dict
import HandS.DictComp
import HandS.NoneIn
import HandS.SetKeys
import HandS.Iter
import HandS.SetFor
import HandS.Strs
import PyProof.Rows.SetFrom
import HandS.ExcField
import KE.GoesMore
import PyProof.Draws
import HandS.Conv
import HandS.TupLen
import KE.KWithOwn
import HandS.GenList
import HandS.GenYield
import HandS.TupAny
import HandS.Style
import HandS.ClsMeth
import HandS.Nested
import HandS.New0
import HandS.HeadHook2
import HandS.HeadNt
import HandS.Head0
import HandS.Head1
import HandS.Head2
import HandS.HeadEnd
import HandS.HeadHook1
import PySem.Challenge.RW_anyhashes_k44_counts_keep_triples
set_option Elab.async false
set_option linter.all false
set_option maxRecDepth 100000
set_option maxHeartbeats 8000000
namespace PySem
namespace PxE
open PySem.W PySem.Calls PyProof.Rows PySem.HandSPX
abbrev selfN : Str := "self"
inductive IsAsgs : List Stmt -> List Str -> Prop
  | nil : IsAsgs [] []
  | cons {f : Str} {p1 p2 p3 p4 : Pos} {r : List Stmt} {fs : List Str} : IsAsgs r fs -> IsAsgs (.Assign [.Attribute (.Name "self" p1) f p2] (.Name f p3) p4 :: r) (f :: fs)
def IsSup (qual : Str) (scope : Scope) (msg : Str) (s : Stmt) : Prop := ∃ (p0 p1 p2 p3 p4 p5 : Pos) (k : Nat), s = .Expr (.Call (.Attribute (.Call (.Name "super" p0) [] [] p1) "__init__" p2) [.Constant (.str msg) k p3] [] p4) p5 /\
  ∀ (L a : Addr) (cd : Value) (cc : Addr), ∃ pl : PySem.Sem Bool, eval (.Call (.Attribute (.Call (.Name "super" p0) [] [] p1) "__init__" p2) [.Constant (.str msg) k p3] [] p4) (ksEnv qual scope L a cd cc) = (do
      let ov <- attributeBase (.Call (.Name "super" p0) [] [] p1) "__init__" (ksEnv qual scope L a cd cc) (eval (.Call (.Name "super" p0) [] [] p1) (ksEnv qual scope L a cd cc))
      standAt p2.atName
      let (f, first) <- holding [ov] (getMethod ov "__init__" pl)
      callWith p4 f first (backTo p4 (starEach [.Constant (.str msg) k p3] (ksEnv qual scope L a cd cc))) [])
structure ExTxt (P : Program) (K : Frag) (C fI : Addr) (qual : Str) (params : Arguments) (body : List Stmt) (scope : Scope) (fs : List Str) : Prop where
  cls : excInitIn K C veTail "ValueError.__new__" = true
  cdt : ∃ cd, clsIn K C = some cd /\ refsVE cd.mro = true /\ cd.hasDict = true
  sa : findIn K (.ref C) "__setattr__" = some (some (.builtin "object.__setattr__"))
  noN : ∀ f ∈ fs, findIn K (.ref C) f = some none
  iC : findIn K (.ref C) "__init__" = some (some (.ref fI))
  tC : typeIn K (.ref fI) = some (.type "function")
  exC : subIn K (.ref C) (.type "BaseException") = some true
  veC : subIn K (.ref C) (.type "ValueError") = some true
  tyC : typeIn K (.ref C) = some (.type "type")
  opq : nsIn K cStatics "thirdparty.any" = some none
  sup : ks_superIn K C C "__init__" = some (some (.builtin "ValueError.__init__"))
  slf : mroIn K C (.ref C) = some true
  fn : ∃ (oc : Value) (od : Option Addr) (doc pm : Value) (an : Option Addr) (ct : Value) (osl : Array (Option Value)) (cda cc : Addr) (ccl : Value) (cdd : Option Addr) (vs : Array Value) (ccs : Array (Option Value)) (file : Str) (tf : Tok) (cl : Value) (cld : Option Addr) (csl : Array (Option Value)),
    K.lookup fI = some ⟨oc, od, .func (ksFn "__init__" qual params body scope .none .none doc pm an (.ref cda) ct cc), osl⟩ /\ codeIn K (.ref cda) qual = true /\ K.lookup cda = some ⟨ccl, cdd, .fields vs, ccs⟩ /\ vs[2]? = some (.str file tf) /\ ((P.main.file : Str) == file) = true /\
      K.lookup cc = some ⟨cl, cld, .cell (some (.ref C)), csl⟩
section
open Builtin Builtin.ObjectAttr
variable {prog : Program} {w : World} {A : Around} {E : Value -> Shared -> Prop} {R : Result -> Shared -> Prop} {hp : Heap} {g : Array GenState} {d : Drawn} {t : Nat} {os : OsState}
theorem osa_old {K : W.Frag} {name : Str} {tk : Tok} {v : Value} {x C dx : Addr} {fv : Array Value} {cd : ClassData} {m0 : Str -> Option Value} {nl : List Str}
    (X : K.In hp) (hx : hp.get? x = some { cls := .ref C, dict := some dx, data := .fields fv }) (hns : hp.Ns1 dx m0) (hw : Within m0 nl) (hz : nl.length <= 1000) (hcd : W.clsIn K C = some cd) (hm : refsVE cd.mro = true) (hh : cd.hasDict = true)
    (ha : W.findIn K (.ref C) name = some none)
    (hq : ∀ h' tk', (∀ b o, b ≠ dx -> hp.get? b = some o -> h'.get? b = some o) -> h'.Ns1 dx (fun y => if y = name then some v else m0 y) -> R (.ok (.ret .none)) ⟨h', g, d, tk', os⟩) :
    codeAny (model prog w) A (.call (.builtin "object.__setattr__") ⟨[.ref x, .str name tk, v], []⟩) R ⟨hp, g, d, t, os⟩ := by
  obtain ⟨oD, esD, epD, hoD, hdD, _⟩ := hns.count hw
  have I : W.InstAt hp x { cls := .ref C, dict := some dx, data := .fields fv } C (some oD) := ⟨hx, rfl, rfl, hoD⟩
  have SF := F.store_object
  have ne := refsVE_ne hm
  have hob : cd.mro.contains (.type "object") = true := (refsVE_contains "object" _ hm).trans (by decide +kernel)
  have sub : W.Looks (model prog w) hp (isInstance (.ref x) (.type "object")) true := I.type.andThen (W.looks_mroIn X (by unfold W.mroIn; rw [hcd, Option.bind_some, if_neg (by rw [ne]; decide), hob]))
  refine codeAny_call_builtin SF.slot.plain SF.entry (@W.check_slot (model prog w) _ _ ⟨hp, g, d, t, os⟩ "object.__setattr__" "object" "__setattr__" (.ref x) [.str name tk, v] [] _ SF.kind SF.split sub (SF.args (.ref x) (.str name tk) v) ?_)
  have hmr : W.Looks (model prog w) hp (mroOf (.ref C)) cd.mro := (W.looks_clsIn X hcd).andThen .now
  have L3 : W.Looks (model prog w) hp (storeTaker? none) none := .now
  have hcls : W.Looks (model prog w) hp (classData C) cd := W.looks_clsIn X hcd
  rw [W.osa_eq, refuse_eq]
  refine wpAny_bind (wpAny_bind (I.type.at (wpAny_bind (hmr.at ?_))))
  rw [refsVE_pass _ _ hm]
  refine wpAny_pure (wpAny_bind (I.type.at (wpAny_bind ((W.looks_findIn X ha).at (wpAny_bind (L3.at ?_))))))
  show wpAny _ _ (storeInOwnDict (.ref x) (.ref C) (.str name tk) name v false) _ _ _
  obtain ⟨nm, bs, mro, ns, qn, hd, sn, sb, ab, col, del⟩ := cd
  dsimp only at hh
  subst hh
  unfold storeInOwnDict ownDictForStores
  repeat (first | with_reducible refine ESX.store_in_old hns hw hz ?_ | with_reducible refine wpAny_loadPart_at hx ?_ | with_reducible refine hcls.at ?_ | wp_step)
  intro h' tk' hn' hs
  exact hq h' tk' (fun b o hb ho => (hs.2 b hb).trans ho) hn'
theorem call_mw {u e C t0 : Addr} {rest : List Value} {Q : Value -> Shared -> Prop} {nm q : Str} {N : Addr} {bs bm : List Value} {hdct : Bool} {sn : List Str} {sub : List Value} {ab : Bool} {col : Option Bool} {dd : Option Addr} {k0 k1 k2 k3 k5 : Option Value}
    (hC : hp.get? C = some (excClassObj nm q C N bs bm hdct sn sub ab col dd k0 k1 k2 k3 k5 "ValueError.__new__")) (he : hp.get? e = some (excO C t0)) (hu : hp.get? u = some (kxs_mw "ValueError.__init__" e)) (hrest : rest.length <= sizeLine)
    (hq : ∀ h' t1, (∀ b o, b ≠ e -> hp.get? b = some o -> h'.get? b = some o) -> h'.get? e = some (excO C t1) -> Q .none ⟨h', g, d, t, os⟩) :
    wpAny (model prog w) A (call (.ref u) rest) Q E ⟨hp, g, d, t, os⟩ := by
  refine wpAny_call (codeAny_of_tree ?_)
  show wpAny _ A.in1 (callAny (.ref u) ⟨rest, []⟩) _ _ _
  simp only [callAny]
  refine wpAny_bind (wpAny_load hu ?_)
  simp only [kxs_mw, show (Value.type "method-wrapper" == Value.type "method" || Value.type "method-wrapper" == Value.type "builtin_function_or_method" || Value.type "method-wrapper" == Value.type "method-wrapper") = true by decide, if_true]
  refine W.KFB.if_so (by decide) ?_
  refine wpAny_bind (check_bound_init PySem.F.excBase_ValueError.toExcCallFacts hC he rfl ?_)
  refine wpAny_bind (wpAny_pure (wpAny_pure ?_))
  refine ⟨plainId_quiet PySem.F.excBase_ValueError.init.plain _, codeAny_builtin PySem.F.excBase_ValueError.initEntry ?_⟩
  refine exc_init_tree (cls := .ref C) (t0 := t0) (dv := none) (c2 := .none) (c3 := .none) (b4 := .bool false) he hrest fun h' k e' _ => ?_
  exact hq h' _ k e'
theorem callWith_mw {M : Model} {s : Shared} {pos : Pos} {u x : Addr} {first : List Value} {env : Env} {e : Expr} {rest : List Expr} {Q : Value -> Shared -> Prop} {i : String}
    (h : wpAny M A (spliced (backTo pos (starEach (e :: rest) env))) (fun vs s₁ => KxsAt i u x s₁.heap /\ wpAny M A (call (.ref u) (first ++ vs)) Q E s₁) E s)
    (he : starEach (e :: rest) env = (false, eval e env) :: starEach rest env := by rfl) (hplain : (backTo pos (starEach rest env)).any (·.1) = false := by rfl) :
    wpAny M A (callWith pos (.ref u) first (backTo pos (starEach (e :: rest) env)) []) Q E s := by
  rw [he] at h ⊢
  refine kxs_callWith (i := i) (x := x) (by show (false || (backTo pos (starEach rest env)).any (·.1)) = false; rw [hplain]; rfl) ?_
  exact evalArgs_plain h
end
structure Stored (h h' : Heap) (x C dx : Addr) (t1 : Addr) (m : Str -> Option Value) : Prop where
  keep : ∀ b o, b ≠ x -> b ≠ dx -> h.get? b = some o -> h'.get? b = some o
  obj : h'.get? x = some { cls := .ref C, dict := some dx, data := .fields #[.ref t1, .none, .none, .none, .bool false, .none] }
  ns : h'.Ns1 dx m
theorem lookup_snoc {f : Str} {v : Value} : ∀ {l : List (Str × Value)} (y : Str), f ∉ l.map (·.1) -> (if y = f then some v else l.lookup y) = (l ++ [(f, v)]).lookup y
  | [], y, _ => by
    by_cases e : y = f
    · subst e; simp [List.lookup]
    · simp [List.lookup, e, beq_eq_false_iff_ne.mpr e]
  | (k, u) :: l, y, hn => by
    have h1 : f ≠ k := fun z => hn (by rw [z]; simp)
    have h2 : f ∉ l.map (·.1) := fun z => hn (by simp at z ⊢; exact .inr z)
    have ih := lookup_snoc (v := v) y h2
    by_cases e : y = k
    · subst e
      rw [if_neg (Ne.symm h1)]
      simp [List.lookup]
    · have e' : (y == k) = false := beq_eq_false_iff_ne.mpr e
      simp only [List.cons_append, List.lookup_cons, e']
      exact ih
theorem within_lookup : ∀ (l : List (Str × Value)), Within (fun y => l.lookup y) (l.map (·.1)) := fun l y v => by
  cases e : List.lookup y l with
  | none => exact absurd e v
  | some u =>
    obtain ⟨l1, l2, rfl, _⟩ := List.lookup_eq_some_iff.mp e
    simp
section
variable {prog : Program} {w : World} {A : Around} {E : Value -> Shared -> Prop} {K : Frag} {C : Addr}
theorem ldX {M : Model} {s : Shared} {env : Env} {m : Str -> Option Value} {x : Str} {pos : Pos} {v : Value} {Q : Value -> Shared -> Prop} (hn : s.heap.Ns env.locals m) (hv : m x = some v) (h : Q v s)
    (hk : env.scope.kind = .function) (hl : env.kindOf x = some .local) (hd : (x == ("__debug__" : Str)) = false) : wpAny M A (eval (.Name x pos) env) Q E s := wpAny_Name (wpAny_loadName_local hk hl hn hv h) hd
theorem stores {cd : ClassData} {env : Env} {m : Str -> Option Value} {x dx t1 : Addr} (hcd : clsIn K C = some cd) (hve : refsVE cd.mro = true) (hdi : cd.hasDict = true) (sa : findIn K (.ref C) "__setattr__" = some (some (.builtin "object.__setattr__")))
    (hk : env.scope.kind = .function) (hs : env.kindOf selfN = some .local) (hms : m selfN = some (.ref x)) (hKx : K.lookup x = none) (hxL : x ≠ env.locals) (hdL : dx ≠ env.locals) (hdx : dx ≠ x) (hKd : K.lookup dx = none) :
    ∀ {ss : List Stmt} {fs : List Str} {us : List Value} {done : List (Str × Value)} {s : Shared} {Q : Flow -> Shared -> Prop}, IsAsgs ss fs -> fs.length = us.length -> (∀ f ∈ fs, findIn K (.ref C) f = some none /\ env.kindOf f = some .local /\ (f == ("__debug__" : Str)) = false) -> (∀ p ∈ fs.zip us, m p.1 = some p.2) ->
      (done.map (·.1) ++ fs).Nodup -> (done.map (·.1) ++ fs).length <= 1000 -> K.In s.heap -> s.heap.Ns env.locals m -> s.heap.get? x = some { cls := .ref C, dict := some dx, data := .fields #[.ref t1, .none, .none, .none, .bool false, .none] } -> s.heap.Ns1 dx (fun y => done.lookup y) ->
      (∀ h' tk, Stored s.heap h' x C dx t1 (fun y => (done ++ fs.zip us).lookup y) -> Q .next { s with heap := h', toks := tk }) -> wpAny (model prog w) A (execs ss env) Q E s
  | _, _, [], done, s, Q, .nil, _, _, _, _, _, X, hn, hx, hd, q => wpAny_execs_nil (q s.heap s.toks ⟨fun b o _ _ e => e, hx, by simpa using hd⟩)
  | _, _, u :: us, done, s, Q, .cons (f := f) (fs := fs) (r := r) hr, hl, hf, hm, nd, hz, X, hn, hx, hd, q => by
    obtain ⟨hno, hkf, hdb⟩ := hf f (List.mem_cons_self ..)
    refine wpAny_execs_cons (plainObj_wpAny_Assign_Attribute ?_)
    refine ldX (v := u) hn (hm (f, u) (by simp)) (ldX (v := .ref x) hn hms ?_ hk hs (by decide)) hk hkf hdb
    obtain ⟨oD, esD, epD, hoD, hdD, _⟩ := hd.count (within_lookup done)
    refine set_plain X (ox := { cls := .ref C, dict := some dx, data := .fields #[.ref t1, .none, .none, .none, .bool false, .none] }) (od := some oD) ⟨hx, rfl, rfl, hoD⟩ sa ?_
    have hnd : f ∉ done.map (·.1) := fun z => (List.nodup_append.mp nd).2.2 f z f (List.mem_cons_self ..) rfl
    obtain ⟨hp, g, dr, tk, os⟩ := s
    refine osa_old X hx hd (within_lookup done) (by rw [List.length_append] at hz; omega) hcd hve hdi hno (fun h3 tk3 k3 hn3 => ?_)
    have hn3' : h3.Ns1 dx (fun y => (done ++ [(f, u)]).lookup y) := by
      have e : (fun y => if y = f then some u else done.lookup y) = fun y => (done ++ [(f, u)]).lookup y := funext fun y => lookup_snoc y hnd
      rw [<- e]; exact hn3
    show wpAny _ _ (execs _ _) _ _ _
    have kx : h3.get? x = some { cls := .ref C, dict := some dx, data := .fields #[.ref t1, .none, .none, .none, .bool false, .none] } := k3 _ _ (Ne.symm hdx) hx
    have X3 : K.In h3 := fun a o e => k3 a o (fun z => by rw [z, hKd] at e; cases e) (X a o e)
    have hnL : h3.Ns env.locals m := by
      obtain ⟨oL, es, ep, hL, r⟩ := hn
      exact ⟨oL, es, ep, k3 _ _ (Ne.symm hdL) hL, r⟩
    refine stores hcd hve hdi sa hk hs hms hKx hxL hdL hdx hKd (s := ⟨h3, g, dr, tk3, os⟩) (us := us) (done := done ++ [(f, u)]) hr (by simpa using hl) (fun f' m' => hf f' (List.mem_cons_of_mem _ m')) (fun p hp => hm p (by simp; exact .inr hp)) ?_ ?_ X3 hnL kx hn3' fun h' tk' S => ?_
    · simpa [List.append_assoc] using nd
    · simpa [List.append_assoc] using hz
    · refine q h' tk' ⟨fun b o h1 h2 e => S.keep b o h1 h2 (k3 b o h2 e), S.obj, ?_⟩
      have := S.ns
      rwa [List.append_assoc] at this
structure OwnMade (h h' : Heap) (e C d : Addr) (m : Str -> Option Value) : Prop where
  keep : ∀ b o, h.get? b = some o -> h'.get? b = some o
  new : h.objs.size <= e
  obj : ∃ oe vs, h'.get? e = some oe /\ oe.cls = .ref C /\ oe.dict = some d /\ oe.data = .fields vs /\ vs[1]? = some .none
  dbig : h.objs.size <= d
  dne : d ≠ e
  ns : h'.Ns1 d m
theorem none_big {h : Heap} (X : K.In h) {a : Addr} (ha : h.objs.size <= a) : K.lookup a = none := by
  cases e : K.lookup a with
  | none => rfl
  | some o => exact absurd (Heap.lt_size (X _ _ e)) (Nat.not_lt.mpr ha)
theorem ns_keep {h h' : Heap} {L x : Addr} {m : Str -> Option Value} (hn : h.Ns L m) (k : ∀ b o, b ≠ x -> h.get? b = some o -> h'.get? b = some o) (ne : L ≠ x) : h'.Ns L m := by
  obtain ⟨oL, es, ep, hL, r⟩ := hn
  exact ⟨oL, es, ep, k _ _ ne hL, r⟩
structure InitEnd (h h' : Heap) (x C dx t1 : Addr) (m : Str -> Option Value) : Prop where
  keep : ∀ b o, b ≠ x -> h.get? b = some o -> h'.get? b = some o
  obj : h'.get? x = some { cls := .ref C, dict := some dx, data := .fields #[.ref t1, .none, .none, .none, .bool false, .none] }
  dbig : h.objs.size <= dx
  dne : dx ≠ x
  ns : h'.Ns1 dx m
theorem ex_init {R : Result -> Shared -> Prop} {s : Shared} {fI : Addr} {qual : Str} {params : Arguments} {body : List Stmt} {scope : Scope} {fs : List Str} {mg mb : Str -> Option Value} {us : List Value} {x t0 : Addr}
    (T : ExTxt prog K C fI qual params body scope fs) (hb : ∃ b0 ss msg, body = b0 :: ss /\ IsSup qual scope msg b0 /\ IsAsgs ss fs) (hfs : fs ≠ []) (hl : fs.length = us.length)
    (nd : fs.Nodup) (hz : fs.length <= 1000) (hself : selfN ∉ fs)
    (hhead : ∃ ar : Arg, (params.posonlyargs ++ params.args).head? = some ar /\ ar.arg = selfN)
    (hloc : ∀ f ∈ selfN :: fs, scope.names.lookup f = some .local /\ (f == ("__debug__" : Str)) = false) (hsup : scope.names.lookup ("super" : Str) = some .globalImplicit) (hcl : scope.names.lookup ("__class__" : Str) = some .free)
    (hcell : ∀ x ∈ scope.names, x.2 ≠ .cell) (hco : scope.isCoroutine = false) (hgen : scope.isGenerator = false) (hk : scope.kind = .function)
    (htop : (prog.main.scope.names.lookup ("super" : Str)).isSome = false)
    (hbind : ∀ (doc pm : Value) (an : Option Addr) (cdv ct : Value) (cc : Addr), bindArgs (ksFn "__init__" qual params body scope .none .none doc pm an cdv ct cc) ⟨.ref x :: us, []⟩ = pure ((selfN, Value.ref x) :: fs.zip us))
    (X : K.In s.heap) (hlim : s.heap.NoLimit) (hG : s.heap.Ns mainGlobals mg) (hms : mg "super" = none) (hB : s.heap.Ns builtinsNs mb) (hmb : mb "super" = some (.type "super"))
    (hx : s.heap.get? x = some (excO C t0)) (hnx : K.lookup x = none) (hroom : A.depth < recursionLimit)
    (hq : ∀ h' tk dx t1, InitEnd s.heap h' x C dx t1 (fun y => (fs.zip us).lookup y) -> R (.ok (.ret .none)) { s with heap := h', toks := tk }) :
    codeAny (model prog w) A (.call (.ref fI) ⟨.ref x :: us, []⟩) R s := by
  obtain ⟨sc1, sc2, sc3, sc4, sc5⟩ := scope
  dsimp only at hco hgen hk
  subst hco hgen hk
  obtain ⟨oc, od, doc, pm, an, ct, osl, cda, cc, ccl, cdd, vs, ccs, file, tf, cl, cld, csl, ho, hcd, hcode, hvs, hfile, hcc⟩ := T.fn
  obtain ⟨b0, ss, msg, rfl, ⟨p0, p1, p2, p3, p4, p5, k, rfl, hev⟩, hss⟩ := hb
  obtain ⟨cd, hcdt, hve, hdi⟩ := T.cdt
  obtain ⟨ar, har, hars⟩ := hhead
  have hmap : (fs.zip us).map (·.1) = fs := by rw [List.map_fst_zip (by omega)]
  have hnodup : ((selfN, Value.ref x) :: fs.zip us).map (·.1) |>.Nodup := by
    rw [List.map_cons, hmap]; exact List.nodup_cons.mpr ⟨hself, nd⟩
  have hmem : ∀ p ∈ (selfN, Value.ref x) :: fs.zip us, ((selfN, Value.ref x) :: fs.zip us).reverse.lookup p.1 = some p.2 := by
    intro p hp
    obtain ⟨l1, l2, e⟩ := List.append_of_mem (List.mem_reverse.mpr hp)
    refine List.lookup_eq_some_iff.mpr ⟨l1, l2, e, fun q hq => ?_⟩
    have h2 : ((((selfN, Value.ref x) :: fs.zip us).map (·.1)).reverse).Nodup := List.pairwise_reverse.mpr (hnodup.imp fun h => Ne.symm h)
    rw [<- List.map_reverse, e, List.map_append, List.map_cons] at h2
    have h3 := (List.nodup_append.mp h2).2.2 q.1 (List.mem_map_of_mem hq) p.1 (List.mem_cons_self ..)
    exact bne_iff_ne.mpr fun z => h3 z.symm
  refine ks_codeAny_call_defAt (fd := ksFn "__init__" qual params (_ :: ss) _ .none .none doc pm an (.ref cda) ct cc) (binds := (selfN, Value.ref x) :: fs.zip us) hroom (X _ _ ho) rfl hlim (codeRec_of X hcd) rfl (BindsTo.of_eq (hbind ..)) hcell
    (fun y hy => ?_) (fun h₁ hn k1 => ?_) rfl rfl rfl
  · refine (hloc y.1 ?_).1
    rcases List.mem_cons.mp hy with rfl | hy
    · exact List.mem_cons_self ..
    · exact List.mem_cons_of_mem _ (List.of_mem_zip (show (y.1, y.2) ∈ fs.zip us from hy)).1
  have hxs : x < s.heap.objs.size := Heap.lt_size hx
  have hxL : x ≠ s.heap.objs.size := Nat.ne_of_lt hxs
  have X1 : K.In h₁ := X.keeps k1
  have hx1 := k1 _ _ hx
  obtain ⟨oD, hD1, hD2⟩ : ∃ oD, h₁.get? C = some oD /\ oD.data = .cls cd := by
    have hcdt' := hcdt
    unfold clsIn at hcdt'
    split at hcdt'
    · rename_i c d cd' sl ho
      cases hcdt'
      exact ⟨_, X1 _ _ ho, rfl⟩
    · cases hcdt'
  have hxC : x ≠ C := fun z => by
    have hcdt' := hcdt
    unfold clsIn at hcdt'
    rw [<- z, hnx] at hcdt'
    cases hcdt'
  obtain ⟨pl, hev⟩ := hev s.heap.objs.size fI (.ref cda) cc
  refine ks_wpAt_execs_cons (ks_wpAt_Expr_any (ks_wpAt_MethodCall (pl := pl) ?_ hev))
  refine ks_wpAt_super_base (ar := ar) hsup hcl (by decide) rfl (X1 _ _ ho) rfl har rfl (X1 _ _ hcode) rfl hvs hfile htop ?_
  refine ks_loadName_global rfl hsup (loadGlobal_builtin (hG.keeps k1) hms (hB.keeps k1) hmb ⟨rfl, ?_⟩)
  refine wpAny_loadName_free rfl hcl rfl ⟨_, X1 _ _ hcc, rfl⟩ ?_
  rw [hars]
  refine wpAny_loadName_local rfl (hloc _ (List.mem_cons_self ..)).1 hn (hmem _ (List.mem_cons_self ..)) ?_
  refine ks_wpAny_isType_cls hD1 hD2 ⟨rfl, ?_⟩
  refine ks_wpAny_call_super hD1 hD2 hx1 rfl (fun c e => by cases e) (looks_mroIn X1 T.slf) (fun h2 e2 k2 => ?_)
  have X2 : K.In h2 := X1.keeps k2
  have hx2 := k2 _ _ hx1
  have I2 : InstAt h2 x (excO C t0) C none := ⟨hx2, rfl, rfl, trivial⟩
  have hsup2 : alongIn K "__init__" ((cd.mro.dropWhile (· != .ref C)).drop 1) = some (some (.builtin "ValueError.__init__")) := by
    have := T.sup
    unfold ks_superIn at this
    rwa [hcdt] at this
  refine kxs_getMethod kxs_ValueError e2 (looks_opaque X2 T.opq) (l₀ := cd.mro) (fun A Q E s k q => wpAny_bind ((looks_clsIn X2 hcdt) A _ E s k (wpAny_pure q))) rfl X2 hsup2 (I2.type.andThen (looks_subIn X2 T.veC)) hxC (by decide) ?_
  refine callWith_mw (i := "ValueError.__init__") (x := x) (first := []) (spliced_more (Calls.Constant_str (spliced_none ⟨Heap.get?_push_at rfl rfl, ?_⟩)))
  have k3 : ∀ b o, h2.get? b = some o -> (h2.push (kxs_mw "ValueError.__init__" x)).get? b = some o := fun b o e => Heap.get?_push_of_some _ e
  obtain ⟨nm, N', qn, bs, bm, hdct, sn, sub, ab, col, dd, k0, k1', k2', k3', k5, hC, hT⟩ := excInit_of (X2.keeps k3) T.cls
  refine call_mw hC (k3 _ _ hx2) (Heap.get?_push_at rfl rfl) (by rw [sizeLine_eq]; exact (by decide : 1 <= 16777216)) fun h4 t1 k4 hx4 => ?_
  have kk : ∀ b o, b ≠ x -> h₁.get? b = some o -> h4.get? b = some o := fun b o ne e => k4 b o ne (k3 b o (k2 b o e))
  have X4 : K.In h4 := fun a o e => kk a o (fun z => by rw [z, hnx] at e; cases e) (X1 a o e)
  have hn4 := ns_keep hn kk (Ne.symm hxL)
  show wpAt _ _ _ (execs ss _) _ _ _
  refine wpAt_of_wpAny ?_
  cases hss with
  | nil => exact absurd rfl hfs
  | @cons f q1 q2 q3 q4 r fs hr =>
    cases us with
    | nil => simp at hl
    | cons u us =>
      refine wpAny_execs_cons (plainObj_wpAny_Assign_Attribute ?_)
      have hf := hloc f (List.mem_cons_of_mem _ (List.mem_cons_self ..))
      refine ldX (v := u) hn4 (hmem (f, u) (by simp)) (ldX (v := .ref x) hn4 (hmem _ (List.mem_cons_self ..)) ?_ rfl (hloc _ (List.mem_cons_self ..)).1 (by decide)) rfl hf.1 hf.2
      refine set_plain X4 (ox := excO C t1) (od := none) ⟨hx4, rfl, rfl, trivial⟩ T.sa ?_
      refine exc_osa X4 hx4 hcdt hve hdi (T.noN f (List.mem_cons_self ..)) (fun h5 tk5 dx k5 dn dne hx5 hn5 => ?_)
      show wpAny _ _ (execs _ _) _ _ _
      have hLlt : s.heap.objs.size < h4.objs.size := hn4.lt
      have X5 : K.In h5 := fun a o e => k5 a o (fun z => by rw [z, hnx] at e; cases e) (X4 a o e)
      have e5 : (fun y => if y = f then some u else none) = fun y => List.lookup y [(f, u)] := funext fun y => by
        have := lookup_snoc (l := []) (v := u) (f := f) y (by simp)
        simpa using this
      rw [e5] at hn5
      refine stores (w := w) (env := ksEnv qual _ s.heap.objs.size fI (.ref cda) cc) hcdt hve hdi T.sa (x := x) (dx := dx) (t1 := t1) (m := _) rfl (hloc _ (List.mem_cons_self ..)).1 (hmem _ (List.mem_cons_self ..)) hnx hxL (Nat.ne_of_gt (Nat.lt_of_lt_of_le hLlt dn)) dne (none_big X4 dn)
        (done := [(f, u)]) (us := us) hr (by simpa using hl) (fun f' m' => ?_) (fun p hp => hmem p (by simp; exact .inr (.inr hp))) (by simpa using nd) (by simpa using hz) X5 (ns_keep hn4 k5 (Ne.symm hxL)) hx5 hn5 fun h' tk' S => ?_
      · have := hloc f' (List.mem_cons_of_mem _ (List.mem_cons_of_mem _ m'))
        exact ⟨T.noN f' (List.mem_cons_of_mem _ m'), this.1, this.2⟩
      · refine hq h' tk' dx t1 ⟨fun b o ne e => ?_, S.obj, Nat.le_of_lt (Nat.lt_of_lt_of_le hLlt dn), dne, S.ns⟩
        refine S.keep b o ne (fun z => ?_) (k5 b o ne (kk b o ne (k1 b o e)))
        subst z
        exact absurd (Heap.lt_size e) (Nat.not_lt.mpr (Nat.le_of_lt (Nat.lt_of_lt_of_le hLlt dn)))
theorem ex_made {R : Result -> Shared -> Prop} {s : Shared} {fI : Addr} {qual : Str} {params : Arguments} {body : List Stmt} {scope : Scope} {fs : List Str} {mg mb : Str -> Option Value} {us : List Value}
    (T : ExTxt prog K C fI qual params body scope fs) (hb : ∃ b0 ss msg, body = b0 :: ss /\ IsSup qual scope msg b0 /\ IsAsgs ss fs) (hfs : fs ≠ []) (hl : fs.length = us.length)
    (nd : fs.Nodup) (hz : fs.length <= 1000) (hself : selfN ∉ fs)
    (hhead : ∃ ar : Arg, (params.posonlyargs ++ params.args).head? = some ar /\ ar.arg = selfN)
    (hloc : ∀ f ∈ selfN :: fs, scope.names.lookup f = some .local /\ (f == ("__debug__" : Str)) = false) (hsup : scope.names.lookup ("super" : Str) = some .globalImplicit) (hcl : scope.names.lookup ("__class__" : Str) = some .free)
    (hcell : ∀ x ∈ scope.names, x.2 ≠ .cell) (hco : scope.isCoroutine = false) (hgen : scope.isGenerator = false) (hk : scope.kind = .function)
    (htop : (prog.main.scope.names.lookup ("super" : Str)).isSome = false)
    (hbind : ∀ (x : Addr) (doc pm : Value) (an : Option Addr) (cdv ct : Value) (cc : Addr), bindArgs (ksFn "__init__" qual params body scope .none .none doc pm an cdv ct cc) ⟨.ref x :: us, []⟩ = pure ((selfN, .ref x) :: fs.zip us))
    (X : K.In s.heap) (hlim : s.heap.NoLimit) (hG : s.heap.Ns mainGlobals mg) (hms : mg "super" = none) (hB : s.heap.Ns builtinsNs mb) (hmb : mb "super" = some (.type "super"))
    (hroom : A.depth + 1 < recursionLimit)
    (hq : ∀ h' tk e d, OwnMade s.heap h' e C d (fun y => (fs.zip us).lookup y) -> R (.ok (.ret (.ref e))) { s with heap := h', toks := tk }) :
    codeAny (model prog w) A (.call (.ref C) ⟨us, []⟩) R s := by
  obtain ⟨nm, N', qn, bs, bm, hdct, sn, sub, ab, col, dd, k0, k1', k2', k3', k5, hC, hT⟩ := excInit_of X T.cls
  obtain ⟨hp, g, dr, tk, os⟩ := s
  have k : ∀ b o, hp.get? b = some o -> ((hp.push (kdv_tup us)).push (excO C hp.objs.size)).get? b = some o := fun b o e => Heap.get?_push_of_some _ (Heap.get?_push_of_some _ e)
  have hget : ((hp.push (kdv_tup us)).push (excO C hp.objs.size)).get? (hp.objs.size + 1) = some (excO C hp.objs.size) := by heap_get
  have hnx : K.lookup (hp.objs.size + 1) = none := none_big X (Nat.le_succ _)
  refine call_own PySem.F.excBase_ValueError hT hC (looks_findIn X T.iC) (fun self => bind_fn X self T.tC) (by rw [<- hl, sizeLine_eq]; omega) ?_
  refine ex_init (s := ⟨(hp.push (kdv_tup us)).push (excO C hp.objs.size), g, dr, tk, os⟩) T hb hfs hl nd hz hself hhead hloc hsup hcl hcell hco hgen hk htop (hbind _) (X.keeps k) (hlim.keeps k) (hG.keeps k) hms (hB.keeps k) hmb hget hnx ?_ fun h' tk' dx t1 S => ?_
  · show A.depth + 1 < recursionLimit
    exact hroom
  · have old : ∀ b o, hp.get? b = some o -> h'.get? b = some o := fun b o e => S.keep b o (Nat.ne_of_lt (Nat.lt_succ_of_lt (Heap.lt_size e))) (k b o e)
    have z : hp.objs.size + 1 + 1 <= dx := by
      have q := S.dbig
      first
        | exact q
        | (rw [Heap.size_push, Heap.size_push] at q; exact q)
    exact ⟨rfl, hq h' tk' (hp.objs.size + 1) dx ⟨old, Nat.le_succ _, ⟨_, _, S.obj, rfl, rfl, rfl, rfl⟩, Nat.le_trans (Nat.le_trans (Nat.le_succ _) (Nat.le_succ _)) z, S.dne, S.ns⟩⟩
end
end PxE
end PySem
namespace L2
open PySem PySem.Spec PyProof.Rows PySem.PxE
theorem relO_zip {f : Str} : ∀ {fs : List Str} {vs : List V} {us : List Value}, Vals vs us -> RelO ((fs.zip vs).lookup f) ((fs.zip us).lookup f)
  | [], _, _, _ => by simp [List.lookup]; trivial
  | _ :: _, [], [], .nil => by simp [List.lookup]; trivial
  | k :: fs, v :: vs, u :: us, .cons r t => by
    rw [List.zip_cons_cons, List.zip_cons_cons]
    by_cases e : f = k
    · subst e
      simp only [List.lookup_cons_self]
      exact r
    · simp only [List.lookup_cons, beq_eq_false_iff_ne.mpr e]
      exact relO_zip t
structure ExcD (P : Program) (K : PySem.W.Frag) (mg : Str -> Option Value) (x : Str) (C : Addr) (fs : List Str) : Prop where
  ex : ∃ (fI : Addr) (qual : Str) (params : Arguments) (body : List Stmt) (scope : Scope), ExTxt P K C fI qual params body scope fs /\ (∃ b0 ss msg, body = b0 :: ss /\ IsSup qual scope msg b0 /\ IsAsgs ss fs) /\
    (∃ ar : Arg, (params.posonlyargs ++ params.args).head? = some ar /\ ar.arg = selfN) /\
    (∀ f ∈ selfN :: fs, scope.names.lookup f = some .local /\ (f == ("__debug__" : Str)) = false) /\ scope.names.lookup ("super" : Str) = some .globalImplicit /\ scope.names.lookup ("__class__" : Str) = some .free /\
    (∀ x ∈ scope.names, x.2 ≠ .cell) /\ scope.isCoroutine = false /\ scope.isGenerator = false /\ scope.kind = .function /\
    (∀ (us : List Value), us.length = fs.length -> ∀ (x : Addr) (doc pm : Value) (an : Option Addr) (cdv ct : Value) (cc : Addr), bindArgs (PySem.W.ksFn "__init__" qual params body scope .none .none doc pm an cdv ct cc) ⟨.ref x :: us, []⟩ = pure ((selfN, .ref x) :: fs.zip us))
  nf : fs ≠ [] /\ fs.Nodup /\ fs.length <= 1000 /\ selfN ∉ fs
  top : (P.main.scope.names.lookup ("super" : Str)).isSome = false
  gC : mg x = some (.ref C)
  gs : mg "super" = none
  kC : PySem.W.keepIn K (.ref C) = true
section
variable {X : Cx} {C : Addr} {fs : List Str} {x : Str}
def tMkX (C : Addr) (fs : List Str) (ta : TA) : St -> Hp -> XK -> Prop := fun σ H Q => ta σ H fun vs H1 => vs.length = fs.length /\ ∀ d, H1 d = none -> Q (.ref C) (some d) (upd H1 d (.xd (fs.zip vs)))
theorem pmk_x {a : Expr} {es : List Expr} {ta : TA} {p pos : Pos} {k : Nat} (D : ExcD X.prog X.K X.mg x C fs) (hr : Room k X.A) (ha : PA X (a :: es) ta) (hg : Gl X x)
    (hd : (x == ("__debug__" : Str)) = false := by decide) (he : starEach (a :: es) X.env = (false, eval a X.env) :: starEach es X.env := by rfl) (hpl : (backTo pos (starEach es X.env)).any (·.1) = false := by rfl) :
    PMk X (.Call (.Name x p) (a :: es) [] pos) (tMkX C fs ta) := by
  intro pins s σ H Q I h
  obtain ⟨fI, qual, params, body, scope, T, hb, hhead, hloc, hsup, hcl, hcell, hco, hgen, hk, hbind⟩ := D.ex
  refine wpAny_Call_Name_kw (ld_glob I hg D.gC ?_ hd)
  refine PySem.W.callWith_K (h₀ := X.base) I.ok.mod.kin D.kC (thn (ha.run pos pins s σ H _ I h) fun us s1 hh => ?_) he hpl
  obtain ⟨vs, H1, I1, r1, hl, q1⟩ := hh
  refine ⟨I1.kIn, ?_⟩
  show wpAny _ _ (call (.ref C) us) _ _ _
  obtain ⟨mb, hB, hmb⟩ := I1.ok.mod.blt
  have hlim := I1.nolimit
  have hG := I1.ok.mod.glob.keeps I1.bk
  have hB2 := hB.keeps I1.bk
  have hX := I1.kIn
  obtain ⟨hp, g, dr, tk, os⟩ := s1
  refine wpAny_call (ex_made T hb D.nf.1 (by rw [<- r1.length, hl]) D.nf.2.1 D.nf.2.2.1 D.nf.2.2.2 hhead hloc hsup hcl hcell hco hgen hk D.top (hbind us (by rw [<- r1.length, hl])) hX hlim hG D.gs hB2 ((hmb _ (by decide)).trans (by decide +kernel)) (by have := hr.dp; omega) fun h' tk' e d M => ?_)
  show MkP X pins σ Q (.ref e) ⟨h', g, dr, tk', os⟩
  obtain ⟨oe, fv, hoe, hc, hd, hdat, h1⟩ := M.obj
  have hns := M.ns
  obtain ⟨G', g1, g2⟩ := restrict h' fun b => decide (b ≠ e)
  have gk : ∀ b, b ≠ e -> G'.get? b = h'.get? b := fun b hb => g1 b (decide_eq_true hb)
  have ge : G'.get? e = none := g2 e (by simp)
  have old : ∀ b o, hp.get? b = some o -> G'.get? b = some o := fun b o q => (gk b (Nat.ne_of_lt (Nat.lt_of_lt_of_le (Heap.lt_size q) M.new))).trans (M.keep b o q)
  have ob : ObjOk X.prog X.w (upd H1 d (.xd (fs.zip vs))) G' d (.xd (fs.zip vs)) :=
    ⟨_, hns.at (fun o q => (gk d M.dne).trans q), fun f => relO_zip r1⟩
  have J : Inv X pins σ (upd H1 d (.xd (fs.zip vs))) ⟨G', g, dr, tk', os⟩ := I1.laid (t' := tk') old M.dbig ob
  refine ⟨e, oe, fv, ⟨G', g, dr, tk', os⟩, _, .ref C, some d, rfl, J, fun b o q => ?_, ge, hoe, ⟨hc, hd⟩, hdat, h1, ?_, rfl, I1.bare, raises_own T.exC T.tyC, q1 d (I1.hok.fresh M.dbig)⟩
  · by_cases hb : b = e
    · have q' : G'.get? b = some o := q
      rw [hb, ge] at q'; cases q'
    · exact (gk b hb).symm.trans q
  · rw [upd_ne (Ne.symm M.dne)]
    exact I1.hok.fresh M.new
end
end L2
namespace Py
open PySem L2
inductive D where
  | non | bl (b : Bool) | int (i : Int) | str (x : String) | cls (c : String) | sei (xs : List Int)
  | scr (ns : List Int) | tup (xs : List D) | lst (xs : List D) | dic (ks : List Key) (xs : List D) | dit (ks : List (List Key)) (xs : List D) | dig (ks : List NestedKey) (xs : List D) | ins (c : String) (ns : List String) (xs : List D)
  | olst (xs : List D) | odic (ks : List Key) (xs : List D) | odit (ks : List (List Key)) (xs : List D) | odig (ks : List NestedKey) (xs : List D) | oins (c : String) (ns : List String) (xs : List D)
abbrev so : String -> Str := Str.ofString
theorem so_inj {x y : String} (h : so x = so y) : x = y := by
  unfold so at h
  rw [Str.ofString_eq_toList, Str.ofString_eq_toList] at h
  injection h with h
  have h2 : x.toList.map Char.toNat = y.toList.map Char.toNat := by
    have := congrArg Array.toList h
    simpa using this
  have h3 : x.toList = y.toList := by
    have inj : ∀ a b : Char, a.toNat = b.toNat -> a = b := fun a b e => Char.ext (UInt32.toNat_inj.mp e)
    revert h2
    generalize x.toList = l
    generalize y.toList = r
    intro h2
    induction l generalizing r with
    | nil => cases r with
      | nil => rfl
      | cons b r => cases h2
    | cons a l ih => cases r with
      | nil => cases h2
      | cons b r =>
        rw [List.map_cons, List.map_cons] at h2
        injection h2 with e1 e2
        rw [inj _ _ e1, ih r e2]
  exact String.toList_inj.mp h3
structure Tbl where
  fOk : String -> String -> Bool
  con : String -> String -> Option D
  sub : String -> String -> Bool
  /-- the def that a class's name (a method, a getter) stands for -/
  res : String -> String -> Option String := fun _ _ => none
  /-- the field whose list a class's __iter__ walks -/
  it : String -> Option String := fun _ => none
  /-- of exception classes: who derives from whom -/
  xsub : String -> String -> Bool := fun _ _ => false
structure Wd (T : Tbl) where
  K : PySem.W.Frag
  P : Program
  w : World
  cA : String -> Addr
  has : String -> Prop
  cl : ∀ c, has c -> Cls K (cA c)
  na : ∀ c f, has c -> T.fOk c f = true -> NoAttr K (cA c) (so f)
  isT : ∀ c, has c -> PySem.W.findIn K (.ref (cA c)) "__class__" = some (some (.builtin "object.__class__")) /\
    PySem.W.specialIn K (.builtin "object.__class__") "__get__" = some (some (.builtin "getset_descriptor.__get__")) /\ PySem.W.takesIn K (.builtin "object.__class__") = some true /\ PySem.W.mroIn K (cA c) (.type "object") = some true
  isTO : ∀ t c, t ∈ ["NoneType", "bool", "int", "str", "list", "tuple", "dict"] -> has c -> PySem.W.kitOne K (.type t) (.ref (cA c)) = some false
  isOT : ∀ c t, has c -> t ∈ ["int", "bool", "str", "list", "tuple", "dict"] -> PySem.W.kitOne K (.ref (cA c)) (.type t) = some false
  isOO : ∀ c d, has c -> has d -> PySem.W.kitOne K (.ref (cA c)) (.ref (cA d)) = some (T.sub c d)
  /-- the exception classes -/
  hasX : String -> Prop
  xm : ∀ c d, hasX c -> hasX d -> PySem.W.exmOne K (.ref (cA c)) (.ref (cA d)) = some (T.xsub c d)
  xk : ∀ c d, hasX c -> hasX d -> PySem.W.kitOne K (.ref (cA c)) (.ref (cA d)) = some (T.xsub c d)
  xv : ∀ c, hasX c -> PySem.W.kitOne K (.ref (cA c)) (.type "ValueError") = some true
  xc : ∀ c, hasX c -> ExcC K (cA c)
def nkD : NestedKey -> D
  | .none => .non
  | .num i => .int i
  | .text x => .str (String.ofList (x.cps.toList.map Char.ofNat))
  | .tup ks => .tup (nkDs ks)
where nkDs : List NestedKey -> List D
  | [] => []
  | k :: ks => nkD k :: nkDs ks
def digP (P : Program) (w : World) (a : Addr) (ks : List NestedKey) (kas : List Addr) (vs : List V) : Heap -> Prop := fun h =>
  (a == sysModules) = false /\ ∃ us : List Value, Vals vs us /\ ks.length = kas.length /\ ks.length = us.length /\ us.length <= sizeLine /\
    ∃ o es ep, h.get? a = some o /\ o.ExactDict /\ o.data = .dict es ep /\ es.toList = (ks.zip (kas.zip us)).map (entryOfKey (nestedKind P w)) /\ ks.Nodup
section
variable {T : Tbl} (W : Wd T)
mutual
inductive Shr : Hp -> D -> V -> Prop
  | non {F} : Shr F .non .non
  | bl {F b} : Shr F (.bl b) (.bl b)
  | int {F i} : Shr F (.int i) (.int i)
  | str {F x} : Shr F (.str x) (.str (so x))
  | cls {F c} : W.has c -> Shr F (.cls c) (.ref (W.cA c))
  | sei {F a xs} : F a = some (.set (fun i => decide (i ∈ xs)) xs.length) -> xs.Pairwise (· < ·) -> Shr F (.sei xs) (.ref a)
  | scr {F a ns} : SqL W.K F a (ns.map V.int) -> Shr F (.scr ns) (.ref a)
  | tup {F a xs vs} : F a = some (.tup vs) -> Shrs F xs vs -> Shr F (.tup xs) (.ref a)
  | lst {F a xs vs} : F a = some (.lst vs) -> Shrs F xs vs -> Shr F (.lst xs) (.ref a)
  | dic {F a ks xs vs} : Rd F a (.dK (ks.zip vs)) -> ks.length = vs.length -> ks.Nodup -> Shrs F xs vs -> Shr F (.dic ks xs) (.ref a)
  | dit {F a ks xs vs} : Rd F a (.dT (ks.zip vs)) -> ks.length = vs.length -> ks.Nodup -> Shrs F xs vs -> Shr F (.dit ks xs) (.ref a)
  | dig {F a ks kas xs vs} : F a = some (.ext (digP W.P W.w a ks kas vs)) -> Shrs F (ks.map nkD) (kas.map V.ref) -> ks.length = vs.length -> Shrs F xs vs -> Shr F (.dig ks xs) (.ref a)
  | ins {F a c dx ns xs vs} : F a = some (.ins (W.cA c) dx ((ns.map so).zip vs)) -> W.has c -> ns.length = vs.length -> Shrs F xs vs -> Shr F (.ins c ns xs) (.ref a)
inductive Shrs : Hp -> List D -> List V -> Prop
  | nil {F} : Shrs F [] []
  | cons {F d v ds vs} : Shr F d v -> Shrs F ds vs -> Shrs F (d :: ds) (v :: vs)
end
mutual
inductive Own : Hp -> Hp -> D -> V -> List Addr -> Prop
  | sh {F H d v} : Shr W F d v -> Own F H d v []
  | olst {F H a xs vs L} : H a = some (.lst vs) -> Owns F H xs vs L -> Own F H (.olst xs) (.ref a) (a :: L)
  | odic {F H a ks xs vs L} : H a = some (.dK (ks.zip vs)) -> ks.length = vs.length -> ks.Nodup -> Owns F H xs vs L -> Own F H (.odic ks xs) (.ref a) (a :: L)
  | odit {F H a ks xs vs L} : H a = some (.dT (ks.zip vs)) -> ks.length = vs.length -> ks.Nodup -> Owns F H xs vs L -> Own F H (.odit ks xs) (.ref a) (a :: L)
  | odig {F H a ks kas xs vs L} : H a = some (.ext (digP W.P W.w a ks kas vs)) -> Shrs W F (ks.map nkD) (kas.map V.ref) -> ks.length = vs.length -> Owns F H xs vs L -> Own F H (.odig ks xs) (.ref a) (a :: L)
  | oins {F H a c dx ns xs vs L} : H a = some (.ins (W.cA c) dx ((ns.map so).zip vs)) -> W.has c -> ns.length = vs.length -> Owns F H xs vs L -> Own F H (.oins c ns xs) (.ref a) (a :: L)
inductive Owns : Hp -> Hp -> List D -> List V -> List Addr -> Prop
  | nil {F H} : Owns F H [] [] []
  | cons {F H d v ds vs L M} : Own F H d v L -> Owns F H ds vs M -> Owns F H (d :: ds) (v :: vs) (L ++ M)
end
end
section
variable {T : Tbl} {W : Wd T} {F F' H H' : Hp}
theorem rd_same {F F' : Hp} (e : Same F F') {a : Addr} {u : HO} (h : Rd F a u) : Rd F' a u := h.elim (fun h => .inl (e _ _ h)) fun ⟨o, h⟩ => .inr ⟨o, e _ _ h⟩
mutual
theorem Shr.mono {F F' : Hp} (e : Same F F') : ∀ {d : D} {v : V}, Shr W F d v -> Shr W F' d v
  | _, _, .non => .non
  | _, _, .bl => .bl
  | _, _, .int => .int
  | _, _, .str => .str
  | _, _, .cls h => .cls h
  | _, _, .sei h n => .sei (e _ _ h) n
  | _, _, .scr h => .scr (e.seq h)
  | _, _, .tup h hs => .tup (e _ _ h) (Shrs.mono e hs)
  | _, _, .lst h hs => .lst (e _ _ h) (Shrs.mono e hs)
  | _, _, .dic h l n hs => .dic (rd_same e h) l n (Shrs.mono e hs)
  | _, _, .dit h l n hs => .dit (rd_same e h) l n (Shrs.mono e hs)
  | _, _, .dig h k l hs => .dig (e _ _ h) (Shrs.mono e k) l (Shrs.mono e hs)
  | _, _, .ins h c l hs => .ins (e _ _ h) c l (Shrs.mono e hs)
theorem Shrs.mono {F F' : Hp} (e : Same F F') : ∀ {d : List D} {v : List V}, Shrs W F d v -> Shrs W F' d v
  | _, _, .nil => .nil
  | _, _, .cons h t => .cons (Shr.mono e h) (Shrs.mono e t)
end
theorem Shrs.length {F : Hp} : ∀ {ds : List D} {vs : List V}, Shrs W F ds vs -> ds.length = vs.length
  | _, _, .nil => rfl
  | _, _, .cons _ t => congrArg (· + 1) (Shrs.length t)
theorem Shrs.get {F : Hp} : ∀ {ds : List D} {vs : List V} {i : Nat} {d : D}, Shrs W F ds vs -> ds[i]? = some d -> ∃ v, vs[i]? = some v /\ Shr W F d v
  | _, _, _, _, .nil, e => by simp at e
  | _, _, 0, _, .cons h _, e => by simp at e; subst e; exact ⟨_, rfl, h⟩
  | _, _, i + 1, _, .cons _ t, e => Shrs.get (i := i) t (by simpa using e)
theorem Shrs.append {F : Hp} : ∀ {ds es : List D} {vs ws : List V}, Shrs W F ds vs -> Shrs W F es ws -> Shrs W F (ds ++ es) (vs ++ ws)
  | _, _, _, _, .nil, h => h
  | _, _, _, _, .cons h t, q => .cons h (Shrs.append t q)
mutual
theorem Own.frame {F F' H H' : Hp} (e : Same F F') : ∀ {d : D} {v : V} {L : List Addr}, (∀ a ∈ L, ∀ o, H a = some o -> H' a = some o) -> Own W F H d v L -> Own W F' H' d v L
  | _, _, _, _, .sh h => .sh (h.mono e)
  | _, _, _, k, .olst h t => .olst (k _ (List.mem_cons_self ..) _ h) (Owns.frame e (fun a m => k a (List.mem_cons_of_mem _ m)) t)
  | _, _, _, k, .odic h l n t => .odic (k _ (List.mem_cons_self ..) _ h) l n (Owns.frame e (fun a m => k a (List.mem_cons_of_mem _ m)) t)
  | _, _, _, k, .odit h l n t => .odit (k _ (List.mem_cons_self ..) _ h) l n (Owns.frame e (fun a m => k a (List.mem_cons_of_mem _ m)) t)
  | _, _, _, k, .odig h s l t => .odig (k _ (List.mem_cons_self ..) _ h) (s.mono e) l (Owns.frame e (fun a m => k a (List.mem_cons_of_mem _ m)) t)
  | _, _, _, k, .oins h c l t => .oins (k _ (List.mem_cons_self ..) _ h) c l (Owns.frame e (fun a m => k a (List.mem_cons_of_mem _ m)) t)
theorem Owns.frame {F F' H H' : Hp} (e : Same F F') : ∀ {d : List D} {v : List V} {L : List Addr}, (∀ a ∈ L, ∀ o, H a = some o -> H' a = some o) -> Owns W F H d v L -> Owns W F' H' d v L
  | _, _, _, _, .nil => .nil
  | _, _, _, k, .cons h t => .cons (Own.frame e (fun a m => k a (List.mem_append_left _ m)) h) (Owns.frame e (fun a m => k a (List.mem_append_right _ m)) t)
end
mutual
theorem Own.lives {F H : Hp} : ∀ {d : D} {v : V} {L : List Addr}, Own W F H d v L -> ∀ a ∈ L, ∃ o, H a = some o
  | _, _, _, .sh _, a, m => nomatch m
  | _, _, _, .olst h t, a, m => by
    rcases List.mem_cons.mp m with rfl | m
    · exact ⟨_, h⟩
    · exact Owns.lives t a m
  | _, _, _, .odic h _ _ t, a, m => by
    rcases List.mem_cons.mp m with rfl | m
    · exact ⟨_, h⟩
    · exact Owns.lives t a m
  | _, _, _, .odit h _ _ t, a, m => by
    rcases List.mem_cons.mp m with rfl | m
    · exact ⟨_, h⟩
    · exact Owns.lives t a m
  | _, _, _, .odig h _ _ t, a, m => by
    rcases List.mem_cons.mp m with rfl | m
    · exact ⟨_, h⟩
    · exact Owns.lives t a m
  | _, _, _, .oins h _ _ t, a, m => by
    rcases List.mem_cons.mp m with rfl | m
    · exact ⟨_, h⟩
    · exact Owns.lives t a m
theorem Owns.lives {F H : Hp} : ∀ {d : List D} {v : List V} {L : List Addr}, Owns W F H d v L -> ∀ a ∈ L, ∃ o, H a = some o
  | _, _, _, .nil, a, m => nomatch m
  | _, _, _, .cons h t, a, m => (List.mem_append.mp m).elim (fun m => Own.lives h a m) fun m => Owns.lives t a m
end
theorem Owns.length {F H : Hp} : ∀ {ds : List D} {vs : List V} {L : List Addr}, Owns W F H ds vs L -> ds.length = vs.length
  | _, _, _, .nil => rfl
  | _, _, _, .cons _ t => congrArg (· + 1) (Owns.length t)
mutual
def fz : D -> D
  | .olst xs => .lst (fzs xs)
  | .odic ks xs => .dic ks (fzs xs)
  | .odit ks xs => .dit ks (fzs xs)
  | .odig ks xs => .dig ks (fzs xs)
  | .oins C ns xs => .ins C ns (fzs xs)
  | d => d
def fzs : List D -> List D
  | [] => []
  | d :: ds => fz d :: fzs ds
end
theorem fzs_eq : ∀ ds : List D, fzs ds = ds.map fz
  | [] => by rw [fzs]; rfl
  | d :: ds => by rw [fzs, fzs_eq ds]; rfl
def isSh : D -> Bool
  | .olst _ => false
  | .odic _ _ => false
  | .odit _ _ => false
  | .odig _ _ => false
  | .oins _ _ _ => false
  | _ => true
theorem fz_isSh {d : D} (h : isSh d = true) : fz d = d := by
  cases d <;> first | (cases h; done) | simp [fz]
theorem fz_shr {F : Hp} {d : D} {v : V} (h : Shr W F d v) : fz d = d := by
  refine fz_isSh ?_
  cases h <;> rfl
theorem Shr.isSh {F : Hp} {d : D} {v : V} (h : Shr W F d v) : isSh d = true := by cases h <;> rfl
theorem Shrs.isSh {F : Hp} : ∀ {d : List D} {v : List V}, Shrs W F d v -> d.all Py.isSh = true
  | _, _, .nil => rfl
  | _, _, .cons h t => by rw [List.all_cons, h.isSh, t.isSh]; rfl
mutual
theorem Own.view {F H G : Hp} (e : Same F G) : ∀ {d : D} {v : V} {L : List Addr}, (∀ a ∈ L, ∀ o, H a = some o -> G a = some o) -> Own W F H d v L -> Shr W G (fz d) v
  | _, _, _, _, .sh h => by rw [fz_shr h]; exact h.mono e
  | _, _, _, k, .olst h t => by rw [fz]; exact .lst (k _ (List.mem_cons_self ..) _ h) (Owns.view e (fun a m => k a (List.mem_cons_of_mem _ m)) t)
  | _, _, _, k, .odic h l n t => by rw [fz]; exact .dic (.inl (k _ (List.mem_cons_self ..) _ h)) l n (Owns.view e (fun a m => k a (List.mem_cons_of_mem _ m)) t)
  | _, _, _, k, .odit h l n t => by rw [fz]; exact .dit (.inl (k _ (List.mem_cons_self ..) _ h)) l n (Owns.view e (fun a m => k a (List.mem_cons_of_mem _ m)) t)
  | _, _, _, k, .odig h s l t => by rw [fz]; exact .dig (k _ (List.mem_cons_self ..) _ h) (s.mono e) l (Owns.view e (fun a m => k a (List.mem_cons_of_mem _ m)) t)
  | _, _, _, k, .oins h c l t => by rw [fz]; exact .ins (k _ (List.mem_cons_self ..) _ h) c l (Owns.view e (fun a m => k a (List.mem_cons_of_mem _ m)) t)
theorem Owns.view {F H G : Hp} (e : Same F G) : ∀ {d : List D} {v : List V} {L : List Addr}, (∀ a ∈ L, ∀ o, H a = some o -> G a = some o) -> Owns W F H d v L -> Shrs W G (fzs d) v
  | _, _, _, _, .nil => by rw [fzs]; exact .nil
  | _, _, _, k, .cons h t => by rw [fzs]; exact .cons (Own.view e (fun a m => k a (List.mem_append_left _ m)) h) (Owns.view e (fun a m => k a (List.mem_append_right _ m)) t)
end
theorem Shrs.owns {F H : Hp} : ∀ {ds : List D} {vs : List V}, Shrs W F ds vs -> Owns W F H ds vs []
  | _, _, .nil => .nil
  | _, _, .cons h t => Owns.cons (L := []) (M := []) (.sh h) (Shrs.owns t)
theorem Own.shr {F H : Hp} {d : D} {v : V} {L : List Addr} (o : Own W F H d v L) (h : Py.isSh d = true) : Shr W F d v := by
  cases o with
  | sh y => exact y
  | olst => cases h
  | odic => cases h
  | odit => cases h
  | odig => cases h
  | oins => cases h
theorem Own.shNil {F H : Hp} {d : D} {v : V} {L : List Addr} (o : Own W F H d v L) (h : Py.isSh d = true) : L = [] := by
  cases o with
  | sh y => rfl
  | olst => cases h
  | odic => cases h
  | odit => cases h
  | odig => cases h
  | oins => cases h
theorem Owns.shrs {F H : Hp} : ∀ {ds : List D} {vs : List V} {L : List Addr}, Owns W F H ds vs L -> ds.all Py.isSh = true -> Shrs W F ds vs
  | _, _, _, .nil, _ => .nil
  | _, _, _, .cons o t, h => by
    rw [List.all_cons, Bool.and_eq_true] at h
    exact .cons (o.shr h.1) (t.shrs h.2)
end
end Py
namespace Py
open PySem L2
abbrev Env := List (Option D)
inductive Slots {T : Tbl} (W : Wd T) : Hp -> Hp -> Py.Env -> St -> List Addr -> Prop
  | nil {F H} : Slots W F H [] [] []
  | so {F H d v env σ L M} : Own W F H d v L -> Slots W F H env σ M -> Slots W F H (some d :: env) (some v :: σ) (L ++ M)
  | no {F H o env σ M} : Slots W F H env σ M -> Slots W F H (none :: env) (o :: σ) M
section
variable {T : Tbl} {W : Wd T} {F F' H H' : Hp}
theorem Slots.frame (e : Same F F') : ∀ {env : Py.Env} {σ : St} {L : List Addr}, (∀ a ∈ L, ∀ o, H a = some o -> H' a = some o) -> Slots W F H env σ L -> Slots W F' H' env σ L
  | _, _, _, _, .nil => .nil
  | _, _, _, k, .so h t => .so (h.frame e fun a m => k a (List.mem_append_left _ m)) (t.frame e fun a m => k a (List.mem_append_right _ m))
  | _, _, _, k, .no t => .no (t.frame e k)
theorem Slots.lives : ∀ {env : Py.Env} {σ : St} {L : List Addr}, Slots W F H env σ L -> ∀ a ∈ L, ∃ o, H a = some o
  | _, _, _, .nil, _, m => nomatch m
  | _, _, _, .so h t, a, m => (List.mem_append.mp m).elim (fun m => h.lives a m) fun m => t.lives a m
  | _, _, _, .no t, a, m => t.lives a m
theorem Slots.length : ∀ {env : Py.Env} {σ : St} {L : List Addr}, Slots W F H env σ L -> env.length = σ.length
  | _, _, _, .nil => rfl
  | _, _, _, .so _ t => congrArg (· + 1) t.length
  | _, _, _, .no t => congrArg (· + 1) t.length
theorem Slots.take : ∀ {env : Py.Env} {σ : St} {L : List Addr} {i : Nat} {d : D}, Slots W F H env σ L -> L.Nodup -> env[i]? = some (some d) ->
    ∃ v Li Lr, σ[i]? = some (some v) /\ Own W F H d v Li /\ Slots W F H (env.set i none) σ Lr /\ (Li ++ Lr).Nodup /\ (∀ a, a ∈ Li \/ a ∈ Lr ↔ a ∈ L)
  | _, _, _, _, _, .nil, _, e => by simp at e
  | _, _, _, 0, _, .so (L := L1) (M := M1) h t, nd, e => by
    simp at e; subst e
    exact ⟨_, L1, M1, rfl, h, .no t, nd, fun a => List.mem_append.symm⟩
  | _, _, _, i + 1, _, .so (L := L1) (M := M1) h t, nd, e => by
    rw [List.nodup_append] at nd
    obtain ⟨n1, n2, n3⟩ := nd
    obtain ⟨v, Li, Lr, e1, o, s, nd', m⟩ := t.take (i := i) n2 (by simpa using e)
    refine ⟨v, Li, L1 ++ Lr, by simpa using e1, o, .so h s, ?_, fun a => ?_⟩
    · rw [List.nodup_append] at nd' ⊢
      obtain ⟨p1, p2, p3⟩ := nd'
      refine ⟨p1, ?_, ?_⟩
      · rw [List.nodup_append]
        exact ⟨n1, p2, fun a ha b hb => n3 a ha b ((m b).mp (.inr hb))⟩
      · intro a ha b hb
        rcases List.mem_append.mp hb with hb | hb
        · exact fun q => n3 b hb a ((m a).mp (.inl ha)) q.symm
        · exact p3 a ha b hb
    · simp only [List.mem_append, <- m a]
      constructor
      · rintro (h | h | h)
        · exact .inr (.inl h)
        · exact .inl h
        · exact .inr (.inr h)
      · rintro (h | h | h)
        · exact .inr (.inl h)
        · exact .inl h
        · exact .inr (.inr h)
  | _, _, _, 0, _, .no t, nd, e => by simp at e
  | _, _, _, i + 1, _, .no (o := o1) (M := M1) t, nd, e => by
    obtain ⟨v, Li, Lr, e1, o, s, nd', m⟩ := t.take (i := i) nd (by simpa using e)
    exact ⟨v, Li, Lr, by simpa using e1, o, .no s, nd', m⟩
theorem Slots.put : ∀ {env : Py.Env} {σ : St} {L : List Addr} {i : Nat} {d : D} {v : V} {Ld : List Addr}, Slots W F H env σ L -> Own W F H d v Ld -> (Ld ++ L).Nodup -> i < env.length ->
    ∃ L', Slots W F H (env.set i (some d)) (σ.set i (some v)) L' /\ L'.Nodup /\ (∀ a ∈ L', a ∈ Ld \/ a ∈ L)
  | _, _, _, _, _, _, _, .nil, _, _, hi => by simp at hi
  | _, _, _, 0, d, v, Ld, .so (L := L1) (M := M1) h t, o, nd, _ => by
    refine ⟨Ld ++ M1, .so o t, ?_, fun a m => ?_⟩
    · rw [List.nodup_append] at nd ⊢
      obtain ⟨n1, n2, n3⟩ := nd
      rw [List.nodup_append] at n2
      exact ⟨n1, n2.2.1, fun a ha b hb => n3 a ha b (List.mem_append_right _ hb)⟩
    · rcases List.mem_append.mp m with m | m
      · exact .inl m
      · exact .inr (List.mem_append_right _ m)
  | _, _, _, 0, d, v, Ld, .no (M := M1) t, o, nd, _ => by
    exact ⟨Ld ++ M1, .so o t, nd, fun a m => List.mem_append.mp m⟩
  | _, _, _, i + 1, d, v, Ld, .so (L := L1) (M := M1) h t, o, nd, hi => by
    rw [List.nodup_append] at nd
    obtain ⟨n1, n2, n3⟩ := nd
    rw [List.nodup_append] at n2
    obtain ⟨p1, p2, p3⟩ := n2
    obtain ⟨L', s, nd', m⟩ := t.put (i := i) o (by
      rw [List.nodup_append]
      exact ⟨n1, p2, fun a ha b hb => n3 a ha b (List.mem_append_right _ hb)⟩) (by simpa using hi)
    refine ⟨L1 ++ L', .so h s, ?_, fun a ha => ?_⟩
    · rw [List.nodup_append]
      refine ⟨p1, nd', fun a ha b hb => ?_⟩
      rcases m b hb with q | q
      · exact fun z => n3 b q a (List.mem_append_left _ ha) z.symm
      · exact p3 a ha b q
    · rcases List.mem_append.mp ha with q | q
      · exact .inr (List.mem_append_left _ q)
      · rcases m a q with q | q
        · exact .inl q
        · exact .inr (List.mem_append_right _ q)
  | _, _, _, i + 1, d, v, Ld, .no (M := M1) t, o, nd, hi => by
    obtain ⟨L', s, nd', m⟩ := t.put (i := i) o nd (by simpa using hi)
    exact ⟨L', .no s, nd', m⟩
structure Ent where
  F0 : Hp
  H0 : Hp
  L0 : List Addr
  pins : List (Nat × V)
structure Rel {T : Tbl} (W : Wd T) (e : Ent) (env : Py.Env) (F : Hp) (σ : St) (H : Hp) (L : List Addr) : Prop where
  sF : Same F H
  slots : Slots W F H env σ L
  nd : L.Nodup
  dj : ∀ a ∈ L, F a = none
  s0 : Same e.F0 F
  nw : ∀ a o, F a = some o -> e.F0 a = some o \/ e.H0 a = none \/ a ∈ e.L0
  fr : ∀ a o, a ∉ e.L0 -> e.H0 a = some o -> H a = some o
  ln : ∀ a ∈ L, a ∈ e.L0 \/ e.H0 a = none
  pin : ∀ p ∈ e.pins, σ[p.1]? = some (some p.2)
structure Ext (F H F' H' : Hp) : Prop where
  f : Same F F'
  s : Same F' H'
  h : Same H H'
  n : ∀ a o, F' a = some o -> F a = some o \/ H a = none
theorem Ext.refl (s : Same F H) : Ext F H F H := ⟨Same.refl _, s, Same.refl _, fun _ _ h => .inl h⟩
theorem Ext.trans {F1 H1 F2 H2 : Hp} (a : Ext F H F1 H1) (b : Ext F1 H1 F2 H2) : Ext F H F2 H2 :=
  ⟨a.f.trans b.f, b.s, a.h.trans b.h, fun x o h => by
    rcases b.n x o h with q | q
    · exact a.n x o q
    · exact .inr (a.h.free q)⟩
theorem same_new {H : Hp} {p : Addr} {o : HO} (h : H p = none) : Same H (upd H p o) := fun b u e => by
  rw [upd_ne (ne_of_none e h)]; exact e
theorem Ext.new (s : Same F H) {p : Addr} {o : HO} (h : H p = none) : Ext F H (upd F p o) (upd H p o) where
  f := same_new (s.free h)
  s := fun b u e => by
    by_cases q : b = p
    · subst q; rw [upd_same] at e ⊢; exact e
    · rw [upd_ne q] at e ⊢; exact s _ _ e
  h := same_new h
  n := fun b u e => by
    by_cases q : b = p
    · subst q; exact .inr h
    · rw [upd_ne q] at e; exact .inl e
theorem Ext.newH (s : Same F H) {p : Addr} {o : HO} (h : H p = none) : Ext F H F (upd H p o) where
  f := Same.refl _
  s := s.trans (same_new h)
  h := same_new h
  n := fun _ _ e => .inl e
theorem Rel.ext {e : Ent} {env : Py.Env} {σ : St} {L : List Addr} (R : Rel W e env F σ H L) (x : Ext F H F' H') : Rel W e env F' σ H' L where
  sF := x.s
  slots := R.slots.frame x.f fun a _ o q => x.h _ _ q
  nd := R.nd
  dj := fun a m => by
    obtain ⟨o, ho⟩ := R.slots.lives a m
    cases q : F' a with
    | none => rfl
    | some u =>
      rcases x.n a u q with z | z
      · rw [R.dj a m] at z; cases z
      · rw [ho] at z; cases z
  s0 := R.s0.trans x.f
  nw := fun a o q => by
    rcases x.n a o q with z | z
    · exact R.nw a o z
    · by_cases m : a ∈ e.L0
      · exact .inr (.inr m)
      · refine .inr (.inl ?_)
        cases y : e.H0 a with
        | none => rfl
        | some u => rw [R.fr a u m y] at z; cases z
  fr := fun a o m q => x.h _ _ (R.fr a o m q)
  ln := R.ln
  pin := R.pin
abbrev Res := Hp -> Hp -> Hp -> V -> Prop
def rF {T : Tbl} (W : Wd T) (d : D) : Res := fun F _ _ v => Shr W F d v
def rV {T : Tbl} (W : Wd T) (d : D) : Res := fun _ H _ v => Shr W H d v
def rO {T : Tbl} (W : Wd T) (d : D) : Res := fun F H H0 v => ∃ L, Own W F H d v L /\ L.Nodup /\ ∀ a ∈ L, H0 a = none /\ F a = none
def rL {T : Tbl} (W : Wd T) (ds : List D) : Res := fun F H _ v => ∃ a vs, v = .ref a /\ SqL W.K H a vs /\ Shrs W F ds vs
def AE {T : Tbl} (W : Wd T) (t : TE) (env : Py.Env) (R : Res) : Prop :=
  ∀ (e : Ent) (F : Hp) (σ : St) (H : Hp) (L : List Addr) (Q : VK), Rel W e env F σ H L -> (∀ v F' H', Ext F H F' H' -> R F' H' H v -> Q v H') -> t σ H Q
def AT {T : Tbl} (W : Wd T) (t : TT) (env : Py.Env) (b : Bool) : Prop :=
  ∀ (e : Ent) (F : Hp) (σ : St) (H : Hp) (L : List Addr) (Q : Bool -> Hp -> Prop), Rel W e env F σ H L -> (∀ F' H', Ext F H F' H' -> Q b H') -> t σ H Q
abbrev ResL := Hp -> Hp -> Hp -> List V -> Prop
def rFs {T : Tbl} (W : Wd T) (ds : List D) : ResL := fun F _ _ vs => Shrs W F ds vs
def rVs {T : Tbl} (W : Wd T) (ds : List D) : ResL := fun _ H _ vs => Shrs W H ds vs
def AA {T : Tbl} (W : Wd T) (t : TA) (env : Py.Env) (R : ResL) : Prop :=
  ∀ (e : Ent) (F : Hp) (σ : St) (H : Hp) (L : List Addr) (Q : List V -> Hp -> Prop), Rel W e env F σ H L -> (∀ v F' H', Ext F H F' H' -> R F' H' H v -> Q v H') -> t σ H Q
variable {env : Py.Env} {t ta tb : TE}
theorem AE.imp {R R' : Res} (h : AE W t env R) (k : ∀ F H H0 v, Same F H -> R F H H0 v -> R' F H H0 v) : AE W t env R' := fun e F σ H L Q r q =>
  h e F σ H L Q r fun v F' H' x y => q v F' H' x (k _ _ _ _ x.s y)
theorem AE.view {d : D} (h : AE W t env (rF W d)) : AE W t env (rV W d) := h.imp fun _ _ _ _ s y => Shr.mono s y
theorem AE.own {d : D} (h : AE W t env (rF W d)) : AE W t env (rO W d) := h.imp fun _ _ _ _ s y => ⟨[], .sh y, .nil, fun _ m => nomatch m⟩
theorem AE.list {ds : List D} (h : AE W t env (rF W (.lst ds))) : AE W t env (rL W ds) := h.imp fun _ _ _ _ s y => by
  cases y with
  | lst a b => exact ⟨_, _, rfl, .of (s _ _ a), b⟩
theorem freeze {F H : Hp} {d : D} {v : V} {L : List Addr} (s : Same F H) (o : Own W F H d v L) (k : ∀ a ∈ L, F a = none) :
    ∃ F', Same F F' /\ Same F' H /\ (∀ a o, F' a = some o -> F a = some o \/ a ∈ L) /\ Shr W F' (fz d) v := by
  refine ⟨fun a => if a ∈ L then H a else F a, fun a u q => ?_, fun a u q => ?_, fun a u q => ?_, o.view (fun a u q => ?_) fun a m u q => ?_⟩
  · show (if a ∈ L then H a else F a) = some u
    split
    · rename_i m; rw [k a m] at q; cases q
    · exact q
  · have q : (if a ∈ L then H a else F a) = some u := q
    split at q
    · exact q
    · exact s _ _ q
  · have q : (if a ∈ L then H a else F a) = some u := q
    split at q
    · exact .inr (by assumption)
    · exact .inl q
  · show (if a ∈ L then H a else F a) = some u
    split
    · rename_i m; rw [k a m] at q; cases q
    · exact q
  · show (if a ∈ L then H a else F a) = some u
    rw [if_pos m]; exact q
theorem AE.frz {d : D} (h : AE W t env (rO W d)) : AE W t env (rF W (fz d)) := fun e F σ H L Q r q =>
  h e F σ H L Q r fun v F' H' x ⟨M, o, nd, k⟩ => by
    obtain ⟨G, s1, s2, nw, y⟩ := freeze x.s o fun a m => (k a m).2
    refine q v G H' ⟨x.f.trans s1, s2, x.h, fun a o z => ?_⟩ y
    rcases nw a o z with z | z
    · exact x.n a o z
    · exact .inr (k a z).1
structure Exn where
  c : String
  fs : List (String × D)
structure AEnds where
  nx : Py.Env -> Prop
  rt : D -> Py.Env -> Prop
  bk : Py.Env -> Prop := fun _ => False
  ct : Py.Env -> Prop := fun _ => False
  ex : Exn -> Py.Env -> Prop := fun _ _ => False
def IsExn {T : Tbl} (W : Wd T) (F : Hp) (ex : Exn) (C : Value) (d : Option Addr) : Prop :=
  C = .ref (W.cA ex.c) /\ W.hasX ex.c /\ (ex.fs = [] \/ ∃ a vs, d = some a /\ F a = some (.xd (((ex.fs.map (·.1)).map so).zip vs)) /\ Shrs W F (ex.fs.map (·.2)) vs)
structure Sat {T : Tbl} (W : Wd T) (e : Ent) (E : WX) (A : AEnds) (Dn : Ends) : Prop where
  nx : ∀ env F σ H L, A.nx env -> Rel W e env F σ H L -> Dn.nx σ H
  rt : ∀ d env F σ H L v M, A.rt d env -> Rel W e env F σ H L -> Own W F H d v M -> (M ++ L).Nodup -> (∀ a ∈ M, F a = none /\ (a ∈ e.L0 \/ e.H0 a = none)) -> Dn.rt v H
  bk : ∀ env F σ H L, A.bk env -> Rel W e env F σ H L -> Dn.bk σ H
  ct : ∀ env F σ H L, A.ct env -> Rel W e env F σ H L -> Dn.ct σ H
  ex : ∀ x env F σ H L C d, A.ex x env -> Rel W e env F σ H L -> IsExn W F x C d -> E C d σ H
def AS {T : Tbl} (W : Wd T) (P : List Nat) (E : WX) (t : TS) (env : Py.Env) (A : AEnds) : Prop :=
  ∀ (e : Ent) (F : Hp) (σ : St) (H : Hp) (L : List Addr) (Dn : Ends), P = e.pins.map (·.1) -> Rel W e env F σ H L -> Sat W e E A Dn -> t Dn σ H
variable {P : List Nat} {E : WX} {A : AEnds}
theorem as_seq {t u : TS} (h : AS W P E t env { A with nx := fun env' => AS W P E u env' A }) : AS W P E (tSeq t u) env A := fun e F σ H L Dn hp r s =>
  h e F σ H L _ hp r ⟨fun env' F' σ' H' L' a r' => a e F' σ' H' L' Dn hp r' s, s.rt, s.bk, s.ct, s.ex⟩
theorem as_next (h : A.nx env) : AS W P E tNext env A := fun e F σ H L Dn hp r s => s.nx _ _ _ _ _ h r
theorem Rel.set {e : Ent} {σ : St} {L M : List Addr} {d : D} {v : V} {i : Nat} (r : Rel W e env F σ H L) (o : Own W F H d v M) (nd : (M ++ L).Nodup) (k : ∀ a ∈ M, F a = none /\ (a ∈ e.L0 \/ e.H0 a = none)) (hi : i < env.length)
    (hp : ∀ p ∈ e.pins, p.1 ≠ i) : ∃ L', Rel W e (env.set i (some d)) F (σ.set i (some v)) H L' := by
  obtain ⟨L', s, nd', m⟩ := r.slots.put o nd hi
  refine ⟨L', r.sF, s, nd', fun a ha => ?_, r.s0, r.nw, r.fr, fun a ha => ?_, fun p hm => ?_⟩
  · rcases m a ha with q | q
    · exact (k a q).1
    · exact r.dj a q
  · rcases m a ha with q | q
    · exact (k a q).2
    · exact r.ln a q
  · rw [List.getElem?_set_ne (fun z => hp p hm z.symm)]
    exact r.pin p hm
theorem Rel.h0 {e : Ent} {σ : St} {L : List Addr} (r : Rel W e env F σ H L) {a : Addr} (h : H a = none) : a ∈ e.L0 \/ e.H0 a = none := by
  by_cases m : a ∈ e.L0
  · exact .inl m
  · refine .inr ?_
    cases y : e.H0 a with
    | none => rfl
    | some u => rw [r.fr a u m y] at h; cases h
theorem nodup_new {L M : List Addr} {H : Hp} (h1 : L.Nodup) (h2 : M.Nodup) (hl : ∀ a ∈ L, ∃ o, H a = some o) (hm : ∀ a ∈ M, H a = none) : (M ++ L).Nodup := by
  rw [List.nodup_append]
  refine ⟨h2, h1, fun a ha b hb q => ?_⟩
  subst q
  obtain ⟨o, z⟩ := hl a hb
  rw [hm a ha] at z
  cases z
theorem as_if {tc : TT} {t u : TS} {b : Bool} (h : AT W tc env b) (h1 : b = true -> AS W P E t env A) (h2 : b = false -> AS W P E u env A) : AS W P E (tIfS tc t u) env A := fun e F σ H L Dn hP r s =>
  h e F σ H L _ r fun F' H' x => by
    have r' := r.ext x
    cases b with
    | true => exact h1 rfl e F' σ H' L Dn hP r' s
    | false => exact h2 rfl e F' σ H' L Dn hP r' s
end
end Py
namespace Py
open PySem L2
section
variable {T : Tbl} {W : Wd T} {env : Py.Env} {t ta tb tc : TE} {d d1 d2 d3 : D} {i j : Int} {n m : Nat}
theorem slot_get {e : Ent} {F H : Hp} {σ : St} {L : List Addr} (r : Rel W e env F σ H L) (h : env[n]? = some (some d)) : ∃ v M, σ[n]? = some (some v) /\ Own W F H d v M /\ ∀ a ∈ M, a ∈ L := by
  obtain ⟨v, Li, Lr, e1, o, _, _, m⟩ := r.slots.take r.nd h
  exact ⟨v, Li, e1, o, fun a ha => (m a).mp (.inl ha)⟩
theorem ae_c {v : V} (h : ∀ F, Shr W F d v) : AE W (tC v) env (rF W d) := fun e F σ H L Q r q => q v F H (.refl r.sF) (h F)
theorem AE.shr (h : AE W t env (rO W d)) (s : isSh d = true) : AE W t env (rF W d) := h.imp fun _ _ _ _ _ ⟨_, o, _⟩ => o.shr s
theorem rO_sh {F H H0 : Hp} {v : V} (h : Shr W F d v) : rO W d F H H0 v := ⟨[], .sh h, .nil, fun _ m => nomatch m⟩
theorem rO_back {F H H0 H1 : Hp} {v : V} (e : Same H0 H1) (h : rO W d F H H1 v) : rO W d F H H0 v := by
  obtain ⟨L, o, nd, k⟩ := h
  exact ⟨L, o, nd, fun a m => ⟨e.free (k a m).1, (k a m).2⟩⟩
def Op2 {T : Tbl} (W : Wd T) (r : R2) (d1 d2 d : D) : Prop := ∀ (F H : Hp) (v1 v2 : V) (Q : VK), Same F H -> Shr W H d1 v1 -> Shr W H d2 v2 -> (∀ v F' H', Ext F H F' H' -> rO W d F' H' H v -> Q v H') -> r v1 v2 H Q
def Op2L {T : Tbl} (W : Wd T) (r : R2) (ds es : List D) (d : D) : Prop := ∀ (F H : Hp) (a b : Addr) (vs ws : List V) (Q : VK), Same F H -> H a = some (.lst vs) -> Shrs W F ds vs -> H b = some (.lst ws) -> Shrs W F es ws -> (∀ v F' H', Ext F H F' H' -> rO W d F' H' H v -> Q v H') -> r (.ref a) (.ref b) H Q
theorem ae_op2 {r : R2} (ha : AE W ta env (rV W d1)) (hb : AE W tb env (rV W d2)) (h : Op2 W r d1 d2 d) : AE W (tOp r ta tb) env (rO W d) := fun e F σ H L Q rl q =>
  ha e F σ H L _ rl fun v F1 H1 x1 y1 => hb e F1 σ H1 L _ (rl.ext x1) fun u F2 H2 x2 y2 => h F2 H2 v u Q x2.s (y1.mono x2.h) y2 fun w F3 H3 x3 y3 => q w F3 H3 ((x1.trans x2).trans x3) (rO_back (x1.h.trans x2.h) y3)
theorem o2_l {r r' : R2} (h : Op2 W r d1 d2 d) : Op2 W (fun x y H Q => r x y H Q \/ r' x y H Q) d1 d2 d := fun F H v1 v2 Q s a b q => .inl (h F H v1 v2 Q s a b q)
theorem o2_r {r r' : R2} (h : Op2 W r' d1 d2 d) : Op2 W (fun x y H Q => r x y H Q \/ r' x y H Q) d1 d2 d := fun F H v1 v2 Q s a b q => .inr (h F H v1 v2 Q s a b q)
theorem o2_i {g : Int -> Int -> V} (hg : ∀ F, Shr W F d (g i j)) : Op2 W (rI0 g) (.int i) (.int j) d := fun F H v1 v2 Q s a b q => by
  cases a; cases b
  exact ⟨i, j, rfl, rfl, q _ F H (.refl s) (rO_sh (hg _))⟩
theorem o2_ic {C : Int -> Int -> Prop} {g : Int -> Int -> V} (hc : C i j) (hg : ∀ F, Shr W F d (g i j)) : Op2 W (rI C g) (.int i) (.int j) d := fun F H v1 v2 Q s a b q => by
  cases a; cases b
  exact ⟨i, j, rfl, rfl, hc, q _ F H (.refl s) (rO_sh (hg _))⟩
theorem ae_u {g : Int -> V} (ha : AE W ta env (rV W (.int i))) (hg : ∀ F, Shr W F d (g i)) : AE W (tUn (rU g) ta) env (rF W d) := fun e F σ H L Q r q =>
  ha e F σ H L _ r fun v F1 H1 x1 y1 => by
    cases y1
    exact ⟨i, rfl, q _ F1 H1 x1 (hg _)⟩
def fl : D -> Option V
  | .non => some .non
  | .bl b => some (.bl b)
  | .int i => some (.int i)
  | .str x => some (.str (so x))
  | _ => none
theorem Shr.fl {F : Hp} {v u : V} (h : Shr W F d v) (e : Py.fl d = some u) : v = u := by
  cases h <;> (first | (cases e; rfl) | cases e)
mutual
def pd : D -> Option PyData
  | .non => some .none
  | .bl b => some (.bool b)
  | .int i => some (.int i)
  | .str x => some (.str (so x))
  | .tup xs => (pds xs).map PyData.tuple
  | .lst xs => (pds xs).map PyData.list
  | _ => none
def pds : List D -> Option (List PyData)
  | [] => some []
  | d :: ds => match pd d, pds ds with
    | some x, some xs => some (x :: xs)
    | _, _ => none
end
mutual
theorem Shr.dp {H : Hp} : ∀ {d : D} {v : V} {x : PyData}, Shr W H d v -> pd d = some x -> Dp W.K H v x
  | _, _, _, .non, e => by rw [pd] at e; cases e; exact .non
  | _, _, _, .bl, e => by rw [pd] at e; cases e; exact .bl _
  | _, _, _, .int, e => by rw [pd] at e; cases e; exact .int _
  | _, _, _, .str, e => by rw [pd] at e; cases e; exact .str _
  | _, _, _, .scr _, e => by rw [pd] at e <;> cases e
  | .tup xs, _, _, .tup h hs, e => by
    rw [pd] at e
    cases q : pds xs with
    | none => rw [q] at e; cases e
    | some ys => rw [q] at e; cases e; exact .tup (.of h) (Shrs.dp hs q)
  | .lst xs, _, _, .lst h hs, e => by
    rw [pd] at e
    cases q : pds xs with
    | none => rw [q] at e; cases e
    | some ys => rw [q] at e; cases e; exact .lst (.of h) (Shrs.dp hs q)
  | _, _, _, .cls _, e => by rw [pd] at e <;> cases e
  | _, _, _, .sei _ _, e => by rw [pd] at e <;> cases e
  | _, _, _, .dic _ _ _ _, e => by rw [pd] at e <;> cases e
  | _, _, _, .dit _ _ _ _, e => by rw [pd] at e <;> cases e
  | _, _, _, .dig _ _ _ _, e => by rw [pd] at e <;> cases e
  | _, _, _, .ins _ _ _ _, e => by rw [pd] at e <;> cases e
theorem Shrs.dp {H : Hp} : ∀ {ds : List D} {vs : List V} {xs : List PyData}, Shrs W H ds vs -> pds ds = some xs -> DpAll W.K H vs xs
  | _, _, _, .nil, e => by rw [pds] at e; cases e; exact .nil
  | d :: ds, _, _, .cons h t, e => by
    rw [pds] at e
    cases q1 : pd d with
    | none => rw [q1] at e; cases e
    | some x =>
      cases q2 : pds ds with
      | none => rw [q1, q2] at e; cases e
      | some xs => rw [q1, q2] at e; cases e; exact .cons (Shr.dp h q1) (Shrs.dp t q2)
end
theorem o2_eqD {x y : PyData} (h1 : pd d1 = some x) (h2 : pd d2 = some y) (s1 : SeqAt.shaped x = true) (s2 : SeqAt.shaped y = true) : Op2 W (rEqD W.K) d1 d2 (.bl (PyData.eqv x y)) := fun F H v1 v2 Q s a b q =>
  ⟨x, y, a.dp h1, b.dp h2, s1, s2, q _ F H (.refl s) (rO_sh .bl)⟩
theorem o2_neD {x y : PyData} (h1 : pd d1 = some x) (h2 : pd d2 = some y) (s1 : SeqAt.shaped x = true) (s2 : SeqAt.shaped y = true) : Op2 W (rNeD W.K) d1 d2 (.bl (!PyData.eqv x y)) := fun F H v1 v2 Q s a b q =>
  ⟨x, y, a.dp h1, b.dp h2, s1, s2, q _ F H (.refl s) (rO_sh .bl)⟩
theorem o2L_cat {ds es : List D} (hl : ds.length + es.length <= 1000000) : Op2L W rCat ds es (.olst (ds ++ es)) := fun F H a b vs ws Q s ha sa hb sb q =>
  ⟨a, b, vs, ws, rfl, rfl, ha, hb, by rw [<- sa.length, <- sb.length]; exact Nat.le_trans hl (by decide), fun p hp => q _ F _ (.newH s hp) ⟨[p], .olst upd_same (sa.append sb).owns, by simp, fun x m => by
    rw [List.mem_singleton.mp m]; exact ⟨hp, s.free hp⟩⟩⟩
def Cb {T : Tbl} (W : Wd T) (r : List V -> Hp -> VK -> Prop) (ds : List D) (d : D) : Prop := ∀ (F H : Hp) (vs : List V) (Q : VK), Same F H -> Shrs W H ds vs -> (∀ v F' H', Ext F H F' H' -> rO W d F' H' H v -> Q v H') -> r vs H Q
theorem ae_cb {r : List V -> Hp -> VK -> Prop} {tr : TA} {ds : List D} (h : AA W tr env (rVs W ds)) (hc : Cb W r ds d) : AE W (tCB r tr) env (rO W d) := fun e F σ H L Q rl q =>
  h e F σ H L _ rl fun vs F1 H1 x1 y1 => hc F1 H1 vs Q x1.s y1 fun w F3 H3 x3 y3 => q w F3 H3 (x1.trans x3) (rO_back x1.h y3)
theorem cb_l {r r' : List V -> Hp -> VK -> Prop} {ds : List D} (h : Cb W r ds d) : Cb W (fun xs H Q => r xs H Q \/ r' xs H Q) ds d := fun F H vs Q s a q => .inl (h F H vs Q s a q)
def isNon : D -> Bool
  | .non => true
  | _ => false
theorem ae_andV {a b : Bool} (ha : AE W ta env (rV W (.bl a))) (hb : a = true -> AE W tb env (rV W (.bl b))) : AE W (tAndV ta tb) env (rF W (.bl (a && b))) := fun e F σ H L Q r q =>
  ha e F σ H L _ r fun v F1 H1 x1 y1 => by
    cases y1
    refine ⟨a, rfl, ?_⟩
    cases a with
    | true => exact hb rfl e F1 σ H1 L _ (r.ext x1) fun u F2 H2 x2 y2 => by cases y2; exact q _ F2 H2 (x1.trans x2) .bl
    | false => exact q _ F1 H1 x1 .bl
theorem ae_notV {a : Bool} (ha : AE W ta env (rV W (.bl a))) : AE W (tNotV ta) env (rF W (.bl (!a))) := fun e F σ H L Q r q =>
  ha e F σ H L _ r fun v F1 H1 x1 y1 => by
    cases y1
    exact ⟨a, rfl, q _ F1 H1 x1 .bl⟩
variable {tt tu : TT} {a b : Bool}
theorem at_test (h : AE W t env (rV W (.bl b))) : AT W (tTest t) env b := fun e F σ H L Q r q => h e F σ H L _ r fun v F1 H1 x1 y1 => by
  cases y1
  exact ⟨b, rfl, q F1 H1 x1⟩
theorem at_and (h1 : AT W tt env a) (h2 : a = true -> AT W tu env b) : AT W (tAnd tt tu) env (a && b) := fun e F σ H L Q r q => h1 e F σ H L _ r fun F1 H1 x1 => by
  cases a with
  | true => exact h2 rfl e F1 σ H1 L _ (r.ext x1) fun F2 H2 x2 => q F2 H2 (x1.trans x2)
  | false => exact q F1 H1 x1
theorem at_or (h1 : AT W tt env a) (h2 : a = false -> AT W tu env b) : AT W (tOr tt tu) env (a || b) := fun e F σ H L Q r q => h1 e F σ H L _ r fun F1 H1 x1 => by
  cases a with
  | false => exact h2 rfl e F1 σ H1 L _ (r.ext x1) fun F2 H2 x2 => q F2 H2 (x1.trans x2)
  | true => exact q F1 H1 x1
theorem at_not (h1 : AT W tt env a) : AT W (tNot tt) env (!a) := fun e F σ H L Q r q => h1 e F σ H L _ r fun F1 H1 x1 => q F1 H1 x1
variable {tr : TA} {ds : List D}
theorem aa_nil : AA W tNil env (rFs W []) := fun e F σ H L Q r q => q [] F H (.refl r.sF) .nil
theorem aa_nilV : AA W tNil env (rVs W []) := fun e F σ H L Q r q => q [] F H (.refl r.sF) .nil
theorem aa_cons (ha : AE W t env (rF W d)) (hr : AA W tr env (rFs W ds)) : AA W (tCons t tr) env (rFs W (d :: ds)) := fun e F σ H L Q r q =>
  ha e F σ H L _ r fun v F1 H1 x1 y1 => hr e F1 σ H1 L _ (r.ext x1) fun vs F2 H2 x2 y2 => q _ F2 H2 (x1.trans x2) (.cons (y1.mono x2.f) y2)
theorem aa_consV (ha : AE W t env (rV W d)) (hr : AA W tr env (rVs W ds)) : AA W (tCons t tr) env (rVs W (d :: ds)) := fun e F σ H L Q r q =>
  ha e F σ H L _ r fun v F1 H1 x1 y1 => hr e F1 σ H1 L _ (r.ext x1) fun vs F2 H2 x2 y2 => q _ F2 H2 (x1.trans x2) (.cons (y1.mono x2.h) y2)
theorem AA.view (h : AA W tr env (rFs W ds)) : AA W tr env (rVs W ds) := fun e F σ H L Q r q => h e F σ H L _ r fun v F1 H1 x1 y1 => q v F1 H1 x1 (Shrs.mono x1.s y1)
theorem sz_le {n : Nat} (h : n <= 1000000) : n <= sizeLine := Nat.le_trans h (by decide)
theorem ae_tup (h : AA W tr env (rFs W ds)) (hl : ds.length <= 1000000) : AE W (tTup tr) env (rF W (.tup ds)) := fun e F σ H L Q r q =>
  h e F σ H L _ r fun vs F1 H1 x1 y1 => ⟨by rw [<- y1.length]; exact sz_le hl, fun p hp =>
    q _ (upd F1 p (.tup vs)) _ (x1.trans (.new x1.s hp)) (.tup upd_same (y1.mono (same_new (x1.s.free hp))))⟩
theorem ae_lst (h : AA W tr env (rFs W ds)) (hl : ds.length <= 1000000) : AE W (tLst tr) env (rO W (.olst ds)) := fun e F σ H L Q r q =>
  h e F σ H L _ r fun vs F1 H1 x1 y1 => ⟨by rw [<- y1.length]; exact sz_le hl, fun p hp =>
    q _ F1 _ (x1.trans (.newH x1.s hp)) ⟨[p], .olst upd_same y1.owns, by simp, fun a m => by
      rw [List.mem_singleton.mp m]; exact ⟨x1.h.free hp, x1.s.free hp⟩⟩⟩
abbrev rLenU (K : PySem.W.Frag) : List V -> Hp -> VK -> Prop := fun xs H Q => ∃ p ys, xs = [.ref p] /\ (SqL K H p ys \/ SqT K H p ys) /\ Q (.int ys.length) H
theorem cb_lenL {ds : List D} : Cb W (rLenU W.K) [.lst ds] (.int ds.length) := fun F H vs Q s a q => by
  cases a with
  | cons a b =>
    cases b
    cases a with
    | lst a b => exact ⟨_, _, rfl, .inl (.of a), q _ F H (.refl s) (rO_sh (by rw [b.length]; exact .int))⟩
theorem cb_lenT {ds : List D} : Cb W (rLenU W.K) [.tup ds] (.int ds.length) := fun F H vs Q s a q => by
  cases a with
  | cons a b =>
    cases b
    cases a with
    | tup a b => exact ⟨_, _, rfl, .inr (.of a), q _ F H (.refl s) (rO_sh (by rw [b.length]; exact .int))⟩
theorem cb_lenS {ns : List Int} : Cb W (rLenU W.K) [.scr ns] (.int ns.length) := fun F H vs Q s a q => by
  cases a with
  | cons a b =>
    cases b
    cases a with
    | scr a => exact ⟨_, _, rfl, .inl a, q _ F H (.refl s) (rO_sh (by rw [List.length_map]; exact .int))⟩
def rIxU (K : PySem.W.Frag) : R2 := fun x y H Q => rIxL K x y H Q \/ rIxT K x y H Q
theorem AT.is {tt : TT} {b c : Bool} (h : AT W tt env b) (e : b = c) : AT W tt env c := e ▸ h
theorem cb_int : Cb W (fun xs H Q => (∃ i, xs = [.int i] /\ Q (.int i) H) \/ ∃ k, xs = [.bl k] /\ Q (.int (if k then 1 else 0)) H) [.int i] (.int i) := fun F H vs Q s a q => by
  cases a with
  | cons a b =>
    cases b; cases a
    exact .inl ⟨i, rfl, q _ F H (.refl s) (rO_sh .int)⟩
theorem cb_abs : Cb W (fun xs H Q => ∃ i, xs = [.int i] /\ Q (.int (if i < 0 then -i else i)) H) [.int i] (.int (if i < 0 then -i else i)) := fun F H vs Q s a q => by
  cases a with
  | cons a b =>
    cases b; cases a
    exact ⟨i, rfl, q _ F H (.refl s) (rO_sh .int)⟩
variable {P : List Nat} {E : WX} {A : AEnds}
def AG {T : Tbl} (W : Wd T) (P : List Nat) (g : TG) (d : D) (env : Py.Env) (k : Py.Env -> Prop) : Prop :=
  ∀ (e : Ent) (F : Hp) (σ : St) (H : Hp) (L : List Addr) (v : V) (Q : St -> Hp -> Prop), P = e.pins.map (·.1) -> Rel W e env F σ H L -> Shr W F d v -> (∀ env' σ' L', k env' -> Rel W e env' F σ' H L' -> Q σ' H) -> g v σ H Q
def AGs {T : Tbl} (W : Wd T) (P : List Nat) (g : TGs) (ds : List D) (env : Py.Env) (k : Py.Env -> Prop) : Prop :=
  ∀ (e : Ent) (F : Hp) (σ : St) (H : Hp) (L : List Addr) (vs : List V) (Q : St -> Hp -> Prop), P = e.pins.map (·.1) -> Rel W e env F σ H L -> Shrs W F ds vs -> (∀ env' σ' L', k env' -> Rel W e env' F σ' H L' -> Q σ' H) -> g vs σ H Q
theorem ag_name {k : Nat} {o' : Option D} {q : Py.Env -> Prop} (hi' : env[k]? = some o') (hp : k ∉ P) (h : q (env.set k (some d))) : AG W P (gName k) d env q := fun e F σ H L v Q hP r s c => by
  have hi := (List.getElem?_eq_some_iff.mp hi').1
  obtain ⟨L', r2⟩ := r.set (i := k) (M := []) (.sh s) (by simpa using r.nd) (fun a m => nomatch m) hi fun p hm z => hp (by rw [hP]; exact List.mem_map.mpr ⟨p, hm, z⟩)
  exact c _ _ _ h r2
theorem ags_nil {q : Py.Env -> Prop} (h : q env) : AGs W P gNil [] env q := fun e F σ H L v Q hP r s c => by
  cases s
  exact ⟨rfl, c _ _ _ h r⟩
theorem ags_cons {g : TG} {gs : TGs} {q : Py.Env -> Prop} (h : AG W P g d env fun env' => AGs W P gs ds env' q) : AGs W P (gCons g gs) (d :: ds) env q := fun e F σ H L v Q hP r s c => by
  cases s with
  | cons a b => exact ⟨_, _, rfl, h e F σ H L _ _ hP r a fun env' σ' L' k r' => k e F σ' H L' _ Q hP r' b c⟩
theorem ag_tup {gs : TGs} {q : Py.Env -> Prop} {k : Nat} (hl : ds.length = k) (h : AGs W P gs ds env q) : AG W P (gTup W.K k gs) (.tup ds) env q := fun e F σ H L v Q hP r s c => by
  cases s with
  | tup a b => exact ⟨_, _, rfl, .of (r.sF _ _ a), by rw [<- b.length]; exact hl, h e F σ H L _ Q hP r b c⟩
theorem Rel.enter {e : Ent} {F H : Hp} {σ : St} {L : List Addr} (r : Rel W e env F σ H L) : Rel W { e with F0 := F } env F σ H L :=
  ⟨r.sF, r.slots, r.nd, r.dj, Same.refl _, fun _ _ h => .inl h, r.fr, r.ln, r.pin⟩
theorem Rel.leave {e : Ent} {F1 F H H1 : Hp} {σ σ1 : St} {L L1 : List Addr} {env1 : Py.Env} (r1 : Rel W e env1 F1 σ1 H1 L1) (r : Rel W { e with F0 := F1 } env F σ H L) : Rel W e env F σ H L :=
  ⟨r.sF, r.slots, r.nd, r.dj, r1.s0.trans r.s0, fun a o h => (r.nw a o h).elim (fun q => r1.nw a o q) .inr, r.fr, r.ln, r.pin⟩
end
end Py
namespace Py
open PySem L2
inductive Pst where
  | fld (f : String) | idx (k : Nat) | key (k : Key) | keyT (k : List Key)
def pos {α : Type} [DecidableEq α] (f : α) : List α -> Option Nat
  | [] => none
  | x :: xs => if x = f then some 0 else (pos f xs).map (· + 1)
theorem zip_lookup {f : String} : ∀ {ns : List String} {vs : List V} {j : Nat}, pos f ns = some j -> ((ns.map so).zip vs).lookup (so f) = vs[j]?
  | [], _, _, h => by cases h
  | x :: xs, [], j, h => by simp
  | x :: xs, v :: vs, j, h => by
    unfold pos at h
    rw [List.map_cons, List.zip_cons_cons, List.lookup_cons]
    split at h
    · rename_i e; cases h; subst e; simp
    · rename_i e
      cases q : pos f xs with
      | none => rw [q] at h; cases h
      | some k =>
        rw [q] at h; cases h
        rw [beq_eq_false_iff_ne.mpr (fun z => e (so_inj z.symm))]
        exact zip_lookup (ns := xs) q
def D.place : D -> Pst -> Option Nat
  | .oins _ ns _, .fld f => pos f ns
  | .olst _, .idx k => some k
  | .odic ks _, .key k => pos k ks
  | .odit ks _, .keyT k => pos k ks
  | _, _ => none
def D.parts : D -> List D
  | .oins _ _ xs => xs
  | .olst xs => xs
  | .odic _ xs => xs
  | .odit _ xs => xs
  | _ => []
def D.withParts : D -> List D -> D
  | .oins C ns _, xs => .oins C ns xs
  | .olst _, xs => .olst xs
  | .odic ks _, xs => .odic ks xs
  | .odit ks _, xs => .odit ks xs
  | d, _ => d
def D.sub (d : D) (s : Pst) : Option D := (d.place s).bind fun j => d.parts[j]?
def D.put (d : D) (s : Pst) (n : D) : D := match d.place s with
  | some j => d.withParts (d.parts.set j n)
  | none => d
def D.at (d : D) : List Pst -> Option D
  | [] => some d
  | s :: st => (d.sub s).bind fun x => x.at st
def D.putAt (d : D) : List Pst -> D -> D
  | [], n => n
  | s :: st, n => match d.sub s with
    | some x => d.put s (x.putAt st n)
    | none => d
def VStep (H : Hp) (v : V) (s : Pst) (w : V) : Prop := match s with
  | .fld f => ∃ a C dx fs, v = .ref a /\ H a = some (.ins C dx fs) /\ fs.lookup (so f) = some w
  | .idx k => ∃ a vs, v = .ref a /\ H a = some (.lst vs) /\ vs[k]? = some w
  | .key k => ∃ a kvs, v = .ref a /\ H a = some (.dK kvs) /\ ∃ j : Nat, pos k (kvs.map (·.1)) = some j /\ (kvs.map (·.2))[j]? = some w
  | .keyT k => ∃ a kvs, v = .ref a /\ H a = some (.dT kvs) /\ ∃ j : Nat, pos k (kvs.map (·.1)) = some j /\ (kvs.map (·.2))[j]? = some w
def VPath (H : Hp) (v : V) : List Pst -> V -> Prop
  | [], w => v = w
  | s :: st, w => ∃ u, VStep H v s u /\ VPath H u st w
theorem VStep.mono {H H' : Hp} {v w : V} {s : Pst} (e : Same H H') (h : VStep H v s w) : VStep H' v s w := by
  cases s with
  | fld f => obtain ⟨a, C, dx, fs, h1, h2, h3⟩ := h; exact ⟨a, C, dx, fs, h1, e _ _ h2, h3⟩
  | idx k => obtain ⟨a, vs, h1, h2, h3⟩ := h; exact ⟨a, vs, h1, e _ _ h2, h3⟩
  | key k => obtain ⟨a, vs, h1, h2, h3⟩ := h; exact ⟨a, vs, h1, e _ _ h2, h3⟩
  | keyT k => obtain ⟨a, vs, h1, h2, h3⟩ := h; exact ⟨a, vs, h1, e _ _ h2, h3⟩
theorem VPath.mono {H H' : Hp} (e : Same H H') : ∀ {st : List Pst} {v w : V}, VPath H v st w -> VPath H' v st w
  | [], _, _, h => h
  | _ :: _, _, _, ⟨u, h1, h2⟩ => ⟨u, h1.mono e, VPath.mono e h2⟩
theorem VStep.det {H : Hp} {v w u : V} {s : Pst} (h : VStep H v s w) (q : VStep H v s u) : w = u := by
  cases s with
  | fld f =>
    obtain ⟨a, C, dx, fs, h1, h2, h3⟩ := h
    obtain ⟨b, C', dx', fs', q1, q2, q3⟩ := q
    rw [h1] at q1; cases q1
    rw [h2] at q2; cases q2
    rw [h3] at q3; exact Option.some.inj q3
  | idx k =>
    obtain ⟨a, vs, h1, h2, h3⟩ := h
    obtain ⟨b, ws, q1, q2, q3⟩ := q
    rw [h1] at q1; cases q1
    rw [h2] at q2; cases q2
    rw [h3] at q3; exact Option.some.inj q3
  | key k =>
    obtain ⟨a, vs, h1, h2, j, h3, h4⟩ := h
    obtain ⟨b, ws, q1, q2, j', q3, q4⟩ := q
    rw [h1] at q1; cases q1
    rw [h2] at q2; cases q2
    rw [h3] at q3; cases q3
    rw [h4] at q4; exact Option.some.inj q4
  | keyT k =>
    obtain ⟨a, vs, h1, h2, j, h3, h4⟩ := h
    obtain ⟨b, ws, q1, q2, j', q3, q4⟩ := q
    rw [h1] at q1; cases q1
    rw [h2] at q2; cases q2
    rw [h3] at q3; cases q3
    rw [h4] at q4; exact Option.some.inj q4
theorem VPath.det {H : Hp} : ∀ {st : List Pst} {v w u : V}, VPath H v st w -> VPath H v st u -> w = u
  | [], _, _, _, h, q => by cases h; cases q; rfl
  | _ :: _, _, _, _, ⟨x, h1, h2⟩, ⟨y, q1, q2⟩ => by
    cases h1.det q1
    exact VPath.det h2 q2
theorem VPath.snoc {H : Hp} : ∀ {st : List Pst} {v w u : V} {s : Pst}, VPath H v st w -> VStep H w s u -> VPath H v (st ++ [s]) u
  | [], _, _, _, _, h, q => by cases h; exact ⟨_, q, rfl⟩
  | _ :: _, _, _, _, _, ⟨x, h1, h2⟩, q => ⟨x, h1, VPath.snoc h2 q⟩
section
variable {T : Tbl} {W : Wd T} {F H : Hp}
theorem Owns.focus : ∀ {xs : List D} {vs : List V} {L : List Addr} {j : Nat} {n : D}, Owns W F H xs vs L -> L.Nodup -> xs[j]? = some n ->
    ∃ vn Ln Lr, vs[j]? = some vn /\ Own W F H n vn Ln /\ (Ln ++ Lr).Nodup /\ (∀ a, a ∈ Ln \/ a ∈ Lr ↔ a ∈ L) /\
      ∀ F' H' n' Ln', Same F F' -> (∀ a ∈ Lr, ∀ o, H a = some o -> H' a = some o) -> Own W F' H' n' vn Ln' -> (Ln' ++ Lr).Nodup -> ∃ L', Owns W F' H' (xs.set j n') vs L' /\ L'.Nodup /\ ∀ a, a ∈ L' ↔ a ∈ Ln' \/ a ∈ Lr
  | _, _, _, _, _, .nil, _, e => by simp at e
  | _, _, _, 0, n, .cons (L := L1) (M := M1) (v := v1) o t, nd, e => by
    simp at e; subst e
    refine ⟨v1, L1, M1, rfl, o, nd, fun a => List.mem_append.symm, fun F' H' n' Ln' s k o' nd' => ⟨Ln' ++ M1, ?_, nd', fun a => List.mem_append⟩⟩
    exact .cons o' (t.frame s k)
  | _, _, _, j + 1, n, .cons (L := L1) (M := M1) (v := v1) (d := d1) (ds := ds1) o t, nd, e => by
    rw [List.nodup_append] at nd
    obtain ⟨n1, n2, n3⟩ := nd
    obtain ⟨vn, Ln, Lr, h1, h2, h3, h4, h5⟩ := t.focus (j := j) n2 (by simpa using e)
    have hd : ∀ a ∈ L1, a ∉ Ln /\ a ∉ Lr := fun a ha => ⟨fun z => n3 a ha a ((h4 a).mp (.inl z)) rfl, fun z => n3 a ha a ((h4 a).mp (.inr z)) rfl⟩
    refine ⟨vn, Ln, L1 ++ Lr, by simpa using h1, h2, ?_, fun a => ?_, fun F' H' n' Ln' s k o' nd' => ?_⟩
    · rw [List.nodup_append] at h3 ⊢
      refine ⟨h3.1, ?_, fun a ha b hb q => ?_⟩
      · rw [List.nodup_append]
        exact ⟨n1, h3.2.1, fun a ha b hb q => (hd a ha).2 (q ▸ hb)⟩
      · subst q
        rcases List.mem_append.mp hb with z | z
        · exact (hd a z).1 ha
        · exact h3.2.2 a ha a z rfl
    · rw [List.mem_append, List.mem_append, <- h4 a]
      constructor
      · rintro (z | z | z)
        · exact .inr (.inl z)
        · exact .inl z
        · exact .inr (.inr z)
      · rintro (z | z | z)
        · exact .inr (.inl z)
        · exact .inl z
        · exact .inr (.inr z)
    · rw [List.nodup_append] at nd'
      obtain ⟨p1, p2, p3⟩ := nd'
      rw [List.nodup_append] at p2
      obtain ⟨L', q1, q2, q3⟩ := h5 F' H' n' Ln' s (fun a m => k a (List.mem_append_right _ m)) o' (by
        rw [List.nodup_append]
        exact ⟨p1, p2.2.1, fun a ha b hb => p3 a ha b (List.mem_append_right _ hb)⟩)
      refine ⟨L1 ++ L', .cons (o.frame s fun a m => k a (List.mem_append_left _ m)) q1, ?_, fun a => ?_⟩
      · rw [List.nodup_append]
        refine ⟨n1, q2, fun a ha b hb q => ?_⟩
        subst q
        rcases (q3 a).mp hb with z | z
        · exact p3 a z a (List.mem_append_left _ ha) rfl
        · exact p2.2.2 a ha a z rfl
      · rw [List.mem_append, List.mem_append, q3 a]
        constructor
        · rintro (z | z | z)
          · exact .inr (.inl z)
          · exact .inl z
          · exact .inr (.inr z)
        · rintro (z | z | z)
          · exact .inr (.inl z)
          · exact .inl z
          · exact .inr (.inr z)
theorem zipK_get {κ : Type} {ks : List κ} {vs : List V} (h : ks.length = vs.length) : ((ks.zip vs).map (·.1)) = ks /\ ((ks.zip vs).map (·.2)) = vs := ⟨by rw [List.map_fst_zip (by omega)], by rw [List.map_snd_zip (by omega)]⟩
theorem Own.focus1 {d n : D} {v : V} {L : List Addr} {s : Pst} (o : Own W F H d v L) (nd : L.Nodup) (h : d.sub s = some n) :
    ∃ vn Ln Lr, VStep H v s vn /\ Own W F H n vn Ln /\ (Ln ++ Lr).Nodup /\ (∀ a, a ∈ Ln \/ a ∈ Lr ↔ a ∈ L) /\
      ∀ F' H' n' Ln', Same F F' -> (∀ a ∈ Lr, ∀ o, H a = some o -> H' a = some o) -> Own W F' H' n' vn Ln' -> (Ln' ++ Lr).Nodup -> ∃ L', Own W F' H' (d.put s n') v L' /\ L'.Nodup /\ ∀ a, a ∈ L' ↔ a ∈ Ln' \/ a ∈ Lr := by
  have gen : ∀ {a : Addr} {xs : List D} {vs : List V} {M : List Addr} {j : Nat} {ho : HO} {G : List D -> D}, H a = some ho -> Owns W F H xs vs M -> (a :: M).Nodup -> xs[j]? = some n ->
      (∀ F' H' ys M', H' a = some ho -> Owns W F' H' ys vs M' -> Own W F' H' (G ys) (.ref a) (a :: M')) -> ∃ vn, vs[j]? = some vn /\ ∃ Ln Lr, Own W F H n vn Ln /\ (Ln ++ Lr).Nodup /\ (∀ b, b ∈ Ln \/ b ∈ Lr ↔ b ∈ a :: M) /\
      ∀ F' H' n' Ln', Same F F' -> (∀ a ∈ Lr, ∀ o, H a = some o -> H' a = some o) -> Own W F' H' n' vn Ln' -> (Ln' ++ Lr).Nodup -> ∃ L', Own W F' H' (G (xs.set j n')) (.ref a) L' /\ L'.Nodup /\ ∀ b, b ∈ L' ↔ b ∈ Ln' \/ b ∈ Lr := by
    intro a xs vs M j ho G ha os nd hj mk
    rw [List.nodup_cons] at nd
    obtain ⟨vn, Ln, Lr, h1, h2, h3, h4, h5⟩ := os.focus nd.2 hj
    have na : a ∉ Ln /\ a ∉ Lr := ⟨fun z => nd.1 ((h4 a).mp (.inl z)), fun z => nd.1 ((h4 a).mp (.inr z))⟩
    refine ⟨vn, h1, Ln, a :: Lr, h2, ?_, fun b => ?_, fun F' H' n' Ln' s k o' nd' => ?_⟩
    · rw [List.nodup_append] at h3 ⊢
      refine ⟨h3.1, List.nodup_cons.mpr ⟨na.2, h3.2.1⟩, fun x hx y hy q => ?_⟩
      subst q
      rcases List.mem_cons.mp hy with z | z
      · subst z; exact na.1 hx
      · exact h3.2.2 x hx x z rfl
    · rw [List.mem_cons, List.mem_cons, <- h4 b]
      constructor
      · rintro (z | z | z)
        · exact .inr (.inl z)
        · exact .inl z
        · exact .inr (.inr z)
      · rintro (z | z | z)
        · exact .inr (.inl z)
        · exact .inl z
        · exact .inr (.inr z)
    · rw [List.nodup_append] at nd'
      obtain ⟨p1, p2, p3⟩ := nd'
      rw [List.nodup_cons] at p2
      obtain ⟨L', q1, q2, q3⟩ := h5 F' H' n' Ln' s (fun b m => k b (List.mem_cons_of_mem _ m)) o' (by
        rw [List.nodup_append]
        exact ⟨p1, p2.2, fun x hx y hy => p3 x hx y (List.mem_cons_of_mem _ hy)⟩)
      refine ⟨a :: L', mk F' H' _ L' (k a (List.mem_cons_self ..) _ ha) q1, List.nodup_cons.mpr ⟨fun z => ?_, q2⟩, fun b => ?_⟩
      · rcases (q3 a).mp z with z | z
        · exact p3 a z a (List.mem_cons_self ..) rfl
        · exact p2.1 z
      · rw [List.mem_cons, List.mem_cons, q3 b]
        constructor
        · rintro (z | z | z)
          · exact .inr (.inl z)
          · exact .inl z
          · exact .inr (.inr z)
        · rintro (z | z | z)
          · exact .inr (.inl z)
          · exact .inl z
          · exact .inr (.inr z)
  unfold D.sub at h
  cases hp : d.place s with
  | none => rw [hp] at h; cases h
  | some j =>
    rw [hp] at h
    have h : d.parts[j]? = some n := h
    have hput : ∀ n', d.put s n' = d.withParts (d.parts.set j n') := fun n' => by unfold D.put; rw [hp]
    simp only [hput]
    cases o with
    | sh y =>
      cases y <;> (unfold D.place at hp; cases hp)
    | @olst a xs vs M ha os =>
      cases s with
      | idx k =>
        cases hp
        obtain ⟨vn, h1, Ln, Lr, h2⟩ := gen (G := .olst) ha os nd h fun F' H' ys M' q r => .olst q r
        exact ⟨vn, Ln, Lr, ⟨a, vs, rfl, ha, h1⟩, h2⟩
      | fld f => cases hp
      | key k => cases hp
      | keyT k => cases hp
    | @odic a ks xs vs M ha hl hn os =>
      cases s with
      | key k =>
        obtain ⟨vn, h1, Ln, Lr, h2⟩ := gen (G := .odic ks) ha os nd h fun F' H' ys M' q r => .odic q hl hn r
        obtain ⟨z1, z2⟩ := zipK_get hl
        exact ⟨vn, Ln, Lr, ⟨a, _, rfl, ha, j, by rw [z1]; exact hp, by rw [z2]; exact h1⟩, h2⟩
      | fld f => cases hp
      | idx k => cases hp
      | keyT k => cases hp
    | @odit a ks xs vs M ha hl hn os =>
      cases s with
      | keyT k =>
        obtain ⟨vn, h1, Ln, Lr, h2⟩ := gen (G := .odit ks) ha os nd h fun F' H' ys M' q r => .odit q hl hn r
        obtain ⟨z1, z2⟩ := zipK_get hl
        exact ⟨vn, Ln, Lr, ⟨a, _, rfl, ha, j, by rw [z1]; exact hp, by rw [z2]; exact h1⟩, h2⟩
      | fld f => cases hp
      | idx k => cases hp
      | key k => cases hp
    | odig => cases s <;> cases hp
    | @oins a C dx ns xs vs M ha hc hl os =>
      cases s with
      | fld f =>
        obtain ⟨vn, h1, Ln, Lr, h2⟩ := gen (G := .oins C ns) ha os nd h fun F' H' ys M' q r => .oins q hc hl r
        exact ⟨vn, Ln, Lr, ⟨a, _, dx, _, rfl, ha, by rw [zip_lookup hp]; exact h1⟩, h2⟩
      | idx k => cases hp
      | key k => cases hp
      | keyT k => cases hp
theorem Own.focus : ∀ {st : List Pst} {d n : D} {v : V} {L : List Addr}, Own W F H d v L -> L.Nodup -> d.at st = some n ->
    ∃ vn Ln Lr, VPath H v st vn /\ Own W F H n vn Ln /\ (Ln ++ Lr).Nodup /\ (∀ a, a ∈ Ln \/ a ∈ Lr ↔ a ∈ L) /\
      ∀ F' H' n' Ln', Same F F' -> (∀ a ∈ Lr, ∀ o, H a = some o -> H' a = some o) -> Own W F' H' n' vn Ln' -> (Ln' ++ Lr).Nodup -> ∃ L', Own W F' H' (d.putAt st n') v L' /\ L'.Nodup /\ ∀ a, a ∈ L' ↔ a ∈ Ln' \/ a ∈ Lr
  | [], d, n, v, L, o, nd, h => by
    cases h
    exact ⟨v, L, [], rfl, o, by simpa using nd, fun a => by simp, fun F' H' n' Ln' s k o' nd' => ⟨Ln', o', by simpa using nd', fun a => by simp⟩⟩
  | s :: st, d, n, v, L, o, nd, h => by
    unfold D.at at h
    cases hs : d.sub s with
    | none => rw [hs] at h; cases h
    | some x =>
      rw [hs] at h
      obtain ⟨vx, Lx, Ly, h1, h2, h3, h4, h5⟩ := o.focus1 nd hs
      obtain ⟨vn, Ln, Lr, k1, k2, k3, k4, k5⟩ := h2.focus (st := st) (List.nodup_append.mp h3).1 h
      have hput : ∀ n', d.putAt (s :: st) n' = d.put s (x.putAt st n') := fun n' => by
        show (match d.sub s with | some x => d.put s (x.putAt st n') | none => d) = _
        rw [hs]
      simp only [hput]
      rw [List.nodup_append] at h3
      obtain ⟨m1, m2, m3⟩ := h3
      refine ⟨vn, Ln, Lr ++ Ly, ⟨vx, h1, k1⟩, k2, ?_, fun a => ?_, fun F' H' n' Ln' sm k o' nd' => ?_⟩
      · rw [<- List.append_assoc, List.nodup_append]
        refine ⟨k3, m2, fun a ha b hb => m3 a ?_ b hb⟩
        exact (k4 a).mp (List.mem_append.mp ha)
      · rw [List.mem_append, <- h4 a, <- k4 a]
        constructor
        · rintro (z | z | z)
          · exact .inl (.inl z)
          · exact .inl (.inr z)
          · exact .inr z
        · rintro ((z | z) | z)
          · exact .inl z
          · exact .inr (.inl z)
          · exact .inr (.inr z)
      · rw [<- List.append_assoc, List.nodup_append] at nd'
        obtain ⟨p1, p2, p3⟩ := nd'
        obtain ⟨L', q1, q2, q3⟩ := k5 F' H' n' Ln' sm (fun a m => k a (List.mem_append_left _ m)) o' p1
        obtain ⟨L2, r1, r2, r3⟩ := h5 F' H' _ L' sm (fun a m => k a (List.mem_append_right _ m)) q1 (by
          rw [List.nodup_append]
          exact ⟨q2, p2, fun a ha b hb => p3 a (List.mem_append.mpr ((q3 a).mp ha)) b hb⟩)
        refine ⟨L2, r1, r2, fun a => ?_⟩
        rw [r3 a, q3 a, List.mem_append]
        constructor
        · rintro ((z | z) | z)
          · exact .inl z
          · exact .inr (.inl z)
          · exact .inr (.inr z)
        · rintro (z | z | z)
          · exact .inl (.inl z)
          · exact .inl (.inr z)
          · exact .inr z
theorem Owns.snoc : ∀ {xs : List D} {vs : List V} {M M2 : List Addr} {d : D} {v : V}, Owns W F H xs vs M -> Own W F H d v M2 -> Owns W F H (xs ++ [d]) (vs ++ [v]) (M ++ M2)
  | _, _, _, M2, _, _, .nil, o => by
    have h := Owns.cons o (Owns.nil (W := W) (F := F) (H := H))
    rw [List.append_nil] at h
    exact h
  | _, _, _, M2, _, _, .cons (L := L) (M := M) h t, o => by
    have q := Owns.cons h (t.snoc o)
    rw [<- List.append_assoc] at q
    exact q
theorem Rel.focus {e : Ent} {env : Py.Env} {σ : St} {L : List Addr} {i : Nat} {d0 n : D} {st : List Pst} (r : Rel W e env F σ H L) (h0 : env[i]? = some (some d0)) (h1 : d0.at st = some n) :
    ∃ v0 vn Ln Lr, σ[i]? = some (some v0) /\ VPath H v0 st vn /\ Own W F H n vn Ln /\ (Ln ++ Lr).Nodup /\ (∀ a, a ∈ Ln \/ a ∈ Lr ↔ a ∈ L) /\
      ∀ F' H' n' Ln', Same F F' -> Same F' H' -> (∀ a o, a ∉ Ln -> H a = some o -> H' a = some o) -> (∀ a o, F' a = some o -> F a = some o \/ (H a = none \/ a ∉ L /\ (a ∈ e.L0 \/ e.H0 a = none)) \/ a ∈ Ln) -> Own W F' H' n' vn Ln' -> (Ln' ++ Lr).Nodup -> (∀ a ∈ Ln', F' a = none /\ (a ∈ Ln \/ a ∈ e.L0 \/ e.H0 a = none)) ->
        ∃ L', Rel W e (env.set i (some (d0.putAt st n'))) F' σ H' L' /\ ∀ a ∈ L', a ∈ Ln' \/ a ∈ Lr := by
  obtain ⟨v0, Li, Lj, e1, o, sl, nd, mem⟩ := r.slots.take r.nd h0
  obtain ⟨vn, Ln, Lr, k1, k2, k3, k4, k5⟩ := o.focus (List.nodup_append.mp nd).1 h1
  rw [List.nodup_append] at nd
  obtain ⟨m1, m2, m3⟩ := nd
  have tot : ∀ a, a ∈ Ln \/ a ∈ Lr ++ Lj ↔ a ∈ L := fun a => by
    rw [List.mem_append, <- mem a, <- k4 a]
    constructor
    · rintro (z | z | z)
      · exact .inl (.inl z)
      · exact .inl (.inr z)
      · exact .inr z
    · rintro ((z | z) | z)
      · exact .inl z
      · exact .inr (.inl z)
      · exact .inr (.inr z)
  have ndT : (Ln ++ (Lr ++ Lj)).Nodup := by
    rw [<- List.append_assoc, List.nodup_append]
    exact ⟨k3, m2, fun a ha b hb => m3 a ((k4 a).mp (List.mem_append.mp ha)) b hb⟩
  refine ⟨v0, vn, Ln, Lr ++ Lj, e1, k1, k2, ndT, tot, fun F' H' n' Ln' sF sH fr nw o' nd' hn => ?_⟩
  have notn : ∀ a ∈ Lr ++ Lj, a ∉ Ln := fun a ha z => (List.nodup_append.mp ndT).2.2 a z a ha rfl
  have keep : ∀ a ∈ Lr ++ Lj, ∀ o, H a = some o -> H' a = some o := fun a ha o q => fr a o (notn a ha) q
  rw [<- List.append_assoc, List.nodup_append] at nd'
  obtain ⟨p1, p2, p3⟩ := nd'
  obtain ⟨L', q1, q2, q3⟩ := k5 F' H' n' Ln' sF (fun a m => keep a (List.mem_append_left _ m)) o' p1
  have sl' := sl.frame (F' := F') (H' := H') sF fun a m => keep a (List.mem_append_right _ m)
  have hi : i < env.length := (List.getElem?_eq_some_iff.mp h0).1
  obtain ⟨L2, s1, s2, s3⟩ := sl'.put (i := i) (v := v0) q1 (by
    rw [List.nodup_append]
    exact ⟨q2, p2, fun a ha b hb => p3 a (List.mem_append.mpr ((q3 a).mp ha)) b hb⟩) (by simpa using hi)
  have hset : (env.set i none).set i (some (d0.putAt st n')) = env.set i (some (d0.putAt st n')) := by rw [List.set_set]
  have hσ : σ.set i (some v0) = σ := by
    apply List.ext_getElem?
    intro k
    by_cases hk : i = k
    · subst hk
      obtain ⟨hlt, _⟩ := List.getElem?_eq_some_iff.mp e1
      rw [List.getElem?_set_self hlt, e1]
    · rw [List.getElem?_set_ne hk]
  rw [hset, hσ] at s1
  have inL : ∀ a ∈ L2, (a ∈ Ln' \/ a ∈ Lr ++ Lj) := fun a ha => by
    rcases s3 a ha with z | z
    · rcases (q3 a).mp z with z | z
      · exact .inl z
      · exact .inr (List.mem_append_left _ z)
    · exact .inr (List.mem_append_right _ z)
  have nr : ∀ a ∈ Lr ++ Lj, F' a = none := fun a ha => by
    obtain ⟨o, ho⟩ := r.slots.lives a ((tot a).mp (.inr ha))
    cases q : F' a with
    | none => rfl
    | some u =>
      rcases nw a u q with z | (z | z) | z
      · rw [r.dj a ((tot a).mp (.inr ha))] at z; cases z
      · rw [ho] at z; cases z
      · exact absurd ((tot a).mp (.inr ha)) z.1
      · exact absurd z (notn a ha)
  refine ⟨L2, ⟨sH, s1, s2, fun a ha => ?_, r.s0.trans sF, fun a o q => ?_, fun a o m q => ?_, fun a ha => ?_, r.pin⟩, inL⟩
  · rcases inL a ha with z | z
    · exact (hn a z).1
    · exact nr a z
  · rcases nw a o q with z | (z | z) | z
    · exact r.nw a o z
    · exact .inr ((r.h0 z).elim .inr .inl)
    · exact .inr (z.2.elim .inr .inl)
    · exact .inr ((r.ln a ((tot a).mp (.inl z))).elim .inr .inl)
  · have h := r.fr a o m q
    refine fr a o (fun z => ?_) h
    rcases r.ln a ((tot a).mp (.inl z)) with y | y
    · exact m y
    · rw [q] at y; cases y
  · rcases inL a ha with z | z
    · rcases (hn a z).2 with y | y
      · exact r.ln a ((tot a).mp (.inl y))
      · exact y
    · exact r.ln a ((tot a).mp (.inr z))
end
end Py
namespace Py
open PySem L2
section
variable {T : Tbl} {W : Wd T} {env : Py.Env} {t ta tb tk : TE} {tr : TA} {d d0 d1 d2 : D} {i : Nat} {st : List Pst} {P : List Nat} {E : WX} {A : AEnds}
def ALoc {T : Tbl} (W : Wd T) (t : TE) (env : Py.Env) (i : Nat) (st : List Pst) : Prop :=
  ∀ (e : Ent) (F : Hp) (σ : St) (H : Hp) (L : List Addr) (v0 : V) (Q : VK), Rel W e env F σ H L -> σ[i]? = some (some v0) -> (∀ v F' H', Ext F H F' H' -> VPath H' v0 st v -> Q v H') -> t σ H Q
theorem loc_var : ALoc W (tVar i) env i [] := fun e F σ H L v0 Q r h q => ⟨v0, h, q v0 F H (.refl r.sF) rfl⟩
end
end Py
namespace Py
open PySem L2
section
variable {X : Cx}
def CMulU (i j : Int) : Prop := CMul i j \/ CMulW i j
def CDivU (i j : Int) : Prop := CDiv i j \/ CDivW i j
theorem cmul_l {i j : Int} (h1 : -(2 ^ 64) < i) (h2 : i < 2 ^ 64) : CMulU i j := .inl (.inl ⟨h1, h2⟩)
theorem cmul_r {i j : Int} (h1 : -(2 ^ 64) < j) (h2 : j < 2 ^ 64) : CMulU i j := .inl (.inr ⟨h1, h2⟩)
theorem cmul_w {i j : Int} (h1 : i.natAbs < 2 ^ 4000) (h2 : j.natAbs < 2 ^ 4000) : CMulU i j := .inr (wide_mul h1 h2 (by decide) (by decide) (by decide))
theorem cdiv_s {i j : Int} (h1 : 0 < j) (h2 : j < 1073741824) : CDivU i j := .inl ⟨h1, h2⟩
theorem cdiv_w {i j : Int} (h1 : 0 < j) (h2 : j.natAbs < 2 ^ 4000) : CDivU i j := .inr (wide_div h1 h2 (by decide) (by decide))
theorem op_mulU : OpR X (binaryOp .Mult) (rI CMulU fun i j => .int (i * j)) := opI fun _ _ _ _ _ _ _ hc q => PyProof.Rows.mul_int q (hc.elim CMul.ok CMulW.ok)
theorem op_divU : OpR X (binaryOp .FloorDiv) (rI CDivU fun i j => .int (i / j)) := fun pins s σ H x y v u Q I rx ry h => by
  obtain ⟨i, j, e1, e2, hc, q⟩ := h
  rcases hc with hc | hc
  · exact op_fdiv pins s σ H x y v u Q I rx ry ⟨i, j, e1, e2, hc, q⟩
  · exact op_fdivW pins s σ H x y v u Q I rx ry ⟨i, j, e1, e2, hc, q⟩
theorem opAdd : OpR X (binaryOp .Add) (fun x y H Q => rI0 (fun i j => .int (i + j)) x y H Q \/ (fun x y H Q => rCat x y H Q \/ rCatT X.K x y H Q) x y H Q) := OpR.or op_add (OpR.or op_cat op_catT)
theorem opMul : OpR X (binaryOp .Mult) (rI CMulU fun i j => .int (i * j)) := op_mulU
theorem opDiv : OpR X (binaryOp .FloorDiv) (rI CDivU fun i j => .int (i / j)) := op_divU
theorem opEq (hu : X.A.units + 64 < cLine) : OpR X (compareOp .Eq) (fun x y H Q => rEq x y H Q \/ rEqD X.K x y H Q) := OpR.or op_eq (op_eqD hu)
theorem opNe (hu : X.A.units + 64 < cLine) : OpR X (compareOp .NotEq) (fun x y H Q => rNe x y H Q \/ rNeD X.K x y H Q) := OpR.or op_ne (op_neD hu)
theorem opLt (hu : X.A.units < cLine) : OpR X (compareOp .Lt) (fun x y H Q => rI0 (fun i j => .bl (decide (i < j))) x y H Q \/ rLtT X.K x y H Q) := OpR.or op_lt (op_ltT hu)
theorem ixU : IxR X (rIxU X.K) := ix_list.or ix_tup
theorem call_intU : CallR X (.type "int") (fun xs H Q => (∃ i, xs = [.int i] /\ Q (.int i) H) \/ ∃ k, xs = [.bl k] /\ Q (.int (if k then 1 else 0)) H) := call_int1
theorem call_absU : CallR X (.builtin "abs") (fun xs H Q => ∃ i, xs = [.int i] /\ Q (.int (if i < 0 then -i else i)) H) := call_abs
theorem call_lenU : CallR X (.builtin "len") (rLenU X.K) := call_len_seq
theorem call_listU : CallR X (.type "list") (fun xs H Q => ∃ p ys, xs = [.ref p] /\ (SqL X.K H p ys \/ SqT X.K H p ys) /\ ∀ l, H l = none -> Q (.ref l) (upd H l (.lst ys))) := call_list_of
theorem call_tupleU : CallR X (.type "tuple") (fun xs H Q => ∃ p ys, xs = [.ref p] /\ ((SqL X.K H p ys /\ ∀ l, H l = none -> Q (.ref l) (upd H l (.tup ys))) \/ (SqT X.K H p ys /\ Q (.ref p) H))) := call_tuple_of
theorem pt_truU {a : Expr} {ta : TE} (ha : PE X a ta) (he : ∀ whole, isTrue a X.env whole = (do let v <- whole; standAt a.pos; holding [v] (truthy v)) := by intro _; rfl) :
    PT X a (fun σ H Q => ta σ H fun x H' => ∃ k, TruV X.K x H' k /\ Q k H') := pt_truth ha he
end
end Py
namespace Py
open PySem L2
section
variable {T : Tbl} {W : Wd T} {env : Py.Env} {t ta tb te : TE} {tr : TA} {d d0 d1 d2 : D} {ds es : List D} {i : Nat} {P : List Nat} {E : WX} {A : AEnds}
structure Seq {T : Tbl} (W : Wd T) (J : It) (ds : List D) (F0 : Hp) : Prop where
  go : ∀ (i : Nat) (d : D) (F H : Hp), Same F0 F -> Same F H -> ds[i]? = some d -> J.go i H /\ ∀ x H', J.yld i H x H' -> ∃ F', Ext F H F' H' /\ Shr W F' d x
  stop : ∀ (F H : Hp), Same F0 F -> Same F H -> J.stop ds.length H
def AIt {T : Tbl} (W : Wd T) (wi : TI) (env : Py.Env) (ds : List D) : Prop :=
  ∀ (e : Ent) (F : Hp) (σ : St) (H : Hp) (L : List Addr) (R : It -> Hp -> Prop), Rel W e env F σ H L -> (∀ J F' H', Ext F H F' H' -> Seq W J ds F' -> R J H') -> wi σ H R
theorem seq_list {F0 : Hp} {a : Addr} {vs : List V} (h : F0 a = some (.lst vs)) (hs : Shrs W F0 ds vs) : Seq W (Itl W.K a) ds F0 where
  go := fun i d F H s1 s2 hd => by
    obtain ⟨v, hv, sv⟩ := hs.get hd
    refine ⟨⟨vs, v, .of (s2 _ _ (s1 _ _ h)), hv⟩, fun x H' y => ?_⟩
    obtain ⟨rfl, y⟩ := y
    have := y vs (.of (s2 _ _ (s1 _ _ h)))
    rw [hv] at this; cases this
    exact ⟨F, .refl s2, sv.mono s1⟩
  stop := fun F H s1 s2 => ⟨vs, .of (s2 _ _ (s1 _ _ h)), by rw [hs.length]; exact Nat.le_refl _⟩
theorem seq_tup {F0 : Hp} {a : Addr} {vs : List V} (h : F0 a = some (.tup vs)) (hs : Shrs W F0 ds vs) : Seq W (Itt W.K a) ds F0 where
  go := fun i d F H s1 s2 hd => by
    obtain ⟨v, hv, sv⟩ := hs.get hd
    refine ⟨⟨vs, v, .of (s2 _ _ (s1 _ _ h)), hv⟩, fun x H' y => ?_⟩
    obtain ⟨rfl, y⟩ := y
    have := y vs (.of (s2 _ _ (s1 _ _ h)))
    rw [hv] at this; cases this
    exact ⟨F, .refl s2, sv.mono s1⟩
  stop := fun F H s1 s2 => ⟨vs, .of (s2 _ _ (s1 _ _ h)), by rw [hs.length]; exact Nat.le_refl _⟩
def rangeD (lo : Int) (n : Nat) : List D := (List.range n).map fun k : Nat => D.int (lo + (k : Nat))
theorem rangeD_length (lo : Int) (n : Nat) : (rangeD lo n).length = n := by simp [rangeD]
theorem rangeD_get {lo : Int} {n i : Nat} {d : D} (h : (rangeD lo n)[i]? = some d) : i < n /\ d = .int (lo + (i : Nat)) := by
  unfold rangeD at h
  rw [List.getElem?_map] at h
  by_cases hi : i < n
  · rw [List.getElem?_range hi] at h
    exact ⟨hi, (Option.some.inj h).symm⟩
  · rw [List.getElem?_eq_none (by simpa using hi)] at h; cases h
theorem seq_range {F0 : Hp} {lo : Int} {n : Nat} : Seq W (Itr lo n) (rangeD lo n) F0 where
  go := fun i d F H s1 s2 hd => by
    obtain ⟨hi, rfl⟩ := rangeD_get hd
    refine ⟨hi, fun x H' y => ?_⟩
    obtain ⟨rfl, rfl⟩ := y
    exact ⟨F, .refl s2, .int⟩
  stop := fun F H s1 s2 => by rw [rangeD_length]; exact Nat.le_refl n
theorem ait_list (h : AE W t env (rF W (.lst ds))) : AIt W (iList W.K t) env ds := fun e F σ H L R r q =>
  h e F σ H L _ r fun v F1 H1 x1 y1 => by
    cases y1 with
    | lst hF hS => exact ⟨_, rfl, ⟨_, .of (x1.s _ _ hF)⟩, q _ F1 H1 x1 (seq_list hF hS)⟩
theorem ait_tup (h : AE W t env (rF W (.tup ds))) : AIt W (iTup W.K t) env ds := fun e F σ H L R r q =>
  h e F σ H L _ r fun v F1 H1 x1 y1 => by
    cases y1 with
    | tup hF hS => exact ⟨_, rfl, ⟨_, .of (x1.s _ _ hF)⟩, q _ F1 H1 x1 (seq_tup hF hS)⟩
theorem ait_range {n : Int} (h : AA W tr env (rVs W [.int n])) (hb : -(2 ^ 62) <= n /\ n < 2 ^ 62) : AIt W (iRng1 tr) env (rangeD 0 n.toNat) := fun e F σ H L R r q =>
  h e F σ H L _ r fun vs F1 H1 x1 y1 => by
    cases y1 with
    | cons a b =>
      cases a; cases b
      exact ⟨n, rfl, hb.1, hb.2, q _ F1 H1 x1 seq_range⟩
def enumD (ds : List D) : List D := ds.mapIdx fun k d => D.tup [.int (k : Nat), d]
theorem enumD_get {d : D} (h : (enumD ds)[i]? = some d) : ∃ y, ds[i]? = some y /\ d = .tup [.int (i : Nat), y] := by
  unfold enumD at h
  rw [List.getElem?_mapIdx] at h
  cases e : ds[i]? with
  | none => rw [e] at h; cases h
  | some y => rw [e] at h; exact ⟨y, rfl, (Option.some.inj h).symm⟩
theorem enumD_length : (enumD ds).length = ds.length := by simp [enumD]
theorem ait_enum (h : AE W t env (rF W (.lst ds))) : AIt W (iEnum W.K (tCons t tNil)) env (enumD ds) := fun e F σ H L R r q =>
  h e F σ H L _ r fun v F1 H1 x1 y1 => by
    cases y1 with
    | lst hF hS =>
      rename_i a vs
      refine ⟨a, vs, rfl, .of (x1.s _ _ hF), q _ F1 H1 x1 ⟨fun i d F H s1 s2 hd => ?_, fun F H s1 s2 => ?_⟩⟩
      · obtain ⟨y, hy, rfl⟩ := enumD_get hd
        obtain ⟨w, hw, sw⟩ := hS.get hy
        refine ⟨⟨vs, w, .of (s2 _ _ (s1 _ _ hF)), hw⟩, fun x H' yl => ?_⟩
        obtain ⟨T, y', rfl, hT, rfl, hy'⟩ := yl
        have := hy' vs (.of (s2 _ _ (s1 _ _ hF)))
        rw [hw] at this; cases this
        refine ⟨_, .new s2 hT, .tup upd_same (.cons .int (.cons ?_ .nil))⟩
        exact (sw.mono s1).mono (same_new (s2.free hT))
      · exact ⟨vs, .of (s2 _ _ (s1 _ _ hF)), by rw [enumD_length, hS.length]; exact Nat.le_refl _⟩
def iSeqU (K : PySem.W.Frag) (tl : TE) : TI := fun σ H R => iList K tl σ H R \/ iTup K tl σ H R
theorem pi_seqU {X : Cx} {tg l : Expr} {tl : TE} (hl : PE X l tl) : PI X tg l (iSeqU X.K tl) := ⟨fun pins s σ H R I h => h.elim (fun h => (pi_list hl).run pins s σ H R I h) fun h => (pi_tup hl).run pins s σ H R I h⟩
theorem at_yes : AT W tYes env true := fun e F σ H L Q r q => q F H (.refl r.sF)
theorem as_for {wi : TI} {g : TG} {tb : TS} (h : AIt W wi env ds) (Iv : Nat -> Py.Env -> Prop) (h0 : Iv 0 env)
    (hs : ∀ i d env', ds[i]? = some d -> Iv i env' -> AG W P g d env' fun e2 => AS W P E tb e2 { A with nx := Iv (i + 1), ct := Iv (i + 1), bk := A.nx })
    (hd : ∀ env', Iv ds.length env' -> A.nx env') : AS W P E (tFor wi g tb) env A := fun e F σ H L Dn hP r s =>
  h e F σ H L _ r fun J F1 H1 x1 sq => by
    have r1 := r.ext x1
    refine ⟨fun i m σ H => m = ds.length - i /\ i <= ds.length /\ ∃ env' F L, Iv i env' /\ Rel W { e with F0 := F1 } env' F σ H L, ⟨ds.length, rfl, Nat.zero_le _, env, F1, L, h0, r1.enter⟩, ?_⟩
    rintro i m σ H ⟨rfl, hi, env', F, L, hI, q⟩
    by_cases hlt : i < ds.length
    · have hd' : ds[i]? = some ds[i] := List.getElem?_eq_getElem hlt
      obtain ⟨g1, g2⟩ := sq.go i _ F H q.s0 q.sF hd'
      refine .inr ⟨g1, fun σ H => ∃ env' F L, Iv (i + 1) env' /\ Rel W { e with F0 := F1 } env' F σ H L, fun σ' H' p' => ⟨ds.length - (i + 1), by omega, rfl, hlt, p'⟩, fun x H' y => ?_⟩
      obtain ⟨F2, x2, sx⟩ := g2 x H' y
      refine hs i _ env' hd' hI { e with F0 := F1 } F2 σ H' L x _ hP (q.ext x2) sx fun env2 σ2 L2 k2 q2 => k2 { e with F0 := F1 } F2 σ2 H' L2 _ hP q2 ?_
      exact ⟨fun e3 F3 σ3 H3 L3 w q3 => ⟨e3, F3, L3, w, q3⟩, fun d e3 F3 σ3 H3 L3 v M w q3 => s.rt d e3 F3 σ3 H3 L3 v M w (r1.leave q3), fun e3 F3 σ3 H3 L3 w q3 => s.nx e3 F3 σ3 H3 L3 w (r1.leave q3),
        fun e3 F3 σ3 H3 L3 w q3 => ⟨e3, F3, L3, w, q3⟩, fun x e3 F3 σ3 H3 L3 C dd w q3 => s.ex x e3 F3 σ3 H3 L3 C dd w (r1.leave q3)⟩
    · have e0 : i = ds.length := by omega
      subst e0
      exact .inl ⟨sq.stop F H q.s0 q.sF, s.nx _ _ _ _ _ (hd env' hI) (r1.leave q)⟩
def wipeE (env : Py.Env) : List Nat -> Py.Env
  | [] => env
  | v :: vs => (wipeE env vs).set v none
theorem Slots.kill {F H : Hp} {o : Option V} : ∀ {env : Py.Env} {σ : St} {L : List Addr} {i : Nat}, Slots W F H env σ L -> L.Nodup -> ∃ L', Slots W F H (env.set i none) (σ.set i o) L' /\ L'.Nodup /\ ∀ a ∈ L', a ∈ L
  | _, _, _, i, .nil, nd => ⟨[], by simpa using Slots.nil, nd, fun a h => h⟩
  | _, _, _, 0, .so (L := L1) (M := M1) h t, nd => ⟨M1, .no t, (List.nodup_append.mp nd).2.1, fun a h => List.mem_append_right _ h⟩
  | _, _, _, 0, .no (M := M1) t, nd => ⟨M1, .no t, nd, fun a h => h⟩
  | _, _, _, i + 1, .so (L := L1) (M := M1) h t, nd => by
    rw [List.nodup_append] at nd
    obtain ⟨n1, n2, n3⟩ := nd
    obtain ⟨L', s, nd', m⟩ := t.kill (i := i) (o := o) n2
    refine ⟨L1 ++ L', .so h s, ?_, fun a ha => ?_⟩
    · rw [List.nodup_append]
      exact ⟨n1, nd', fun a ha b hb => n3 a ha b (m b hb)⟩
    · rcases List.mem_append.mp ha with q | q
      · exact List.mem_append_left _ q
      · exact List.mem_append_right _ (m a q)
  | _, _, _, i + 1, .no (M := M1) t, nd => by
    obtain ⟨L', s, nd', m⟩ := t.kill (i := i) (o := o) nd
    exact ⟨L', .no s, nd', m⟩
theorem Rel.wipe {e : Ent} {F H : Hp} {σ : St} {L : List Addr} (r : Rel W e env F σ H L) (hp : e.pins = []) : ∀ vs : List Nat, ∃ L', Rel W e (wipeE env vs) F (L2.wipe σ vs) H L' /\ ∀ a ∈ L', a ∈ L
  | [] => ⟨L, r, fun _ h => h⟩
  | v :: vs => by
    obtain ⟨L1, r1, m1⟩ := r.wipe hp vs
    obtain ⟨L2, s, nd, m⟩ := r1.slots.kill (i := v) (o := none) r1.nd
    exact ⟨L2, ⟨r1.sF, s, nd, fun a h => r1.dj a (m a h), r1.s0, r1.nw, r1.fr, fun a h => r1.ln a (m a h), fun p hm => by rw [hp] at hm; cases hm⟩, fun a h => m1 a (m a h)⟩
theorem Rel.nopin {e : Ent} {F H : Hp} {σ : St} {L : List Addr} (r : Rel W e env F σ H L) : Rel W { e with pins := [] } env F σ H L := ⟨r.sF, r.slots, r.nd, r.dj, r.s0, r.nw, r.fr, r.ln, fun _ h => nomatch h⟩
theorem Rel.free {e : Ent} {F H : Hp} {σ : St} {L : List Addr} {p : Addr} {o : HO} (r : Rel W e env F σ H L) (h1 : p ∉ L) (h2 : F p = none) (h3 : p ∈ e.L0 \/ e.H0 p = none) : Rel W e env F σ (upd H p o) L where
  sF := fun b u hb => by rw [upd_ne (fun z => by rw [z, h2] at hb; cases hb)]; exact r.sF _ _ hb
  slots := r.slots.frame (Same.refl _) fun a m u hu => by rw [upd_ne (fun z => h1 (by rw [<- z]; exact m))]; exact hu
  nd := r.nd
  dj := r.dj
  s0 := r.s0
  nw := r.nw
  fr := fun a u m hu => by
    rw [upd_ne (fun z => ?_)]
    · exact r.fr a u m hu
    · subst z
      rcases h3 with q | q
      · exact m q
      · rw [q] at hu; cases hu
  ln := r.ln
  pin := r.pin
def GW (g : TG) (vs : List Nat) : Prop := ∀ (v : V) (σ : St) (H : Hp) (Q : St -> Hp -> Prop), g v σ H Q -> g v σ H fun σ2 H2 => wipe σ2 vs = wipe σ vs /\ Q σ2 H2
def GWs (g : TGs) (vs : List Nat) : Prop := ∀ (v : List V) (σ : St) (H : Hp) (Q : St -> Hp -> Prop), g v σ H Q -> g v σ H fun σ2 H2 => wipe σ2 vs = wipe σ vs /\ Q σ2 H2
theorem wipe_comm {n : Nat} {o : Option V} : ∀ (vs : List Nat) (σ : St), n ∉ vs -> wipe (σ.set n o) vs = (wipe σ vs).set n o
  | [], σ, _ => rfl
  | w :: ws, σ, hn => by
    unfold wipe
    rw [wipe_comm ws σ (fun z => hn (List.mem_cons_of_mem _ z)), List.set_comm _ _ (fun z => hn (by rw [z]; exact List.mem_cons_self ..))]
theorem wipe_set {σ : St} {n : Nat} {o : Option V} : ∀ {vs : List Nat}, n ∈ vs -> wipe (σ.set n o) vs = wipe σ vs
  | [], h => nomatch h
  | v :: vs, h => by
    unfold wipe
    by_cases hv : n ∈ vs
    · rw [wipe_set hv]
    · rcases List.mem_cons.mp h with z | z
      · subst z
        rw [wipe_comm vs σ hv, List.set_set]
      · exact absurd z hv
theorem wipe_wipe {σ : St} : ∀ {vs : List Nat}, wipe (wipe σ vs) vs = wipe σ vs
  | [] => rfl
  | v :: vs => by
    have e : wipe σ (v :: vs) = (wipe σ vs).set v none := rfl
    rw [e]
    show (wipe ((wipe σ vs).set v none) vs).set v none = _
    by_cases hv : v ∈ vs
    · rw [wipe_set hv, wipe_wipe]
    · rw [wipe_comm vs _ hv, wipe_wipe, List.set_set]
theorem gw_name {n : Nat} {vs : List Nat} (h : n ∈ vs) : GW (gName n) vs := fun v σ H Q q => ⟨wipe_set h, q⟩
theorem gws_nil {vs : List Nat} : GWs gNil vs := fun v σ H Q ⟨h, q⟩ => ⟨h, rfl, q⟩
theorem gw_tup {k : Nat} {gs : TGs} {vs : List Nat} (h : GWs gs vs) : GW (gTup W.K k gs) vs := fun v σ H Q ⟨a, xs, e1, e2, e3, q⟩ => ⟨a, xs, e1, e2, e3, h xs σ H Q q⟩
structure SeqP {T : Tbl} (W : Wd T) (J : It) (ds : List D) (F0 H0 : Hp) : Prop where
  go : ∀ (i : Nat) (d : D) (F H : Hp), Same F0 F -> Same H0 H -> Same F H -> ds[i]? = some d -> J.go i H /\ ∀ x H', J.yld i H x H' -> ∃ F', Ext F H F' H' /\ Shr W F' d x
  stop : ∀ (F H : Hp), Same F0 F -> Same H0 H -> Same F H -> J.stop ds.length H
def AIp {T : Tbl} (W : Wd T) (wi : TI) (env : Py.Env) (ds : List D) : Prop :=
  ∀ (e : Ent) (F : Hp) (σ : St) (H : Hp) (L : List Addr) (R : It -> Hp -> Prop), Rel W e env F σ H L -> (∀ J F' H', Ext F H F' H' -> SeqP W J ds F' H' -> R J H') -> wi σ H R
theorem AIt.p {wi : TI} (h : AIt W wi env ds) : AIp W wi env ds := fun e F σ H L R r q => h e F σ H L R r fun J F' H' x s => q J F' H' x ⟨fun i d F1 H1 a _ c e => s.go i d F1 H1 a c e, fun F1 H1 a _ c => s.stop F1 H1 a c⟩
theorem ae_lc {wi : TI} {g : TG} {tt : TT} {vs : List Nat} (h : AIp W wi env ds) (hg : GW g vs) (rs : Nat -> List D) (h0 : rs 0 = [])
    (hs : ∀ (i : Nat) (d : D), ds[i]? = some d -> AG W [] g d (wipeE env vs) fun e2 => ∃ b, AT W tt e2 b /\ (b = true -> ∃ y, AE W te e2 (rO W y) /\ rs (i + 1) = rs i ++ [y]) /\ (b = false -> rs (i + 1) = rs i))
    (hz : ∀ i, i <= ds.length -> (rs i).length < 1000000) : AE W (tLc wi g tt te vs) env (rO W (.olst (rs ds.length))) := fun e F σ H L Q r q =>
  h e F σ H L _ r fun J F1 H1 x1 sq => by
    intro Dl hD
    have r1 := (r.ext x1).nopin
    obtain ⟨Lw, rw', mw⟩ := r1.wipe rfl vs
    have hF1 : F1 Dl = none := x1.s.free hD
    have hH : H Dl = none := x1.h.free hD
    refine ⟨fun i m H' => m = ds.length - i /\ i <= ds.length /\ ∃ F' ws M, Ext F H F' H' /\ (Same F1 F' /\ Same H1 H') /\ Rel W { e with pins := [] } (wipeE env vs) F' (wipe σ vs) H' Lw /\ H' Dl = some (.lst ws) /\ F' Dl = none /\ Owns W F' H' (rs i) ws M /\ (Dl :: M).Nodup /\ ∀ a ∈ M, H a = none /\ F' a = none,
      ⟨ds.length, rfl, Nat.zero_le _, F1, [], [], ?_, ⟨Same.refl _, same_new hD⟩, ?_, upd_same, hF1, by rw [h0]; exact .nil, by simp, fun a h => nomatch h⟩, ?_⟩
    · exact x1.trans (.newH x1.s hD)
    · exact rw'.ext (.newH x1.s hD)
    rintro i m H' ⟨rfl, hi, F', ws, M, xE, s1, rr, hl, hFD, os, nd, hM⟩
    have hDL : Dl ∉ Lw := fun z => by
      obtain ⟨o, ho⟩ := rw'.slots.lives Dl z
      rw [hD] at ho; cases ho
    by_cases hlt : i < ds.length
    · have hd' : ds[i]? = some ds[i] := List.getElem?_eq_getElem hlt
      obtain ⟨g1, g2⟩ := sq.go i _ F' H' s1.1 s1.2 rr.sF hd'
      refine .inr ⟨g1, fun H'' => ∃ F' ws M, Ext F H F' H'' /\ (Same F1 F' /\ Same H1 H'') /\ Rel W { e with pins := [] } (wipeE env vs) F' (wipe σ vs) H'' Lw /\ H'' Dl = some (.lst ws) /\ F' Dl = none /\ Owns W F' H'' (rs (i + 1)) ws M /\ (Dl :: M).Nodup /\ ∀ a ∈ M, H a = none /\ F' a = none,
        fun H'' p' => ⟨ds.length - (i + 1), by omega, rfl, hlt, p'⟩, fun x H2 y => ?_⟩
      obtain ⟨F2, x2, sx⟩ := g2 x H2 y
      have rr2 := rr.ext x2
      have fin : ∀ {Fa Ha}, Ext F2 H2 Fa Ha -> Ext F H Fa Ha /\ (Same F1 Fa /\ Same H1 Ha) /\ Rel W { e with pins := [] } (wipeE env vs) Fa (wipe σ vs) Ha Lw /\ Ha Dl = some (.lst ws) /\ Fa Dl = none /\ Owns W Fa Ha (rs i) ws M /\ ∀ a ∈ M, H a = none /\ Fa a = none := fun {Fa Ha} xa => by
        have x3 := x2.trans xa
        have nn : ∀ a, (∃ o, H' a = some o) -> F' a = none -> Fa a = none := fun a ⟨o, ho⟩ hf => by
          cases z : Fa a with
          | none => rfl
          | some u =>
            rcases x3.n a u z with w | w
            · rw [hf] at w; cases w
            · rw [ho] at w; cases w
        exact ⟨xE.trans x3, ⟨s1.1.trans x3.f, s1.2.trans x3.h⟩, rr.ext x3, x3.h _ _ hl, nn Dl ⟨_, hl⟩ hFD, os.frame x3.f fun a _ o ho => x3.h _ _ ho, fun a ha => ⟨(hM a ha).1, nn a (os.lives a ha) (hM a ha).2⟩⟩
      have step := hg x (wipe σ vs) H2 _ (hs i _ hd' { e with pins := [] } F2 (wipe σ vs) H2 Lw x (fun σ2 H2 => tt σ2 H2 fun b H3 => if b = true then te σ2 H3 fun y H4 => ∃ acc, H4 Dl = some (.lst acc) /\ acc.length < sizeLine /\
          (fun H'' => ∃ F' ws M, Ext F H F' H'' /\ (Same F1 F' /\ Same H1 H'') /\ Rel W { e with pins := [] } (wipeE env vs) F' (wipe σ vs) H'' Lw /\ H'' Dl = some (.lst ws) /\ F' Dl = none /\ Owns W F' H'' (rs (i + 1)) ws M /\ (Dl :: M).Nodup /\ ∀ a ∈ M, H a = none /\ F' a = none) (upd H4 Dl (.lst (acc ++ [y]))) else
          (fun H'' => ∃ F' ws M, Ext F H F' H'' /\ (Same F1 F' /\ Same H1 H'') /\ Rel W { e with pins := [] } (wipeE env vs) F' (wipe σ vs) H'' Lw /\ H'' Dl = some (.lst ws) /\ F' Dl = none /\ Owns W F' H'' (rs (i + 1)) ws M /\ (Dl :: M).Nodup /\ ∀ a ∈ M, H a = none /\ F' a = none) H3) rfl rr2 sx fun env2 σ2 L2 k2 q2 => ?_)
      · rw [wipe_wipe] at step
        exact step
      obtain ⟨b, hb, hy, hn⟩ := k2
      refine hb _ F2 σ2 H2 L2 _ q2 fun F3 H3 x3 => ?_
      cases b with
      | false =>
        obtain ⟨a1, a2, a3, a4, a5, a6, a7⟩ := fin x3
        rw [hn rfl]
        exact ⟨F3, ws, M, a1, a2, a3, a4, a5, a6, nd, a7⟩
      | true =>
        obtain ⟨y, hte, hacc⟩ := hy rfl
        refine hte _ F3 σ2 H3 L2 _ (q2.ext x3) fun w F4 H4 x4 ⟨My, oy, ndy, ky⟩ => ?_
        obtain ⟨a1, a2, a3, a4, a5, a6, a7⟩ := fin (x3.trans x4)
        have hlen : (rs i).length < 1000000 := hz i hi
        refine ⟨ws, a4, by rw [<- a6.length]; exact Nat.lt_of_lt_of_le hlen (by decide), F4, ws ++ [w], M ++ My, ?_, ⟨a2.1, fun b u hb => by rw [upd_ne (fun z => by rw [z, hD] at hb; cases hb)]; exact a2.2 _ _ hb⟩, a3.free hDL a5 (rw'.h0 hD), upd_same, a5, ?_, ?_, ?_⟩
        · exact ⟨a1.f, fun b u hb => by rw [upd_ne (fun z => by rw [z, a5] at hb; cases hb)]; exact a1.s _ _ hb, fun b u hb => by rw [upd_ne (fun z => by rw [z, hH] at hb; cases hb)]; exact a1.h _ _ hb, a1.n⟩
        · have nD : ∀ b ∈ My, b ≠ Dl := fun b hb z => by
            have := (x2.trans x3).h _ _ hl
            rw [<- z, (ky b hb).1] at this; cases this
          rw [hacc]
          refine Owns.snoc (a6.frame (Same.refl _) fun b hb u hu => ?_) (oy.frame (Same.refl _) fun b hb u hu => ?_)
          · rw [upd_ne (fun z => (List.nodup_cons.mp nd).1 (by rw [<- z]; exact hb))]; exact hu
          · rw [upd_ne (nD b hb)]; exact hu
        · have fr : ∀ b ∈ My, b ∉ Dl :: M := fun b hb z => by
            have : ∃ o, H3 b = some o := by
              rcases List.mem_cons.mp z with z | z
              · exact ⟨_, by rw [z]; exact (x2.trans x3).h _ _ hl⟩
              · obtain ⟨o, ho⟩ := os.lives b z
                exact ⟨o, (x2.trans x3).h _ _ ho⟩
            obtain ⟨o, ho⟩ := this
            rw [(ky b hb).1] at ho; cases ho
          have : ((Dl :: M) ++ My).Nodup := by
            rw [List.nodup_append]
            exact ⟨nd, ndy, fun b hb c hc z => fr c hc (by rw [<- z]; exact hb)⟩
          exact this
        · intro b hb
          rcases List.mem_append.mp hb with z | z
          · exact a7 b z
          · exact ⟨(xE.trans (x2.trans x3)).h.free (ky b z).1, (ky b z).2⟩
    · have e0 : i = ds.length := by omega
      subst e0
      refine .inl ⟨sq.stop F' H' s1.1 s1.2 rr.sF, q _ F' H' xE ⟨Dl :: M, .olst hl os, nd, fun a ha => ?_⟩⟩
      rcases List.mem_cons.mp ha with z | z
      · subst z; exact ⟨hH, hFD⟩
      · exact hM a z
end
end Py
namespace Py
open PySem L2
inductive Kd where
  | fr | pl | vw
def isFlat : D -> Bool
  | .non | .bl _ | .int _ | .str _ | .cls _ => true
  | _ => false
section
variable {T : Tbl} {W : Wd T} {env : Py.Env} {t ta tb : TE} {d d1 d2 : D}
theorem Shr.flat {F F' : Hp} {d : D} {v : V} (h : Shr W F d v) (e : isFlat d = true) : Shr W F' d v := by
  cases h <;> first | (cases e; done) | exact .non | exact .bl | exact .int | exact .str | (apply Shr.cls; assumption)
theorem isSh_flat {d : D} (e : isFlat d = true) : isSh d = true := by cases d <;> first | rfl | cases e
def rP {T : Tbl} (W : Wd T) (d : D) : Res := fun F H _ v => ∃ L, Own W F H d v L
def rK {T : Tbl} (W : Wd T) : Kd -> D -> Res
  | .fr, d => rO W d
  | .pl, d => rP W d
  | .vw, d => rV W d
theorem ite_some {α : Type} {c : Prop} [Decidable c] {a b : α} (h : (if c then some a else none) = some b) : c /\ a = b := by
  split at h
  · exact ⟨by assumption, Option.some.inj h⟩
  · cases h
theorem rK_view {F H H0 : Hp} {k : Kd} {v : V} (s : Same F H) (h : rK W k d F H H0 v) : Shr W H (fz d) v := by
  cases k with
  | fr => obtain ⟨L, o, _⟩ := h; exact o.view s fun _ _ _ z => z
  | pl => obtain ⟨L, o⟩ := h; exact o.view s fun _ _ _ z => z
  | vw => have h : Shr W H d v := h; rw [fz_shr h]; exact h
def basis (k : Kd) (F H : Hp) : Hp := match k with | .vw => H | _ => F
theorem basis_same {k : Kd} {F H : Hp} (s : Same F H) : Same (basis k F H) H := by cases k <;> first | exact s | exact Same.refl _
theorem rK_own {F H H0 : Hp} {k : Kd} {v : V} (h : rK W k d F H H0 v) : ∃ L, Own W (basis k F H) H d v L := by
  cases k with
  | fr => obtain ⟨L, o, _⟩ := h; exact ⟨L, o⟩
  | pl => exact h
  | vw => exact ⟨[], .sh h⟩
def Kd.part : Kd -> Kd
  | .vw => .vw
  | _ => .pl
def Kd.of (k : Kd) (d : D) : Kd × D := match k with | .vw => (.vw, fz d) | _ => (.pl, d)
theorem rK_of {F H H0 : Hp} {k k' : Kd} {d' : D} {v : V} {L : List Addr} (s : Same F H) (h : Own W (basis k F H) H d v L) (e : k.of d = (k', d')) : rK W k' d' F H H0 v := by
  cases k with
  | fr => cases e; exact ⟨L, h⟩
  | pl => cases e; exact ⟨L, h⟩
  | vw => cases e; exact h.view (Same.refl _) fun _ _ _ z => z
theorem Ext.basis {k : Kd} {F H F' H' : Hp} (x : Ext F H F' H') : Same (basis k F H) (basis k F' H') := by
  cases k <;> first | exact x.f | exact x.h
theorem Own.ext {k : Kd} {F H F' H' : Hp} {v : V} {L : List Addr} (o : Own W (basis k F H) H d v L) (x : Ext F H F' H') : Own W (basis k F' H') H' d v L := o.frame x.basis fun a _ o q => x.h _ _ q
structure XP {T : Tbl} (W : Wd T) where
  t : TE
  ev : Py.Env -> Option (Kd × D)
  snd : ∀ {env k d}, ev env = some (k, d) -> AE W t env (rK W k d)
def toV : Option (Kd × D) -> Option D
  | some (_, d) => some (fz d)
  | none => none
def toK : Option (Kd × D) -> Option D
  | some (.vw, d) => if isFlat d then some d else none
  | some (_, d) => some d
  | none => none
def toF : Option (Kd × D) -> Option D
  | some (.fr, d) => some (fz d)
  | some (.pl, d) => if isSh d then some d else none
  | some (.vw, d) => if isFlat d then some d else none
  | none => none
def toO : Option (Kd × D) -> Option D
  | some (.fr, d) => some d
  | some (.pl, d) => if isSh d then some d else none
  | some (.vw, d) => if isFlat d then some d else none
  | none => none
def XP.evV (x : XP W) (env : Py.Env) : Option D := toV (x.ev env)
def XP.evK (x : XP W) (env : Py.Env) : Option D := toK (x.ev env)
def XP.evF (x : XP W) (env : Py.Env) : Option D := toF (x.ev env)
def XP.evO (x : XP W) (env : Py.Env) : Option D := toO (x.ev env)
theorem XP.sV (x : XP W) (h : x.evV env = some d) : AE W x.t env (rV W d) := by
  unfold XP.evV at h
  match e : x.ev env, h with
  | some (k, d0), h =>
    cases h
    exact (x.snd e).imp fun F H H0 v s q => rK_view s q
theorem XP.sK (x : XP W) (h : x.evK env = some d) : AE W x.t env (rP W d) := by
  unfold XP.evK at h
  match e : x.ev env, h with
  | some (.fr, d0), h => cases h; exact (x.snd e).imp fun F H H0 v s ⟨L, o, _⟩ => ⟨L, o⟩
  | some (.pl, d0), h => cases h; exact x.snd e
  | some (.vw, d0), h =>
    have h : (if isFlat d0 = true then some d0 else none) = some d := h
    split at h
    · cases h; exact (x.snd e).imp fun F H H0 v s q => ⟨[], .sh (Shr.flat q (by assumption))⟩
    · cases h
theorem XP.sF (x : XP W) (h : x.evF env = some d) : AE W x.t env (rF W d) := by
  unfold XP.evF at h
  match e : x.ev env, h with
  | some (.fr, d0), h => cases h; exact (AE.frz (d := d0) (x.snd e))
  | some (.pl, d0), h =>
    have h : (if isSh d0 = true then some d0 else none) = some d := h
    split at h
    · cases h; exact (x.snd e).imp fun F H H0 v s ⟨L, o⟩ => o.shr (by assumption)
    · cases h
  | some (.vw, d0), h =>
    have h : (if isFlat d0 = true then some d0 else none) = some d := h
    split at h
    · cases h; exact (x.snd e).imp fun F H H0 v s q => (Shr.flat q (by assumption))
    · cases h
theorem XP.sO (x : XP W) (h : x.evO env = some d) : AE W x.t env (rO W d) := by
  unfold XP.evO at h
  match e : x.ev env, h with
  | some (.fr, d0), h => cases h; exact x.snd e
  | some (.pl, d0), h =>
    have h : (if isSh d0 = true then some d0 else none) = some d := h
    split at h
    · cases h; exact (x.snd e).imp fun F H H0 v s ⟨L, o⟩ => rO_sh (o.shr (by assumption))
    · cases h
  | some (.vw, d0), h =>
    have h : (if isFlat d0 = true then some d0 else none) = some d := h
    split at h
    · cases h; exact (x.snd e).imp fun F H H0 v s q => rO_sh (Shr.flat q (by assumption))
    · cases h
def getS (env : Py.Env) (i : Nat) : Option D := (env[i]?).join
theorem getS_some (h : getS env i = some d) : env[i]? = some (some d) := by
  unfold getS at h
  match e : env[i]?, h with
  | some (some x), h => cases h; rfl
def xVar {T : Tbl} (W : Wd T) (i : Nat) : XP W where
  t := tVar i
  ev env := (getS env i).map (Prod.mk .pl)
  snd := fun {env k d} h => by
    match e : getS env i, h with
    | some x, h =>
      cases h
      exact fun e' F σ H L Q r q => by
        obtain ⟨v, M, e1, o, _⟩ := slot_get r (getS_some e)
        exact ⟨v, e1, q v F H (.refl r.sF) ⟨M, o⟩⟩
def xC {T : Tbl} (W : Wd T) (v : V) (d : D) (h : ∀ F, Shr W F d v) : XP W where
  t := tC v
  ev _ := some (.fr, d)
  snd := fun e => by cases e; exact (ae_c h).own
def xInt {T : Tbl} (W : Wd T) (i : Int) : XP W := xC W (.int i) (.int i) fun _ => .int
def xBl {T : Tbl} (W : Wd T) (b : Bool) : XP W := xC W (.bl b) (.bl b) fun _ => .bl
def xNon {T : Tbl} (W : Wd T) : XP W := xC W .non .non fun _ => .non
def xStr {T : Tbl} (W : Wd T) (x : String) : XP W := xC W (.str (so x)) (.str x) fun _ => .str
def xOp (r : R2) (f : D -> D -> Option D) (h : ∀ {x y d}, f x y = some d -> Op2 W r x y d) (a b : XP W) : XP W where
  t := tOp r a.t b.t
  ev env := (a.evV env).bind fun x => (b.evV env).bind fun y => (f x y).map (Prod.mk .fr)
  snd := fun {env k d} e => by
    obtain ⟨x, e1, e⟩ := Option.bind_eq_some_iff.mp e
    obtain ⟨y, e2, e⟩ := Option.bind_eq_some_iff.mp e
    obtain ⟨z, e3, e⟩ := Option.map_eq_some_iff.mp e
    cases e
    exact ae_op2 (a.sV e1) (b.sV e2) (h e3)
def subD : D -> D -> Option D
  | .int i, .int j => some (.int (i - j))
  | _, _ => none
def xSub (a b : XP W) : XP W := xOp (rI0 fun i j => .int (i - j)) subD (fun {x y d} e => by
  cases x <;> cases y <;> first | (cases e; done) | (cases e; exact o2_i fun _ => .int)) a b
def b4000 : Nat := 2 ^ 4000
def mulOk (i j : Int) : Prop := (-18446744073709551616 < i /\ i < 18446744073709551616) \/ (-18446744073709551616 < j /\ j < 18446744073709551616) \/ (i.natAbs < b4000 /\ j.natAbs < b4000)
instance (i j : Int) : Decidable (mulOk i j) := by unfold mulOk; infer_instance
theorem mulOk_u {i j : Int} (h : mulOk i j) : CMulU i j := by
  rcases h with h | h | h
  · exact cmul_l h.1 h.2
  · exact cmul_r h.1 h.2
  · exact cmul_w h.1 h.2
def mulD : D -> D -> Option D
  | .int i, .int j => if mulOk i j then some (.int (i * j)) else none
  | _, _ => none
def xMul (a b : XP W) : XP W := xOp (rI CMulU fun i j => .int (i * j)) mulD (fun {x y d} e => by
  cases x <;> first | (cases e; done) | skip
  cases y <;> first | (cases e; done) | skip
  obtain ⟨hc, rfl⟩ := ite_some e
  exact o2_ic (mulOk_u hc) fun _ => .int) a b
def divOk (j : Int) : Prop := 0 < j /\ (j < 1073741824 \/ j.natAbs < b4000)
instance (j : Int) : Decidable (divOk j) := by unfold divOk; infer_instance
def divD : D -> D -> Option D
  | .int i, .int j => if divOk j then some (.int (i / j)) else none
  | _, _ => none
def xDiv (a b : XP W) : XP W := xOp (rI CDivU fun i j => .int (i / j)) divD (fun {x y d} e => by
  cases x <;> first | (cases e; done) | skip
  cases y <;> first | (cases e; done) | skip
  obtain ⟨⟨h0, h⟩, rfl⟩ := ite_some e
  refine o2_ic ?_ fun _ => .int
  rcases h with h | h
  · exact cdiv_s h0 h
  · exact cdiv_w h0 h) a b
def modD : D -> D -> Option D
  | .int i, .int j => if 0 < j then some (.int (i % j)) else none
  | _, _ => none
def xMod (a b : XP W) : XP W := xOp (rI (fun _ j => 0 < j) fun i j => .int (i % j)) modD (fun {x y d} e => by
  cases x <;> first | (cases e; done) | skip
  cases y <;> first | (cases e; done) | skip
  obtain ⟨hc, rfl⟩ := ite_some e
  exact o2_ic (hc) fun _ => .int) a b
def powOk (i j : Int) : Prop := 0 <= j /\ j <= 1000000 /\ i.natAbs < 18446744073709551616
instance (i j : Int) : Decidable (powOk i j) := by unfold powOk; infer_instance
def powD : D -> D -> Option D
  | .int i, .int j => if powOk i j then some (.int (i ^ j.toNat)) else none
  | _, _ => none
def xPow (a b : XP W) : XP W := xOp (rI CPow fun i j => .int (i ^ j.toNat)) powD (fun {x y d} e => by
  cases x <;> first | (cases e; done) | skip
  cases y <;> first | (cases e; done) | skip
  obtain ⟨hc, rfl⟩ := ite_some e
  exact o2_ic (⟨hc.1, hc.2.1, hc.2.2⟩) fun _ => .int) a b
def negD : D -> Option D
  | .int i => some (.int (-i))
  | _ => none
def xNeg (a : XP W) : XP W where
  t := tUn (rU fun i => .int (-i)) a.t
  ev env := match a.evV env with
    | some x => (negD x).map (Prod.mk .fr)
    | none => none
  snd := fun {env k d} e => by
    match e1 : a.evV env, e with
    | some x, e =>
      cases x <;> first | (cases e; done) | skip
      cases e
      exact (ae_u (g := fun i => .int (-i)) (a.sV e1) fun _ => .int).own
def seqOf : D -> Option (Bool × List D)
  | .lst xs => some (false, xs)
  | .olst xs => if xs.all isSh then some (false, xs) else none
  | .tup xs => some (true, xs)
  | .scr ns => some (false, ns.map .int)
  | _ => none
theorem shrs_ints {F : Hp} : ∀ ns : List Int, Shrs W F (ns.map D.int) (ns.map V.int)
  | [] => .nil
  | _ :: ns => .cons .int (shrs_ints ns)
theorem seqOf_ok {F H : Hp} {v : V} {L : List Addr} {b : Bool} {xs : List D} (s : Same F H) (o : Own W F H d v L) (h : seqOf d = some (b, xs)) :
    ∃ a vs, v = .ref a /\ Shrs W F xs vs /\ if b = true then SqT W.K H a vs else SqL W.K H a vs := by
  cases o with
  | sh y =>
    cases y <;> first | (cases h; done) | skip
    · cases h; exact ⟨_, _, rfl, shrs_ints _, s.seq (by assumption)⟩
    · cases h; exact ⟨_, _, rfl, by assumption, .of (s _ _ (by assumption))⟩
    · cases h; exact ⟨_, _, rfl, by assumption, .of (s _ _ (by assumption))⟩
  | olst ha hs =>
    obtain ⟨hc, e⟩ := ite_some h
    cases e
    exact ⟨_, _, rfl, hs.shrs hc, .of ha⟩
  | odic => cases h
  | odit => cases h
  | odig => cases h
  | oins => cases h
def lstOf : D -> Option (List D)
  | .lst xs => some xs
  | .olst xs => if xs.all isSh then some xs else none
  | _ => none
theorem lstOf_ok {F H : Hp} {v : V} {L : List Addr} {xs : List D} (s : Same F H) (o : Own W F H d v L) (h : lstOf d = some xs) : ∃ a vs, v = .ref a /\ Shrs W F xs vs /\ H a = some (.lst vs) := by
  cases o with
  | sh y =>
    cases y <;> first | (cases h; done) | skip
    cases h; exact ⟨_, _, rfl, by assumption, s _ _ (by assumption)⟩
  | olst ha hs =>
    obtain ⟨hc, e⟩ := ite_some h
    cases e
    exact ⟨_, _, rfl, hs.shrs hc, ha⟩
  | odic => cases h
  | odit => cases h
  | odig => cases h
  | oins => cases h
def addD (x y : D) : Option D := match x, y with
  | .int i, .int j => some (.int (i + j))
  | .tup xs, .tup ys => if xs ≠ [] /\ xs.length + ys.length <= 1000000 then some (.tup (xs ++ ys)) else none
  | x, y => match lstOf x, lstOf y with
    | some xs, some ys => if xs.length + ys.length <= 1000000 then some (.olst (xs ++ ys)) else none
    | _, _ => none
def xAdd (a b : XP W) : XP W where
  t := tOp (fun x y H Q => rI0 (fun i j => .int (i + j)) x y H Q \/ (fun x y H Q => rCat x y H Q \/ rCatT W.K x y H Q) x y H Q) a.t b.t
  ev env := (a.evK env).bind fun x => (b.evK env).bind fun y => (addD x y).map (Prod.mk .fr)
  snd := fun {env k d} e => by
    obtain ⟨x, e1, e⟩ := Option.bind_eq_some_iff.mp e
    obtain ⟨y, e2, e⟩ := Option.bind_eq_some_iff.mp e
    obtain ⟨z, e3, e⟩ := Option.map_eq_some_iff.mp e
    cases e
    intro e' F σ H L Q r q
    refine a.sK e1 e' F σ H L _ r fun v F1 H1 x1 ⟨L1, y1⟩ => b.sK e2 e' F1 σ H1 L _ (r.ext x1) fun u F2 H2 x2 ⟨L2, y2⟩ => ?_
    have y1 : Own W F2 H2 x v L1 := y1.frame x2.f fun a _ o q => x2.h _ _ q
    have lists : ∀ {xs ys}, lstOf x = some xs -> lstOf y = some ys -> xs.length + ys.length <= 1000000 -> d = .olst (xs ++ ys) -> (fun x y H Q => rI0 (fun i j => V.int (i + j)) x y H Q \/ (fun x y H Q => rCat x y H Q \/ rCatT W.K x y H Q) x y H Q) v u H2 Q := by
      intro xs ys h1 h2 hl hz
      obtain ⟨a, vs, rfl, sa, ha⟩ := lstOf_ok x2.s y1 h1
      obtain ⟨b, ws, rfl, sb, hb⟩ := lstOf_ok x2.s y2 h2
      subst hz
      exact .inr (.inl (o2L_cat hl F2 H2 a b vs ws Q x2.s ha sa hb sb fun w F3 H3 x3 y3 => q w F3 H3 ((x1.trans x2).trans x3) (rO_back (x1.h.trans x2.h) y3)))
    unfold addD at e3
    split at e3
    · cases e3
      cases y1.shr rfl; cases y2.shr rfl
      exact .inl ⟨_, _, rfl, rfl, q _ F2 H2 (x1.trans x2) (rO_sh .int)⟩
    · obtain ⟨⟨hn, hl⟩, rfl⟩ := ite_some e3
      cases y1.shr rfl with
      | tup ha sa =>
        cases y2.shr rfl with
        | tup hb sb =>
          have z1 := sa.length
          have z2 := sb.length
          refine .inr (.inr ⟨_, _, _, _, rfl, rfl, .of (x2.s _ _ ha), .of (x2.s _ _ hb), fun z => ?_, by rw [<- z1, <- z2]; exact Nat.le_trans hl (by decide), fun z => ?_, fun z p hp => ?_⟩)
          · subst z; exact hn (List.eq_nil_of_length_eq_zero z1)
          · subst z
            have z2 := List.eq_nil_of_length_eq_zero z2
            subst z2
            refine q _ F2 H2 (x1.trans x2) ?_
            rw [List.append_nil]
            exact rO_sh (.tup ha sa)
          · exact q _ _ _ ((x1.trans x2).trans (.new x2.s hp)) (rO_sh (.tup upd_same ((sa.append sb).mono (same_new (x2.s.free hp)))))
    · rename_i hx hy
      cases h1 : lstOf x with
      | none => rw [h1] at e3; cases e3
      | some xs =>
        cases h2 : lstOf y with
        | none => rw [h1, h2] at e3; cases e3
        | some ys =>
          rw [h1, h2] at e3
          obtain ⟨hl, rfl⟩ := ite_some e3
          exact lists h1 h2 hl rfl
mutual
def okD : Nat -> D -> Bool
  | _, .non | _, .bl _ | _, .int _ | _, .str _ => true
  | n + 1, .tup xs => okDs n xs
  | n + 1, .lst xs => okDs n xs
  | _, _ => false
def okDs : Nat -> List D -> Bool
  | _, [] => true
  | n, x :: xs => okD n x && okDs n xs
end
mutual
def eqB : D -> D -> Bool
  | .non, .non => true
  | .bl a, .bl b => decide (a = b)
  | .bl a, .int j => decide ((if a then 1 else 0) = j)
  | .int i, .bl b => decide (i = if b then 1 else 0)
  | .int i, .int j => decide (i = j)
  | .str x, .str y => decide (x = y)
  | .tup xs, .tup ys => eqBs xs ys
  | .lst xs, .lst ys => eqBs xs ys
  | _, _ => false
def eqBs : List D -> List D -> Bool
  | [], [] => true
  | x :: xs, y :: ys => eqB x y && eqBs xs ys
  | _, _ => false
end
theorem okDs_all (n : Nat) : ∀ xs : List D, okDs n xs = xs.all (okD n)
  | [] => by rw [okDs]; rfl
  | x :: xs => by rw [okDs, okDs_all n xs]; rfl
theorem strOk_so (x : String) : PyData.strOk (so x) = true := by
  unfold PyData.strOk so
  rw [Str.ofString_eq_toList]
  simp only [List.all_toArray, List.all_map, List.all_eq_true, Function.comp_apply, decide_eq_true_eq]
  intro c _
  have := c.valid
  rcases this with h | h
  · have : c.toNat < 55296 := h
    omega
  · exact h.2
mutual
theorem okD_pd : ∀ {n : Nat} {d : D}, okD n d = true -> ∃ p, pd d = some p /\ p.canLay0 = true /\ p.depth <= n
  | n, .non, _ => ⟨_, by rw [pd], by rw [PyData.canLay0], by simp [PyData.depth]⟩
  | n, .bl _, _ => ⟨_, by rw [pd], by rw [PyData.canLay0], by simp [PyData.depth]⟩
  | n, .int _, _ => ⟨_, by rw [pd], by rw [PyData.canLay0], by simp [PyData.depth]⟩
  | n, .str _, h => ⟨_, by rw [pd], by rw [PyData.canLay0]; exact strOk_so _, by simp [PyData.depth]⟩
  | n + 1, .tup xs, h => by
    rw [okD] at h
    obtain ⟨ps, h1, h2, h3⟩ := okDs_pd h
    exact ⟨.tuple ps, by rw [pd, h1]; rfl, by rw [PyData.canLay0]; exact h2, by rw [PyData.depth]; omega⟩
  | n + 1, .lst xs, h => by
    rw [okD] at h
    obtain ⟨ps, h1, h2, h3⟩ := okDs_pd h
    exact ⟨.list ps, by rw [pd, h1]; rfl, by rw [PyData.canLay0]; exact h2, by rw [PyData.depth]; omega⟩
  | _, .scr _, h => by simp [okD] at h
  | 0, .tup _, h => by simp [okD] at h
  | 0, .lst _, h => by simp [okD] at h
  | _, .cls _, h => by simp [okD] at h
  | _, .sei _, h => by simp [okD] at h
  | _, .dic _ _, h => by simp [okD] at h
  | _, .dit _ _, h => by simp [okD] at h
  | _, .dig _ _, h => by simp [okD] at h
  | _, .ins _ _ _, h => by simp [okD] at h
  | _, .olst _, h => by simp [okD] at h
  | _, .odic _ _, h => by simp [okD] at h
  | _, .odit _ _, h => by simp [okD] at h
  | _, .odig _ _, h => by simp [okD] at h
  | _, .oins _ _ _, h => by simp [okD] at h
theorem okDs_pd : ∀ {n : Nat} {ds : List D}, okDs n ds = true -> ∃ ps, pds ds = some ps /\ PyData.canLayAll0 ps = true /\ PyData.depthAll ps <= n
  | n, [], _ => ⟨[], by rw [pds], by rw [PyData.canLayAll0], by simp [PyData.depthAll]⟩
  | n, d :: ds, h => by
    rw [okDs, Bool.and_eq_true] at h
    obtain ⟨p, h1, h2, h3⟩ := okD_pd h.1
    obtain ⟨ps, k1, k2, k3⟩ := okDs_pd h.2
    exact ⟨p :: ps, by rw [pds, h1, k1], by rw [PyData.canLayAll0, h2, k2]; rfl, by rw [PyData.depthAll]; omega⟩
end
theorem so_eq {x y : String} : (so x == so y) = decide (x = y) := by
  by_cases h : x = y
  · subst h; simp
  · rw [beq_eq_false_iff_ne.mpr fun z => h (so_inj z), decide_eq_false h]
mutual
theorem eqB_pd : ∀ (x : D) {y : D} {p q : PyData}, pd x = some p -> pd y = some q -> eqB x y = PyData.eqv p q
  | .tup xs, y, p, q, hx, hy => by
    rw [pd] at hx
    obtain ⟨ps, h1, rfl⟩ := Option.map_eq_some_iff.mp hx
    cases y <;> (simp only [pd, reduceCtorEq, Option.some.injEq, Option.map_eq_some_iff] at hy) <;> first | (obtain ⟨qs, h2, rfl⟩ := hy) | subst hy
    all_goals first | (simp only [eqB, PyData.eqv]; done) | (simp only [eqB, PyData.eqv]; exact eqBs_pd xs h1 h2)
  | .lst xs, y, p, q, hx, hy => by
    rw [pd] at hx
    obtain ⟨ps, h1, rfl⟩ := Option.map_eq_some_iff.mp hx
    cases y <;> (simp only [pd, reduceCtorEq, Option.some.injEq, Option.map_eq_some_iff] at hy) <;> first | (obtain ⟨qs, h2, rfl⟩ := hy) | subst hy
    all_goals first | (simp only [eqB, PyData.eqv]; done) | (simp only [eqB, PyData.eqv]; exact eqBs_pd xs h1 h2)
  | .non, y, p, q, hx, hy => by
    rw [pd] at hx; cases hx
    cases y <;> (simp only [pd, reduceCtorEq, Option.some.injEq, Option.map_eq_some_iff] at hy) <;> first | (obtain ⟨qs, h2, rfl⟩ := hy) | subst hy
    all_goals first | (simp only [eqB, PyData.eqv, so_eq]; done) | (simp only [eqB, PyData.eqv]; rw [Bool.eq_iff_iff]; simp; done)
  | .bl _, y, p, q, hx, hy => by
    rw [pd] at hx; cases hx
    cases y <;> (simp only [pd, reduceCtorEq, Option.some.injEq, Option.map_eq_some_iff] at hy) <;> first | (obtain ⟨qs, h2, rfl⟩ := hy) | subst hy
    all_goals first | (simp only [eqB, PyData.eqv, so_eq]; done) | (simp only [eqB, PyData.eqv]; rw [Bool.eq_iff_iff]; simp; done)
  | .int _, y, p, q, hx, hy => by
    rw [pd] at hx; cases hx
    cases y <;> (simp only [pd, reduceCtorEq, Option.some.injEq, Option.map_eq_some_iff] at hy) <;> first | (obtain ⟨qs, h2, rfl⟩ := hy) | subst hy
    all_goals first | (simp only [eqB, PyData.eqv, so_eq]; done) | (simp only [eqB, PyData.eqv]; rw [Bool.eq_iff_iff]; simp; done)
  | .str _, y, p, q, hx, hy => by
    rw [pd] at hx; cases hx
    cases y <;> (simp only [pd, reduceCtorEq, Option.some.injEq, Option.map_eq_some_iff] at hy) <;> first | (obtain ⟨qs, h2, rfl⟩ := hy) | subst hy
    all_goals first | (simp only [eqB, PyData.eqv, so_eq]; done) | (simp only [eqB, PyData.eqv]; rw [Bool.eq_iff_iff]; simp; done)
  | .cls _, y, p, q, hx, hy => by simp [pd] at hx
  | .sei _, y, p, q, hx, hy => by simp [pd] at hx
  | .scr _, y, p, q, hx, hy => by simp [pd] at hx
  | .dic _ _, y, p, q, hx, hy => by simp [pd] at hx
  | .dit _ _, y, p, q, hx, hy => by simp [pd] at hx
  | .dig _ _, y, p, q, hx, hy => by simp [pd] at hx
  | .ins _ _ _, y, p, q, hx, hy => by simp [pd] at hx
  | .olst _, y, p, q, hx, hy => by simp [pd] at hx
  | .odic _ _, y, p, q, hx, hy => by simp [pd] at hx
  | .odit _ _, y, p, q, hx, hy => by simp [pd] at hx
  | .odig _ _, y, p, q, hx, hy => by simp [pd] at hx
  | .oins _ _ _, y, p, q, hx, hy => by simp [pd] at hx
theorem eqBs_pd : ∀ (xs : List D) {ys : List D} {ps qs : List PyData}, pds xs = some ps -> pds ys = some qs -> eqBs xs ys = PyData.eqvAll ps qs
  | [], ys, ps, qs, hx, hy => by
    rw [pds] at hx; cases hx
    cases ys with
    | nil => rw [pds] at hy; cases hy; simp [eqBs, PyData.eqvAll]
    | cons y ys =>
      rw [pds] at hy
      split at hy
      · cases hy; simp [eqBs, PyData.eqvAll]
      · cases hy
  | x :: xs, ys, ps, qs, hx, hy => by
    rw [pds] at hx
    split at hx
    · rename_i p ps' h1 h2
      cases hx
      cases ys with
      | nil => rw [pds] at hy; cases hy; simp [eqBs, PyData.eqvAll]
      | cons y ys =>
        rw [pds] at hy
        split at hy
        · rename_i q qs' k1 k2
          cases hy
          rw [eqBs, PyData.eqvAll, eqB_pd x h1 k1, eqBs_pd xs h2 k2]
        · cases hy
    · cases hx
end
def eqD (x y : D) : Option D := if okD 60 x = true /\ okD 60 y = true then some (.bl (eqB x y)) else none
def neD (x y : D) : Option D := if okD 60 x = true /\ okD 60 y = true then some (.bl (!eqB x y)) else none
theorem okD_sh {x : D} {p : PyData} (h1 : p.canLay0 = true) (h2 : p.depth <= 60) : SeqAt.shaped p = true := by
  unfold SeqAt.shaped
  rw [h1, decide_eq_true (by omega)]; rfl
def xEq (a b : XP W) : XP W := xOp (fun x y H Q => rEq x y H Q \/ rEqD W.K x y H Q) eqD (fun {x y d} e => by
  obtain ⟨⟨h1, h2⟩, rfl⟩ := ite_some e
  obtain ⟨p, p1, p2, p3⟩ := okD_pd h1
  obtain ⟨q, q1, q2, q3⟩ := okD_pd h2
  rw [eqB_pd x p1 q1]
  exact o2_r (o2_eqD p1 q1 (okD_sh (x := x) p2 p3) (okD_sh (x := y) q2 q3))) a b
def xNe (a b : XP W) : XP W := xOp (fun x y H Q => rNe x y H Q \/ rNeD W.K x y H Q) neD (fun {x y d} e => by
  obtain ⟨⟨h1, h2⟩, rfl⟩ := ite_some e
  obtain ⟨p, p1, p2, p3⟩ := okD_pd h1
  obtain ⟨q, q1, q2, q3⟩ := okD_pd h2
  rw [eqB_pd x p1 q1]
  exact o2_r (o2_neD p1 q1 (okD_sh (x := x) p2 p3) (okD_sh (x := y) q2 q3))) a b
def intsOf : List D -> Option (List Int)
  | [] => some []
  | .int i :: ds => (intsOf ds).map (i :: ·)
  | _ => none
theorem intsOf_map (ns : List Int) : intsOf (ns.map D.int) = some ns := by
  induction ns with
  | nil => rfl
  | cons n ns ih => rw [List.map_cons, intsOf, ih]; rfl
theorem intsOf_ok : ∀ {ds : List D} {ns : List Int}, intsOf ds = some ns -> ds = ns.map D.int
  | [], _, h => by cases h; rfl
  | .int i :: ds, ns, h => by
    obtain ⟨ms, h1, rfl⟩ := Option.map_eq_some_iff.mp h
    rw [intsOf_ok h1]; rfl
theorem shrs_int {F : Hp} : ∀ {ns : List Int} {vs : List V}, Shrs W F (ns.map D.int) vs -> vs = ns.map V.int
  | [], _, .nil => rfl
  | n :: ns, _, .cons h t => by cases h; rw [shrs_int t]; rfl
def cmpD (f : Int -> Int -> Bool) : D -> D -> Option D
  | .int i, .int j => some (.bl (f i j))
  | _, _ => none
def ltD : D -> D -> Option D
  | .int i, .int j => some (.bl (decide (i < j)))
  | .tup xs, .tup ys => (intsOf xs).bind fun ns => (intsOf ys).map fun ms => .bl (HT.lexLt ns ms)
  | _, _ => none
def xLt (a b : XP W) : XP W := xOp (fun x y H Q => rI0 (fun i j => .bl (decide (i < j))) x y H Q \/ rLtT W.K x y H Q) ltD (fun {x y d} e => by
  unfold ltD at e
  split at e
  · cases e; exact o2_l (o2_i fun _ => .bl)
  · obtain ⟨ns, h1, e⟩ := Option.bind_eq_some_iff.mp e
    obtain ⟨ms, h2, rfl⟩ := Option.map_eq_some_iff.mp e
    cases intsOf_ok h1
    cases intsOf_ok h2
    refine o2_r fun F H v1 v2 Q s a b q => ?_
    cases a with
    | tup ha sa =>
      cases b with
      | tup hb sb =>
        cases shrs_int sa
        cases shrs_int sb
        exact ⟨_, _, _, _, rfl, rfl, .of ha, .of hb, q _ F H (.refl s) (rO_sh .bl)⟩
  · cases e) a b
def xCmp (f : Int -> Int -> Bool) (a b : XP W) : XP W := xOp (rI0 fun i j => .bl (f i j)) (cmpD f) (fun {x y d} e => by
  unfold cmpD at e
  split at e
  · cases e; exact o2_i fun _ => .bl
  · cases e) a b
def xLe (a b : XP W) : XP W := xCmp (fun i j => decide (i <= j)) a b
def xGt (a b : XP W) : XP W := xCmp (fun i j => decide (j < i)) a b
def xGe (a b : XP W) : XP W := xCmp (fun i j => decide (j <= i)) a b
def blD : D -> Option Bool
  | .bl b => some b
  | _ => none
theorem blD_ok {x : D} {b : Bool} (h : blD x = some b) : x = .bl b := by cases x <;> cases h; rfl
def XP.evB (a : XP W) (env : Py.Env) : Option Bool := (a.evV env).bind blD
theorem XP.sB (a : XP W) {b : Bool} (h : a.evB env = some b) : AE W a.t env (rV W (.bl b)) := by
  obtain ⟨x, e1, e⟩ := Option.bind_eq_some_iff.mp h
  cases blD_ok e
  exact a.sV e1
def andE (x : Option Bool) (y : Unit -> Option Bool) : Option Bool := match x with
  | some true => y ()
  | some false => some false
  | none => none
def orE (x : Option Bool) (y : Unit -> Option Bool) : Option Bool := match x with
  | some false => y ()
  | some true => some true
  | none => none
def xAnd (a b : XP W) : XP W where
  t := tAndV a.t b.t
  ev env := (andE (a.evB env) fun _ => b.evB env).map fun c => (.fr, .bl c)
  snd := fun {env k d} e => by
    obtain ⟨c, e1, e⟩ := Option.map_eq_some_iff.mp e
    cases e
    match ha : a.evB env, e1 with
    | some false, e1 => cases e1; exact (ae_andV (b := false) (a.sB ha) fun q => nomatch q).own
    | some true, e1 => exact (ae_andV (a.sB ha) fun q => b.sB e1).own
def xNot (a : XP W) : XP W where
  t := tNotV a.t
  ev env := (a.evB env).map fun c => (.fr, .bl (!c))
  snd := fun {env k d} e => by
    obtain ⟨c, e1, e⟩ := Option.map_eq_some_iff.mp e
    cases e
    exact (ae_notV (a.sB e1)).own
structure XT {T : Tbl} (W : Wd T) where
  t : TT
  ev : Py.Env -> Option Bool
  snd : ∀ {env b}, ev env = some b -> AT W t env b
def xtV (a : XP W) : XT W where
  t := tTest a.t
  ev env := a.evB env
  snd := fun e => at_test (a.sB e)
def truD : D -> Option Bool
  | .bl b => some b
  | .non => some false
  | .int i => some (decide (i ≠ 0))
  | .lst ds => some (!ds.isEmpty)
  | .tup ds => some (!ds.isEmpty)
  | _ => none
theorem isE {ds : List D} {vs : List V} {F : Hp} (b : Shrs W F ds vs) : (!ds.isEmpty) = !vs.isEmpty := by cases b <;> rfl
def xtTru (a : XP W) : XT W where
  t := fun σ H Q => a.t σ H fun x H' => ∃ k, TruV W.K x H' k /\ Q k H'
  ev env := (a.evV env).bind truD
  snd := fun {env b} e => by
    obtain ⟨x, e1, e⟩ := Option.bind_eq_some_iff.mp e
    intro e' F σ H L Q r q
    refine a.sV e1 e' F σ H L _ r fun v F1 H1 x1 y1 => ⟨b, ?_, q F1 H1 x1⟩
    cases y1 <;> first | (cases e; done) | (cases e; rfl) | skip
    · cases e
      show decide _ = (_ != 0)
      rw [Bool.eq_iff_iff]; simp
    · cases e; exact .inr (.inl ⟨_, .of (by assumption), isE (by assumption)⟩)
    · cases e; exact .inl ⟨_, .of (by assumption), isE (by assumption)⟩
def xtAnd (a b : XT W) : XT W where
  t := tAnd a.t b.t
  ev env := andE (a.ev env) fun _ => b.ev env
  snd := fun {env c} e => by
    match ha : a.ev env, e with
    | some false, e => cases e; exact at_and (b := false) (a.snd ha) fun q => nomatch q
    | some true, e => exact at_and (a.snd ha) fun q => b.snd e
def xtOr (a b : XT W) : XT W where
  t := tOr a.t b.t
  ev env := orE (a.ev env) fun _ => b.ev env
  snd := fun {env c} e => by
    match ha : a.ev env, e with
    | some true, e => cases e; exact at_or (b := false) (a.snd ha) fun q => nomatch q
    | some false, e => exact at_or (a.snd ha) fun q => b.snd e
def xtNot (a : XT W) : XT W where
  t := tNot a.t
  ev env := (a.ev env).map (!·)
  snd := fun {env c} e => by
    obtain ⟨b, e1, rfl⟩ := Option.map_eq_some_iff.mp e
    exact at_not (a.snd e1)
structure XA {T : Tbl} (W : Wd T) where
  t : TA
  evV : Py.Env -> Option (List D)
  evF : Py.Env -> Option (List D)
  sV : ∀ {env ds}, evV env = some ds -> AA W t env (rVs W ds)
  sF : ∀ {env ds}, evF env = some ds -> AA W t env (rFs W ds)
def xaNil {T : Tbl} (W : Wd T) : XA W where
  t := tNil
  evV _ := some []
  evF _ := some []
  sV := fun e => by cases e; exact aa_nilV
  sF := fun e => by cases e; exact aa_nil
def xaCons (a : XP W) (as : XA W) : XA W where
  t := tCons a.t as.t
  evV env := (a.evV env).bind fun x => (as.evV env).map (x :: ·)
  evF env := (a.evF env).bind fun x => (as.evF env).map (x :: ·)
  sV := fun {env ds} e => by
    obtain ⟨x, e1, e⟩ := Option.bind_eq_some_iff.mp e
    obtain ⟨xs, e2, rfl⟩ := Option.map_eq_some_iff.mp e
    exact aa_consV (a.sV e1) (as.sV e2)
  sF := fun {env ds} e => by
    obtain ⟨x, e1, e⟩ := Option.bind_eq_some_iff.mp e
    obtain ⟨xs, e2, rfl⟩ := Option.map_eq_some_iff.mp e
    exact aa_cons (a.sF e1) (as.sF e2)
def xTup (as : XA W) : XP W where
  t := tTup as.t
  ev env := (as.evF env).bind fun ds => if ds.length <= 1000000 then some (.fr, .tup ds) else none
  snd := fun {env k d} e => by
    obtain ⟨x, e1, e⟩ := Option.bind_eq_some_iff.mp e
    obtain ⟨h, e⟩ := ite_some e
    cases e
    exact (ae_tup (as.sF e1) h).own
def xLst (as : XA W) : XP W where
  t := tLst as.t
  ev env := (as.evF env).bind fun ds => if ds.length <= 1000000 then some (.fr, .olst ds) else none
  snd := fun {env k d} e => by
    obtain ⟨x, e1, e⟩ := Option.bind_eq_some_iff.mp e
    obtain ⟨h, e⟩ := ite_some e
    cases e
    exact ae_lst (as.sF e1) h
def xCb (r : List V -> Hp -> VK -> Prop) (f : List D -> Option D) (h : ∀ {ds d}, f ds = some d -> Cb W r ds d) (as : XA W) : XP W where
  t := tCB r as.t
  ev env := (as.evV env).bind fun ds => (f ds).map (Prod.mk .fr)
  snd := fun {env k d} e => by
    obtain ⟨x, e1, e⟩ := Option.bind_eq_some_iff.mp e
    obtain ⟨z, e2, e⟩ := Option.map_eq_some_iff.mp e
    cases e
    exact ae_cb (as.sV e1) (h e2)
def intD : List D -> Option D
  | [.int i] => some (.int i)
  | [.bl b] => some (.int (if b then 1 else 0))
  | _ => none
def xInt1 (as : XA W) : XP W := xCb (fun xs H Q => (∃ i, xs = [.int i] /\ Q (.int i) H) \/ ∃ k, xs = [.bl k] /\ Q (.int (if k then 1 else 0)) H) intD (fun {ds d} e => by
  unfold intD at e
  split at e
  · cases e; exact cb_int
  · cases e
    exact fun F H vs Q s a q => by
      cases a with
      | cons a b => cases b; cases a; exact .inr ⟨_, rfl, q _ F H (.refl s) (rO_sh .int)⟩
  · cases e) as
def absD : List D -> Option D
  | [.int i] => some (.int (if i < 0 then -i else i))
  | _ => none
def xAbs (as : XA W) : XP W := xCb (fun xs H Q => ∃ i, xs = [.int i] /\ Q (.int (if i < 0 then -i else i)) H) absD (fun {ds d} e => by
  unfold absD at e
  split at e
  · cases e; exact cb_abs
  · cases e) as
abbrev rLenA (K : PySem.W.Frag) : List V -> Hp -> VK -> Prop := fun xs H Q => (∃ p ys, xs = [.ref p] /\ (SqL K H p ys \/ SqT K H p ys) /\ Q (.int ys.length) H) \/ (∃ a kvs, xs = [V.ref a] /\ H a = some (.dK kvs) /\ Q (.int kvs.length) H)
def lenD : List D -> Option D
  | [.lst ds] => some (.int ds.length)
  | [.tup ds] => some (.int ds.length)
  | [.scr ns] => some (.int ns.length)
  | _ => none
theorem len_cb {ds : List D} {d : D} (e : lenD ds = some d) : Cb W (rLenA W.K) ds d := by
  unfold lenD at e
  split at e
  · cases e; exact cb_l cb_lenL
  · cases e; exact cb_l cb_lenT
  · cases e; exact cb_l cb_lenS
  · cases e
def itemsD : D -> Option (List D)
  | .lst xs => some xs
  | .olst xs => some xs
  | .tup xs => some xs
  | .scr ns => some (ns.map .int)
  | _ => none
def ixD (d y : D) : Option D := match y with
  | .int i => (itemsD d).bind fun xs => atI xs i
  | _ => none
theorem Owns.get {G H : Hp} : ∀ {ds : List D} {vs : List V} {L : List Addr} {i : Nat} {d : D}, Owns W G H ds vs L -> ds[i]? = some d -> ∃ v M, vs[i]? = some v /\ Own W G H d v M
  | _, _, _, _, _, .nil, e => by simp at e
  | _, _, _, 0, _, .cons h _, e => by simp at e; subst e; exact ⟨_, _, rfl, h⟩
  | _, _, _, i + 1, _, .cons _ t, e => Owns.get (i := i) t (by simpa using e)
theorem atI_own {G H : Hp} {ds : List D} {vs : List V} {L : List Addr} {i : Int} (h : Owns W G H ds vs L) (ha : atI ds i = some d) : ∃ v M, atI vs i = some v /\ Own W G H d v M := by
  unfold atI at ha ⊢
  rw [<- h.length]
  cases e : ixN ds.length i with
  | none => rw [e] at ha; cases ha
  | some j =>
    rw [e] at ha
    exact h.get ha
theorem ixD_ok {G H : Hp} {v : V} {L : List Addr} {i : Int} {x : D} (s : Same G H) (o : Own W G H d v L) (h : ixD d (.int i) = some x) : ∃ w M, Own W G H x w M /\ ∀ Q : VK, Q w H -> rIxU W.K v (.int i) H Q := by
  obtain ⟨xs, h1, h2⟩ := Option.bind_eq_some_iff.mp h
  cases o with
  | sh y =>
    cases y <;> first | (cases h1; done) | skip
    · cases h1
      obtain ⟨w, M, e1, e2⟩ := atI_own (Shrs.owns (H := H) (shrs_ints (W := W) (F := G) _)) h2
      exact ⟨w, M, e2, fun Q q => .inl ⟨_, _, i, w, rfl, rfl, s.seq (by assumption), e1, q⟩⟩
    · cases h1
      obtain ⟨w, M, e1, e2⟩ := atI_own (Shrs.owns (H := H) (by assumption)) h2
      exact ⟨w, M, e2, fun Q q => .inr ⟨_, _, i, w, rfl, rfl, .of (s _ _ (by assumption)), e1, q⟩⟩
    · cases h1
      obtain ⟨w, M, e1, e2⟩ := atI_own (Shrs.owns (H := H) (by assumption)) h2
      exact ⟨w, M, e2, fun Q q => .inl ⟨_, _, i, w, rfl, rfl, .of (s _ _ (by assumption)), e1, q⟩⟩
  | olst ha hs =>
    cases h1
    obtain ⟨w, M, e1, e2⟩ := atI_own hs h2
    exact ⟨w, M, e2, fun Q q => .inl ⟨_, _, i, w, rfl, rfl, .of ha, e1, q⟩⟩
  | odic => cases h1
  | odit => cases h1
  | odig => cases h1
  | oins => cases h1
def xIx (a b : XP W) : XP W where
  t := tOp (rIxU W.K) a.t b.t
  ev env := (a.ev env).bind fun p => (b.evV env).bind fun y => (ixD p.2 y).map p.1.of
  snd := fun {env k d} e => by
    obtain ⟨⟨k1, d1⟩, e1, e⟩ := Option.bind_eq_some_iff.mp e
    obtain ⟨y, e2, e⟩ := Option.bind_eq_some_iff.mp e
    obtain ⟨x, e3, e9⟩ := Option.map_eq_some_iff.mp e
    intro e' F σ H L Q r q
    refine a.snd e1 e' F σ H L _ r fun v F1 H1 x1 y1 => b.sV e2 e' F1 σ H1 L _ (r.ext x1) fun u F2 H2 x2 y2 => ?_
    obtain ⟨L1, o⟩ := rK_own y1
    have o2 := o.ext x2
    cases y <;> first | (cases e3; done) | skip
    cases y2
    obtain ⟨w, M, o3, c⟩ := ixD_ok (basis_same x2.s) o2 e3
    exact c _ (q w F2 H2 (x1.trans x2) (rK_of x2.s o3 e9))
def fldD (T : Tbl) (f : String) : D -> Option D
  | .ins c ns xs => if T.fOk c f = true then (pos f ns).bind fun j => xs[j]? else none
  | .oins c ns xs => if T.fOk c f = true then (pos f ns).bind fun j => xs[j]? else none
  | _ => none
theorem fldD_ok {G H : Hp} {v : V} {L : List Addr} {f : String} {x : D} (s : Same G H) (o : Own W G H d v L) (h : fldD T f d = some x) :
    ∃ a c dx fs w M, v = .ref a /\ H a = some (.ins (W.cA c) dx fs) /\ Cls W.K (W.cA c) /\ NoAttr W.K (W.cA c) (so f) /\ fs.lookup (so f) = some w /\ Own W G H x w M := by
  have gen : ∀ {c ns xs vs dx a M}, (if T.fOk c f = true then (pos f ns).bind fun j => xs[j]? else none) = some x -> H a = some (.ins (W.cA c) dx ((ns.map so).zip vs)) -> W.has c -> Owns W G H xs vs M ->
      ∃ a' c' dx fs w M, V.ref a = .ref a' /\ H a' = some (.ins (W.cA c') dx fs) /\ Cls W.K (W.cA c') /\ NoAttr W.K (W.cA c') (so f) /\ fs.lookup (so f) = some w /\ Own W G H x w M := by
    intro c ns xs vs dx a M e ha hc os
    split at e
    · rename_i hf
      obtain ⟨j, e1, e2⟩ := Option.bind_eq_some_iff.mp e
      obtain ⟨w, M', e3, o3⟩ := os.get e2
      exact ⟨a, c, dx, _, w, M', rfl, ha, W.cl c hc, W.na c f hc hf, (zip_lookup e1).trans e3, o3⟩
    · cases e
  cases o with
  | sh y =>
    cases y <;> first | (cases h; done) | skip
    exact gen h (s _ _ (by assumption)) (by assumption) (Shrs.owns (by assumption))
  | olst => cases h
  | odic => cases h
  | odit => cases h
  | odig => cases h
  | oins ha hc hl hs => exact gen h ha hc hs
def xFld (a : XP W) (f : String) : XP W where
  t := tFld W.K a.t (so f)
  ev env := (a.ev env).bind fun p => (fldD T f p.2).map p.1.of
  snd := fun {env k d} e => by
    obtain ⟨⟨k1, d1⟩, e1, e⟩ := Option.bind_eq_some_iff.mp e
    obtain ⟨x, e3, e⟩ := Option.map_eq_some_iff.mp e
    intro e' F σ H L Q r q
    refine a.snd e1 e' F σ H L _ r fun v F1 H1 x1 y1 => ?_
    obtain ⟨L1, o⟩ := rK_own y1
    obtain ⟨a, c, dx, fs, w, M, rfl, h1, h2, h3, h4, h5⟩ := fldD_ok (basis_same x1.s) o e3
    exact ⟨a, _, dx, fs, w, rfl, h1, h2, h3, h4, q w F1 H1 x1 (rK_of x1.s h5 e)⟩
def xList (a : XP W) : XP W where
  t := tCB (fun xs H Q => ∃ p ys, xs = [.ref p] /\ (SqL W.K H p ys \/ SqT W.K H p ys) /\ ∀ l, H l = none -> Q (.ref l) (upd H l (.lst ys))) (tCons a.t tNil)
  ev env := (a.evK env).bind fun d => (seqOf d).map fun p => (.fr, .olst p.2)
  snd := fun {env k d} e => by
    obtain ⟨d1, e1, e⟩ := Option.bind_eq_some_iff.mp e
    obtain ⟨⟨b, xs⟩, e3, e⟩ := Option.map_eq_some_iff.mp e
    cases e
    intro e' F σ H L Q r q
    refine a.sK e1 e' F σ H L _ r fun v F1 H1 x1 ⟨L1, o⟩ => ?_
    obtain ⟨a, vs, rfl, sh, sq⟩ := seqOf_ok x1.s o e3
    refine ⟨a, vs, rfl, ?_, fun p hp => q _ F1 _ (x1.trans (.newH x1.s hp)) ⟨[p], .olst upd_same sh.owns, by simp, fun x m => by
      rw [List.mem_singleton.mp m]; exact ⟨x1.h.free hp, x1.s.free hp⟩⟩⟩
    cases b with
    | true => exact .inr sq
    | false => exact .inl sq
def xTuple (a : XP W) : XP W where
  t := tCB (fun xs H Q => ∃ p ys, xs = [.ref p] /\ ((SqL W.K H p ys /\ ∀ l, H l = none -> Q (.ref l) (upd H l (.tup ys))) \/ (SqT W.K H p ys /\ Q (.ref p) H))) (tCons a.t tNil)
  ev env := (a.evK env).bind fun d => (seqOf d).map fun p => (.fr, .tup p.2)
  snd := fun {env k d} e => by
    obtain ⟨d1, e1, e⟩ := Option.bind_eq_some_iff.mp e
    obtain ⟨⟨b, xs⟩, e3, e⟩ := Option.map_eq_some_iff.mp e
    cases e
    intro e' F σ H L Q r q
    refine a.sK e1 e' F σ H L _ r fun v F1 H1 x1 ⟨L1, o⟩ => ?_
    cases b with
    | true =>
      have o1 : ∃ a vs, d1 = .tup xs /\ v = .ref a /\ F1 a = some (.tup vs) /\ Shrs W F1 xs vs := by
        unfold seqOf at e3
        split at e3 <;> first | (cases e3; done) | skip
        · split at e3 <;> cases e3
        · cases e3
          cases o.shr rfl with
          | tup ha hs => exact ⟨_, _, rfl, rfl, ha, hs⟩
      obtain ⟨a, vs, rfl, rfl, ha, hs⟩ := o1
      exact ⟨a, vs, rfl, .inr ⟨.of (x1.s _ _ ha), q _ F1 H1 x1 (rO_sh (.tup ha hs))⟩⟩
    | false =>
      obtain ⟨a, vs, rfl, sh, sq⟩ := seqOf_ok x1.s o e3
      exact ⟨a, vs, rfl, .inl ⟨sq, fun p hp => q _ (upd F1 p (.tup vs)) _ (x1.trans (.new x1.s hp)) (rO_sh (.tup upd_same (sh.mono (same_new (x1.s.free hp)))))⟩⟩
def tyD : D -> Option (Bool × String)
  | .non => some (false, "NoneType")
  | .bl _ => some (false, "bool")
  | .int _ => some (false, "int")
  | .str _ => some (false, "str")
  | .lst _ => some (false, "list")
  | .tup _ => some (false, "tuple")
  | .ins c _ _ => some (true, c)
  | _ => none
def isiB (a b : String) : Bool := a == b || (a == "bool" && b == "int")
def isi1 (T : Tbl) (t c : Bool × String) : Bool := match t, c with
  | (false, a), (false, b) => isiB a b
  | (false, _), (true, _) => false
  | (true, _), (false, _) => false
  | (true, c), (true, d) => T.sub c d
def clsOk (W : Wd T) (c : Bool × String) : Prop := if c.1 = true then W.has c.2 else c.2 ∈ ["int", "bool", "str", "list", "tuple", "dict"]
def clsT (W : Wd T) (c : Bool × String) : Value := if c.1 = true then .ref (W.cA c.2) else .type c.2
def clsV (W : Wd T) (c : Bool × String) : V := if c.1 = true then .ref (W.cA c.2) else .ty c.2
theorem clsV_ok (c : Bool × String) : ClsV (clsV W c) (clsT W c) := by
  obtain ⟨b, n⟩ := c
  cases b with
  | true => exact .own _
  | false => exact .ty _
theorem kitB_ok : ∀ a ∈ ["NoneType", "bool", "int", "str", "list", "tuple", "dict"], ∀ b ∈ ["int", "bool", "str", "list", "tuple", "dict"], kitB a b = some (isiB a b) := by decide +kernel
theorem tyD_ok {F H : Hp} {v : V} {t : Bool × String} (s : Same F H) (h : Shr W F d v) (e : tyD d = some t) : TyX W.K H v (clsT W t) /\ if t.1 = true then W.has t.2 else t.2 ∈ ["NoneType", "bool", "int", "str", "list", "tuple", "dict"] := by
  cases h with
  | non => cases e; exact ⟨.base .non, by simp⟩
  | bl => cases e; exact ⟨.base (.bl _), by simp⟩
  | int => cases e; exact ⟨.base (.int _), by simp⟩
  | str => cases e; exact ⟨.base (.str _), by simp⟩
  | lst h => cases e; exact ⟨.base (.lst (s _ _ h)), by simp⟩
  | tup h => cases e; exact ⟨.base (.tup (s _ _ h)), by simp⟩
  | dic => cases e
  | dit => cases e
  | ins h hc => cases e; exact ⟨.base (.ins (s _ _ h) (W.cl _ hc) (W.isT _ hc).1 (W.isT _ hc).2.1 (W.isT _ hc).2.2.1 (W.isT _ hc).2.2.2), hc⟩
  | scr => cases e
  | cls => cases e
  | sei => cases e
  | dig => cases e
theorem kit_isi {t c : Bool × String} (ht : if t.1 = true then W.has t.2 else t.2 ∈ ["NoneType", "bool", "int", "str", "list", "tuple", "dict"]) (hc : clsOk W c) : PySem.W.kitOne W.K (clsT W t) (clsT W c) = some (isi1 T t c) := by
  obtain ⟨b, n⟩ := t
  obtain ⟨b', n'⟩ := c
  cases b <;> cases b'
  · exact kit_ty (kitB_ok n ht n' hc)
  · exact W.isTO n n' ht hc
  · exact W.isOT n n' ht hc
  · exact W.isOO n n' ht hc
def xIsi (c : Bool × String) (a : XP W) : XP W where
  t := fun σ H Q => clsOk W c -> tCB (rIsi W.K) (tCons a.t (tCons (tC (clsV W c)) tNil)) σ H Q
  ev env := (a.evV env).bind fun x => (tyD x).map fun t => (.fr, .bl (isi1 T t c))
  snd := fun {env k d} e => by
    obtain ⟨x, e1, e⟩ := Option.bind_eq_some_iff.mp e
    obtain ⟨t, e2, e⟩ := Option.map_eq_some_iff.mp e
    cases e
    intro e' F σ H L Q r q hc
    refine a.sV e1 e' F σ H L _ r fun v F1 H1 x1 y1 => ?_
    obtain ⟨z1, z2⟩ := tyD_ok (Same.refl _) y1 e2
    exact ⟨_, _, _, _, _, rfl, clsV_ok c, z1, kit_isi z2 hc, q _ F1 H1 x1 (rO_sh .bl)⟩
def isiA (T : Tbl) (t : Bool × String) : List (Bool × String) -> Bool
  | [] => false
  | c :: cs => isi1 T t c || isiA T t cs
theorem kitAny_isi {t : Bool × String} (ht : if t.1 = true then W.has t.2 else t.2 ∈ ["NoneType", "bool", "int", "str", "list", "tuple", "dict"]) : ∀ {cs : List (Bool × String)}, (∀ c ∈ cs, clsOk W c) -> PySem.W.kitAny W.K (clsT W t) (cs.map (clsT W)) = some (isiA T t cs)
  | [], _ => rfl
  | c :: cs, h => by
    have h1 := kit_isi ht (h c (List.mem_cons_self ..))
    have h2 := kitAny_isi ht (cs := cs) fun x m => h x (List.mem_cons_of_mem _ m)
    exact kitAny_cons h1 (fun hb => by rw [h2, isiA, hb]; rfl) fun hb => by rw [isiA, hb]; rfl
theorem paired_cls : ∀ cs : List (Bool × String), Paired ClsV (cs.map (clsV W)) (cs.map (clsT W))
  | [] => .nil
  | c :: cs => .cons (clsV_ok c) (paired_cls cs)
def tCls {T : Tbl} (W : Wd T) : List (Bool × String) -> TA
  | [] => tNil
  | c :: cs => tCons (tC (clsV W c)) (tCls W cs)
theorem tCls_run : ∀ (cs : List (Bool × String)) (σ : St) (H : Hp) (Q : List V -> Hp -> Prop), Q (cs.map (clsV W)) H -> tCls W cs σ H Q
  | [], _, _, _, q => q
  | _ :: cs, σ, H, _, q => tCls_run cs σ H _ q
def xIsiT (cs : List (Bool × String)) (a : XP W) : XP W where
  t := fun σ H Q => (∀ c ∈ cs, clsOk W c) -> cs.length <= 100 -> tCB (rIsiT W.K) (tCons a.t (tCons (tTup (tCls W cs)) tNil)) σ H Q
  ev env := (a.evV env).bind fun x => (tyD x).map fun t => (.fr, .bl (isiA T t cs))
  snd := fun {env k d} e => by
    obtain ⟨x, e1, e⟩ := Option.bind_eq_some_iff.mp e
    obtain ⟨t, e2, e⟩ := Option.map_eq_some_iff.mp e
    cases e
    intro e' F σ H L Q r q hc hl
    refine a.sV e1 e' F σ H L _ r fun v F1 H1 x1 y1 => tCls_run cs σ H1 _ ⟨by rw [List.length_map]; exact Nat.le_trans hl (by decide), fun p hp => ?_⟩
    obtain ⟨z1, z2⟩ := tyD_ok (same_new hp) y1 e2
    exact ⟨_, _, _, _, _, _, rfl, upd_same, paired_cls cs, z1, kitAny_isi z2 hc, q _ F1 _ (x1.trans (.newH x1.s hp)) (rO_sh .bl)⟩
inductive Rz where
  | ok (d : D) (b : Option D) | exn (x : Exn) (b : Option D) | no
abbrev Sem := String -> List D -> Option Nat -> Rz
structure Post (F H : Hp) (L0 : List Addr) (F' H' : Hp) : Prop where
  f : Same F F'
  s : Same F' H'
  h : ∀ a o, a ∉ L0 -> H a = some o -> H' a = some o
  n : ∀ a o, F' a = some o -> F a = some o \/ H a = none \/ a ∈ L0
def bOwn {T : Tbl} (W : Wd T) (F H : Hp) (vs : List V) : Option Nat -> Option D -> List Addr -> Prop
  | some i, some d, M => ∃ v, vs[i]? = some v /\ Own W F H d v M
  | _, _, M => M = []
def spR {T : Tbl} (W : Wd T) (n : Nat) (φ : List D -> Option Nat -> Rz) (b : Option Nat) : Sp := fun vs H Q E => ∃ F args L0, Same F H /\ Owns W F H args vs L0 /\ L0.Nodup /\ (∀ a ∈ L0, F a = none) /\ args.length = n /\ φ args b ≠ .no /\
  (∀ d bd, φ args b = .ok d bd -> ∀ F' H' v M Mb, Post F H L0 F' H' -> Own W F' H' d v M -> bOwn W F' H' vs b bd Mb -> (M ++ Mb).Nodup -> (∀ a ∈ M ++ Mb, F' a = none /\ (a ∈ L0 \/ H a = none)) -> Q v H') /\
  (∀ x bd, φ args b = .exn x bd -> ∀ F' H' C dd Mb, Post F H L0 F' H' -> IsExn W F' x C dd -> bOwn W F' H' vs b bd Mb -> Mb.Nodup -> (∀ a ∈ Mb, F' a = none /\ (a ∈ L0 \/ H a = none)) -> E C dd H')
theorem spR_len {n : Nat} {φ : List D -> Option Nat -> Rz} {b : Option Nat} : ∀ vs H Q E, spR W n φ b vs H Q E -> vs.length = n := by
  rintro vs H Q E ⟨F, args, L0, _, hS, _, _, hl, _⟩
  rw [<- hS.length, hl]
theorem Post.ext {F H F' H' : Hp} (p : Post F H [] F' H') : Ext F H F' H' := ⟨p.f, p.s, fun a o h => p.h a o (by simp) h, fun a o h => (p.n a o h).elim .inl fun z => z.elim .inr fun q => nomatch q⟩
def Rz.toF : Rz -> Option (Kd × D)
  | .ok d _ => some (.fr, d)
  | _ => none
def Rz.toV : Rz -> Option (Kd × D)
  | .ok d _ => some (if isFlat d = true then (.fr, d) else (.vw, fz d))
  | _ => none
theorem Rz.toF_ok {r : Rz} {k : Kd} {d : D} (h : r.toF = some (k, d)) : k = .fr /\ ∃ b, r = .ok d b := by cases r <;> cases h; exact ⟨rfl, _, rfl⟩
theorem Rz.toV_ok {r : Rz} {k : Kd} {d : D} (h : r.toV = some (k, d)) : ∃ d0 b, r = .ok d0 b /\ ((isFlat d0 = true /\ k = .fr /\ d = d0) \/ (k = .vw /\ d = fz d0)) := by
  cases r with
  | exn => cases h
  | no => cases h
  | ok d0 b =>
    have e : some (if isFlat d0 = true then (Kd.fr, d0) else (.vw, fz d0)) = some (k, d) := h
    have e := Option.some.inj e
    split at e
    · cases e; exact ⟨_, _, rfl, .inl ⟨by assumption, rfl, rfl⟩⟩
    · cases e; exact ⟨_, _, rfl, .inr ⟨rfl, rfl⟩⟩
theorem callF {n : Nat} {φ : List D -> Option Nat -> Rz} {F H : Hp} {vs : List V} {args : List D} {Q : VK} {E : XK} {b : Option D} (s : Same F H) (h : Shrs W F args vs) (hl : args.length = n) (hφ : φ args none = .ok d b)
    (q : ∀ v F' H', Ext F H F' H' -> rO W d F' H' H v -> Q v H') : spR W n φ none vs H Q E := by
  refine ⟨F, args, [], s, h.owns, .nil, ?_, hl, ?_, fun d' bd e F' H' v M Mb p o ob nd k => ?_, fun x bd e => ?_⟩
  · exact fun a m => nomatch m
  · rw [hφ]; exact fun z => nomatch z
  rotate_left
  · rw [hφ] at e; cases e
  rw [hφ] at e; cases e
  have ob : Mb = [] := ob
  subst ob
  rw [List.append_nil] at nd k
  exact q v F' H' p.ext ⟨M, o, nd, fun a m => ⟨(k a m).2.elim (fun z => nomatch z) id, (k a m).1⟩⟩
theorem callV {n : Nat} {φ : List D -> Option Nat -> Rz} {F H : Hp} {vs : List V} {args : List D} {Q : VK} {E : XK} {b : Option D} (s : Same F H) (h : Shrs W H args vs) (hl : args.length = n) (hφ : φ args none = .ok d b)
    (q : ∀ v H', Ext F H F H' -> Shr W H' (fz d) v -> Q v H') : spR W n φ none vs H Q E :=
  callF (Same.refl H) h hl hφ fun v F' H' x ⟨L, o, _, _⟩ => q v H' ⟨Same.refl _, s.trans (x.f.trans x.s), x.h, fun _ _ z => .inl z⟩ (o.view x.s fun _ _ _ z => z)
def xCall (φ : List D -> Option Nat -> Rz) (n : Nat) (as : XA W) (dds : List D) (dvs : List V) (hd : ∀ F, Shrs W F dds dvs) : XP W where
  t := tCall (spR W n φ none) dvs E0 as.t
  ev env := match as.evF env with
    | some ds => if (ds ++ dds).length = n then (φ (ds ++ dds) none).toF else none
    | none => match as.evV env with
      | some ds => if (ds ++ dds).length = n then (φ (ds ++ dds) none).toV else none
      | none => none
  snd := fun {env k d} e => by
    match e1 : as.evF env, e with
    | some ds, e =>
      dsimp only at e
      split at e
      · rename_i hl
        obtain ⟨rfl, b, h⟩ := Rz.toF_ok e
        exact fun e' F σ H L Q r q => as.sF e1 e' F σ H L _ r fun vs F1 H1 x1 y1 => callF x1.s (y1.append (hd F1)) hl h fun v F2 H2 x2 y2 => q v F2 H2 (x1.trans x2) (rO_back x1.h y2)
      · cases e
    | none, e =>
      match e2 : as.evV env, e with
      | some ds, e =>
        dsimp only at e
        split at e
        · rename_i hl
          obtain ⟨d0, b, h, hk⟩ := Rz.toV_ok e
          refine fun e' F σ H L Q r q => as.sV e2 e' F σ H L _ r fun vs F1 H1 x1 y1 => callV x1.s (Shrs.append y1 (hd H1)) hl h fun v H2 x2 y2 => q v F1 H2 (x1.trans x2) ?_
          rcases hk with ⟨hf, rfl, rfl⟩ | ⟨rfl, rfl⟩
          · rw [fz_isSh (isSh_flat hf)] at y2
            exact rO_sh (y2.flat hf)
          · exact y2
        · cases e
structure XG {T : Tbl} (W : Wd T) where
  t : TG
  ev : List Nat -> D -> Py.Env -> Option Py.Env
  own : List Nat
  snd : ∀ {P d env env'}, ev P d env = some env' -> AG W P t d env (· = env')
  mono : ∀ {v : V} {σ : St} {H : Hp} {Q Q' : St -> Hp -> Prop}, (∀ σ H, Q σ H -> Q' σ H) -> t v σ H Q -> t v σ H Q'
  gw : ∀ {vs : List Nat}, (∀ i ∈ own, i ∈ vs) -> GW t vs
structure XGs {T : Tbl} (W : Wd T) where
  t : TGs
  ev : List Nat -> List D -> Py.Env -> Option Py.Env
  own : List Nat
  snd : ∀ {P d env env'}, ev P d env = some env' -> AGs W P t d env (· = env')
  mono : ∀ {v : List V} {σ : St} {H : Hp} {Q Q' : St -> Hp -> Prop}, (∀ σ H, Q σ H -> Q' σ H) -> t v σ H Q -> t v σ H Q'
  gw : ∀ {vs : List Nat}, (∀ i ∈ own, i ∈ vs) -> GWs t vs
def setS (P : List Nat) (i : Nat) (d : D) (env : Py.Env) : Option Py.Env := if i < env.length /\ i ∉ P then some (env.set i (some d)) else none
def xgN {T : Tbl} (W : Wd T) (i : Nat) : XG W where
  t := gName i
  ev P d env := setS P i d env
  own := [i]
  snd := fun {P d env env'} e => by
    obtain ⟨⟨h1, h2⟩, rfl⟩ := ite_some e
    exact ag_name (List.getElem?_eq_getElem h1) h2 rfl
  mono := fun h q => h _ _ q
  gw := fun h => gw_name (h i (List.mem_cons_self ..))
def xgsNil {T : Tbl} (W : Wd T) : XGs W where
  t := gNil
  ev P ds env := match ds with
    | [] => some env
    | _ :: _ => none
  own := []
  snd := fun {P ds env env'} e => by
    cases ds with
    | nil => cases e; exact ags_nil rfl
    | cons => cases e
  mono := fun h q => ⟨q.1, h _ _ q.2⟩
  gw := fun h => gws_nil
def xgsCons (g : XG W) (gs : XGs W) : XGs W where
  t := gCons g.t gs.t
  ev P ds env := match ds with
    | [] => none
    | d :: ds => (g.ev P d env).bind fun env => gs.ev P ds env
  own := g.own ++ gs.own
  snd := fun {P ds env env'} e => by
    cases ds with
    | nil => cases e
    | cons d ds =>
      obtain ⟨env1, e1, e2⟩ := Option.bind_eq_some_iff.mp e
      refine ags_cons fun e0 F σ H L v Q hP r s c => g.snd e1 e0 F σ H L v Q hP r s fun env2 σ2 L2 h r2 => ?_
      subst h
      exact c _ σ2 L2 (gs.snd e2) r2
  mono := fun h ⟨v, r, e, q⟩ => ⟨v, r, e, g.mono (fun _ _ q => gs.mono h q) q⟩
  gw := fun {vs} h v σ H Q ⟨x, r, e, q⟩ => ⟨x, r, e, g.mono (fun σ2 H2 ⟨w, q2⟩ => gs.mono (fun σ3 H3 ⟨w3, q3⟩ => ⟨w3.trans w, q3⟩) (gs.gw (fun i m => h i (List.mem_append_right _ m)) r σ2 H2 Q q2)) (g.gw (fun i m => h i (List.mem_append_left _ m)) x σ H _ q)⟩
def xgT (n : Nat) (gs : XGs W) : XG W where
  t := gTup W.K n gs.t
  ev P d env := match d with
    | .tup ds => if ds.length = n then gs.ev P ds env else none
    | _ => none
  own := gs.own
  snd := fun {P d env env'} e => by
    cases d <;> first | (cases e; done) | skip
    dsimp only at e
    split at e
    · exact ag_tup (by assumption) (gs.snd e)
    · cases e
  mono := fun h ⟨a, xs, e1, e2, e3, q⟩ => ⟨a, xs, e1, e2, e3, gs.mono h q⟩
  gw := fun h => gw_tup (gs.gw h)
structure XI {T : Tbl} (W : Wd T) where
  t : TI
  evF : Py.Env -> Option (List D)
  evP : Py.Env -> Option (List D)
  sF : ∀ {env ds}, evF env = some ds -> AIt W t env ds
  sP : ∀ {env ds}, evP env = some ds -> AIp W t env ds
theorem seq_sql {F0 : Hp} {a : Addr} {ds : List D} {vs : List V} (h : SqL W.K F0 a vs) (hs : Shrs W F0 ds vs) : Seq W (Itl W.K a) ds F0 where
  go := fun i d F H s1 s2 hd => by
    obtain ⟨v, hv, sv⟩ := hs.get hd
    refine ⟨⟨vs, v, (s1.trans s2).seq h, hv⟩, fun x H' y => ?_⟩
    obtain ⟨rfl, y⟩ := y
    have := y vs ((s1.trans s2).seq h)
    rw [hv] at this; cases this
    exact ⟨F, .refl s2, sv.mono s1⟩
  stop := fun F H s1 s2 => ⟨vs, (s1.trans s2).seq h, by rw [hs.length]; exact Nat.le_refl _⟩
theorem seqP_sql {F0 H0 : Hp} {a : Addr} {ds : List D} {vs : List V} (h : SqL W.K H0 a vs) (hs : Shrs W F0 ds vs) : SeqP W (Itl W.K a) ds F0 H0 where
  go := fun i d F H s1 s0 s2 hd => by
    obtain ⟨v, hv, sv⟩ := hs.get hd
    refine ⟨⟨vs, v, s0.seq h, hv⟩, fun x H' y => ?_⟩
    obtain ⟨rfl, y⟩ := y
    have := y vs (s0.seq h)
    rw [hv] at this; cases this
    exact ⟨F, .refl s2, sv.mono s1⟩
  stop := fun F H s1 s0 s2 => ⟨vs, s0.seq h, by rw [hs.length]; exact Nat.le_refl _⟩
theorem sameT {H H' : Hp} (e : Same H H') {a : Addr} {xs : List V} (h : SqT W.K H a xs) : SqT W.K H' a xs := by
  rcases h with (h | ⟨o, h⟩) | h
  · exact .inl (.inl (e _ _ h))
  · exact .inl (.inr ⟨o, e _ _ h⟩)
  · exact .inr h
theorem seqP_sqt {F0 H0 : Hp} {a : Addr} {ds : List D} {vs : List V} (h : SqT W.K H0 a vs) (hs : Shrs W F0 ds vs) : SeqP W (Itt W.K a) ds F0 H0 where
  go := fun i d F H s1 s0 s2 hd => by
    obtain ⟨v, hv, sv⟩ := hs.get hd
    refine ⟨⟨vs, v, sameT s0 h, hv⟩, fun x H' y => ?_⟩
    obtain ⟨rfl, y⟩ := y
    have := y vs (sameT s0 h)
    rw [hv] at this; cases this
    exact ⟨F, .refl s2, sv.mono s1⟩
  stop := fun F H s1 s0 s2 => ⟨vs, sameT s0 h, by rw [hs.length]; exact Nat.le_refl _⟩
def seqF : D -> Option (List D)
  | .lst xs => some xs
  | .tup xs => some xs
  | .scr ns => some (ns.map .int)
  | _ => none
def xiSeq (a : XP W) : XI W where
  t := iSeqU W.K a.t
  evF env := (a.evF env).bind seqF
  evP env := (a.evK env).bind fun d => (seqOf d).map (·.2)
  sF := fun {env ds} e => by
    obtain ⟨d, e1, e⟩ := Option.bind_eq_some_iff.mp e
    intro e' F σ H L R r q
    cases d <;> first | (cases e; done) | skip
    · cases e
      refine .inl (a.sF e1 e' F σ H L _ r fun v F1 H1 x1 y1 => ?_)
      cases y1 with
      | scr h => exact ⟨_, rfl, ⟨_, x1.s.seq h⟩, q _ F1 H1 x1 (seq_sql h (shrs_ints _))⟩
    · cases e; exact .inr (ait_tup (a.sF e1) e' F σ H L R r q)
    · cases e; exact .inl (ait_list (a.sF e1) e' F σ H L R r q)
  sP := fun {env ds} e => by
    obtain ⟨d, e1, e⟩ := Option.bind_eq_some_iff.mp e
    obtain ⟨⟨b, xs⟩, e2, rfl⟩ := Option.map_eq_some_iff.mp e
    intro e' F σ H L R r q
    cases b with
    | true =>
      refine .inr (a.sK e1 e' F σ H L _ r fun v F1 H1 x1 ⟨M, o⟩ => ?_)
      obtain ⟨a, vs, rfl, sh, sq⟩ := seqOf_ok x1.s o e2
      exact ⟨a, rfl, ⟨vs, sq⟩, q _ F1 H1 x1 (seqP_sqt sq sh)⟩
    | false =>
      refine .inl (a.sK e1 e' F σ H L _ r fun v F1 H1 x1 ⟨M, o⟩ => ?_)
      obtain ⟨a, vs, rfl, sh, sq⟩ := seqOf_ok x1.s o e2
      exact ⟨a, rfl, ⟨vs, sq⟩, q _ F1 H1 x1 (seqP_sql sq sh)⟩
def guardB {α : Type} (b : Bool) (x : Option α) : Option α := match b with
  | true => x
  | false => none
theorem guardB_some {α : Type} {b : Bool} {x : Option α} {y : α} (h : guardB b x = some y) : b = true /\ x = some y := by
  cases b with
  | true => exact ⟨rfl, h⟩
  | false => cases h
def rngOk (i : Int) : Bool := Nat.ble i.natAbs 1000000000000000000
theorem rngOk_ok {i : Int} (h : rngOk i = true) : -4611686018427387904 <= i /\ i < 4611686018427387904 := by
  have h : i.natAbs <= 1000000000000000000 := Nat.le_of_ble_eq_true h
  omega
def rng1D : List D -> Option (List D)
  | [.int n] => guardB (rngOk n) (some (rangeD 0 n.toNat))
  | _ => none
theorem rng1_ok {as : XA W} {env : Py.Env} {ds : List D} (e : (as.evV env).bind rng1D = some ds) : AIt W (iRng1 as.t) env ds := by
  obtain ⟨xs, e1, e⟩ := Option.bind_eq_some_iff.mp e
  unfold rng1D at e
  split at e
  · obtain ⟨h, e⟩ := guardB_some e
    cases e
    exact ait_range (as.sV e1) (rngOk_ok h)
  · cases e
def xiR1 (as : XA W) : XI W := ⟨iRng1 as.t, fun env => (as.evV env).bind rng1D, fun env => (as.evV env).bind rng1D, rng1_ok, fun e => (rng1_ok e).p⟩
def lstF : D -> Option (List D)
  | .lst xs => some xs
  | _ => none
theorem lstF_ok {d : D} {xs : List D} (h : lstF d = some xs) : d = .lst xs := by cases d <;> cases h; rfl
def xtYes {T : Tbl} (W : Wd T) : XT W := ⟨tYes, fun _ => some true, fun e => by cases e; exact at_yes⟩
def lc1 (g : XG W) (c : XT W) (x : XP W) (env : Py.Env) (d : D) : Option (List D) := (g.ev [] d env).bind fun e2 => (c.ev e2).bind fun b => if b = true then (x.evO e2).map fun y => [y] else some []
def lcL (f : D -> Option (List D)) : List D -> Option (List D)
  | [] => some []
  | d :: ds => (f d).bind fun y => (lcL f ds).map (y ++ ·)
theorem lcL_take {f : D -> Option (List D)} : ∀ {ds ys : List D}, lcL f ds = some ys -> ∃ rs : Nat -> List D, rs 0 = [] /\ rs ds.length = ys /\ (∀ (i : Nat) (d : D), ds[i]? = some d -> ∃ y, f d = some y /\ rs (i + 1) = rs i ++ y)
  | [], _, h => by cases h; exact ⟨fun _ => [], rfl, rfl, fun i d h => by simp at h⟩
  | d :: ds, ys, h => by
    obtain ⟨y, e1, h⟩ := Option.bind_eq_some_iff.mp h
    obtain ⟨zs, e2, rfl⟩ := Option.map_eq_some_iff.mp h
    obtain ⟨rs, r0, r1, r2⟩ := lcL_take e2
    refine ⟨fun i => match i with | 0 => [] | i + 1 => y ++ rs i, rfl, by rw [List.length_cons, <- r1], fun i d' hd => ?_⟩
    cases i with
    | zero =>
      simp at hd; subst hd
      exact ⟨y, e1, by simp [r0]⟩
    | succ i =>
      obtain ⟨z, h1, h2⟩ := r2 i d' (by simpa using hd)
      exact ⟨z, h1, by simp [h2]⟩
theorem lcL_pre {f : D -> Option (List D)} : ∀ {ds : List D} {rs : Nat -> List D}, (∀ d y, f d = some y -> y.length <= 1) -> rs 0 = [] -> (∀ (i : Nat) (d : D), ds[i]? = some d -> ∃ y, f d = some y /\ rs (i + 1) = rs i ++ y) -> ∀ i, i <= ds.length -> (rs i).length <= i
  | ds, rs, hf, r0, r2, 0, _ => by rw [r0]; exact Nat.le_refl _
  | ds, rs, hf, r0, r2, i + 1, h => by
    have ih := lcL_pre hf r0 r2 i (by omega)
    obtain ⟨y, e1, e2⟩ := r2 i ds[i] (List.getElem?_eq_getElem (by omega))
    have := hf _ _ e1
    rw [e2, List.length_append]
    omega
def xLc (it : XI W) (g : XG W) (c : XT W) (x : XP W) : XP W where
  t := tLc it.t g.t c.t x.t g.own
  ev env := (it.evP env).bind fun ds => if ds.length < 1000000 then (lcL (lc1 g c x (wipeE env g.own)) ds).map fun ys => (.fr, .olst ys) else none
  snd := fun {env k d} e => by
    obtain ⟨ds, e1, e⟩ := Option.bind_eq_some_iff.mp e
    split at e
    · rename_i hl
      obtain ⟨ys, e2, e⟩ := Option.map_eq_some_iff.mp e
      cases e
      obtain ⟨rs, r0, r1, r2⟩ := lcL_take e2
      have h1 : ∀ d y, lc1 g c x (wipeE env g.own) d = some y -> y.length <= 1 := fun d y h => by
        obtain ⟨e2, _, h⟩ := Option.bind_eq_some_iff.mp h
        obtain ⟨b, _, h⟩ := Option.bind_eq_some_iff.mp h
        split at h
        · obtain ⟨z, _, rfl⟩ := Option.map_eq_some_iff.mp h; simp
        · cases h; simp
      rw [<- r1]
      refine ae_lc (it.sP e1) (g.gw fun _ m => m) rs r0 (fun i d hd => ?_) fun i hi => ?_
      · obtain ⟨y, h, hr⟩ := r2 i d hd
        obtain ⟨env2, g1, h⟩ := Option.bind_eq_some_iff.mp h
        obtain ⟨b, c1, h⟩ := Option.bind_eq_some_iff.mp h
        intro e0 F σ H L v Q hP r s q
        refine g.snd g1 e0 F σ H L v Q hP r s fun env3 σ2 L2 z r3 => ?_
        subst z
        refine q _ σ2 L2 ⟨b, c.snd c1, fun hb => ?_, fun hb => ?_⟩ r3
        · subst hb
          obtain ⟨z, h8, rfl⟩ := Option.map_eq_some_iff.mp h
          exact ⟨z, x.sO h8, hr⟩
        · subst hb
          cases h
          rw [hr, List.append_nil]
      · have := lcL_pre h1 r0 r2 i hi
        omega
    · cases e
end
end Py
namespace Py
open PySem L2
section
variable {T : Tbl} {W : Wd T} {env : Py.Env} {d d0 d1 d2 : D} {P : List Nat} {E : WX} {A : AEnds}
theorem AS.weaken {t : TS} {A' : AEnds} (h : AS W P E t env A') (nx : ∀ e, A'.nx e -> A.nx e) (rt : ∀ d e, A'.rt d e -> A.rt d e) (bk : ∀ e, A'.bk e -> A.bk e) (ct : ∀ e, A'.ct e -> A.ct e) (ex : ∀ x e, A'.ex x e -> A.ex x e) : AS W P E t env A :=
  fun e F σ H L Dn hP r s => h e F σ H L Dn hP r ⟨fun _ _ _ _ _ a => s.nx _ _ _ _ _ (nx _ a), fun _ _ _ _ _ _ _ _ a => s.rt _ _ _ _ _ _ _ _ (rt _ _ a), fun _ _ _ _ _ a => s.bk _ _ _ _ _ (bk _ a), fun _ _ _ _ _ a => s.ct _ _ _ _ _ (ct _ a), fun _ _ _ _ _ _ _ _ a => s.ex _ _ _ _ _ _ _ _ (ex _ _ a)⟩
inductive RM where
  | ok (d : D) (env : Py.Env) | exn (x : Exn) (env : Py.Env) | no
def AMr {T : Tbl} (W : Wd T) (P : List Nat) (E : WX) (t : TE) (env : Py.Env) (r : RM) : Prop := r ≠ .no ->
  ∀ (e : Ent) (F : Hp) (σ : St) (H : Hp) (L : List Addr) (Q : VK), P = e.pins.map (·.1) -> Rel W e env F σ H L ->
    (∀ d env' v F' H' L' M, r = .ok d env' -> Rel W e env' F' σ H' L' -> Own W F' H' d v M -> (M ++ L').Nodup -> (∀ a ∈ M, F' a = none /\ (a ∈ e.L0 \/ e.H0 a = none)) -> Q v H') ->
    (∀ x env' F' H' L' C dd, r = .exn x env' -> Rel W e env' F' σ H' L' -> IsExn W F' x C dd -> E C dd σ H') -> t σ H Q
structure XM {T : Tbl} (W : Wd T) where
  t : WX -> TE
  ev : List Nat -> Py.Env -> RM
  snd : ∀ P E env, AMr W P E (t E) env (ev P env)
def RM.of (o : Option D) (env : Py.Env) : RM := match o with
  | some d => .ok d env
  | none => .no
theorem RM.of_ok {o : Option D} {env : Py.Env} (h : RM.of o env ≠ .no) : ∃ d, o = some d /\ RM.of o env = .ok d env := by
  cases o with
  | none => exact absurd rfl h
  | some d => exact ⟨d, rfl, rfl⟩
def xmP (p : XP W) : XM W where
  t _ := p.t
  ev _ env := RM.of (p.evO env) env
  snd := fun P E env hn e F σ H L Q hP r c _ => by
    obtain ⟨d, e1, e2⟩ := RM.of_ok hn
    exact p.sO e1 e F σ H L Q r fun v F' H' x ⟨M, o, nd, kk⟩ => c d env v F' H' L M e2 (r.ext x) o (nodup_new (H := H) r.nd nd r.slots.lives fun a m => (kk a m).1) fun a m => ⟨(kk a m).2, r.h0 (kk a m).1⟩
theorem Rel.freeze {e : Ent} {F H : Hp} {σ : St} {L : List Addr} {i : Nat} (r : Rel W e env F σ H L) (h : getS env i = some d) :
    ∃ v F' L', σ[i]? = some (some v) /\ Rel W e (env.set i (some (fz d))) F' σ H L' /\ Shr W F' (fz d) v := by
  obtain ⟨v, Li, Lr, e1, o, sl, nd, mem⟩ := r.slots.take r.nd (getS_some h)
  obtain ⟨F', s1, s2, nw, sh⟩ := Py.freeze r.sF o fun a ha => r.dj a ((mem a).mp (.inl ha))
  rw [List.nodup_append] at nd
  have hi : i < env.length := (List.getElem?_eq_some_iff.mp (getS_some h)).1
  have sl' := sl.frame (F' := F') (H' := H) s1 fun a _ o q => q
  obtain ⟨L', t1, t2, t3⟩ := sl'.put (i := i) (v := v) (Ld := []) (.sh sh) (by simpa using nd.2.1) (by simpa using hi)
  rw [List.set_set] at t1
  have hσ : σ.set i (some v) = σ := by
    apply List.ext_getElem?
    intro k
    by_cases hk : i = k
    · subst hk
      obtain ⟨hlt, _⟩ := List.getElem?_eq_some_iff.mp e1
      rw [List.getElem?_set_self hlt, e1]
    · rw [List.getElem?_set_ne hk]
  rw [hσ] at t1
  have inr : ∀ a ∈ L', a ∈ Lr := fun a ha => (t3 a ha).elim (fun z => nomatch z) id
  refine ⟨v, F', L', e1, ⟨s2, t1, t2, fun a ha => ?_, r.s0.trans s1, fun a o q => ?_, r.fr, fun a ha => r.ln a ((mem a).mp (.inr (inr a ha))), r.pin⟩, sh⟩
  · cases q : F' a with
    | none => rfl
    | some u =>
      rcases nw a u q with z | z
      · rw [r.dj a ((mem a).mp (.inr (inr a ha)))] at z; cases z
      · exact absurd rfl (nd.2.2 a z a (inr a ha))
  · rcases nw a o q with z | z
    · exact r.nw a o z
    · exact .inr ((r.ln a ((mem a).mp (.inl z))).elim .inr .inl)
def frzS (env : Py.Env) (i : Nat) : Py.Env := match getS env i with
  | some d => env.set i (some (fz d))
  | none => env
theorem Rel.frz1 {e : Ent} {F H : Hp} {σ : St} {L : List Addr} (r : Rel W e env F σ H L) (i : Nat) : ∃ F' L', Rel W e (frzS env i) F' σ H L' := by
  unfold frzS
  cases h : getS env i with
  | none => exact ⟨F, L, r⟩
  | some d =>
    obtain ⟨_, F', L', _, r', _⟩ := r.freeze h
    exact ⟨F', L', r'⟩
theorem Rel.frzs {e : Ent} {H : Hp} {σ : St} : ∀ (is : List Nat) (env : Py.Env) (F : Hp) (L : List Addr), Rel W e env F σ H L -> ∃ F' L', Rel W e (is.foldl frzS env) F' σ H L'
  | [], _, _, _, r => ⟨_, _, r⟩
  | i :: is, env, F, L, r => by
    obtain ⟨F', L', r'⟩ := r.frz1 i
    exact Rel.frzs is _ F' L' r'
def xmMove {T : Tbl} (W : Wd T) (i : Nat) : XM W where
  t _ := tVar i
  ev _ env := match getS env i with
    | some d => .ok d (env.set i none)
    | none => .no
  snd := fun P E env hn e F σ H L Q hP r c _ => by
    match h : getS env i, hn, c with
    | some d, hn, c =>
      obtain ⟨v, Li, Lr, e1, o, sl, nd, mem⟩ := r.slots.take r.nd (getS_some h)
      exact ⟨v, e1, c d _ v F H Lr Li rfl ⟨r.sF, sl, (List.nodup_append.mp nd).2.1, fun a ha => r.dj a ((mem a).mp (.inr ha)), r.s0, r.nw, r.fr, fun a ha => r.ln a ((mem a).mp (.inr ha)), r.pin⟩ o nd fun a ha => ⟨r.dj a ((mem a).mp (.inl ha)), r.ln a ((mem a).mp (.inl ha))⟩⟩
structure XPl {T : Tbl} (W : Wd T) where
  t : TE
  root : Nat
  ev : Py.Env -> Option (List Pst × D)
  at_ : ∀ {env st n}, ev env = some (st, n) -> ∃ d0, env[root]? = some (some d0) /\ d0.at st = some n
  loc : ∀ {env st n}, ev env = some (st, n) -> ALoc W t env root st
def plVar {T : Tbl} (W : Wd T) (i : Nat) : XPl W where
  t := tVar i
  root := i
  ev env := (getS env i).map fun d => ([], d)
  at_ := fun {env st n} e => by
    obtain ⟨d, e1, e2⟩ := Option.map_eq_some_iff.mp e
    cases e2
    exact ⟨_, getS_some e1, rfl⟩
  loc := fun {env st n} e => by
    obtain ⟨d, e1, e2⟩ := Option.map_eq_some_iff.mp e
    cases e2
    exact loc_var
def rOs {T : Tbl} (W : Wd T) (ds : List D) : ResL := fun F H H0 vs => ∃ L, Owns W F H ds vs L /\ L.Nodup /\ ∀ a ∈ L, H0 a = none /\ F a = none
structure XO {T : Tbl} (W : Wd T) where
  t : TA
  ev : Py.Env -> Option (List D)
  snd : ∀ {env ds}, ev env = some ds -> AA W t env (rOs W ds)
def xoNil {T : Tbl} (W : Wd T) : XO W where
  t := tNil
  ev _ := some []
  snd := fun e => by cases e; exact fun e F σ H L Q r q => q [] F H (.refl r.sF) ⟨[], .nil, .nil, fun _ m => nomatch m⟩
def xoCons (a : XP W) (as : XO W) : XO W where
  t := tCons a.t as.t
  ev env := (a.evO env).bind fun x => (as.ev env).map (x :: ·)
  snd := fun {env ds} e => by
    obtain ⟨x, e1, e⟩ := Option.bind_eq_some_iff.mp e
    obtain ⟨xs, e2, rfl⟩ := Option.map_eq_some_iff.mp e
    intro e F σ H L Q r q
    refine a.sO e1 e F σ H L _ r fun v F1 H1 x1 ⟨M1, o1, n1, k1⟩ => as.snd e2 e F1 σ H1 L _ (r.ext x1) fun vs F2 H2 x2 ⟨M2, o2, n2, k2⟩ => ?_
    have nn : ∀ a ∈ M1, F2 a = none := fun a ha => by
      obtain ⟨u, hu⟩ := o1.lives a ha
      cases z : F2 a with
      | none => rfl
      | some w =>
        rcases x2.n a w z with y | y
        · rw [(k1 a ha).2] at y; cases y
        · rw [hu] at y; cases y
    refine q _ F2 H2 (x1.trans x2) ⟨M1 ++ M2, .cons (o1.frame x2.f fun a _ o q => x2.h _ _ q) o2, ?_, fun a ha => ?_⟩
    · rw [List.nodup_append]
      refine ⟨n1, n2, fun a ha b hb z => ?_⟩
      subst z
      obtain ⟨u, hu⟩ := o1.lives a ha
      rw [(k2 a hb).1] at hu; cases hu
    · rcases List.mem_append.mp ha with z | z
      · exact ⟨(k1 a z).1, nn a z⟩
      · exact ⟨x1.h.free (k2 a z).1, (k2 a z).2⟩
def Mop {T : Tbl} (W : Wd T) (r : V -> List V -> Hp -> VK -> Prop) (f : D -> List D -> Option (D × D)) : Prop :=
  ∀ {n : D} {ds : List D} {n' d : D}, f n ds = some (n', d) -> ∀ (F H : Hp) (vn : V) (Ln : List Addr) (vs : List V) (Ms : List Addr) (Q : VK), Same F H -> Own W F H n vn Ln -> Owns W F H ds vs Ms -> (Ms ++ Ln).Nodup -> (∀ a ∈ Ms ++ Ln, F a = none) ->
    (∀ F' H' v' Ln' M', Same F F' -> Same F' H' -> (∀ a o, a ∉ Ln -> H a = some o -> H' a = some o) -> (∀ a o, F' a = some o -> F a = some o \/ H a = none) -> Own W F' H' n' vn Ln' -> Own W F' H' d v' M' -> (M' ++ Ln').Nodup ->
      (∀ a ∈ M' ++ Ln', F' a = none /\ (a ∈ Ln \/ a ∈ Ms \/ H a = none)) -> Q v' H') -> r vn vs H Q
theorem am_mop {r : V -> List V -> Hp -> VK -> Prop} {f : D -> List D -> Option (D × D)} (hf : Mop W r f) {e : Ent} {F H : Hp} {σ : St} {L : List Addr} {i : Nat} {st : List Pst} {n n' d d0 : D} {v0 vn : V} {vs : List V} {ds : List D} {Ms : List Addr} {Q : VK}
    (rl : Rel W e env F σ H L) (h0 : env[i]? = some (some d0)) (h1 : d0.at st = some n) (hs : σ[i]? = some (some v0)) (hp : VPath H v0 st vn) (hz : f n ds = some (n', d)) (os : Owns W F H ds vs Ms) (nM : Ms.Nodup) (kM : ∀ a ∈ Ms, a ∉ L /\ F a = none /\ (a ∈ e.L0 \/ e.H0 a = none))
    (c : ∀ v F' H' L' M, Rel W e (env.set i (some (d0.putAt st n'))) F' σ H' L' -> Own W F' H' d v M -> (M ++ L').Nodup -> (∀ a ∈ M, F' a = none /\ (a ∈ e.L0 \/ e.H0 a = none)) -> Q v H') : r vn vs H Q := by
  obtain ⟨v0', vn', Ln, Lr, e1, p2, o, nd, mem, put⟩ := rl.focus h0 h1
  rw [hs] at e1; cases e1
  cases hp.det p2
  rw [List.nodup_append] at nd
  obtain ⟨n1, n2, n3⟩ := nd
  refine hf hz F H vn Ln vs Ms Q rl.sF o os ?_ (fun a ha => ?_) fun F' H' v' Ln' M' s1 s2 fr nw on od nd' k' => ?_
  · rw [List.nodup_append]
    exact ⟨nM, n1, fun a ha b hb z => (kM a ha).1 ((mem a).mp (.inl (z ▸ hb)))⟩
  · rcases List.mem_append.mp ha with z | z
    · exact (kM a z).2.1
    · exact rl.dj a ((mem a).mp (.inl z))
  have org : ∀ a, (a ∈ Ln \/ a ∈ Ms \/ H a = none) -> a ∉ Lr /\ (a ∈ e.L0 \/ e.H0 a = none) := fun a h => by
    rcases h with z | z | z
    · exact ⟨fun y => n3 a z a y rfl, rl.ln a ((mem a).mp (.inl z))⟩
    · exact ⟨fun y => (kM a z).1 ((mem a).mp (.inr y)), (kM a z).2.2⟩
    · refine ⟨fun y => ?_, rl.h0 z⟩
      obtain ⟨o, ho⟩ := rl.slots.lives a ((mem a).mp (.inr y))
      rw [z] at ho; cases ho
  rw [List.nodup_append] at nd'
  obtain ⟨m1, m2, m3⟩ := nd'
  obtain ⟨L', r', inL⟩ := put F' H' n' Ln' s1 s2 fr (fun a o q => (nw a o q).elim .inl fun z => .inr (.inl (.inl z))) on (by
    rw [List.nodup_append]
    exact ⟨m2, n2, fun a ha b hb z => (org a (k' a (List.mem_append_right _ ha)).2).1 (z ▸ hb)⟩) (fun a ha => ⟨(k' a (List.mem_append_right _ ha)).1, .inr (org a (k' a (List.mem_append_right _ ha)).2).2⟩)
  refine c v' F' H' L' M' r' od ?_ fun a ha => ⟨(k' a (List.mem_append_left _ ha)).1, (org a (k' a (List.mem_append_left _ ha)).2).2⟩
  rw [List.nodup_append]
  refine ⟨m1, r'.nd, fun a ha b hb z => ?_⟩
  subst z
  rcases inL a hb with y | y
  · exact m3 a ha a y rfl
  · exact (org a (k' a (List.mem_append_left _ ha)).2).1 y
end
end Py
namespace Py
open PySem L2
section
variable {T : Tbl} {W : Wd T} {env : Py.Env} {d d0 d1 d2 : D} {P : List Nat} {E : WX} {A : AEnds}
theorem Owns.append {F H : Hp} : ∀ {xs ys : List D} {vs ws : List V} {L M : List Addr}, Owns W F H xs vs L -> Owns W F H ys ws M -> Owns W F H (xs ++ ys) (vs ++ ws) (L ++ M)
  | _, _, _, _, _, _, .nil, o => o
  | _, _, _, _, _, M, .cons (L := L1) (M := M1) h t, o => by
    have q := Owns.cons h (t.append o)
    rw [<- List.append_assoc] at q
    exact q
theorem Owns.one {F H : Hp} {x : D} {vs : List V} {L : List Addr} (h : Owns W F H [x] vs L) : ∃ v, vs = [v] /\ Own W F H x v L := by
  cases h with
  | cons a b => cases b; rw [List.append_nil]; exact ⟨_, rfl, a⟩
theorem Owns.two {F H : Hp} {x y : D} {vs : List V} {L : List Addr} (h : Owns W F H [x, y] vs L) : ∃ v w L1 L2, vs = [v, w] /\ Own W F H x v L1 /\ Own W F H y w L2 /\ L = L1 ++ L2 := by
  cases h with
  | cons a b =>
    obtain ⟨w, rfl, c⟩ := b.one
    exact ⟨_, _, _, _, rfl, a, c, rfl⟩
theorem own_upd {F H : Hp} {a : Addr} {o : HO} {L : List Addr} {v : V} (h : Own W F H d v L) (n : a ∉ L) : Own W F (upd H a o) d v L := h.frame (Same.refl _) fun b hb u hu => by
  rw [upd_ne (fun z => n (by rw [<- z]; exact hb))]; exact hu
theorem owns_upd {F H : Hp} {a : Addr} {o : HO} {L : List Addr} {ds : List D} {vs : List V} (h : Owns W F H ds vs L) (n : a ∉ L) : Owns W F (upd H a o) ds vs L := h.frame (Same.refl _) fun b hb u hu => by
  rw [upd_ne (fun z => n (by rw [<- z]; exact hb))]; exact hu
theorem same_upd {F H : Hp} {a : Addr} {o : HO} (s : Same F H) (n : F a = none) : Same F (upd H a o) := fun b u hb => by
  rw [upd_ne (fun z => by rw [z, n] at hb; cases hb)]; exact s _ _ hb
theorem mop_list {F H : Hp} {a : Addr} {L : List Addr} {Ms : List Addr} {ys : List D} {ws : List V} {o : HO} {M' L2 : List Addr} {v' : V} {Q : VK} (s : Same F H) (nd : (Ms ++ (a :: L)).Nodup) (kF : ∀ b ∈ Ms ++ (a :: L), F b = none)
    (hl : o = .lst ws) (hs : Owns W F H ys ws L2) (od : Own W F H d v' M') (n2 : (M' ++ L2).Nodup) (sub : ∀ b ∈ M' ++ L2, b ∈ L \/ b ∈ Ms)
    (q : ∀ F' H' v' Ln' M', Same F F' -> Same F' H' -> (∀ b o, b ∉ a :: L -> H b = some o -> H' b = some o) -> (∀ b o, F' b = some o -> F b = some o \/ H b = none) -> Own W F' H' (.olst ys) (.ref a) Ln' -> Own W F' H' d v' M' -> (M' ++ Ln').Nodup ->
      (∀ b ∈ M' ++ Ln', F' b = none /\ (b ∈ a :: L \/ b ∈ Ms \/ H b = none)) -> Q v' H') : Q v' (upd H a o) := by
  subst hl
  rw [List.nodup_append] at nd
  obtain ⟨n3, n4, n5⟩ := nd
  rw [List.nodup_cons] at n4
  have na : ∀ b ∈ M' ++ L2, b ≠ a := fun b hb z => by
    subst z
    rcases sub _ hb with y | y
    · exact n4.1 y
    · exact n5 _ y _ (List.mem_cons_self ..) rfl
  have Fa : F a = none := kF a (List.mem_append_right _ (List.mem_cons_self ..))
  refine q F (upd H a (.lst ws)) v' (a :: L2) M' (Same.refl _) (same_upd s Fa) (fun b u hb hu => ?_) (fun b u hu => .inl hu) (.olst upd_same (owns_upd hs fun z => na a (List.mem_append_right _ z) rfl)) (own_upd od fun z => na a (List.mem_append_left _ z) rfl) ?_ (fun b hb => ?_)
  · rw [upd_ne (fun z => hb (by rw [z]; exact List.mem_cons_self ..))]; exact hu
  · rw [List.nodup_append] at n2 ⊢
    refine ⟨n2.1, List.nodup_cons.mpr ⟨fun z => na a (List.mem_append_right _ z) rfl, n2.2.1⟩, fun b hb c hc => ?_⟩
    rcases List.mem_cons.mp hc with z | z
    · rw [z]; exact na b (List.mem_append_left _ hb)
    · exact n2.2.2 b hb c z
  · rcases List.mem_append.mp hb with z | z
    · have := sub b (List.mem_append_left _ z)
      refine ⟨kF b ?_, ?_⟩
      · rcases this with y | y
        · exact List.mem_append_right _ (List.mem_cons_of_mem _ y)
        · exact List.mem_append_left _ y
      · rcases this with y | y
        · exact .inl (List.mem_cons_of_mem _ y)
        · exact .inr (.inl y)
    · rcases List.mem_cons.mp z with z | z
      · subst z; exact ⟨Fa, .inl (List.mem_cons_self ..)⟩
      · have := sub b (List.mem_append_right _ z)
        refine ⟨kF b ?_, ?_⟩
        · rcases this with y | y
          · exact List.mem_append_right _ (List.mem_cons_of_mem _ y)
          · exact List.mem_append_left _ y
        · rcases this with y | y
          · exact .inl (List.mem_cons_of_mem _ y)
          · exact .inr (.inl y)
theorem nd_swap {L M : List Addr} (h : (M ++ L).Nodup) : (L ++ M).Nodup := by
  rw [List.nodup_append] at h ⊢
  exact ⟨h.2.1, h.1, fun a ha b hb z => h.2.2 b hb a ha z.symm⟩
theorem nd_tail {a : Addr} {L M : List Addr} (h : (M ++ (a :: L)).Nodup) : (M ++ L).Nodup := by
  rw [List.nodup_append] at h ⊢
  exact ⟨h.1, (List.nodup_cons.mp h.2.1).2, fun b hb c hc => h.2.2 b hb c (List.mem_cons_of_mem _ hc)⟩
def appendD : D -> List D -> Option (D × D)
  | .olst xs, [d] => if xs.length < 1000000 then some (.olst (xs ++ [d]), .non) else none
  | _, _ => none
theorem mop_append : Mop W rAppend appendD := by
  intro n ds n' d hf F H vn Ln vs Ms Q s o os nd kF q
  unfold appendD at hf
  split at hf
  · obtain ⟨hz, e⟩ := ite_some hf
    cases e
    obtain ⟨u, rfl, o2⟩ := os.one
    cases o with
    | sh y => cases y
    | @olst a xs vs L ha hs =>
      refine ⟨a, vs, u, rfl, rfl, ha, by rw [<- hs.length]; exact Nat.lt_of_lt_of_le hz (by decide), ?_⟩
      exact mop_list s nd kF rfl (hs.append (.cons o2 .nil)) (.sh .non) (by simpa using nd_swap (nd_tail nd)) (fun b hb => by simpa using hb) q
  · cases hf
theorem Shrs.reverse {F : Hp} : ∀ {ds : List D} {vs : List V}, Shrs W F ds vs -> Shrs W F ds.reverse vs.reverse
  | _, _, .nil => .nil
  | _, _, .cons h t => by rw [List.reverse_cons, List.reverse_cons]; exact t.reverse.append (.cons h .nil)
theorem Shrs.take {F : Hp} : ∀ {ds : List D} {vs : List V} (k : Nat), Shrs W F ds vs -> Shrs W F (ds.take k) (vs.take k)
  | _, _, 0, _ => .nil
  | _, _, k + 1, .nil => .nil
  | _, _, k + 1, .cons h t => .cons h (t.take k)
theorem Shrs.drop {F : Hp} : ∀ {ds : List D} {vs : List V} (k : Nat), Shrs W F ds vs -> Shrs W F (ds.drop k) (vs.drop k)
  | _, _, 0, h => h
  | _, _, k + 1, .nil => .nil
  | _, _, k + 1, .cons h t => t.drop k
abbrev rInsert : V -> List V -> Hp -> VK -> Prop := fun x vs H Q => ∃ (l : Addr) (xs : List V) (i : Int) (y : V), x = .ref l /\ vs = [.int i, y] /\ H l = some (.lst xs) /\ xs.length < sizeLine /\ 0 <= i /\ i < 2 ^ 63 /\
    Q .non (upd H l (.lst (xs.take i.toNat ++ [y] ++ xs.drop i.toNat)))
def insertD : D -> List D -> Option (D × D)
  | .olst xs, [.int i, d] => if xs.all isSh = true /\ xs.length < 1000000 /\ 0 <= i /\ i < 1000000 then some (.olst (xs.take i.toNat ++ [d] ++ xs.drop i.toNat), .non) else none
  | _, _ => none
theorem mop_insert : Mop W rInsert insertD := by
  intro n ds n' d hf F H vn Ln vs Ms Q s o os nd kF q
  unfold insertD at hf
  split at hf
  · obtain ⟨⟨hz, h1, h2, h3⟩, e⟩ := ite_some hf
    cases e
    obtain ⟨v1, v2, L1, L2, rfl, o1, o2, rfl⟩ := os.two
    cases o1.shr rfl
    cases o1.shNil rfl
    cases o with
    | sh y => cases y
    | @olst a _ vs L ha hs =>
      have sh := hs.shrs hz
      refine ⟨a, vs, _, _, rfl, rfl, ha, by rw [<- hs.length]; exact Nat.lt_of_lt_of_le h1 (by decide), h2, by omega, ?_⟩
      refine mop_list s nd kF rfl (((sh.take _).owns.append (.cons o2 .nil)).append (sh.drop _).owns) (.sh .non) ?_ (fun b hb => by simpa using Or.inr hb) q
      have := (List.nodup_append.mp nd).1
      simpa using this
  · cases hf
def RM.ofO : Option (D × Py.Env) -> RM
  | some (d, env) => .ok d env
  | none => .no
theorem RM.ofO_ok {o : Option (D × Py.Env)} (h : RM.ofO o ≠ .no) : ∃ d env, o = some (d, env) := by
  match o, h with
  | some (d, env), _ => exact ⟨d, env, rfl⟩
  | none, h => exact absurd rfl h
def xmBM (r : V -> List V -> Hp -> VK -> Prop) (f : D -> List D -> Option (D × D)) (hf : Mop W r f) (hl : ∀ {n ds z}, f n ds = some z -> ∃ xs, n = .olst xs) (p : XPl W) (as : XO W) : XM W where
  t _ := tBM W.K "list" r p.t as.t
  ev _ env := RM.ofO ((p.ev env).bind fun q => (as.ev env).bind fun ds => (f q.2 ds).bind fun z => (getS env p.root).map fun d0 => (z.2, env.set p.root (some (d0.putAt q.1 z.1))))
  snd := fun P E env hn e F σ H L Q hP r c _ => by
    obtain ⟨d, env', h⟩ := RM.ofO_ok hn
    rw [h] at c
    obtain ⟨⟨st, n⟩, e1, h⟩ := Option.bind_eq_some_iff.mp h
    obtain ⟨ds, e2, h⟩ := Option.bind_eq_some_iff.mp h
    obtain ⟨⟨n', d'⟩, e3, h⟩ := Option.bind_eq_some_iff.mp h
    obtain ⟨d0', e4, h⟩ := Option.map_eq_some_iff.mp h
    cases h
    obtain ⟨d0, h0, h1⟩ := p.at_ e1
    rw [getS_some e4] at h0
    cases h0
    obtain ⟨v0, _, _, _, hs, _⟩ := r.focus (getS_some e4) h1
    refine p.loc e1 e F σ H L v0 _ r hs fun v F1 H1 x1 p1 => ?_
    have r1 := r.ext x1
    refine ⟨?_, as.snd e2 e F1 σ H1 L _ r1 fun vs F2 H2 x2 ⟨M2, o2, nd2, k2⟩ => ?_⟩
    · obtain ⟨v0', vn, Ln, Lr, e5, p2, o, _⟩ := r1.focus (getS_some e4) h1
      rw [hs] at e5; cases e5
      cases p1.det p2
      obtain ⟨xs, rfl⟩ := hl e3
      cases o with
      | sh y => cases y
      | olst ha _ => exact .inl ⟨rfl, _, .of ha⟩
    · refine am_mop hf (r1.ext x2) (getS_some e4) h1 hs (p1.mono x2.h) e3 o2 nd2 (fun a ha => ⟨fun z => ?_, (k2 a ha).2, r1.h0 (k2 a ha).1⟩) fun v F' H' L' M r' o nd kk => c _ _ v F' H' L' M rfl r' o nd kk
      obtain ⟨w, hw⟩ := r1.slots.lives a z
      rw [(k2 a ha).1] at hw; cases hw
theorem lf_append {n : D} {ds : List D} {z : D × D} (h : appendD n ds = some z) : ∃ xs, n = .olst xs := by unfold appendD at h; split at h <;> first | exact ⟨_, rfl⟩ | cases h
theorem lf_insert {n : D} {ds : List D} {z : D × D} (h : insertD n ds = some z) : ∃ xs, n = .olst xs := by unfold insertD at h; split at h <;> first | exact ⟨_, rfl⟩ | cases h
def xmAppend (p : XPl W) (a : XP W) : XM W := xmBM rAppend appendD mop_append lf_append p (xoCons a (xoNil W))
def xmInsert (p : XPl W) (a b : XP W) : XM W := xmBM rInsert insertD mop_insert lf_insert p (xoCons a (xoCons b (xoNil W)))
end
end Py
namespace Py
open PySem L2
inductive RS where
  | nx (env : Py.Env) | rt (d : D) (env : Py.Env) | bk (env : Py.Env) | ct (env : Py.Env) | ex (x : Exn) (env : Py.Env) | no
def ends (r : RS) : AEnds where
  nx e := r = .nx e
  rt d e := r = .rt d e
  bk e := r = .bk e
  ct e := r = .ct e
  ex x e := r = .ex x e
section
variable {T : Tbl} {W : Wd T} {env : Py.Env} {d d0 d1 d2 : D} {P : List Nat} {E : WX} {A : AEnds}
structure XS {T : Tbl} (W : Wd T) where
  t : WX -> TS
  ev : List Nat -> Py.Env -> RS
  snd : ∀ P E env, ev P env ≠ .no -> AS W P E (t E) env (ends (ev P env))
def RS.then (r : RS) (f : Py.Env -> RS) : RS := match r with
  | .nx e => f e
  | r => r
def xsSeq (s u : XS W) : XS W where
  t E := tSeq (s.t E) (u.t E)
  ev P env := (s.ev P env).then fun e => u.ev P e
  snd := fun P E env hn => by
    have hs := s.snd P E env
    match h : s.ev P env, hn, hs with
    | .nx e1, hn, hs =>
      refine as_seq ((hs (by simp)).weaken (fun e h2 => ?_) (fun d e h2 => nomatch h2) (fun e h2 => nomatch h2) (fun e h2 => nomatch h2) fun x e h2 => nomatch h2)
      cases h2
      exact u.snd P E e1 hn
    | .rt d e1, hn, hs => exact as_seq ((hs (by simp)).weaken (fun e h2 => nomatch h2) (fun d e h2 => h2) (fun e h2 => nomatch h2) (fun e h2 => nomatch h2) fun x e h2 => nomatch h2)
    | .bk e1, hn, hs => exact as_seq ((hs (by simp)).weaken (fun e h2 => nomatch h2) (fun d e h2 => nomatch h2) (fun e h2 => h2) (fun e h2 => nomatch h2) fun x e h2 => nomatch h2)
    | .ct e1, hn, hs => exact as_seq ((hs (by simp)).weaken (fun e h2 => nomatch h2) (fun d e h2 => nomatch h2) (fun e h2 => nomatch h2) (fun e h2 => h2) fun x e h2 => nomatch h2)
    | .ex x e1, hn, hs => exact as_seq ((hs (by simp)).weaken (fun e h2 => nomatch h2) (fun d e h2 => nomatch h2) (fun e h2 => nomatch h2) (fun e h2 => nomatch h2) fun x e h2 => h2)
    | .no, hn, hs => exact absurd rfl hn
def xsNext {T : Tbl} (W : Wd T) : XS W := ⟨fun _ => tNext, fun _ env => .nx env, fun _ _ _ _ => as_next rfl⟩
def RM.thenS (r : RM) (f : D -> Py.Env -> RS) : RS := match r with
  | .ok d e => f d e
  | .exn x e => .ex x e
  | .no => .no
theorem AMr.run {t : TE} {r : RM} (h : AMr W P E t env r) (hn : r ≠ .no) {e : Ent} {F H : Hp} {σ : St} {L : List Addr} {Q : VK} {Dn : Ends} (hP : P = e.pins.map (·.1)) (rl : Rel W e env F σ H L) (s : Sat W e E A Dn) (hx : ∀ x e1, r = .exn x e1 -> A.ex x e1)
    (c : ∀ d env' v F' H' L' M, r = .ok d env' -> Rel W e env' F' σ H' L' -> Own W F' H' d v M -> (M ++ L').Nodup -> (∀ a ∈ M, F' a = none /\ (a ∈ e.L0 \/ e.H0 a = none)) -> Q v H') : t σ H Q :=
  h hn e F σ H L Q hP rl c fun x env' F' H' L' C dd hr r' ie => s.ex x env' F' σ H' L' C dd (hx _ _ hr) r' ie
def RS.ofO : Option Py.Env -> RS
  | some e => .nx e
  | none => .no
def xsAsg (i : Nat) (m : XM W) : XS W where
  t E := tAsg (m.t E) (gName i)
  ev P env := (m.ev P env).thenS fun d e => RS.ofO (setS P i d e)
  snd := fun P E env hn e F σ H L Dn hP r s => by
    have hm : m.ev P env ≠ .no := fun z => hn (by rw [z]; rfl)
    refine (m.snd P E env).run hm hP r s (fun x e1 h => by rw [h]; rfl) fun d env' v F' H' L' M h r' o nd kk => ?_
    rw [h] at hn s
    have hn : RS.ofO (setS P i d env') ≠ .no := hn
    cases h2 : setS P i d env' with
    | none => rw [h2] at hn; exact absurd rfl hn
    | some e2 =>
      obtain ⟨⟨h3, h4⟩, rfl⟩ := ite_some h2
      obtain ⟨L2, r2⟩ := r'.set (i := i) o nd kk h3 fun p hm z => h4 (by rw [hP]; exact List.mem_map.mpr ⟨p, hm, z⟩)
      exact s.nx _ _ _ _ _ (show RS.ofO (setS P i d env') = .nx _ by rw [h2]; rfl) r2
def xsExpr (m : XM W) : XS W where
  t E := tDrop (m.t E)
  ev P env := (m.ev P env).thenS fun _ e => .nx e
  snd := fun P E env hn e F σ H L Dn hP r s => by
    have hm : m.ev P env ≠ .no := fun z => hn (by rw [z]; rfl)
    refine (m.snd P E env).run hm hP r s (fun x e1 h => by rw [h]; rfl) fun d env' v F' H' L' M h r' o nd kk => ?_
    rw [h] at s
    exact s.nx _ _ _ _ _ rfl r'
def xsRet (m : XM W) : XS W where
  t E := tRet (m.t E)
  ev P env := (m.ev P env).thenS fun d e => .rt d e
  snd := fun P E env hn e F σ H L Dn hP r s => by
    have hm : m.ev P env ≠ .no := fun z => hn (by rw [z]; rfl)
    refine (m.snd P E env).run hm hP r s (fun x e1 h => by rw [h]; rfl) fun d env' v F' H' L' M h r' o nd kk => ?_
    rw [h] at s
    exact s.rt _ _ _ _ _ _ _ _ rfl r' o nd kk
def iteR (b : Option Bool) (s u : RS) : RS := match b with
  | some true => s
  | some false => u
  | none => .no
def xsIf (c : XT W) (s u : XS W) : XS W where
  t E := tIfS c.t (s.t E) (u.t E)
  ev P env := iteR (c.ev env) (s.ev P env) (u.ev P env)
  snd := fun P E env hn => by
    match h : c.ev env, hn with
    | some true, hn => exact as_if (c.snd h) (fun _ => s.snd P E env hn) fun z => nomatch z
    | some false, hn => exact as_if (c.snd h) (fun z => nomatch z) fun _ => u.snd P E env hn
    | none, hn => exact absurd rfl hn
def xsFrz (is : List Nat) (s : XS W) : XS W where
  t := s.t
  ev P env := s.ev P (is.foldl frzS env)
  snd := fun P E env hn e F σ H L Dn hP r h => by
    obtain ⟨F', L', r'⟩ := Rel.frzs is env F L r
    exact s.snd P E _ hn e F' σ H L' Dn hP r' h
def forL (f : D -> Py.Env -> RS) : List D -> Py.Env -> RS
  | [], env => .nx env
  | d :: ds, env => match f d env with
    | .nx e => forL f ds e
    | .ct e => forL f ds e
    | .bk e => .nx e
    | r => r
def xsFor (it : XI W) (g : XG W) (b : XS W) : XS W where
  t E := tFor it.t g.t (b.t E)
  ev P env := match it.evF env with
    | some ds => forL (fun d e => match g.ev P d e with | some e2 => b.ev P e2 | none => .no) ds env
    | none => .no
  snd := fun P E env hn => by
    match h : it.evF env, hn with
    | some ds, hn =>
      have hn : forL (fun d e => match g.ev P d e with | some e2 => b.ev P e2 | none => .no) ds env ≠ .no := hn
      show AS W P E _ env (ends (forL (fun d e => match g.ev P d e with | some e2 => b.ev P e2 | none => .no) ds env))
      generalize hr : forL (fun d e => match g.ev P d e with | some e2 => b.ev P e2 | none => .no) ds env = r at hn ⊢
      refine as_for (it.sF h) (fun i e => forL (fun d e => match g.ev P d e with | some e2 => b.ev P e2 | none => .no) (ds.drop i) e = r) (by rw [List.drop_zero]; exact hr) (fun i d e' hd hi => ?_) fun e' he => ?_
      · rw [List.drop_eq_getElem?_toList_append, hd] at hi
        have hi : forL (fun d e => match g.ev P d e with | some e2 => b.ev P e2 | none => .no) (d :: ds.drop (i + 1)) e' = r := hi
        unfold forL at hi
        cases h1 : g.ev P d e' with
        | none => rw [h1] at hi; exact absurd hi.symm hn
        | some e2 =>
          rw [h1] at hi
          intro e0 F σ H L v Q hP rl sh q
          refine g.snd h1 e0 F σ H L v Q hP rl sh fun env3 σ2 L2 z r3 => q env3 σ2 L2 ?_ r3
          subst z
          have hb := b.snd P E env3
          dsimp only at hi
          match h2 : b.ev P env3, hb, hi with
          | .nx e3, hb, hi => exact (hb (by simp)).weaken (fun e h => by cases h; exact hi) (fun d e h => nomatch h) (fun e h => nomatch h) (fun e h => nomatch h) fun x e h => nomatch h
          | .ct e3, hb, hi => exact (hb (by simp)).weaken (fun e h => nomatch h) (fun d e h => nomatch h) (fun e h => nomatch h) (fun e h => by cases h; exact hi) fun x e h => nomatch h
          | .bk e3, hb, hi => exact (hb (by simp)).weaken (fun e h => nomatch h) (fun d e h => nomatch h) (fun e h => by cases h; exact hi.symm) (fun e h => nomatch h) fun x e h => nomatch h
          | .rt d3 e3, hb, hi => exact (hb (by simp)).weaken (fun e h => nomatch h) (fun d e h => by cases h; exact hi.symm) (fun e h => nomatch h) (fun e h => nomatch h) fun x e h => nomatch h
          | .ex x3 e3, hb, hi => exact (hb (by simp)).weaken (fun e h => nomatch h) (fun d e h => nomatch h) (fun e h => nomatch h) (fun e h => nomatch h) fun x e h => by cases h; exact hi.symm
          | .no, hb, hi => exact absurd hi.symm hn
      · rw [List.drop_length] at he
        exact he.symm
    | none, hn => exact absurd rfl hn
def env0 (N : Nat) (args : List D) : Py.Env := args.map some ++ List.replicate (N - args.length) none
def bGet (b : Option Nat) (env : Py.Env) : Option (Option D) := match b with
  | none => some none
  | some i => (getS env i).map some
def runR (b : Option Nat) (r : RS) : Rz := match r with
  | .rt d env => match bGet b env with
    | some x => .ok d x
    | none => .no
  | .nx env => match bGet b env with
    | some x => .ok .non x
    | none => .no
  | .ex x env => match bGet b env with
    | some y => .exn x y
    | none => .no
  | _ => .no
def runFn (N : Nat) (s : XS W) (args : List D) (b : Option Nat) : Rz := runR b (s.ev b.toList (env0 N args))
theorem slots_startO {F H : Hp} : ∀ {ds : List D} {vs : List V} {L : List Addr} (k : Nat), Owns W F H ds vs L -> Slots W F H (ds.map some ++ List.replicate k none) (vs.map some ++ List.replicate k none) L
  | [], [], _, 0, .nil => .nil
  | [], [], _, k + 1, .nil => .no (slots_startO k .nil)
  | _ :: _, _ :: _, _, k, .cons h t => Slots.so h (slots_startO k t)
theorem fn_run {n : Nat} {N : List Str} {s : XS W} {b : Option Nat} (hb : ∀ i, b = some i -> i < n) {vs : List V} {H : Hp} {Q : VK} {E : XK} (hsp : spR W n (runFn N.length s) b vs H Q E) :
    s.t (fun c d _ H => E c d H) { nx := fun _ H' => Q .non H', rt := Q } (L2.start N vs) H := by
  obtain ⟨F, args, L0, sF, os, nd, kF, hl, hn, ok, exn⟩ := hsp
  have hlen : vs.length = args.length := os.length.symm
  obtain ⟨pins, hp1, hp2⟩ : ∃ pins : List (Nat × V), b.toList = pins.map (·.1) /\ ∀ p ∈ pins, vs[p.1]? = some p.2 := by
    cases b with
    | none => exact ⟨[], rfl, fun _ h => nomatch h⟩
    | some i =>
      have hi : i < vs.length := by have := hb i rfl; omega
      exact ⟨[(i, vs[i])], rfl, fun p h => by rw [List.mem_singleton.mp h]; exact List.getElem?_eq_getElem hi⟩
  have hr : Rel W ⟨F, H, L0, pins⟩ (env0 N.length args) F (L2.start N vs) H L0 := {
    sF := sF
    slots := by unfold L2.start env0; rw [hlen]; exact slots_startO _ os
    nd := nd
    dj := kF
    s0 := Same.refl _
    nw := fun _ _ h => .inl h
    fr := fun _ _ _ h => h
    ln := fun _ m => .inl m
    pin := fun p m => by
      have h := hp2 p m
      have hlt := (List.getElem?_eq_some_iff.mp h).1
      unfold L2.start
      rw [List.getElem?_append_left (by rw [List.length_map]; exact hlt), List.getElem?_map, h]; rfl }
  have hne : s.ev b.toList (env0 N.length args) ≠ .no := fun z => hn (by unfold runFn; rw [z]; rfl)
  have post : ∀ {env' : Py.Env} {F' : Hp} {σ' : St} {H' : Hp} {L' : List Addr}, Rel W ⟨F, H, L0, pins⟩ env' F' σ' H' L' -> Post F H L0 F' H' := fun r =>
    ⟨r.s0, r.sF, r.fr, r.nw⟩
  have bor : ∀ {env' : Py.Env} {F' : Hp} {σ' : St} {H' : Hp} {L' : List Addr} {x : Option D}, bGet b env' = some x -> Rel W ⟨F, H, L0, pins⟩ env' F' σ' H' L' -> ∃ Mb, bOwn W F' H' vs b x Mb /\ Mb.Nodup /\ ∀ a ∈ Mb, a ∈ L' := by
    intro env' F' σ' H' L' x hx r
    cases b with
    | none => exact ⟨[], by cases hx; rfl, .nil, fun _ h => nomatch h⟩
    | some i =>
      obtain ⟨d, e1, e2⟩ := Option.map_eq_some_iff.mp hx
      subst e2
      obtain ⟨v, Li, Lr, h1, o, _, nd', mem⟩ := r.slots.take r.nd (getS_some e1)
      obtain ⟨v', hm⟩ : ∃ v', (i, v') ∈ pins := by
        have : i ∈ pins.map (·.1) := by rw [<- hp1]; simp
        obtain ⟨⟨j, v'⟩, h2, h3⟩ := List.mem_map.mp this
        cases h3; exact ⟨v', h2⟩
      have h4 := r.pin _ hm
      rw [h1] at h4
      cases h4
      exact ⟨Li, ⟨_, hp2 _ hm, o⟩, (List.nodup_append.mp nd').1, fun a h => (mem a).mp (.inl h)⟩
  have run := s.snd b.toList (fun c d _ H => E c d H) (env0 N.length args) hne ⟨F, H, L0, pins⟩ F (L2.start N vs) H L0 { nx := fun _ H' => Q .non H', rt := Q } hp1 hr
  have hn' : runR b (s.ev b.toList (env0 N.length args)) ≠ .no := hn
  have ok' : ∀ d bd, runR b (s.ev b.toList (env0 N.length args)) = .ok d bd -> _ := ok
  have exn' : ∀ x bd, runR b (s.ev b.toList (env0 N.length args)) = .exn x bd -> _ := exn
  generalize s.ev b.toList (env0 N.length args) = res at run hn' ok' exn'
  refine run ⟨fun env' F' σ' H' L' a r => ?_, fun d env' F' σ' H' L' v M a r o nd2 kk => ?_, fun env' F' σ' H' L' a r => ?_, fun env' F' σ' H' L' a r => ?_, fun x env' F' σ' H' L' C dd a r ie => ?_⟩
  · cases a
    cases hbg : bGet b env' with
    | none => exact absurd (show runR b (.nx env') = .no by unfold runR; simp only [hbg]) hn'
    | some x =>
      obtain ⟨Mb, ob, nb, sb⟩ := bor hbg r
      exact ok' .non x (by unfold runR; simp only [hbg]) F' H' .non [] Mb (post r) (.sh .non) ob (by simpa using nb) fun a ha => ⟨r.dj a (sb a (by simpa using ha)), r.ln a (sb a (by simpa using ha))⟩
  · cases a
    cases hbg : bGet b env' with
    | none => exact absurd (show runR b (.rt d env') = .no by unfold runR; simp only [hbg]) hn'
    | some x =>
      obtain ⟨Mb, ob, nb, sb⟩ := bor hbg r
      rw [List.nodup_append] at nd2
      refine ok' d x (by unfold runR; simp only [hbg]) F' H' v M Mb (post r) o ob ?_ fun a ha => ?_
      · rw [List.nodup_append]
        exact ⟨nd2.1, nb, fun a ha c hc => nd2.2.2 a ha c (sb c hc)⟩
      · rcases List.mem_append.mp ha with z | z
        · exact kk a z
        · exact ⟨r.dj a (sb a z), r.ln a (sb a z)⟩
  · cases a; exact absurd rfl hn'
  · cases a; exact absurd rfl hn'
  · cases a
    cases hbg : bGet b env' with
    | none => exact absurd (show runR b (.ex x env') = .no by unfold runR; simp only [hbg]) hn'
    | some y =>
      obtain ⟨Mb, ob, nb, sb⟩ := bor hbg r
      exact exn' x y (by unfold runR; simp only [hbg]) F' H' C dd Mb (post r) ie ob nb fun a ha => ⟨r.dj a (sb a ha), r.ln a (sb a ha)⟩
end
end Py
namespace L2
open PySem PySem.SeqAt PySem.W PySem.Calls PyProof.Rows
section
variable {A : Around} {s : Shared}
end
section
variable {prog : Program} {w : World} {A : Around} {E : Value -> Shared -> Prop} {s : Shared}
end
section
variable {M : Model} {A : Around} {E : Value -> Shared -> Prop} {s : Shared}
end
section
variable {prog : Program} {w : World} {A : Around} {s : Shared}
end
section
variable {prog : Program} {w : World} {A : Around} {E : Value -> Shared -> Prop} {s : Shared} {β : Type} {vs : List Value} {bs : List β} {enc : β -> PyData} {R : Value -> β -> Prop}
end
end L2
namespace L2
open PySem PySem.Spec PyProof.Rows
theorem DpAll.len {K : PySem.W.Frag} {H : Hp} : ∀ {xs : List V} {ds : List PyData}, DpAll K H xs ds -> xs.length = ds.length
  | _, _, .nil => rfl
  | _, _, .cons _ t => by rw [List.length_cons, List.length_cons, DpAll.len t]
section
variable {X : Cx} {pins : List (Addr × Obj)} {σ : St} {H : Hp} {s : Shared}
theorem zip_snd {xs : List V} {ds : List PyData} (h : xs.length = ds.length) : (xs.zip ds).map Prod.snd = ds := List.map_snd_zip (by omega)
end
end L2
namespace Py
open PySem L2
section
variable {T : Tbl} {W : Wd T} {env : Py.Env} {β : Type} {enc : β -> D} {dat : β -> PyData}
end
end Py
namespace Py
open PySem L2
structure Blt (mg : Str -> Option Value) : Prop where
  len : mg "len" = none
  range : mg "range" = none
  abs : mg "abs" = none
  int : mg "int" = none
  bool : mg "bool" = none
  str : mg "str" = none
  list : mg "list" = none
  tuple : mg "tuple" = none
  isinstance : mg "isinstance" = none
  sorted : mg "sorted" = none
  enumerate : mg "enumerate" = none
  zip : mg "zip" = none
  sum : mg "sum" = none
  any : mg "any" = none
  all : mg "all" = none
  max : mg "max" = none
  min : mg "min" = none
  dict : mg "dict" = none
  set : mg "set" = none
  type : mg "type" = none
  iter : mg "iter" = none
  super : mg "super" = none
structure DefAt (K : PySem.W.Frag) (mg : Str -> Option Value) (x qual : Str) (st : Stmt) (dvs : List V) (kws : List (Str × V)) : Prop where
  ex : ∃ f fd, FunD K x qual (defArgs st) (defBody st) (defScope st) dvs kws f fd /\ mg x = some (.ref f)
def BindsP (x qual : Str) (st : Stmt) (ps : List Str) : Prop := ∀ (kV doc pm : Value) (an : Option Addr) (cdv ct : Value) (us : List Value), us.length = ps.length -> bindArgs (PySem.W.fnOf x qual (defArgs st) (defBody st) (defScope st) .none kV doc pm an cdv ct) ⟨us, []⟩ = pure (ps.zip us)
structure Df (P : Program) (w : World) (K : PySem.W.Frag) (mg : Str -> Option Value) (base : Heap) (CX : CXT) (k : Nat) (x : Str) (ps : List Str) (sp : Sp) : Prop where
  ex : ∃ f fd, FnOk P w K mg base CX k f fd ps sp /\ mg x = some (.ref f) /\ PySem.W.keepIn K (.ref f) = true /\ Binds K fd ps []
section
variable {P : Program} {w : World} {K : PySem.W.Frag} {mg : Str -> Option Value} {base : Heap}
theorem df_of {x qual : Str} {st : Stmt} {N ps : List Str} {k : Nat} {sp : Sp} (D : DefAt K mg x qual st [] []) (S : FnScope N ps (defScope st)) (bp : BindsP x qual st ps) (len : ∀ vs H Q E, sp vs H Q E -> vs.length = ps.length)
    (hbody : ∀ (f : Addr) (cdv : Value) (A : Around) (outer : List PySem.Env) (s : Shared) (H : Hp) (vs : List V) (Q : VK) (E : XK), Room k (A.deeper (PyProof.Rows.envOfC qual (defScope st) s.heap.objs.size f cdv)) -> sp vs H Q E ->
      ∃ t, PSs (cxOf (L2.CX P w) P w K mg base N qual (defScope st) f cdv A outer s H E) (defBody st) t /\ t { nx := fun _ H' => Q .non H', rt := Q } (L2.start N vs) H) : Df P w K mg base (L2.CX P w) (k + 1) x ps sp := by
  obtain ⟨f, fd, F, hm⟩ := D.ex
  refine ⟨f, fd, F.ok S len fun cdv A outer s H vs Q E hr h => ?_, hm, F.kp, F.bindsN bp⟩
  obtain ⟨t, q1, q2⟩ := hbody f cdv A outer s H vs Q E hr h
  exact ⟨t, q1, q2⟩
theorem lw_of {x qual : Str} {st : Stmt} {N ps : List Str} {k : Nat} {sp : Sp} {f : Addr} {fd : FuncData} (F : FunD K x qual (defArgs st) (defBody st) (defScope st) [] [] f fd) (S : FnScope N ps (defScope st)) (len : ∀ vs H Q E, sp vs H Q E -> vs.length = ps.length)
    (hbody : ∀ (f : Addr) (cdv : Value) (A : Around) (outer : List PySem.Env) (s : Shared) (H : Hp) (vs : List V) (Q : VK) (E : XK), Room k (A.deeper (PyProof.Rows.envOfC qual (defScope st) s.heap.objs.size f cdv)) -> sp vs H Q E ->
      ∃ t, PSs (cxOf CX0 P w K mg base N qual (defScope st) f cdv A outer s H E).nox (defBody st) t /\ t { nx := fun _ H' => Q .non H', rt := Q } (L2.start N vs) H) : FnOk P w K mg base CX0 (k + 1) f fd ps sp := by
  refine F.ok S len fun cdv A outer s H vs Q E hr h => ?_
  obtain ⟨t, q1, q2⟩ := hbody f cdv A outer s H vs Q E hr h
  exact ⟨t, q1.nox, q2⟩
theorem cx_no {P : Program} {w : World} {o : List PySem.Env} {H : Hp} {s s' : Shared} {e : Value} (h : L2.CX P w o H s E0 e s') : False := by
  obtain ⟨_, _, _, _, _, _, _, _, _, _, _, _, z⟩ := h
  exact z.elim
theorem passE0 {X : Cx} : Passes (L2.CX X.prog X.w) X E0 := fun _ _ _ _ _ _ _ h => by
  obtain ⟨_, _, _, _, _, _, _, _, _, _, _, _, z⟩ := h
  exact z.elim
theorem takesN {X : Cx} : Takes X (fun c d _ H => E0 c d H) := fun _ _ h => by
  obtain ⟨_, _, _, _, _, _, _, _, _, _, _, _, _, _, _, _, z⟩ := h
  exact z.elim
theorem px_call {X : Cx} {k : Nat} {x : Str} {ps : List Str} {sp : Sp} {p pos : Pos} {e : Expr} {es : List Expr} {t : TA} (D : Df X.prog X.w X.K X.mg X.base (L2.CX X.prog X.w) k x ps sp) (hr : Room k X.A) (hg : Gl X x)
    (ha : PA X (e :: es) t) (hdb : (x == ("__debug__" : Str)) = false := by decide) (he : starEach (e :: es) X.env = (false, eval e X.env) :: starEach es X.env := by rfl) (hpl : (backTo pos (starEach es X.env)).any (·.1) = false := by rfl) :
    PE X (.Call (.Name x p) (e :: es) [] pos) (tCall sp [] E0 t) := by
  obtain ⟨f, fd, F, hm, hk, hb⟩ := D.ex
  exact pe_call F hr hg hm hk hb .nil passE0 ha hdb he hpl
def gK {α : Type} (n m : Nat) (us ws : List α) : List α := if us.length = n /\ ws.length = m then us ++ ws else []
structure DfK (P : Program) (w : World) (K : PySem.W.Frag) (mg : Str -> Option Value) (base : Heap) (CX : CXT) (k : Nat) (x : Str) (ps ks : List Str) (n : Nat) (sp : Sp) : Prop where
  ex : ∃ f fd, FnOk P w K mg base CX k f fd ps sp /\ mg x = some (.ref f) /\ PySem.W.keepIn K (.ref f) = true /\ KBinds K fd ps ks (gK n ks.length) (gK n ks.length)
end
section
variable {X : Cx} {T : Tbl} {W : Wd T}
theorem call_lenA : CallR X (.builtin "len") (rLenA X.K) := CallR.or call_lenU call_lenD
theorem pe_imp {e : Expr} {t : TE} {c : Prop} (hc : c) (h : PE X e t) : PE X e (fun σ H Q => c -> t σ H Q) := ⟨fun pins s σ H Q I q => h.run pins s σ H Q I (q hc)⟩
theorem px_isi {a : Expr} {ta : TE} {c : Str} {n : String} {p1 p2 pos : Pos} (hm : X.mg "isinstance" = none) (hmc : X.mg c = none) (ha : PE X a ta) (hk : n ∈ ["int", "bool", "str", "list", "tuple", "dict"] := by decide) (hg : Gl X "isinstance" := by rfl) (hgc : Gl X c := by rfl)
    (hb : bootBuiltins c = some (.type n) := by decide +kernel) (hn : c ≠ "__name__" := by decide) (hd : (c == ("__debug__" : Str)) = false := by decide)
    (hs : starEach [a, .Name c p2] X.env = (false, eval a X.env) :: starEach [.Name c p2] X.env := by rfl) (hs2 : starEach [.Name c p2] X.env = (false, eval (.Name c p2) X.env) :: starEach [] X.env := by rfl)
    (hpl : (backTo pos (starEach [.Name c p2] X.env)).any (·.1) = false := by rfl) :
    PE X (.Call (.Name "isinstance" p1) [a, .Name c p2] [] pos) (fun σ H Q => clsOk W (false, n) -> tCB (rIsi X.K) (tCons ta (tCons (tC (clsV W (false, n))) tNil)) σ H Q) :=
  pe_imp hk (pe_callB call_isi hg hm (by decide +kernel) (pa_cons ha (pa_cons (pe_bltn hgc hc' hb rfl hn hd) pa_nil hs2) hs) (he := hs) (hpl := hpl))
where hc' := hmc
end
theorem df_no {P : Program} {w : World} {K : PySem.W.Frag} {mg : Str -> Option Value} {base : Heap} {x qual : Str} {st : Stmt} {ps : List Str} {k : Nat} (D : DefAt K mg x qual st [] []) (bp : BindsP x qual st ps) {sp : Sp} (h : ∀ vs H Q E, ¬ sp vs H Q E) : Df P w K mg base (L2.CX P w) k x ps sp := by
  obtain ⟨f, fd, F, hm⟩ := D.ex
  exact ⟨f, fd, ⟨fun vs H Q E z => absurd z (h vs H Q E), fun A outer s H args us vs Q E _ _ _ _ z => absurd z (h vs H Q E)⟩, hm, F.kp, F.bindsN bp⟩
theorem spR_no {T : Tbl} {W : Wd T} {n : Nat} {b : Option Nat} : ∀ vs H Q E, ¬ spR W n (fun _ _ => .no) b vs H Q E := fun vs H Q E ⟨_, _, _, _, _, _, _, _, h, _⟩ => h rfl
def semT (tbl : String -> Option (Sem -> List D -> Option Nat -> Rz)) : Nat -> Sem
  | 0 => fun _ _ _ => .no
  | k + 1 => fun f args b => match tbl f with
    | some g => g (semT tbl k) args b
    | none => .no
def spL (K : PySem.W.Frag) : Sp := fun vs H Q _ => ∃ (a : Addr) (ns : List Int), vs = [.ref a] /\ SqL K H a (ns.map V.int) /\ ns.length <= 63 /\ ∀ H', Q (.bl true) H'
theorem spL_in {K : PySem.W.Frag} {H : Hp} {a : Addr} {ns : List Int} (hl : ns.length <= 63) (hS : SqL K H a (ns.map V.int)) : spL K [.ref a] H (fun v _ => v = .bl true) fun _ _ _ => False := ⟨a, ns, rfl, hS, hl, fun _ => rfl⟩
theorem spL_spR {T : Tbl} {W : Wd T} {φ : List D -> Option Nat -> Rz} (h : ∀ ns : List Int, ns.length <= 63 -> φ [.scr ns] none = .ok (.bl true) none) : ∀ vs H Q E, spL W.K vs H Q E -> spR W 1 φ none vs H Q E := by
  rintro vs H Q E ⟨a, ns, rfl, hS, hl, q⟩
  refine callF (Same.refl H) (.cons (.scr hS) .nil) rfl (h ns hl) fun v F' H' x ⟨L, o, _, _⟩ => ?_
  cases o.shr rfl
  exact q H'
section
variable {T : Tbl} {W : Wd T}
end
end Py
namespace Py
open PySem L2
section
variable {T : Tbl} {W : Wd T}
structure Mt (P : Program) (w : World) (K : PySem.W.Frag) (mg : Str -> Option Value) (base : Heap) {T : Tbl} (W : Wd T) (k : Nat) (m : String) (n : Nat) (φ : Sem) (b : Option Nat) : Prop where
  ex : ∀ c nm, W.has c -> T.res c m = some nm -> ∃ g fd ps, Meth K (W.cA c) (so m) g /\ FnOk P w K mg base (L2.CX P w) k g fd ps (spR W n (φ nm) b) /\ Binds K fd ps []
theorem shr_ins {F : Hp} {c : String} {ns : List String} {xs : List D} {v : V} (h : Shr W F (.ins c ns xs) v) : ∃ a dx vs, v = .ref a /\ F a = some (.ins (W.cA c) dx ((ns.map so).zip vs)) /\ W.has c := by
  cases h with
  | ins ha hc _ _ => exact ⟨_, _, _, rfl, ha, hc⟩
def mkR (r : Rz) : Option D := match r with
  | .ok .non (some d) => some d
  | _ => none
def mk1 (φ : Sem) (c ini : String) (n : Nat) (ds : List D) : Option D := if ds.length + 1 = n then mkR (φ ini (.oins c [] [] :: ds) (some 0)) else none
theorem mk1_ok {φ : Sem} {c ini : String} {n : Nat} {ds : List D} {d : D} (h : mk1 φ c ini n ds = some d) : (D.oins c [] [] :: ds).length = n /\ φ ini (.oins c [] [] :: ds) (some 0) = .ok .non (some d) := by
  obtain ⟨h1, h2⟩ : ds.length + 1 = n /\ mkR (φ ini (.oins c [] [] :: ds) (some 0)) = some d := by
    unfold mk1 at h
    split at h
    · exact ⟨by assumption, h⟩
    · cases h
  refine ⟨h1, ?_⟩
  unfold mkR at h2
  split at h2
  · cases h2; assumption
  · cases h2
theorem makeF {n : Nat} {φ : Sem} {c ini : String} {F H : Hp} {vs : List V} {ds : List D} {d : D} {Q : VK} {E : XK} (s : Same F H) (h : Shrs W F ds vs) (hc : W.has c) (hφ : mk1 φ c ini n ds = some d)
    (q : ∀ v F' H', Ext F H F' H' -> rO W d F' H' H v -> Q v H') (x dx : Addr) (hx : H x = none) (hd : H dx = none) (ne : dx ≠ x) :
    spR W n (φ ini) (some 0) (.ref x :: vs) (upd (upd H dx (.own x)) x (.ins (W.cA c) dx [])) (fun v H2 => v = .non /\ Q (.ref x) H2) E := by
  obtain ⟨hl, hφ⟩ := mk1_ok hφ
  have hs : Same H (upd (upd H dx (.own x)) x (.ins (W.cA c) dx [])) := (same_new hd).trans (same_new (by rw [upd_ne ne.symm]; exact hx))
  refine ⟨F, .oins c [] [] :: ds, [x] ++ [], s.trans hs, .cons (.oins (vs := []) (by rw [upd_same]; rfl) hc rfl .nil) h.owns, by simp, fun a m => ?_, hl, ?_, fun d' bd e F' H' v M Mb p o ob nd k => ?_, fun x' bd e => ?_⟩
  · obtain rfl : a = x := by simpa using m
    exact s.free hx
  · rw [hφ]; exact fun z => nomatch z
  · rw [hφ] at e; cases e
    have hv : v = .non := by cases o with | sh y => cases y; rfl
    have hM : M = [] := o.shNil rfl
    subst hM
    obtain ⟨w, hw, ow⟩ := ob
    cases hw
    refine ⟨hv, q _ F' H' ⟨p.f, p.s, fun a o ha => ?_, fun a o ha => ?_⟩ ⟨Mb, ow, by simpa using nd, fun a m => ⟨?_, (k a (by simpa using m)).1⟩⟩⟩
    · refine p.h a o (fun z => ?_) (hs _ _ ha)
      obtain rfl : a = x := by simpa using z
      rw [hx] at ha; cases ha
    · rcases p.n a o ha with z | z | z
      · exact .inl z
      · exact .inr (hs.free z)
      · obtain rfl : a = x := by simpa using z
        exact .inr hx
    · rcases (k a (by simpa using m)).2 with z | z
      · obtain rfl : a = x := by simpa using z
        exact hx
      · exact hs.free z
  · rw [hφ] at e; cases e
theorem makeV {n : Nat} {φ : Sem} {c ini : String} {F H : Hp} {vs : List V} {ds : List D} {d : D} {Q : VK} {E : XK} (s : Same F H) (h : Shrs W H ds vs) (hc : W.has c) (hφ : mk1 φ c ini n ds = some d)
    (q : ∀ v H', Ext F H F H' -> Shr W H' (fz d) v -> Q v H') (x dx : Addr) (hx : H x = none) (hd : H dx = none) (ne : dx ≠ x) :
    spR W n (φ ini) (some 0) (.ref x :: vs) (upd (upd H dx (.own x)) x (.ins (W.cA c) dx [])) (fun v H2 => v = .non /\ Q (.ref x) H2) E :=
  makeF (Same.refl H) h hc hφ (fun v F' H' x ⟨L, o, _, _⟩ => q v H' ⟨Same.refl _, s.trans (x.f.trans x.s), x.h, fun _ _ z => .inl z⟩ (o.view x.s fun _ _ _ z => z)) x dx hx hd ne
def makeE (φ : Sem) (c ini : String) (n : Nat) (dds : List D) (f v : Option (List D)) : Option (Kd × D) := match f with
  | some ds => (mk1 φ c ini n (ds ++ dds)).map (Prod.mk .fr)
  | none => match v with
    | some ds => (mk1 φ c ini n (ds ++ dds)).map fun d => (.vw, fz d)
    | none => none
def xMake (φ : Sem) (c ini : String) (n : Nat) (as : XA W) (dds : List D) (dvs : List V) (hd : ∀ F, Shrs W F dds dvs) : XP W where
  t := fun σ H Q => W.has c -> tMake (W.cA c) (spR W n (φ ini) (some 0)) dvs E0 as.t σ H Q
  ev env := makeE φ c ini n dds (as.evF env) (as.evV env)
  snd := fun {env k d} e e' F σ H L Q r q hc => by
    unfold makeE at e
    split at e
    · rename_i ds e1
      obtain ⟨d2, h, e⟩ := Option.map_eq_some_iff.mp e
      cases e
      exact as.sF e1 e' F σ H L _ r fun vs F1 H1 x1 y1 x dx hx hdx ne => makeF x1.s (y1.append (hd F1)) hc h (fun v F2 H2 x2 y2 => q v F2 H2 (x1.trans x2) (rO_back x1.h y2)) x dx hx hdx ne
    · split at e
      · rename_i ds e2
        obtain ⟨d2, h, e⟩ := Option.map_eq_some_iff.mp e
        cases e
        exact as.sV e2 e' F σ H L _ r fun vs F1 H1 x1 y1 x dx hx hdx ne => makeV x1.s (Shrs.append y1 (hd H1)) hc h (fun v H2 x2 y2 => q v F1 H2 (x1.trans x2) y2) x dx hx hdx ne
      · cases e
structure MkAt (P : Program) (w : World) (K : PySem.W.Frag) (mg : Str -> Option Value) (base : Heap) (k : Nat) (x : Str) (C : Addr) (n : Nat) (sp : Sp) : Prop where
  ex : ∃ f fd ps, Mk K C f /\ FnOk P w K mg base (L2.CX P w) k f fd ps sp /\ mg x = some (.ref C) /\ Binds K fd ps [] /\ ps.length = n
theorem px_make {X : Cx} {k n : Nat} {x : Str} {c : String} {sp : Sp} {e : Expr} {es : List Expr} {p pos : Pos} {t : TA} (M : MkAt X.prog X.w X.K X.mg X.base k x (W.cA c) n sp) (hc : W.has c) (hr : Room (k + 1) X.A) (hg : Gl X x)
    (ha : PA X (e :: es) t) (hdb : (x == ("__debug__" : Str)) = false := by decide) (he : starEach (e :: es) X.env = (false, eval e X.env) :: starEach es X.env := by rfl) (hpl : (backTo pos (starEach es X.env)).any (·.1) = false := by rfl) :
    PE X (.Call (.Name x p) (e :: es) [] pos) (fun σ H Q => W.has c -> tMake (W.cA c) sp [] E0 t σ H Q) := by
  obtain ⟨f, fd, ps, M, F, hm, hb, _⟩ := M.ex
  exact pe_imp hc (pe_make M F hr hg hm hb .nil passE0 ha hdb he hpl)
def setF (f : String) (d : D) : List String -> List D -> List String × List D
  | n :: ns, x :: xs => if n = f then (n :: ns, d :: xs) else ((n :: (setF f d ns xs).1), x :: (setF f d ns xs).2)
  | _, _ => ([f], [d])
def setFD (T : Tbl) (f : String) (n : D) (ds : List D) : Option (D × D) := match n, ds with
  | .oins c ns xs, [d] => if T.fOk c f = true /\ ns.length < 1000 then some (.oins c (setF f d ns xs).1 (setF f d ns xs).2, .non) else none
  | _, _ => none
def rSetF {T : Tbl} (W : Wd T) (f : Str) : V -> List V -> Hp -> VK -> Prop := fun x ys H Q => ∃ a C dx fs y, x = .ref a /\ ys = [y] /\ H a = some (.ins C dx fs) /\ Cls W.K C /\ NoAttr W.K C f /\ fs.length < 1000 /\ Q .non (upd H a (.ins C dx (putF f y fs)))
theorem mop_at {F H : Hp} {a : Addr} {L : List Addr} {Ms : List Addr} {n' d : D} {o : HO} {M' L2 : List Addr} {v' : V} {Q : VK} (s : Same F H) (nd : (Ms ++ (a :: L)).Nodup) (kF : ∀ b ∈ Ms ++ (a :: L), F b = none)
    (hn : a ∉ L2 -> Own W F (upd H a o) n' (.ref a) (a :: L2)) (od : Own W F H d v' M') (n2 : (M' ++ L2).Nodup) (sub : ∀ b ∈ M' ++ L2, b ∈ L \/ b ∈ Ms)
    (q : ∀ F' H' v' Ln' M', Same F F' -> Same F' H' -> (∀ b o, b ∉ a :: L -> H b = some o -> H' b = some o) -> (∀ b o, F' b = some o -> F b = some o \/ H b = none) -> Own W F' H' n' (.ref a) Ln' -> Own W F' H' d v' M' -> (M' ++ Ln').Nodup ->
      (∀ b ∈ M' ++ Ln', F' b = none /\ (b ∈ a :: L \/ b ∈ Ms \/ H b = none)) -> Q v' H') : Q v' (upd H a o) := by
  rw [List.nodup_append] at nd
  obtain ⟨n3, n4, n5⟩ := nd
  rw [List.nodup_cons] at n4
  have na : ∀ b ∈ M' ++ L2, b ≠ a := fun b hb z => by
    subst z
    rcases sub _ hb with y | y
    · exact n4.1 y
    · exact n5 _ y _ (List.mem_cons_self ..) rfl
  have Fa : F a = none := kF a (List.mem_append_right _ (List.mem_cons_self ..))
  have nL : a ∉ L2 := fun z => na a (List.mem_append_right _ z) rfl
  refine q F (upd H a o) v' (a :: L2) M' (Same.refl _) (same_upd s Fa) (fun b u hb hu => ?_) (fun b u hu => .inl hu) (hn nL) (own_upd od fun z => na a (List.mem_append_left _ z) rfl) ?_ (fun b hb => ?_)
  · rw [upd_ne (fun z => hb (by rw [z]; exact List.mem_cons_self ..))]; exact hu
  · rw [List.nodup_append] at n2 ⊢
    refine ⟨n2.1, List.nodup_cons.mpr ⟨fun z => na a (List.mem_append_right _ z) rfl, n2.2.1⟩, fun b hb c hc => ?_⟩
    rcases List.mem_cons.mp hc with z | z
    · rw [z]; exact na b (List.mem_append_left _ hb)
    · exact n2.2.2 b hb c z
  · rcases List.mem_append.mp hb with z | z
    · have := sub b (List.mem_append_left _ z)
      refine ⟨kF b ?_, ?_⟩
      · rcases this with y | y
        · exact List.mem_append_right _ (List.mem_cons_of_mem _ y)
        · exact List.mem_append_left _ y
      · rcases this with y | y
        · exact .inl (List.mem_cons_of_mem _ y)
        · exact .inr (.inl y)
    · rcases List.mem_cons.mp z with z | z
      · subst z; exact ⟨Fa, .inl (List.mem_cons_self ..)⟩
      · have := sub b (List.mem_append_right _ z)
        refine ⟨kF b ?_, ?_⟩
        · rcases this with y | y
          · exact List.mem_append_right _ (List.mem_cons_of_mem _ y)
          · exact List.mem_append_left _ y
        · rcases this with y | y
          · exact .inl (List.mem_cons_of_mem _ y)
          · exact .inr (.inl y)
theorem setF_owns {F H : Hp} {f : String} {d : D} {y : V} {M : List Addr} (o : Own W F H d y M) : ∀ {ns : List String} {xs : List D} {vs : List V} {L : List Addr}, Owns W F H xs vs L -> ns.length = vs.length -> (M ++ L).Nodup ->
    ∃ vs' L', putF (so f) y ((ns.map so).zip vs) = (((setF f d ns xs).1).map so).zip vs' /\ (setF f d ns xs).1.length = vs'.length /\ Owns W F H (setF f d ns xs).2 vs' L' /\ (∀ a ∈ L', a ∈ L \/ a ∈ M) /\ L'.Nodup
  | [], [], [], _, .nil, _, nd => ⟨[y], M ++ [], rfl, rfl, .cons o .nil, fun a m => .inr (by simpa using m), by simpa using nd⟩
  | n :: ns, x :: xs, v :: vs, _, .cons (L := L1) (M := L2) h t, hl, nd => by
    rw [List.nodup_append] at nd
    obtain ⟨n1, n2, n3⟩ := nd
    rw [List.nodup_append] at n2
    obtain ⟨p1, p2, p3⟩ := n2
    by_cases e : n = f
    · refine ⟨y :: vs, M ++ L2, ?_, ?_, ?_, fun a m => ?_, ?_⟩
      · subst e
        show (if so n = so n then (so n, y) :: (ns.map so).zip vs else _) = ((if n = n then (n :: ns, d :: xs) else ((n :: (setF n d ns xs).1), x :: (setF n d ns xs).2)).1.map so).zip (y :: vs)
        rw [if_pos rfl, if_pos rfl]; rfl
      · show ((if n = f then (n :: ns, d :: xs) else ((n :: (setF f d ns xs).1), x :: (setF f d ns xs).2)).1).length = _
        rw [if_pos e]; simpa using hl
      · show Owns W F H ((if n = f then (n :: ns, d :: xs) else ((n :: (setF f d ns xs).1), x :: (setF f d ns xs).2)).2) _ _
        rw [if_pos e]; exact .cons o t
      · rcases List.mem_append.mp m with m | m
        · exact .inr m
        · exact .inl (List.mem_append_right _ m)
      · rw [List.nodup_append]
        exact ⟨n1, p2, fun a ha b hb => n3 a ha b (List.mem_append_right _ hb)⟩
    · obtain ⟨vs', L', e1, e2, e3, e4, e5⟩ := setF_owns (f := f) o t (ns := ns) (by simpa using hl) (by
        rw [List.nodup_append]
        exact ⟨n1, p2, fun a ha b hb => n3 a ha b (List.mem_append_right _ hb)⟩)
      refine ⟨v :: vs', L1 ++ L', ?_, ?_, ?_, fun a m => ?_, ?_⟩
      · show (if so n = so f then (so n, y) :: (ns.map so).zip vs else (so n, v) :: putF (so f) y ((ns.map so).zip vs)) = ((if n = f then (n :: ns, d :: xs) else ((n :: (setF f d ns xs).1), x :: (setF f d ns xs).2)).1.map so).zip (v :: vs')
        rw [if_neg (fun z => e (so_inj z)), if_neg e, e1]; rfl
      · show ((if n = f then (n :: ns, d :: xs) else ((n :: (setF f d ns xs).1), x :: (setF f d ns xs).2)).1).length = _
        rw [if_neg e]; simpa using e2
      · show Owns W F H ((if n = f then (n :: ns, d :: xs) else ((n :: (setF f d ns xs).1), x :: (setF f d ns xs).2)).2) _ _
        rw [if_neg e]; exact .cons h e3
      · rcases List.mem_append.mp m with m | m
        · exact .inl (List.mem_append_left _ m)
        · exact (e4 a m).imp (List.mem_append_right _) id
      · rw [List.nodup_append]
        refine ⟨p1, e5, fun a ha b hb z => ?_⟩
        subst z
        rcases e4 a hb with q | q
        · exact p3 a ha a q rfl
        · exact n3 a q a (List.mem_append_left _ ha) rfl
  | [], _ :: _, _, _, .cons _ _, hl, _ => by simp at hl
  | _ :: _, [], _, _, .nil, hl, _ => by simp at hl
theorem mop_setF {f : String} : Mop W (rSetF W (so f)) (setFD T f) := by
  intro n ds n' d hf F H vn Ln vs Ms Q s o os nd kF q
  unfold setFD at hf
  split at hf
  · rename_i c ns xs d0
    obtain ⟨⟨hf1, hf2⟩, e⟩ := ite_some hf
    cases e
    obtain ⟨u, rfl, o2⟩ := os.one
    cases o with
    | sh y => cases y
    | @oins a c dx ns xs vs L ha hc hl hs =>
      obtain ⟨vs', L', e1, e2, e3, e4, e5⟩ := setF_owns (f := f) o2 hs hl (nd_tail nd)
      refine ⟨a, _, dx, _, u, rfl, rfl, ha, W.cl c hc, W.na c f hc hf1, by simp; omega, ?_⟩
      refine mop_at (L2 := L') (M' := []) (d := .non) s nd kF (fun na => .oins (by rw [upd_same, e1]) hc e2 (owns_upd e3 na)) (.sh .non) (by simpa using e5) (fun b hb => e4 b (by simpa using hb)) q
  · cases hf
def fldK (T : Tbl) {W : Wd T} (p : XPl W) (f : String) (d : D) (e : Py.Env) : RS := RS.ofO ((p.ev e).bind fun q => (setFD T f q.2 [d]).bind fun z => (getS e p.root).map fun d0 => e.set p.root (some (d0.putAt q.1 z.1)))
def xsFld (p : XPl W) (f : String) (m : XM W) : XS W where
  t E := sFld W.K p.t (m.t E) (so f)
  ev P env := (m.ev P env).thenS (fldK T p f)
  snd := fun P E env hn e F σ H L Dn hP r s => by
    have hm : m.ev P env ≠ .no := fun z => hn (by rw [z]; rfl)
    refine (m.snd P E env).run hm hP r s (fun x e1 h => by rw [h]; rfl) fun d env' v F' H' L' M h r' o nd kk => ?_
    rw [h] at hn s
    have hn : fldK T p f d env' ≠ .no := hn
    have s : Sat W e E (ends (fldK T p f d env')) Dn := s
    unfold fldK at hn s
    cases h2 : ((p.ev env').bind fun q => (setFD T f q.2 [d]).bind fun z => (getS env' p.root).map fun d0 => env'.set p.root (some (d0.putAt q.1 z.1))) with
    | none => rw [h2] at hn; exact absurd rfl hn
    | some e2 =>
      rw [h2] at s
      obtain ⟨⟨st, n⟩, e1, h3⟩ := Option.bind_eq_some_iff.mp h2
      obtain ⟨⟨n', d'⟩, e3, h4⟩ := Option.bind_eq_some_iff.mp h3
      obtain ⟨d0', e4, h5⟩ := Option.map_eq_some_iff.mp h4
      subst h5
      obtain ⟨d0, h0, h1⟩ := p.at_ e1
      rw [getS_some e4] at h0
      cases h0
      obtain ⟨v0, _, _, _, hs, _⟩ := r'.focus (getS_some e4) h1
      refine p.loc e1 e F' σ H' L' v0 _ r' hs fun vn F1 H1 x1 p1 => ?_
      rw [List.nodup_append] at nd
      obtain ⟨nd1, nd2, nd3⟩ := nd
      have go : rSetF W (so f) vn [v] H1 (fun _ H => Dn.nx σ H) := by
        refine am_mop mop_setF (r'.ext x1) (getS_some e4) h1 hs p1 e3 (Ms := M ++ []) (.cons (o.frame x1.f fun a _ o q => x1.h _ _ q) .nil) (by simpa using nd1) (fun a ha => ?_) fun v2 F2 H2 L2 M2 r2 o2 n2 k2 => s.nx _ _ _ _ _ rfl r2
        have ha : a ∈ M := by simpa using ha
        refine ⟨fun z => nd3 a ha a z rfl, ?_, (kk a ha).2⟩
        obtain ⟨u, hu⟩ := o.lives a ha
        cases z : F1 a with
        | none => rfl
        | some w =>
          rcases x1.n a w z with y | y
          · rw [(kk a ha).1] at y; cases y
          · rw [hu] at y; cases y
      obtain ⟨a, C, dx, fs, y, ex, ey, ha, c1, c2, c3, q⟩ := go
      cases ey
      exact ⟨a, C, dx, fs, ex, ha, c1, c2, c3, q⟩
structure MethAt (K : PySem.W.Frag) (C : Addr) (m : String) (x qual : Str) (st : Stmt) (dvs : List V) (kws : List (Str × V)) : Prop where
  ex : ∃ g fd, FunD K x qual (defArgs st) (defBody st) (defScope st) dvs kws g fd /\ Meth K C (so m) g
structure MdOk (P : Program) (w : World) (K : PySem.W.Frag) (mg : Str -> Option Value) (base : Heap) (k : Nat) (C : Addr) (m : String) (n : Nat) (sp : Sp) : Prop where
  ex : ∃ g fd ps, Meth K C (so m) g /\ FnOk P w K mg base (L2.CX P w) k g fd ps sp /\ Binds K fd ps [] /\ ps.length = n
section
variable {P : Program} {w : World} {K : PySem.W.Frag} {mg : Str -> Option Value} {base : Heap}
theorem md_of {C : Addr} {m : String} {x qual : Str} {st : Stmt} {N ps : List Str} {n k : Nat} {sp : Sp} (D : MethAt K C m x qual st [] []) (S : FnScope N ps (defScope st)) (bp : BindsP x qual st ps) (hn : ps.length = n) (len : ∀ vs H Q E, sp vs H Q E -> vs.length = ps.length)
    (hbody : ∀ (f : Addr) (cdv : Value) (A : Around) (outer : List PySem.Env) (s : Shared) (H : Hp) (vs : List V) (Q : VK) (E : XK), Room k (A.deeper (PyProof.Rows.envOfC qual (defScope st) s.heap.objs.size f cdv)) -> sp vs H Q E ->
      ∃ t, PSs (cxOf (L2.CX P w) P w K mg base N qual (defScope st) f cdv A outer s H E) (defBody st) t /\ t { nx := fun _ H' => Q .non H', rt := Q } (L2.start N vs) H) : MdOk P w K mg base (k + 1) C m n sp := by
  obtain ⟨f, fd, F, hm⟩ := D.ex
  refine ⟨f, fd, ps, hm, F.ok S len fun cdv A outer s H vs Q E hr h => ?_, F.bindsN bp, hn⟩
  obtain ⟨t, q1, q2⟩ := hbody f cdv A outer s H vs Q E hr h
  exact ⟨t, q1, q2⟩
theorem md_no {C : Addr} {m : String} {x qual : Str} {st : Stmt} {ps : List Str} {n k : Nat} (D : MethAt K C m x qual st [] []) (bp : BindsP x qual st ps) (hn : ps.length = n) {sp : Sp} (h : ∀ vs H Q E, ¬ sp vs H Q E) : MdOk P w K mg base k C m n sp := by
  obtain ⟨f, fd, F, hm⟩ := D.ex
  exact ⟨f, fd, ps, hm, ⟨fun vs H Q E z => absurd z (h vs H Q E), fun A outer s H args us vs Q E _ _ _ _ z => absurd z (h vs H Q E)⟩, F.bindsN bp, hn⟩
theorem mk_of {C : Addr} {x : Str} {f : Addr} {n k : Nat} {sp : Sp} (M : Mk K C f) (D : MdOk P w K mg base k C "__init__" n sp) (hm : mg x = some (.ref C)) : MkAt P w K mg base k x C n sp := by
  obtain ⟨g, fd, ps, hg, F, hb, hl⟩ := D.ex
  have e := M.init
  rw [hg.at_] at e
  cases e
  exact ⟨_, fd, ps, M, F, hm, hb, hl⟩
end
structure Pp (P : Program) (w : World) (K : PySem.W.Frag) (mg : Str -> Option Value) (base : Heap) {T : Tbl} (W : Wd T) (k : Nat) (m : String) (φ : Sem) : Prop where
  ex : ∀ c nm, W.has c -> T.res c m = some nm -> ∃ p g fd ps, PropOf K (W.cA c) (so m) p g /\ FnOk P w K mg base (L2.CX P w) k g fd ps (spR W 1 (φ nm) none) /\ Binds K fd ps []
def tPropD {T : Tbl} (W : Wd T) (φ : Sem) (m : String) (ta : TE) : TE := fun σ H Q => ta σ H fun x H1 => ∃ a c nm dx fs, x = .ref a /\ H1 a = some (.ins (W.cA c) dx fs) /\ W.has c /\ T.res c m = some nm /\ spR W 1 (φ nm) none [.ref a] H1 Q E0
theorem px_prop {X : Cx} {k : Nat} {m : String} {φ : Sem} {e : Expr} {ta : TE} {pos : Pos} (M : Pp X.prog X.w X.K X.mg X.base W k m φ) (hr : Room (k + 1) X.A) (hK : W.K = X.K) (he : PE X e ta) (hab : attributeBase e (so m) X.env (eval e X.env) = eval e X.env) :
    PE X (.Attribute e (so m) pos) (tPropD W φ m ta) := by
  refine ⟨fun pins s σ H Q I h => ?_⟩
  refine attr_of hab (thn (he.run pins s σ H _ I h) fun u s1 ⟨x, H1, I1, rx, a, c, nm, dx, fs, ex, ea, hc, hn, q⟩ => ?_)
  subst ex
  obtain rfl : u = Value.ref a := rx
  obtain ⟨p, g, fd, ps, hp, F, hb⟩ := M.ex c nm hc hn
  exact getprop_ok I1 ea (hK ▸ W.cl c hc) hp F hr hb .nil passE0 q
def prop1 (T : Tbl) (φ : Sem) (m : String) : D -> Rz
  | .ins c ns xs => match T.res c m with
    | some nm => φ nm [.ins c ns xs] none
    | none => .no
  | _ => .no
theorem prop1_ok {φ : Sem} {m : String} {d : D} (h : prop1 T φ m d ≠ .no) : ∃ c ns xs nm, d = .ins c ns xs /\ T.res c m = some nm /\ prop1 T φ m d = φ nm [d] none := by
  cases d <;> first | (exact absurd rfl h) | skip
  rename_i c ns xs
  cases e : T.res c m with
  | none => exact absurd (by show (match T.res c m with | some nm => φ nm [.ins c ns xs] none | none => Rz.no) = .no; rw [e]) h
  | some nm => exact ⟨c, ns, xs, nm, rfl, e, by show (match T.res c m with | some nm => φ nm [.ins c ns xs] none | none => Rz.no) = _; rw [e]⟩
def propE (T : Tbl) (φ : Sem) (m : String) (f v : Option D) : Option (Kd × D) := match f with
  | some d => (prop1 T φ m d).toF
  | none => match v with
    | some d => (prop1 T φ m d).toV
    | none => none
def xProp (φ : Sem) (m : String) (a : XP W) : XP W where
  t := tPropD W φ m a.t
  ev env := propE T φ m (a.evF env) (a.evV env)
  snd := fun {env k d} e => by
    unfold propE at e
    split at e
    · rename_i d0 e1
      obtain ⟨rfl, b, h⟩ := Rz.toF_ok e
      obtain ⟨c, ns, xs, nm, rfl, h1, h4⟩ := prop1_ok (T := T) (φ := φ) (m := m) (d := d0) (by rw [h]; exact fun z => nomatch z)
      rw [h4] at h
      refine fun e' F σ H L Q r q => a.sF e1 e' F σ H L _ r fun v F1 H1 x1 y1 => ?_
      obtain ⟨p, dx, vs, rfl, hp, hc⟩ := shr_ins y1
      exact ⟨p, c, nm, dx, _, rfl, x1.s _ _ hp, hc, h1, callF x1.s (.cons y1 .nil) rfl h fun v F3 H3 x3 y3 => q v F3 H3 (x1.trans x3) (rO_back x1.h y3)⟩
    · split at e
      · rename_i d0 e1
        obtain ⟨d2, b, h, hk⟩ := Rz.toV_ok e
        obtain ⟨c, ns, xs, nm, rfl, h1, h4⟩ := prop1_ok (T := T) (φ := φ) (m := m) (d := d0) (by rw [h]; exact fun z => nomatch z)
        rw [h4] at h
        refine fun e' F σ H L Q r q => a.sV e1 e' F σ H L _ r fun v F1 H1 x1 y1 => ?_
        obtain ⟨p, dx, vs, rfl, hp, hc⟩ := shr_ins y1
        refine ⟨p, c, nm, dx, _, rfl, hp, hc, h1, callV x1.s (.cons y1 .nil) rfl h fun v H3 x3 y3 => q v F1 H3 (x1.trans x3) ?_⟩
        rcases hk with ⟨hf, rfl, rfl⟩ | ⟨rfl, rfl⟩
        · rw [fz_isSh (isSh_flat hf)] at y3
          exact rO_sh (y3.flat hf)
        · exact y3
      · cases e
def rLenI {T : Tbl} (W : Wd T) (φ : Sem) : List V -> Hp -> VK -> Prop := fun xs H Q => ∃ a c nm dx fs, xs = [.ref a] /\ H a = some (.ins (W.cA c) dx fs) /\ W.has c /\ T.res c "__len__" = some nm /\ spR W 1 (φ nm) none [.ref a] H (fun v H' => ∃ i, v = .int i /\ 0 <= i /\ i < 2 ^ 63 /\ Q (.int i) H') E0
theorem len_own {prog : Program} {w : World} {A : Around} {E : Value -> Shared -> Prop} {s : Shared} {K : PySem.W.Frag} {x C f : Addr} {ox : Obj} {od : Option Obj} {Q : Value -> Shared -> Prop} (X : K.In s.heap) (I : PySem.W.InstAt s.heap x ox C od) (hs : PySem.W.findIn K (.ref C) "__len__" = some (some (.ref f))) (hf : PySem.W.isFn K (.ref f) = true)
    (h : wpAny (model prog w) A.in1 (call (.ref f) [.ref x]) (PySem.W.LenBack Q) E s) : wpAny (model prog w) A (call (.builtin "len") [.ref x]) Q E s := by
  refine Calls.call_function_entry PySem.kind_len PySem.plain_len PySem.entry_len (PySem.args_len1 _) ?_
  unfold Builtin.«len»
  refine wpAny_bind (m := oneArg "len" _) (wpAny_pure ?_)
  refine wpAny_bind (m := callSpecial? (.ref x) (Str.ofString "__len__")) (PySem.W.special_fn X I hs (beq_iff_eq.mp hf) (wpAny_mono h (fun r s' hr => ?_) fun _ _ y => y))
  cases r <;> first | exact hr.elim | skip
  rename_i n u
  obtain ⟨⟨h0, h1⟩, hq⟩ := hr
  refine wpAny_bind (wpAny_holding (wpAny_pure ?_))
  refine wpAny_bind (wpAny_letGo ?_)
  show wpAny _ _ (if n < 0 then _ else _) _ _ _
  rw [if_neg (by omega)]
  show wpAny _ _ (if n ≥ 2 ^ 63 then _ else _) _ _ _
  rw [if_neg (by omega)]
  exact wpAny_bind (wpAny_mkInt (wpAny_pure ⟨_, rfl, hq⟩))
theorem call_lenI {X : Cx} {k : Nat} {φ : Sem} (M : Mt X.prog X.w X.K X.mg X.base W k "__len__" 1 φ none) (hr : Room (k + 1) X.A) (hK : W.K = X.K) : CallR X (.builtin "len") (rLenI W φ) := by
  rintro pins s σ H xs us Q I rv ⟨a, c, nm, dx, fs, rfl, ea, hc, hn, h⟩
  cases rv with
  | @cons _ u _ _ ru rt =>
  cases rt
  obtain rfl : u = Value.ref a := ru
  obtain ⟨g, fd, ps, hm, F, hb⟩ := M.ex c nm hc hn
  obtain ⟨mA, O, _, _, _, _⟩ := ins_get I.hok ea
  obtain ⟨od, J, _⟩ := O.look
  have hl : ([Value.ref a] ++ []).length = ps.length := by rw [<- F.len _ _ _ _ h]; rfl
  refine len_own I.kIn J hm.at_ hm.fn (wpAny_call ?_)
  refine codeAny_mono (F.run X.A.in1 X.stack s H ⟨[.ref a], []⟩ [.ref a] [.ref a] _ E0 hr.in1 I.env0.in1 (hb s [.ref a] I.kIn hl) (.cons rfl .nil) h) fun r s' hq => ?_
  cases r with
  | error er => exact passE0 pins σ H s er s' I hq
  | ok fl =>
    cases fl with
    | ret u =>
      obtain ⟨v, H', I3, rv, i, rfl, h0, h1, q3⟩ := I.after hq
      obtain ⟨t, rfl⟩ := (show ∃ t, u = Value.int i t from rv)
      exact ⟨⟨h0, h1⟩, .int i, H', I3.tok _, ⟨_, rfl⟩, q3⟩
    | next => exact False.elim hq
    | brk => exact False.elim hq
    | cont => exact False.elim hq
def lenI1 (T : Tbl) (φ : Sem) : List D -> Option D
  | [.ins c ns xs] => match T.res c "__len__" with
    | some nm => match φ nm [.ins c ns xs] none with
      | .ok (.int i) _ => if 0 <= i /\ i <= 1000000 then some (.int i) else none
      | _ => none
    | none => none
  | ds => lenD ds
theorem lenI1_ok {φ : Sem} {ds : List D} {d : D} (h : lenI1 T φ ds = some d) : lenD ds = some d \/ ∃ c ns xs nm i b, ds = [.ins c ns xs] /\ T.res c "__len__" = some nm /\ φ nm ds none = .ok (.int i) b /\ 0 <= i /\ i <= 1000000 /\ d = .int i := by
  unfold lenI1 at h
  split at h
  · split at h
    · split at h
      · obtain ⟨⟨h0, h1⟩, e⟩ := ite_some h
        exact .inr ⟨_, _, _, _, _, _, rfl, by assumption, by assumption, h0, h1, e.symm⟩
      · cases h
    · cases h
  · exact .inl h
theorem lenI_cb {φ : Sem} {ds : List D} {d : D} (h : lenI1 T φ ds = some d) : Cb W (fun xs H Q => rLenA W.K xs H Q \/ rLenI W φ xs H Q) ds d := by
  rcases lenI1_ok h with h | ⟨c, ns, xs, nm, i, b, rfl, h1, h2, h3, h4, rfl⟩
  · exact fun F H vs Q s y q => .inl (len_cb h F H vs Q s y q)
  · refine fun F H vs Q s y q => .inr ?_
    cases y with
    | cons y t =>
      cases t
      obtain ⟨a, dx, vs, rfl, ha, hc⟩ := shr_ins y
      refine ⟨a, c, nm, dx, _, rfl, ha, hc, h1, callV s (.cons y .nil) rfl h2 fun v H2 x2 y2 => ?_⟩
      rw [fz_isSh rfl] at y2
      cases y2
      exact ⟨i, rfl, h3, by omega, q _ F H2 x2 (rO_sh .int)⟩
def xLenU (φ : Sem) (as : XA W) : XP W := xCb (fun xs H Q => rLenA W.K xs H Q \/ rLenI W φ xs H Q) (lenI1 T φ) lenI_cb as
theorem px_isiO {X : Cx} {a : Expr} {ta : TE} {c : Str} {n : String} {p1 p2 pos : Pos} (hm : X.mg "isinstance" = none) (hc : W.has n) (hmc : X.mg c = some (.ref (W.cA n))) (ha : PE X a ta) (hg : Gl X "isinstance" := by rfl) (hgc : Gl X c := by rfl)
    (hd : (c == ("__debug__" : Str)) = false := by decide)
    (hs : starEach [a, .Name c p2] X.env = (false, eval a X.env) :: starEach [.Name c p2] X.env := by rfl) (hs2 : starEach [.Name c p2] X.env = (false, eval (.Name c p2) X.env) :: starEach [] X.env := by rfl)
    (hpl : (backTo pos (starEach [.Name c p2] X.env)).any (·.1) = false := by rfl) :
    PE X (.Call (.Name "isinstance" p1) [a, .Name c p2] [] pos) (fun σ H Q => clsOk W (true, n) -> tCB (rIsi X.K) (tCons ta (tCons (tC (clsV W (true, n))) tNil)) σ H Q) :=
  pe_imp (show clsOk W (true, n) by unfold clsOk; rw [if_pos rfl]; exact hc) (pe_callB call_isi hg hm (by decide +kernel) (pa_cons ha (pa_cons (pe_glob (v := clsV W (true, n)) hgc hmc (by unfold clsV; rw [if_pos rfl]; rfl) hd) pa_nil hs2) hs) (he := hs) (hpl := hpl))
end
end Py
namespace Py
open PySem L2
section
variable {M : Model} {A : Around} {E : Value -> Shared -> Prop} {s : Shared} {pos : Pos} {f : Value} {first : List Value} {Q : Value -> Shared -> Prop}
end
section
variable {T : Tbl} {W : Wd T}
end
end Py
namespace L2
open PySem PySem.Spec PyProof.Rows
end L2
namespace Py
open PySem L2
section
variable {T : Tbl} {W : Wd T}
def cutL {α : Type} (xs : List α) (lo hi : Option Int) : List α := (xs.drop (HT.sIx xs.length 0 lo)).take (HT.sIx xs.length xs.length hi - HT.sIx xs.length 0 lo)
theorem Shrs.cut {F : Hp} {ds : List D} {vs : List V} (h : Shrs W F ds vs) (lo hi : Option Int) : Shrs W F (cutL ds lo hi) (cutV vs lo hi) := by
  unfold cutL cutV
  rw [h.length]
  exact (Shrs.take _ (Shrs.drop _ h))
def intO : D -> Option (Option Int)
  | .int i => some (some i)
  | _ => none
def tO {T : Tbl} {W : Wd T} : Option (XP W) -> TO
  | none => tNoPart
  | some p => tPart p.t
def evI {T : Tbl} {W : Wd T} (o : Option (XP W)) (env : Py.Env) : Option (Option Int) := match o with
  | none => some none
  | some p => (p.evV env).bind intO
theorem evI_ok {o : Option (XP W)} {env : Py.Env} {i : Option Int} (h : evI o env = some i) : ∀ (e : Ent) (F : Hp) (σ : St) (H : Hp) (L : List Addr) (Q : Option Int -> Hp -> Prop), Rel W e env F σ H L -> (∀ F' H', Ext F H F' H' -> Q i H') -> tO o σ H Q := by
  intro e F σ H L Q r q
  cases o with
  | none => cases h; exact q F H (.refl r.sF)
  | some p =>
    obtain ⟨d, e1, e2⟩ := Option.bind_eq_some_iff.mp h
    refine p.sV e1 e F σ H L _ r fun v F1 H1 x1 y1 => ?_
    cases d <;> first | (cases e2; done) | skip
    cases e2
    cases y1
    exact ⟨_, rfl, q F1 H1 x1⟩
def slE (d : Option D) (lo hi : Option (Option Int)) : Option (Kd × D) := d.bind fun d => (seqOf d).bind fun p => if p.1 = false then lo.bind fun l => hi.map fun u => (.fr, .olst (cutL p.2 l u)) else none
def xSl (a : XP W) (lo hi : Option (XP W)) : XP W where
  t := tSl (rSlL W.K) a.t (tO lo) (tO hi)
  ev env := slE (a.evK env) (evI lo env) (evI hi env)
  snd := fun {env k d} e => by
    obtain ⟨d1, e1, e⟩ := Option.bind_eq_some_iff.mp e
    obtain ⟨⟨b, xs⟩, e3, e⟩ := Option.bind_eq_some_iff.mp e
    split at e
    · rename_i hb
      have hb : b = false := hb
      subst hb
      obtain ⟨l, e4, e⟩ := Option.bind_eq_some_iff.mp e
      obtain ⟨u, e5, e⟩ := Option.map_eq_some_iff.mp e
      cases e
      intro e' F σ H L Q r q
      refine a.sK e1 e' F σ H L _ r fun v F1 H1 x1 ⟨L1, o⟩ => ?_
      obtain ⟨a, vs, rfl, sh, sq⟩ := seqOf_ok x1.s o e3
      refine evI_ok e4 e' F1 σ H1 L _ (r.ext x1) fun F2 H2 x2 => evI_ok e5 e' F2 σ H2 L _ ((r.ext x1).ext x2) fun F3 H3 x3 => ?_
      refine ⟨a, vs, rfl, (x2.trans x3).h.seq sq, fun p hp => q _ F3 _ (((x1.trans x2).trans x3).trans (.newH x3.s hp)) ⟨[p], .olst upd_same ((sh.mono (x2.trans x3).f).cut l u).owns, by simp, fun x m => by
        rw [List.mem_singleton.mp m]; exact ⟨((x1.trans x2).trans x3).h.free hp, x3.s.free hp⟩⟩⟩
    · cases e
end
section
variable {T : Tbl} {W : Wd T} {env : Py.Env} {β : Type} {enc : β -> D} {dat : β -> PyData}
end
end Py
namespace Py
open PySem L2
section
variable {T : Tbl} {W : Wd T} {env env' : Py.Env} {P : List Nat} {E : WX}
theorem Rel.comp {e : Ent} {F F' H H' : Hp} {σ σ' : St} {L L' : List Addr} (r1 : Rel W e env F σ H L) (r2 : Rel W ⟨F, H, L, e.pins⟩ env' F' σ' H' L') : Rel W e env' F' σ' H' L' := by
  have up : ∀ a, (a ∈ L \/ H a = none) -> a ∈ e.L0 \/ e.H0 a = none := fun a h => h.elim (r1.ln a) r1.h0
  refine ⟨r2.sF, r2.slots, r2.nd, r2.dj, r1.s0.trans r2.s0, fun a o h => ?_, fun a o h1 h2 => r2.fr a o (fun z => ?_) (r1.fr a o h1 h2), fun a h => up a (r2.ln a h), r2.pin⟩
  · rcases r2.nw a o h with z | z | z
    · exact r1.nw a o z
    · rcases up a (.inr z) with y | y
      · exact .inr (.inr y)
      · exact .inr (.inl y)
    · rcases up a (.inl z) with y | y
      · exact .inr (.inr y)
      · exact .inr (.inl y)
  · rcases r1.ln a z with y | y
    · exact h1 y
    · rw [h2] at y; cases y
theorem Rel.base {e : Ent} {F H : Hp} {σ : St} {L : List Addr} (r : Rel W e env F σ H L) : Rel W ⟨F, H, L, e.pins⟩ env F σ H L :=
  ⟨r.sF, r.slots, r.nd, r.dj, Same.refl _, fun a o h => .inl h, fun a o _ h => h, fun a h => .inl h, r.pin⟩
inductive RL where
  | ok (ds : List D) (env : Py.Env) | exn (x : Exn) (env : Py.Env) | no
def ALr {T : Tbl} (W : Wd T) (P : List Nat) (E : WX) (t : TA) (env : Py.Env) (r : RL) : Prop := r ≠ .no ->
  ∀ (e : Ent) (F : Hp) (σ : St) (H : Hp) (L : List Addr) (Q : List V -> Hp -> Prop), P = e.pins.map (·.1) -> Rel W e env F σ H L ->
    (∀ ds env' vs F' H' L', r = .ok ds env' -> Rel W e env' F' σ H' L' -> Shrs W F' ds vs -> Q vs H') ->
    (∀ x env' F' H' L' C dd, r = .exn x env' -> Rel W e env' F' σ H' L' -> IsExn W F' x C dd -> E C dd σ H') -> t σ H Q
structure XMs {T : Tbl} (W : Wd T) where
  t : WX -> TA
  ev : List Nat -> Py.Env -> RL
  snd : ∀ P E env, ALr W P E (t E) env (ev P env)
inductive RT where
  | ok (b : Bool) (env : Py.Env) | exn (x : Exn) (env : Py.Env) | no
def ATr {T : Tbl} (W : Wd T) (P : List Nat) (E : WX) (t : TT) (env : Py.Env) (r : RT) : Prop := r ≠ .no ->
  ∀ (e : Ent) (F : Hp) (σ : St) (H : Hp) (L : List Addr) (Q : Bool -> Hp -> Prop), P = e.pins.map (·.1) -> Rel W e env F σ H L ->
    (∀ b env' F' H' L', r = .ok b env' -> Rel W e env' F' σ H' L' -> Q b H') ->
    (∀ x env' F' H' L' C dd, r = .exn x env' -> Rel W e env' F' σ H' L' -> IsExn W F' x C dd -> E C dd σ H') -> t σ H Q
structure XTM {T : Tbl} (W : Wd T) where
  t : WX -> TT
  ev : List Nat -> Py.Env -> RT
  snd : ∀ P E env, ATr W P E (t E) env (ev P env)
def RT.of (o : Option Bool) (e : Py.Env) : RT := match o with
  | some b => .ok b e
  | none => .no
def RT.then (r : RT) (f : Bool -> Py.Env -> RT) : RT := match r with
  | .ok d e => f d e
  | .exn x e => .exn x e
  | .no => .no
def RT.thenS (r : RT) (f : Bool -> Py.Env -> RS) : RS := match r with
  | .ok d e => f d e
  | .exn x e => .ex x e
  | .no => .no
theorem Sat.base {e : Ent} {F H : Hp} {σ : St} {L : List Addr} {A : AEnds} {Dn : Ends} (r : Rel W e env F σ H L) (s : Sat W e E A Dn) : Sat W ⟨F, H, L, e.pins⟩ E A Dn := by
  refine ⟨fun env' F' σ' H' L' a r' => s.nx _ _ _ _ _ a (r.comp r'), fun d env' F' σ' H' L' v M a r' o nd k => s.rt _ _ _ _ _ _ _ _ a (r.comp r') o nd fun b hb => ⟨(k b hb).1, ?_⟩, fun env' F' σ' H' L' a r' => s.bk _ _ _ _ _ a (r.comp r'), fun env' F' σ' H' L' a r' => s.ct _ _ _ _ _ a (r.comp r'), fun x env' F' σ' H' L' C dd a r' ie => s.ex _ _ _ _ _ _ _ _ a (r.comp r') ie⟩
  rcases (k b hb).2 with z | z
  · exact r.ln b z
  · exact r.h0 z
end
end Py
namespace Py
open PySem L2
section
variable {CX : CXT} {P : Program} {w : World} {K : PySem.W.Frag} {mg : Str -> Option Value} {base : Heap}
theorem fn_at {j : Nat} {g : Addr} {gd : FuncData} {nm qual : Str} {st : Stmt} {N ps : List Str} (G : FunD K nm qual (defArgs st) (defBody st) (defScope st) [] [] g gd) (S : FnScope N ps (defScope st))
    {A : Around} {out : List PySem.Env} {s0 : Shared} {H0 : Hp} {ar : Args} {ws : List Value} {xs : List V} {Q : VK} {E : XK} (room : Room (j + 1) A) (at0 : Env0 P w K mg base A out s0 H0) (bd : BindsTo s0 gd ar (ps.zip ws)) (rel : Vals xs ws) (len : xs.length = ps.length)
    (bdy : ∀ cdv : Value, ∃ t, PSs (cxOf CX P w K mg base N qual (defScope st) g cdv A out s0 H0 E) (defBody st) t /\ t { nx := fun _ h => Q .non h, rt := Q } (L2.start N xs) H0) :
    codeAny (model P w) A (.call (.ref g) ar) (CR CX out P w H0 s0 Q E) s0 := by
  obtain ⟨_, _, _, _, _, _, _, cdv, _, _, rfl, look, cod, _, _⟩ := G.ex
  have inK : K.In s0.heap := at0.mod.kin.keeps fun b o q => (at0.bs b o q).1
  have nl : s0.heap.NoLimit := at0.mod.nolimit.keeps fun b o q => (at0.bs b o q).1
  have kinds : ∀ z ∈ ps.zip ws, (defScope st).names.lookup z.1 = some .local \/ ((defScope st).names.lookup z.1 = some .cell /\ ((cellsFrom (s0.heap.objs.size + 1) (defScope st).names []).lookup z.1).isSome = true) := by
    rintro ⟨n, v⟩ hz
    refine (S.par n (List.of_mem_zip hz).1).imp id fun q => ⟨q, ?_⟩
    exact PySem.W.cellsFrom_some _ _ _ (.inl q)
  refine codeAny_call_function room.depth (inK _ _ look) rfl S.co S.gen rfl (PySem.W.codeRec_of inK cod) (bd _ _ _ _ ?_)
  refine wpAny_newFunctionEnv_cells S.kind kinds fun env1 e1 s1 ic => ?_
  subst e1
  refine ⟨nl.keeps ic.toInCall.keep, codeAny_func ?_⟩
  obtain ⟨t, hp, hq⟩ := bdy cdv
  have I := inv_start (CX := CX) (E := E) S room.hd at0 len rel ic
  refine wpAny_mono (hp.run [] s1 (L2.start N xs) H0 _ I hq) (fun fl s2 q => ?_) fun e s2 q => q
  have fin : ∀ {σ2 : St} {H2 : Hp} {v : V} {u : Value}, Inv (cxOf CX P w K mg base N qual (defScope st) g cdv A out s0 H0 E) [] σ2 H2 s2 -> RelV v u -> Q v H2 -> CE out P w H0 s0 Q u s2 := fun J rv q => ⟨_, _, J.os, J.bare, J.base, J.hok, rv, q⟩
  cases fl with
  | ret u => obtain ⟨v, _, _, J, rv, q⟩ := q; exact fin J rv q
  | next => obtain ⟨_, _, J, q⟩ := q; exact fin (v := .non) (u := .none) J rfl q
  | brk => obtain ⟨_, _, _, q⟩ := q; exact False.elim q
  | cont => obtain ⟨_, _, _, q⟩ := q; exact False.elim q
structure ItAt (P : Program) (w : World) (K : PySem.W.Frag) (mg : Str -> Option Value) (base : Heap) (C : Addr) (f : String) : Prop where
  ex : ∃ g, Meth K C "__iter__" g /\ ∀ (A : Around) (out : List PySem.Env) (s : Shared) (H : Hp) (a dx l : Addr) (fs : List (Str × V)) (zs : List V), Room 1 A -> Env0 P w K mg base A out s H -> H a = some (.ins C dx fs) -> fs.lookup (so f) = some (.ref l) -> SqL K H l zs ->
    codeAny (model P w) A (.call (.ref g) ⟨[.ref a], []⟩) (CR CX0 out P w H s (fun v H' => ∃ it, v = .ref it /\ H it = none /\ s.heap.objs.size <= it /\ H' = upd H it (ItO l it 0)) E0) s
theorem it_of {C : Addr} {f : String} {nm qual : Str} {st : Stmt} {N ps : List Str} (D : ∃ g fd, FunD K nm qual (defArgs st) (defBody st) (defScope st) [] [] g fd /\ Meth K C "__iter__" g) (S : FnScope N ps (defScope st)) (bp : BindsP nm qual st ps) (one : ps.length = 1) (hN : 0 < N.length) (hc : Cls K C) (hn : NoAttr K C (so f))
    (bdy : ∀ (g : Addr) (cdv : Value) (A : Around) (out : List PySem.Env) (s : Shared) (H : Hp), PSs (cxOf CX0 P w K mg base N qual (defScope st) g cdv A out s H E0) (defBody st) (tRet (tCB (ItX.rIterN K s.heap.objs.size) (tCons (tFld K (tVar 0) (so f)) tNil)))) : ItAt P w K mg base C f := by
  obtain ⟨g, fd, F, M⟩ := D
  refine ⟨g, M, fun A out s H a dx l fs zs room e0 ha hl hz => ?_⟩
  have b := F.bindsN bp s [.ref a] (e0.mod.kin.keeps fun b o q => (e0.bs b o q).1) (by simp [one])
  refine fn_at (j := 0) (xs := [V.ref a]) (ws := [Value.ref a]) F S room e0 (by simpa using b) (.cons (show RelV (V.ref a) (Value.ref a) from rfl) .nil) (by simp [one]) fun cdv => ⟨_, bdy g cdv A out s H, ?_⟩
  have h0 : (L2.start N [V.ref a])[0]? = some (some (.ref a)) := rfl
  exact ⟨_, h0, a, C, dx, fs, _, rfl, ha, hc, hn, hl, l, zs, rfl, hz, fun it h1 h2 => ⟨it, rfl, h1, h2, rfl⟩⟩
end
section
variable {X : Cx} {pins : List (Addr × Obj)} {σ : St} {H : Hp} {s : Shared}
theorem own_iter {A : Around} {a dx l C : Addr} {f : String} {fs : List (Str × V)} {zs : List V} {Q : Value -> Shared -> Prop} (M : ItAt X.prog X.w X.K X.mg X.base C f) (sb : Sub X 1 A) (I : Inv X pins σ H s) (ha : H a = some (.ins C dx fs)) (hl : fs.lookup (so f) = some (.ref l)) (hz : SqL X.K H l zs)
    (q : ∀ s' it, Inv X pins σ H s' -> s.heap.objs.size <= it -> s'.heap.get? it = some (GNX.itObj l 0) -> FpOk X pins H it -> Q (.ref it) s') : wpAny (model X.prog X.w) A (pyIter (.ref a)) Q X.xe s := by
  obtain ⟨g, mg, run⟩ := M.ex
  obtain ⟨mA, J, _⟩ := ins_get I.hok ha
  obtain ⟨od, J, _⟩ := J.look
  obtain ⟨m, hF⟩ := I.fr
  refine PySem.W.owit_iter hF I.ok.mod.kin J mg.at_ mg.fn ?_
  have e := I.env0
  have e0 : Env0 X.prog X.w X.K X.mg X.base A X.stack s H := ⟨by rw [sb.fr]; exact e.frames, e.mod, e.bs, e.bsz, e.funs, e.frf, e.hok, e.bare⟩
  refine wpAny_call (codeAny_mono (run A X.stack s H a dx l fs zs sb.room e0 ha hl hz) fun r s' hq => ?_)
  cases r with
  | error er => exact (fun _ _ _ _ _ _ _ h => h.elim : Passes CX0 X E0) pins σ H s er s' I hq
  | ok fl =>
    cases fl with
    | next => exact False.elim hq
    | brk => exact False.elim hq
    | cont => exact False.elim hq
    | ret u =>
      obtain ⟨v, H', I', rv, it, rfl, hn, hs, rfl⟩ := I.after hq
      obtain rfl : u = Value.ref it := rv
      have hg := itO_get I' upd_same
      have I2 := ItX.inv_drop I' (φ := _) upd_same
      rw [ItX.dropH_upd hn] at I2
      have hT : s'.TypeIs (.ref it) "list_iterator" := ⟨_, hg, rfl⟩
      unfold PySem.W.OwitIt
      refine wpAny_specialOf (name := Str.ofString "__next__") hT slot_listiter_next.lookup ?_
      refine q s' it I2 hs hg ?_
      have fp := ItX.inv_fp I' upd_same (Nat.le_trans I.sz hs)
      rw [ItX.dropH_upd hn] at fp
      exact fp
end
section
variable {prog : Program} {w : World}
theorem new_en (x : Value) : MeetsIn prog w (Builtin.«enumerate.__new__» ⟨[.type "enumerate", x], []⟩) (fun A R s => wpAny (model prog w) A.in1 (pyIter x)
    (fun itv s1 => R (.ok (.ret (.ref s1.heap.objs.size))) { s1 with heap := s1.heap.push { cls := .type "enumerate", data := .fields #[.none, .bool false, itv, rawInt 0, .none, .none] } }) (fun e s1 => R (.error e) s1) s) :=
  .of_wp fun A R s h => by
    have hsub := sub_enumerate
    have hi : ∀ {Q : Value -> Shared -> Prop} {E : Value -> Shared -> Prop}, (∀ itv s1, R (.ok (.ret (.ref s1.heap.objs.size))) { s1 with heap := s1.heap.push { cls := .type "enumerate", data := .fields #[.none, .bool false, itv, rawInt 0, .none, .none] } } -> Q itv s1) ->
        (∀ e s1, R (.error e) s1 -> E e s1) -> wpAny (model prog w) A.in1 (pyIter x) Q E s := fun q e => wpAny_mono h q e
    wp_walk using hi
    refine wpAny_stack_any fun st => wpAny_pure ?_
    split
    · rename_i c _ _ _ _ _
      cases (c == Value.type "enumerate")
      · wp_walk using hi
        all_goals first
          | exact fun _ _ q => q
          | (intro itv s1 hR; wp_walk; exact ⟨_, rfl, hR⟩)
      · wp_walk using hi
        all_goals first
          | exact fun _ _ q => q
          | (intro itv s1 hR; wp_walk; exact ⟨_, rfl, hR⟩)
    · wp_walk using hi
      all_goals first
        | exact fun _ _ q => q
        | (intro itv s1 hR; wp_walk; exact ⟨_, rfl, hR⟩)
theorem call_en {A : Around} {E : Value -> Shared -> Prop} {s : Shared} {x : Value} {Q : Value -> Shared -> Prop}
    (hr : wpAny (model prog w) A.in1.in1 (pyIter x) (fun itv s1 => ∃ it, itv = .ref it /\ ∀ h', IsEnum h' s1.heap.objs.size it 0 .none -> h'.objs.size = s1.heap.objs.size + 1 -> (∀ c o, s1.heap.get? c = some o -> h'.get? c = some o) -> Q (.ref s1.heap.objs.size) { s1 with heap := h' }) E s) :
    wpAny (model prog w) A (call (.type "enumerate") [x]) Q E s := by
  refine callType_newIn F.called_enumerate (by decide) (F.typeCall_enumerate_1 _) (F.newCall_enumerate_1 _) (fun obj => F.args_object_init_2 obj _) F.entry_enumerate_new (new_en x) ?_
  show wpAny (model prog w) A.in1.in1 (pyIter x) _ _ _
  refine wpAny_mono hr (fun itv s1 h => ?_) fun _ _ z => z
  obtain ⟨it, rfl, h⟩ := h
  have z : (s1.heap.push { cls := .type "enumerate", data := .fields #[.none, .bool false, .ref it, rawInt 0, .none, .none] }).objs.size = s1.heap.objs.size + 1 := Heap.size_push ..
  have g : IsEnum (s1.heap.push { cls := .type "enumerate", data := .fields #[.none, .bool false, .ref it, rawInt 0, .none, .none] }) s1.heap.objs.size it 0 .none := Heap.get?_push_size _ rfl
  show _ /\ _
  exact ⟨⟨_, g, rfl⟩, h _ g z fun c o e => Heap.get?_push_of_some _ e⟩
end
section
variable {T : Tbl} {W : Wd T}
structure Its (P : Program) (w : World) (K : PySem.W.Frag) (mg : Str -> Option Value) (base : Heap) {T : Tbl} (W : Wd T) : Prop where
  at_ : ∀ c f, W.has c -> T.it c = some f -> ItAt P w K mg base (W.cA c) f
def InsL {T : Tbl} (W : Wd T) (H : Hp) (a l : Addr) (zs : List V) : Prop := ∃ c f dx fs, W.has c /\ T.it c = some f /\ H a = some (.ins (W.cA c) dx fs) /\ fs.lookup (so f) = some (.ref l) /\ SqL W.K H l zs
def iOwn {T : Tbl} (W : Wd T) (tl : TE) : TI := fun σ H R => tl σ H fun x H1 => ∃ a l zs, x = .ref a /\ InsL W H1 a l zs /\ R (Itl W.K l) H1
theorem pi_own {X : Cx} {tg l : Expr} {tl : TE} (M : Its X.prog X.w X.K X.mg X.base W) (hr : Room 1 X.A) (hK : W.K = X.K) (hl : PE X l tl) : PI X tg l (iOwn W tl) := by
  refine ⟨fun pins s σ H R I h => ?_⟩
  refine thn (hl.run pins s σ H _ I h) fun v s1 ⟨x, H1, I1, r1, a, l, zs, e, ⟨c, f, dx, fs, hc, hf, ha, hlk, hz⟩, q⟩ => ?_
  subst e
  cases r1
  refine own_iter (M.at_ c f hc hf) ⟨hr, rfl⟩ I1 ha hlk (hK ▸ hz) fun s2 it I2 hs hg fp => ?_
  refine ⟨it, [it], _, _, H1, rfl, I2, turn_list l it, ⟨_, hg, rfl, rfl⟩, fun b hb => ?_, hK ▸ q⟩
  obtain rfl : b = it := by simpa using hb
  exact fp
def iEnumOwn {T : Tbl} (W : Wd T) (ta : TA) : TI := fun σ H R => ta σ H fun vs H1 => ∃ a l zs, vs = [.ref a] /\ InsL W H1 a l zs /\ R (Ite W.K l) H1
theorem pi_enumOwn {X : Cx} {e : Expr} {ta : TA} {p pos tpos : Pos} {elts : List Expr} {kk : Nat} (M : Its X.prog X.w X.K X.mg X.base W) (hr : Room 3 X.A) (hK : W.K = X.K) (hg : Gl X "enumerate") (hm : X.mg "enumerate" = none) (ha : PA X [e] ta) (hs : starEach [e] X.env = [(false, eval e X.env)] := by rfl) :
    PI X (.Tuple elts kk tpos) (.Call (.Name "enumerate" p) [e] [] pos) (iEnumOwn W ta) := by
  refine ⟨fun pins s σ H R I h => ?_⟩
  refine PyProof.Rows.Call_ (ld_blt I hg hm PyProof.Rows.boot_enumerate (PyProof.Rows.callWith_type1 (thn (ha.run pos pins s σ H _ I h) fun us s1 ⟨vs, H1, I1, r1, q1⟩ => ?_) hs rfl))
  obtain ⟨a, l, zs, ex, ⟨c, f, dx, fs, hc, hf, ha, hlk, hz⟩, q⟩ := q1
  subst ex
  cases r1 with
  | cons r rr =>
    cases rr
    cases r
    have go : wpAny (model X.prog X.w) X.A.in1.in1 (pyIter (.ref a)) (fun itv s2 => ∃ it, itv = .ref it /\ ∀ h', IsEnum h' s2.heap.objs.size it 0 .none -> h'.objs.size = s2.heap.objs.size + 1 -> (∀ b o, s2.heap.get? b = some o -> h'.get? b = some o) ->
        wpAny (model X.prog X.w) X.A (pyIter (.ref s2.heap.objs.size)) (PIE X pins σ (.Tuple elts kk tpos) R) X.xe { s2 with heap := h' }) X.xe s1 := by
      refine own_iter (M.at_ c f hc hf) (Sub.in1 (Sub.in1 ⟨hr, rfl⟩)) I1 ha hlk (hK ▸ hz) fun s2 it I2 hs hg fp => ⟨it, rfl, fun h' he hsz hk => wpAny_pyIter_enum he ?_⟩
      have I3 : Inv X pins σ H1 { s2 with heap := h' } := I2.kept (t' := s2.toks) hk
      have hlt : it < s2.heap.objs.size := Heap.lt_size hg
      refine ⟨s2.heap.objs.size, [s2.heap.objs.size, it], _, _, H1, rfl, I3, turn_enum l s2.heap.objs.size it, ⟨⟨.none, he⟩, ⟨_, hk _ _ hg, rfl, rfl⟩, Nat.ne_of_gt hlt⟩, fun b hb => ?_, hK ▸ q⟩
      have e' : b = s2.heap.objs.size \/ b = it := by simpa using hb
      rcases e' with z | z
      · subst z; exact I2.fpOk (Nat.le_refl _) (I2.hok.fresh (Nat.le_refl _))
      · subst z; exact fp
    exact call_en go
end
end Py
namespace Py
open PySem L2
section
variable {T : Tbl} {W : Wd T} {X : Cx} {pins : List (Addr × Obj)} {σ : St} {H : Hp} {s : Shared}
theorem sub_env {A : Around} {n : Nat} (sb : Sub X n A) (I : Inv X pins σ H s) : Env0 X.prog X.w X.K X.mg X.base A X.stack s H :=
  have e := I.env0
  ⟨by rw [sb.fr]; exact e.frames, e.mod, e.bs, e.bsz, e.funs, e.frf, e.hok, e.bare⟩
theorem own_len {A : Around} {k : Nat} {φ : Sem} {a dx : Addr} {c nm : String} {fs : List (Str × V)} {Q : Int -> Hp -> Prop} {E : Value -> Shared -> Prop} (M : Mt X.prog X.w X.K X.mg X.base W k "__len__" 1 φ none) (sb : Sub X (k + 1) A) (hK : W.K = X.K) (I : Inv X pins σ H s) (ea : H a = some (.ins (W.cA c) dx fs))
    (hc : W.has c) (hn : T.res c "__len__" = some nm) (h : spR W 1 (φ nm) none [.ref a] H (fun v H' => ∃ i, v = .int i /\ 0 <= i /\ i < 2 ^ 63 /\ Q i H') E0) :
    wpAny (model X.prog X.w) A (call (.builtin "len") [.ref a]) (fun u s' => ∃ i t H', u = .int i t /\ 0 <= i /\ i < 2 ^ 63 /\ Inv X pins σ H' s' /\ Q i H') E s := by
  obtain ⟨g, fd, ps, hm, F, hb⟩ := M.ex c nm hc hn
  obtain ⟨mA, O, _, _, _, _⟩ := ins_get I.hok ea
  obtain ⟨od, J, _⟩ := O.look
  have hl : ([Value.ref a] ++ []).length = ps.length := by rw [<- F.len _ _ _ _ h]; rfl
  have sb1 := Sub.in1 sb
  refine len_own I.kIn J hm.at_ hm.fn (wpAny_call ?_)
  refine codeAny_mono (F.run A.in1 X.stack s H ⟨[.ref a], []⟩ [.ref a] [.ref a] _ E0 sb1.room (sub_env sb1 I) (hb s [.ref a] I.kIn hl) (.cons rfl .nil) h) fun r s' hq => ?_
  cases r with
  | error er => exact (cx_no hq).elim
  | ok fl =>
    cases fl with
    | ret u =>
      obtain ⟨v, H', I3, rv, i, rfl, h0, h1, q3⟩ := I.after hq
      obtain ⟨t, rfl⟩ := (show ∃ t, u = Value.int i t from rv)
      exact ⟨⟨h0, h1⟩, i, _, H', rfl, h0, h1, I3.tok _, q3⟩
    | next => exact False.elim hq
    | brk => exact False.elim hq
    | cont => exact False.elim hq
theorem ext_loop {A : Around} {q it l : Addr} {zs : List V} {Rs : Result -> Shared -> Prop} (hh : A.in1.handled = none) (hz : zs.length <= sizeLine) (hne : it ≠ q) (hs : ∀ xs, SqL X.K (upd H q (.lst xs)) l zs) (hf : ∀ xs, FpOk X pins (upd H q (.lst xs)) it)
    (done : ∀ s', Inv X pins σ (upd H q (.lst zs)) s' -> Rs (.ok (.ret .none)) s') :
    ∀ (n i : Nat) (s : Shared), zs.length - i = n -> i <= zs.length -> Inv X pins σ (upd H q (.lst (zs.take i))) s -> s.heap.IsListIter it l i -> codeAny (model X.prog X.w) A (.builtin "list.extend.loop" ⟨[.ref q, .ref it, .none], []⟩) Rs s := by
  intro n
  induction n with
  | zero =>
    intro i s hn hi I st
    obtain rfl : i = zs.length := by omega
    obtain ⟨its, rv, p, hz'⟩ := I.list (hs _)
    have hl := rv.length
    obtain ⟨f0, f1, f2, f3, f4, f5⟩ := hf (zs.take zs.length)
    refine codeAny_builtin PySem.F.entry_extend_loop ?_
    rw [Around.under_plainId PySem.F.plain_extend_loop _]
    show wpAny _ A.in1 (pyNext (.ref it) >>= _) _ _ s
    refine wpAny_bind (wpAny_pyNext_list_end hh st p.isList (by simp; omega) fun h' eb => ?_)
    have I1 := I.turned (t' := s.toks) (fun b o hb e => eb b o hb e) f0 f1 f3 f4 f5
    rw [List.take_length] at I1
    exact wpAny_pure (done _ I1)
  | succ n ih =>
    intro i s hn hi I st
    obtain ⟨its, rv, p, hz'⟩ := I.list (hs _)
    have hx : zs[i]? = some (zs[i]'(by omega)) := List.getElem?_eq_getElem (by omega)
    obtain ⟨u, hu, ru⟩ := rv.get hx
    obtain ⟨f0, f1, f2, f3, f4, f5⟩ := hf (zs.take i)
    refine codeAny_builtin PySem.F.entry_extend_loop ?_
    rw [Around.under_plainId PySem.F.plain_extend_loop _]
    show wpAny _ A.in1 (pyNext (.ref it) >>= _) _ _ s
    refine wpAny_bind (wpAny_pyNext_list_item st p.isList (x := u) (by simpa using hu) fun h' st' sb => ?_)
    have I1 : Inv X pins σ (upd H q (.lst (zs.take i))) { s with heap := h' } := I.turned (t' := s.toks) (fun b o hb e => (sb.2 b hb).trans e) f0 f1 f3 f4 f5
    show wpAny _ A.in1 (updateSeq q (·.push u) >>= _) _ _ _
    obtain ⟨z, its2, k, r2, hl, e⟩ := I1.lstM upd_same
    have hlen : (zs.take i).length = i := by rw [List.length_take]; omega
    have ht : zs.take (i + 1) = zs.take i ++ [zs[i]'(by omega)] := by rw [List.take_add_one, hx]; rfl
    refine wpAny_bind (wpAny_updateSeq e rfl (wpAny_pure ⟨plainId_quiet PySem.F.plain_extend_loop _, ?_⟩) (by rw [List.size_toArray]; omega) (by show (its2.toArray.push u).size <= sizeLine + 1; rw [Array.size_push, List.size_toArray]; omega))
    have I2 := I1.lset (f := (·.push u)) (its' := its2 ++ [u]) (ys := zs.take (i + 1)) (t' := s.toks) upd_same e (by simp) (by rw [ht]; exact r2.append (.cons ru .nil)) (by rw [List.length_take]; omega)
    rw [upd_upd] at I2
    exact ih (i + 1) _ (by omega) (by omega) I2 (st'.at fun o e => (Heap.get?_update_other _ _ (Ne.symm hne)).trans e)
theorem own_hint {A : Around} {k : Nat} {φ : Sem} {a dx : Addr} {c nm : String} {fs : List (Str × V)} {Q : Hp -> Prop} {R : Bool -> Shared -> Prop} (M : Mt X.prog X.w X.K X.mg X.base W k "__len__" 1 φ none) (sb : Sub X (k + 1) A) (hK : W.K = X.K) (I : Inv X pins σ H s) (ea : H a = some (.ins (W.cA c) dx fs))
    (hc : W.has c) (hn : T.res c "__len__" = some nm) (h : spR W 1 (φ nm) none [.ref a] H (fun v H' => ∃ i, v = .int i /\ 0 <= i /\ i <= 1000000 /\ Q H') E0) (q : ∀ b s' H', Inv X pins σ H' s' -> Q H' -> R b s') :
    wpAny (model X.prog X.w) A (Builtin.List.listLengthHint (.ref a)) R X.xe s := by
  obtain ⟨g, fd, ps, hm, F, hb⟩ := M.ex c nm hc hn
  obtain ⟨mA, O, _, _, _, _⟩ := ins_get I.hok ea
  obtain ⟨od, J, _⟩ := O.look
  unfold Builtin.List.listLengthHint
  refine wpAny_bind (wpAny_bind (J.type.here ((PySem.W.looks_findIn I.kIn hm.at_).here ?_)))
  refine PySem.W.KFB.if_not rfl ?_
  show wpAny _ _ (rule "list.length-hint.len" >>= _) _ _ _
  refine wpAny_bind (wpAny_rule ?_)
  refine wpAny_bind (wpAny_attempt (wpAny_mono (own_len (E := fun _ _ => False) (Q := fun i H' => i <= 1000000 /\ Q H') M sb hK I ea hc hn ?_) (fun u s' hu => ?_) fun e s' he => (show False from he).elim))
  · obtain ⟨F', args, L0, h1, h2, h3, h4, h5, h6, h7, h8⟩ := h
    refine ⟨F', args, L0, h1, h2, h3, h4, h5, h6, fun d bd e F2 H2 v M Mb p o ob nd kk => ?_, h8⟩
    obtain ⟨i, rfl, z0, z1, z2⟩ := h7 d bd e F2 H2 v M Mb p o ob nd kk
    exact ⟨i, rfl, z0, by omega, z1, z2⟩
  · obtain ⟨i, t, H', rfl, h0, h1, I', hle, hq⟩ := hu
    show wpAny _ _ (if Builtin.List.listTooLong i.toNat = true then _ else _) _ _ _
    rw [if_neg (by rw [notLongL (Nat.le_trans (show i.toNat <= 1000000 by omega) (by decide))]; decide)]
    exact wpAny_pure (q _ s' H' I' hq)
def rLstO {T : Tbl} (W : Wd T) (φ : Sem) : List V -> Hp -> VK -> Prop := fun xs H Q => ∃ a c f l dx fs zs nm, xs = [.ref a] /\ W.has c /\ T.it c = some f /\ T.res c "__len__" = some nm /\ H a = some (.ins (W.cA c) dx fs) /\ fs.lookup (so f) = some (.ref l) /\ SqL W.K H l zs /\ zs.length <= 1000000 /\
  ∀ q, H q = none -> spR W 1 (φ nm) none [.ref a] (upd H q (.lst [])) (fun v H' => ∃ i, v = .int i /\ 0 <= i /\ i <= 1000000 /\ H' q = some (.lst []) /\ SqL W.K H' l zs /\ (∀ xs, SqL W.K (upd H' q (.lst xs)) l zs) /\ Q (.ref q) (upd H' q (.lst zs))) E0
theorem call_listI {k : Nat} {φ : Sem} (M : Mt X.prog X.w X.K X.mg X.base W k "__len__" 1 φ none) (N : Its X.prog X.w X.K X.mg X.base W) (hr : Room (k + 3) X.A) (hK : W.K = X.K) : CallR X (.type "list") (rLstO W φ) := by
  rintro pins s σ H xs us Q I rv ⟨a, c, f, l, dx, fs, zs, nm, rfl, hc, hf, hn, ea, hlk, hz, hzl, hq⟩
  cases rv with
  | @cons _ u _ _ ru rt =>
  cases rt
  obtain rfl : u = Value.ref a := ru
  have sb : Sub X (k + 1) X.A.in1.in1 := Sub.in1 (Sub.in1 (⟨hr, rfl⟩ : Sub X (k + 3) X.A))
  refine callType_codes (Q₁ := fun obj s₁ => obj = .ref s.heap.objs.size /\ s₁ = { s with heap := s.heap.push { cls := .type "list", data := .seq #[] } }) PySem.F.called_list (PySem.F.typeCall_list_1 _) PySem.F.entry_list_init
    (code_list_new _ ⟨rfl, rfl⟩) fun obj s₁ h₁ => ?_
  obtain ⟨rfl, rfl⟩ := h₁
  have hS : (s.heap.push { cls := .type "list", data := .seq #[] }).get? s.heap.objs.size = some { cls := .type "list", data := .seq #[] } := Heap.get?_push_size _ rfl
  refine ⟨⟨_, hS, rfl⟩, PySem.F.args_list_init_2 _ _, ?_⟩
  have fr : H s.heap.objs.size = none := I.hok.fresh (Nat.le_refl _)
  have hsp := hq _ fr
  generalize hqq : s.heap.objs.size = q at *
  have I1 : Inv X pins σ (upd H q (.lst [])) { s with heap := s.heap.push { cls := .type "list", data := .seq #[] } } := by rw [<- hqq]; exact I.lnew (its := []) (t' := s.toks) .nil (Nat.zero_le _)
  show wpAny _ _ (do let old <- Builtin.List.listItems (.ref q); Builtin.List.listUpdate (.ref q) (fun _ => #[]); letGo old.toList.reverse; Builtin.List.listExtendWith (.ref q) (.ref a) .none) _ _ _
  refine wpAny_bind ?_
  unfold Builtin.List.listItems
  refine wpAny_bind (wpAny_seqItems hS rfl (wpAny_pure ?_))
  show wpAny _ _ (updateSeq q (fun _ => #[]) >>= fun _ => letGo (#[] : Array Value).toList.reverse >>= fun _ => Builtin.List.listExtendWith (.ref q) (.ref a) .none) _ _ _
  refine wpAny_bind (wpAny_updateSeq hS rfl ?_)
  have I2 := I1.lset (f := fun _ => #[]) (its := []) (its' := []) (ys := []) (t' := s.toks) upd_same hS rfl .nil (Nat.zero_le _)
  rw [upd_upd] at I2
  refine wpAny_bind (wpAny_letGo ?_)
  have ea2 : upd H q (.lst []) a = some (.ins (W.cA c) dx fs) := by rw [upd_ne (ne_of_none ea fr)]; exact ea
  have hne : q ≠ a := fun z => by rw [z, ea] at fr; cases fr
  obtain ⟨mA, J, _⟩ := ins_get I2.hok ea2
  obtain ⟨od, J, _⟩ := J.look
  unfold Builtin.List.listExtendWith
  refine wpAny_bind (J.type.here ?_)
  have h1 : Builtin.List.listSameRef (.ref q) (.ref a) = false := by simp [Builtin.List.listSameRef, hne]
  have h2 : (Value.ref (W.cA c) == Value.type "list") = false := rfl
  have h3 : (Value.ref (W.cA c) == Value.type "tuple") = false := rfl
  simp only [h1, h2, h3, Bool.or_false, Bool.false_eq_true, if_false]
  have hz2 : SqL X.K (upd H q (.lst [])) l zs := hK ▸ (same_new fr).seq hz
  refine wpAny_bind (wpAny_mono (own_iter (N.at_ c f hc hf) (sb.mono (by omega)) I2 ea2 hlk hz2 fun s2 it I3 hs hg fp => ?_) (fun _ _ z => z) fun e s' he => he)
  have p1 : ∀ b ∈ [it], FpOk X pins (upd H q (.lst [])) b := fun b hb => by
    obtain rfl : b = it := by simpa using hb
    exact fp
  have p2 : ∀ b ∈ [it], ∃ o, s2.heap.get? b = some o /\ ∀ v, o.data ≠ .cell v := fun b hb => by
    obtain rfl : b = it := by simpa using hb
    exact ⟨_, hg, fun v z => nomatch z⟩
  have I3' := I3.pinned p1 p2
  have hpin : pinsAt [it] s2.heap = [(it, GNX.itObj l 0)] := by simp [pinsAt, hg]
  rw [hpin] at I3'
  have niq : it ≠ q := fun z => by
    have := fp.1
    rw [z, upd_same] at this
    cases this
  have hand : X.A.in1.in1.handled = none := sb.room.hd
  have go : ∀ (H' : Hp) (s' : Shared), Inv X (pins ++ [(it, GNX.itObj l 0)]) σ H' s' -> H' q = some (.lst []) -> (∀ xs, SqL W.K (upd H' q (.lst xs)) l zs) -> Q (.ref q) (upd H' q (.lst zs)) ->
      codeAny (model X.prog X.w) X.A.in1 (.builtin "list.extend.loop" ⟨[.ref q, .ref it, .none], []⟩) (wants (fun r s₂ => r = .none /\ EP X pins σ Q (.ref q) s₂) X.xe) s' := by
    intro H' s' I' e1 e2 e3
    have pn := I'.pin (it, GNX.itObj l 0) (List.mem_append_right _ (List.mem_append_right _ (by simp)))
    have hu : upd H' q (.lst (zs.take 0)) = H' := by
      funext b
      by_cases hb : b = q
      · subst hb; rw [upd_same, e1]; rfl
      · rw [upd_ne hb]
    refine ext_loop hand (Nat.le_trans hzl (by decide)) niq (hK ▸ e2) (fun xs => ⟨by rw [upd_ne niq]; exact pn.2.1, fp.2⟩) (fun s3 J3 => ⟨rfl, .ref q, _, J3, rfl, e3⟩) _ 0 s' rfl (Nat.zero_le _) (by rw [hu]; exact I'.unpinned) ⟨_, pn.1, rfl, rfl⟩
  refine wpAny_bind (wpAny_holding (wpAny_mono (own_hint M sb hK I3' ea2 hc hn hsp (R := fun b s' => ∃ H', Inv X (pins ++ [(it, GNX.itObj l 0)]) σ H' s' /\ H' q = some (.lst []) /\ SqL W.K H' l zs /\ (∀ xs, SqL W.K (upd H' q (.lst xs)) l zs) /\ Q (.ref q) (upd H' q (.lst zs))) fun b s' H' I' h => ⟨H', I', h⟩) (fun b s' h => ?_) fun e s' he => he))
  obtain ⟨H', I', e1, _, e2, e3⟩ := h
  refine wpAny_ite_split (fun _ => ?_) (fun _ => wpAny_pure ⟨plainId_quiet PySem.F.plain_extend_loop _, go H' s' I' e1 e2 e3⟩)
  refine wpAny_bind (wpAny_rule ?_)
  refine wpAny_bind ?_
  show wpAny _ _ (updateSeq q (·.push .none) >>= fun _ => updateSeq q (·.pop)) _ _ _
  obtain ⟨z4, its4, k4, r4, hl4, e4⟩ := I'.lstM e1
  cases r4
  refine wpAny_bind (wpAny_updateSeq e4 rfl ?_)
  have I5 := I'.lset (f := (·.push Value.none)) (its' := [Value.none]) (ys := [.non]) (t' := s'.toks) e1 e4 (by simp) (.cons rfl .nil) (by decide)
  obtain ⟨z6, its6, k6, r6, hl6, e6⟩ := I5.lstM upd_same
  obtain ⟨u6, rfl, ru6⟩ := r6.one
  refine wpAny_updateSeq e6 rfl ?_ (by show 1 <= sizeLine; decide) (by show 0 <= sizeLine + 1; exact Nat.zero_le _)
  have I7 := I5.lset (f := (·.pop)) (its := [u6]) (its' := []) (ys := []) (t' := s'.toks) upd_same e6 (by rfl) .nil (Nat.zero_le _)
  rw [upd_upd] at I7
  have hu : upd H' q (.lst []) = H' := by
    funext b
    by_cases hb : b = q
    · subst hb; rw [upd_same, e1]
    · rw [upd_ne hb]
  rw [hu] at I7
  exact wpAny_pure ⟨plainId_quiet PySem.F.plain_extend_loop _, go H' _ I7 e1 e2 e3⟩
end
end Py
namespace Py
open PySem L2
section
variable {T : Tbl} {W : Wd T} {env : Py.Env} {d : D}
def itOf (T : Tbl) : D -> Option (List D)
  | .ins c ns xs => (T.it c).bind fun f => (pos f ns).bind fun j => (xs[j]?).bind lstOf
  | .oins c ns xs => (T.it c).bind fun f => (pos f ns).bind fun j => (xs[j]?).bind lstOf
  | _ => none
theorem itOf_ok {F H : Hp} {v : V} {L : List Addr} {zs : List D} (s : Same F H) (o : Own W F H d v L) (h : itOf T d = some zs) :
    ∃ a c f l dx fs vs, v = .ref a /\ W.has c /\ T.it c = some f /\ H a = some (.ins (W.cA c) dx fs) /\ fs.lookup (so f) = some (.ref l) /\ H l = some (.lst vs) /\ Shrs W F zs vs /\ (∃ ns xs, fz d = .ins c ns xs) := by
  have gen : ∀ {c ns xs us dx a M}, ((T.it c).bind fun f => (pos f ns).bind fun j => (xs[j]?).bind lstOf) = some zs -> H a = some (.ins (W.cA c) dx ((ns.map so).zip us)) -> W.has c -> Owns W F H xs us M -> (∃ ns xs, fz d = .ins c ns xs) ->
      ∃ a' c f l dx fs vs, V.ref a = .ref a' /\ W.has c /\ T.it c = some f /\ H a' = some (.ins (W.cA c) dx fs) /\ fs.lookup (so f) = some (.ref l) /\ H l = some (.lst vs) /\ Shrs W F zs vs /\ (∃ ns xs, fz d = .ins c ns xs) := by
    intro c ns xs us dx a M e ha hc os hz
    obtain ⟨f, e1, e⟩ := Option.bind_eq_some_iff.mp e
    obtain ⟨j, e2, e⟩ := Option.bind_eq_some_iff.mp e
    obtain ⟨x, e3, e⟩ := Option.bind_eq_some_iff.mp e
    obtain ⟨u, M', e4, o'⟩ := os.get e3
    obtain ⟨l, vs, rfl, sh, hl⟩ := lstOf_ok s o' e
    exact ⟨a, c, f, l, dx, _, vs, rfl, hc, e1, ha, (zip_lookup e2).trans e4, hl, sh, hz⟩
  cases o with
  | sh y =>
    cases y <;> first | (cases h; done) | skip
    exact gen h (s _ _ (by assumption)) (by assumption) (Shrs.owns (by assumption)) ⟨_, _, by rw [fz_isSh rfl]⟩
  | olst => cases h
  | odic => cases h
  | odit => cases h
  | odig => cases h
  | oins ha hc hl hs => exact gen h ha hc hs ⟨_, _, by rw [fz]⟩
def lstE (T : Tbl) (φ : Sem) (d : D) : Option (Kd × D) := match seqOf d with
  | some p => some (.fr, .olst p.2)
  | none => (itOf T d).bind fun zs => (lenI1 T φ [fz d]).bind fun _ => if zs.length <= 1000000 then some (.fr, .olst zs) else none
def xListU (φ : Sem) (a : XP W) : XP W where
  t := tCB (fun xs H Q => (∃ p ys, xs = [.ref p] /\ (SqL W.K H p ys \/ SqT W.K H p ys) /\ ∀ l, H l = none -> Q (.ref l) (upd H l (.lst ys))) \/ rLstO W φ xs H Q) (tCons a.t tNil)
  ev env := (a.evK env).bind (lstE T φ)
  snd := fun {env k d} e => by
    obtain ⟨d1, e1, e⟩ := Option.bind_eq_some_iff.mp e
    unfold lstE at e
    split at e
    · rename_i p e3
      have h := (xList a).snd (show (xList a).ev env = some (k, d) by show (a.evK env).bind _ = _; rw [e1, Option.bind_some, e3]; exact e)
      exact fun e' F σ H L Q r q => a.sK e1 e' F σ H L _ r fun v F1 H1 x1 y1 => by
        obtain ⟨L1, o⟩ := y1
        cases e
        obtain ⟨b, xs⟩ := p
        obtain ⟨a', vs, rfl, sh, sq⟩ := seqOf_ok x1.s o e3
        refine .inl ⟨a', vs, rfl, ?_, fun p hp => q _ F1 _ (x1.trans (.newH x1.s hp)) ⟨[p], .olst upd_same sh.owns, by simp, fun x m => by
          rw [List.mem_singleton.mp m]; exact ⟨x1.h.free hp, x1.s.free hp⟩⟩⟩
        cases b with
        | true => exact .inr sq
        | false => exact .inl sq
    · obtain ⟨zs, e2, e⟩ := Option.bind_eq_some_iff.mp e
      obtain ⟨n, e3, e⟩ := Option.bind_eq_some_iff.mp e
      obtain ⟨hz, e⟩ := ite_some e
      cases e
      refine fun e' F σ H L Q r q => a.sK e1 e' F σ H L _ r fun v F1 H1 x1 y1 => ?_
      obtain ⟨L1, o⟩ := y1
      obtain ⟨a', c, f, l, dx, fs, vs, rfl, hc, hf, ha, hlk, hl, sh, ns, xs, hfz⟩ := itOf_ok x1.s o e2
      rw [hfz] at e3
      rcases lenI1_ok e3 with e3 | ⟨c', ns', xs', nm, i, b, e4, h1, h2, h3, h4, rfl⟩
      · cases e3
      cases e4
      refine .inr ⟨a', c, f, l, dx, fs, vs, nm, rfl, hc, hf, h1, ha, hlk, .of hl, by rw [<- sh.length]; exact hz, fun p hp => ?_⟩
      have nF : F1 p = none := x1.s.free hp
      have sv : Shr W (upd H1 p (.lst [])) (.ins c ns xs) (.ref a') := by
        rw [<- hfz]
        exact (o.view x1.s fun _ _ _ z => z).mono (same_new hp)
      have lp : l ≠ p := fun z => by rw [z, hp] at hl; cases hl
      refine callV (F := F1) (x1.s.trans (same_new hp)) (.cons sv .nil) rfl h2 fun u H2 x2 y2 => ?_
      rw [fz_isSh rfl] at y2
      cases y2
      have hl2 : H2 l = some (.lst vs) := x2.h _ _ (by rw [upd_ne lp]; exact hl)
      refine ⟨i, rfl, h3, h4, x2.h _ _ upd_same, .of hl2, fun ys => .of (by rw [upd_ne lp]; exact hl2), ?_⟩
      refine q _ F1 _ (x1.trans ⟨Same.refl _, same_upd x2.s nF, fun b u hb => ?_, fun _ _ z => .inl z⟩) ⟨[p], .olst upd_same sh.owns, by simp, fun x m => by
        rw [List.mem_singleton.mp m]; exact ⟨x1.h.free hp, nF⟩⟩
      have hb' : b ≠ p := fun z => by rw [z, hp] at hb; cases hb
      rw [upd_ne hb']
      exact x2.h _ _ (by rw [upd_ne hb']; exact hb)
theorem InsL.mono {H H' : Hp} (e : Same H H') {a l : Addr} {zs : List V} (h : InsL W H a l zs) : InsL W H' a l zs := by
  obtain ⟨c, f, dx, fs, h1, h2, h3, h4, h5⟩ := h
  exact ⟨c, f, dx, fs, h1, h2, e _ _ h3, h4, e.seq h5⟩
def seqFI (T : Tbl) (d : D) : Option (List D) := match seqF d with
  | some ds => some ds
  | none => guardB (isSh d) (itOf T d)
def seqKI (T : Tbl) (d : D) : Option (List D) := match seqOf d with
  | some p => some p.2
  | none => itOf T d
def xiSeqU (a : XP W) : XI W where
  t := fun σ H R => iSeqU W.K a.t σ H R \/ iOwn W a.t σ H R
  evF env := (a.evF env).bind (seqFI T)
  evP env := (a.evK env).bind (seqKI T)
  sF := fun {env ds} e => by
    obtain ⟨d, e1, e⟩ := Option.bind_eq_some_iff.mp e
    unfold seqFI at e
    split at e
    · rename_i ds' e2
      cases e
      exact fun e' F σ H L R r q => .inl ((xiSeq a).sF (show (xiSeq a).evF env = some ds by show (a.evF env).bind _ = _; rw [e1]; exact e2) e' F σ H L R r q)
    · obtain ⟨hs, e⟩ := guardB_some e
      refine fun e' F σ H L R r q => .inr (a.sF e1 e' F σ H L _ r fun v F1 H1 x1 y1 => ?_)
      obtain ⟨a', c, f, l, dx, fs, vs, rfl, hc, hf, ha, hlk, hl, sh, _⟩ := itOf_ok (H := F1) (Same.refl F1) (.sh y1) e
      exact ⟨a', l, vs, rfl, InsL.mono x1.s ⟨c, f, dx, fs, hc, hf, ha, hlk, .of hl⟩, q _ F1 H1 x1 (seq_list hl sh)⟩
  sP := fun {env ds} e => by
    obtain ⟨d, e1, e⟩ := Option.bind_eq_some_iff.mp e
    unfold seqKI at e
    split at e
    · rename_i p e2
      cases e
      exact fun e' F σ H L R r q => .inl ((xiSeq a).sP (show (xiSeq a).evP env = some p.2 by show (a.evK env).bind _ = _; rw [e1, Option.bind_some, e2]; rfl) e' F σ H L R r q)
    · refine fun e' F σ H L R r q => .inr (a.sK e1 e' F σ H L _ r fun v F1 H1 x1 ⟨M, o⟩ => ?_)
      obtain ⟨a', c, f, l, dx, fs, vs, rfl, hc, hf, ha, hlk, hl, sh, _⟩ := itOf_ok x1.s o e
      exact ⟨a', l, vs, rfl, ⟨c, f, dx, fs, hc, hf, ha, hlk, .of hl⟩, q _ F1 H1 x1 (seqP_sql (.of hl) sh)⟩
theorem seqP_enum {F0 H0 : Hp} {a : Addr} {ds : List D} {vs : List V} (h : SqL W.K H0 a vs) (hs : Shrs W F0 ds vs) : SeqP W (Ite W.K a) (enumD ds) F0 H0 where
  go := fun i d F H s1 s0 s2 hd => by
    obtain ⟨y, hy, rfl⟩ := enumD_get hd
    obtain ⟨w, hw, sw⟩ := hs.get hy
    refine ⟨⟨vs, w, s0.seq h, hw⟩, fun x H' yl => ?_⟩
    obtain ⟨T, y', rfl, hT, rfl, hy'⟩ := yl
    have := hy' vs (s0.seq h)
    rw [hw] at this; cases this
    exact ⟨_, .new s2 hT, .tup upd_same (.cons .int (.cons ((sw.mono s1).mono (same_new (s2.free hT))) .nil))⟩
  stop := fun F H s1 s0 s2 => ⟨vs, s0.seq h, by rw [enumD_length, hs.length]; exact Nat.le_refl _⟩
theorem seq_enum {F0 : Hp} {a : Addr} {ds : List D} {vs : List V} (h : SqL W.K F0 a vs) (hs : Shrs W F0 ds vs) : Seq W (Ite W.K a) (enumD ds) F0 where
  go := fun i d F H s1 s2 hd => (seqP_enum (H0 := F0) h hs).go i d F H s1 (s1.trans s2) s2 hd
  stop := fun F H s1 s2 => (seqP_enum (H0 := F0) h hs).stop F H s1 (s1.trans s2) s2
def enFI (T : Tbl) (d : D) : Option (List D) := match lstF d with
  | some ds => some (enumD ds)
  | none => guardB (isSh d) ((itOf T d).map enumD)
def enKI (T : Tbl) (d : D) : Option (List D) := match lstOf d with
  | some ds => some (enumD ds)
  | none => (itOf T d).map enumD
def xiEnumU (a : XP W) : XI W where
  t := fun σ H R => iEnum W.K (tCons a.t tNil) σ H R \/ iEnumOwn W (tCons a.t tNil) σ H R
  evF env := (a.evF env).bind (enFI T)
  evP env := (a.evK env).bind (enKI T)
  sF := fun {env ds} e => by
    obtain ⟨d, e1, e⟩ := Option.bind_eq_some_iff.mp e
    unfold enFI at e
    split at e
    · rename_i ds' e2
      cases e
      cases lstF_ok e2
      exact fun e' F σ H L R r q => .inl (ait_enum (a.sF e1) e' F σ H L R r q)
    · obtain ⟨hs, e⟩ := guardB_some e
      obtain ⟨zs, e9, rfl⟩ := Option.map_eq_some_iff.mp e
      refine fun e' F σ H L R r q => .inr (a.sF e1 e' F σ H L _ r fun v F1 H1 x1 y1 => ?_)
      obtain ⟨a', c, f, l, dx, fs, vs, rfl, hc, hf, ha, hlk, hl, sh, _⟩ := itOf_ok (H := F1) (Same.refl F1) (.sh y1) e9
      exact ⟨a', l, vs, rfl, InsL.mono x1.s ⟨c, f, dx, fs, hc, hf, ha, hlk, .of hl⟩, q _ F1 H1 x1 (seq_enum (.of hl) sh)⟩
  sP := fun {env ds} e => by
    obtain ⟨d, e1, e⟩ := Option.bind_eq_some_iff.mp e
    unfold enKI at e
    split at e
    · rename_i xs e2
      cases e
      refine fun e' F σ H L R r q => .inl (a.sK e1 e' F σ H L _ r fun v F1 H1 x1 ⟨M, o⟩ => ?_)
      obtain ⟨a', vs, rfl, sh, hl⟩ := lstOf_ok x1.s o e2
      exact ⟨a', vs, rfl, .of hl, q _ F1 H1 x1 (seqP_enum (.of hl) sh)⟩
    · obtain ⟨zs, e9, rfl⟩ := Option.map_eq_some_iff.mp e
      refine fun e' F σ H L R r q => .inr (a.sK e1 e' F σ H L _ r fun v F1 H1 x1 ⟨M, o⟩ => ?_)
      obtain ⟨a', c, f, l, dx, fs, vs, rfl, hc, hf, ha, hlk, hl, sh, _⟩ := itOf_ok x1.s o e9
      exact ⟨a', l, vs, rfl, ⟨c, f, dx, fs, hc, hf, ha, hlk, .of hl⟩, q _ F1 H1 x1 (seqP_enum (.of hl) sh)⟩
end
theorem pi_or {X : Cx} {tg e : Expr} {w1 w2 : TI} (h1 : PI X tg e w1) (h2 : PI X tg e w2) : PI X tg e (fun σ H R => w1 σ H R \/ w2 σ H R) :=
  ⟨fun pins s σ H R I h => h.elim (h1.run pins s σ H R I) (h2.run pins s σ H R I)⟩
theorem ro0 {k : Nat} {A : Around} (r : Room (k + 3) A) : Room k A := r.mono (by omega)
theorem ro1 {k : Nat} {A : Around} (r : Room (k + 3) A) : Room (k + 1) A := r.mono (by omega)
section
variable {T : Tbl} {W : Wd T} {X : Cx}
theorem px_ty {c : Str} {n : String} {p : Pos} (hm : X.mg c = none) (hg : Gl X c := by rfl) (hb : bootBuiltins c = some (.type n) := by decide +kernel) (hn : c ≠ "__name__" := by decide) (hd : (c == ("__debug__" : Str)) = false := by decide) :
    PE X (.Name c p) (tC (clsV W (false, n))) := pe_bltn hg hm hb rfl hn hd
theorem px_isiT {cs : List (Bool × String)} {a : Expr} {ta : TE} {es : List Expr} {kk : Nat} {p1 p2 pos : Pos} (hm : X.mg "isinstance" = none) (hk : ∀ c ∈ cs, c.1 = false /\ c.2 ∈ ["int", "bool", "str", "list", "tuple", "dict"]) (hl : cs.length <= 100) (ha : PE X a ta) (hc : PA X es (tCls W cs)) (hg : Gl X "isinstance" := by rfl)
    (hs : starEach [a, .Tuple es kk p2] X.env = (false, eval a X.env) :: starEach [.Tuple es kk p2] X.env := by rfl) (hs2 : starEach [.Tuple es kk p2] X.env = (false, eval (.Tuple es kk p2) X.env) :: starEach [] X.env := by rfl)
    (hpl : (backTo pos (starEach [.Tuple es kk p2] X.env)).any (·.1) = false := by rfl) (hplE : (starEach es X.env).any (·.1) = false := by rfl) :
    PE X (.Call (.Name "isinstance" p1) [a, .Tuple es kk p2] [] pos) (fun σ H Q => (∀ c ∈ cs, clsOk W c) -> cs.length <= 100 -> tCB (rIsiT X.K) (tCons ta (tCons (tTup (tCls W cs)) tNil)) σ H Q) :=
  pe_imp (fun c hc => by unfold clsOk; rw [if_neg (by rw [(hk c hc).1]; decide)]; exact (hk c hc).2) (pe_imp hl (pe_callB call_isiT hg hm (by decide +kernel) (pa_cons ha (pa_cons (pe_tup hc) pa_nil hs2) hs) (he := hs) (hpl := hpl)))
end
end Py
namespace Py
open PySem L2
structure Dun {T : Tbl} (W : Wd T) : Prop where
  sf : ∀ c, W.has c -> PySem.W.selfFirst W.K (W.cA c) = true
  nt : ∀ c t, W.has c -> t ∈ ["NoneType", "bool", "int", "str", "list", "tuple", "dict"] -> PySem.W.notFirst W.K (W.cA c) (.type t) = true
  gi : ∀ c g, W.has c -> PySem.W.findIn W.K (.ref (W.cA c)) (so "__getitem__") = some (some (.ref g)) -> PySem.W.fnIn W.K g = true
section
variable {T : Tbl} {W : Wd T}
section
variable {X : Cx} {pins : List (Addr × Obj)} {σ : St} {H : Hp} {s : Shared}
end
def orI {α : Type} : Option α -> Option α -> Option α
  | some x, _ => some x
  | none, y => y
theorem orI_ok {α : Type} {x y : Option α} {z : α} (h : orI x y = some z) : x = some z \/ y = some z := by
  cases x with
  | none => exact .inr h
  | some w => exact .inl h
end
end Py
namespace L2
open PySem PySem.Spec PyProof.Rows
section
variable {prog : Program} {w : World} {A : Around} {E : Value -> Shared -> Prop} {s : Shared}
end
section
variable {X : Cx} {pins : List (Addr × Obj)} {σ : St} {H : Hp} {s : Shared}
end
section
variable {prog : Program} {w : World} {A : Around} {E : Value -> Shared -> Prop} {s : Shared} {l : Addr} {its : List Value} {ns : List Int} {Q : Value -> Shared -> Prop}
theorem sumT_raw (hh : A.handled = none) (hl : s.heap.IsTuple l its.toArray) (hi : IntsAre its ns)
    (h : ∀ h' tk t', (∀ b o, s.heap.get? b = some o -> h'.get? b = some o) -> Q (.int ns.sum t') { s with heap := h', toks := tk }) : wpAny (model prog w) A (call (.builtin "sum") [.ref l]) Q E s := by
  obtain ⟨xs, e⟩ := hi.allInts.items
  have hn : numsOf (intItems xs).toList = ns := by rw [<- e]; exact hi.numsOf
  rw [nums_intItems] at hn
  rw [e] at hl
  refine PySem.W.ktm_sumG hh hl fun h' tk t' hk => ?_
  have := h h' tk t' hk
  rw [preSum_eq, List.take_of_length_le (by simp), hn]; exact this
end
section
variable {X : Cx}
def rSum2 (K : PySem.W.Frag) : List V -> Hp -> VK -> Prop := fun vs H Q => ∃ (a : Addr) (ns : List Int), vs = [V.ref a] /\ (SqL K H a (ns.map V.int) \/ SqT K H a (ns.map V.int)) /\ Q (.int ns.sum) H
theorem cr_sum2 (hc : X.calm = true) : CallR X (.builtin "sum") (rSum2 X.K) := by
  intro pins s σ H vs us Q I r h
  obtain ⟨a, ns, rfl, hs | hs, q⟩ := h
  · obtain ⟨its, rv, hl, _⟩ := I.list hs
    rw [Vals.ref1 r]
    exact sum_raw (I.ok.hd hc) hl.isList rv.ints fun h' tk t' hk => ⟨.int _, H, I.kept hk, ⟨_, rfl⟩, q⟩
  · obtain ⟨its, rv, hl, _⟩ := I.tuple hs
    rw [Vals.ref1 r]
    exact sumT_raw (I.ok.hd hc) hl rv.ints fun h' tk t' hk => ⟨.int _, H, I.kept hk, ⟨_, rfl⟩, q⟩
end
end L2
namespace Py
open PySem L2
section
variable {T : Tbl} {W : Wd T} {env : Py.Env}
def sumI (xs : List D) : Option D := (intsOf xs).map fun ns => .int ns.sum
def xSum (a : XP W) : XP W where
  t := tCB (rSum2 W.K) (tCons a.t tNil)
  ev env := (a.evK env).bind fun d => (seqOf d).bind fun p => (sumI p.2).map (Prod.mk .fr)
  snd := fun {env k d} e => by
    obtain ⟨d1, e1, e⟩ := Option.bind_eq_some_iff.mp e
    obtain ⟨⟨b, xs⟩, e3, e⟩ := Option.bind_eq_some_iff.mp e
    obtain ⟨y, e4, e⟩ := Option.map_eq_some_iff.mp e
    cases e
    obtain ⟨ns, e5, rfl⟩ := Option.map_eq_some_iff.mp e4
    intro e' F σ H L Q r q
    refine a.sK e1 e' F σ H L _ r fun v F1 H1 x1 ⟨L1, o⟩ => ?_
    obtain ⟨a, vs, rfl, sh, sq⟩ := seqOf_ok x1.s o e3
    cases intsOf_ok e5
    cases shrs_int sh
    refine ⟨a, ns, rfl, ?_, q _ F1 _ x1 (rO_sh .int)⟩
    cases b with
    | true => exact .inr sq
    | false => exact .inl sq
end
end Py
namespace Py
open PySem L2
section
variable {T : Tbl} {W : Wd T} {env : Py.Env} {d : D}
def storeD (n : D) (ds : List D) : Option (D × D) := match n, ds with
  | .olst xs, [.int i, d] => if xs.all isSh = true then (ixN xs.length i).map fun j => (.olst (xs.set j d), .non) else none
  | _, _ => none
def rStore : V -> List V -> Hp -> VK -> Prop := fun x ys H Q => ∃ (p : Addr) (xs : List V) (k : Int) (j : Nat) (v : V), x = .ref p /\ ys = [.int k, v] /\ H p = some (.lst xs) /\ ixN xs.length k = some j /\ Q .non (upd H p (.lst (xs.set j v)))
theorem set_split {α : Type} {xs : List α} {j : Nat} (h : j < xs.length) (d : α) : xs.set j d = xs.take j ++ [d] ++ xs.drop (j + 1) := by
  rw [List.set_eq_take_append_cons_drop, if_pos h, List.append_assoc]; rfl
theorem mop_store : Mop W rStore storeD := by
  intro n ds n' d hf F H vn Ln vs Ms Q s o os nd kF q
  unfold storeD at hf
  split at hf
  · rename_i xs i d2
    split at hf
    · rename_i hz
      obtain ⟨j, hj, e⟩ := Option.map_eq_some_iff.mp hf
      cases e
      obtain ⟨v1, v2, L1, L2, rfl, o1, o2, rfl⟩ := os.two
      cases o1.shr rfl
      cases o1.shNil rfl
      cases o with
      | sh y => cases y
      | @olst a _ vs L ha hs =>
        have sh := hs.shrs hz
        have hlt := (ixN_seq hj).2.1
        have hlv : vs.length = xs.length := hs.length.symm
        refine ⟨a, vs, i, j, v2, rfl, rfl, ha, by rw [hlv]; exact hj, ?_⟩
        rw [set_split (by omega)]
        rw [set_split hlt] at q
        refine mop_list s nd kF rfl (((sh.take _).owns.append (.cons o2 .nil)).append (sh.drop _).owns) (.sh .non) ?_ (fun b hb => by simpa using Or.inr hb) q
        have := (List.nodup_append.mp nd).1
        simpa using this
    · cases hf
  · cases hf
def setK {T : Tbl} {W : Wd T} (p : XPl W) (k : XP W) (d : D) (e : Py.Env) : RS := RS.ofO ((p.ev e).bind fun q => (k.evV e).bind fun i => (storeD q.2 [i, d]).bind fun z => (getS e p.root).map fun d0 => e.set p.root (some (d0.putAt q.1 z.1)))
def xsSet (p : XPl W) (k : XP W) (m : XM W) : XS W where
  t E := tAsg (m.t E) (gSub p.t k.t rSetL)
  ev P env := (m.ev P env).thenS (setK p k)
  snd := fun P E env hn e F σ H L Dn hP r s => by
    have hm : m.ev P env ≠ .no := fun z => hn (by rw [z]; rfl)
    refine (m.snd P E env).run hm hP r s (fun x e1 h => by rw [h]; rfl) fun d env' v F' H' L' M h r' o nd kk => ?_
    rw [h] at hn s
    have hn : setK p k d env' ≠ .no := hn
    have s : Sat W e E (ends (setK p k d env')) Dn := s
    unfold setK at hn s
    cases h2 : ((p.ev env').bind fun q => (k.evV env').bind fun i => (storeD q.2 [i, d]).bind fun z => (getS env' p.root).map fun d0 => env'.set p.root (some (d0.putAt q.1 z.1))) with
    | none => rw [h2] at hn; exact absurd rfl hn
    | some e2 =>
      rw [h2] at s
      obtain ⟨⟨st, n⟩, e1, h3⟩ := Option.bind_eq_some_iff.mp h2
      obtain ⟨i, ei, h3⟩ := Option.bind_eq_some_iff.mp h3
      obtain ⟨⟨n', d'⟩, e3, h4⟩ := Option.bind_eq_some_iff.mp h3
      obtain ⟨d0', e4, h5⟩ := Option.map_eq_some_iff.mp h4
      subst h5
      obtain ⟨d0, h0, h1⟩ := p.at_ e1
      rw [getS_some e4] at h0
      cases h0
      obtain ⟨v0, _, _, _, hs, _⟩ := r'.focus (getS_some e4) h1
      refine p.loc e1 e F' σ H' L' v0 _ r' hs fun vn F1 H1 x1 p1 => ?_
      refine k.sV ei e F1 σ H1 L' _ (r'.ext x1) fun u F2 H2 x2 y2 => ?_
      have y2 : Shr W H2 i u := y2
      obtain ⟨z, rfl⟩ : ∃ z, i = .int z := by
        unfold storeD at e3
        split at e3
        · rename_i heq; cases heq; exact ⟨_, rfl⟩
        · cases e3
      cases y2
      rw [List.nodup_append] at nd
      obtain ⟨nd1, nd2, nd3⟩ := nd
      have x12 := x1.trans x2
      have go : rStore vn [.int z, v] H2 (fun _ H => Dn.nx σ H) := by
        refine am_mop mop_store ((r'.ext x1).ext x2) (getS_some e4) h1 hs (p1.mono x2.h) e3 (Ms := [] ++ (M ++ [])) (.cons (.sh .int) (.cons (o.frame x12.f fun a _ o q => x12.h _ _ q) .nil)) (by simpa using nd1) (fun a ha => ?_) fun v2 F2 H2 L2 M2 r2 o2 n2 k2 => s.nx _ _ _ _ _ rfl r2
        have ha : a ∈ M := by simpa using ha
        refine ⟨fun z => nd3 a ha a z rfl, ?_, (kk a ha).2⟩
        obtain ⟨u, hu⟩ := o.lives a ha
        cases z : F2 a with
        | none => rfl
        | some w =>
          rcases x12.n a w z with y | y
          · rw [(kk a ha).1] at y; cases y
          · rw [hu] at y; cases y
      obtain ⟨a, xs, k2, j, v', ex, ey, ha, hj, q⟩ := go
      cases ey
      exact ⟨a, xs, _, j, ex, rfl, ha, hj, q⟩
end
end Py
namespace Py
open PySem L2
section
variable {T : Tbl} {W : Wd T}
theorem if_some' {α : Type} {c : Prop} [Decidable c] {a : Option α} {b : α} (h : (if c then a else none) = some b) : c /\ a = some b := by
  split at h
  · exact ⟨by assumption, h⟩
  · cases h
end
structure DfD (P : Program) (w : World) (K : PySem.W.Frag) (mg : Str -> Option Value) (base : Heap) (k : Nat) (x qual : Str) (st : Stmt) (kws : List (Str × V)) (ps : List Str) (sp : Sp) : Prop where
  ex : ∃ f fd, FnOk P w K mg base (L2.CX P w) k f fd ps sp /\ mg x = some (.ref f) /\ PySem.W.keepIn K (.ref f) = true /\ FunD K x qual (defArgs st) (defBody st) (defScope st) [] kws f fd
structure MkD (P : Program) (w : World) (K : PySem.W.Frag) (mg : Str -> Option Value) (base : Heap) (k : Nat) (x : Str) (C : Addr) (qual : Str) (st : Stmt) (kws : List (Str × V)) (ps : List Str) (sp : Sp) : Prop where
  ex : ∃ f fd, Mk K C f /\ FnOk P w K mg base (L2.CX P w) k f fd ps sp /\ mg x = some (.ref C) /\ FunD K "__init__" qual (defArgs st) (defBody st) (defScope st) [] kws f fd
section
variable {P : Program} {w : World} {K : PySem.W.Frag} {mg : Str -> Option Value} {base : Heap}
end
section
variable {X : Cx} {k n : Nat} {x qual : Str} {st : Stmt} {kws0 : List (Str × V)} {ps ks : List Str} {bs : List Bool} {dvs : List V} {sp : Sp} {p pos : Pos} {e : Expr} {es : List Expr} {kws : List Keyword} {t tk : TA}
end
section
variable {P : Program} {w : World} {K : PySem.W.Frag} {mg : Str -> Option Value} {base : Heap}
theorem fn_no {k : Nat} {f : Addr} {fd : FuncData} {ps : List Str} {sp : Sp} (h : ∀ vs H Q E, ¬ sp vs H Q E) : FnOk P w K mg base (L2.CX P w) k f fd ps sp :=
  ⟨fun vs H Q E z => absurd z (h vs H Q E), fun A outer s H args us vs Q E _ _ _ _ z => absurd z (h vs H Q E)⟩
end
section
variable {T : Tbl} {W : Wd T}
end
end Py
namespace Py
open PySem L2
def keyD : D -> Option Key
  | .int i => some (.inl i)
  | .str x => some (.inr (so x))
  | _ => none
section
variable {T : Tbl} {W : Wd T} {env : Py.Env} {d : D}
section
variable {X : Cx} {pins : List (Addr × Obj)} {σ : St} {H : Hp} {s : Shared} {A : Around} {E : Value -> Shared -> Prop} {kvs : List (Key × V)} {a : Addr}
end
theorem PSet.or {X : Cx} {r r' : TSet} (h : PSet X r) (h' : PSet X r') : PSet X (fun o i v H Q => r o i v H Q \/ r' o i v H Q) :=
  fun pins s σ H o i v ov iv u Q I ro ri rv q => q.elim (h pins s σ H o i v ov iv u Q I ro ri rv) (h' pins s σ H o i v ov iv u Q I ro ri rv)
def fls : List D -> Option (List V)
  | [] => some []
  | d :: ds => (fl d).bind fun v => (fls ds).map (v :: ·)
def inL (neg : Bool) (x : D) (ys : List D) : Option D := (fl x).bind fun v => (fls ys).map fun vs => .bl (if neg then !inV v vs else inV v vs)
def hasK (ks : List Key) (k : Key) : Bool := ks.any fun j => decide (j = k)
def inK (neg : Bool) (ks : List Key) (y : D) : Option D := match y with
  | .non => some (.bl neg)
  | y => (keyD y).map fun k => .bl (if neg then !hasK ks k else hasK ks k)
end
end Py
namespace Py
open PySem L2
section
variable {T : Tbl} {W : Wd T} {env : Py.Env} {d : D} {P : List Nat} {E : WX} {A : AEnds}
def SameL (F F' : Hp) : Prop := ∀ a o, F a = some o -> F' a = some o \/ (∃ kvs od, o = .dK kvs /\ F' a = some (.frz od (.dK kvs))) \/ ∃ kvs od, o = .frz od (.dK kvs) /\ F' a = some (.dK kvs)
theorem SameL.eq {F F' : Hp} (e : SameL F F') {a : Addr} {o : HO} (h : F a = some o) (h1 : ∀ kvs, o ≠ .dK kvs) (h2 : ∀ od kvs, o ≠ .frz od (.dK kvs)) : F' a = some o := by
  rcases e a o h with q | ⟨kvs, od, q, _⟩ | ⟨kvs, od, q, _⟩
  · exact q
  · exact absurd q (h1 kvs)
  · exact absurd q (h2 od kvs)
theorem SameL.seq {F F' : Hp} (e : SameL F F') {K : PySem.W.Frag} {a : Addr} {vs : List V} (h : SqL K F a vs) : SqL K F' a vs := by
  rcases h with (h | ⟨o, h⟩) | h
  · exact .inl (.inl (e.eq h (fun _ z => nomatch z) fun _ _ z => nomatch z))
  · exact .inl (.inr ⟨o, e.eq h (fun _ z => nomatch z) fun _ _ z => nomatch z⟩)
  · exact .inr h
def Lk (i : Nat) (σ : St) (H : Hp) : Prop := ∃ a od kvs, σ[i]? = some (some (V.ref a)) /\ H a = some (.frz od (.dK kvs))
end
end Py
namespace Py
open PySem L2
section
variable {T : Tbl} {W : Wd T} {env : Py.Env} {d : D} {P : List Nat} {E : WX} {A : AEnds}
end
end Py
namespace Py
open PySem L2
section
variable {T : Tbl} {W : Wd T} {env : Py.Env} {P : List Nat} {E : WX} {A : AEnds}
end
end Py
namespace Py
open PySem L2
section
variable {T : Tbl} {W : Wd T} {env : Py.Env}
end
end Py
namespace Py
open PySem L2
section
variable {T : Tbl} {W : Wd T}
end
end Py
namespace Py
open PySem L2 PyProof.Rows
section
variable {P : Program} {w : World} {A : Around} {E : Value -> Shared -> Prop} {s : Shared}
end
end Py
namespace Py
open PySem L2
section
variable {X : Cx} {k n : Nat} {f C : Addr} {fd : FuncData} {ps ks : List Str} {sp : Sp} {E : WX} {x : Str} {p pos : Pos} {e : Expr} {es : List Expr} {kws : List Keyword} {t tkw : TA} {g : List Value -> List Value -> List Value} {gV : List V -> List V -> List V} {dvs : List V} {ds : List Value}
theorem runMX {pins : List (Addr × Obj)} {σ : St} {H : Hp} {s : Shared} {Q : VK} {us ws : List Value} {vs : List V} {kn : List Str} (M : Mk X.K C f) (F : FnOk X.prog X.w X.K X.mg X.base (L2.CX X.prog X.w) k f fd ps sp) (hr : Room (k + 1) X.A) (tk : Takes X E)
    (I : Inv X pins σ H s)
    (hb : ∀ (s' : Shared) (a : Addr), X.K.In s'.heap -> ∃ us2 : List Value, Vals (gV (.ref a :: vs) []) us2 /\ BindsTo s' fd ⟨.ref a :: us, kn.zip ws⟩ (ps.zip us2))
    (h : ∀ x dx, H x = none -> H dx = none -> dx ≠ x -> sp (gV (.ref x :: vs) []) (upd (upd H dx (.own x)) x (.ins C dx [])) (fun v H2 => v = .non /\ Q (.ref x) H2) (WE E σ)) :
    wpAny (model X.prog X.w) X.A (call (.ref C) us (kn.zip ws)) (EP X pins σ Q) X.xe s := by
  have hq := h (s.heap.objs.size + 1) s.heap.objs.size (I.hok.fresh (Nat.le_succ _)) (I.hok.fresh (Nat.le_refl _)) (Nat.ne_of_lt (Nat.lt_succ_self _))
  have I2 := Inv.made (C := C) I
  obtain ⟨us2, r2, b⟩ := hb _ (s.heap.objs.size + 1) I2.kIn
  refine wpAny_call (make_map (f := f) I.kIn M.makes M.init (beq_iff_eq.mp M.fn) (codeAny_mono (F.run _ X.stack _ _ ⟨Value.ref (s.heap.objs.size + 1) :: us, kn.zip ws⟩ us2 _ _ (WE E σ) (hr.make C us (kn.zip ws)) (I2.env0.make C us (kn.zip ws)) b r2 hq) fun res s' hq' => ?_))
  match res, hq' with
  | .error er, hq' => exact L2.passAt tk σ pins _ _ er s' I2 hq'
  | .ok (.ret u), hq' =>
    obtain ⟨v, H', I3, rv, ev, q3⟩ := I2.after hq'
    subst ev
    exact ⟨rv, ⟨V.ref (s.heap.objs.size + 1), H', I3, rfl, q3⟩⟩
  | .ok .next, hq' => exact False.elim hq'
  | .ok .brk, hq' => exact False.elim hq'
  | .ok .cont, hq' => exact False.elim hq'
theorem px_makeX {c : String} {T : Tbl} {W : Wd T} {m : Nat} (M : MkAt X.prog X.w X.K X.mg X.base k x (W.cA c) m sp) (hc : W.has c) (tk : Takes X E) (hr : Room (k + 1) X.A) (hg : Gl X x)
    (ha : PA X (e :: es) t) (hdb : (x == ("__debug__" : Str)) = false := by decide) (he : starEach (e :: es) X.env = (false, eval e X.env) :: starEach es X.env := by rfl) (hpl : (backTo pos (starEach es X.env)).any (·.1) = false := by rfl) :
    PE X (.Call (.Name x p) (e :: es) [] pos) (fun σ H Q => W.has c -> tMake (W.cA c) sp [] (WE E σ) t σ H Q) := by
  obtain ⟨f, fd, ps, M, F, hm, hb, _⟩ := M.ex
  refine ⟨fun pins s σ H Q I h => wpAny_Call_Name_kw (ld_glob I hg hm ?_ hdb)⟩
  refine PySem.W.callWith_K (h₀ := X.base) I.ok.mod.kin M.kp (thn (ha.run pos pins s σ H _ I (h hc)) fun us s1 ⟨vs, H1, I1, r, q⟩ => ⟨I1.kIn, ?_⟩) he hpl
  refine runMX (gV := fun vs _ => vs) (kn := []) (ws := []) M F hr tk I1 (fun s' a X' => ⟨Value.ref a :: us, .cons rfl r, ?_⟩) fun x dx h1 h2 h3 => by have := q x dx h1 h2 h3; rwa [List.append_nil] at this
  have := hb s' (Value.ref a :: us) X' (by
    have hz := q (s1.heap.objs.size + 1) s1.heap.objs.size (I1.hok.fresh (Nat.le_succ _)) (I1.hok.fresh (Nat.le_refl _)) (Nat.ne_of_lt (Nat.lt_succ_self _))
    have e := F.len _ _ _ _ hz
    rw [List.append_nil] at e ⊢
    rw [<- e, List.length_cons, List.length_cons, r.length])
  rwa [List.append_nil] at this
end
section
variable {T : Tbl} {W : Wd T} {env : Py.Env} {P : List Nat} {E : WX} {A : AEnds} {d : D}
def exOf (c : String) (fs : List String) (ds : Option (List D)) (env : Py.Env) : RS := match ds with
  | some ds => if ds.length = fs.length then .ex ⟨c, fs.zip ds⟩ env else .no
  | none => .no
theorem zip_fst {fs : List String} {ds : List D} (h : ds.length = fs.length) : (fs.zip ds).map (·.1) = fs := List.map_fst_zip (by omega)
theorem zip_snd {fs : List String} {ds : List D} (h : ds.length = fs.length) : (fs.zip ds).map (·.2) = ds := List.map_snd_zip (by omega)
def xsRaise (c : String) (fs : List String) (as : XA W) : XS W where
  t E := fun _ σ H => W.hasX c -> tMkX (W.cA c) (fs.map so) as.t σ H fun cls d H' => E cls d σ H'
  ev P env := exOf c fs (as.evF env) env
  snd := fun P E env hn e F σ H L Dn hP r s hc => by
    match h : as.evF env, hn, s with
    | none, hn, s => exact absurd rfl hn
    | some ds, hn, s =>
      unfold exOf at hn s
      by_cases hl : ds.length = fs.length
      · dsimp only at s
        rw [if_pos hl] at s
        refine as.sF h e F σ H L _ r fun vs F1 H1 x1 y1 => ?_
        have y1 : Shrs W F1 ds vs := y1
        refine ⟨by rw [<- y1.length, hl, List.length_map], fun a ha => ?_⟩
        refine s.ex ⟨c, fs.zip ds⟩ env (upd F1 a (.xd ((fs.map so).zip vs))) σ (upd H1 a (.xd ((fs.map so).zip vs))) L _ _ rfl ((r.ext x1).ext (.new x1.s ha)) ⟨rfl, hc, .inr ⟨a, vs, rfl, ?_, ?_⟩⟩
        · rw [upd_same, zip_fst hl]
        · rw [zip_snd hl]
          exact y1.mono (same_new (x1.s.free ha))
      · dsimp only at hn
        rw [if_neg hl] at hn
        exact absurd rfl hn
def mkM (r : Rz) (env : Py.Env) : RM := match r with
  | .ok .non (some d) => .ok d env
  | .exn x _ => .exn x env
  | _ => .no
theorem makeX {n : Nat} {φ : Sem} {c ini : String} {e : Ent} {F H : Hp} {σ : St} {L : List Addr} {vs : List V} {ds : List D} {Q : VK} {E : XK} (r : Rel W e env F σ H L) (h : Shrs W F ds vs) (hc : W.has c) (hl : ds.length + 1 = n) (hn : mkM (φ ini (.oins c [] [] :: ds) (some 0)) env ≠ .no)
    (q : ∀ d env' v F' H' L' M, mkM (φ ini (.oins c [] [] :: ds) (some 0)) env = .ok d env' -> Rel W e env' F' σ H' L' -> Own W F' H' d v M -> (M ++ L').Nodup -> (∀ a ∈ M, F' a = none /\ (a ∈ e.L0 \/ e.H0 a = none)) -> Q v H')
    (qx : ∀ x env' F' H' L' C dd, mkM (φ ini (.oins c [] [] :: ds) (some 0)) env = .exn x env' -> Rel W e env' F' σ H' L' -> IsExn W F' x C dd -> E C dd H') (x dx : Addr) (hx : H x = none) (hd : H dx = none) (ne : dx ≠ x) :
    spR W n (φ ini) (some 0) (.ref x :: vs) (upd (upd H dx (.own x)) x (.ins (W.cA c) dx [])) (fun v H2 => v = .non /\ Q (.ref x) H2) E := by
  have s := r.sF
  have hs : Same H (upd (upd H dx (.own x)) x (.ins (W.cA c) dx [])) := (same_new hd).trans (same_new (by rw [upd_ne ne.symm]; exact hx))
  have ext : ∀ {F' H'}, Post F (upd (upd H dx (.own x)) x (.ins (W.cA c) dx [])) [x] F' H' -> Ext F H F' H' := fun {F' H'} p => ⟨p.f, p.s, fun a o ha => p.h a o (fun z => by
      obtain rfl : a = x := by simpa using z
      rw [hx] at ha; cases ha) (hs _ _ ha), fun a o ha => by
    rcases p.n a o ha with z | z | z
    · exact .inl z
    · exact .inr (hs.free z)
    · obtain rfl : a = x := by simpa using z
      exact .inr hx⟩
  refine ⟨F, .oins c [] [] :: ds, [x] ++ [], s.trans hs, .cons (.oins (vs := []) (by rw [upd_same]; rfl) hc rfl .nil) h.owns, by simp, fun a m => ?_, hl, fun z => hn (by rw [z]; rfl), fun d' bd e' F' H' v M Mb p o ob nd k => ?_, fun x' bd e' F' H' C dd Mb p ie ob nb k => ?_⟩
  · obtain rfl : a = x := by simpa using m
    exact s.free hx
  · rw [e'] at hn q
    cases d' with
    | non =>
      cases bd with
      | none => exact absurd rfl hn
      | some d2 =>
        have hv : v = .non := by cases o with | sh y => cases y; rfl
        have hM : M = [] := o.shNil rfl
        subst hM
        obtain ⟨w, hw, ow⟩ := ob
        cases hw
        have ex := ext p
        have hk : ∀ a ∈ Mb, F' a = none /\ H a = none := fun a m => ⟨(k a (by simpa using m)).1, by
          rcases (k a (by simpa using m)).2 with z | z
          · obtain rfl : a = x := by simpa using z
            exact hx
          · exact hs.free z⟩
        refine ⟨hv, q d2 env (.ref x) F' H' L Mb rfl (r.ext ex) ow (nodup_new (H := H) r.nd (by simpa using nd) r.slots.lives fun a m => (hk a m).2) fun a m => ⟨(hk a m).1, r.h0 (hk a m).2⟩⟩
    | _ => exact absurd rfl hn
  · rw [e'] at qx
    exact qx x' env F' H' L C dd rfl (r.ext (ext p)) ie
def makeM (φ : Sem) (c ini : String) (n : Nat) (f : Option (List D)) (env : Py.Env) : RM := match f with
  | some ds => if ds.length + 1 = n then mkM (φ ini (.oins c [] [] :: ds) (some 0)) env else .no
  | none => .no
def xmMake (φ : Sem) (c ini : String) (n : Nat) (as : XA W) : XM W where
  t E := fun σ H Q => W.has c -> tMake (W.cA c) (spR W n (φ ini) (some 0)) [] (WE E σ) as.t σ H Q
  ev P env := makeM φ c ini n (as.evF env) env
  snd := fun P E env hn e F σ H L Q hP r c1 cx hc => by
    match e1 : as.evF env, hn, c1, cx with
    | none, hn, _, _ => exact absurd rfl hn
    | some ds, hn, c1, cx =>
      unfold makeM at hn c1 cx
      dsimp only at hn c1 cx
      by_cases hl : ds.length + 1 = n
      · rw [if_pos hl] at hn c1 cx
        refine as.sF e1 e F σ H L _ r fun vs F1 H1 x1 y1 x dx hx hdx ne => ?_
        rw [List.append_nil]
        exact makeX (r.ext x1) y1 hc hl hn c1 cx x dx hx hdx ne
      · rw [if_neg hl] at hn; exact absurd rfl hn
end
end Py
namespace Py
open PySem L2
section
variable {T : Tbl} {W : Wd T} {env : Py.Env} {P : List Nat} {E : WX} {A : AEnds} {d : D} {i : Nat}
theorem IsExn.mono {F F' : Hp} {x : Exn} {C : Value} {dd : Option Addr} (e : Same F F') (h : IsExn W F x C dd) : IsExn W F' x C dd := by
  obtain ⟨h1, h2, h3⟩ := h
  refine ⟨h1, h2, h3.imp id ?_⟩
  rintro ⟨a, vs, h4, h5, h6⟩
  exact ⟨a, vs, h4, e _ _ h5, h6.mono e⟩
def AQ {T : Tbl} (W : Wd T) (i : Nat) (x : Exn) (a : Addr) (cls : Value) (dd : Option Addr) (t : TE) (env : Py.Env) (R : Res) : Prop :=
  ∀ (e : Ent) (F : Hp) (σ : St) (H : Hp) (L : List Addr) (Q : VK), Rel W e env F σ H L -> IsExn W F x cls dd -> σ[i]? = some (some (.ref a)) -> (∀ v F' H', Ext F H F' H' -> R F' H' H v -> Q v H') -> t σ H Q
structure XQ {T : Tbl} (W : Wd T) (i : Nat) where
  t : Addr -> Value -> Option Addr -> TE
  ev : Exn -> Py.Env -> Option (Kd × D)
  snd : ∀ {x env k d}, ev x env = some (k, d) -> ∀ a cls dd, AQ W i x a cls dd (t a cls dd) env (rK W k d)
theorem look_fld {F : Hp} {f : String} {d : D} : ∀ {fs : List (String × D)} {vs : List V}, Shrs W F (fs.map (·.2)) vs -> fs.lookup f = some d -> ∃ v, (((fs.map (·.1)).map so).zip vs).lookup (so f) = some v /\ Shr W F d v
  | [], _, _, h => by simp [List.lookup] at h
  | (k, x) :: fs, _, .cons (v := v) h t, hl => by
    by_cases e : f = k
    · subst e
      simp only [List.lookup_cons_self] at hl
      cases hl
      exact ⟨v, by simp, h⟩
    · rw [List.lookup_cons, beq_eq_false_iff_ne.mpr e] at hl
      obtain ⟨u, h1, h2⟩ := look_fld t hl
      refine ⟨u, ?_, h2⟩
      rw [List.map_cons, List.map_cons, List.zip_cons_cons, List.lookup_cons, beq_eq_false_iff_ne.mpr (fun z => e (so_inj z))]
      exact h1
def xqFld (W : Wd T) (i : Nat) (c f : String) : XQ W i where
  t a cls dd := tXf a cls dd (W.cA c) (so f) (tVar i)
  ev x _ := if x.c = c then (x.fs.lookup f).map (Prod.mk .fr) else none
  snd := fun {x env k d} h a cls dd e F σ H L Q r ie hs q => by
    obtain ⟨hc, h⟩ := if_some' h
    obtain ⟨z, h, e1⟩ := Option.map_eq_some_iff.mp h
    cases e1
    obtain ⟨h1, h2, h3⟩ := ie
    rcases h3 with h3 | ⟨p, vs, h4, h5, h6⟩
    · rw [h3] at h; simp [List.lookup] at h
    · obtain ⟨v, h7, h8⟩ := look_fld h6 h
      exact ⟨_, hs, rfl, by rw [h1, hc], p, _, v, h4, r.sF _ _ h5, h7, q v F H (.refl r.sF) (rO_sh h8)⟩
def clsXOk (W : Wd T) (c : Bool × String) : Prop := if c.1 = true then W.hasX c.2 else c.2 = "ValueError"
def isX1 (T : Tbl) (x : String) (c : Bool × String) : Bool := if c.1 = true then T.xsub x c.2 else true
theorem kit_isx {x : String} {c : Bool × String} (hx : W.hasX x) (hc : clsXOk W c) : PySem.W.kitOne W.K (.ref (W.cA x)) (clsT W c) = some (isX1 T x c) := by
  obtain ⟨b, n⟩ := c
  cases b with
  | true => exact W.xk x n hx hc
  | false =>
    have hc : n = "ValueError" := hc
    subst hc
    exact W.xv x hx
def rIsX (K : PySem.W.Frag) (a : Addr) (cls : Value) (dd : Option Addr) : List V -> Hp -> VK -> Prop := fun xs H Q => ∃ (D0 p : Addr) (fs : List (Str × V)) (b : Bool), cls = .ref D0 /\ ExcC K D0 /\ dd = some p /\ H p = some (.xd fs) /\
  ((∃ (c : V) (cv : Value), xs = [.ref a, c] /\ (∀ u, RelV c u -> u = cv) /\ PySem.W.kitOne K (.ref D0) cv = some b) \/ (∃ (tp : Addr) (cs : List V) (us : List Value), xs = [.ref a, .ref tp] /\ H tp = some (.tup cs) /\ Paired ClsV cs us /\ PySem.W.kitAny K (.ref D0) us = some b)) /\ Q (.bl b) H
theorem call_isX {X : Cx} {a : Addr} {oe : Obj} {cls : Value} {dd : Option Addr} {pn : List (Addr × Obj)} (hz : Zc cls dd oe) (hf : ∃ vs, oe.data = .fields vs) : CallR (X.suite a ((a, oe) :: pn)) (.builtin "isinstance") (rIsX X.K a cls dd) := by
  intro pins s σ H xs us Q I r h
  obtain ⟨D0, p, fs, b, ec, C, ed, hp, h, q⟩ := h
  subst ec
  subst ed
  obtain ⟨hget, _⟩ := I.pin (a, oe) (List.mem_append_left _ List.mem_cons_self)
  obtain ⟨vs, hv⟩ := hf
  have hx : ObjOk X.prog X.w H s.heap p (.xd fs) := I.hok p _ hp
  obtain ⟨mA, hns, _⟩ := hx
  obtain ⟨od, ho, hl⟩ := lookIn_ns hns
  have J : PySem.W.InstAt s.heap a oe D0 (some od) := ⟨hget, hz.1, by unfold PySem.W.notCls; rw [hv] <;> rfl, by rw [hz.2]; exact ho⟩
  have KX := PySem.W.kitx_exc (x := a) (ox := oe) (od := some od) (by obtain ⟨cd, hc, _⟩ := PySem.W.any_some C.hd; rw [hc]; rfl) C.hg C.hk C.hs C.ha C.hn C.ht C.hm
  rcases h with ⟨c, cv, rfl, hcv, e⟩ | ⟨tp, cs, ws, rfl, hT, k, e⟩
  · obtain ⟨u1, u2, rfl, r1, r2⟩ := vals2 r
    cases (show u1 = Value.ref a from r1)
    have ev := hcv _ r2
    subst ev
    exact PySem.W.kia_one KX I.kIn J e (fun z => nomatch z) fun tk => ⟨.bl b, H, I.tok tk, rfl, q⟩
  · obtain ⟨u1, u2, rfl, r1, r2⟩ := vals2 r
    cases (show u1 = Value.ref a from r1)
    cases (show u2 = Value.ref tp from r2)
    obtain ⟨_, its, rv, o, h1, h2, n, h3⟩ := (show ObjOk X.prog X.w H s.heap tp (.tup cs) from I.hok tp _ hT)
    have e3 := ClsV.all k rv
    subst e3
    obtain ⟨oc, od, dt, sl⟩ := o
    simp only at h2 h3
    subst h2 h3
    exact PySem.W.kia_tup KX I.kIn J h1 e (fun z => nomatch z) fun tk => ⟨.bl b, H, I.tok tk, rfl, q⟩
theorem clsV_rel {W : Wd T} (c : Bool × String) : ∀ u, RelV (clsV W c) u -> u = clsT W c := by
  obtain ⟨b, n⟩ := c
  cases b with
  | true => intro u h; exact h
  | false => intro u h; exact h
def xqIs (W : Wd T) (i : Nat) (c : Bool × String) : XQ W i where
  t a cls dd := fun σ H Q => clsXOk W c -> tCB (rIsX W.K a cls dd) (tCons (tVar i) (tCons (tC (clsV W c)) tNil)) σ H Q
  ev x _ := match x.fs with
    | [] => none
    | _ :: _ => some (.fr, .bl (isX1 T x.c c))
  snd := fun {x env k d} h a cls dd e F σ H L Q r ie hs q hc => by
    obtain ⟨h1, h2, h3⟩ := ie
    split at h
    · cases h
    · rename_i z zs hfs
      cases h
      rcases h3 with h3 | ⟨p, vs, h4, h5, h6⟩
      · rw [hfs] at h3; cases h3
      · exact ⟨_, hs, W.cA x.c, p, _, _, h1, W.xc _ h2, h4, r.sF _ _ h5, .inl ⟨_, _, rfl, clsV_rel c, kit_isx h2 hc⟩, q _ F H (.refl r.sF) (rO_sh .bl)⟩
def XQ.evB (m : XQ W i) (x : Exn) (env : Py.Env) : Option Bool := (toV (m.ev x env)).bind blD
theorem XQ.sB (m : XQ W i) {x : Exn} {b : Bool} (h : m.evB x env = some b) (a : Addr) (cls : Value) (dd : Option Addr) : AQ W i x a cls dd (m.t a cls dd) env (rV W (.bl b)) := by
  obtain ⟨y, e1, e⟩ := Option.bind_eq_some_iff.mp h
  cases blD_ok e
  match e2 : m.ev x env, e1 with
  | some (k, d0), e1 =>
    have e1 : some (fz d0) = some (.bl b) := e1
    exact fun e F σ H L Q r ie hs q => m.snd e2 a cls dd e F σ H L Q r ie hs fun v F' H' x' y => q v F' H' x' (by
      have := rK_view x'.s y
      rwa [Option.some.inj e1] at this)
def xqAnd (m n : XQ W i) : XQ W i where
  t a cls dd := tAndV (m.t a cls dd) (n.t a cls dd)
  ev x env := (andE (m.evB x env) fun _ => n.evB x env).map fun c => (.fr, .bl c)
  snd := fun {x env k d} h a cls dd e F σ H L Q r ie hs q => by
    obtain ⟨c, e1, h⟩ := Option.map_eq_some_iff.mp h
    cases h
    match ha : m.evB x env, e1 with
    | some b, e1 =>
      refine m.sB ha a cls dd e F σ H L _ r ie hs fun v F1 H1 x1 y1 => ?_
      have y1 : Shr W H1 (.bl b) v := y1
      cases y1
      refine ⟨b, rfl, ?_⟩
      cases b with
      | true =>
        refine n.sB e1 a cls dd e F1 σ H1 L _ (r.ext x1) (ie.mono x1.f) hs fun u F2 H2 x2 y2 => ?_
        have y2 : Shr W H2 (.bl c) u := y2
        cases y2
        exact q _ F2 H2 (x1.trans x2) (rO_sh .bl)
      | false => cases e1; exact q _ F1 H1 x1 (rO_sh .bl)
def xqNot (m : XQ W i) : XQ W i where
  t a cls dd := tNotV (m.t a cls dd)
  ev x env := (m.evB x env).map fun c => (.fr, .bl (!c))
  snd := fun {x env k d} h a cls dd e F σ H L Q r ie hs q => by
    obtain ⟨c, e1, h⟩ := Option.map_eq_some_iff.mp h
    cases h
    refine m.sB e1 a cls dd e F σ H L _ r ie hs fun v F1 H1 x1 y1 => ?_
    have y1 : Shr W H1 (.bl c) v := y1
    cases y1
    exact ⟨c, rfl, q _ F1 H1 x1 (rO_sh .bl)⟩
def toQ (o : Option (Kd × D)) : Option D := match o with
  | some (.fr, d) => if isSh d = true then some d else none
  | some (.pl, d) => if isSh d = true then some d else none
  | some (.vw, d) => if isFlat d = true then some d else none
  | none => none
def XQ.evF (m : XQ W i) (x : Exn) (env : Py.Env) : Option D := toQ (m.ev x env)
theorem XQ.sF (m : XQ W i) {x : Exn} (h : m.evF x env = some d) (a : Addr) (cls : Value) (dd : Option Addr) : AQ W i x a cls dd (m.t a cls dd) env (rF W d) := by
  unfold XQ.evF toQ at h
  intro e F σ H L Q r ie hs q
  split at h
  · rename_i d0 e2
    obtain ⟨h1, rfl⟩ := ite_some h
    exact m.snd e2 a cls dd e F σ H L Q r ie hs fun v F' H' x' ⟨M, o, _, _⟩ => q v F' H' x' (o.shr h1)
  · rename_i d0 e2
    obtain ⟨h1, rfl⟩ := ite_some h
    exact m.snd e2 a cls dd e F σ H L Q r ie hs fun v F' H' x' ⟨M, o⟩ => q v F' H' x' (o.shr h1)
  · rename_i d0 e2
    obtain ⟨h1, rfl⟩ := ite_some h
    exact m.snd e2 a cls dd e F σ H L Q r ie hs fun v F' H' x' y => q v F' H' x' (Shr.flat y h1)
  · cases h
structure XQs {T : Tbl} (W : Wd T) (i : Nat) where
  t : Addr -> Value -> Option Addr -> TA
  ev : Exn -> Py.Env -> Option (List D)
  snd : ∀ {x env ds}, ev x env = some ds -> ∀ a cls dd (e : Ent) (F : Hp) (σ : St) (H : Hp) (L : List Addr) (Q : List V -> Hp -> Prop), Rel W e env F σ H L -> IsExn W F x cls dd -> σ[i]? = some (some (.ref a)) -> (∀ vs F' H', Ext F H F' H' -> Shrs W F' ds vs -> Q vs H') -> t a cls dd σ H Q
structure XH {T : Tbl} (W : Wd T) (i : Nat) where
  t : Addr -> Value -> Option Addr -> TS
  ev : Exn -> List Nat -> Py.Env -> RS
  snd : ∀ {x P env} (a : Addr) (cls : Value) (dd : Option Addr), ev x P env ≠ .no -> ∀ (e : Ent) (F : Hp) (σ : St) (H : Hp) (L : List Addr) (E : WX) (Dn : Ends), P = e.pins.map (·.1) -> Rel W e env F σ H L -> IsExn W F x cls dd -> σ[i]? = some (some (.ref a)) -> Sat W e E (ends (ev x P env)) Dn -> t a cls dd Dn σ H
def XQ.evO (m : XQ W i) (x : Exn) (env : Py.Env) : Option D := toO (m.ev x env)
theorem XQ.sO (m : XQ W i) {x : Exn} (h : m.evO x env = some d) (a : Addr) (cls : Value) (dd : Option Addr) : AQ W i x a cls dd (m.t a cls dd) env (rO W d) := by
  unfold XQ.evO at h
  intro e F σ H L Q r ie hs q
  match e2 : m.ev x env, h with
  | some (.fr, d0), h => cases h; exact m.snd e2 a cls dd e F σ H L Q r ie hs q
  | some (.pl, d0), h =>
    obtain ⟨h1, rfl⟩ := ite_some h
    exact m.snd e2 a cls dd e F σ H L Q r ie hs fun v F' H' x' ⟨M, o⟩ => q v F' H' x' (rO_sh (o.shr h1))
  | some (.vw, d0), h =>
    obtain ⟨h1, rfl⟩ := ite_some h
    exact m.snd e2 a cls dd e F σ H L Q r ie hs fun v F' H' x' y => q v F' H' x' (rO_sh (Shr.flat y h1))
def xhAsgK (P : List Nat) (j : Nat) (env : Py.Env) : Option D -> RS
  | some d => RS.ofO (setS P j d env)
  | none => .no
def xhAsg (j : Nat) (m : XQ W i) : XH W i where
  t a cls dd := tAsg (m.t a cls dd) (gName j)
  ev x P env := xhAsgK P j env (m.evO x env)
  snd := fun {x P env} a cls dd hn e F σ H L E Dn hP r ie hs s => by
    match h : m.evO x env, hn, s with
    | none, hn, _ => exact absurd rfl hn
    | some d, hn, s =>
      have hn : RS.ofO (setS P j d env) ≠ .no := hn
      have s : Sat W e E (ends (RS.ofO (setS P j d env))) Dn := s
      cases h2 : setS P j d env with
      | none => rw [h2] at hn; exact absurd rfl hn
      | some e2 =>
        rw [h2] at s
        obtain ⟨⟨h3, h4⟩, rfl⟩ := ite_some h2
        refine m.sO h a cls dd e F σ H L _ r ie hs fun v F' H' x1 ⟨M, o, nd, k⟩ => ?_
        obtain ⟨L2, r2⟩ := (r.ext x1).set (i := j) o (nodup_new (H := H) r.nd nd r.slots.lives fun b m => (k b m).1) (fun b m => ⟨(k b m).2, r.h0 (k b m).1⟩) h3 fun p hm z => h4 (by rw [hP]; exact List.mem_map.mpr ⟨p, hm, z⟩)
        exact s.nx _ _ _ _ _ rfl r2
theorem Slots.junk {F H : Hp} : ∀ {env : Py.Env} {σ : St} {L : List Addr}, Slots W F H env σ L -> ∀ (i : Nat) (o : Option V), ∃ L', Slots W F H (env.set i none) (σ.set i o) L' /\ (∀ a ∈ L', a ∈ L) /\ (L.Nodup -> L'.Nodup)
  | _, _, _, .nil, i, o => ⟨[], .nil, fun _ h => h, id⟩
  | _, _, _, .so (L := L1) (M := M1) h t, 0, o => ⟨M1, .no t, fun a m => List.mem_append_right _ m, fun n => (List.nodup_append.mp n).2.1⟩
  | _, _, _, .so (L := L1) (M := M1) h t, i + 1, o => by
    obtain ⟨L', s, m, n⟩ := t.junk i o
    refine ⟨L1 ++ L', .so h s, fun a ha => ?_, fun nd => ?_⟩
    · rcases List.mem_append.mp ha with z | z
      · exact List.mem_append_left _ z
      · exact List.mem_append_right _ (m a z)
    · rw [List.nodup_append] at nd ⊢
      exact ⟨nd.1, n nd.2.1, fun a ha b hb => nd.2.2 a ha b (m b hb)⟩
  | _, _, _, .no t, 0, o => ⟨_, .no t, fun _ h => h, id⟩
  | _, _, _, .no t, i + 1, o => by
    obtain ⟨L', s, m, n⟩ := t.junk i o
    exact ⟨L', .no s, m, n⟩
theorem Rel.junk {e : Ent} {F H : Hp} {σ : St} {L : List Addr} (r : Rel W e env F σ H L) (i : Nat) (o : Option V) (hp : ∀ p ∈ e.pins, p.1 ≠ i) : ∃ L', Rel W e (env.set i none) F (σ.set i o) H L' := by
  obtain ⟨L', s, m, n⟩ := r.slots.junk i o
  refine ⟨L', r.sF, s, n r.nd, fun a ha => r.dj a (m a ha), r.s0, r.nw, r.fr, fun a ha => r.ln a (m a ha), fun p hm => ?_⟩
  rw [List.getElem?_set_ne (fun z => hp p hm z.symm)]
  exact r.pin p hm
def RS.clr (i : Nat) : RS -> RS
  | .nx e => .nx (e.set i none)
  | .bk e => .bk (e.set i none)
  | .ct e => .ct (e.set i none)
  | .rt d e => .rt d e
  | _ => .no
def tryK (T : Tbl) {W : Wd T} (i : Nat) (c : String) (s : XH W i) (P : List Nat) : RS -> RS
  | .ex x env1 => if T.xsub x.c c = true then (if i ∈ P \/ env1.length <= i then .no else (s.ev x P (env1.set i none)).clr i) else .ex x env1
  | r => r
theorem Slots.len {F H : Hp} {env : Py.Env} {σ : St} {L : List Addr} (h : Slots W F H env σ L) : env.length = σ.length := h.length
def xsTryAs (i : Nat) (c : String) (b : XS W) (s : XH W i) : XS W where
  t E := fun Dn σ H => W.hasX c -> b.t (wAs W.K (.ref (W.cA c)) i s.t E Dn) Dn σ H
  ev P env := tryK T i c s P (b.ev P env)
  snd := fun P E env hn e F σ H L Dn hP r sat hc => by
    have hb : b.ev P env ≠ .no := fun z => hn (by rw [z]; rfl)
    refine b.snd P _ env hb e F σ H L Dn hP r ⟨fun env' F' σ' H' L' h r' => ?_, fun d env' F' σ' H' L' v M h r' => ?_, fun env' F' σ' H' L' h r' => ?_, fun env' F' σ' H' L' h r' => ?_, fun x env1 F1 σ1 H1 L1 C dd h r1 ie => ?_⟩
    · exact sat.nx _ _ _ _ _ (show tryK T i c s P (b.ev P env) = .nx env' by rw [show b.ev P env = .nx env' from h]; rfl) r'
    · exact sat.rt _ _ _ _ _ _ _ _ (show tryK T i c s P (b.ev P env) = .rt d env' by rw [show b.ev P env = .rt d env' from h]; rfl) r'
    · exact sat.bk _ _ _ _ _ (show tryK T i c s P (b.ev P env) = .bk env' by rw [show b.ev P env = .bk env' from h]; rfl) r'
    · exact sat.ct _ _ _ _ _ (show tryK T i c s P (b.ev P env) = .ct env' by rw [show b.ev P env = .ct env' from h]; rfl) r'
    · have h : b.ev P env = .ex x env1 := h
      rw [h] at hn sat
      unfold tryK at hn sat
      refine ⟨T.xsub x.c c, by rw [ie.1]; exact W.xm _ _ ie.2.1 hc, fun ht a ha => ?_, fun hf => ?_⟩
      · dsimp only at hn sat
        rw [if_pos ht] at hn sat
        by_cases hi : i ∈ P \/ env1.length <= i
        · rw [if_pos hi] at hn; exact absurd rfl hn
        · rw [if_neg hi] at hn sat
          rw [not_or] at hi
          have hp : ∀ p ∈ e.pins, p.1 ≠ i := fun p hm z => hi.1 (by rw [hP]; exact List.mem_map.mpr ⟨p, hm, z⟩)
          obtain ⟨L2, r2⟩ := r1.junk i (some (.ref a)) hp
          have hs : (σ1.set i (some (.ref a)))[i]? = some (some (.ref a)) := List.getElem?_set_self (by rw [<- r1.slots.length]; omega)
          have hn2 : s.ev x P (env1.set i none) ≠ .no := fun z => hn (by rw [z]; rfl)
          refine s.snd a C dd hn2 e F1 _ H1 L2 E _ hP r2 ie hs ⟨fun env' F' σ' H' L' h' r' => ?_, fun d env' F' σ' H' L' v M h' r' => ?_, fun env' F' σ' H' L' h' r' => ?_, fun env' F' σ' H' L' h' r' => ?_, fun x' env' F' σ' H' L' C' dd' h' r' ie' => ?_⟩
          · have h' : s.ev x P (env1.set i none) = .nx env' := h'
            obtain ⟨L3, r3⟩ := r'.junk i none hp
            exact sat.nx _ _ _ _ _ (show (s.ev x P (env1.set i none)).clr i = _ by rw [h']; rfl) r3
          · have h' : s.ev x P (env1.set i none) = .rt d env' := h'
            exact sat.rt _ _ _ _ _ _ _ _ (show (s.ev x P (env1.set i none)).clr i = _ by rw [h']; rfl) r'
          · have h' : s.ev x P (env1.set i none) = .bk env' := h'
            obtain ⟨L3, r3⟩ := r'.junk i none hp
            exact sat.bk _ _ _ _ _ (show (s.ev x P (env1.set i none)).clr i = _ by rw [h']; rfl) r3
          · have h' : s.ev x P (env1.set i none) = .ct env' := h'
            obtain ⟨L3, r3⟩ := r'.junk i none hp
            exact sat.ct _ _ _ _ _ (show (s.ev x P (env1.set i none)).clr i = _ by rw [h']; rfl) r3
          · have h' : s.ev x P (env1.set i none) = .ex x' env' := h'
            rw [h'] at hn
            exact absurd rfl hn
      · dsimp only at sat
        rw [if_neg (by rw [hf]; exact Bool.false_ne_true)] at sat
        exact sat.ex x env1 F1 σ1 H1 L1 C dd rfl r1 ie
end
theorem ps_imp {X : Cx} {s : Stmt} {t : TS} {c : Prop} (hc : c) (h : PS X s t) : PS X s (fun Dn σ H => c -> t Dn σ H) := ⟨fun pins s σ H Dn I q => h.run pins s σ H Dn I (q hc)⟩
section
variable {X : Cx} {T : Tbl} {W : Wd T} {E : WX}
theorem px_raise {c : String} {fs : List String} {a : Expr} {es : List Expr} {ta : TA} {x : Str} {p pos pos2 : Pos} {k : Nat} (D : ExcD X.prog X.K X.mg x (W.cA c) (fs.map so)) (hx : W.hasX c) (tk : Takes X E) (hc : X.calm = true) (hr : Room k X.A) (ha : PA X (a :: es) ta) (hg : Gl X x)
    (hd : (x == ("__debug__" : Str)) = false := by decide) (he : starEach (a :: es) X.env = (false, eval a X.env) :: starEach es X.env := by rfl) (hpl : (backTo pos (starEach es X.env)).any (·.1) = false := by rfl) :
    PS X (.Raise (some (.Call (.Name x p) (a :: es) [] pos)) none pos2) (fun _ σ H => W.hasX c -> tMkX (W.cA c) (fs.map so) ta σ H fun cls d H' => E cls d σ H') :=
  ps_imp hx (ps_raise hc tk (pmk_x D hr ha hg hd he hpl))
theorem px_isX {a : Addr} {oe : Obj} {cls : Value} {dd : Option Addr} {pn : List (Addr × Obj)} {e ce : Expr} {te : TE} {p1 pos : Pos} {c : Bool × String} (hz : Zc cls dd oe) (hf : ∃ vs, oe.data = .fields vs) (hm : X.mg "isinstance" = none) (hok : clsXOk W c) (hE : PE (X.suite a ((a, oe) :: pn)) e te)
    (hC : PE (X.suite a ((a, oe) :: pn)) ce (tC (clsV W c))) (hg : Gl (X.suite a ((a, oe) :: pn)) "isinstance" := by rfl)
    (hs : starEach [e, ce] X.env = (false, eval e X.env) :: starEach [ce] X.env := by rfl) (hs2 : starEach [ce] X.env = (false, eval ce X.env) :: starEach [] X.env := by rfl)
    (hpl : (backTo pos (starEach [ce] X.env)).any (·.1) = false := by rfl) :
    PE (X.suite a ((a, oe) :: pn)) (.Call (.Name "isinstance" p1) [e, ce] [] pos) (fun σ H Q => clsXOk W c -> tCB (rIsX X.K a cls dd) (tCons te (tCons (tC (clsV W c)) tNil)) σ H Q) :=
  pe_imp hok (pe_callB (X := X.suite a ((a, oe) :: pn)) (call_isX hz hf) hg hm (by decide +kernel) (pa_cons hE (pa_cons hC pa_nil hs2) hs) (he := hs) (hpl := hpl))
theorem exd_no {P : Program} {K : PySem.W.Frag} {mg : Str -> Option Value} {x : Str} {C : Addr} {fs : List Str} (D : ExcD P K mg x C fs) {f : Str} (h : f ∈ fs) : PySem.W.findIn K (.ref C) f = some none := by
  obtain ⟨_, _, _, _, _, T, _⟩ := D.ex
  exact T.noN f h
theorem px_xf {c f : String} {fs : List String} {x : Str} {a : Addr} {oe : Obj} {cls : Value} {dd : Option Addr} {pn : List (Addr × Obj)} {e : Expr} {te : TE} {pos : Pos} (D : ExcD X.prog X.K X.mg x (W.cA c) (fs.map so)) (hx : W.hasX c) (hK : W.K = X.K) (hm : f ∈ fs)
    (hz : Zc cls dd oe) (hf : ∃ vs, oe.data = .fields vs) (he : PE (X.suite a ((a, oe) :: pn)) e te) (hb : attributeBase e (so f) X.env (eval e X.env) = eval e X.env := by rfl) :
    PE (X.suite a ((a, oe) :: pn)) (.Attribute e (so f) pos) (tXf a cls dd (W.cA c) (so f) te) := by
  have q := W.xc c hx
  rw [hK] at q
  exact pe_xf ⟨q.hg, q.hk, q.hs, q.hd⟩ (exd_no D (List.mem_map_of_mem hm)) hz hf he hb
theorem cx_tk {P : Program} {w : World} {K : PySem.W.Frag} {mg : Str -> Option Value} {base : Heap} {N : List Str} {qual : Str} {sc : Scope} {f : Addr} {cdv : Value} {A : Around} {outer : List PySem.Env} {s : Shared} {H : Hp} {E : XK} :
    Takes (cxOf (L2.CX P w) P w K mg base N qual sc f cdv A outer s H E) (fun c d _ H => E c d H) := takes_of rfl rfl rfl rfl
theorem cx_po {P : Program} {w : World} {K : PySem.W.Frag} {mg : Str -> Option Value} {base : Heap} {N : List Str} {qual : Str} {sc : Scope} {f : Addr} {cdv : Value} {A : Around} {outer : List PySem.Env} {s : Shared} {H : Hp} {E : XK} :
    PassesOwn (model P w) (cxOf (L2.CX P w) P w K mg base N qual sc f cdv A outer s H E).A (cxOf (L2.CX P w) P w K mg base N qual sc f cdv A outer s H E).env (cxOf (L2.CX P w) P w K mg base N qual sc f cdv A outer s H E).xe := passes_of (X := cxOf (L2.CX P w) P w K mg base N qual sc f cdv A outer s H E) rfl
theorem pw_of {P : Program} {w : World} {K : PySem.W.Frag} {mg : Str -> Option Value} {base : Heap} {x qual : Str} {st : Stmt} {N ps : List Str} {k : Nat} {sp : Sp} {f : Addr} {fd : FuncData} (F : FunD K x qual (defArgs st) (defBody st) (defScope st) [] [] f fd) (S : FnScope N ps (defScope st)) (len : ∀ vs H Q E, sp vs H Q E -> vs.length = ps.length)
    (hbody : ∀ (f : Addr) (cdv : Value) (A : Around) (outer : List PySem.Env) (s : Shared) (H : Hp) (vs : List V) (Q : VK) (E : XK), Room k (A.deeper (PyProof.Rows.envOfC qual (defScope st) s.heap.objs.size f cdv)) -> sp vs H Q E ->
      ∃ t, PSs (cxOf (L2.CX P w) P w K mg base N qual (defScope st) f cdv A outer s H E) (defBody st) t /\ t { nx := fun _ H' => Q .non H', rt := Q } (L2.start N vs) H) : FnOk P w K mg base (L2.CX P w) (k + 1) f fd ps sp :=
  F.ok S len fun cdv A outer s H vs Q E hr h => hbody f cdv A outer s H vs Q E hr h
theorem spL_len {K : PySem.W.Frag} : ∀ vs H Q E, spL K vs H Q E -> vs.length = 1 := fun vs H Q E h => by
  obtain ⟨_, _, rfl, _⟩ := h
  rfl
theorem boot_VE : bootBuiltins "ValueError" = some (.type "ValueError") := by decide +kernel
end
end Py
namespace Py
open PySem L2
def IteT (K : PySem.W.Frag) (a : Addr) : It :=
  ⟨fun i H => ∃ (xs : List V) (x : V), SqT K H a xs /\ xs[i]? = some x, fun i H v H' => ∃ T x, v = .ref T /\ H T = none /\ H' = upd H T (.tup [.int (i : Nat), x]) /\ ∀ xs, SqT K H a xs -> xs[i]? = some x, fun i H => ∃ xs : List V, SqT K H a xs /\ xs.length <= i⟩
theorem tup_ne_iter {h : Heap} {a it b : Addr} {xs} {i : Nat} (h1 : h.IsTuple a xs) (h2 : h.IsTupleIter it b i) : a ≠ it := by
  rintro rfl
  obtain ⟨o, e, c, d⟩ := h1
  obtain ⟨o', e', c', d'⟩ := h2
  rw [e] at e'; cases e'
  rw [c] at c'; exact absurd c' (by decide)
theorem tup_ne_enum {h : Heap} {a e b : Addr} {xs} {i : Int} {old : Value} (h1 : h.IsTuple a xs) (h2 : IsEnum h e b i old) : e ≠ a := by
  rintro rfl
  obtain ⟨o, e', c, d⟩ := h1
  have h2 : h.get? _ = some _ := h2
  rw [e'] at h2
  rw [Option.some.inj h2] at c
  have c : Value.type "enumerate" = Value.type "tuple" := c
  exact absurd c (by decide)
theorem turn_enumT {P : Program} {w : World} {K : PySem.W.Frag} {elts : List Expr} {kk : Nat} {tpos : Pos} (a e it : Addr) :
    Turn P w K (.Tuple elts kk tpos) (IteT K a) [e, it] e (fun i h => (∃ old, IsEnum h e it ((i : Nat) : Int) old) /\ h.IsTupleIter it a i /\ e ≠ it) where
  mem := by simp
  obj := fun i h st b hb => by
    obtain ⟨⟨old, he⟩, ⟨o, ho, hc, hd⟩, _⟩ := st
    have e' : b = e \/ b = it := by simpa using hb
    rcases e' with z | z
    · rw [z]; exact ⟨_, he, fun v q => nomatch q⟩
    · rw [z]; exact ⟨o, ho, fun v q => by rw [hd] at q; cases q⟩
  keep := fun i h h' st k => let ⟨⟨old, he⟩, hi, hne⟩ := st; ⟨⟨old, k e (by simp) _ he⟩, hi.at fun o q => k it (by simp) o q, hne⟩
  item := by
    intro X hP hw hK hc i pins s σ H E I hf st hg
    subst hP hw hK
    obtain ⟨⟨old, he⟩, hit, hne⟩ := st
    obtain ⟨xs, x, hq, hx⟩ := hg
    obtain ⟨its, rv, p, hz⟩ := I.tuple hq
    have p' : s.heap.IsTuple a its.toArray := p
    obtain ⟨u0, hu0, ru0⟩ := rv.get hx
    have hlen : i < its.toArray.size := by
      have := (List.getElem?_eq_some_iff.mp hu0).1
      simpa using this
    have hel : e < s.heap.objs.size := Heap.lt_size he
    have hil : it < s.heap.objs.size := by obtain ⟨_, q, _⟩ := hit; exact Heap.lt_size q
    refine wpAny_pyNext_enum_itemD (Draws.tuple (A := X.A.in1) (I.ok.hd hc) it a (tup_ne_iter p' hit) its.toArray) he ⟨hit, p'⟩ hlen hne (by
      have := tup_ne_enum p' he
      simp [hne, this]) fun u h' tk hu ho st' hT hsz hk => ?_
    have hu' : its[i]? = some u := by simpa using hu
    rw [hu0] at hu'; cases hu'
    obtain ⟨hit', _⟩ := st'
    refine ⟨_, rfl, wpAny_letOwnedTupleGo_enum (s := { s with heap := h', toks := tk + 1 }) ho fun h'' he' sb => ?_⟩
    have hT2 : h''.get? s.heap.objs.size = some { cls := .type "tuple", data := .seq #[.int i tk, u0] } := (sb.2 _ (Nat.ne_of_gt hel)).trans hT
    have new : ObjOk X.prog X.w (upd H s.heap.objs.size (.tup [.int (i : Nat), x])) h'' s.heap.objs.size (.tup [.int (i : Nat), x]) :=
      ⟨by show 2 <= sizeLine; decide, [.int i tk, u0], .cons ⟨_, rfl⟩ (.cons ru0 .nil), ⟨_, hT2, rfl, _, rfl⟩⟩
    have I1 : Inv X pins σ (upd H s.heap.objs.size (.tup [.int (i : Nat), x])) { s with heap := h'', toks := tk + 1 } :=
      I.turnedNew (ch := [e, it]) (fun b ob hb q => (sb.2 b (fun z => hb (by simp [z]))).trans (hk b ob (fun z => hb (by simp [z])) (fun z => hb (by simp [z])) q)) hf (Nat.le_refl _) new
    refine ⟨.ref s.heap.objs.size, _, I1, rfl, ⟨_, x, rfl, I.hok.fresh (Nat.le_refl _), rfl, fun ys hy => by rw [I.tuple_inj hy hq]; exact hx⟩, ⟨⟨u0, ?_⟩, hit'.at fun o q => (sb.2 it (Ne.symm hne)).trans q, hne⟩, fun b hb => ?_⟩
    · have e1 : ((i + 1 : Nat) : Int) = (i : Int) + 1 := by omega
      rw [e1]; exact he'
    · have hb' : b < s.heap.objs.size := by
        have e' : b = e \/ b = it := by simpa using hb
        rcases e' with z | z
        · rw [z]; exact hel
        · rw [z]; exact hil
      rw [upd_ne (Nat.ne_of_lt hb')]
      exact (hf b hb).1
  done := by
    intro X hP hw hK hc i pins s σ H E I hf st hg
    subst hP hw hK
    obtain ⟨⟨old, he⟩, hit, hne⟩ := st
    obtain ⟨xs, hq, hx⟩ := hg
    obtain ⟨its, rv, p, hz⟩ := I.tuple hq
    have p' : s.heap.IsTuple a its.toArray := p
    obtain ⟨f0, f1, f2, f3, f4, f5⟩ := hf it (by simp)
    have hl := rv.length
    have hnx : its.toArray[i]? = none := by simp; omega
    have D : Draws X.prog X.w X.A.in1 it [it, a] 0 (fun _ _ => True) (fun _ h => h.IsTupleIter it a i /\ h.IsTuple a its.toArray) := {
      live := fun _ _ st => let ⟨o, ho, _⟩ := st.1; ⟨o, ho⟩
      frame := fun _ _ _ st hk => ⟨st.1.at fun o e => hk it (by simp) o e, st.2.at fun o e => hk a (by simp) o e⟩
      item := fun j s Q E hi st hQ => absurd hi (Nat.not_lt_zero j)
      done := fun s Q E st hE => wpAny_nextOf_tuple_end (I.ok.hd hc) st.1 st.2 hnx hE }
    exact wpAny_pyNext_enum_endD D he ⟨hit, p'⟩ fun h' eb => ⟨rfl, I.turned (t' := s.toks) (fun b o hb q => eb b o hb q) f0 f1 f3 f4 f5⟩
  self := fun A i s Q E st h => let ⟨⟨_, he⟩, _⟩ := st; wpAny_pyIter_enum he h
def iEnumT (K : PySem.W.Frag) (ta : TA) : TI := fun σ H R => ta σ H fun vs H1 => ∃ a xs, vs = [.ref a] /\ SqT K H1 a xs /\ R (IteT K a) H1
theorem pi_enumT {X : Cx} {e : Expr} {ta : TA} {p pos tpos : Pos} {elts : List Expr} {kk : Nat} (hg : Gl X "enumerate") (hm : X.mg "enumerate" = none) (ha : PA X [e] ta) (hs : starEach [e] X.env = [(false, eval e X.env)] := by rfl) :
    PI X (.Tuple elts kk tpos) (.Call (.Name "enumerate" p) [e] [] pos) (iEnumT X.K ta) := by
  refine ⟨fun pins s σ H R I h => ?_⟩
  refine PyProof.Rows.Call_ (ld_blt I hg hm PyProof.Rows.boot_enumerate (PyProof.Rows.callWith_type1 (thn (ha.run pos pins s σ H _ I h) fun us s1 ⟨vs, H1, I1, r1, q1⟩ => ?_) hs rfl))
  obtain ⟨a, xs, ex, hq, q⟩ := q1
  subst ex
  cases r1 with
  | cons r rr =>
    cases rr
    cases r
    obtain ⟨its, rv, p', hz⟩ := I1.tuple hq
    have p2 : s1.heap.IsTuple a its.toArray := p'
    refine call_en ?_
    refine wpAny_pyIter_tuple p2 ?_
    refine ⟨_, rfl, fun h' he hsz hk => wpAny_pyIter_enum he ?_⟩
    generalize hh2 : s1.heap.push { cls := .type "tuple_iterator", data := .fields #[.ref a, .int 0 0] } = h2 at he hsz hk ⊢
    have hk2 : ∀ b o, s1.heap.get? b = some o -> h2.get? b = some o := fun b o q => by rw [<- hh2]; exact Heap.get?_push_of_some _ q
    have hz2 : h2.objs.size = s1.heap.objs.size + 1 := by rw [<- hh2]; exact Heap.size_push ..
    have hit : h2.IsTupleIter s1.heap.objs.size a 0 := ⟨_, by rw [<- hh2]; exact Heap.get?_push_size _ rfl, rfl, rfl⟩
    have I2 : Inv X pins σ H1 { s1 with heap := h' } := I1.kept (t' := s1.toks) fun b o q => hk b o (hk2 b o q)
    refine ⟨h2.objs.size, [h2.objs.size, s1.heap.objs.size], _, _, H1, rfl, I2, turn_enumT a h2.objs.size s1.heap.objs.size, ⟨⟨.none, he⟩, hit.at fun o q => hk _ _ q, by rw [hz2]; exact Nat.succ_ne_self _⟩, fun b hb => ?_, q⟩
    have e' : b = h2.objs.size \/ b = s1.heap.objs.size := by simpa using hb
    have hle : s1.heap.objs.size <= b := by
      rcases e' with z | z
      · rw [z, hz2]; exact Nat.le_add_right _ _
      · rw [z]; exact Nat.le_refl _
    exact I1.fpOk hle (I1.hok.fresh hle)
theorem seq_enumT {T : Tbl} {W : Wd T} {F0 : Hp} {a : Addr} {ds : List D} {vs : List V} (h : F0 a = some (.tup vs)) (hs : Shrs W F0 ds vs) : Seq W (IteT W.K a) (enumD ds) F0 where
  go := fun i d F H s1 s2 hd => by
    obtain ⟨y, hy, rfl⟩ := enumD_get hd
    obtain ⟨w, hw, sw⟩ := hs.get hy
    refine ⟨⟨vs, w, .of (s2 _ _ (s1 _ _ h)), hw⟩, fun x H' yl => ?_⟩
    obtain ⟨T, y', rfl, hT', rfl, hy'⟩ := yl
    have := hy' vs (.of (s2 _ _ (s1 _ _ h)))
    rw [hw] at this; cases this
    exact ⟨_, .new s2 hT', .tup upd_same (.cons .int (.cons ((sw.mono s1).mono (same_new (s2.free hT'))) .nil))⟩
  stop := fun F H s1 s2 => ⟨vs, .of (s2 _ _ (s1 _ _ h)), by rw [enumD_length, hs.length]; exact Nat.le_refl _⟩
theorem ait_enumT {T : Tbl} {W : Wd T} {t : TE} {env : Py.Env} {ds : List D} (h : AE W t env (rF W (.tup ds))) : AIt W (iEnumT W.K (tCons t tNil)) env (enumD ds) := fun e F σ H L R r q =>
  h e F σ H L _ r fun v F1 H1 x1 y1 => by
    cases y1 with
    | tup hF hS => exact ⟨_, _, rfl, .of (x1.s _ _ hF), q _ F1 H1 x1 (seq_enumT hF hS)⟩
section
variable {T : Tbl} {W : Wd T}
def enTI (T : Tbl) : D -> Option (List D)
  | .tup xs => some (enumD xs)
  | d => enFI T d
theorem enTI_cases {d : D} {ds : List D} (h : enTI T d = some ds) : (∃ xs, d = .tup xs /\ ds = enumD xs) \/ enFI T d = some ds := by
  unfold enTI at h
  split at h
  · exact .inl ⟨_, rfl, (Option.some.inj h).symm⟩
  · exact .inr h
def xiEnumT (a : XP W) : XI W where
  t := fun σ H R => (xiEnumU a).t σ H R \/ iEnumT W.K (tCons a.t tNil) σ H R
  evF env := (a.evF env).bind (enTI T)
  evP env := (xiEnumU a).evP env
  sF := fun {env ds} e => by
    obtain ⟨d, e1, e⟩ := Option.bind_eq_some_iff.mp e
    rcases enTI_cases e with ⟨xs, rfl, rfl⟩ | h
    · exact fun e' F σ H L R r q => .inr (ait_enumT (a.sF e1) e' F σ H L R r q)
    · exact fun e' F σ H L R r q => .inl ((xiEnumU a).sF (show (a.evF env).bind (enFI T) = some ds by rw [e1]; exact h) e' F σ H L R r q)
  sP := fun {env ds} e => fun e' F σ H L R r q => .inl ((xiEnumU a).sP e e' F σ H L R r q)
end
end Py
namespace Py
open PySem L2
mutual
def oNl : D -> Bool
  | .olst xs => oNls xs
  | .odic _ xs => oNls xs
  | .odit _ xs => oNls xs
  | .oins _ _ xs => oNls xs
  | .tup xs => oNls xs
  | .dic _ xs => oNls xs
  | .dit _ xs => oNls xs
  | .ins _ _ xs => oNls xs
  | .non | .bl _ | .int _ | .str _ | .cls _ => true
  | _ => false
def oNls : List D -> Bool
  | [] => true
  | d :: ds => oNl d && oNls ds
end
theorem oNls_all : ∀ {ds : List D}, (∀ d ∈ ds, oNl d = true) -> oNls ds = true
  | [], _ => by rw [oNls]
  | d :: ds, h => by rw [oNls, h d (by simp), oNls_all fun x m => h x (List.mem_cons_of_mem _ m)]; rfl
section
variable {T : Tbl} {W : Wd T}
theorem keep_at {F F' : Hp} (hF : ∀ b o, F b = some o -> F' b = some o \/ ∃ vs, o = .lst vs) {b : Addr} {o : HO} (h : F b = some o) (hn : ∀ vs, o ≠ .lst vs) : F' b = some o :=
  (hF b o h).elim id fun ⟨vs, e⟩ => absurd e (hn vs)
theorem keep_rd {F F' : Hp} (hF : ∀ b o, F b = some o -> F' b = some o \/ ∃ vs, o = .lst vs) {b : Addr} {u : HO} (h : Rd F b u) (hn : ∀ vs, u ≠ .lst vs) : Rd F' b u :=
  h.elim (fun h => .inl (keep_at hF h hn)) fun ⟨o, h⟩ => .inr ⟨o, keep_at hF h fun _ z => nomatch z⟩
mutual
theorem Shr.unl {F F' : Hp} (hF : ∀ b o, F b = some o -> F' b = some o \/ ∃ vs, o = .lst vs) : ∀ {d : D} {v : V}, Shr W F d v -> oNl d = true -> Shr W F' d v
  | _, _, .non, _ => .non
  | _, _, .bl, _ => .bl
  | _, _, .int, _ => .int
  | _, _, .str, _ => .str
  | _, _, .cls h, _ => .cls h
  | _, _, .sei h n, e => by simp [oNl] at e
  | _, _, .scr h, e => by simp [oNl] at e
  | _, _, .tup h hs, e => .tup (keep_at hF h fun _ z => nomatch z) (Shrs.unl hF hs (by rw [oNl] at e; exact e))
  | _, _, .lst h hs, e => by simp [oNl] at e
  | _, _, .dic h l n hs, e => .dic (keep_rd hF h fun _ z => nomatch z) l n (Shrs.unl hF hs (by rw [oNl] at e; exact e))
  | _, _, .dit h l n hs, e => .dit (keep_rd hF h fun _ z => nomatch z) l n (Shrs.unl hF hs (by rw [oNl] at e; exact e))
  | _, _, .dig h k l hs, e => by simp [oNl] at e
  | _, _, .ins h c l hs, e => .ins (keep_at hF h fun _ z => nomatch z) c l (Shrs.unl hF hs (by rw [oNl] at e; exact e))
theorem Shrs.unl {F F' : Hp} (hF : ∀ b o, F b = some o -> F' b = some o \/ ∃ vs, o = .lst vs) : ∀ {d : List D} {v : List V}, Shrs W F d v -> oNls d = true -> Shrs W F' d v
  | _, _, .nil, _ => .nil
  | _, _, .cons h t, e => by
    rw [oNls, Bool.and_eq_true] at e
    exact .cons (Shr.unl hF h e.1) (Shrs.unl hF t e.2)
end
mutual
theorem Own.unl {F F' H : Hp} (hF : ∀ b o, F b = some o -> F' b = some o \/ ∃ vs, o = .lst vs) : ∀ {d : D} {v : V} {L : List Addr}, Own W F H d v L -> oNl d = true -> Own W F' H d v L
  | _, _, _, .sh h, e => .sh (h.unl hF e)
  | _, _, _, .olst h t, e => .olst h (Owns.unl hF t (by rw [oNl] at e; exact e))
  | _, _, _, .odic h l n t, e => .odic h l n (Owns.unl hF t (by rw [oNl] at e; exact e))
  | _, _, _, .odit h l n t, e => .odit h l n (Owns.unl hF t (by rw [oNl] at e; exact e))
  | _, _, _, .odig h k l t, e => by simp [oNl] at e
  | _, _, _, .oins h c l t, e => .oins h c l (Owns.unl hF t (by rw [oNl] at e; exact e))
theorem Owns.unl {F F' H : Hp} (hF : ∀ b o, F b = some o -> F' b = some o \/ ∃ vs, o = .lst vs) : ∀ {d : List D} {v : List V} {L : List Addr}, Owns W F H d v L -> oNls d = true -> Owns W F' H d v L
  | _, _, _, .nil, _ => .nil
  | _, _, _, .cons h t, e => by
    rw [oNls, Bool.and_eq_true] at e
    exact .cons (Own.unl hF h e.1) (Owns.unl hF t e.2)
end
def ofB (o : Option D) : Option (Kd × D) := o.bind fun d => if oNl d = true then some (.fr, d) else none
theorem ofB_ok {o : Option D} {k : Kd} {d : D} (h : ofB o = some (k, d)) : o = some d /\ oNl d = true /\ k = .fr := by
  obtain ⟨x, e1, e⟩ := Option.bind_eq_some_iff.mp h
  obtain ⟨e2, e⟩ := ite_some e
  cases e
  exact ⟨e1, e2, rfl⟩
def lentE (φ : Sem) (c ini : String) (n : Nat) (o : Option (List D)) : Option (Kd × D) := match o with
  | some xs => ofB (mk1 φ c ini n [.lst xs])
  | none => none
end
end Py
namespace Py
open PySem L2
section
variable {T : Tbl} {W : Wd T}
end
end Py
namespace Py
open PySem L2 PyProof.Rows
section
variable {T : Tbl} {W : Wd T}
end
end Py
namespace Py
open PySem L2 PyProof.Rows
section
variable {T : Tbl} {W : Wd T}
end
end Py
namespace Py
open PySem L2
section
variable {T : Tbl} {W : Wd T}
def onL (As : List Addr) (H F : Hp) : Hp := fun b => if b ∈ As then H b else F b
theorem onL_in {As : List Addr} {H F : Hp} {b : Addr} (h : b ∈ As) : onL As H F b = H b := if_pos h
theorem onL_out {As : List Addr} {H F : Hp} {b : Addr} (h : b ∉ As) : onL As H F b = F b := if_neg h
theorem onL_same {As : List Addr} {F H : Hp} (s : Same F H) : Same F (onL As H F) /\ Same (onL As H F) H := by
  constructor
  · intro b o h
    by_cases e : b ∈ As
    · rw [onL_in e]; exact s _ _ h
    · rw [onL_out e]; exact h
  · intro b o h
    by_cases e : b ∈ As
    · rw [onL_in e] at h; exact h
    · rw [onL_out e] at h; exact s _ _ h
inductive Lents {T : Tbl} (W : Wd T) (F H : Hp) : List D -> List V -> List Addr -> Prop
  | nil : Lents W F H [] [] []
  | sh {d v ds vs As} : Shr W F d v -> Lents W F H ds vs As -> Lents W F H (d :: ds) (v :: vs) As
  | le {a xs ws ds vs As} : H a = some (.lst ws) -> Shrs W F xs ws -> Lents W F H ds vs As -> Lents W F H (.lst xs :: ds) (.ref a :: vs) (a :: As)
theorem Lents.ext {F H F' H' : Hp} (x : Ext F H F' H') : ∀ {ds : List D} {vs : List V} {As : List Addr}, Lents W F H ds vs As -> Lents W F' H' ds vs As
  | _, _, _, .nil => .nil
  | _, _, _, .sh h t => .sh (h.mono x.f) (t.ext x)
  | _, _, _, .le h s t => .le (x.h _ _ h) (s.mono x.f) (t.ext x)
theorem Lents.lists {F H : Hp} : ∀ {ds : List D} {vs : List V} {As : List Addr}, Lents W F H ds vs As -> ∀ b ∈ As, ∃ ws, H b = some (.lst ws)
  | _, _, _, .nil, b, m => nomatch m
  | _, _, _, .sh h t, b, m => t.lists b m
  | _, _, _, .le h s t, b, m => by
    rcases List.mem_cons.mp m with rfl | m
    · exact ⟨_, h⟩
    · exact t.lists b m
theorem Lents.shrs {F H : Hp} {Bs : List Addr} (s : Same F H) : ∀ {ds : List D} {vs : List V} {As : List Addr}, Lents W F H ds vs As -> (∀ b ∈ As, b ∈ Bs) -> Shrs W (onL Bs H F) ds vs
  | _, _, _, .nil, _ => .nil
  | _, _, _, .sh h t, k => .cons (h.mono (onL_same s).1) (t.shrs s k)
  | _, _, _, .le h u t, k => .cons (.lst (by rw [onL_in (k _ (List.mem_cons_self ..))]; exact h) (u.mono (onL_same s).1)) (t.shrs s fun b m => k b (List.mem_cons_of_mem _ m))
structure XB {T : Tbl} (W : Wd T) where
  t : TA
  ev : Py.Env -> Option (List D)
  snd : ∀ {env ds}, ev env = some ds -> ∀ (e : Ent) (F : Hp) (σ : St) (H : Hp) (L : List Addr) (Q : List V -> Hp -> Prop), Rel W e env F σ H L -> (∀ vs F' H' As, Ext F H F' H' -> Lents W F' H' ds vs As -> Q vs H') -> t σ H Q
end
end Py
namespace Py
open PySem L2
section
variable {T : Tbl} {W : Wd T} {P : Program} {w : World}
def DKeys (P : Program) (w : World) (H : Hp) (ks : List NestedKey) (kas : List Addr) : Prop := ∀ h, HOk P w H h -> ∀ (i : Nat) (k : NestedKey) (ka : Addr), ks[i]? = some k -> kas[i]? = some ka -> (nestedKind P w).is h k ka
def GD (P : Program) (w : World) (H : Hp) (a : Addr) (ks : List NestedKey) (kas : List Addr) (vs : List V) : Prop := H a = some (.ext (digP P w a ks kas vs)) /\ DKeys P w H ks kas
theorem zip3_get {α β γ : Type} {as : List α} {bs : List β} {cs : List γ} {i : Nat} {x : α × β × γ} (h : (as.zip (bs.zip cs))[i]? = some x) : as[i]? = some x.1 /\ bs[i]? = some x.2.1 /\ cs[i]? = some x.2.2 := by
  rw [List.getElem?_zip_eq_some, List.getElem?_zip_eq_some] at h
  exact ⟨h.1, h.2.1, h.2.2⟩
theorem zip3_fst {α β γ : Type} {as : List α} {bs : List β} {cs : List γ} (h1 : as.length = bs.length) (h2 : as.length = cs.length) : (as.zip (bs.zip cs)).map (·.1) = as := by
  rw [List.map_fst_zip]
  rw [List.length_zip]; omega
structure GOk (P : Program) (w : World) (h : Heap) (a : Addr) (ks : List NestedKey) (kas : List Addr) (vs : List V) (us : List Value) : Prop where
  ns : (a == sysModules) = false
  rv : Vals vs us
  l1 : ks.length = kas.length
  l2 : ks.length = us.length
  sz : us.length <= sizeLine
  at' : h.DictOfH (nestedKind P w) a (ks.zip (kas.zip us))
  nd : ks.Nodup
theorem GD.ok {H : Hp} {h : Heap} {a : Addr} {ks : List NestedKey} {kas : List Addr} {vs : List V} (g : GD P w H a ks kas vs) (ok : HOk P w H h) : ∃ us, GOk P w h a ks kas vs us := by
  obtain ⟨⟨ns, us, rv, l1, l2, sz, o, es, ep, ho, hx, hd, he, hn⟩, _⟩ := ok _ _ g.1
  refine ⟨us, ns, rv, l1, l2, sz, ⟨o, es, ep, ho, hx, hd, he, fun x hx => ?_, ?_⟩, hn⟩
  · obtain ⟨i, hi⟩ := List.mem_iff_getElem?.mp hx
    obtain ⟨h1, h2, _⟩ := zip3_get hi
    exact g.2 h ok i _ _ h1 h2
  · rw [zip3_fst l1 l2]; exact hn
theorem GOk.dig {h : Heap} {a : Addr} {ks : List NestedKey} {kas : List Addr} {vs : List V} {us : List Value} (g : GOk P w h a ks kas vs us) : digP P w a ks kas vs h := by
  obtain ⟨o, es, ep, ho, hx, hd, he, _, _⟩ := g.at'
  exact ⟨g.ns, us, g.rv, g.l1, g.l2, g.sz, o, es, ep, ho, hx, hd, he, g.nd⟩
theorem GOk.new {H : Hp} {h : Heap} {a : Addr} {ks : List NestedKey} {kas : List Addr} {vs : List V} {us : List Value} (g : GOk P w h a ks kas vs us) : ObjOk P w H h a (.ext (digP P w a ks kas vs)) := by
  have ⟨o, _, _, ho, _⟩ := g.at'
  refine ⟨g.dig, ⟨o, ho⟩, fun h1 h2 p k => ?_⟩
  obtain ⟨ns, us, rv, l1, l2, sz, o, es, ep, ho, r⟩ := p
  exact ⟨ns, us, rv, l1, l2, sz, o, es, ep, k o ho, r⟩
section
variable {X : Cx} {pins : List (Addr × Obj)} {σ : St} {H : Hp} {s : Shared} {A : Around} {E : Value -> Shared -> Prop} {a : Addr} {ks : List NestedKey} {kas : List Addr} {vs : List V} {k : NestedKey} {ka : Addr} {y v : V} {u r : Value}
end
section
variable {X : Cx} {o e f i : Expr} {apos cpos pos' : Pos} {td ty tx : TE}
end
end
end Py
namespace Py
open PySem L2
section
variable {X : Cx} {o e f i : Expr} {apos cpos pos' : Pos} {td ty tx : TE}
theorem vals2 {x y : V} {us : List Value} (h : Vals [x, y] us) : ∃ u v, us = [u, v] /\ RelV x u /\ RelV y v := by
  cases h with
  | cons a b =>
    obtain ⟨v, rfl, r⟩ := vals1 b
    exact ⟨_, _, rfl, a, r⟩
end
section
variable {T : Tbl} {W : Wd T} {env : Py.Env} {d : D}
theorem GD.mono {P : Program} {w : World} {H H' : Hp} {a : Addr} {ks : List NestedKey} {kas : List Addr} {vs : List V} (g : GD P w H a ks kas vs) (e : Same H H') (k : DKeys P w H' ks kas) : GD P w H' a ks kas vs := ⟨e _ _ g.1, k⟩
end
end Py
namespace Py
open PySem L2
section
variable {T : Tbl} {W : Wd T} {env : Py.Env} {d : D}
end
end Py
namespace Py
open PySem L2
section
variable {T : Tbl} {W : Wd T} {env : Py.Env} {d : D}
end
end Py
namespace Py
open PySem L2
def spEn : Sp := fun vs H Q _ => ∃ x, vs = [x] /\ Q x H
def spEx (P : Program) (w : World) (K : PySem.W.Frag) (f : String) : Sp := fun vs H Q _ => ∃ a C dx fs d ks kas ws, vs = [.ref a, .non, .non, .non] /\ H a = some (.ins C dx fs) /\ Cls K C /\ NoAttr K C (so f) /\ fs.lookup (so f) = some (.ref d) /\ GD P w H d ks kas ws /\ Q .non (upd H d (.ext (digP P w d [] [] [])))
structure WiOk (P : Program) (w : World) (K : PySem.W.Frag) (mg : Str -> Option Value) (base : Heap) (k : Nat) (C : Addr) (f : String) : Prop where
  en : MdOk P w K mg base k C "__enter__" 1 spEn
  ex : MdOk P w K mg base k C "__exit__" 4 (spEx P w K f)
section
variable {T : Tbl} {W : Wd T} {env : Py.Env} {d : D}
theorem Rel.pinned {e : Ent} {F H : Hp} {σ : St} {L : List Addr} {j : Nat} {v : V} (r : Rel W e env F σ H L) (h : σ[j]? = some (some v)) : Rel W { e with pins := (j, v) :: e.pins } env F σ H L :=
  ⟨r.sF, r.slots, r.nd, r.dj, r.s0, r.nw, r.fr, r.ln, fun p hp => by
    rcases List.mem_cons.mp hp with rfl | hp
    · exact h
    · exact r.pin p hp⟩
theorem Rel.unpinned {e : Ent} {F H : Hp} {σ : St} {L : List Addr} {j : Nat} {v : V} (r : Rel W { e with pins := (j, v) :: e.pins } env F σ H L) : Rel W e env F σ H L :=
  ⟨r.sF, r.slots, r.nd, r.dj, r.s0, r.nw, r.fr, r.ln, fun p hp => r.pin p (List.mem_cons_of_mem _ hp)⟩
end
end Py
namespace Py
open PySem L2 PyProof.Rows GenW
section
variable {M : Model} {A : Around} {R : GenEnd} {Y : Protocol} {n : Nat} {s₀ : Shared} {c : Code} {fs : List Frame} {s : Shared} {env : PySem.Env} {K : Flow -> PySem.Sem PySem.Fin} {H : Value -> PySem.Sem PySem.Fin} {gd : Bool -> Bool} {lv : List Value -> List Value}
end
section
variable {prog : Program} {w : World} {A : Around} {R : GenEnd} {Y : Protocol} {n : Nat} {s₀ : Shared} {fs : List Frame} {s : Shared} {env : PySem.Env}
end
section
variable {X : Cx}
end
end Py
namespace Py
open PySem L2 PyProof.Rows GenW
inductive RY where
  | nx (ys : List D) (env : Py.Env) | bk (ys : List D) (env : Py.Env) | ct (ys : List D) (env : Py.Env) | ex (x : Exn) (env : Py.Env) | no
structure YEnds where
  nx : List D -> Py.Env -> Prop
  bk : List D -> Py.Env -> Prop := fun _ _ => False
  ct : List D -> Py.Env -> Prop := fun _ _ => False
  ex : Exn -> Py.Env -> Prop := fun _ _ => False
def endsY (r : RY) : YEnds where
  nx ys e := r = .nx ys e
  bk ys e := r = .bk ys e
  ct ys e := r = .ct ys e
  ex x e := r = .ex x e
section
variable {T : Tbl} {W : Wd T} {env : Py.Env} {P : List Nat} {E : WX} {A : YEnds} {ys : List D}
structure SatY {T : Tbl} (W : Wd T) (e : Ent) (E : WX) (A : YEnds) (Dn : GEnds) : Prop where
  nx : ∀ ys env F σ H L vs, A.nx ys env -> Rel W e env F σ H L -> Shrs W F ys vs -> Dn.nx vs σ H
  bk : ∀ ys env F σ H L vs, A.bk ys env -> Rel W e env F σ H L -> Shrs W F ys vs -> Dn.bk vs σ H
  ct : ∀ ys env F σ H L vs, A.ct ys env -> Rel W e env F σ H L -> Shrs W F ys vs -> Dn.ct vs σ H
  ex : ∀ x env F σ H L C d, A.ex x env -> Rel W e env F σ H L -> IsExn W F x C d -> E C d σ H
def AY {T : Tbl} (W : Wd T) (P : List Nat) (E : WX) (t : TGn) (ys : List D) (env : Py.Env) (A : YEnds) : Prop :=
  ∀ (e : Ent) (F : Hp) (σ : L2.St) (H : Hp) (L : List Addr) (vs : List V) (Dn : GEnds), P = e.pins.map (·.1) -> Rel W e env F σ H L -> Shrs W F ys vs -> SatY W e E A Dn -> t Dn vs σ H
theorem SatY.weaken {A' : YEnds} {e : Ent} {Dn : GEnds} (s : SatY W e E A Dn) (nx : ∀ ys e, A'.nx ys e -> A.nx ys e) (bk : ∀ ys e, A'.bk ys e -> A.bk ys e) (ct : ∀ ys e, A'.ct ys e -> A.ct ys e) (ex : ∀ x e, A'.ex x e -> A.ex x e) : SatY W e E A' Dn :=
  ⟨fun _ _ _ _ _ _ _ a => s.nx _ _ _ _ _ _ _ (nx _ _ a), fun _ _ _ _ _ _ _ a => s.bk _ _ _ _ _ _ _ (bk _ _ a), fun _ _ _ _ _ _ _ a => s.ct _ _ _ _ _ _ _ (ct _ _ a), fun _ _ _ _ _ _ _ _ a => s.ex _ _ _ _ _ _ _ _ (ex _ _ a)⟩
theorem AY.weaken {t : TGn} {A' : YEnds} (h : AY W P E t ys env A') (nx : ∀ ys e, A'.nx ys e -> A.nx ys e) (bk : ∀ ys e, A'.bk ys e -> A.bk ys e) (ct : ∀ ys e, A'.ct ys e -> A.ct ys e) (ex : ∀ x e, A'.ex x e -> A.ex x e) : AY W P E t ys env A :=
  fun e F σ H L vs Dn hP r sh s => h e F σ H L vs Dn hP r sh (s.weaken nx bk ct ex)
structure XY {T : Tbl} (W : Wd T) where
  t : WX -> TGn
  ev : List Nat -> List D -> Py.Env -> RY
  snd : ∀ P E ys env, ev P ys env ≠ .no -> AY W P E (t E) ys env (endsY (ev P ys env))
def RY.then (r : RY) (f : List D -> Py.Env -> RY) : RY := match r with
  | .nx ys e => f ys e
  | r => r
end
end Py
namespace Py
open PySem L2 PyProof.Rows GenW
section
variable {T : Tbl} {W : Wd T}
end
structure MgOk (P : Program) (w : World) (K : PySem.W.Frag) (mg : Str -> Option Value) (base : Heap) (k : Nat) (C : Addr) (m : String) (n : Nat) (sp : SpG) : Prop where
  ex : ∃ g fd ps, Meth K C (so m) g /\ GFn P w K mg base k g fd ps sp /\ Binds K fd ps [] /\ ps.length = n
section
variable {P : Program} {w : World} {K : PySem.W.Frag} {mg : Str -> Option Value} {base : Heap}
end
section
variable {T : Tbl} {W : Wd T} {X : Cx}
end
end Py
namespace Py
open PySem L2
section
variable {T : Tbl} {W : Wd T}
end
end Py
namespace Py
open PySem L2
section
variable {T : Tbl} {W : Wd T}
end
end Py
namespace Py
open PySem L2
section
variable {T : Tbl} {W : Wd T}
end
end Py
namespace Py
open PySem L2
section
variable {T : Tbl} {W : Wd T}
end
end Py
namespace Py
open PySem L2 PyProof.Rows GenW
end Py
namespace Py
open PySem L2
section
variable {T : Tbl} {W : Wd T} {env : Py.Env}
end
end Py
namespace Py
open PySem L2
section
variable {T : Tbl} {W : Wd T}
end
end Py
namespace Py
open PySem L2
section
variable {T : Tbl} {W : Wd T}
end
end Py
namespace Py
open PySem L2
structure CmAt (K : PySem.W.Frag) (C : Addr) (m : String) (x qual : Str) (st : Stmt) : Prop where
  ex : ∃ p g fd mc, FunD K x qual (defArgs st) (defBody st) (defScope st) [] [] g fd /\ ClX.CRead K C mc /\ ClX.CMet K C mc (so m) p g
structure CmOk (P : Program) (w : World) (K : PySem.W.Frag) (mg : Str -> Option Value) (base : Heap) (k : Nat) (C : Addr) (m : String) (n : Nat) (sp : Sp) : Prop where
  ex : ∃ p g fd ps mc, ClX.CRead K C mc /\ ClX.CMet K C mc (so m) p g /\ FnOk P w K mg base (L2.CX P w) k g fd ps sp /\ Binds K fd ps [] /\ ps.length = n
section
variable {P : Program} {w : World} {K : PySem.W.Frag} {mg : Str -> Option Value} {base : Heap}
end
section
variable {X : Cx} {T : Tbl} {W : Wd T}
end
end Py
namespace Py
open PySem L2
section
variable {T : Tbl} {W : Wd T}
end
end Py
namespace Py
open PySem L2 NdefX
structure SupT (P : Program) (K : PySem.W.Frag) (D g : Addr) (fd : FuncData) (cda cc : Addr) : Prop where
  look : ∃ oc od osl, K.lookup g = some ⟨oc, od, .func fd, osl⟩
  head : ∃ ar : Arg, (fd.params.posonlyargs ++ fd.params.args).head? = some ar /\ ar.arg = ("self" : Str)
  code : ∃ ccl cdd vs ccs file tf, K.lookup cda = some ⟨ccl, cdd, .fields vs, ccs⟩ /\ vs[2]? = some (.str file tf) /\ ((P.main.file : Str) == file) = true
  cell : ∃ cl cld csl, K.lookup cc = some ⟨cl, cld, .cell (some (.ref D)), csl⟩
  dcl : ∃ cd, PySem.W.clsIn K D = some cd
  top : (P.main.scope.names.lookup ("super" : Str)).isSome = false
section
variable {M : Model} {A : Around} {E : Value -> Shared -> Prop} {s : Shared} {env : PySem.Env} {c0 : Code}
end
structure SupM (P : Program) (w : World) (K : PySem.W.Frag) (mg : Str -> Option Value) (base : Heap) {T : Tbl} (W : Wd T) (k : Nat) (φ : Sem) (D : Addr) (m : Str) (r : String -> Option String) : Prop where
  at_ : ∀ c nm, W.has c -> r c = some nm -> ∃ g2 fd2 ps2, PySem.W.ks_superIn K (W.cA c) D m = some (some (.ref g2)) /\ PySem.W.typeIn K (.ref g2) = some (.type "function") /\ PySem.W.mroIn K (W.cA c) (.ref D) = some true /\ PySem.W.fnIn K g2 = true /\
    FnOk P w K mg base (L2.CX P w) k g2 fd2 ps2 (spR W 2 (φ nm) none) /\ Binds K fd2 ps2 []
end Py
namespace Py
open PySem L2
structure Mk0 (K : PySem.W.Frag) (C : Addr) : Prop where
  makes : PySem.W.makesIn K C = true
  init : PySem.W.findIn K (.ref C) "__init__" = some (some (.builtin "object.__init__"))
  top : PySem.W.mroIn K C (.type "object") = some true
  kp : PySem.W.keepIn K (.ref C) = true
section
variable {X : Cx} {C : Addr} {pins : List (Addr × Obj)} {σ : L2.St} {H : Hp} {s : Shared} {Q : VK}
end
section
variable {T : Tbl} {W : Wd T}
end
end Py
namespace Py
open PySem L2 NdefX
section
variable {T : Tbl} {W : Wd T}
end
open PySem.W in
structure SupAt (P : Program) (K : Frag) (C : Addr) (m : String) (qual : Str) (st : Stmt) (D : Addr) : Prop where
  ex : ∃ (g cda cc : Addr) (doc pm ct : Value) (an : Option Addr), Meth K C (so m) g /\ codeIn K (.ref cda) qual = true /\ SupT P K D g (ksFn (so m) qual (defArgs st) (defBody st) (defScope st) .none .none doc pm an (.ref cda) ct cc) cda cc
open PySem.W in
structure SupC (K : Frag) (C D : Addr) (m : String) (E : Addr) : Prop where
  ex : ∃ g2, ks_superIn K C D (so m) = some (some (.ref g2)) /\ findIn K (.ref E) (so m) = some (some (.ref g2)) /\ typeIn K (.ref g2) = some (.type "function") /\ mroIn K C (.ref D) = some true /\ fnIn K g2 = true
section
variable {P : Program} {w : World} {K : PySem.W.Frag} {mg : Str -> Option Value} {base : Heap} {T : Tbl} {W : Wd T}
end
end Py
namespace Py
open PySem L2 PyProof.Rows
end Py
namespace Py
open PySem L2 PyProof.Rows
section
variable {P : Program} {w : World} {A : Around} {E : Value -> Shared -> Prop} {s : Shared} {a b : Addr}
end
end Py
namespace Py
open PySem L2 PyProof.Rows
section
variable {P : Program} {w : World} {A : Around} {E : Value -> Shared -> Prop} {s : Shared} {a b : Addr}
end
end Py
namespace Py
open PySem L2 PyProof.Rows
section
variable {T : Tbl} {W : Wd T}
end
end Py
namespace Py
open PySem L2
theorem nr {α : Type} {a b : α} (h : a = b) : a = b := h
theorem atI_litN {α : Type} {xs : List α} (n : Nat) : atI xs (n : Int) = xs[n]? := by
  unfold atI ixN
  rw [if_pos (by omega)]
  by_cases h : (n : Int) < xs.length
  · rw [if_pos h]; rfl
  · rw [if_neg h, List.getElem?_eq_none (by omega)]; rfl
theorem atI_last {α : Type} {xs : List α} : atI xs (-1) = xs.getLast? := by
  unfold atI ixN
  rw [if_neg (by omega)]
  cases xs with
  | nil => rfl
  | cons x xs =>
    rw [if_pos (by simp; omega), List.getLast?_eq_getElem?]
    show (x :: xs)[_]? = _
    congr 1
    simp
    omega
def callE (φ : List D -> Option Nat -> Rz) (n : Nat) (dds : List D) (f v : Option (List D)) : Option (Kd × D) := match f with
  | some ds => if (ds ++ dds).length = n then (φ (ds ++ dds) none).toF else none
  | none => match v with
    | some ds => if (ds ++ dds).length = n then (φ (ds ++ dds) none).toV else none
    | none => none
def turnE (o : Option Py.Env) (f : Py.Env -> RS) : RS := match o with
  | some e => f e
  | none => .no
def forE (f : D -> Py.Env -> RS) (o : Option (List D)) (env : Py.Env) : RS := match o with
  | some ds => forL f ds env
  | none => .no
def frzO (env : Py.Env) (i : Nat) : Option D -> Py.Env
  | some d => env.set i (some (fz d))
  | none => env
def resE (o : Option String) (f : String -> Rz) : Rz := match o with
  | some nm => f nm
  | none => .no
def lenQ (o : Option String) (f : String -> Option D) : Option D := match o with
  | some nm => f nm
  | none => none
def lenR : Rz -> Option D
  | .ok (.int i) _ => if 0 <= i /\ i <= 1000000 then some (.int i) else none
  | _ => none
def itQ (o : Option (List D)) (f : List D -> Option (Kd × D)) : Option (Kd × D) := match o with
  | some zs => f zs
  | none => none
def setO (xs : List D) (o : Option Nat) (y : D) : List D := match o with
  | some j => xs.set j y
  | none => xs
def putE (d : D) (s : Pst) (st : List Pst) (n : D) (o : Option D) : D := match o with
  | some x => d.put s (x.putAt st n)
  | none => d
def retZ (o : Option (Option D)) (d : D) : Rz := match o with
  | some x => .ok d x
  | none => .no
def retX (o : Option (Option D)) (x : Exn) : Rz := match o with
  | some y => .exn x y
  | none => .no
def tryJ {T : Tbl} {W : Wd T} (b : Bool) (x : Exn) (i : Nat) (s : XH W i) (P : List Nat) (e : Py.Env) : RS := match b with
  | true => if i ∈ P \/ e.length <= i then .no else (s.ev x P (e.set i none)).clr i
  | false => .ex x e
def forT (f : D -> Py.Env -> RS) (ds : List D) : RS -> RS
  | .nx e => forL f ds e
  | .ct e => forL f ds e
  | .bk e => .nx e
  | r => r
def asgK (P : List Nat) (i : Nat) (d : D) (e : Py.Env) : RS := RS.ofO (setS P i d e)
def iteF (b : Option Bool) (s u : Py.Env -> RS) (e : Py.Env) : RS := match b with
  | some true => s e
  | some false => u e
  | none => .no
def andF (b : Option Bool) (f : Py.Env -> Option Bool) (e : Py.Env) : Option Bool := match b with
  | some true => f e
  | some false => some false
  | none => none
def orF (b : Option Bool) (f : Py.Env -> Option Bool) (e : Py.Env) : Option Bool := match b with
  | some false => f e
  | some true => some true
  | none => none
def forK {T : Tbl} {W : Wd T} (g : XG W) (b : XS W) (P : List Nat) (d : D) (e : Py.Env) : RS := turnE (g.ev P d e) (b.ev P)
def lcJ {T : Tbl} {W : Wd T} (x : XP W) (b : Option Bool) (e : Py.Env) : Option (List D) := b.bind fun k => if k = true then (x.evO e).map fun y => [y] else some []
def lcK {T : Tbl} {W : Wd T} (c : XT W) (x : XP W) (o : Option Py.Env) : Option (List D) := o.bind fun e => lcJ x (c.ev e) e
theorem e_xsSeq {T : Tbl} {W : Wd T} {s u : XS W} {P env} : (xsSeq s u).ev P env = (s.ev P env).then (u.ev P) := nr rfl
theorem e_xsNext {T : Tbl} {W : Wd T} {P env} : (xsNext W).ev P env = .nx env := nr rfl
theorem e_xsAsg {T : Tbl} {W : Wd T} {i} {m : XM W} {P env} : (xsAsg i m).ev P env = (m.ev P env).thenS (asgK P i) := nr rfl
theorem e_xsExpr {T : Tbl} {W : Wd T} {m : XM W} {P env} : (xsExpr m).ev P env = (m.ev P env).thenS fun _ => RS.nx := nr rfl
theorem e_xsRet {T : Tbl} {W : Wd T} {m : XM W} {P env} : (xsRet m).ev P env = (m.ev P env).thenS RS.rt := nr rfl
theorem e_xsIf {T : Tbl} {W : Wd T} {c : XT W} {s u : XS W} {P env} : (xsIf c s u).ev P env = iteF (c.ev env) (s.ev P) (u.ev P) env := nr rfl
theorem e_xsFrz {T : Tbl} {W : Wd T} {is} {s : XS W} {P env} : (xsFrz is s).ev P env = s.ev P (is.foldl frzS env) := nr rfl
theorem e_xmP {T : Tbl} {W : Wd T} {p : XP W} {P env} : (xmP p).ev P env = RM.of (p.evO env) env := nr rfl
theorem e_xVar_V {T : Tbl} {W : Wd T} {i env} : (xVar W i).evV env = (getS env i).map fz := by show toV ((getS env i).map _) = _; cases getS env i <;> rfl
theorem e_xtV {T : Tbl} {W : Wd T} {a : XP W} {env} : (xtV a).ev env = (a.evV env).bind blD := nr rfl
theorem e_xtTru {T : Tbl} {W : Wd T} {a : XP W} {env} : (xtTru a).ev env = (a.evV env).bind truD := nr rfl
theorem e_xtAnd {T : Tbl} {W : Wd T} {a b : XT W} {env} : (xtAnd a b).ev env = andF (a.ev env) b.ev env := nr rfl
theorem e_xtOr {T : Tbl} {W : Wd T} {a b : XT W} {env} : (xtOr a b).ev env = orF (a.ev env) b.ev env := nr rfl
theorem e_xtNot {T : Tbl} {W : Wd T} {a : XT W} {env} : (xtNot a).ev env = (a.ev env).map (!·) := nr rfl
theorem e_xtYes {T : Tbl} {W : Wd T} {env} : (xtYes W).ev env = some true := nr rfl
theorem e_xVar {T : Tbl} {W : Wd T} {i env} : (xVar W i).ev env = (getS env i).map (Prod.mk .pl) := nr rfl
theorem e_xInt {T : Tbl} {W : Wd T} {i env} : (xInt W i).ev env = some (.fr, .int i) := nr rfl
theorem e_xBl {T : Tbl} {W : Wd T} {b env} : (xBl W b).ev env = some (.fr, .bl b) := nr rfl
theorem e_xNon {T : Tbl} {W : Wd T} {env} : (xNon W).ev env = some (.fr, .non) := nr rfl
theorem e_xStr {T : Tbl} {W : Wd T} {x env} : (xStr W x).ev env = some (.fr, .str x) := nr rfl
theorem e_xSub {T : Tbl} {W : Wd T} {a b : XP W} {env} : (xSub a b).ev env = (a.evV env).bind fun x => (b.evV env).bind fun y => (subD x y).map (Prod.mk .fr) := nr rfl
theorem e_xMul {T : Tbl} {W : Wd T} {a b : XP W} {env} : (xMul a b).ev env = (a.evV env).bind fun x => (b.evV env).bind fun y => (mulD x y).map (Prod.mk .fr) := nr rfl
theorem e_xDiv {T : Tbl} {W : Wd T} {a b : XP W} {env} : (xDiv a b).ev env = (a.evV env).bind fun x => (b.evV env).bind fun y => (divD x y).map (Prod.mk .fr) := nr rfl
theorem e_xMod {T : Tbl} {W : Wd T} {a b : XP W} {env} : (xMod a b).ev env = (a.evV env).bind fun x => (b.evV env).bind fun y => (modD x y).map (Prod.mk .fr) := nr rfl
theorem e_xPow {T : Tbl} {W : Wd T} {a b : XP W} {env} : (xPow a b).ev env = (a.evV env).bind fun x => (b.evV env).bind fun y => (powD x y).map (Prod.mk .fr) := nr rfl
theorem e_xNeg {T : Tbl} {W : Wd T} {a : XP W} {env} : (xNeg a).ev env = (a.evV env).bind fun x => (negD x).map (Prod.mk .fr) := by show (match a.evV env with | some x => _ | none => _) = _; cases a.evV env <;> rfl
theorem e_xAdd {T : Tbl} {W : Wd T} {a b : XP W} {env} : (xAdd a b).ev env = (a.evK env).bind fun x => (b.evK env).bind fun y => (addD x y).map (Prod.mk .fr) := nr rfl
theorem e_xEq {T : Tbl} {W : Wd T} {a b : XP W} {env} : (xEq a b).ev env = (a.evV env).bind fun x => (b.evV env).bind fun y => (eqD x y).map (Prod.mk .fr) := nr rfl
theorem e_xNe {T : Tbl} {W : Wd T} {a b : XP W} {env} : (xNe a b).ev env = (a.evV env).bind fun x => (b.evV env).bind fun y => (neD x y).map (Prod.mk .fr) := nr rfl
theorem e_xLt {T : Tbl} {W : Wd T} {a b : XP W} {env} : (xLt a b).ev env = (a.evV env).bind fun x => (b.evV env).bind fun y => (ltD x y).map (Prod.mk .fr) := nr rfl
theorem e_xLe {T : Tbl} {W : Wd T} {a b : XP W} {env} : (xLe a b).ev env = (a.evV env).bind fun x => (b.evV env).bind fun y => (cmpD (fun i j => decide (i <= j)) x y).map (Prod.mk .fr) := nr rfl
theorem e_xGt {T : Tbl} {W : Wd T} {a b : XP W} {env} : (xGt a b).ev env = (a.evV env).bind fun x => (b.evV env).bind fun y => (cmpD (fun i j => decide (j < i)) x y).map (Prod.mk .fr) := nr rfl
theorem e_xGe {T : Tbl} {W : Wd T} {a b : XP W} {env} : (xGe a b).ev env = (a.evV env).bind fun x => (b.evV env).bind fun y => (cmpD (fun i j => decide (j <= i)) x y).map (Prod.mk .fr) := nr rfl
theorem e_xAnd {T : Tbl} {W : Wd T} {a b : XP W} {env} : (xAnd a b).ev env = (andF (a.evB env) b.evB env).map fun c => (.fr, .bl c) := nr rfl
theorem e_xNot {T : Tbl} {W : Wd T} {a : XP W} {env} : (xNot a).ev env = (a.evB env).map fun c => (.fr, .bl (!c)) := nr rfl
theorem e_xTup {T : Tbl} {W : Wd T} {as : XA W} {env} : (xTup as).ev env = (as.evF env).bind fun ds => if ds.length <= 1000000 then some (.fr, .tup ds) else none := nr rfl
theorem e_xLst {T : Tbl} {W : Wd T} {as : XA W} {env} : (xLst as).ev env = (as.evF env).bind fun ds => if ds.length <= 1000000 then some (.fr, .olst ds) else none := nr rfl
theorem e_xInt1 {T : Tbl} {W : Wd T} {as : XA W} {env} : (xInt1 as).ev env = (as.evV env).bind fun ds => (intD ds).map (Prod.mk .fr) := nr rfl
theorem e_xAbs {T : Tbl} {W : Wd T} {as : XA W} {env} : (xAbs as).ev env = (as.evV env).bind fun ds => (absD ds).map (Prod.mk .fr) := nr rfl
theorem e_xIx {T : Tbl} {W : Wd T} {a b : XP W} {env} : (xIx a b).ev env = (a.ev env).bind fun p => (b.evV env).bind fun y => (ixD p.2 y).map p.1.of := nr rfl
theorem e_xFld {T : Tbl} {W : Wd T} {a : XP W} {f env} : (xFld a f).ev env = (a.ev env).bind fun p => (fldD T f p.2).map p.1.of := nr rfl
theorem e_xList {T : Tbl} {W : Wd T} {a : XP W} {env} : (xList a).ev env = (a.evK env).bind fun d => (seqOf d).map fun p => (.fr, .olst p.2) := nr rfl
theorem e_xTuple {T : Tbl} {W : Wd T} {a : XP W} {env} : (xTuple a).ev env = (a.evK env).bind fun d => (seqOf d).map fun p => (.fr, .tup p.2) := nr rfl
theorem e_xIsi {T : Tbl} {W : Wd T} {c} {a : XP W} {env} : (xIsi c a).ev env = (a.evV env).bind fun x => (tyD x).map fun t => (.fr, .bl (isi1 T t c)) := nr rfl
theorem e_xIsiT {T : Tbl} {W : Wd T} {cs} {a : XP W} {env} : (xIsiT cs a).ev env = (a.evV env).bind fun x => (tyD x).map fun t => (.fr, .bl (isiA T t cs)) := nr rfl
theorem e_xCall {T : Tbl} {W : Wd T} {φ n} {as : XA W} {dds dvs hd env} : (xCall φ n as dds dvs hd).ev env = callE φ n dds (as.evF env) (as.evV env) := by show (match as.evF env with | some ds => _ | none => _) = _; unfold callE; cases as.evF env <;> first | rfl | (cases as.evV env <;> rfl)
theorem e_xLc {T : Tbl} {W : Wd T} {it : XI W} {g : XG W} {c x env} : (xLc it g c x).ev env = (it.evP env).bind fun ds => if ds.length < 1000000 then (lcL (lc1 g c x (wipeE env g.own)) ds).map fun ys => (.fr, .olst ys) else none := nr rfl
theorem e_xmMove {T : Tbl} {W : Wd T} {i P env} : (xmMove W i).ev P env = RM.ofO ((getS env i).map fun d => (d, env.set i none)) := by show (match getS env i with | some d => _ | none => _) = _; cases getS env i <;> rfl
theorem e_xmAppend {T : Tbl} {W : Wd T} {p : XPl W} {a : XP W} {P env} : (xmAppend p a).ev P env = RM.ofO ((p.ev env).bind fun q => ((xoCons a (xoNil W)).ev env).bind fun ds => (appendD q.2 ds).bind fun z => (getS env p.root).map fun d0 => (z.2, env.set p.root (some (d0.putAt q.1 z.1)))) := nr rfl
theorem e_xmInsert {T : Tbl} {W : Wd T} {p : XPl W} {a b : XP W} {P env} : (xmInsert p a b).ev P env = RM.ofO ((p.ev env).bind fun q => ((xoCons a (xoCons b (xoNil W))).ev env).bind fun ds => (insertD q.2 ds).bind fun z => (getS env p.root).map fun d0 => (z.2, env.set p.root (some (d0.putAt q.1 z.1)))) := nr rfl
theorem e_xoNil {T : Tbl} {W : Wd T} {env} : (xoNil W).ev env = some [] := nr rfl
theorem e_xoCons {T : Tbl} {W : Wd T} {a : XP W} {as : XO W} {env} : (xoCons a as).ev env = (a.evO env).bind fun x => (as.ev env).map (x :: ·) := nr rfl
theorem e_plVar {T : Tbl} {W : Wd T} {i env} : (plVar W i).ev env = (getS env i).map fun d => ([], d) := nr rfl
theorem r_plVar {T : Tbl} {W : Wd T} {i} : (plVar W i).root = i := nr rfl
theorem e_xaNilV {T : Tbl} {W : Wd T} {env} : (xaNil W).evV env = some [] := nr rfl
theorem e_xaNilF {T : Tbl} {W : Wd T} {env} : (xaNil W).evF env = some [] := nr rfl
theorem e_xaConsV {T : Tbl} {W : Wd T} {a : XP W} {as : XA W} {env} : (xaCons a as).evV env = (a.evV env).bind fun x => (as.evV env).map (x :: ·) := nr rfl
theorem e_xaConsF {T : Tbl} {W : Wd T} {a : XP W} {as : XA W} {env} : (xaCons a as).evF env = (a.evF env).bind fun x => (as.evF env).map (x :: ·) := nr rfl
theorem e_xgN {T : Tbl} {W : Wd T} {i P d env} : (xgN W i).ev P d env = setS P i d env := nr rfl
theorem e_xgsNil {T : Tbl} {W : Wd T} {P env} : (xgsNil W).ev P [] env = some env := nr rfl
theorem e_xgsCons {T : Tbl} {W : Wd T} {g : XG W} {gs : XGs W} {P d ds env} : (xgsCons g gs).ev P (d :: ds) env = (g.ev P d env).bind (gs.ev P ds) := nr rfl
theorem e_xgT {T : Tbl} {W : Wd T} {n} {gs : XGs W} {P ds env} : (xgT n gs).ev P (.tup ds) env = if ds.length = n then gs.ev P ds env else none := nr rfl
theorem o_xgN {T : Tbl} {W : Wd T} {i} : (xgN W i).own = [i] := nr rfl
theorem o_xgT {T : Tbl} {W : Wd T} {n} {gs : XGs W} : (xgT n gs).own = gs.own := nr rfl
theorem o_xgsNil {T : Tbl} {W : Wd T}  : (xgsNil W).own = [] := nr rfl
theorem o_xgsCons {T : Tbl} {W : Wd T} {g : XG W} {gs : XGs W} : (xgsCons g gs).own = g.own ++ gs.own := nr rfl
theorem e_xiSeqF {T : Tbl} {W : Wd T} {a : XP W} {env} : (xiSeq a).evF env = (a.evF env).bind seqF := nr rfl
theorem e_xiSeqP {T : Tbl} {W : Wd T} {a : XP W} {env} : (xiSeq a).evP env = (a.evK env).bind fun d => (seqOf d).map (·.2) := nr rfl
theorem e_xiR1F {T : Tbl} {W : Wd T} {as : XA W} {env} : (xiR1 as).evF env = (as.evV env).bind rng1D := nr rfl
theorem e_xiR1P {T : Tbl} {W : Wd T} {as : XA W} {env} : (xiR1 as).evP env = (as.evV env).bind rng1D := nr rfl
theorem e_xsFor {T : Tbl} {W : Wd T} {it : XI W} {g : XG W} {b : XS W} {P env} : (xsFor it g b).ev P env = forE (forK g b P) (it.evF env) env := by show (match it.evF env with | some ds => _ | none => _) = _; unfold forE forK turnE; cases it.evF env <;> rfl
theorem e_evV {T : Tbl} {W : Wd T} {x : XP W} {env} : x.evV env = toV (x.ev env) := nr rfl
theorem e_evK {T : Tbl} {W : Wd T} {x : XP W} {env} : x.evK env = toK (x.ev env) := nr rfl
theorem e_evF {T : Tbl} {W : Wd T} {x : XP W} {env} : x.evF env = toF (x.ev env) := nr rfl
theorem e_evO {T : Tbl} {W : Wd T} {x : XP W} {env} : x.evO env = toO (x.ev env) := nr rfl
theorem e_evB {T : Tbl} {W : Wd T} {x : XP W} {env} : x.evB env = (x.evV env).bind blD := nr rfl
theorem h_getS0 {d e} : getS (some d :: e) 0 = some d := nr rfl
theorem h_getS0n {e} : getS (none :: e) 0 = none := nr rfl
theorem h_getSs {x e} {n : Nat} : getS (x :: e) (n + 1) = getS e n := nr rfl
theorem h_toV {k d} : toV (some (k, d)) = some (fz d) := nr rfl
theorem h_toVn  : toV none = none := nr rfl
theorem h_toKf {d} : toK (some (.fr, d)) = some d := nr rfl
theorem h_toKp {d} : toK (some (.pl, d)) = some d := nr rfl
theorem h_toKv {d} : toK (some (.vw, d)) = if isFlat d = true then some d else none := nr rfl
theorem h_toKn  : toK none = none := nr rfl
theorem h_toFf {d} : toF (some (.fr, d)) = some (fz d) := nr rfl
theorem h_toFp {d} : toF (some (.pl, d)) = if isSh d = true then some d else none := nr rfl
theorem h_toFv {d} : toF (some (.vw, d)) = if isFlat d = true then some d else none := nr rfl
theorem h_toFn  : toF none = none := nr rfl
theorem h_toOf {d} : toO (some (.fr, d)) = some d := nr rfl
theorem h_toOp {d} : toO (some (.pl, d)) = if isSh d = true then some d else none := nr rfl
theorem h_toOv {d} : toO (some (.vw, d)) = if isFlat d = true then some d else none := nr rfl
theorem h_toOn  : toO none = none := nr rfl
theorem h_of_f {d} : Kd.of .fr d = (.pl, d) := nr rfl
theorem h_of_p {d} : Kd.of .pl d = (.pl, d) := nr rfl
theorem h_of_v {d} : Kd.of .vw d = (.vw, fz d) := nr rfl
theorem h_then_nx {e f} : RS.then (.nx e) f = f e := nr rfl
theorem h_then_rt {d e f} : RS.then (.rt d e) f = .rt d e := nr rfl
theorem h_then_bk {e f} : RS.then (.bk e) f = .bk e := nr rfl
theorem h_then_ct {e f} : RS.then (.ct e) f = .ct e := nr rfl
theorem h_then_ex {x e f} : RS.then (.ex x e) f = .ex x e := nr rfl
theorem h_then_no {f} : RS.then .no f = .no := nr rfl
theorem h_thenS_ok {d e f} : RM.thenS (.ok d e) f = f d e := nr rfl
theorem h_thenS_exn {x e f} : RM.thenS (.exn x e) f = .ex x e := nr rfl
theorem h_thenS_no {f} : RM.thenS .no f = .no := nr rfl
theorem h_ofO {e} : RS.ofO (some e) = .nx e := nr rfl
theorem h_ofOn  : RS.ofO none = .no := nr rfl
theorem h_of {d e} : RM.of (some d) e = .ok d e := nr rfl
theorem h_ofn {e} : RM.of none e = .no := nr rfl
theorem h_mofO {d e} : RM.ofO (some (d, e)) = .ok d e := nr rfl
theorem h_mofOn  : RM.ofO none = .no := nr rfl
theorem h_iteF1 {s u e} : iteF (some true) s u e = s e := nr rfl
theorem h_iteF0 {s u e} : iteF (some false) s u e = u e := nr rfl
theorem h_iteFn {s u e} : iteF none s u e = .no := nr rfl
theorem h_asgK {P i d e} : asgK P i d e = RS.ofO (setS P i d e) := nr rfl
theorem h_forK {T : Tbl} {W : Wd T} {g : XG W} {b : XS W} {P d e} : forK g b P d e = turnE (g.ev P d e) (b.ev P) := nr rfl
theorem h_andF1 {f e} : andF (some true) f e = f e := nr rfl
theorem h_andF0 {f e} : andF (some false) f e = some false := nr rfl
theorem h_orF1 {f e} : orF (some true) f e = some true := nr rfl
theorem h_orF0 {f e} : orF (some false) f e = f e := nr rfl
theorem h_blD {b} : blD (.bl b) = some b := nr rfl
theorem h_turn {e f} : turnE (some e) f = f e := nr rfl
theorem h_turnn {f} : turnE none f = .no := nr rfl
theorem h_forE {f ds env} : forE f (some ds) env = forL f ds env := nr rfl
theorem h_forEn {f env} : forE f none env = .no := nr rfl
theorem h_callF {φ : List D -> Option Nat -> Rz} {n dds ds v} : callE φ n dds (some ds) v = if (ds ++ dds).length = n then (φ (ds ++ dds) none).toF else none := nr rfl
theorem h_callV {φ : List D -> Option Nat -> Rz} {n dds ds} : callE φ n dds none (some ds) = if (ds ++ dds).length = n then (φ (ds ++ dds) none).toV else none := nr rfl
theorem h_rzF {d b} : (Rz.ok d b).toF = some (.fr, d) := nr rfl
theorem h_rzV {d b} : (Rz.ok d b).toV = some (if isFlat d = true then (.fr, d) else (.vw, fz d)) := nr rfl
theorem h_fz_non  : fz (.non) = .non := by simp [fz]
theorem h_sh_non  : isSh (.non) = true := nr rfl
theorem h_fl_non  : isFlat (.non) = true := nr rfl
theorem h_isN_non  : isNon (.non) = true := nr rfl
theorem h_fz_bl {b} : fz (.bl b) = .bl b := by simp [fz]
theorem h_sh_bl {b} : isSh (.bl b) = true := nr rfl
theorem h_fl_bl {b} : isFlat (.bl b) = true := nr rfl
theorem h_fz_int {i} : fz (.int i) = .int i := by simp [fz]
theorem h_sh_int {i} : isSh (.int i) = true := nr rfl
theorem h_fl_int {i} : isFlat (.int i) = true := nr rfl
theorem h_isN_int {i} : isNon (.int i) = false := nr rfl
theorem h_fz_str {x} : fz (.str x) = .str x := by simp [fz]
theorem h_sh_str {x} : isSh (.str x) = true := nr rfl
theorem h_fl_str {x} : isFlat (.str x) = true := nr rfl
theorem h_isN_str {x} : isNon (.str x) = false := nr rfl
theorem h_fz_cls {c} : fz (.cls c) = .cls c := by simp [fz]
theorem h_sh_cls {c} : isSh (.cls c) = true := nr rfl
theorem h_fl_cls {c} : isFlat (.cls c) = true := nr rfl
theorem h_isN_cls {c} : isNon (.cls c) = false := nr rfl
theorem h_fz_sei {xs} : fz (.sei xs) = .sei xs := by simp [fz]
theorem h_sh_sei {xs} : isSh (.sei xs) = true := nr rfl
theorem h_fl_sei {xs} : isFlat (.sei xs) = false := nr rfl
theorem h_isN_sei {xs} : isNon (.sei xs) = false := nr rfl
theorem h_fz_scr {ns} : fz (.scr ns) = .scr ns := by simp [fz]
theorem h_sh_scr {ns} : isSh (.scr ns) = true := nr rfl
theorem h_fl_scr {ns} : isFlat (.scr ns) = false := nr rfl
theorem h_isN_scr {ns} : isNon (.scr ns) = false := nr rfl
theorem h_fz_tup {xs} : fz (.tup xs) = .tup xs := by simp [fz]
theorem h_sh_tup {xs} : isSh (.tup xs) = true := nr rfl
theorem h_fl_tup {xs} : isFlat (.tup xs) = false := nr rfl
theorem h_isN_tup {xs} : isNon (.tup xs) = false := nr rfl
theorem h_fz_lst {xs} : fz (.lst xs) = .lst xs := by simp [fz]
theorem h_sh_lst {xs} : isSh (.lst xs) = true := nr rfl
theorem h_fl_lst {xs} : isFlat (.lst xs) = false := nr rfl
theorem h_isN_lst {xs} : isNon (.lst xs) = false := nr rfl
theorem h_fz_dic {ks xs} : fz (.dic ks xs) = .dic ks xs := by simp [fz]
theorem h_sh_dic {ks xs} : isSh (.dic ks xs) = true := nr rfl
theorem h_fl_dic {ks xs} : isFlat (.dic ks xs) = false := nr rfl
theorem h_isN_dic {ks xs} : isNon (.dic ks xs) = false := nr rfl
theorem h_fz_dit {ks xs} : fz (.dit ks xs) = .dit ks xs := by simp [fz]
theorem h_sh_dit {ks xs} : isSh (.dit ks xs) = true := nr rfl
theorem h_fl_dit {ks xs} : isFlat (.dit ks xs) = false := nr rfl
theorem h_isN_dit {ks xs} : isNon (.dit ks xs) = false := nr rfl
theorem h_fz_dig {ks xs} : fz (.dig ks xs) = .dig ks xs := by simp [fz]
theorem h_sh_dig {ks xs} : isSh (.dig ks xs) = true := nr rfl
theorem h_fl_dig {ks xs} : isFlat (.dig ks xs) = false := nr rfl
theorem h_isN_dig {ks xs} : isNon (.dig ks xs) = false := nr rfl
theorem h_fz_ins {c ns xs} : fz (.ins c ns xs) = .ins c ns xs := by simp [fz]
theorem h_sh_ins {c ns xs} : isSh (.ins c ns xs) = true := nr rfl
theorem h_fl_ins {c ns xs} : isFlat (.ins c ns xs) = false := nr rfl
theorem h_isN_ins {c ns xs} : isNon (.ins c ns xs) = false := nr rfl
theorem h_isN_bl {b} : isNon (.bl b) = false := nr rfl
theorem h_fz_olst {xs} : fz (.olst xs) = .lst (fzs xs) := by rw [fz]
theorem h_sh_olst {xs} : isSh (.olst xs) = false := nr rfl
theorem h_fl_olst {xs} : isFlat (.olst xs) = false := nr rfl
theorem h_fz_odic {ks xs} : fz (.odic ks xs) = .dic ks (fzs xs) := by rw [fz]
theorem h_sh_odic {ks xs} : isSh (.odic ks xs) = false := nr rfl
theorem h_fl_odic {ks xs} : isFlat (.odic ks xs) = false := nr rfl
theorem h_fz_odit {ks xs} : fz (.odit ks xs) = .dit ks (fzs xs) := by rw [fz]
theorem h_sh_odit {ks xs} : isSh (.odit ks xs) = false := nr rfl
theorem h_fl_odit {ks xs} : isFlat (.odit ks xs) = false := nr rfl
theorem h_fz_odig {ks xs} : fz (.odig ks xs) = .dig ks (fzs xs) := by rw [fz]
theorem h_sh_odig {ks xs} : isSh (.odig ks xs) = false := nr rfl
theorem h_fl_odig {ks xs} : isFlat (.odig ks xs) = false := nr rfl
theorem h_fz_oins {c ns xs} : fz (.oins c ns xs) = .ins c ns (fzs xs) := by rw [fz]
theorem h_sh_oins {c ns xs} : isSh (.oins c ns xs) = false := nr rfl
theorem h_fl_oins {c ns xs} : isFlat (.oins c ns xs) = false := nr rfl
theorem h_fzs_nil  : fzs [] = [] := by rw [fzs]
theorem h_fzs_cons {x xs} : fzs (x :: xs) = fz x :: fzs xs := by rw [fzs]
theorem h_fzs_app {xs ys} : fzs (xs ++ ys) = fzs xs ++ fzs ys := by rw [fzs_eq, fzs_eq, fzs_eq, List.map_append]
theorem h_tru_bl {b} : truD (.bl b) = some b := nr rfl
theorem h_tru_non  : truD .non = some false := nr rfl
theorem h_tru_int {i} : truD (.int i) = some (decide (i ≠ 0)) := nr rfl
theorem h_tru_lst {ds} : truD (.lst ds) = some (!ds.isEmpty) := nr rfl
theorem h_tru_tup {ds} : truD (.tup ds) = some (!ds.isEmpty) := nr rfl
theorem h_sub {i j} : subD (.int i) (.int j) = some (.int (i - j)) := nr rfl
theorem h_neg {i} : negD (.int i) = some (.int (-i)) := nr rfl
theorem h_addI {i j} : addD (.int i) (.int j) = some (.int (i + j)) := nr rfl
theorem h_addT {xs ys} : addD (.tup xs) (.tup ys) = if xs ≠ [] /\ xs.length + ys.length <= 1000000 then some (.tup (xs ++ ys)) else none := nr rfl
theorem h_addL {xs ys} : addD (.lst xs) (.lst ys) = if xs.length + ys.length <= 1000000 then some (.olst (xs ++ ys)) else none := nr rfl
theorem h_addLo {xs ys} : addD (.lst xs) (.olst ys) = if ys.all isSh = true then (if xs.length + ys.length <= 1000000 then some (.olst (xs ++ ys)) else none) else none := by by_cases h1 : xs.all isSh = true <;> by_cases h2 : ys.all isSh = true <;> simp only [addD, lstOf, h1, h2, if_true, if_false, and_self, and_true, true_and, and_false, false_and, Bool.false_eq_true]
theorem h_addoL {xs ys} : addD (.olst xs) (.lst ys) = if xs.all isSh = true then (if xs.length + ys.length <= 1000000 then some (.olst (xs ++ ys)) else none) else none := by by_cases h1 : xs.all isSh = true <;> by_cases h2 : ys.all isSh = true <;> simp only [addD, lstOf, h1, h2, if_true, if_false, and_self, and_true, true_and, and_false, false_and, Bool.false_eq_true]
theorem h_addoo {xs ys} : addD (.olst xs) (.olst ys) = if xs.all isSh = true /\ ys.all isSh = true then (if xs.length + ys.length <= 1000000 then some (.olst (xs ++ ys)) else none) else none := by by_cases h1 : xs.all isSh = true <;> by_cases h2 : ys.all isSh = true <;> simp only [addD, lstOf, h1, h2, if_true, if_false, and_self, and_true, true_and, and_false, false_and, Bool.false_eq_true]
theorem h_mulL {i j} (h1 : -18446744073709551616 < i) (h2 : i < 18446744073709551616) : mulD (.int i) (.int j) = some (.int (i * j)) := if_pos (.inl ⟨h1, h2⟩)
theorem h_mulR {i j} (h1 : -18446744073709551616 < j) (h2 : j < 18446744073709551616) : mulD (.int i) (.int j) = some (.int (i * j)) := if_pos (.inr (.inl ⟨h1, h2⟩))
theorem h_div {i j} (h1 : 0 < j) (h2 : j < 1073741824) : divD (.int i) (.int j) = some (.int (i / j)) := if_pos ⟨h1, .inl h2⟩
theorem h_mod {i j} (h1 : 0 < j) : modD (.int i) (.int j) = some (.int (i % j)) := if_pos h1
theorem h_eqD {x y} : eqD x y = if okD 60 x = true /\ okD 60 y = true then some (.bl (eqB x y)) else none := nr rfl
theorem h_neD {x y} : neD x y = if okD 60 x = true /\ okD 60 y = true then some (.bl (!eqB x y)) else none := nr rfl
theorem h_ok_non {n} : okD n (.non) = true := by cases n <;> simp [okD]
theorem h_ok_bl {n}{b} : okD n (.bl b) = true := by cases n <;> simp [okD]
theorem h_ok_int {n}{i} : okD n (.int i) = true := by cases n <;> simp [okD]
theorem h_ok_str {n}{x} : okD n (.str x) = true := by cases n <;> simp [okD]
theorem h_ok_tup {n xs} : okD (n + 1) (.tup xs) = okDs n xs := by rw [okD]
theorem h_ok_lst {n xs} : okD (n + 1) (.lst xs) = okDs n xs := by rw [okD]
theorem h_oks_nil {n} : okDs n [] = true := by rw [okDs]
theorem h_oks_cons {n x xs} : okDs n (x :: xs) = (okD n x && okDs n xs) := by rw [okDs]
theorem h_eqB_ii {i j} : eqB (.int i) (.int j) = decide (i = j) := by rw [eqB]
theorem h_eqB_ss {x y} : eqB (.str x) (.str y) = decide (x = y) := by rw [eqB]
theorem h_eqB_bb {a b} : eqB (.bl a) (.bl b) = decide (a = b) := by rw [eqB]
theorem h_eqB_nn  : eqB .non .non = true := by rw [eqB]
theorem h_eqB_ni {i} : eqB .non (.int i) = false := by simp [eqB]
theorem h_eqB_in {i} : eqB (.int i) .non = false := by simp [eqB]
theorem h_eqB_nt {xs} : eqB .non (.tup xs) = false := by simp [eqB]
theorem h_eqB_tn {xs} : eqB (.tup xs) .non = false := by simp [eqB]
theorem h_eqB_tt {xs ys} : eqB (.tup xs) (.tup ys) = eqBs xs ys := by rw [eqB]
theorem h_eqB_ll {xs ys} : eqB (.lst xs) (.lst ys) = eqBs xs ys := by rw [eqB]
theorem h_eqBs_nn  : eqBs [] [] = true := by rw [eqBs]
theorem h_eqBs_cc {x xs y ys} : eqBs (x :: xs) (y :: ys) = (eqB x y && eqBs xs ys) := by rw [eqBs]
theorem h_eqBs_nc {y ys} : eqBs [] (y :: ys) = false := by simp [eqBs]
theorem h_eqBs_cn {y ys} : eqBs (y :: ys) [] = false := by simp [eqBs]
theorem h_cmp {f i j} : cmpD f (.int i) (.int j) = some (.bl (f i j)) := nr rfl
theorem h_ltI {i j} : ltD (.int i) (.int j) = some (.bl (decide (i < j))) := nr rfl
theorem h_ltT {xs ys} : ltD (.tup xs) (.tup ys) = (intsOf xs).bind fun ns => (intsOf ys).map fun ms => .bl (HT.lexLt ns ms) := nr rfl
theorem h_ints_nil  : intsOf [] = some [] := nr rfl
theorem h_ints_cons {i ds} : intsOf (.int i :: ds) = (intsOf ds).map (i :: ·) := nr rfl
theorem h_intI {i} : intD [.int i] = some (.int i) := nr rfl
theorem h_intB {b} : intD [.bl b] = some (.int (if b = true then 1 else 0)) := nr rfl
theorem h_abs {i} : absD [.int i] = some (.int (if i < 0 then -i else i)) := nr rfl
theorem h_lenL {ds} : lenD [.lst ds] = some (.int ds.length) := nr rfl
theorem h_lenT {ds} : lenD [.tup ds] = some (.int ds.length) := nr rfl
theorem h_lenS {ns} : lenD [.scr ns] = some (.int ns.length) := nr rfl
theorem h_ix {d i} : ixD d (.int i) = (itemsD d).bind fun xs => atI xs i := nr rfl
theorem h_it_lst {xs} : itemsD (.lst xs) = some xs := nr rfl
theorem h_it_olst {xs} : itemsD (.olst xs) = some xs := nr rfl
theorem h_it_tup {xs} : itemsD (.tup xs) = some xs := nr rfl
theorem h_it_scr {ns} : itemsD (.scr ns) = some (ns.map .int) := nr rfl
theorem h_at0 {α : Type} {x : α} {xs} : atI (x :: xs) 0 = some x := by simp [atI, ixN]
theorem h_at1 {α : Type} {xs : List α} : atI xs 1 = xs[1]? := atI_litN 1
theorem h_at2 {α : Type} {xs : List α} : atI xs 2 = xs[2]? := atI_litN 2
theorem h_at3 {α : Type} {xs : List α} : atI xs 3 = xs[3]? := atI_litN 3
theorem h_at4 {α : Type} {xs : List α} : atI xs 4 = xs[4]? := atI_litN 4
theorem h_at5 {α : Type} {xs : List α} : atI xs 5 = xs[5]? := atI_litN 5
theorem h_at6 {α : Type} {xs : List α} : atI xs 6 = xs[6]? := atI_litN 6
theorem h_at7 {α : Type} {xs : List α} : atI xs 7 = xs[7]? := atI_litN 7
theorem h_at8 {α : Type} {xs : List α} : atI xs 8 = xs[8]? := atI_litN 8
theorem h_at9 {α : Type} {xs : List α} : atI xs 9 = xs[9]? := atI_litN 9
theorem h_at10 {α : Type} {xs : List α} : atI xs 10 = xs[10]? := atI_litN 10
theorem h_at11 {α : Type} {xs : List α} : atI xs 11 = xs[11]? := atI_litN 11
theorem h_at12 {α : Type} {xs : List α} : atI xs 12 = xs[12]? := atI_litN 12
theorem h_atm1 {α : Type} {xs : List α} : atI xs (-1) = xs.getLast? := atI_last
theorem h_seq_lst {xs} : seqOf (.lst xs) = some (false, xs) := nr rfl
theorem h_seq_tup {xs} : seqOf (.tup xs) = some (true, xs) := nr rfl
theorem h_seq_olst {xs} : seqOf (.olst xs) = if xs.all isSh = true then some (false, xs) else none := nr rfl
theorem h_seq_scr {ns} : seqOf (.scr ns) = some (false, ns.map .int) := nr rfl
theorem h_sF_lst {xs} : seqF (.lst xs) = some xs := nr rfl
theorem h_sF_tup {xs} : seqF (.tup xs) = some xs := nr rfl
theorem h_sF_scr {ns} : seqF (.scr ns) = some (ns.map .int) := nr rfl
theorem h_lF_lst {xs} : lstF (.lst xs) = some xs := nr rfl
theorem h_ty_non  : tyD (.non) = some (false, "NoneType") := nr rfl
theorem h_ty_bl {b} : tyD (.bl b) = some (false, "bool") := nr rfl
theorem h_ty_int {i} : tyD (.int i) = some (false, "int") := nr rfl
theorem h_ty_str {x} : tyD (.str x) = some (false, "str") := nr rfl
theorem h_ty_lst {xs} : tyD (.lst xs) = some (false, "list") := nr rfl
theorem h_ty_tup {xs} : tyD (.tup xs) = some (false, "tuple") := nr rfl
theorem h_ty_ins {c ns xs} : tyD (.ins c ns xs) = some (true, c) := nr rfl
theorem h_isi_bb {T : Tbl} {a b} : isi1 T (false, a) (false, b) = isiB a b := nr rfl
theorem h_isi_bo {T : Tbl} {a b} : isi1 T (false, a) (true, b) = false := nr rfl
theorem h_isi_ob {T : Tbl} {a b} : isi1 T (true, a) (false, b) = false := nr rfl
theorem h_isi_oo {T : Tbl} {a b} : isi1 T (true, a) (true, b) = T.sub a b := nr rfl
theorem h_isiA_n {T : Tbl} {t} : isiA T t [] = false := nr rfl
theorem h_isiA_c {T : Tbl} {t c cs} : isiA T t (c :: cs) = (isi1 T t c || isiA T t cs) := nr rfl
theorem h_isiB_NoneType_bool  : isiB "NoneType" "bool" = false := by decide
theorem h_isiB_NoneType_int  : isiB "NoneType" "int" = false := by decide
theorem h_isiB_NoneType_str  : isiB "NoneType" "str" = false := by decide
theorem h_isiB_NoneType_list  : isiB "NoneType" "list" = false := by decide
theorem h_isiB_NoneType_tuple  : isiB "NoneType" "tuple" = false := by decide
theorem h_isiB_NoneType_dict  : isiB "NoneType" "dict" = false := by decide
theorem h_isiB_bool_bool  : isiB "bool" "bool" = true := by decide
theorem h_isiB_bool_int  : isiB "bool" "int" = true := by decide
theorem h_isiB_bool_str  : isiB "bool" "str" = false := by decide
theorem h_isiB_bool_list  : isiB "bool" "list" = false := by decide
theorem h_isiB_bool_tuple  : isiB "bool" "tuple" = false := by decide
theorem h_isiB_bool_dict  : isiB "bool" "dict" = false := by decide
theorem h_isiB_int_bool  : isiB "int" "bool" = false := by decide
theorem h_isiB_int_int  : isiB "int" "int" = true := by decide
theorem h_isiB_int_str  : isiB "int" "str" = false := by decide
theorem h_isiB_int_list  : isiB "int" "list" = false := by decide
theorem h_isiB_int_tuple  : isiB "int" "tuple" = false := by decide
theorem h_isiB_int_dict  : isiB "int" "dict" = false := by decide
theorem h_isiB_str_bool  : isiB "str" "bool" = false := by decide
theorem h_isiB_str_int  : isiB "str" "int" = false := by decide
theorem h_isiB_str_str  : isiB "str" "str" = true := by decide
theorem h_isiB_str_list  : isiB "str" "list" = false := by decide
theorem h_isiB_str_tuple  : isiB "str" "tuple" = false := by decide
theorem h_isiB_str_dict  : isiB "str" "dict" = false := by decide
theorem h_isiB_list_bool  : isiB "list" "bool" = false := by decide
theorem h_isiB_list_int  : isiB "list" "int" = false := by decide
theorem h_isiB_list_str  : isiB "list" "str" = false := by decide
theorem h_isiB_list_list  : isiB "list" "list" = true := by decide
theorem h_isiB_list_tuple  : isiB "list" "tuple" = false := by decide
theorem h_isiB_list_dict  : isiB "list" "dict" = false := by decide
theorem h_isiB_tuple_bool  : isiB "tuple" "bool" = false := by decide
theorem h_isiB_tuple_int  : isiB "tuple" "int" = false := by decide
theorem h_isiB_tuple_str  : isiB "tuple" "str" = false := by decide
theorem h_isiB_tuple_list  : isiB "tuple" "list" = false := by decide
theorem h_isiB_tuple_tuple  : isiB "tuple" "tuple" = true := by decide
theorem h_isiB_tuple_dict  : isiB "tuple" "dict" = false := by decide
theorem h_isiB_dict_bool  : isiB "dict" "bool" = false := by decide
theorem h_isiB_dict_int  : isiB "dict" "int" = false := by decide
theorem h_isiB_dict_str  : isiB "dict" "str" = false := by decide
theorem h_isiB_dict_list  : isiB "dict" "list" = false := by decide
theorem h_isiB_dict_tuple  : isiB "dict" "tuple" = false := by decide
theorem h_isiB_dict_dict  : isiB "dict" "dict" = true := by decide
theorem h_append {xs d} : appendD (.olst xs) [d] = if xs.length < 1000000 then some (.olst (xs ++ [d]), .non) else none := nr rfl
theorem h_insert {xs i d} : insertD (.olst xs) [.int i, d] = if xs.all isSh = true /\ xs.length < 1000000 /\ 0 <= i /\ i < 1000000 then some (.olst (xs.take i.toNat ++ [d] ++ xs.drop i.toNat), .non) else none := nr rfl
theorem h_put0 {d n : D} : D.putAt d [] n = n := nr rfl
theorem h_rng1 {n} : rng1D [.int n] = guardB (rngOk n) (some (rangeD 0 n.toNat)) := nr rfl
theorem h_guard1 {α : Type} {x : Option α} : guardB true x = x := nr rfl
theorem h_guard0 {α : Type} {x : Option α} : guardB false x = none := nr rfl
theorem h_rngOk {i : Int} (h1 : -1000000000000000000 <= i) (h2 : i <= 1000000000000000000) : rngOk i = true := Nat.ble_eq_true_of_le (by omega)
theorem h_forLn {f env} : forL f [] env = .nx env := nr rfl
theorem h_forLc {f d ds env} : forL f (d :: ds) env = forT f ds (f d env) := by show (match f d env with | .nx e => _ | .ct e => _ | .bk e => _ | r => r) = _; cases f d env <;> rfl
theorem h_forT_nx {f ds e} : forT f ds (.nx e) = forL f ds e := nr rfl
theorem h_forT_ct {f ds e} : forT f ds (.ct e) = forL f ds e := nr rfl
theorem h_forT_bk {f ds e} : forT f ds (.bk e) = .nx e := nr rfl
theorem h_forT_rt {f ds d e} : forT f ds (.rt d e) = .rt d e := nr rfl
theorem h_forT_ex {f ds x e} : forT f ds (.ex x e) = .ex x e := nr rfl
theorem h_lc1 {T : Tbl} {W : Wd T} {g : XG W} {c : XT W} {x : XP W} {env d} : lc1 g c x env d = lcK c x (g.ev [] d env) := by show (g.ev [] d env).bind _ = _; cases g.ev [] d env <;> rfl
theorem h_lcK {T : Tbl} {W : Wd T} {c : XT W} {x : XP W} {e} : lcK c x (some e) = lcJ x (c.ev e) e := nr rfl
theorem h_lcJ1 {T : Tbl} {W : Wd T} {x : XP W} {e} : lcJ x (some true) e = (x.evO e).map fun y => [y] := nr rfl
theorem h_lcJ0 {T : Tbl} {W : Wd T} {x : XP W} {e} : lcJ x (some false) e = some [] := nr rfl
theorem h_wipe0 {env} : wipeE env [] = env := nr rfl
theorem h_wipes {env v vs} : wipeE env (v :: vs) = (wipeE env vs).set v none := nr rfl
theorem h_frz {env i} : frzS env i = frzO env i (getS env i) := by unfold frzS frzO; cases getS env i <;> rfl
theorem h_frzO {env i d} : frzO env i (some d) = env.set i (some (fz d)) := nr rfl
theorem h_frzOn {env i} : frzO env i none = env := nr rfl
theorem h_runR_rt {b d env} : runR b (.rt d env) = retZ (bGet b env) d := by cases hb : bGet b env <;> simp [runR, retZ, hb]
theorem h_runR_nx {b env} : runR b (.nx env) = retZ (bGet b env) .non := by cases hb : bGet b env <;> simp [runR, retZ, hb]
theorem h_retZ {x d} : retZ (some x) d = .ok d x := nr rfl
theorem h_bGetn {env} : bGet none env = some none := nr rfl
theorem h_bGets {i env} : bGet (some i) env = (getS env i).map some := nr rfl
theorem h_setS {P i d env} : setS P i d env = if i < env.length /\ i ∉ P then some (env.set i (some d)) else none := nr rfl
theorem h_fldI {T : Tbl} {f c ns xs} : fldD T f (.ins c ns xs) = if T.fOk c f = true then (pos f ns).bind fun j => xs[j]? else none := nr rfl
theorem h_fldO {T : Tbl} {f c ns xs} : fldD T f (.oins c ns xs) = if T.fOk c f = true then (pos f ns).bind fun j => xs[j]? else none := nr rfl
theorem h_iteFd1 {p : Prop} [Decidable p] {s u e} (h : p) : iteF (some (decide p)) s u e = s e := by rw [decide_eq_true h]; rfl
theorem h_iteFd0 {p : Prop} [Decidable p] {s u e} (h : ¬ p) : iteF (some (decide p)) s u e = u e := by rw [decide_eq_false h]; rfl
theorem h_iteFe1 {p : Prop} [Decidable p] {s u e} (h : ¬ p) : iteF (some (!decide p)) s u e = s e := by rw [decide_eq_false h]; rfl
theorem h_iteFe0 {p : Prop} [Decidable p] {s u e} (h : p) : iteF (some (!decide p)) s u e = u e := by rw [decide_eq_true h]; rfl
theorem h_andFd1 {p : Prop} [Decidable p] {s e} (h : p) : andF (some (decide p)) s e = s e := by rw [decide_eq_true h]; rfl
theorem h_andFd0 {p : Prop} [Decidable p] {s e} (h : ¬ p) : andF (some (decide p)) s e = some false := by rw [decide_eq_false h]; rfl
theorem h_andFe1 {p : Prop} [Decidable p] {s e} (h : ¬ p) : andF (some (!decide p)) s e = s e := by rw [decide_eq_false h]; rfl
theorem h_andFe0 {p : Prop} [Decidable p] {s e} (h : p) : andF (some (!decide p)) s e = some false := by rw [decide_eq_true h]; rfl
theorem h_orFd1 {p : Prop} [Decidable p] {s e} (h : p) : orF (some (decide p)) s e = some true := by rw [decide_eq_true h]; rfl
theorem h_orFd0 {p : Prop} [Decidable p] {s e} (h : ¬ p) : orF (some (decide p)) s e = s e := by rw [decide_eq_false h]; rfl
theorem h_orFe1 {p : Prop} [Decidable p] {s e} (h : ¬ p) : orF (some (!decide p)) s e = some true := by rw [decide_eq_false h]; rfl
theorem h_orFe0 {p : Prop} [Decidable p] {s e} (h : p) : orF (some (!decide p)) s e = s e := by rw [decide_eq_true h]; rfl
theorem h_lcJd1 {T : Tbl} {W : Wd T} {x : XP W} {e} {p : Prop} [Decidable p] (h : p) : lcJ x (some (decide p)) e = (x.evO e).map fun y => [y] := by rw [decide_eq_true h]; rfl
theorem h_lcJd0 {T : Tbl} {W : Wd T} {x : XP W} {e} {p : Prop} [Decidable p] (h : ¬ p) : lcJ x (some (decide p)) e = some [] := by rw [decide_eq_false h]; rfl
theorem h_lcJe1 {T : Tbl} {W : Wd T} {x : XP W} {e} {p : Prop} [Decidable p] (h : ¬ p) : lcJ x (some (!decide p)) e = (x.evO e).map fun y => [y] := by rw [decide_eq_false h]; rfl
theorem h_lcJe0 {T : Tbl} {W : Wd T} {x : XP W} {e} {p : Prop} [Decidable p] (h : p) : lcJ x (some (!decide p)) e = some [] := by rw [decide_eq_true h]; rfl
theorem h_resE {nm f} : resE (some nm) f = f nm := nr rfl
theorem h_resEn {f} : resE none f = .no := nr rfl
theorem h_posn {m : String} : pos m [] = none := nr rfl
theorem h_posc {m n : String} {ns} : pos m (n :: ns) = if n = m then some 0 else (pos m ns).map (· + 1) := nr rfl
theorem h_putc {d : D} {s st n} : D.putAt d (s :: st) n = putE d s st n (d.sub s) := by show (match d.sub s with | some x => _ | none => _) = _; cases d.sub s <;> rfl
theorem h_putE {d : D} {s st n x} : putE d s st n (some x) = d.put s (x.putAt st n) := nr rfl
theorem h_subF {c ns xs f} : D.sub (.oins c ns xs) (.fld f) = (pos f ns).bind fun j => xs[j]? := nr rfl
theorem h_subI {xs k} : D.sub (.olst xs) (.idx k) = xs[k]? := nr rfl
theorem h_putF {c ns xs f y} : D.put (.oins c ns xs) (.fld f) y = .oins c ns (setO xs (pos f ns) y) := by show (match pos f ns with | some j => _ | none => _) = _; cases pos f ns <;> rfl
theorem h_putI {xs k y} : D.put (.olst xs) (.idx k) y = .olst (xs.set k y) := nr rfl
theorem h_setOs {xs : List D} {j y} : setO xs (some j) y = xs.set j y := nr rfl
theorem h_eSfld {T : Tbl} {W : Wd T} {p : XPl W} {f} {m : XM W} {P env} : (xsFld p f m).ev P env = (m.ev P env).thenS (fldK T p f) := nr rfl
theorem h_fldK {T : Tbl} {W : Wd T} {p : XPl W} {f d e} : fldK T p f d e = RS.ofO ((p.ev e).bind fun q => (setFD T f q.2 [d]).bind fun z => (getS e p.root).map fun d0 => e.set p.root (some (d0.putAt q.1 z.1))) := nr rfl
theorem h_setFD {T : Tbl} {f c ns xs d} : setFD T f (.oins c ns xs) [d] = if T.fOk c f = true /\ ns.length < 1000 then some (.oins c (setF f d ns xs).1 (setF f d ns xs).2, .non) else none := nr rfl
theorem h_setFn {f d} : setF f d [] [] = ([f], [d]) := nr rfl
theorem h_setFc {f d n ns x xs} : setF f d (n :: ns) (x :: xs) = if n = f then (n :: ns, d :: xs) else ((n :: (setF f d ns xs).1), x :: (setF f d ns xs).2) := nr rfl
theorem h_eMake {T : Tbl} {W : Wd T} {φ : Sem} {c ini n} {as : XA W} {dds dvs hd env} : (xMake φ c ini n as dds dvs hd).ev env = makeE φ c ini n dds (as.evF env) (as.evV env) := nr rfl
theorem h_makeF {φ : Sem} {c ini n dds ds v} : makeE φ c ini n dds (some ds) v = (mk1 φ c ini n (ds ++ dds)).map (Prod.mk .fr) := nr rfl
theorem h_makeV {φ : Sem} {c ini n dds ds} : makeE φ c ini n dds none (some ds) = (mk1 φ c ini n (ds ++ dds)).map fun d => (.vw, fz d) := nr rfl
theorem h_mk1 {φ : Sem} {c ini n ds} : mk1 φ c ini n ds = if ds.length + 1 = n then mkR (φ ini (.oins c [] [] :: ds) (some 0)) else none := nr rfl
theorem h_mkR {d} : mkR (.ok .non (some d)) = some d := nr rfl
theorem h_eProp {T : Tbl} {W : Wd T} {φ : Sem} {m} {a : XP W} {env} : (xProp φ m a).ev env = propE T φ m (a.evF env) (a.evV env) := nr rfl
theorem h_propF {T : Tbl} {φ : Sem} {m d v} : propE T φ m (some d) v = (prop1 T φ m d).toF := nr rfl
theorem h_propV {T : Tbl} {φ : Sem} {m d} : propE T φ m none (some d) = (prop1 T φ m d).toV := nr rfl
theorem h_prop1 {T : Tbl} {φ : Sem} {m c ns xs} : prop1 T φ m (.ins c ns xs) = resE (T.res c m) fun nm => φ nm [.ins c ns xs] none := by show (match T.res c m with | some nm => _ | none => _) = _; cases T.res c m <;> rfl
theorem h_eLenU {T : Tbl} {W : Wd T} {φ : Sem} {as : XA W} {env} : (xLenU φ as).ev env = (as.evV env).bind fun ds => (lenI1 T φ ds).map (Prod.mk .fr) := nr rfl
theorem h_lenI_lst {T : Tbl} {φ : Sem} {xs} : lenI1 T φ [.lst xs] = lenD [.lst xs] := nr rfl
theorem h_lenI_tup {T : Tbl} {φ : Sem} {xs} : lenI1 T φ [.tup xs] = lenD [.tup xs] := nr rfl
theorem h_lenI_scr {T : Tbl} {φ : Sem} {xs} : lenI1 T φ [.scr xs] = lenD [.scr xs] := nr rfl
theorem h_lenI_ins {T : Tbl} {φ : Sem} {c ns xs} : lenI1 T φ [.ins c ns xs] = lenQ (T.res c "__len__") fun nm => lenR (φ nm [.ins c ns xs] none) := by show (match T.res c "__len__" with | some nm => _ | none => _) = _; cases T.res c "__len__" <;> rfl
theorem h_lenQ {nm f} : lenQ (some nm) f = f nm := nr rfl
theorem h_lenR {i b} : lenR (.ok (.int i) b) = if 0 <= i /\ i <= 1000000 then some (.int i) else none := nr rfl
theorem h_eSl {T : Tbl} {W : Wd T} {a : XP W} {lo hi env} : (xSl a lo hi).ev env = slE (a.evK env) (evI lo env) (evI hi env) := nr rfl
theorem h_slE {d l u} : slE (some d) (some l) (some u) = (seqOf d).bind fun p => if p.1 = false then some (.fr, .olst (cutL p.2 l u)) else none := nr rfl
theorem h_evI0 {T : Tbl} {W : Wd T} {env} : evI (W := W) none env = some none := nr rfl
theorem h_evI1 {T : Tbl} {W : Wd T} {p : XP W} {env} : evI (some p) env = (p.evV env).bind intO := nr rfl
theorem h_intO {i} : intO (.int i) = some (some i) := nr rfl
theorem h_RTthen_ok {d e f} : RT.then (.ok d e) f = f d e := nr rfl
theorem h_RTthenS_ok {d e f} : RT.thenS (.ok d e) f = f d e := nr rfl
theorem h_RTthen_exn {x e f} : RT.then (.exn x e) f = .exn x e := nr rfl
theorem h_RTthenS_exn {x e f} : RT.thenS (.exn x e) f = .ex x e := nr rfl
theorem h_RTof {b e} : RT.of (some b) e = .ok b e := nr rfl
theorem h_eListU {T : Tbl} {W : Wd T} {φ : Sem} {a : XP W} {env} : (xListU φ a).ev env = (a.evK env).bind (lstE T φ) := nr rfl
theorem h_lstE_lst {T : Tbl} {φ : Sem} {xs} : lstE T φ (.lst xs) = some (.fr, .olst xs) := nr rfl
theorem h_lstE_tup {T : Tbl} {φ : Sem} {xs} : lstE T φ (.tup xs) = some (.fr, .olst xs) := nr rfl
theorem h_lstE_scr {T : Tbl} {φ : Sem} {ns} : lstE T φ (.scr ns) = some (.fr, .olst (ns.map .int)) := nr rfl
theorem h_lstE_olst {T : Tbl} {φ : Sem} {xs} : lstE T φ (.olst xs) = if xs.all isSh = true then some (.fr, .olst xs) else none := by by_cases h : xs.all isSh = true <;> simp only [lstE, seqOf, itOf, h, if_true, if_false, Option.bind_none, Bool.false_eq_true]
theorem h_lstE_ins {T : Tbl} {φ : Sem} {c ns xs} : lstE T φ (.ins c ns xs) = itQ (itOf T (.ins c ns xs)) fun zs => (lenI1 T φ [.ins c ns xs]).bind fun _ => if zs.length <= 1000000 then some (.fr, .olst zs) else none := by unfold lstE; show (itOf T (.ins c ns xs)).bind _ = _; rw [fz_isSh rfl]; cases itOf T (.ins c ns xs) <;> rfl
theorem h_itQ {zs f} : itQ (some zs) f = f zs := nr rfl
theorem h_it_ins {T : Tbl} {c ns xs} : itOf T (.ins c ns xs) = (T.it c).bind fun f => (pos f ns).bind fun j => (xs[j]?).bind lstOf := nr rfl
theorem h_lo_lst {xs} : lstOf (.lst xs) = some xs := nr rfl
theorem h_lo_olst {xs} : lstOf (.olst xs) = if xs.all isSh = true then some xs else none := nr rfl
theorem h_eiSeqUF {T : Tbl} {W : Wd T} {a : XP W} {env} : (xiSeqU a).evF env = (a.evF env).bind (seqFI T) := nr rfl
theorem h_eiSeqUP {T : Tbl} {W : Wd T} {a : XP W} {env} : (xiSeqU a).evP env = (a.evK env).bind (seqKI T) := nr rfl
theorem h_eiEnumUF {T : Tbl} {W : Wd T} {a : XP W} {env} : (xiEnumU a).evF env = (a.evF env).bind (enFI T) := nr rfl
theorem h_eiEnumUP {T : Tbl} {W : Wd T} {a : XP W} {env} : (xiEnumU a).evP env = (a.evK env).bind (enKI T) := nr rfl
theorem h_eiEnumTF {T : Tbl} {W : Wd T} {a : XP W} {env} : (xiEnumT a).evF env = (a.evF env).bind (enTI T) := nr rfl
theorem h_eiEnumTP {T : Tbl} {W : Wd T} {a : XP W} {env} : (xiEnumT a).evP env = (a.evK env).bind (enKI T) := nr rfl
theorem h_enTI_tup {T : Tbl} {xs} : enTI T (.tup xs) = some (enumD xs) := nr rfl
theorem h_enTI_lst {T : Tbl} {xs} : enTI T (.lst xs) = some (enumD xs) := nr rfl
theorem h_enTI_ins {T : Tbl} {c ns xs} : enTI T (.ins c ns xs) = (itOf T (.ins c ns xs)).map enumD := nr rfl
theorem h_seqFI_lst {T : Tbl} {xs} : seqFI T (.lst xs) = some xs := nr rfl
theorem h_seqFI_tup {T : Tbl} {xs} : seqFI T (.tup xs) = some xs := nr rfl
theorem h_seqFI_scr {T : Tbl} {ns} : seqFI T (.scr ns) = some (ns.map .int) := nr rfl
theorem h_seqFI_ins {T : Tbl} {c ns xs} : seqFI T (.ins c ns xs) = itOf T (.ins c ns xs) := nr rfl
theorem h_seqKI_lst {T : Tbl} {xs} : seqKI T (.lst xs) = some xs := nr rfl
theorem h_seqKI_tup {T : Tbl} {xs} : seqKI T (.tup xs) = some xs := nr rfl
theorem h_seqKI_scr {T : Tbl} {ns} : seqKI T (.scr ns) = some (ns.map .int) := nr rfl
theorem h_seqKI_ins {T : Tbl} {c ns xs} : seqKI T (.ins c ns xs) = itOf T (.ins c ns xs) := nr rfl
theorem h_seqKI_olst {T : Tbl} {xs} : seqKI T (.olst xs) = if xs.all isSh = true then some xs else none := by by_cases h : xs.all isSh = true <;> simp only [seqKI, seqOf, itOf, h, if_true, if_false, Bool.false_eq_true]
theorem h_enFI_lst {T : Tbl} {xs} : enFI T (.lst xs) = some (enumD xs) := nr rfl
theorem h_enFI_ins {T : Tbl} {c ns xs} : enFI T (.ins c ns xs) = (itOf T (.ins c ns xs)).map enumD := nr rfl
theorem h_enKI_lst {T : Tbl} {xs} : enKI T (.lst xs) = some (enumD xs) := nr rfl
theorem h_enKI_ins {T : Tbl} {c ns xs} : enKI T (.ins c ns xs) = (itOf T (.ins c ns xs)).map enumD := nr rfl
theorem h_enKI_olst {T : Tbl} {xs} : enKI T (.olst xs) = if xs.all isSh = true then some (enumD xs) else none := by by_cases h : xs.all isSh = true <;> simp only [enKI, lstOf, itOf, h, if_true, if_false, Option.map_none, Bool.false_eq_true]
theorem h_orI_s {α : Type} {x : α} {y} : orI (some x) y = some x := nr rfl
theorem h_orI_n {α : Type} {y : Option α} : orI none y = y := nr rfl
theorem h_ixD_ins {c ns xs i} : ixD (.ins c ns xs) (.int i) = none := nr rfl
theorem h_okD_ins {n c ns xs} : okD n (.ins c ns xs) = false := by cases n <;> simp [okD]
theorem h_eqD_ins {c ns xs y} : eqD (.ins c ns xs) y = none := by show (if okD 60 (.ins c ns xs) = true /\ okD 60 y = true then _ else _) = _; rw [if_neg (fun z => nomatch z.1)]
theorem h_addD_ins {c ns xs y} : addD (.ins c ns xs) y = none := nr rfl
theorem h_addD_oins {c ns xs y} : addD (.oins c ns xs) y = none := nr rfl
theorem h_eSum {T : Tbl} {W : Wd T} {a : XP W} {env} : (xSum a).ev env = (a.evK env).bind fun d => (seqOf d).bind fun p => (sumI p.2).map (Prod.mk .fr) := nr rfl
theorem h_sumI {ns : List Int} : sumI (ns.map .int) = some (.int ns.sum) := by unfold sumI; rw [intsOf_map]; rfl
theorem h_eSset {T : Tbl} {W : Wd T} {p : XPl W} {k : XP W} {m : XM W} {P env} : (xsSet p k m).ev P env = (m.ev P env).thenS (setK p k) := nr rfl
theorem h_setK {T : Tbl} {W : Wd T} {p : XPl W} {k : XP W} {d e} : setK p k d e = RS.ofO ((p.ev e).bind fun q => (k.evV e).bind fun i => (storeD q.2 [i, d]).bind fun z => (getS e p.root).map fun d0 => e.set p.root (some (d0.putAt q.1 z.1))) := nr rfl
theorem h_storeD {xs i d} : storeD (.olst xs) [.int i, d] = if xs.all isSh = true then (ixN xs.length i).map fun j => (.olst (xs.set j d), .non) else none := nr rfl
theorem h_inK_non {neg ks} : inK neg ks .non = some (.bl neg) := nr rfl
theorem h_inK_int {neg ks i} : inK neg ks (.int i) = some (.bl (if neg = true then !hasK ks (.inl i) else hasK ks (.inl i))) := nr rfl
theorem h_inK_str {neg ks x} : inK neg ks (.str x) = some (.bl (if neg = true then !hasK ks (.inr (so x)) else hasK ks (.inr (so x)))) := nr rfl
theorem h_guardB_t {α : Type} {x : Option α} : guardB true x = x := nr rfl
theorem h_keyD_i {i} : keyD (.int i) = some (.inl i) := nr rfl
theorem h_keyD_s {x} : keyD (.str x) = some (.inr (so x)) := nr rfl
theorem h_lentEs {φ : Sem} {c ini n xs} : lentE φ c ini n (some xs) = ofB (mk1 φ c ini n [.lst xs]) := nr rfl
theorem h_lentEn {φ : Sem} {c ini n} : lentE φ c ini n none = none := nr rfl
theorem h_ofBs {d} : ofB (some d) = if oNl d = true then some (.fr, d) else none := nr rfl
theorem h_ofBn  : ofB none = none := nr rfl
theorem h_oNl_int {i} : oNl (.int i) = true := by simp [oNl]
theorem h_oNl_str {i} : oNl (.str i) = true := by simp [oNl]
theorem h_oNl_bl {i} : oNl (.bl i) = true := by simp [oNl]
theorem h_oNl_n  : oNl .non = true := by simp [oNl]
theorem h_oNl_ins {c ns xs} : oNl (.ins c ns xs) = oNls xs := by rw [oNl]
theorem h_oNl_oins {c ns xs} : oNl (.oins c ns xs) = oNls xs := by rw [oNl]
theorem h_oNl_dic {ks xs} : oNl (.dic ks xs) = oNls xs := by rw [oNl]
theorem h_oNl_odic {ks xs} : oNl (.odic ks xs) = oNls xs := by rw [oNl]
theorem h_oNl_tup {xs} : oNl (.tup xs) = oNls xs := by rw [oNl]
theorem h_oNl_olst {xs} : oNl (.olst xs) = oNls xs := by rw [oNl]
theorem h_oNls_n  : oNls [] = true := by rw [oNls]
theorem h_oNls_c {x xs} : oNls (x :: xs) = (oNl x && oNls xs) := by rw [oNls]
theorem h_eRaise {T : Tbl} {W : Wd T} {c fs} {as : XA W} {P env} : (xsRaise c fs as).ev P env = exOf c fs (as.evF env) env := nr rfl
theorem h_exOf {c fs ds env} : exOf c fs (some ds) env = if ds.length = fs.length then .ex ⟨c, fs.zip ds⟩ env else .no := nr rfl
theorem h_exOfn {c fs env} : exOf c fs none env = .no := nr rfl
theorem h_eTryAs {T : Tbl} {W : Wd T} {i c} {b : XS W} {s : XH W i} {P env} : (xsTryAs i c b s).ev P env = tryK T i c s P (b.ev P env) := nr rfl
theorem h_tryK_nx {T : Tbl} {W : Wd T} {i c} {s : XH W i} {P e} : tryK T i c s P (.nx e) = .nx e := nr rfl
theorem h_tryK_rt {T : Tbl} {W : Wd T} {i c} {s : XH W i} {P d e} : tryK T i c s P (.rt d e) = .rt d e := nr rfl
theorem h_tryK_bk {T : Tbl} {W : Wd T} {i c} {s : XH W i} {P e} : tryK T i c s P (.bk e) = .bk e := nr rfl
theorem h_tryK_ct {T : Tbl} {W : Wd T} {i c} {s : XH W i} {P e} : tryK T i c s P (.ct e) = .ct e := nr rfl
theorem h_tryK_no {T : Tbl} {W : Wd T} {i c} {s : XH W i} {P} : tryK T i c s P .no = .no := nr rfl
theorem h_tryK_ex {T : Tbl} {W : Wd T} {i c} {s : XH W i} {P n fs e} : tryK T i c s P (.ex ⟨n, fs⟩ e) = tryJ (T.xsub n c) ⟨n, fs⟩ i s P e := by show (if T.xsub n c = true then _ else _) = _; cases T.xsub n c <;> rfl
theorem h_tryJ1 {T : Tbl} {W : Wd T} {i} {s : XH W i} {x P e} : tryJ true x i s P e = if i ∈ P \/ e.length <= i then .no else (s.ev x P (e.set i none)).clr i := nr rfl
theorem h_tryJ0 {T : Tbl} {W : Wd T} {i} {s : XH W i} {x P e} : tryJ false x i s P e = .ex x e := nr rfl
theorem h_clr_nx {i e} : RS.clr i (.nx e) = .nx (e.set i none) := nr rfl
theorem h_clr_rt {i d e} : RS.clr i (.rt d e) = .rt d e := nr rfl
theorem h_clr_bk {i e} : RS.clr i (.bk e) = .bk (e.set i none) := nr rfl
theorem h_clr_ct {i e} : RS.clr i (.ct e) = .ct (e.set i none) := nr rfl
theorem h_clr_no {i} : RS.clr i .no = .no := nr rfl
theorem h_ehAsg {T : Tbl} {W : Wd T} {i j} {m : XQ W i} {x P env} : (xhAsg j m).ev x P env = xhAsgK P j env (m.evO x env) := nr rfl
theorem h_hAsgK {P j env d} : xhAsgK P j env (some d) = RS.ofO (setS P j d env) := nr rfl
theorem h_hAsgKn {P j env} : xhAsgK P j env none = .no := nr rfl
theorem h_qevO {T : Tbl} {W : Wd T} {i} {m : XQ W i} {x env} : m.evO x env = toO (m.ev x env) := nr rfl
theorem h_qevB {T : Tbl} {W : Wd T} {i} {m : XQ W i} {x env} : m.evB x env = (toV (m.ev x env)).bind blD := nr rfl
theorem h_qevF {T : Tbl} {W : Wd T} {i} {m : XQ W i} {x env} : m.evF x env = toQ (m.ev x env) := nr rfl
theorem h_toQf {d} : toQ (some (.fr, d)) = if isSh d = true then some d else none := nr rfl
theorem h_toQp {d} : toQ (some (.pl, d)) = if isSh d = true then some d else none := nr rfl
theorem h_toQv {d} : toQ (some (.vw, d)) = if isFlat d = true then some d else none := nr rfl
theorem h_toQn  : toQ none = none := nr rfl
theorem h_eqFld {T : Tbl} {W : Wd T} {i c f n fs env} : (xqFld W i c f).ev ⟨n, fs⟩ env = if n = c then (fs.lookup f).map (Prod.mk .fr) else none := nr rfl
theorem h_eqIs {T : Tbl} {W : Wd T} {i c n p fs env} : (xqIs W i c).ev ⟨n, p :: fs⟩ env = some (.fr, .bl (isX1 T n c)) := nr rfl
theorem h_isX1t {T : Tbl} {x y} : isX1 T x (true, y) = T.xsub x y := nr rfl
theorem h_isX1f {T : Tbl} {x y} : isX1 T x (false, y) = true := nr rfl
theorem h_eqAnd {T : Tbl} {W : Wd T} {i} {m n : XQ W i} {x env} : (xqAnd m n).ev x env = (andF (m.evB x env) (n.evB x) env).map fun c => (.fr, .bl c) := by show (andE (m.evB x env) fun _ => n.evB x env).map _ = _; unfold andE andF; rfl
theorem h_eqNot {T : Tbl} {W : Wd T} {i} {m : XQ W i} {x env} : (xqNot m).ev x env = (m.evB x env).map fun c => (.fr, .bl (!c)) := nr rfl
theorem h_eMakeM {T : Tbl} {W : Wd T} {φ : Sem} {c ini n} {as : XA W} {P env} : (xmMake φ c ini n as).ev P env = makeM φ c ini n (as.evF env) env := nr rfl
theorem h_makeM {φ : Sem} {c ini n ds env} : makeM φ c ini n (some ds) env = if ds.length + 1 = n then mkM (φ ini (.oins c [] [] :: ds) (some 0)) env else .no := nr rfl
theorem h_mkMo {d env} : mkM (.ok .non (some d)) env = .ok d env := nr rfl
theorem h_mkMx {x b env} : mkM (.exn x b) env = .exn x env := nr rfl
theorem h_mkMn {env} : mkM .no env = .no := nr rfl
theorem h_runR_ex {b x env} : runR b (.ex x env) = retX (bGet b env) x := by cases hb : bGet b env <;> simp [runR, retX, hb]
theorem h_retX {o x} : retX (some o) x = .exn x o := nr rfl
theorem h_thenY1 {ys e f} : (RY.nx ys e).then f = f ys e := nr rfl
theorem h_thenY2 {ys e f} : (RY.ct ys e).then f = .ct ys e := nr rfl
theorem h_thenY3 {ys e f} : (RY.bk ys e).then f = .bk ys e := nr rfl
theorem h_look1 {k : String} {d : D} {r} : List.lookup k ((k, d) :: r) = some d := by simp
theorem h_look2 {k f : String} {d : D} {r} (h : ¬ f = k) : List.lookup f ((k, d) :: r) = List.lookup f r := by rw [List.lookup_cons, beq_eq_false_iff_ne.mpr h]
end Py
namespace Py
open PySem L2
section
variable {T : Tbl} {W : Wd T} {env : Py.Env}
end
end Py
namespace Py
open PySem L2
section
variable {T : Tbl} {W : Wd T} {env : Py.Env} {P : List Nat} {E : WX}
def shO : Option D -> Option D
  | some d => if isSh d = true then some d else none
  | none => none
theorem slots_sh {F H : Hp} : ∀ {env : Py.Env} {σ : St} {L : List Addr}, Slots W F H env σ L -> Slots W F H (env.map shO) σ []
  | _, _, _, .nil => .nil
  | _, _, _, .so (d := d) o t => by
    rw [List.map_cons]
    by_cases h : isSh d = true
    · rw [show shO (some d) = some d from if_pos h]
      exact .so (L := []) (.sh (o.shr h)) (slots_sh t)
    · rw [show shO (some d) = none from if_neg h]
      exact .no (slots_sh t)
  | _, _, _, .no t => .no (slots_sh t)
theorem slots_eq {F H : Hp} : ∀ {env : Py.Env} {σ σ' : St} {L : List Addr}, Slots W F H env σ L -> σ'.length = σ.length -> (∀ (a : Nat) (d : D), env[a]? = some (some d) -> σ'[a]? = σ[a]?) -> Slots W F H env σ' L
  | _, _, [], _, .nil, _, _ => .nil
  | _, _, _ :: _, _, .nil, h, _ => by simp at h
  | _, _, [], _, .so _ _, h, _ => by simp at h
  | _, _, [], _, .no _, h, _ => by simp at h
  | _, _, v' :: σ', _, .so (d := d) (v := v) o t, h, k => by
    have e := k 0 d rfl
    have e : v' = some v := by simpa using e
    subst e
    exact .so o (slots_eq t (by simpa using h) fun a d z => by have := k (a + 1) d (by simpa using z); simpa using this)
  | _, _, v' :: σ', _, .no t, h, k => .no (slots_eq t (by simpa using h) fun a d z => by have := k (a + 1) d (by simpa using z); simpa using this)
def hid (env : Py.Env) (i : Nat) (d : D) : Py.Env := (env.map shO).set i (some d)
def isSo (env : Py.Env) (a : Nat) : Bool := match env[a]? with
  | some (some _) => true
  | _ => false
def somL (env : Py.Env) (i : Nat) : List Nat := (List.range env.length).filter fun a => !decide (a = i) && isSo env a
def isOL (env : Py.Env) (a : Nat) : Bool := match env[a]? with
  | some (some (.olst _)) => true
  | _ => false
def vlS (σ : St) (a : Nat) : V := match σ[a]? with
  | some (some v) => v
  | _ => .non
def outI (n i : Nat) : RS -> Option D
  | .nx e => if e.length = n then getS e i else none
  | .ct e => if e.length = n then getS e i else none
  | _ => none
theorem outI_ok {n i : Nat} {r : RS} {d : D} (h : outI n i r = some d) : ∃ e, (r = .nx e \/ r = .ct e) /\ getS e i = some d /\ e.length = n := by
  cases r with
  | nx e =>
    have h : (if e.length = n then getS e i else none) = some d := h
    by_cases z : e.length = n
    · rw [if_pos z] at h; exact ⟨e, .inl rfl, h, z⟩
    · rw [if_neg z] at h; cases h
  | ct e =>
    have h : (if e.length = n then getS e i else none) = some d := h
    by_cases z : e.length = n
    · rw [if_pos z] at h; exact ⟨e, .inr rfl, h, z⟩
    · rw [if_neg z] at h; cases h
  | rt => cases h
  | bk => cases h
  | ex => cases h
  | no => cases h
def fmE (f : D -> Option D) : List D -> Option (List D)
  | [] => some []
  | d :: ds => (f d).bind fun x => (fmE f ds).map (x :: ·)
theorem fmE_get {f : D -> Option D} : ∀ {ds es : List D}, fmE f ds = some es -> es.length = ds.length /\ ∀ (k : Nat) (d : D), ds[k]? = some d -> ∃ x, f d = some x /\ es[k]? = some x
  | [], _, h => by cases h; exact ⟨rfl, fun k d e => by simp at e⟩
  | d :: ds, _, h => by
    obtain ⟨x, h1, h⟩ := Option.bind_eq_some_iff.mp h
    obtain ⟨xs, h2, rfl⟩ := Option.map_eq_some_iff.mp h
    obtain ⟨l, g⟩ := fmE_get h2
    refine ⟨by rw [List.length_cons, List.length_cons, l], fun k d' e => ?_⟩
    cases k with
    | zero =>
      have e : d = d' := by simpa using e
      subst e
      exact ⟨x, h1, rfl⟩
    | succ k => exact g k d' (by simpa using e)
theorem owns_split {F H : Hp} : ∀ {ds : List D} {vs : List V} {L : List Addr} {k : Nat} {d : D}, Owns W F H ds vs L -> ds[k]? = some d -> ∃ v Lk Lo, vs[k]? = some v /\ Own W F H d v Lk /\ (∀ c, c ∈ Lk \/ c ∈ Lo ↔ c ∈ L) /\ (L.Nodup -> (Lk ++ Lo).Nodup) /\
    ∀ F' H' d' L', Same F F' -> (∀ c ∈ Lo, ∀ o, H c = some o -> H' c = some o) -> Own W F' H' d' v L' -> ∃ LL, Owns W F' H' (ds.set k d') vs LL /\ (∀ c, c ∈ LL ↔ c ∈ L' \/ c ∈ Lo) /\ ((L' ++ Lo).Nodup -> LL.Nodup)
  | _, _, _, _, _, .nil, h => by simp at h
  | _, _, _, 0, d, .cons (d := d0) (L := L1) (M := M1) o t, h => by
    have h : d0 = d := by simpa using h
    subst h
    exact ⟨_, L1, M1, rfl, o, fun c => List.mem_append.symm, id, fun F' H' d' L' s kp o' => ⟨L' ++ M1, .cons o' (t.frame s kp), fun c => List.mem_append, id⟩⟩
  | _, _, _, k + 1, d, .cons (L := L1) (M := M1) o t, h => by
    obtain ⟨v, Lk, Lo, h1, h2, h3, h4, h5⟩ := owns_split (k := k) t (by simpa using h)
    refine ⟨v, Lk, L1 ++ Lo, by simpa using h1, h2, fun c => ?_, fun nd => ?_, fun F' H' d' L' s kp o' => ?_⟩
    · rw [List.mem_append, List.mem_append, <- h3 c]
      constructor
      · rintro (z | z | z)
        · exact .inr (.inl z)
        · exact .inl z
        · exact .inr (.inr z)
      · rintro (z | z | z)
        · exact .inr (.inl z)
        · exact .inl z
        · exact .inr (.inr z)
    · obtain ⟨n1, n2, n3⟩ := List.nodup_append.mp nd
      obtain ⟨p1, p2, p3⟩ := List.nodup_append.mp (h4 n2)
      rw [List.nodup_append]
      refine ⟨p1, List.nodup_append.mpr ⟨n1, p2, fun a ha b hb => n3 a ha b ((h3 b).mp (.inr hb))⟩, fun a ha b hb z => ?_⟩
      subst z
      rcases List.mem_append.mp hb with hb | hb
      · exact n3 a hb a ((h3 a).mp (.inl ha)) rfl
      · exact p3 a ha a hb rfl
    · obtain ⟨LL, q1, q2, q3⟩ := h5 F' H' d' L' s (fun c hc => kp c (List.mem_append_right _ hc)) o'
      refine ⟨L1 ++ LL, .cons (o.frame s fun c hc => kp c (List.mem_append_left _ hc)) q1, fun c => ?_, fun nd => ?_⟩
      · rw [List.mem_append, List.mem_append, q2 c]
        constructor
        · rintro (z | z | z)
          · exact .inr (.inl z)
          · exact .inl z
          · exact .inr (.inr z)
        · rintro (z | z | z)
          · exact .inr (.inl z)
          · exact .inl z
          · exact .inr (.inr z)
      · obtain ⟨n1, n2, n3⟩ := List.nodup_append.mp nd
        obtain ⟨m1, m2, m3⟩ := List.nodup_append.mp n2
        rw [List.nodup_append]
        refine ⟨m1, q3 (List.nodup_append.mpr ⟨n1, m2, fun a ha b hb => n3 a ha b (List.mem_append_right _ hb)⟩), fun a ha b hb z => ?_⟩
        subst z
        rcases (q2 a).mp hb with hb | hb
        · exact n3 a hb a (List.mem_append_left _ ha) rfl
        · exact m3 a ha a hb rfl
theorem item_turn {e : Ent} {F H : Hp} {σ : St} {L : List Addr} {i j k : Nat} {ds : List D} {d d' : D} {b : XS W} {Dn : Ends} (r : Rel W e env F σ H L) (hj : env[j]? = some (some (.olst ds))) (hi : env[i]? = some none) (hd : ds[k]? = some d) (hip : i ∉ e.pins.map (·.1)) {P1 : List Nat} (hP1 : P1 = i :: (somL env i ++ e.pins.map (·.1)))
    (hb : outI env.length i (b.ev P1 (hid env i d)) = some d')
    {a : Addr} {vs : List V} {v : V} (hs : σ[j]? = some (some (.ref a))) (ha : H a = some (.lst vs)) (hv : vs[k]? = some v)
    (q : ∀ F2 σ2 H2 L2, Rel W e (env.set j (some (.olst (ds.set k d')))) F2 σ2 H2 L2 -> σ2[j]? = some (some (.ref a)) -> H2 a = some (.lst vs) -> Dn.nx σ2 H2) (hct : Dn.ct = Dn.nx) : b.t E Dn (σ.set i (some v)) H := by
  have hij : i ≠ j := fun z => by rw [z, hj] at hi; cases hi
  have hil : i < env.length := (List.getElem?_eq_some_iff.mp hi).1
  have hjl : j < env.length := (List.getElem?_eq_some_iff.mp hj).1
  have hlen := r.slots.length
  obtain ⟨v0', Li, Lj, e1, ow, sl, nd0, mem0⟩ := r.slots.take r.nd hj
  rw [hs] at e1
  cases e1
  cases ow with
  | sh y => cases y
  | olst ha' os =>
  rename_i vs' LL
  rw [ha] at ha'
  cases ha'
  obtain ⟨vn, Ln, Lo, hvk, on, mem1, nd1, put⟩ := owns_split os hd
  rw [hv] at hvk
  cases hvk
  obtain ⟨n1, n2, n3⟩ := List.nodup_append.mp nd0
  obtain ⟨naLL, nLL⟩ := List.nodup_cons.mp n1
  have ndk := nd1 nLL
  have LnL : ∀ c ∈ Ln, c ∈ L := fun c hc => (mem0 c).mp (.inl (List.mem_cons_of_mem _ ((mem1 c).mp (.inl hc))))
  have LoL : ∀ c ∈ Lo, c ∈ L := fun c hc => (mem0 c).mp (.inl (List.mem_cons_of_mem _ ((mem1 c).mp (.inr hc))))
  have LjL : ∀ c ∈ Lj, c ∈ L := fun c hc => (mem0 c).mp (.inr hc)
  have aLn : a ∉ Ln := fun z => naLL ((mem1 a).mp (.inl z))
  have LjLn : ∀ c ∈ Lj, c ∉ Ln := fun c hc z => n3 c (List.mem_cons_of_mem _ ((mem1 c).mp (.inl z))) c hc rfl
  have LoLn : ∀ c ∈ Lo, c ∉ Ln := fun c hc z => (List.nodup_append.mp ndk).2.2 c z c hc rfl
  have live : ∀ c ∈ L, ∃ o, H c = some o := r.slots.lives
  have hvl : ∀ (c : Nat), isSo env c = true -> c ≠ i -> σ[c]? = some (some (vlS σ c)) := fun c hc hci => by
    unfold isSo at hc
    split at hc
    · rename_i d1 h1
      obtain ⟨v1, M, f1, _⟩ := slot_get r h1
      unfold vlS
      rw [f1]
    · cases hc
  have sv : Slots W F H env (σ.set i (some v)) L := slots_eq r.slots (by rw [List.length_set]) fun c dd h => by
    have hci : c ≠ i := fun z => by rw [z, hi] at h; cases h
    rw [List.getElem?_set_ne (Ne.symm hci)]
  obtain ⟨L1, s1, nd1', m1⟩ := (slots_sh sv).put (i := i) on (by rw [List.append_nil]; exact (List.nodup_append.mp ndk).1) (by rw [List.length_map]; exact hil)
  have s1 : Slots W F H (hid env i d) (σ.set i (some v)) L1 := by
    have : (σ.set i (some v)).set i (some v) = σ.set i (some v) := by rw [List.set_set]
    rw [this] at s1
    exact s1
  have m1 : ∀ c ∈ L1, c ∈ Ln := fun c hc => (m1 c hc).elim id fun z => nomatch z
  have hpe : ∀ p ∈ e.pins, p.1 ≠ i := fun p hp z => hip (List.mem_map.mpr ⟨p, hp, z⟩)
  have rb : Rel W ⟨F, H, Ln, (i, v) :: ((somL env i).map (fun c => (c, vlS σ c)) ++ e.pins)⟩ (hid env i d) F (σ.set i (some v)) H L1 := {
    sF := r.sF
    slots := s1
    nd := nd1'
    dj := fun c hc => r.dj c (LnL c (m1 c hc))
    s0 := Same.refl _
    nw := fun _ _ h => .inl h
    fr := fun _ _ _ h => h
    ln := fun c hc => .inl (m1 c hc)
    pin := fun p hp => by
      rcases List.mem_cons.mp hp with rfl | hp
      · rw [List.getElem?_set_self (by omega)]
      · rcases List.mem_append.mp hp with hp | hp
        · obtain ⟨c, hc, rfl⟩ := List.mem_map.mp hp
          have hc := (List.mem_filter.mp hc).2
          rw [Bool.and_eq_true] at hc
          have hci : c ≠ i := fun z => by rw [z] at hc; simp at hc
          rw [List.getElem?_set_ne (Ne.symm hci)]
          exact hvl c hc.2 hci
        · rw [List.getElem?_set_ne (Ne.symm (hpe p hp))]
          exact r.pin p hp }
  have hP : P1 = ((i, v) :: ((somL env i).map (fun c => (c, vlS σ c)) ++ e.pins)).map (·.1) := by
    rw [hP1, List.map_cons, List.map_append, List.map_map]
    show _ = i :: ((somL env i).map (fun c => c) ++ _)
    rw [List.map_id']
  obtain ⟨e2, he2, hg2, hl2⟩ := outI_ok hb
  have hne : b.ev P1 (hid env i d) ≠ .no := by
    rcases he2 with h | h <;> rw [h] <;> simp
  have fin : ∀ F2 σ2 H2 L2, Rel W ⟨F, H, Ln, (i, v) :: ((somL env i).map (fun c => (c, vlS σ c)) ++ e.pins)⟩ e2 F2 σ2 H2 L2 -> Dn.nx σ2 H2 := fun F2 σ2 H2 L2 r2 => by
    obtain ⟨v2, Li2, Lq, f1, o2, _, nd2, mm2⟩ := r2.slots.take r2.nd (getS_some hg2)
    have p1 := r2.pin (i, v) (List.mem_cons_self ..)
    rw [f1] at p1
    have p1 : v2 = v := by cases p1; rfl
    subst p1
    have hll : σ2.length = σ.length := by
      have := r2.slots.length
      omega
    have keep : ∀ c, c ∉ Ln -> ∀ o, H c = some o -> H2 c = some o := fun c hc o h => r2.fr c o hc h
    have ha2 : H2 a = some (.lst vs) := keep a aLn _ ha
    have newI : ∀ c ∈ Li2, c ∈ Ln \/ H c = none := fun c hc => r2.ln c ((mm2 c).mp (.inl hc))
    have notl : ∀ c ∈ Li2, ∀ c' ∈ L, c' ∉ Ln -> c ≠ c' := fun c hc c' hc' hn z => by
      subst z
      rcases newI c hc with y | y
      · exact hn y
      · obtain ⟨o, ho⟩ := live c hc'
        rw [ho] at y; cases y
    obtain ⟨LL', q1, q2, q3⟩ := put F2 H2 d' Li2 r2.s0 (fun c hc => keep c (LoLn c hc)) o2
    have ndL : LL'.Nodup := q3 (List.nodup_append.mpr ⟨(List.nodup_append.mp nd2).1, (List.nodup_append.mp ndk).2.1, fun c hc c' hc' => notl c hc c' (LoL c' hc') (LoLn c' hc')⟩)
    have aL : a ∈ L := (mem0 a).mp (.inl (List.mem_cons_self ..))
    have aLL : a ∉ LL' := fun z => by
      rcases (q2 a).mp z with y | y
      · exact notl a y a aL aLn rfl
      · exact naLL ((mem1 a).mp (.inr y))
    have sl2 : Slots W F2 H2 (env.set j none) σ Lj := sl.frame r2.s0 fun c hc => keep c (LjLn c hc)
    obtain ⟨L3, s3, nd3, m3⟩ := sl2.put (i := j) (d := .olst (ds.set k d')) (v := .ref a) (Ld := a :: LL') (.olst ha2 q1) (by
      rw [List.nodup_append]
      refine ⟨List.nodup_cons.mpr ⟨aLL, ndL⟩, n2, fun c hc c' hc' z => ?_⟩
      subst z
      rcases List.mem_cons.mp hc with rfl | hc
      · exact n3 c (List.mem_cons_self ..) c hc' rfl
      · rcases (q2 c).mp hc with y | y
        · exact notl c y c (LjL c hc') (LjLn c hc') rfl
        · exact n3 c (List.mem_cons_of_mem _ ((mem1 c).mp (.inr y))) c hc' rfl) (by rw [List.length_set]; exact hjl)
    have hsg : σ.set j (some (.ref a)) = σ := by
      apply List.ext_getElem?
      intro c
      by_cases hc : c = j
      · rw [hc, List.getElem?_set_self (by omega), hs]
      · rw [List.getElem?_set_ne (Ne.symm hc)]
    rw [hsg, List.set_set] at s3
    have agree : ∀ (c : Nat) (dd : D), (env.set j (some (.olst (ds.set k d'))))[c]? = some (some dd) -> σ2[c]? = σ[c]? := fun c dd h => by
      have hci : c ≠ i := fun z => by
        rw [z, List.getElem?_set_ne (Ne.symm hij), hi] at h
        cases h
      have hso : isSo env c = true := by
        unfold isSo
        by_cases hcj : c = j
        · rw [hcj, hj]
        · rw [List.getElem?_set_ne (Ne.symm hcj)] at h
          rw [h]
      have hcl : c < env.length := by
        have := (List.getElem?_eq_some_iff.mp h).1
        rwa [List.length_set] at this
      have hm : c ∈ somL env i := List.mem_filter.mpr ⟨List.mem_range.mpr hcl, by rw [hso, decide_eq_false hci]; rfl⟩
      have := r2.pin (c, vlS σ c) (List.mem_cons_of_mem _ (List.mem_append_left _ (List.mem_map.mpr ⟨c, hm, rfl⟩)))
      rw [this, hvl c hso hci]
    have inL : ∀ c ∈ L3, c ∈ Li2 \/ (c ∈ L /\ c ∉ Ln) := fun c hc => by
      rcases m3 c hc with y | y
      · rcases List.mem_cons.mp y with rfl | y
        · exact .inr ⟨aL, aLn⟩
        · rcases (q2 c).mp y with y | y
          · exact .inl y
          · exact .inr ⟨LoL c y, LoLn c y⟩
      · exact .inr ⟨LjL c y, LjLn c y⟩
    have r4 : Rel W e (env.set j (some (.olst (ds.set k d')))) F2 σ2 H2 L3 := {
      sF := r2.sF
      slots := slots_eq s3 hll agree
      nd := nd3
      dj := fun c hc => by
        rcases inL c hc with y | ⟨y, y2⟩
        · exact r2.dj c ((mm2 c).mp (.inl y))
        · cases z : F2 c with
          | none => rfl
          | some o =>
            rcases r2.nw c o z with w | w | w
            · have w : F c = some o := w
              rw [r.dj c y] at w; cases w
            · obtain ⟨o', ho⟩ := live c y
              have w : H c = none := w
              rw [ho] at w; cases w
            · exact absurd w y2
      s0 := r.s0.trans r2.s0
      nw := fun c o h => by
        rcases r2.nw c o h with w | w | w
        · exact r.nw c o w
        · exact .inr ((r.h0 w).elim .inr .inl)
        · exact .inr ((r.ln c (LnL c w)).elim .inr .inl)
      fr := fun c o hc h => by
        have h1 := r.fr c o hc h
        refine keep c (fun z => ?_) o h1
        rcases r.ln c (LnL c z) with w | w
        · exact hc w
        · rw [h] at w; cases w
      ln := fun c hc => by
        rcases inL c hc with y | ⟨y, _⟩
        · rcases newI c y with w | w
          · exact r.ln c (LnL c w)
          · exact r.h0 w
        · exact r.ln c y
      pin := fun p hp => r2.pin p (List.mem_cons_of_mem _ (List.mem_append_right _ hp)) }
    refine q F2 σ2 H2 L3 r4 ?_ ha2
    rw [agree j _ (List.getElem?_set_self hjl), hs]
  have hbs := b.snd P1 E (hid env i d) hne
  refine hbs _ F (σ.set i (some v)) H L1 Dn hP rb ?_
  rcases he2 with h | h
  · rw [h]
    exact ⟨fun e3 F3 σ3 H3 L3 w q3 => by cases w; exact fin F3 σ3 H3 L3 q3, fun d e3 F3 σ3 H3 L3 v M w => (nomatch w), fun e3 F3 σ3 H3 L3 w => (nomatch w), fun e3 F3 σ3 H3 L3 w => (nomatch w), fun x e3 F3 σ3 H3 L3 C dd w => (nomatch w)⟩
  · rw [h]
    exact ⟨fun e3 F3 σ3 H3 L3 w => (nomatch w), fun d e3 F3 σ3 H3 L3 v M w => (nomatch w), fun e3 F3 σ3 H3 L3 w => (nomatch w), fun e3 F3 σ3 H3 L3 w q3 => by cases w; rw [hct]; exact fin F3 σ3 H3 L3 q3, fun x e3 F3 σ3 H3 L3 C dd w => (nomatch w)⟩
theorem somL_set {i j : Nat} {x : D} (hj : isSo env j = true) (o : Option D) : somL ((env.set i o).set j (some x)) i = somL env i := by
  unfold somL
  rw [List.length_set, List.length_set]
  refine List.filter_congr fun a ha => ?_
  have hl := List.mem_range.mp ha
  by_cases hi : a = i
  · rw [decide_eq_true hi]; rfl
  · congr 1
    unfold isSo
    by_cases haj : a = j
    · subst haj
      rw [List.getElem?_set_self (by rw [List.length_set]; exact hl)]
      unfold isSo at hj
      split at hj
      · rfl
      · cases hj
    · rw [List.getElem?_set_ne (Ne.symm haj), List.getElem?_set_ne (Ne.symm hi)]
theorem Rel.killS {e : Ent} {F H : Hp} {σ : St} {L : List Addr} (r : Rel W e env F σ H L) (i : Nat) : ∃ L', Rel W e (env.set i none) F σ H L' := by
  obtain ⟨L', s, nd, m⟩ := r.slots.kill (i := i) (o := (σ[i]?).join) r.nd
  have hs : σ.set i ((σ[i]?).join) = σ := by
    apply List.ext_getElem?
    intro c
    by_cases hc : c = i
    · subst hc
      by_cases hl : c < σ.length
      · rw [List.getElem?_set_self hl, List.getElem?_eq_getElem hl]
        rfl
      · rw [List.getElem?_eq_none (by rw [List.length_set]; omega), List.getElem?_eq_none (by omega)]
    · rw [List.getElem?_set_ne (Ne.symm hc)]
  rw [hs] at s
  exact ⟨L', r.sF, s, nd, fun a ha => r.dj a (m a ha), r.s0, r.nw, r.fr, fun a ha => r.ln a (m a ha), r.pin⟩
theorem hid_set {i j : Nat} {d : D} {xs : List D} (hj : isOL env j = true) (o : Option D) : hid ((env.set i o).set j (some (.olst xs))) i d = hid env i d := by
  unfold hid
  apply List.ext_getElem?
  intro a
  by_cases hi : a = i
  · subst hi
    by_cases hl : a < env.length
    · rw [List.getElem?_set_self (by simpa using hl), List.getElem?_set_self (by simpa using hl)]
    · rw [List.getElem?_eq_none (by simp; omega), List.getElem?_eq_none (by simp; omega)]
  · rw [List.getElem?_set_ne (Ne.symm hi), List.getElem?_set_ne (Ne.symm hi), List.getElem?_map, List.getElem?_map]
    by_cases haj : a = j
    · subst haj
      unfold isOL at hj
      split at hj
      · rename_i ys h
        have hl : a < env.length := (List.getElem?_eq_some_iff.mp h).1
        rw [List.getElem?_set_self (by rw [List.length_set]; exact hl), h]
        rfl
      · cases hj
    · rw [List.getElem?_set_ne (Ne.symm haj), List.getElem?_set_ne (Ne.symm hi)]
def formE (b : List Nat -> Py.Env -> RS) (P : List Nat) (env : Py.Env) (j i : Nat) (ds : List D) : Option (List D) :=
  if i ∉ P /\ i ≠ j /\ i < env.length then fmE (fun d => outI env.length i (b (i :: (somL env i ++ P)) (hid env i d))) ds else none
def formR (env : Py.Env) (j i : Nat) : Option (List D) -> RS
  | some es => .nx ((env.set i none).set j (some (.olst es)))
  | none => .no
def olO : Option D -> Option (List D)
  | some (.olst ds) => some ds
  | _ => none
theorem olO_ok {o : Option D} {ds : List D} (h : olO o = some ds) : o = some (.olst ds) := by
  match o, h with
  | some (.olst _), h => cases h; rfl
theorem as_forM {b : XS W} {j i : Nat} {ds es : List D} (hj : env[j]? = some (some (.olst ds))) (h : formE b.ev P env j i ds = some es) {A : AEnds} (hA : A.nx ((env.set i none).set j (some (.olst es)))) : AS W P E (tFor (iSeqU W.K (tVar j)) (gName i) (b.t E)) env A := fun e F σ H L Dn hP r s => by
  unfold formE at h
  have ⟨hc, h⟩ : (i ∉ P /\ i ≠ j /\ i < env.length) /\ fmE (fun d => outI env.length i (b.ev (i :: (somL env i ++ P)) (hid env i d))) ds = some es := by
    by_cases z : i ∉ P /\ i ≠ j /\ i < env.length
    · rw [if_pos z] at h; exact ⟨z, h⟩
    · rw [if_neg z] at h; cases h
  obtain ⟨hiP, hij, hil⟩ := hc
  obtain ⟨hle, hget⟩ := fmE_get h
  have hjl : j < env.length := (List.getElem?_eq_some_iff.mp hj).1
  have hso : isSo env j = true := by unfold isSo; rw [hj]
  have hol : isOL env j = true := by unfold isOL; rw [hj]
  obtain ⟨v0, M, e1, ow, _⟩ := slot_get r hj
  cases ow with
  | sh y => cases y
  | olst ha os =>
  rename_i a vs LL hsub
  have hvl : ds.length = vs.length := os.length
  obtain ⟨L0, r0⟩ := r.killS i
  have e0 : env.set i none = (env.set i none).set j (some (.olst ds)) := by
    apply List.ext_getElem?
    intro c
    by_cases hc : c = j
    · subst hc
      rw [List.getElem?_set_self (by rw [List.length_set]; exact hjl), List.getElem?_set_ne hij, hj]
    · rw [List.getElem?_set_ne (Ne.symm hc)]
  have cur0 : es.take 0 ++ ds.drop 0 = ds := by simp
  refine .inl ⟨_, e1, a, rfl, ⟨vs, .of ha⟩, ?_⟩
  refine ⟨fun k m σ H => m = ds.length - k /\ k <= ds.length /\ ∃ F L, Rel W e ((env.set i none).set j (some (.olst (es.take k ++ ds.drop k)))) F σ H L /\ σ[j]? = some (some (.ref a)) /\ H a = some (.lst vs), ⟨ds.length, rfl, Nat.zero_le _, F, L0, by rw [cur0, <- e0]; exact r0, e1, ha⟩, ?_⟩
  rintro k m σ H ⟨rfl, hk, F, L, q, hs, haH⟩
  by_cases hlt : k < ds.length
  · have hd : ds[k]? = some ds[k] := List.getElem?_eq_getElem hlt
    obtain ⟨x, hx, hex⟩ := hget k _ hd
    have htl : (es.take k).length = k := by rw [List.length_take]; omega
    have hcur : (es.take k ++ ds.drop k)[k]? = some ds[k] := by
      rw [List.getElem?_append_right (by omega), htl, Nat.sub_self, List.getElem?_drop, Nat.add_zero, hd]
    have hnext : (es.take k ++ ds.drop k).set k x = es.take (k + 1) ++ ds.drop (k + 1) := by
      rw [List.drop_eq_getElem_cons hlt, List.set_append_right _ _ (by omega), htl, Nat.sub_self, List.set_cons_zero, List.take_succ, hex]
      simp
    have hv : vs[k]? = some (vs[k]'(by omega)) := List.getElem?_eq_getElem _
    generalize vs[k]'(by omega) = v at hv
    refine .inr ⟨⟨vs, v, .of haH, hv⟩, fun σ H => ∃ F L, Rel W e ((env.set i none).set j (some (.olst (es.take (k + 1) ++ ds.drop (k + 1))))) F σ H L /\ σ[j]? = some (some (.ref a)) /\ H a = some (.lst vs), fun σ' H' p' => ⟨ds.length - (k + 1), by omega, rfl, hlt, p'⟩, fun y H' yl => ?_⟩
    obtain ⟨rfl, yl⟩ := yl
    have := yl vs (.of haH)
    rw [hv] at this
    cases this
    have hlen : ((env.set i none).set j (some (.olst (es.take k ++ ds.drop k)))).length = env.length := by rw [List.length_set, List.length_set]
    refine item_turn (j := j) (k := k) (d' := x) q (List.getElem?_set_self (by rw [List.length_set]; exact hjl)) (by rw [List.getElem?_set_ne (Ne.symm hij), List.getElem?_set_self hil]) hcur (by rw [<- hP]; exact hiP) rfl ?_ hs haH hv (fun F2 σ2 H2 L2 r4 h1 h2 => ⟨F2, L2, ?_, h1, h2⟩) rfl
    · rw [somL_set hso, hlen, <- hP, hid_set hol]
      exact hx
    · rw [List.set_set, hnext] at r4
      exact r4
  · have e3 : k = ds.length := by omega
    subst e3
    have : es.take ds.length ++ ds.drop ds.length = es := by rw [<- hle, List.take_length, List.drop_eq_nil_of_le (by omega), List.append_nil]
    rw [this] at q
    exact .inl ⟨⟨vs, .of haH, by omega⟩, s.nx _ _ _ _ _ hA q⟩
def xsForM (j i : Nat) (b : XS W) : XS W where
  t E := tFor (iSeqU W.K (tVar j)) (gName i) (b.t E)
  ev P env := formR env j i ((olO (getS env j)).bind (formE b.ev P env j i))
  snd := fun P E env hn => by
    match h : (olO (getS env j)).bind (formE b.ev P env j i), hn with
    | some es, hn =>
      obtain ⟨ds, h1, h2⟩ := Option.bind_eq_some_iff.mp h
      exact as_forM (getS_some (olO_ok h1)) h2 rfl
    | none, hn => exact absurd rfl hn
theorem e_xsForM {j i : Nat} {b : XS W} {P : List Nat} {env : Py.Env} : (xsForM j i b).ev P env = formR env j i ((olO (getS env j)).bind (formE b.ev P env j i)) := rfl
end
end Py
namespace Py
open PySem L2
mutual
def isLs : D -> Bool
  | .olst xs => isLss xs
  | d => isSh d
def isLss : List D -> Bool
  | [] => true
  | d :: ds => isLs d && isLss ds
end
theorem isLss_all : ∀ {ds : List D}, (∀ d ∈ ds, isLs d = true) -> isLss ds = true
  | [], _ => by rw [isLss]
  | d :: ds, h => by rw [isLss, h d (by simp), isLss_all fun x m => h x (List.mem_cons_of_mem _ m)]; rfl
section
variable {T : Tbl} {W : Wd T}
mutual
theorem Own.lsts {F H : Hp} : ∀ {d : D} {v : V} {L : List Addr}, Own W F H d v L -> isLs d = true -> ∀ b ∈ L, ∃ vs, H b = some (.lst vs)
  | _, _, _, .sh _, _ => fun b hb => by cases hb
  | _, _, _, .olst h t, e => fun b hb => by
    rcases List.mem_cons.mp hb with rfl | hb
    · exact ⟨_, h⟩
    · exact Owns.lsts t (by rw [isLs] at e; exact e) b hb
  | _, _, _, .odic h l n t, e => by simp [isLs, isSh] at e
  | _, _, _, .odit h l n t, e => by simp [isLs, isSh] at e
  | _, _, _, .odig h k l t, e => by simp [isLs, isSh] at e
  | _, _, _, .oins h c l t, e => by simp [isLs, isSh] at e
theorem Owns.lsts {F H : Hp} : ∀ {d : List D} {v : List V} {L : List Addr}, Owns W F H d v L -> isLss d = true -> ∀ b ∈ L, ∃ vs, H b = some (.lst vs)
  | _, _, _, .nil, _ => fun b hb => by cases hb
  | _, _, _, .cons h t, e => fun b hb => by
    rw [isLss, Bool.and_eq_true] at e
    rcases List.mem_append.mp hb with hb | hb
    · exact Own.lsts h e.1 b hb
    · exact Owns.lsts t e.2 b hb
end
def onM (M : List Addr) (H1 F1 : Hp) : Hp := fun b => if b ∈ M then H1 b else F1 b
theorem onM_in {M : List Addr} {H1 F1 : Hp} {b : Addr} (h : b ∈ M) : onM M H1 F1 b = H1 b := if_pos h
theorem onM_out {M : List Addr} {H1 F1 : Hp} {b : Addr} (h : b ∉ M) : onM M H1 F1 b = F1 b := if_neg h
theorem lends_on {F1 H1 : Hp} {M : List Addr} (s : Same F1 H1) : Same F1 (onM M H1 F1) /\ Same (onM M H1 F1) H1 := by
  constructor
  · intro b o h
    by_cases e : b ∈ M
    · rw [onM_in e]; exact s _ _ h
    · rw [onM_out e]; exact h
  · intro b o h
    by_cases e : b ∈ M
    · rw [onM_in e] at h; exact h
    · rw [onM_out e] at h; exact s _ _ h
theorem lends_off {F1 H1 F3 H3 : Hp} {M : List Addr} {d : D} {v : V} (s : Same F1 H1) (ha : ∀ b ∈ M, ∃ vs, H1 b = some (.lst vs)) (x : Ext (onM M H1 F1) H1 F3 H3) (y : rO W d F3 H3 H1 v) (hn : oNl d = true) :
    ∃ F', Ext F1 H1 F' H3 /\ rO W d F' H3 H1 v := by
  have h3 : ∀ b ∈ M, F3 b = H1 b := fun b hb => by
    obtain ⟨vs, e⟩ := ha b hb
    rw [e]
    exact x.f _ _ (by rw [onM_in hb]; exact e)
  refine ⟨onM M F1 F3, ⟨fun b o h => ?_, fun b o h => ?_, x.h, fun b o h => ?_⟩, ?_⟩
  · by_cases e : b ∈ M
    · rw [onM_in e]; exact h
    · rw [onM_out e]; exact x.f _ _ (by rw [onM_out e]; exact h)
  · by_cases e : b ∈ M
    · rw [onM_in e] at h; exact x.h _ _ (s _ _ h)
    · rw [onM_out e] at h; exact x.s _ _ h
  · by_cases e : b ∈ M
    · rw [onM_in e] at h; exact .inl h
    · rw [onM_out e] at h
      rcases x.n b o h with z | z
      · rw [onM_out e] at z; exact .inl z
      · exact .inr z
  · obtain ⟨L, o, nd, k⟩ := y
    refine ⟨L, o.unl (fun b o h => ?_) hn, nd, fun b m => ⟨(k b m).1, ?_⟩⟩
    · by_cases e : b ∈ M
      · obtain ⟨vs, e2⟩ := ha b e
        rw [h3 b e, e2] at h; exact .inr ⟨vs, (Option.some.inj h).symm⟩
      · rw [onM_out e]; exact .inl h
    · have e : b ∉ M := fun e => by
        obtain ⟨vs, e2⟩ := ha b e
        have := (k b m).2; rw [h3 b e, e2] at this; cases this
      rw [onM_out e]; exact (k b m).2
def ownI (o : Option D) : Option (List D) := match o with
  | some (.olst xs) => if isLss xs = true then some (fzs xs) else none
  | _ => none
theorem ownI_ok {o : Option D} {ys : List D} (h : ownI o = some ys) : ∃ xs, o = some (.olst xs) /\ isLss xs = true /\ ys = fzs xs := by
  unfold ownI at h
  split at h
  · obtain ⟨h1, h2⟩ := ite_some h
    exact ⟨_, rfl, h1, h2.symm⟩
  · cases h
def xMakeI (φ : Sem) (c ini : String) (n : Nat) (x : XP W) : XP W where
  t := (xMake φ c ini n (xaCons x (xaNil W)) [] [] (fun _ => .nil)).t
  ev env := orI (lentE φ c ini n (ownI (x.evK env))) ((xMake φ c ini n (xaCons x (xaNil W)) [] [] (fun _ => .nil)).ev env)
  snd := fun {env k d} e => by
    rcases orI_ok e with e | e
    · unfold lentE at e
      split at e
      · rename_i ys e1
        obtain ⟨e2, hf, rfl⟩ := ofB_ok e
        obtain ⟨xs, e3, hls, rfl⟩ := ownI_ok e1
        refine fun e' F σ H L Q r q hc => x.sK e3 e' F σ H L _ r fun w F1 H1 x1 ⟨M, o⟩ z dx hx hdx ne => ?_
        have ha := o.lsts (by rw [isLs]; exact hls)
        obtain ⟨s1, s2⟩ := lends_on (M := M) x1.s
        have hv : Shr W (onM M H1 F1) (fz (.olst xs)) w := o.view s1 fun b hb o h => by rw [onM_in hb]; exact h
        rw [fz] at hv
        have y2 : Shrs W (onM M H1 F1) [.lst (fzs xs)] [w] := .cons hv .nil
        show spR W n (φ ini) (some 0) (.ref z :: ([w] ++ [])) _ _ E0
        rw [List.append_nil]
        refine makeF s2 y2 hc e2 (fun v F3 H3 x3 y3 => ?_) z dx hx hdx ne
        obtain ⟨F', x4, y4⟩ := lends_off x1.s ha x3 y3 hf
        exact q v F' H3 (x1.trans x4) (rO_back x1.h y4)
      · cases e
    · exact (xMake φ c ini n (xaCons x (xaNil W)) [] [] (fun _ => .nil)).snd e
theorem e_xMakeI {φ : Sem} {c ini n} {x : XP W} {env} : (xMakeI φ c ini n x).ev env = orI (lentE φ c ini n (ownI (x.evK env))) ((xMake φ c ini n (xaCons x (xaNil W)) [] [] (fun _ => .nil)).ev env) := rfl
theorem h_ownI {xs : List D} (h : isLss xs = true) : ownI (some (.olst xs)) = some (fzs xs) := if_pos h
end
end Py
namespace Py
open PySem L2
theorem forL_gen {f : D -> Py.Env -> RS} {r : RS} : ∀ {ds : List D} {env : Py.Env} (I : Nat -> Py.Env -> Prop), forL f ds env = r -> I 0 env -> (∀ i d e, ds[i]? = some d -> I i e -> ∃ e', (f d e = .nx e' \/ f d e = .ct e') /\ I (i + 1) e') -> ∃ e', r = .nx e' /\ I ds.length e'
  | [], env, I, h, h0, _ => ⟨env, h.symm, h0⟩
  | d :: ds, env, I, h, h0, hs => by
    obtain ⟨e', h1, h2⟩ := hs 0 d env rfl h0
    have h : (match f d env with | .nx e => forL f ds e | .ct e => forL f ds e | .bk e => .nx e | r => r) = r := h
    have h3 : forL f ds e' = r := by rcases h1 with h1 | h1 <;> (rw [h1] at h; exact h)
    exact forL_gen (fun i e => I (i + 1) e) h3 h2 fun i d e hd hi => hs (i + 1) d e (by simpa using hd) hi
theorem atI_map {α β : Type} (f : α -> β) (xs : List α) (i : Int) : atI (xs.map f) i = (atI xs i).map f := by
  unfold atI
  rw [List.length_map]
  cases ixN xs.length i with
  | none => rfl
  | some j => show (xs.map f)[j]? = _; rw [List.getElem?_map]; rfl
theorem atI_of {α : Type} {xs : List α} {j : Nat} {x : α} (h : xs[j]? = some x) : atI xs (j : Int) = some x := by rw [atI_litN, h]
theorem atI_get {α : Type} {xs : List α} {i : Int} (h0 : 0 <= i) (h : i < xs.length) : ∃ x, atI xs i = some x /\ xs[i.toNat]? = some x := by
  obtain ⟨j, rfl⟩ := Int.eq_ofNat_of_zero_le h0
  have : xs[j]? = some (xs[j]'(by omega)) := List.getElem?_eq_getElem (by omega)
  exact ⟨_, atI_of this, this⟩
theorem sh_map {α : Type} {enc : α -> D} (h : ∀ a, isSh (enc a) = true) (xs : List α) : (xs.map enc).all isSh = true := by
  rw [List.all_eq_true]
  intro d hd
  obtain ⟨a, _, rfl⟩ := List.mem_map.mp hd
  exact h a
theorem fzs_map {α : Type} {enc : α -> D} (h : ∀ a, isSh (enc a) = true) (xs : List α) : fzs (xs.map enc) = xs.map enc := by
  rw [fzs_eq, List.map_map]
  exact List.map_congr_left fun a _ => fz_isSh (h a)
theorem okDs_map {α : Type} {enc : α -> D} {n : Nat} (h : ∀ a, okD n (enc a) = true) (xs : List α) : okDs n (xs.map enc) = true := by
  rw [okDs_all, List.all_eq_true]
  intro d hd
  obtain ⟨a, _, rfl⟩ := List.mem_map.mp hd
  exact h a
theorem eqBs_map {α : Type} [DecidableEq α] {enc : α -> D} (h : ∀ a b, eqB (enc a) (enc b) = decide (a = b)) : ∀ xs ys : List α, eqBs (xs.map enc) (ys.map enc) = decide (xs = ys)
  | [], [] => by rw [List.map_nil, eqBs]; rfl
  | [], y :: ys => by rw [List.map_nil, List.map_cons, h_eqBs_nc]; rfl
  | x :: xs, [] => by rw [List.map_nil, List.map_cons, h_eqBs_cn]; rfl
  | x :: xs, y :: ys => by
    rw [List.map_cons, List.map_cons, eqBs, h, eqBs_map h xs ys]
    by_cases h1 : x = y <;> by_cases h2 : xs = ys <;> simp [h1, h2]
theorem lcL_map {α : Type} {enc : α -> D} {f : D -> Option (List D)} {g : α -> List D} (xs : List α) (h : ∀ a ∈ xs, f (enc a) = some (g a)) : lcL f (xs.map enc) = some (xs.flatMap g) := by
  induction xs with
  | nil => rfl
  | cons x xs ih =>
    show (f (enc x)).bind _ = _
    rw [h x (List.mem_cons_self ..), Option.bind_some, ih fun a m => h a (List.mem_cons_of_mem _ m)]
    rfl
theorem flatMap_one {α β : Type} (f : α -> β) (xs : List α) : (xs.flatMap fun a => [f a]) = xs.map f := by
  induction xs with
  | nil => rfl
  | cons x xs ih => rw [List.flatMap_cons, ih]; rfl
theorem lcL_mapE {α β : Type} {enc : α -> D} {enc2 : β -> D} {f : D -> Option (List D)} (g : α -> β) (xs : List α) (h : ∀ a ∈ xs, f (enc a) = some [enc2 (g a)]) : lcL f (xs.map enc) = some ((xs.map g).map enc2) := by
  rw [lcL_map (g := fun a => [enc2 (g a)]) xs h, flatMap_one, List.map_map]; rfl
end Py
namespace Py
open PySem L2
local macro_rules | `(tactic| walk_at "ev") => `(tactic| try simp (maxSteps := 1000000) (disch := first | omega | decide) only [e_xsSeq, e_xsNext, e_xsAsg, e_xsExpr, e_xsRet, e_xsIf, e_xsFrz, e_xmP, e_xVar_V, e_xtV, e_xtTru, e_xtAnd, e_xtOr, e_xtNot, e_xtYes, e_xVar, e_xInt, e_xBl, e_xNon, e_xStr, e_xSub, e_xMul, e_xDiv, e_xMod, e_xPow, e_xNeg, e_xAdd, e_xEq, e_xNe, e_xLt, e_xLe, e_xGt, e_xGe, e_xAnd, e_xNot, e_xTup, e_xLst, e_xInt1, e_xAbs, e_xIx, e_xFld, e_xList, e_xTuple, e_xIsi, e_xIsiT, e_xCall, e_xLc, e_xmMove, e_xmAppend, e_xmInsert, e_xoNil, e_xoCons, e_plVar, r_plVar, e_xaNilV, e_xaNilF, e_xaConsV, e_xaConsF, e_xgN, e_xgsNil, e_xgsCons, e_xgT, o_xgN, o_xgT, o_xgsNil, o_xgsCons, e_xiSeqF, e_xiSeqP, e_xiR1F, e_xiR1P, e_xsFor, e_evV, e_evK, e_evF, e_evO, e_evB, h_getS0, h_getS0n, h_getSs, h_toV, h_toVn, h_toKf, h_toKp, h_toKv, h_toKn, h_toFf, h_toFp, h_toFv, h_toFn, h_toOf, h_toOp, h_toOv, h_toOn, h_of_f, h_of_p, h_of_v, h_then_nx, h_then_rt, h_then_bk, h_then_ct, h_then_ex, h_then_no, h_thenS_ok, h_thenS_exn, h_thenS_no, h_ofO, h_ofOn, h_of, h_ofn, h_mofO, h_mofOn, h_iteF1, h_iteF0, h_iteFn, h_asgK, h_forK, h_andF1, h_andF0, h_orF1, h_orF0, h_blD, h_turn, h_turnn, h_forE, h_forEn, h_callF, h_callV, h_rzF, h_rzV, h_fz_non, h_sh_non, h_fl_non, h_isN_non, h_fz_bl, h_sh_bl, h_fl_bl, h_fz_int, h_sh_int, h_fl_int, h_isN_int, h_fz_str, h_sh_str, h_fl_str, h_isN_str, h_fz_cls, h_sh_cls, h_fl_cls, h_isN_cls, h_fz_sei, h_sh_sei, h_fl_sei, h_isN_sei, h_fz_scr, h_sh_scr, h_fl_scr, h_isN_scr, h_fz_tup, h_sh_tup, h_fl_tup, h_isN_tup, h_fz_lst, h_sh_lst, h_fl_lst, h_isN_lst, h_fz_dic, h_sh_dic, h_fl_dic, h_isN_dic, h_fz_dit, h_sh_dit, h_fl_dit, h_isN_dit, h_fz_dig, h_sh_dig, h_fl_dig, h_isN_dig, h_fz_ins, h_sh_ins, h_fl_ins, h_isN_ins, h_isN_bl, h_fz_olst, h_sh_olst, h_fl_olst, h_fz_odic, h_sh_odic, h_fl_odic, h_fz_odit, h_sh_odit, h_fl_odit, h_fz_odig, h_sh_odig, h_fl_odig, h_fz_oins, h_sh_oins, h_fl_oins, h_fzs_nil, h_fzs_cons, h_fzs_app, h_tru_bl, h_tru_non, h_tru_int, h_tru_lst, h_tru_tup, h_sub, h_neg, h_addI, h_addT, h_addL, h_addLo, h_addoL, h_addoo, h_eqD, h_neD, h_ok_non, h_ok_bl, h_ok_int, h_ok_str, h_ok_tup, h_ok_lst, h_oks_nil, h_oks_cons, h_eqB_ii, h_eqB_ss, h_eqB_bb, h_eqB_nn, h_eqB_ni, h_eqB_in, h_eqB_nt, h_eqB_tn, h_eqB_tt, h_eqB_ll, h_eqBs_nn, h_eqBs_cc, h_eqBs_nc, h_eqBs_cn, h_cmp, h_ltI, h_ltT, h_ints_nil, h_ints_cons, h_intI, h_intB, h_abs, h_lenL, h_lenT, h_lenS, h_ix, h_it_lst, h_it_olst, h_it_tup, h_it_scr, h_at0, h_at1, h_at2, h_at3, h_at4, h_at5, h_at6, h_at7, h_at8, h_at9, h_at10, h_at11, h_at12, h_atm1, h_seq_lst, h_seq_tup, h_seq_olst, h_seq_scr, h_sF_lst, h_sF_tup, h_sF_scr, h_lF_lst, h_ty_non, h_ty_bl, h_ty_int, h_ty_str, h_ty_lst, h_ty_tup, h_ty_ins, h_isi_bb, h_isi_bo, h_isi_ob, h_isi_oo, h_isiA_n, h_isiA_c, h_isiB_NoneType_bool, h_isiB_NoneType_int, h_isiB_NoneType_str, h_isiB_NoneType_list, h_isiB_NoneType_tuple, h_isiB_NoneType_dict, h_isiB_bool_bool, h_isiB_bool_int, h_isiB_bool_str, h_isiB_bool_list, h_isiB_bool_tuple, h_isiB_bool_dict, h_isiB_int_bool, h_isiB_int_int, h_isiB_int_str, h_isiB_int_list, h_isiB_int_tuple, h_isiB_int_dict, h_isiB_str_bool, h_isiB_str_int, h_isiB_str_str, h_isiB_str_list, h_isiB_str_tuple, h_isiB_str_dict, h_isiB_list_bool, h_isiB_list_int, h_isiB_list_str, h_isiB_list_list, h_isiB_list_tuple, h_isiB_list_dict, h_isiB_tuple_bool, h_isiB_tuple_int, h_isiB_tuple_str, h_isiB_tuple_list, h_isiB_tuple_tuple, h_isiB_tuple_dict, h_isiB_dict_bool, h_isiB_dict_int, h_isiB_dict_str, h_isiB_dict_list, h_isiB_dict_tuple, h_isiB_dict_dict, h_append, h_insert, h_put0, h_rng1, h_guard1, h_guard0, h_forLn, h_forLc, h_forT_nx, h_forT_ct, h_forT_bk, h_forT_rt, h_forT_ex, h_lc1, h_lcK, h_lcJ1, h_lcJ0, h_wipe0, h_wipes, h_frz, h_frzO, h_frzOn, h_runR_rt, h_runR_nx, h_retZ, h_bGetn, h_bGets, h_setS, h_fldI, h_fldO, h_iteFd1, h_iteFd0, h_iteFe1, h_iteFe0, h_andFd1, h_andFd0, h_andFe1, h_andFe0, h_orFd1, h_orFd0, h_orFe1, h_orFe0, h_lcJd1, h_lcJd0, h_lcJe1, h_lcJe0, h_resE, h_resEn, h_posn, h_posc, h_putc, h_putE, h_subF, h_subI, h_putF, h_putI, h_setOs, h_eSfld, h_fldK, h_setFD, h_setFn, h_setFc, h_eMake, h_makeF, h_makeV, h_mk1, h_mkR, h_eProp, h_propF, h_propV, h_prop1, h_eLenU, h_lenI_lst, h_lenI_tup, h_lenI_scr, h_lenI_ins, h_lenQ, h_lenR, h_eSl, h_slE, h_evI0, h_evI1, h_intO, h_RTthen_ok, h_RTthenS_ok, h_RTthen_exn, h_RTthenS_exn, h_RTof, h_eListU, h_lstE_lst, h_lstE_tup, h_lstE_scr, h_lstE_olst, h_lstE_ins, h_itQ, h_it_ins, h_lo_lst, h_lo_olst, h_eiSeqUF, h_eiSeqUP, h_eiEnumUF, h_eiEnumUP, h_eiEnumTF, h_eiEnumTP, h_enTI_tup, h_enTI_lst, h_enTI_ins, h_seqFI_lst, h_seqFI_tup, h_seqFI_scr, h_seqFI_ins, h_seqKI_lst, h_seqKI_tup, h_seqKI_scr, h_seqKI_ins, h_seqKI_olst, h_enFI_lst, h_enFI_ins, h_enKI_lst, h_enKI_ins, h_enKI_olst, h_orI_s, h_orI_n, h_ixD_ins, h_okD_ins, h_eqD_ins, h_addD_ins, h_addD_oins, h_eSum, h_sumI, h_eSset, h_setK, h_storeD, h_inK_non, h_inK_int, h_inK_str, h_guardB_t, h_keyD_i, h_keyD_s, h_lentEs, h_lentEn, h_ofBs, h_ofBn, h_oNl_int, h_oNl_str, h_oNl_bl, h_oNl_n, h_oNl_ins, h_oNl_oins, h_oNl_dic, h_oNl_odic, h_oNl_tup, h_oNl_olst, h_oNls_n, h_oNls_c, h_eRaise, h_exOf, h_exOfn, h_eTryAs, h_tryK_nx, h_tryK_rt, h_tryK_bk, h_tryK_ct, h_tryK_no, h_tryK_ex, h_tryJ1, h_tryJ0, h_clr_nx, h_clr_rt, h_clr_bk, h_clr_ct, h_clr_no, h_ehAsg, h_hAsgK, h_hAsgKn, h_qevO, h_qevB, h_qevF, h_toQf, h_toQp, h_toQv, h_toQn, h_eqFld, h_eqIs, h_isX1t, h_isX1f, h_eqAnd, h_eqNot, h_eMakeM, h_makeM, h_mkMo, h_mkMx, h_mkMn, h_runR_ex, h_retX, h_thenY1, h_thenY2, h_thenY3, h_look1, h_look2, h_div, h_mod, h_mulL, h_mulR, h_rngOk, List.zip_cons_cons, List.zip_nil_left, if_pos, if_neg, List.getElem?_cons_zero, List.getElem?_cons_succ, List.getElem?_nil, List.getLast?_append, List.getLast?_singleton, List.getLast?_cons_cons, runFn, env0, Option.toList, List.map_cons, List.map_nil, List.length_cons, List.length_nil, List.length_append, List.length_map, List.length_set, List.replicate, List.cons_append, List.nil_append, List.append_nil, Nat.reduceSub, Nat.reduceAdd, Nat.reduceLT, Nat.reduceLeDiff, Nat.reduceEqDiff, Nat.zero_add, Nat.add_zero, List.set_cons_zero, List.set_cons_succ, List.set_nil, Option.bind_some, Option.bind_none, Option.map_some, Option.map_none, List.foldl_cons, List.foldl_nil, not_false_eq_true, not_true_eq_false, and_true, true_and, and_self, and_false, false_and, if_true, if_false, ite_true, ite_false, reduceIte, List.not_mem_nil, reduceCtorEq, List.mem_cons, or_false, false_or, or_self, ne_eq, Bool.not_true, Bool.not_false, Bool.and_true, Bool.and_false, Bool.true_and, Bool.false_and, Bool.or_true, Bool.or_false, Bool.true_or, Bool.false_or, Bool.and_self, Bool.or_self, List.all_cons, List.all_nil, decide_true, decide_false, decide_not, decide_eq_true_eq, decide_eq_false_iff_not, Bool.not_not, Int.reduceLT, Int.reduceLE, Int.reduceEq, Int.reduceNe, Int.reduceAdd, Int.reduceMul, Int.reduceSub, Int.reduceNeg, List.isEmpty_cons, List.isEmpty_nil, Bool.false_eq_true, Bool.true_eq_false, String.reduceEq, Function.comp_apply, Option.isNone_none, Option.some_or, Option.isNone_some, List.getLast?_concat, List.dropLast_concat, List.all_append])
end Py
namespace Py
open PySem L2
local macro_rules | `(tactic| walk_at "ev") => `(tactic| try simp (maxSteps := 1000000) (disch := first | omega | decide) only [e_xsSeq, e_xsNext, e_xsAsg, e_xsExpr, e_xsRet, e_xsIf, e_xsFrz, e_xmP, e_xVar_V, e_xtV, e_xtTru, e_xtAnd, e_xtOr, e_xtNot, e_xtYes, e_xVar, e_xInt, e_xBl, e_xNon, e_xStr, e_xSub, e_xMul, e_xDiv, e_xMod, e_xPow, e_xNeg, e_xAdd, e_xEq, e_xNe, e_xLt, e_xLe, e_xGt, e_xGe, e_xAnd, e_xNot, e_xTup, e_xLst, e_xInt1, e_xAbs, e_xIx, e_xFld, e_xList, e_xTuple, e_xIsi, e_xIsiT, e_xCall, e_xLc, e_xmMove, e_xmAppend, e_xmInsert, e_xoNil, e_xoCons, e_plVar, r_plVar, e_xaNilV, e_xaNilF, e_xaConsV, e_xaConsF, e_xgN, e_xgsNil, e_xgsCons, e_xgT, o_xgN, o_xgT, o_xgsNil, o_xgsCons, e_xiSeqF, e_xiSeqP, e_xiR1F, e_xiR1P, e_xsFor, e_evV, e_evK, e_evF, e_evO, e_evB, h_getS0, h_getS0n, h_getSs, h_toV, h_toVn, h_toKf, h_toKp, h_toKv, h_toKn, h_toFf, h_toFp, h_toFv, h_toFn, h_toOf, h_toOp, h_toOv, h_toOn, h_of_f, h_of_p, h_of_v, h_then_nx, h_then_rt, h_then_bk, h_then_ct, h_then_ex, h_then_no, h_thenS_ok, h_thenS_exn, h_thenS_no, h_ofO, h_ofOn, h_of, h_ofn, h_mofO, h_mofOn, h_iteF1, h_iteF0, h_iteFn, h_asgK, h_forK, h_andF1, h_andF0, h_orF1, h_orF0, h_blD, h_turn, h_turnn, h_forE, h_forEn, h_callF, h_callV, h_rzF, h_rzV, h_fz_non, h_sh_non, h_fl_non, h_isN_non, h_fz_bl, h_sh_bl, h_fl_bl, h_fz_int, h_sh_int, h_fl_int, h_isN_int, h_fz_str, h_sh_str, h_fl_str, h_isN_str, h_fz_cls, h_sh_cls, h_fl_cls, h_isN_cls, h_fz_sei, h_sh_sei, h_fl_sei, h_isN_sei, h_fz_scr, h_sh_scr, h_fl_scr, h_isN_scr, h_fz_tup, h_sh_tup, h_fl_tup, h_isN_tup, h_fz_lst, h_sh_lst, h_fl_lst, h_isN_lst, h_fz_dic, h_sh_dic, h_fl_dic, h_isN_dic, h_fz_dit, h_sh_dit, h_fl_dit, h_isN_dit, h_fz_dig, h_sh_dig, h_fl_dig, h_isN_dig, h_fz_ins, h_sh_ins, h_fl_ins, h_isN_ins, h_isN_bl, h_fz_olst, h_sh_olst, h_fl_olst, h_fz_odic, h_sh_odic, h_fl_odic, h_fz_odit, h_sh_odit, h_fl_odit, h_fz_odig, h_sh_odig, h_fl_odig, h_fz_oins, h_sh_oins, h_fl_oins, h_fzs_nil, h_fzs_cons, h_fzs_app, h_tru_bl, h_tru_non, h_tru_int, h_tru_lst, h_tru_tup, h_sub, h_neg, h_addI, h_addT, h_addL, h_addLo, h_addoL, h_addoo, h_eqD, h_neD, h_ok_non, h_ok_bl, h_ok_int, h_ok_str, h_ok_tup, h_ok_lst, h_oks_nil, h_oks_cons, h_eqB_ii, h_eqB_ss, h_eqB_bb, h_eqB_nn, h_eqB_ni, h_eqB_in, h_eqB_nt, h_eqB_tn, h_eqB_tt, h_eqB_ll, h_eqBs_nn, h_eqBs_cc, h_eqBs_nc, h_eqBs_cn, h_cmp, h_ltI, h_ltT, h_ints_nil, h_ints_cons, h_intI, h_intB, h_abs, h_lenL, h_lenT, h_lenS, h_ix, h_it_lst, h_it_olst, h_it_tup, h_it_scr, h_at0, h_at1, h_at2, h_at3, h_at4, h_at5, h_at6, h_at7, h_at8, h_at9, h_at10, h_at11, h_at12, h_atm1, h_seq_lst, h_seq_tup, h_seq_olst, h_seq_scr, h_sF_lst, h_sF_tup, h_sF_scr, h_lF_lst, h_ty_non, h_ty_bl, h_ty_int, h_ty_str, h_ty_lst, h_ty_tup, h_ty_ins, h_isi_bb, h_isi_bo, h_isi_ob, h_isi_oo, h_isiA_n, h_isiA_c, h_isiB_NoneType_bool, h_isiB_NoneType_int, h_isiB_NoneType_str, h_isiB_NoneType_list, h_isiB_NoneType_tuple, h_isiB_NoneType_dict, h_isiB_bool_bool, h_isiB_bool_int, h_isiB_bool_str, h_isiB_bool_list, h_isiB_bool_tuple, h_isiB_bool_dict, h_isiB_int_bool, h_isiB_int_int, h_isiB_int_str, h_isiB_int_list, h_isiB_int_tuple, h_isiB_int_dict, h_isiB_str_bool, h_isiB_str_int, h_isiB_str_str, h_isiB_str_list, h_isiB_str_tuple, h_isiB_str_dict, h_isiB_list_bool, h_isiB_list_int, h_isiB_list_str, h_isiB_list_list, h_isiB_list_tuple, h_isiB_list_dict, h_isiB_tuple_bool, h_isiB_tuple_int, h_isiB_tuple_str, h_isiB_tuple_list, h_isiB_tuple_tuple, h_isiB_tuple_dict, h_isiB_dict_bool, h_isiB_dict_int, h_isiB_dict_str, h_isiB_dict_list, h_isiB_dict_tuple, h_isiB_dict_dict, h_append, h_insert, h_put0, h_rng1, h_guard1, h_guard0, h_forLn, h_forLc, h_forT_nx, h_forT_ct, h_forT_bk, h_forT_rt, h_forT_ex, h_lc1, h_lcK, h_lcJ1, h_lcJ0, h_wipe0, h_wipes, h_frz, h_frzO, h_frzOn, h_runR_rt, h_runR_nx, h_retZ, h_bGetn, h_bGets, h_setS, h_fldI, h_fldO, h_iteFd1, h_iteFd0, h_iteFe1, h_iteFe0, h_andFd1, h_andFd0, h_andFe1, h_andFe0, h_orFd1, h_orFd0, h_orFe1, h_orFe0, h_lcJd1, h_lcJd0, h_lcJe1, h_lcJe0, h_resE, h_resEn, h_posn, h_posc, h_putc, h_putE, h_subF, h_subI, h_putF, h_putI, h_setOs, h_eSfld, h_fldK, h_setFD, h_setFn, h_setFc, h_eMake, h_makeF, h_makeV, h_mk1, h_mkR, h_eProp, h_propF, h_propV, h_prop1, h_eLenU, h_lenI_lst, h_lenI_tup, h_lenI_scr, h_lenI_ins, h_lenQ, h_lenR, h_eSl, h_slE, h_evI0, h_evI1, h_intO, h_RTthen_ok, h_RTthenS_ok, h_RTthen_exn, h_RTthenS_exn, h_RTof, h_eListU, h_lstE_lst, h_lstE_tup, h_lstE_scr, h_lstE_olst, h_lstE_ins, h_itQ, h_it_ins, h_lo_lst, h_lo_olst, h_eiSeqUF, h_eiSeqUP, h_eiEnumUF, h_eiEnumUP, h_eiEnumTF, h_eiEnumTP, h_enTI_tup, h_enTI_lst, h_enTI_ins, h_seqFI_lst, h_seqFI_tup, h_seqFI_scr, h_seqFI_ins, h_seqKI_lst, h_seqKI_tup, h_seqKI_scr, h_seqKI_ins, h_seqKI_olst, h_enFI_lst, h_enFI_ins, h_enKI_lst, h_enKI_ins, h_enKI_olst, h_orI_s, h_orI_n, h_ixD_ins, h_okD_ins, h_eqD_ins, h_addD_ins, h_addD_oins, h_eSum, h_sumI, h_eSset, h_setK, h_storeD, h_inK_non, h_inK_int, h_inK_str, h_guardB_t, h_keyD_i, h_keyD_s, h_lentEs, h_lentEn, h_ofBs, h_ofBn, h_oNl_int, h_oNl_str, h_oNl_bl, h_oNl_n, h_oNl_ins, h_oNl_oins, h_oNl_dic, h_oNl_odic, h_oNl_tup, h_oNl_olst, h_oNls_n, h_oNls_c, h_eRaise, h_exOf, h_exOfn, h_eTryAs, h_tryK_nx, h_tryK_rt, h_tryK_bk, h_tryK_ct, h_tryK_no, h_tryK_ex, h_tryJ1, h_tryJ0, h_clr_nx, h_clr_rt, h_clr_bk, h_clr_ct, h_clr_no, h_ehAsg, h_hAsgK, h_hAsgKn, h_qevO, h_qevB, h_qevF, h_toQf, h_toQp, h_toQv, h_toQn, h_eqFld, h_eqIs, h_isX1t, h_isX1f, h_eqAnd, h_eqNot, h_eMakeM, h_makeM, h_mkMo, h_mkMx, h_mkMn, h_runR_ex, h_retX, h_thenY1, h_thenY2, h_thenY3, h_look1, h_look2, h_div, h_mod, h_mulL, h_mulR, h_rngOk, List.zip_cons_cons, List.zip_nil_left, if_pos, if_neg, List.getElem?_cons_zero, List.getElem?_cons_succ, List.getElem?_nil, List.getLast?_append, List.getLast?_singleton, List.getLast?_cons_cons, runFn, env0, Option.toList, List.map_cons, List.map_nil, List.length_cons, List.length_nil, List.length_append, List.length_map, List.length_set, List.replicate, List.cons_append, List.nil_append, List.append_nil, Nat.reduceSub, Nat.reduceAdd, Nat.reduceLT, Nat.reduceLeDiff, Nat.reduceEqDiff, Nat.zero_add, Nat.add_zero, List.set_cons_zero, List.set_cons_succ, List.set_nil, Option.bind_some, Option.bind_none, Option.map_some, Option.map_none, List.foldl_cons, List.foldl_nil, not_false_eq_true, not_true_eq_false, and_true, true_and, and_self, and_false, false_and, if_true, if_false, ite_true, ite_false, reduceIte, List.not_mem_nil, reduceCtorEq, List.mem_cons, or_false, false_or, or_self, ne_eq, Bool.not_true, Bool.not_false, Bool.and_true, Bool.and_false, Bool.true_and, Bool.false_and, Bool.or_true, Bool.or_false, Bool.true_or, Bool.false_or, Bool.and_self, Bool.or_self, List.all_cons, List.all_nil, decide_true, decide_false, decide_not, decide_eq_true_eq, decide_eq_false_iff_not, Bool.not_not, Int.reduceLT, Int.reduceLE, Int.reduceEq, Int.reduceNe, Int.reduceAdd, Int.reduceMul, Int.reduceSub, Int.reduceNeg, List.isEmpty_cons, List.isEmpty_nil, Bool.false_eq_true, Bool.true_eq_false, String.reduceEq, Function.comp_apply, Option.isNone_none, Option.some_or, Option.isNone_some, List.getLast?_concat, List.dropLast_concat, List.all_append])
class Enc (α : Type) [DecidableEq α] where
  enc : α -> D
  sh : ∀ a, isSh (enc a) = true
  dp : Nat
  ok : ∀ n a, okD (n + dp) (enc a) = true
  eq : ∀ a b, eqB (enc a) (enc b) = decide (a = b)
open Enc (enc)
class EncN (α : Type) [DecidableEq α] [Enc α] : Prop where
  nn : ∀ a : α, isNon (enc a) = false
  en : ∀ a : α, eqB (enc a) .non = false
  ne : ∀ a : α, eqB .non (enc a) = false
class EncF (α : Type) [DecidableEq α] [Enc α] : Prop where
  fl : ∀ a : α, isFlat (enc a) = true
section
variable {α β γ : Type} [DecidableEq α] [DecidableEq β] [DecidableEq γ] [Enc α] [Enc β] [Enc γ]
theorem sh_enc (a : α) : isSh (enc a) = true := Enc.sh a
theorem fz_enc (a : α) : fz (enc a) = enc a := fz_isSh (Enc.sh a)
theorem shl_enc (xs : List α) : (xs.map enc).all isSh = true := sh_map Enc.sh xs
theorem fzl_enc (xs : List α) : fzs (xs.map enc) = xs.map enc := fzs_map Enc.sh xs
theorem fl_enc [EncF α] (a : α) : isFlat (enc a) = true := EncF.fl a
theorem nn_enc [EncN α] (a : α) : isNon (enc a) = false := EncN.nn a
theorem ok_enc {n : Nat} (a : α) (h : Enc.dp α <= n) : okD n (enc a) = true := by
  have := Enc.ok (n - Enc.dp α) a
  rwa [show n - Enc.dp α + Enc.dp α = n by omega] at this
theorem okl_enc {n : Nat} (xs : List α) (h : Enc.dp α <= n) : okDs n (xs.map enc) = true := okDs_map (fun a => ok_enc a h) xs
theorem eq_enc (a b : α) : eqB (enc a) (enc b) = decide (a = b) := Enc.eq a b
theorem eql_enc (xs ys : List α) : eqBs (xs.map enc) (ys.map enc) = decide (xs = ys) := eqBs_map Enc.eq xs ys
theorem en_enc [EncN α] (a : α) : eqB (enc a) .non = false := EncN.en a
theorem ne_enc [EncN α] (a : α) : eqB .non (enc a) = false := EncN.ne a
end
instance : Enc Int := ⟨.int, fun _ => rfl, 0, fun n a => by walk_at "ev", fun a b => by walk_at "ev"⟩
instance : EncN Int := ⟨fun _ => rfl, fun a => by show eqB (.int a) .non = _; walk_at "ev", fun a => by show eqB .non (.int a) = _; walk_at "ev"⟩
instance : EncF Int := ⟨fun _ => rfl⟩
theorem enc_int (i : Int) : enc i = .int i := rfl
instance : Enc Bool := ⟨.bl, fun _ => rfl, 0, fun n a => by walk_at "ev", fun a b => by walk_at "ev"⟩
instance : EncN Bool := ⟨fun _ => rfl, fun a => by show eqB (.bl a) .non = _; simp [eqB], fun a => by show eqB .non (.bl a) = _; simp [eqB]⟩
instance : EncF Bool := ⟨fun _ => rfl⟩
instance : Enc String := ⟨.str, fun _ => rfl, 0, fun n a => by walk_at "ev", fun a b => by walk_at "ev"⟩
instance : EncN String := ⟨fun _ => rfl, fun a => by show eqB (.str a) .non = _; simp [eqB], fun a => by show eqB .non (.str a) = _; simp [eqB]⟩
instance : EncF String := ⟨fun _ => rfl⟩
section
variable {α β γ : Type} [DecidableEq α] [DecidableEq β] [DecidableEq γ] [Enc α] [Enc β] [Enc γ]
def encO : Option α -> D
  | none => .non
  | some a => enc a
instance [EncN α] : Enc (Option α) where
  enc := encO
  sh a := by cases a; rfl; exact Enc.sh _
  dp := Enc.dp α
  ok n a := by
    cases a with
    | none => show okD _ .non = true; walk_at "ev"
    | some a => exact Enc.ok n a
  eq a b := by
    cases a <;> cases b
    · show eqB .non .non = _; walk_at "ev"
    · rename_i b; show eqB .non (enc b) = _; rw [ne_enc]; simp
    · rename_i b; show eqB (enc b) .non = _; rw [en_enc]; simp
    · rename_i a b; show eqB (enc a) (enc b) = _; rw [eq_enc]; simp
instance [EncN α] [EncF α] : EncF (Option α) := ⟨fun a => by cases a; rfl; exact EncF.fl (α := α) _⟩
theorem isN_opt [EncN α] (o : Option α) : isNon (enc o) = o.isNone := by
  cases o with
  | none => rfl
  | some a => exact nn_enc a
def enc2 (p : α × β) : D := .tup [enc p.1, enc p.2]
instance : Enc (α × β) where
  enc := enc2
  sh _ := rfl
  dp := max (Enc.dp α) (Enc.dp β) + 1
  ok n a := by
    show okD (n + (max (Enc.dp α) (Enc.dp β) + 1)) (.tup [enc a.1, enc a.2]) = true
    rw [<- Nat.add_assoc, h_ok_tup, h_oks_cons, h_oks_cons, h_oks_nil, ok_enc _ (by omega), ok_enc _ (by omega)]; rfl
  eq a b := by
    show eqB (.tup [enc a.1, enc a.2]) (.tup [enc b.1, enc b.2]) = _
    rw [h_eqB_tt, h_eqBs_cc, h_eqBs_cc, h_eqBs_nn, eq_enc, eq_enc, Bool.eq_iff_iff]
    simp [Prod.ext_iff]
instance : EncN (α × β) := ⟨fun _ => rfl, fun a => by show eqB (.tup _) .non = _; walk_at "ev", fun a => by show eqB .non (.tup _) = _; walk_at "ev"⟩
theorem it_pair (p : α × β) : itemsD (enc p) = some [enc p.1, enc p.2] := rfl
theorem sF_pair (p : α × β) : seqF (enc p) = some [enc p.1, enc p.2] := rfl
theorem sFI_pair {T : Tbl} (p : α × β) : seqFI T (enc p) = some [enc p.1, enc p.2] := rfl
theorem so_pair (p : α × β) : seqOf (enc p) = some (true, [enc p.1, enc p.2]) := rfl
theorem ty_pair (p : α × β) : tyD (enc p) = some (false, "tuple") := rfl
theorem len_pair (p : α × β) : lenD [enc p] = some (.int 2) := rfl
theorem lenI_pair {T : Tbl} {φ : Sem} (p : α × β) : lenI1 T φ [enc p] = some (.int 2) := rfl
theorem fl_pair (p : α × β) : isFlat (enc p) = false := rfl
theorem xg_pair {W : Wd T} {gs : XGs W} {P : List Nat} {env : Py.Env} (p : α × β) : (xgT 2 gs).ev P (enc p) env = gs.ev P [enc p.1, enc p.2] env := by show (xgT 2 gs).ev P (.tup [enc p.1, enc p.2]) env = _; rw [e_xgT]; exact if_pos rfl
structure T3 (α β γ : Type) where
  a : α
  b : β
  c : γ
deriving DecidableEq
instance : Enc (T3 α β γ) where
  enc p := .tup [enc p.a, enc p.b, enc p.c]
  sh _ := rfl
  dp := max (Enc.dp α) (max (Enc.dp β) (Enc.dp γ)) + 1
  ok n a := by
    show okD (n + (max (Enc.dp α) (max (Enc.dp β) (Enc.dp γ)) + 1)) (.tup [enc a.a, enc a.b, enc a.c]) = true
    rw [<- Nat.add_assoc, h_ok_tup, h_oks_cons, h_oks_cons, h_oks_cons, h_oks_nil, ok_enc _ (by omega), ok_enc _ (by omega), ok_enc _ (by omega)]; rfl
  eq a b := by
    show eqB (.tup [enc a.a, enc a.b, enc a.c]) (.tup [enc b.a, enc b.b, enc b.c]) = _
    rw [h_eqB_tt, h_eqBs_cc, h_eqBs_cc, h_eqBs_cc, h_eqBs_nn, eq_enc, eq_enc, eq_enc, Bool.eq_iff_iff]
    cases a; cases b
    simp
instance : EncN (T3 α β γ) := ⟨fun _ => rfl, fun a => by show eqB (.tup _) .non = _; walk_at "ev", fun a => by show eqB .non (.tup _) = _; walk_at "ev"⟩
theorem it_t3 (p : T3 α β γ) : itemsD (enc p) = some [enc p.a, enc p.b, enc p.c] := rfl
theorem sF_t3 (p : T3 α β γ) : seqF (enc p) = some [enc p.a, enc p.b, enc p.c] := rfl
theorem sFI_t3 {T : Tbl} (p : T3 α β γ) : seqFI T (enc p) = some [enc p.a, enc p.b, enc p.c] := rfl
theorem ty_t3 (p : T3 α β γ) : tyD (enc p) = some (false, "tuple") := rfl
theorem len_t3 (p : T3 α β γ) : lenD [enc p] = some (.int 3) := rfl
theorem lenI_t3 {T : Tbl} {φ : Sem} (p : T3 α β γ) : lenI1 T φ [enc p] = some (.int 3) := rfl
theorem fl_t3 (p : T3 α β γ) : isFlat (enc p) = false := rfl
theorem xg_t3 {W : Wd T} {gs : XGs W} {P : List Nat} {env : Py.Env} (p : T3 α β γ) : (xgT 3 gs).ev P (enc p) env = gs.ev P [enc p.a, enc p.b, enc p.c] env := by show (xgT 3 gs).ev P (.tup [enc p.a, enc p.b, enc p.c]) env = _; rw [e_xgT]; exact if_pos rfl
instance : Enc (List α) where
  enc xs := .lst (xs.map enc)
  sh _ := rfl
  dp := Enc.dp α + 1
  ok n a := by
    show okD (n + (Enc.dp α + 1)) (.lst _) = true
    rw [<- Nat.add_assoc, h_ok_lst]; exact okl_enc a (by omega)
  eq a b := by
    show eqB (.lst _) (.lst _) = _
    rw [h_eqB_ll, eql_enc]
instance : EncN (List α) := ⟨fun _ => rfl, fun a => by show eqB (.lst _) .non = _; simp [eqB], fun a => by show eqB .non (.lst _) = _; simp [eqB]⟩
structure Tp (α : Type) where
  l : List α
deriving DecidableEq
instance : Enc (Tp α) where
  enc xs := .tup (xs.l.map enc)
  sh _ := rfl
  dp := Enc.dp α + 1
  ok n a := by
    show okD (n + (Enc.dp α + 1)) (.tup _) = true
    rw [<- Nat.add_assoc, h_ok_tup]; exact okl_enc a.l (by omega)
  eq a b := by
    show eqB (.tup _) (.tup _) = _
    rw [h_eqB_tt, eql_enc]
    cases a; cases b; simp
instance : EncN (Tp α) := ⟨fun _ => rfl, fun a => by show eqB (.tup _) .non = _; simp [eqB], fun a => by show eqB .non (.tup _) = _; simp [eqB]⟩
end
def withIx {α : Type} : Nat -> List α -> List (Int × α)
  | _, [] => []
  | k, x :: xs => ((k : Int), x) :: withIx (k + 1) xs
theorem withIx_get {α : Type} : ∀ (k : Nat) (xs : List α) (i : Nat), (withIx k xs)[i]? = (xs[i]?).map fun x => (((k + i : Nat) : Int), x)
  | _, [], _ => by simp [withIx]
  | k, x :: xs, 0 => by simp [withIx]
  | k, x :: xs, i + 1 => by
    show (withIx (k + 1) xs)[i]? = _
    rw [withIx_get (k + 1) xs i, List.getElem?_cons_succ, show k + 1 + i = k + (i + 1) by omega]
theorem enumD_enc {α : Type} [DecidableEq α] [Enc α] (xs : List α) : enumD (xs.map enc) = (withIx 0 xs).map enc := by
  apply List.ext_getElem?
  intro i
  unfold enumD
  rw [List.getElem?_mapIdx, List.getElem?_map, List.getElem?_map, withIx_get]
  cases xs[i]? with
  | none => rfl
  | some x => simp only [Option.map_some, Nat.zero_add]; rfl
theorem forL_range {f : D -> Py.Env -> RS} {r : RS} {n : Nat} {env : Py.Env} (I : Nat -> Py.Env -> Prop) (h : forL f (rangeD 0 n) env = r) (h0 : I 0 env)
    (hs : ∀ j e, j < n -> I j e -> ∃ e', (f (.int (j : Int)) e = .nx e' \/ f (.int (j : Int)) e = .ct e') /\ I (j + 1) e') : ∃ e', r = .nx e' /\ I n e' := by
  obtain ⟨e', h1, h2⟩ := forL_gen I h h0 fun i d e hd hi => by
    obtain ⟨hi2, rfl⟩ := rangeD_get hd
    rw [Int.zero_add]
    exact hs i e hi2 hi
  rw [rangeD_length] at h2
  exact ⟨e', h1, h2⟩
theorem atI_encN {α : Type} [DecidableEq α] [Enc α] {xs : List α} {j : Nat} {x : α} (h : xs[j]? = some x) : atI (xs.map enc) (j : Int) = some (enc x) := by
  rw [atI_map, atI_of h]; rfl
end Py
namespace Py
open PySem L2
open Enc (enc)
section
variable {α β : Type} [DecidableEq α] [Enc α]
def kI (m : List (Int × β)) : List Key := m.map fun p => Sum.inl p.1
def alP (m : List (Int × β)) (k : Int) (a : β) : List (Int × β) := if (m.any fun p => decide (p.1 = k)) = true then m.map (fun p => if p.1 = k then (k, a) else p) else m ++ [(k, a)]
theorem inl_eq (i j : Int) : ((Sum.inl i : Key) = Sum.inl j) = (i = j) := by
  apply propext; exact ⟨fun h => Sum.inl.inj h, fun h => by rw [h]⟩
theorem pos_al (k : Int) : ∀ m : List (Int × β), (pos (Sum.inl k : Key) (kI m) = none /\ (m.any fun p => decide (p.1 = k)) = false) \/ ∃ j p, pos (Sum.inl k : Key) (kI m) = some j /\ m[j]? = some p /\ p.1 = k /\ (m.any fun p => decide (p.1 = k)) = true /\ m.find? (fun p => decide (p.1 = k)) = some p
  | [] => .inl ⟨rfl, rfl⟩
  | p :: m => by
    show ((if (Sum.inl p.1 : Key) = Sum.inl k then some 0 else (pos (Sum.inl k : Key) (kI m)).map (· + 1)) = none /\ _) \/ ∃ j q, (if (Sum.inl p.1 : Key) = Sum.inl k then some 0 else (pos (Sum.inl k : Key) (kI m)).map (· + 1)) = some j /\ _
    by_cases h : p.1 = k
    · rw [if_pos (by rw [h])]
      exact .inr ⟨0, p, rfl, rfl, h, by rw [List.any_cons, decide_eq_true h]; rfl, List.find?_cons_of_pos (by simpa using h)⟩
    · rw [if_neg (by rw [inl_eq]; exact h)]
      rcases pos_al k m with ⟨h1, h2⟩ | ⟨j, q, h1, h2, h3, h4, h5⟩
      · exact .inl ⟨by rw [h1]; rfl, by rw [List.any_cons, h2, decide_eq_false h]; rfl⟩
      · exact .inr ⟨j + 1, q, by rw [h1]; rfl, by simpa using h2, h3, by rw [List.any_cons, h4, Bool.or_true], by rw [List.find?_cons_of_neg (by simpa using h)]; exact h5⟩
def Nk (m : List (Int × β)) : Prop := (m.map (·.1)).Nodup
theorem alP_map {k : Int} {a : β} : ∀ {m : List (Int × β)} {j : Nat}, Nk m -> pos (Sum.inl k : Key) (kI m) = some j -> m.map (fun p => if p.1 = k then (k, a) else p) = m.set j (k, a)
  | [], _, _, h => by cases h
  | p :: m, j, hn, h => by
    have h : (if (Sum.inl p.1 : Key) = Sum.inl k then some 0 else (pos (Sum.inl k : Key) (kI m)).map (· + 1)) = some j := h
    unfold Nk at hn
    rw [List.map_cons, List.nodup_cons] at hn
    rw [List.map_cons]
    by_cases e : p.1 = k
    · rw [if_pos (by rw [e])] at h
      cases h
      rw [if_pos e, List.set_cons_zero]
      congr 1
      have : ∀ q ∈ m, (if q.1 = k then (k, a) else q) = q := fun q hq => by
        rw [if_neg]
        intro z
        exact hn.1 (by rw [e, <- z]; exact List.mem_map.mpr ⟨q, hq, rfl⟩)
      exact (List.map_congr_left this).trans (List.map_id _)
    · rw [if_neg (by rw [inl_eq]; exact e)] at h
      obtain ⟨i, h1, rfl⟩ := Option.map_eq_some_iff.mp h
      rw [if_neg e, List.set_cons_succ, alP_map hn.2 h1]
theorem Nk.put {k : Int} {a : β} {m : List (Int × β)} (hn : Nk m) : Nk (alP m k a) := by
  unfold Nk
  unfold alP
  rcases pos_al k m with ⟨h1, h2⟩ | ⟨j, q, h1, h2, h3, h4, _⟩
  · rw [if_neg (by rw [h2]; decide), List.map_append, List.nodup_append]
    refine ⟨hn, by simp, fun x hx y hy z => ?_⟩
    have hy : y = k := by simpa using hy
    subst z hy
    obtain ⟨p, hp, e⟩ := List.mem_map.mp hx
    have : (m.any fun p => decide (p.1 = x)) = true := List.any_eq_true.mpr ⟨p, hp, decide_eq_true e⟩
    rw [h2] at this; cases this
  · rw [if_pos h4, alP_map hn h1, List.map_set]
    have hj := (List.getElem?_eq_some_iff.mp h2).1
    have : (m.map (·.1)).set j k = m.map (·.1) := by
      apply List.ext_getElem?
      intro i
      by_cases e : j = i
      · subst e
        rw [List.getElem?_set_self (by simpa using hj), List.getElem?_map, h2, Option.map_some, h3]
      · rw [List.getElem?_set_ne e]
    show ((m.map (·.1)).set j k).Nodup
    rw [this]
    exact hn
end
end Py
namespace Py
open PySem L2
abbrev FB := PySem.W.Frag -> Bool
abbrev ga (K : PySem.W.Frag) (c : String) : Addr := He.ga K (so c)
abbrev ma (K : PySem.W.Frag) (c m : String) : Addr := He.ma K (ga K c) (so m)
def pa (K : PySem.W.Frag) (c f : String) : Addr := match PySem.W.findIn K (.ref (ga K c)) (so f) with
  | some (some (.ref p)) => (match PySem.W.recIn K p "property" with
    | some (.ref g :: _) => g
    | _ => 0)
  | _ => 0
def pr (K : PySem.W.Frag) (c f : String) : Addr := match PySem.W.findIn K (.ref (ga K c)) (so f) with
  | some (some (.ref p)) => p
  | _ => 0
structure DefX where
  ad : PySem.W.Frag -> Addr
  name : Str
  qual : Str
  st : Stmt
  dfl : List He.Dv := []
  kwd : List (Str × He.Dv) := []
  /-- an __init__ that says super() -/
  cl : Bool := false
def fnX (K : PySem.W.Frag) (a : Addr) : He.FnW := match K.lookup a with
  | some ⟨_, _, .func fd, _⟩ => some (fd.name, fd.qualname, fd.params, fd.body, fd.scope, fd.globals, fd.closure, fd.builtins)
  | _ => none
def fnXc (K : PySem.W.Frag) (a : Addr) : He.FnW := match K.lookup a with
  | some ⟨_, _, .func fd, _⟩ => some (fd.name, fd.qualname, fd.params, fd.body, fd.scope, fd.globals, fd.closure.map fun p => (p.1, 0), fd.builtins)
  | _ => none
def fnXd (K : PySem.W.Frag) (d : DefX) : He.FnW := match d.cl with
  | true => fnXc K (d.ad K)
  | false => fnX K (d.ad K)
def DefX.val (d : DefX) : He.FnW := some (d.name, d.qual, defArgs d.st, .stmts (defBody d.st), defScope d.st, mainGlobals, (match d.cl with | true => [(("__class__" : Str), 0)] | false => []), builtinsNs)
def DefX.dvs (K : PySem.W.Frag) (d : DefX) : List V := d.dfl.map (He.Dv.v K)
def DefX.kws (K : PySem.W.Frag) (d : DefX) : List (Str × V) := d.kwd.map fun q => (q.1, q.2.v K)
def DefX.ok (K : PySem.W.Frag) (d : DefX) : Bool := PySem.W.keepIn K (.ref (d.ad K)) && (match K.lookup (d.ad K) with
  | some ⟨_, _, .func fd, _⟩ => PySem.W.codeIn K fd.code d.qual && (He.dflB K fd.defaults (d.dvs K) && He.kwdB K fd.kwdefaults (d.kws K))
  | _ => false)
theorem DefX.funD {K : PySem.W.Frag} {d : DefX} (hcl : d.cl = false) (e : fnXd K d = d.val) (c : d.ok K = true) : ∃ fd, FunD K d.name d.qual (defArgs d.st) (defBody d.st) (defScope d.st) (d.dvs K) (d.kws K) (d.ad K) fd := by
  obtain ⟨kp, c2⟩ := He.ba c
  unfold fnXd DefX.val at e
  rw [hcl] at e
  dsimp only at e
  unfold fnX at e
  cases q : K.lookup (d.ad K) with
  | none =>
    rw [q] at c2
    cases c2
  | some o =>
    obtain ⟨oc, od, dt, osl⟩ := o
    rw [q] at c2 e
    cases dt with
    | func fd =>
      obtain ⟨n1, n2, n3, n4, n5, n6, n7, n8, n9, n10, n11, n12, n13, n14, n15⟩ := fd
      have e2 : (some (n1, n2, n3, n4, n5, n6, n7, n15) : He.FnW) = some (d.name, d.qual, defArgs d.st, .stmts (defBody d.st), defScope d.st, mainGlobals, [], builtinsNs) := e
      simp only [Option.some.injEq, Prod.mk.injEq] at e2
      obtain ⟨h1, h2, h3, h4, h5, h6, h7, h8⟩ := e2
      subst h1 h2 h6 h7 h8
      have c3 : (PySem.W.codeIn K n13 d.qual && (He.dflB K n8 (d.dvs K) && He.kwdB K n9 (d.kws K))) = true := c2
      obtain ⟨k1, k2⟩ := He.ba c3
      obtain ⟨k3, k4⟩ := He.ba k2
      rw [h3, h4, h5] at q
      exact ⟨_, ⟨oc, od, n8, n9, n10, n11, n12, n13, n14, osl, rfl, q, k1, He.dflB_ok k3, He.kwdB_ok k4⟩, kp⟩
    | _ => cases c2
def obsX (fa : List FB) (fn : List DefX) (K : PySem.W.Frag) : He.AlD := ((fa.all fun f => f K) && fn.all fun d => d.ok K, fn.map fun d => fnXd K d)
def valX (fn : List DefX) : He.AlD := (true, fn.map DefX.val)
def SaysX (fa : List FB) (fn : List DefX) (K : PySem.W.Frag) : Prop := obsX fa fn K = valX fn
def refsN (o : Obj) : List Addr := match o.data with
  | .cls cd => [cd.ns]
  | .func fd => He.refV fd.code ++ (He.refV fd.kwdefaults ++ fd.closure.map (·.2))
  | .dict es _ => es.toList.flatMap fun e => He.refV e.val
  | _ => []
def refsP (o : Obj) : List Addr := match o.data with
  | .fields vs => vs.toList.flatMap He.refV
  | _ => []
def isFnO (o : Obj) : Bool := match o.data with
  | .func _ => true
  | _ => false
def isClsO (o : Obj) : Bool := match o.data with
  | .cls _ => true
  | _ => false
def isFldO (o : Obj) : Bool := match o.data with
  | .fields _ => true
  | _ => false
def outG (g : Addr -> Option Obj) (p : Obj -> Bool) (f : Obj -> List Addr) (as : List Addr) : List Addr := as.flatMap fun a => match g a with
  | some o => (match p o with
    | true => f o
    | false => [])
  | none => []
def asN (g : Addr -> Option Obj) : List Addr :=
  let l1 := outG g (fun _ => true) refsN [mainGlobals]
  let c := outG g isClsO refsN l1
  let m := outG g (fun _ => true) refsN c
  let p := outG g isFldO refsP m
  mainGlobals :: (c ++ (l1 ++ (m ++ (outG g isFnO refsN m ++ (outG g isFnO refsN l1 ++ (p ++ outG g isFnO refsN p))))))
def obsXG (n : Nat) (fa : List FB) (fn : List DefX) (g : Addr -> Option Obj) : He.AlD := obsX fa fn (He.frG g (match n with
  | 0 => PySem.cStatics :: asN g
  | n => PySem.cStatics :: He.asD g n))
def hookX (n : Nat) (fa : List FB) (fn : List DefX) : PySem.W.Hook where
  α := He.AlD
  obs := fun s => obsXG n fa fn s.heap.get?
  val := fun _ => valX fn
  says := fun _ h => ∃ K : PySem.W.Frag, K.In h /\ SaysX fa fn K
  of := fun _ _ e => ⟨_, He.frG_in, e⟩
  keeps := fun _ _ _ ⟨K, hK, c⟩ k => ⟨K, PySem.W.Frag.In.keeps hK k, c⟩
theorem obsXG_eq {n : Nat} {fa : List FB} {fn : List DefX} {g : Addr -> Option Obj} {s : Shared} (h : ∀ a, g a = s.heap.get? a) : obsXG n fa fn g = (hookX n fa fn).obs s := by
  have e : g = s.heap.get? := funext h
  rw [e] <;> rfl
section
variable {fa : List FB} {fn : List DefX} {K : PySem.W.Frag}
theorem SaysX.fact (c : SaysX fa fn K) (i : Nat) {f : FB} (h : fa[i]? = some f := by rfl) : f K = true := by
  have c1 := (He.ba (show ((fa.all fun f => f K) && fn.all fun d => d.ok K) = true from congrArg (fun z : He.AlD => z.1) c)).1
  exact List.all_eq_true.mp c1 f (List.mem_of_getElem? h)
theorem SaysX.def_ (c : SaysX fa fn K) (i : Nat) {d : DefX} (h : fn[i]? = some d := by rfl) (hcl : d.cl = false := by rfl) : ∃ fd, FunD K d.name d.qual (defArgs d.st) (defBody d.st) (defScope d.st) (d.dvs K) (d.kws K) (d.ad K) fd := by
  have c2 := (He.ba (show ((fa.all fun f => f K) && fn.all fun d => d.ok K) = true from congrArg (fun z : He.AlD => z.1) c)).2
  have e : fn.map (fun d => fnXd K d) = fn.map DefX.val := congrArg (fun z : He.AlD => z.2) c
  have e2 : (fn.map fun d => fnXd K d)[i]? = (fn.map DefX.val)[i]? := by rw [e]
  rw [List.getElem?_map, List.getElem?_map, h] at e2
  exact DefX.funD hcl (Option.some.inj e2) (List.all_eq_true.mp c2 d (List.mem_of_getElem? h))
theorem SaysX.cld (c : SaysX fa fn K) (i : Nat) {d : DefX} (h : fn[i]? = some d := by rfl) (hcl : d.cl = true := by rfl) : fnXc K (d.ad K) = some (d.name, d.qual, defArgs d.st, .stmts (defBody d.st), defScope d.st, mainGlobals, [(("__class__" : Str), 0)], builtinsNs) := by
  have e : fn.map (fun d => fnXd K d) = fn.map DefX.val := congrArg (fun z : He.AlD => z.2) c
  have e2 : (fn.map fun d => fnXd K d)[i]? = (fn.map DefX.val)[i]? := by rw [e]
  rw [List.getElem?_map, List.getElem?_map, h] at e2
  have e3 : fnXd K d = d.val := Option.some.inj e2
  obtain ⟨q1, q2, q3, q4, q5, q6, q7⟩ := d
  have hcl : q7 = true := hcl
  subst hcl
  exact e3
end
def fnExB (K : PySem.W.Frag) (C : Addr) (qual file : Str) (fI : Addr) : Bool := match K.lookup fI with
  | some ⟨_, _, .func fd, _⟩ => (match fd.closure with
    | [(_, cc)] => (match K.lookup cc with
      | some ⟨_, _, .cell (some (.ref D)), _⟩ => decide (D = C)
      | _ => false)
    | _ => false) && ((match fd.code with
    | .ref cda => PySem.W.codeIn K (.ref cda) qual && (match K.lookup cda with
      | some ⟨_, _, .fields vs, _⟩ => (match (vs[2]? : Option Value) with
        | some (.str f _) => decide (f = file)
        | _ => false)
      | _ => false)
    | _ => false) && ((match fd.defaults with
    | .none => true
    | _ => false) && (match fd.kwdefaults with
    | .none => true
    | _ => false)))
  | _ => false
def fExc (c qual : String) (fs : List String) (file : Str) : FB := fun K => PySem.W.excInitIn K (ga K c) PySem.HandSPX.veTail "ValueError.__new__" && ((match PySem.W.clsIn K (ga K c) with
    | some cd => PySem.HandSPX.refsVE cd.mro && cd.hasDict
    | none => false) && (decide (PySem.W.findIn K (.ref (ga K c)) "__setattr__" = some (some (.builtin "object.__setattr__"))) && ((fs.all fun f => decide (PySem.W.findIn K (.ref (ga K c)) (so f) = some none)) &&
  (decide (PySem.W.findIn K (.ref (ga K c)) "__init__" = some (some (.ref (ma K c "__init__")))) && (decide (PySem.W.typeIn K (.ref (ma K c "__init__")) = some (.type "function")) && (decide (PySem.W.subIn K (.ref (ga K c)) (.type "BaseException") = some true) &&
  (decide (PySem.W.subIn K (.ref (ga K c)) (.type "ValueError") = some true) && (decide (PySem.W.typeIn K (.ref (ga K c)) = some (.type "type")) && (decide (PySem.W.nsIn K PySem.cStatics "thirdparty.any" = some none) &&
  (decide (PySem.W.ks_superIn K (ga K c) (ga K c) "__init__" = some (some (.builtin "ValueError.__init__"))) && (decide (PySem.W.mroIn K (ga K c) (.ref (ga K c)) = some true) && (fnExB K (ga K c) (so qual) file (ma K c "__init__") && PySem.W.keepIn K (.ref (ga K c))))))))))))))
theorem fExc_ok {P : Program} {K : PySem.W.Frag} {c qual : String} {fs : List String} {file : Str} {params : Arguments} {body : List Stmt} {scope : Scope} (h : fExc c qual fs file K = true)
    (e : fnXc K (ma K c "__init__") = some (("__init__" : Str), so qual, params, .stmts body, scope, mainGlobals, [(("__class__" : Str), 0)], builtinsNs)) (hP : ((P.main.file : Str) == file) = true) :
    PySem.PxE.ExTxt P K (ga K c) (ma K c "__init__") (so qual) params body scope (fs.map so) /\ PySem.W.keepIn K (.ref (ga K c)) = true := by
  obtain ⟨h1, h⟩ := He.ba h
  obtain ⟨h2, h⟩ := He.ba h
  obtain ⟨h3, h⟩ := He.ba h
  obtain ⟨h4, h⟩ := He.ba h
  obtain ⟨h5, h⟩ := He.ba h
  obtain ⟨h6, h⟩ := He.ba h
  obtain ⟨h7, h⟩ := He.ba h
  obtain ⟨h8, h⟩ := He.ba h
  obtain ⟨h9, h⟩ := He.ba h
  obtain ⟨h10, h⟩ := He.ba h
  obtain ⟨h11, h⟩ := He.ba h
  obtain ⟨h12, h⟩ := He.ba h
  obtain ⟨h13, h14⟩ := He.ba h
  refine ⟨⟨h1, ?_, of_decide_eq_true h3, fun f hf => ?_, of_decide_eq_true h5, of_decide_eq_true h6, of_decide_eq_true h7, of_decide_eq_true h8, of_decide_eq_true h9, of_decide_eq_true h10, of_decide_eq_true h11, of_decide_eq_true h12, ?_⟩, h14⟩
  · split at h2
    · rename_i cd q
      obtain ⟨a, b⟩ := He.ba h2
      exact ⟨cd, q, a, b⟩
    · cases h2
  · obtain ⟨f', hf', rfl⟩ := List.mem_map.mp hf
    exact of_decide_eq_true (List.all_eq_true.mp h4 f' hf')
  · unfold fnExB at h13
    unfold fnXc at e
    cases q : K.lookup (ma K c "__init__") with
    | none => rw [q] at h13; cases h13
    | some o =>
      obtain ⟨oc, od, dt, osl⟩ := o
      rw [q] at h13 e
      cases dt with
      | func fd =>
        obtain ⟨n1, n2, n3, n4, n5, n6, n7, n8, n9, n10, n11, n12, n13, n14, n15⟩ := fd
        have e2 : (some (n1, n2, n3, n4, n5, n6, n7.map fun p => (p.1, 0), n15) : He.FnW) = some (("__init__" : Str), so qual, params, .stmts body, scope, mainGlobals, [(("__class__" : Str), 0)], builtinsNs) := e
        simp only [Option.some.injEq, Prod.mk.injEq] at e2
        obtain ⟨z1, z2, z3, z4, z5, z6, z7, z8⟩ := e2
        subst z1 z2 z3 z4 z5 z6 z8
        dsimp only at h13
        obtain ⟨k1, k2⟩ := He.ba h13
        obtain ⟨k2, k3⟩ := He.ba k2
        obtain ⟨k3, k4⟩ := He.ba k3
        match n7, z7, k1 with
        | [(nm, cc)], z7, k1 =>
          have z9 : nm = "__class__" := by
            simp only [List.map_cons, List.map_nil, List.cons.injEq, Prod.mk.injEq, and_true] at z7
            exact z7
          subst z9
          dsimp only at k1
          cases q2 : K.lookup cc with
          | none => rw [q2] at k1; cases k1
          | some o2 =>
            obtain ⟨oc2, od2, dt2, osl2⟩ := o2
            rw [q2] at k1
            cases dt2 with
            | cell v =>
              cases v with
              | none => cases k1
              | some v =>
                cases v with
                | ref Dd =>
                  have k1 : Dd = ga K c := of_decide_eq_true k1
                  subst k1
                  cases n13 with
                  | ref cda =>
                    dsimp only at k2
                    obtain ⟨k5, k6⟩ := He.ba k2
                    cases q3 : K.lookup cda with
                    | none => rw [q3] at k6; cases k6
                    | some o3 =>
                      obtain ⟨oc3, od3, dt3, osl3⟩ := o3
                      rw [q3] at k6
                      cases dt3 with
                      | fields vs =>
                        dsimp only at k6
                        cases q4 : vs[2]? with
                        | none => rw [q4] at k6; cases k6
                        | some v4 =>
                          rw [q4] at k6
                          cases v4 with
                          | str f tf =>
                            have k6 : f = file := of_decide_eq_true k6
                            subst k6
                            have k7 : n8 = .none := by cases n8 <;> first | rfl | cases k3
                            have k8 : n9 = .none := by cases n9 <;> first | rfl | cases k4
                            subst k7 k8
                            exact ⟨oc, od, n10, n11, n12, n14, osl, cda, cc, oc3, od3, vs, osl3, f, tf, oc2, od2, osl2, by first | exact q | rfl, k5, by first | exact q3 | rfl, by first | exact q4 | rfl, hP, by first | exact q2 | rfl⟩
                          | _ => cases k6
                      | _ => cases k6
                  | _ => cases k2
                | _ => cases k1
            | _ => cases k1
      | _ => cases h13
def fXm (cs : List String) (sub : String -> String -> Bool) : FB := fun K => cs.all fun c => cs.all fun d => decide (PySem.W.exmOne K (.ref (ga K c)) (.ref (ga K d)) = some (sub c d)) && decide (PySem.W.kitOne K (.ref (ga K c)) (.ref (ga K d)) = some (sub c d))
def fXc (cs : List String) : FB := fun K => cs.all fun c => decide (PySem.W.findIn K (.ref (ga K c)) "__getattribute__" = some (some (.builtin "BaseException.__getattribute__"))) && (decide (PySem.W.findIn K (.ref (ga K c)) "__getattr__" = some none) && (decide (PySem.W.subIn K (.ref (ga K c)) (.type "BaseException") = some true) &&
  (PySem.W.hasDictIn K (ga K c) && (decide (PySem.W.findIn K (.ref (ga K c)) "__class__" = some (some (.builtin "object.__class__"))) && (decide (PySem.W.specialIn K (.builtin "object.__class__") "__get__" = some (some (.builtin "getset_descriptor.__get__"))) &&
  (decide (PySem.W.takesIn K (.builtin "object.__class__") = some true) && decide (PySem.W.mroIn K (ga K c) (.type "object") = some true)))))))
def fXv (cs : List String) : FB := fun K => cs.all fun c => decide (PySem.W.kitOne K (.ref (ga K c)) (.type "ValueError") = some true)
def fGlo (x : String) : FB := fun K => (He.Fa.glo (so x)).ok K
def fFree (x : String) : FB := fun K => (He.Fa.free (so x)).ok K
def fCls (cs : List String) : FB := fun K => cs.all fun c => (He.Fa.cls (so c)).ok K
def fNoat (cs : List String) (fl : String -> List String) : FB := fun K => cs.all fun c => (fl c).all fun f => (He.Fa.noat (so c) (so f)).ok K
def fIsT (cs : List String) : FB := fun K => cs.all fun c => decide (PySem.W.findIn K (.ref (ga K c)) "__class__" = some (some (.builtin "object.__class__"))) && (decide (PySem.W.specialIn K (.builtin "object.__class__") "__get__" = some (some (.builtin "getset_descriptor.__get__"))) &&
  (decide (PySem.W.takesIn K (.builtin "object.__class__") = some true) && decide (PySem.W.mroIn K (ga K c) (.type "object") = some true)))
def tyTO : List String := ["NoneType", "bool", "int", "str", "list", "tuple", "dict"]
def tyOT : List String := ["int", "bool", "str", "list", "tuple", "dict"]
def fTO (cs : List String) : FB := fun K => tyTO.all fun t => cs.all fun c => decide (PySem.W.kitOne K (.type t) (.ref (ga K c)) = some false)
def fOT (cs : List String) : FB := fun K => cs.all fun c => tyOT.all fun t => decide (PySem.W.kitOne K (.ref (ga K c)) (.type t) = some false)
def fOO (cs : List String) (sub : String -> String -> Bool) : FB := fun K => cs.all fun c => cs.all fun d => decide (PySem.W.kitOne K (.ref (ga K c)) (.ref (ga K d)) = some (sub c d))
def fMeth (c m : String) : FB := fun K => (He.Fa.meth (so c) (so m)).ok K
def fMkr (c : String) : FB := fun K => (He.Fa.mkr (so c)).ok K
def fPr (c f : String) : FB := fun K => decide (PySem.W.findIn K (.ref (ga K c)) (so f) = some (some (.ref (pr K c f)))) && (decide (PySem.W.specialIn K (.ref (pr K c f)) "__get__" = some (some (.builtin "property.__get__"))) && (decide (PySem.W.takesIn K (.ref (pr K c f)) = some true) &&
  (match PySem.W.recIn K (pr K c f) "property" with
    | some (.ref g :: _) => decide (g = pa K c f)
    | _ => false)))
def fLaw (T : Tbl) (P : Program) (w : World) (K : PySem.W.Frag) (cs : List String) (fl : String -> List String) (hT : ∀ c f, c ∈ cs -> T.fOk c f = true -> f ∈ fl c) (sub : String -> String -> Bool) (hs : ∀ c d, T.sub c d = sub c d)
    (xs : List String) (xsub : String -> String -> Bool) (hx : ∀ c d, T.xsub c d = xsub c d) (x1 : fXm xs xsub K = true) (x2 : fXv xs K = true) (x3 : fXc xs K = true)
    (h1 : fCls cs K = true) (h2 : fNoat cs fl K = true) (h3 : fIsT cs K = true) (h4 : fTO cs K = true) (h5 : fOT cs K = true) (h6 : fOO cs sub K = true) : Wd T where
  K := K
  P := P
  w := w
  cA := ga K
  has c := c ∈ cs
  cl c hc := by
    obtain ⟨a, b, c', d⟩ := He.cls_ok (List.all_eq_true.mp h1 c hc)
    exact ⟨a, b, c', d⟩
  na c f hc hf := He.noat_ok (List.all_eq_true.mp (List.all_eq_true.mp h2 c hc) f (hT c f hc hf))
  isT c hc := by
    obtain ⟨a, b⟩ := He.ba (List.all_eq_true.mp h3 c hc)
    obtain ⟨b, d⟩ := He.ba b
    obtain ⟨d, e⟩ := He.ba d
    exact ⟨of_decide_eq_true a, of_decide_eq_true b, of_decide_eq_true d, of_decide_eq_true e⟩
  isTO t c ht hc := of_decide_eq_true (List.all_eq_true.mp (List.all_eq_true.mp h4 t ht) c hc)
  isOT c t hc ht := of_decide_eq_true (List.all_eq_true.mp (List.all_eq_true.mp h5 c hc) t ht)
  hasX c := c ∈ xs
  xm c d hc hd := by
    rw [hx]
    exact of_decide_eq_true (He.ba (List.all_eq_true.mp (List.all_eq_true.mp x1 c hc) d hd)).1
  xk c d hc hd := by
    rw [hx]
    exact of_decide_eq_true (He.ba (List.all_eq_true.mp (List.all_eq_true.mp x1 c hc) d hd)).2
  xv c hc := of_decide_eq_true (List.all_eq_true.mp x2 c hc)
  xc c hc := by
    obtain ⟨h1, h⟩ := He.ba (List.all_eq_true.mp x3 c hc)
    obtain ⟨h2, h⟩ := He.ba h
    obtain ⟨h3, h⟩ := He.ba h
    obtain ⟨h4, h⟩ := He.ba h
    obtain ⟨h5, h⟩ := He.ba h
    obtain ⟨h6, h⟩ := He.ba h
    obtain ⟨h7, h8⟩ := He.ba h
    exact ⟨of_decide_eq_true h1, of_decide_eq_true h2, of_decide_eq_true h3, h4, of_decide_eq_true h5, of_decide_eq_true h6, of_decide_eq_true h7, of_decide_eq_true h8⟩
  isOO c d hc hd := by rw [hs]; exact of_decide_eq_true (List.all_eq_true.mp (List.all_eq_true.mp h6 c hc) d hd)
def fDun (cs : List String) : FB := fun K => cs.all fun c => PySem.W.selfFirst K (ga K c) && ((["NoneType", "bool", "int", "str", "list", "tuple", "dict"].all fun t => PySem.W.notFirst K (ga K c) (.type t)) && (match PySem.W.findIn K (.ref (ga K c)) (so "__getitem__") with
  | some (some (.ref f)) => PySem.W.fnIn K f
  | _ => true))
theorem fDun_ok {T : Tbl} {W : Wd T} {cs : List String} (hh : ∀ c, W.has c -> c ∈ cs) (hc : ∀ c, W.cA c = ga W.K c) (h : fDun cs W.K = true) : Dun W := by
  have g := fun c hc' => He.ba (List.all_eq_true.mp h c (hh c hc'))
  refine ⟨fun c z => hc c ▸ (g c z).1, fun c t z m => hc c ▸ List.all_eq_true.mp (He.ba (g c z).2).1 t m, fun c f z m => ?_⟩
  have := (He.ba (g c z).2).2
  rw [hc c] at m
  rw [m] at this
  exact this
theorem fPr_ok {K : PySem.W.Frag} {c f : String} (h : fPr c f K = true) : PropOf K (ga K c) (so f) (pr K c f) (pa K c f) := by
  obtain ⟨a, b⟩ := He.ba h
  obtain ⟨b, d⟩ := He.ba b
  obtain ⟨d, e⟩ := He.ba d
  refine ⟨of_decide_eq_true a, of_decide_eq_true b, of_decide_eq_true d, ?_⟩
  split at e
  · rename_i g rest q
    exact ⟨rest, by rw [q, of_decide_eq_true e]⟩
  · cases e
end Py
namespace Py
open PySem L2 NdefX
end Py
namespace Py
open PySem L2
end Py
namespace Py
open PySem L2
def b_is_integer {T : Tbl} (W : Wd T) (φ : Sem) : XS W :=
  (xsRet (xmP (xAnd (xIsi (false, "int") (xVar W 0)) (xNot (xIsi (false, "bool") (xVar W 0))))))
def l1_is_triple {T : Tbl} (W : Wd T) (φ : Sem) : XS W :=
  (xsIf (xtNot (xtTru (xCall (φ "is_integer") 1 (xaCons (xVar W 1) (xaNil W)) [] [] (fun _ => .nil)))) (xsRet (xmP (xBl W false))) (xsNext W))
def b_is_triple {T : Tbl} (W : Wd T) (φ : Sem) : XS W :=
  (xsSeq (xsIf (xtOr (xtNot (xtTru (xIsiT [(false, "list"), (false, "tuple")] (xVar W 0)))) (xtV (xNe (xLenU φ (xaCons (xVar W 0) (xaNil W))) (xInt W 3)))) (xsRet (xmP (xBl W false))) (xsNext W))
  (xsSeq (xsFrz [0] (xsFor (xiSeqU (xVar W 0)) (xgN W 1) (l1_is_triple W φ)))
  (xsRet (xmP (xAnd (xGe (xIx (xVar W 0) (xInt W 1)) (xInt W 0)) (xAnd (xGe (xIx (xVar W 0) (xInt W 2)) (xInt W 0)) (xGt (xAdd (xIx (xVar W 0) (xInt W 1)) (xIx (xVar W 0) (xInt W 2))) (xInt W 0))))))))
def l1_Counts___init__ {T : Tbl} (W : Wd T) (φ : Sem) : XS W :=
  (xsSeq (xsIf (xtNot (xtTru (xCall (φ "is_triple") 1 (xaCons (xVar W 4) (xaNil W)) [] [] (fun _ => .nil)))) (xsRaise "BadCounts" ["number"] (xaCons (xVar W 3) (xaNil W))) (xsNext W))
  (xsSeq (xsIf (xtAnd (xtV (xGt (xLenU φ (xaCons (xVar W 2) (xaNil W))) (xInt W 0))) (xtV (xLe (xIx (xVar W 4) (xInt W 0)) (xIx (xIx (xVar W 2) (xNeg (xInt W 1))) (xInt W 0))))) (xsRaise "BadCounts" ["number"] (xaCons (xVar W 3) (xaNil W))) (xsNext W))
  (xsExpr (xmAppend (plVar W 2) (xTup (xaCons (xIx (xVar W 4) (xInt W 0)) (xaCons (xIx (xVar W 4) (xInt W 1)) (xaCons (xIx (xVar W 4) (xInt W 2)) (xaNil W)))))))))
def b_Counts___init__ {T : Tbl} (W : Wd T) (φ : Sem) : XS W :=
  (xsSeq (xsAsg 2 (xmP (xLst (xaNil W))))
  (xsSeq (xsFrz [1] (xsFor (xiEnumT (xVar W 1)) (xgT 2 (xgsCons (xgN W 3) (xgsCons (xgN W 4) (xgsNil W)))) (l1_Counts___init__ W φ)))
  (xsFld (plVar W 0) "_rows" (xmMove W 2))))
def b_Counts___len__ {T : Tbl} (W : Wd T) (φ : Sem) : XS W :=
  (xsRet (xmP (xLenU φ (xaCons (xFld (xVar W 0) "_rows") (xaNil W)))))
def b_Counts_left_total {T : Tbl} (W : Wd T) (φ : Sem) : XS W :=
  (xsRet (xmP (xSum (xLc (xiSeqU (xFld (xVar W 0) "_rows")) (xgN W 1) (xtYes W) (xIx (xVar W 1) (xInt W 1))))))
def b_Counts_right_total {T : Tbl} (W : Wd T) (φ : Sem) : XS W :=
  (xsRet (xmP (xSum (xLc (xiSeqU (xFld (xVar W 0) "_rows")) (xgN W 1) (xtYes W) (xIx (xVar W 1) (xInt W 2))))))
def l1_law_draws {T : Tbl} (W : Wd T) (φ : Sem) : XS W :=
  (xsSeq (xsAsg 7 (xmP (xInt W 0)))
  (xsSeq (xsIf (xtTru (xVar W 4)) (xsSeq (xsAsg 7 (xmP (xMod (xInt1 (xaCons (xVar W 3) (xaNil W))) (xInt W 1000))))
  (xsAsg 3 (xmP (xDiv (xVar W 3) (xInt W 1000))))) (xsIf (xtV (xGt (xVar W 3) (xInt W 0))) (xsSeq (xsAsg 8 (xmP (xMod (xInt1 (xaCons (xAdd (xMul (xVar W 3) (xAdd (xInt W 48271) (xMul (xInt W 6) (xVar W 6)))) (xMul (xInt W 69621) (xVar W 6))) (xaNil W))) (xInt W 2147483647))))
  (xsSeq (xsAsg 8 (xmP (xMod (xInt1 (xaCons (xAdd (xAdd (xMul (xVar W 8) (xVar W 8)) (xMul (xInt W 40692) (xVar W 6))) (xInt W 1)) (xaNil W))) (xInt W 2147483629))))
  (xsAsg 7 (xmP (xMod (xInt1 (xaCons (xVar W 8) (xaNil W))) (xInt W 1000)))))) (xsNext W)))
  (xsExpr (xmAppend (plVar W 5) (xVar W 7)))))
def b_law_draws {T : Tbl} (W : Wd T) (φ : Sem) : XS W :=
  (xsSeq (xsAsg 3 (xmP (xInt W 0)))
  (xsSeq (xsIf (xtV (xLt (xVar W 1) (xLenU φ (xaCons (xVar W 0) (xaNil W))))) (xsAsg 3 (xmP (xAbs (xaCons (xIx (xVar W 0) (xVar W 1)) (xaNil W))))) (xsNext W))
  (xsSeq (xsAsg 4 (xmP (xGe (xVar W 3) (xPow (xInt W 10) (xInt W 18)))))
  (xsSeq (xsAsg 5 (xmP (xLst (xaNil W))))
  (xsSeq (xsFor (xiR1 (xaCons (xVar W 2) (xaNil W))) (xgN W 6) (l1_law_draws W φ))
  (xsRet (xmMove W 5)))))))
def l1_law_triples {T : Tbl} (W : Wd T) (φ : Sem) : XS W :=
  (xsSeq (xsFrz [0] (xsAsg 7 (xmP (xCall (φ "_law_draws") 3 (xaCons (xVar W 0) (xaCons (xAdd (xVar W 1) (xVar W 6)) (xaCons (xInt W 4) (xaNil W)))) [] [] (fun _ => .nil)))))
  (xsSeq (xsAsg 8 (xmP (xMod (xInt1 (xaCons (xIx (xVar W 7) (xInt W 1)) (xaNil W))) (xInt W 7))))
  (xsSeq (xsAsg 9 (xmP (xMod (xInt1 (xaCons (xIx (xVar W 7) (xInt W 2)) (xaNil W))) (xInt W 7))))
  (xsSeq (xsIf (xtV (xEq (xMod (xInt1 (xaCons (xIx (xVar W 7) (xInt W 3)) (xaNil W))) (xInt W 5)) (xInt W 1))) (xsAsg 8 (xmP (xMul (xIx (xVar W 7) (xInt W 1)) (xPow (xInt W 10) (xInt W 17))))) (xsNext W))
  (xsSeq (xsIf (xtV (xEq (xAdd (xVar W 8) (xVar W 9)) (xInt W 0))) (xsAsg 9 (xmP (xInt W 1))) (xsNext W))
  (xsSeq (xsAsg 5 (xmP (xAdd (xVar W 5) (xMul (xAdd (xInt W 1) (xMod (xInt1 (xaCons (xIx (xVar W 7) (xInt W 0)) (xaNil W))) (xInt W 4))) (xVar W 3)))))
  (xsExpr (xmAppend (plVar W 4) (xTup (xaCons (xVar W 5) (xaCons (xVar W 8) (xaCons (xVar W 9) (xaNil W)))))))))))))
def b_law_triples {T : Tbl} (W : Wd T) (φ : Sem) : XS W :=
  (xsSeq (xsAsg 4 (xmP (xLst (xaNil W))))
  (xsSeq (xsAsg 5 (xmP (xMul (xNeg (xInt W 3)) (xVar W 3))))
  (xsSeq (xsFor (xiR1 (xaCons (xVar W 2) (xaNil W))) (xgN W 6) (l1_law_triples W φ))
  (xsRet (xmMove W 4)))))
def l2_law_is_counts {T : Tbl} (W : Wd T) (φ : Sem) : XS W :=
  (xsIf (xtOr (xtNot (xtTru (xIsi (false, "int") (xVar W 4)))) (xtTru (xIsi (false, "bool") (xVar W 4)))) (xsRet (xmP (xBl W false))) (xsNext W))
def l1_law_is_counts {T : Tbl} (W : Wd T) (φ : Sem) : XS W :=
  (xsSeq (xsIf (xtNot (xtTru (xIsi (false, "tuple") (xVar W 3)))) (xsRet (xmP (xBl W false))) (xsNext W))
  (xsFrz [3] (xsFor (xiSeqU (xVar W 3)) (xgN W 4) (l2_law_is_counts W φ))))
def b_law_is_counts {T : Tbl} (W : Wd T) (φ : Sem) : XS W :=
  (xsSeq (xsIf (xtOr (xtNot (xtTru (xIsi (true, "Counts") (xVar W 0)))) (xtV (xNe (xLenU φ (xaCons (xVar W 0) (xaNil W))) (xLenU φ (xaCons (xVar W 1) (xaNil W)))))) (xsRet (xmP (xBl W false))) (xsNext W))
  (xsSeq (xsAsg 2 (xmP (xListU φ (xVar W 0))))
  (xsSeq (xsFrz [2] (xsFor (xiSeqU (xVar W 2)) (xgN W 3) (l1_law_is_counts W φ)))
  (xsSeq (xsAsg 5 (xmP (xLst (xaCons (xSum (xLc (xiSeqU (xVar W 1)) (xgN W 3) (xtYes W) (xIx (xVar W 3) (xInt W 1)))) (xaCons (xSum (xLc (xiSeqU (xVar W 1)) (xgN W 3) (xtYes W) (xIx (xVar W 3) (xInt W 2)))) (xaNil W))))))
  (xsRet (xmP (xAnd (xEq (xVar W 2) (xVar W 1)) (xEq (xLst (xaCons (xProp φ "left_total" (xVar W 0)) (xaCons (xProp φ "right_total" (xVar W 0)) (xaNil W)))) (xVar W 5)))))))))
def b_law_refused {T : Tbl} (W : Wd T) (φ : Sem) : XS W :=
  (xsSeq (xsAsg 1 (xmP (xNeg (xInt W 1))))
  (xsSeq (xsTryAs 2 "BadCounts" (xsFrz [0] (xsExpr (xmMake φ "Counts" "Counts.__init__" 2 (xaCons (xVar W 0) (xaNil W))))) (xhAsg 1 (xqFld W 2 "BadCounts" "number")))
  (xsRet (xmMove W 1))))
def l1_law {T : Tbl} (W : Wd T) (φ : Sem) : XS W :=
  (xsIf (xtV (xEq (xMod (xInt1 (xaCons (xAdd (xIx (xVar W 1) (xInt W 2)) (xVar W 4)) (xaNil W))) (xInt W 2)) (xInt W 1))) (xsExpr (xmAppend (plVar W 3) (xLst (xaCons (xIx (xIx (xVar W 2) (xVar W 4)) (xInt W 0)) (xaCons (xIx (xIx (xVar W 2) (xVar W 4)) (xInt W 1)) (xaCons (xIx (xIx (xVar W 2) (xVar W 4)) (xInt W 2)) (xaNil W))))))) (xsExpr (xmAppend (plVar W 3) (xIx (xVar W 2) (xVar W 4)))))
def l2_law {T : Tbl} (W : Wd T) (φ : Sem) : XS W :=
  (xsIf (xtTru (xIsi (false, "list") (xVar W 6))) (xsSet (plVar W 6) (xInt W 1) (xmP (xInt W 500))) (xsNext W))
def b_law {T : Tbl} (W : Wd T) (φ : Sem) : XS W :=
  (xsSeq (xsFrz [0] (xsAsg 1 (xmP (xCall (φ "_law_draws") 3 (xaCons (xVar W 0) (xaCons (xInt W 0) (xaCons (xInt W 5) (xaNil W)))) [] [] (fun _ => .nil)))))
  (xsSeq (xsFrz [0] (xsAsg 2 (xmP (xCall (φ "_law_triples") 4 (xaCons (xVar W 0) (xaCons (xInt W 1) (xaCons (xMod (xInt1 (xaCons (xIx (xVar W 1) (xInt W 0)) (xaNil W))) (xInt W 13)) (xaCons (xIx (xLst (xaCons (xInt W 1) (xaCons (xInt W 1000000007) (xaCons (xPow (xInt W 10) (xInt W 15)) (xaNil W))))) (xMod (xInt1 (xaCons (xIx (xVar W 1) (xInt W 1)) (xaNil W))) (xInt W 3))) (xaNil W))))) [] [] (fun _ => .nil)))))
  (xsSeq (xsFrz [2] (xsAsg 3 (xmP (xLst (xaNil W)))))
  (xsSeq (xsFor (xiR1 (xaCons (xLenU φ (xaCons (xVar W 2) (xaNil W))) (xaNil W))) (xgN W 4) (l1_law W φ))
  (xsSeq (xsAsg 5 (xmP (xMakeI φ "Counts" "Counts.__init__" 2 (xVar W 3))))
  (xsSeq (xsFrz [5] (xsIf (xtOr (xtNot (xtTru (xCall (φ "_law_is_counts") 2 (xaCons (xVar W 5) (xaCons (xVar W 2) (xaNil W))) [] [] (fun _ => .nil)))) (xtNot (xtTru (xCall (φ "_law_is_counts") 2 (xaCons (xMake φ "Counts" "Counts.__init__" 2 (xaCons (xTuple (xVar W 2)) (xaNil W)) [] [] (fun _ => .nil)) (xaCons (xVar W 2) (xaNil W))) [] [] (fun _ => .nil))))) (xsRet (xmP (xBl W false))) (xsNext W)))
  (xsSeq (xsForM 3 6 (l2_law W φ))
  (xsSeq (xsExpr (xmAppend (plVar W 3) (xTup (xaCons (xPow (xInt W 10) (xInt W 25)) (xaCons (xInt W 1) (xaCons (xInt W 1) (xaNil W)))))))
  (xsSeq (xsAsg 7 (xmP (xListU φ (xVar W 5))))
  (xsSeq (xsExpr (xmAppend (plVar W 7) (xTup (xaCons (xInt W 0) (xaCons (xInt W 0) (xaCons (xInt W 0) (xaNil W)))))))
  (xsSeq (xsIf (xtNot (xtTru (xCall (φ "_law_is_counts") 2 (xaCons (xVar W 5) (xaCons (xVar W 2) (xaNil W))) [] [] (fun _ => .nil)))) (xsRet (xmP (xBl W false))) (xsNext W))
  (xsSeq (xsAsg 8 (xmP (xLst (xaCons (xNon W) (xaCons (xInt W 7) (xaCons (xStr W "abc") (xaCons (xTup (xaNil W)) (xaCons (xTup (xaCons (xPow (xInt W 10) (xInt W 20)) (xaCons (xInt W 1) (xaNil W)))) (xaCons (xTup (xaCons (xPow (xInt W 10) (xInt W 20)) (xaCons (xInt W 1) (xaCons (xInt W 1) (xaCons (xInt W 1) (xaNil W)))))) (xaCons (xTup (xaCons (xPow (xInt W 10) (xInt W 20)) (xaCons (xInt W 0) (xaCons (xInt W 0) (xaNil W))))) (xaCons (xTup (xaCons (xPow (xInt W 10) (xInt W 20)) (xaCons (xNeg (xInt W 1)) (xaCons (xInt W 2) (xaNil W))))) (xaNil W))))))))))))
  (xsSeq (xsAsg 8 (xmP (xAdd (xVar W 8) (xLst (xaCons (xTup (xaCons (xBl W true) (xaCons (xInt W 1) (xaCons (xInt W 1) (xaNil W))))) (xaCons (xTup (xaCons (xPow (xInt W 10) (xInt W 20)) (xaCons (xBl W true) (xaCons (xInt W 1) (xaNil W))))) (xaCons (xTup (xaCons (xStr W "k") (xaCons (xInt W 1) (xaCons (xInt W 1) (xaNil W))))) (xaCons (xTup (xaCons (xNon W) (xaCons (xInt W 1) (xaCons (xInt W 1) (xaNil W))))) (xaNil W)))))))))
  (xsSeq (xsAsg 9 (xmP (xMod (xInt1 (xaCons (xIx (xVar W 1) (xInt W 3)) (xaNil W))) (xAdd (xLenU φ (xaCons (xVar W 2) (xaNil W))) (xInt W 1)))))
  (xsSeq (xsAsg 10 (xmP (xListU φ (xVar W 2))))
  (xsSeq (xsExpr (xmInsert (plVar W 10) (xVar W 9) (xIx (xVar W 8) (xMod (xInt1 (xaCons (xIx (xVar W 1) (xInt W 4)) (xaNil W))) (xInt W 12)))))
  (xsSeq (xsIf (xtOr (xtV (xNe (xCall (φ "_law_refused") 1 (xaCons (xVar W 10) (xaNil W)) [] [] (fun _ => .nil)) (xVar W 9))) (xtV (xNe (xCall (φ "_law_refused") 1 (xaCons (xAdd (xVar W 2) (xSl (xVar W 2) (some (xNeg (xInt W 1))) none)) (xaNil W)) [] [] (fun _ => .nil)) (xIx (xLst (xaCons (xNeg (xInt W 1)) (xaCons (xLenU φ (xaCons (xVar W 2) (xaNil W))) (xaNil W)))) (xInt1 (xaCons (xGt (xLenU φ (xaCons (xVar W 2) (xaNil W))) (xInt W 0)) (xaNil W))))))) (xsRet (xmP (xBl W false))) (xsNext W))
  (xsSeq (xsAsg 11 (xmP (xBl W false)))
  (xsSeq (xsTryAs 12 "JoinError" (xsExpr (xmMake φ "Counts" "Counts.__init__" 2 (xaCons (xTuple (xVar W 10)) (xaNil W)))) (xhAsg 11 (xqAnd (xqIs W 12 (false, "ValueError")) (xqAnd (xqIs W 12 (true, "BadCounts")) (xqNot (xqIs W 12 (true, "BadRow")))))))
  (xsSeq (xsIf (xtOr (xtNot (xtTru (xVar W 11))) (xtV (xLt (xLenU φ (xaCons (xVar W 2) (xaNil W))) (xInt W 2)))) (xsRet (xmMove W 11)) (xsNext W))
  (xsSeq (xsAsg 13 (xmP (xMod (xInt1 (xaCons (xIx (xVar W 1) (xInt W 3)) (xaNil W))) (xSub (xLenU φ (xaCons (xVar W 2) (xaNil W))) (xInt W 1)))))
  (xsSeq (xsAsg 14 (xmP (xListU φ (xVar W 2))))
  (xsSeq (xsSet (plVar W 14) (xVar W 13) (xmP (xIx (xVar W 2) (xAdd (xVar W 13) (xInt W 1)))))
  (xsSeq (xsSet (plVar W 14) (xAdd (xVar W 13) (xInt W 1)) (xmP (xIx (xVar W 2) (xVar W 13))))
  (xsRet (xmP (xAnd (xEq (xCall (φ "_law_refused") 1 (xaCons (xVar W 14) (xaNil W)) [] [] (fun _ => .nil)) (xAdd (xVar W 13) (xInt W 1))) (xEq (xCall (φ "_law_refused") 1 (xaCons (xVar W 2) (xaNil W)) [] [] (fun _ => .nil)) (xNeg (xInt W 1))))))))))))))))))))))))))))))
def clsL : List String := ["Counts"]
def fldL (c : String) : List String := if c = "Counts" then ["_rows"] else []
def resT (c m : String) : Option String := if c = "Counts" then (if m = "__len__" then some "Counts.__len__" else if m = "left_total" then some "Counts.left_total" else if m = "right_total" then some "Counts.right_total" else none) else none
def subT (c d : String) : Bool := if c = "Counts" then (["Counts"]).contains d else false
def itT (c : String) : Option String := if c = "Counts" then some "_rows" else none
def xL : List String := ["JoinError", "BadRow", "BadCounts"]
def xsubT (c d : String) : Bool := if c = "JoinError" then (["JoinError"]).contains d else if c = "BadRow" then (["BadRow", "JoinError"]).contains d else if c = "BadCounts" then (["BadCounts", "JoinError"]).contains d else false
def TT : Tbl := ⟨fun c f => (fldL c).contains f, fun _ _ => none, subT, resT, itT, xsubT⟩
theorem xs_JoinError_JoinError : TT.xsub "JoinError" "JoinError" = true := by simp [TT, xsubT]
theorem xs_JoinError_BadRow : TT.xsub "JoinError" "BadRow" = false := by simp [TT, xsubT]
theorem xs_JoinError_BadCounts : TT.xsub "JoinError" "BadCounts" = false := by simp [TT, xsubT]
theorem xs_BadRow_JoinError : TT.xsub "BadRow" "JoinError" = true := by simp [TT, xsubT]
theorem xs_BadRow_BadRow : TT.xsub "BadRow" "BadRow" = true := by simp [TT, xsubT]
theorem xs_BadRow_BadCounts : TT.xsub "BadRow" "BadCounts" = false := by simp [TT, xsubT]
theorem xs_BadCounts_JoinError : TT.xsub "BadCounts" "JoinError" = true := by simp [TT, xsubT]
theorem xs_BadCounts_BadRow : TT.xsub "BadCounts" "BadRow" = false := by simp [TT, xsubT]
theorem xs_BadCounts_BadCounts : TT.xsub "BadCounts" "BadCounts" = true := by simp [TT, xsubT]
theorem ik_Counts : TT.it "Counts" = some "_rows" := by simp [TT, itT]
theorem fk_Counts__rows : TT.fOk "Counts" "_rows" = true := by simp [TT, fldL]
theorem rs_Counts___len__ : TT.res "Counts" "__len__" = some "Counts.__len__" := by simp [TT, resT]
theorem rs_Counts_left_total : TT.res "Counts" "left_total" = some "Counts.left_total" := by simp [TT, resT]
theorem rs_Counts_right_total : TT.res "Counts" "right_total" = some "Counts.right_total" := by simp [TT, resT]
theorem sb_Counts_Counts : TT.sub "Counts" "Counts" = true := by simp [TT, subT]
def tbl {T : Tbl} (W : Wd T) : String -> Option (Sem -> List D -> Option Nat -> Rz)
  | "is_integer" => some fun φ => runFn 1 (b_is_integer W φ)
  | "is_triple" => some fun φ => runFn 2 (b_is_triple W φ)
  | "Counts.__init__" => some fun φ => runFn 5 (b_Counts___init__ W φ)
  | "Counts.__len__" => some fun φ => runFn 1 (b_Counts___len__ W φ)
  | "Counts.left_total" => some fun φ => runFn 2 (b_Counts_left_total W φ)
  | "Counts.right_total" => some fun φ => runFn 2 (b_Counts_right_total W φ)
  | "_law_draws" => some fun φ => runFn 9 (b_law_draws W φ)
  | "_law_triples" => some fun φ => runFn 10 (b_law_triples W φ)
  | "_law_is_counts" => some fun φ => runFn 6 (b_law_is_counts W φ)
  | "_law_refused" => some fun φ => runFn 3 (b_law_refused W φ)
  | _ => none
theorem sem_is_integer {T : Tbl} (W : Wd T) (k : Nat) (args : List D) (b : Option Nat) : semT (tbl W) (k + 1) "is_integer" args b = runFn 1 (b_is_integer W (semT (tbl W) k)) args b := rfl
theorem sem_is_triple {T : Tbl} (W : Wd T) (k : Nat) (args : List D) (b : Option Nat) : semT (tbl W) (k + 1) "is_triple" args b = runFn 2 (b_is_triple W (semT (tbl W) k)) args b := rfl
theorem sem_Counts___init__ {T : Tbl} (W : Wd T) (k : Nat) (args : List D) (b : Option Nat) : semT (tbl W) (k + 1) "Counts.__init__" args b = runFn 5 (b_Counts___init__ W (semT (tbl W) k)) args b := rfl
theorem sem_Counts___len__ {T : Tbl} (W : Wd T) (k : Nat) (args : List D) (b : Option Nat) : semT (tbl W) (k + 1) "Counts.__len__" args b = runFn 1 (b_Counts___len__ W (semT (tbl W) k)) args b := rfl
theorem sem_Counts_left_total {T : Tbl} (W : Wd T) (k : Nat) (args : List D) (b : Option Nat) : semT (tbl W) (k + 1) "Counts.left_total" args b = runFn 2 (b_Counts_left_total W (semT (tbl W) k)) args b := rfl
theorem sem_Counts_right_total {T : Tbl} (W : Wd T) (k : Nat) (args : List D) (b : Option Nat) : semT (tbl W) (k + 1) "Counts.right_total" args b = runFn 2 (b_Counts_right_total W (semT (tbl W) k)) args b := rfl
theorem sem_law_draws {T : Tbl} (W : Wd T) (k : Nat) (args : List D) (b : Option Nat) : semT (tbl W) (k + 1) "_law_draws" args b = runFn 9 (b_law_draws W (semT (tbl W) k)) args b := rfl
theorem sem_law_triples {T : Tbl} (W : Wd T) (k : Nat) (args : List D) (b : Option Nat) : semT (tbl W) (k + 1) "_law_triples" args b = runFn 10 (b_law_triples W (semT (tbl W) k)) args b := rfl
theorem sem_law_is_counts {T : Tbl} (W : Wd T) (k : Nat) (args : List D) (b : Option Nat) : semT (tbl W) (k + 1) "_law_is_counts" args b = runFn 6 (b_law_is_counts W (semT (tbl W) k)) args b := rfl
theorem sem_law_refused {T : Tbl} (W : Wd T) (k : Nat) (args : List D) (b : Option Nat) : semT (tbl W) (k + 1) "_law_refused" args b = runFn 3 (b_law_refused W (semT (tbl W) k)) args b := rfl
end Py
namespace Py
open PySem L2
open Enc (enc)
local macro_rules | `(tactic| simp? only [$xs,*]) => `(tactic| try simp (maxSteps := 1000000) (disch := first | omega | decide) only [e_xsSeq, e_xsNext, e_xsAsg, e_xsExpr, e_xsRet, e_xsIf, e_xsFrz, e_xmP, e_xVar_V, e_xtV, e_xtTru, e_xtAnd, e_xtOr, e_xtNot, e_xtYes, e_xVar, e_xInt, e_xBl, e_xNon, e_xStr, e_xSub, e_xMul, e_xDiv, e_xMod, e_xPow, e_xNeg, e_xAdd, e_xEq, e_xNe, e_xLt, e_xLe, e_xGt, e_xGe, e_xAnd, e_xNot, e_xTup, e_xLst, e_xInt1, e_xAbs, e_xIx, e_xFld, e_xList, e_xTuple, e_xIsi, e_xIsiT, e_xCall, e_xLc, e_xmMove, e_xmAppend, e_xmInsert, e_xoNil, e_xoCons, e_plVar, r_plVar, e_xaNilV, e_xaNilF, e_xaConsV, e_xaConsF, e_xgN, e_xgsNil, e_xgsCons, e_xgT, o_xgN, o_xgT, o_xgsNil, o_xgsCons, e_xiSeqF, e_xiSeqP, e_xiR1F, e_xiR1P, e_xsFor, e_evV, e_evK, e_evF, e_evO, e_evB, h_getS0, h_getS0n, h_getSs, h_toV, h_toVn, h_toKf, h_toKp, h_toKv, h_toKn, h_toFf, h_toFp, h_toFv, h_toFn, h_toOf, h_toOp, h_toOv, h_toOn, h_of_f, h_of_p, h_of_v, h_then_nx, h_then_rt, h_then_bk, h_then_ct, h_then_ex, h_then_no, h_thenS_ok, h_thenS_exn, h_thenS_no, h_ofO, h_ofOn, h_of, h_ofn, h_mofO, h_mofOn, h_iteF1, h_iteF0, h_iteFn, h_asgK, h_forK, h_andF1, h_andF0, h_orF1, h_orF0, h_blD, h_turn, h_turnn, h_forE, h_forEn, h_callF, h_callV, h_rzF, h_rzV, h_fz_non, h_sh_non, h_fl_non, h_isN_non, h_fz_bl, h_sh_bl, h_fl_bl, h_fz_int, h_sh_int, h_fl_int, h_isN_int, h_fz_str, h_sh_str, h_fl_str, h_isN_str, h_fz_cls, h_sh_cls, h_fl_cls, h_isN_cls, h_fz_sei, h_sh_sei, h_fl_sei, h_isN_sei, h_fz_scr, h_sh_scr, h_fl_scr, h_isN_scr, h_fz_tup, h_sh_tup, h_fl_tup, h_isN_tup, h_fz_lst, h_sh_lst, h_fl_lst, h_isN_lst, h_fz_dic, h_sh_dic, h_fl_dic, h_isN_dic, h_fz_dit, h_sh_dit, h_fl_dit, h_isN_dit, h_fz_dig, h_sh_dig, h_fl_dig, h_isN_dig, h_fz_ins, h_sh_ins, h_fl_ins, h_isN_ins, h_isN_bl, h_fz_olst, h_sh_olst, h_fl_olst, h_fz_odic, h_sh_odic, h_fl_odic, h_fz_odit, h_sh_odit, h_fl_odit, h_fz_odig, h_sh_odig, h_fl_odig, h_fz_oins, h_sh_oins, h_fl_oins, h_fzs_nil, h_fzs_cons, h_fzs_app, h_tru_bl, h_tru_non, h_tru_int, h_tru_lst, h_tru_tup, h_sub, h_neg, h_addI, h_addT, h_addL, h_addLo, h_addoL, h_addoo, h_eqD, h_neD, h_ok_non, h_ok_bl, h_ok_int, h_ok_str, h_ok_tup, h_ok_lst, h_oks_nil, h_oks_cons, h_eqB_ii, h_eqB_ss, h_eqB_bb, h_eqB_nn, h_eqB_ni, h_eqB_in, h_eqB_nt, h_eqB_tn, h_eqB_tt, h_eqB_ll, h_eqBs_nn, h_eqBs_cc, h_eqBs_nc, h_eqBs_cn, h_cmp, h_ltI, h_ltT, h_ints_nil, h_ints_cons, h_intI, h_intB, h_abs, h_lenL, h_lenT, h_lenS, h_ix, h_it_lst, h_it_olst, h_it_tup, h_it_scr, h_at0, h_at1, h_at2, h_at3, h_at4, h_at5, h_at6, h_at7, h_at8, h_at9, h_at10, h_at11, h_at12, h_atm1, h_seq_lst, h_seq_tup, h_seq_olst, h_seq_scr, h_sF_lst, h_sF_tup, h_sF_scr, h_lF_lst, h_ty_non, h_ty_bl, h_ty_int, h_ty_str, h_ty_lst, h_ty_tup, h_ty_ins, h_isi_bb, h_isi_bo, h_isi_ob, h_isi_oo, h_isiA_n, h_isiA_c, h_isiB_NoneType_bool, h_isiB_NoneType_int, h_isiB_NoneType_str, h_isiB_NoneType_list, h_isiB_NoneType_tuple, h_isiB_NoneType_dict, h_isiB_bool_bool, h_isiB_bool_int, h_isiB_bool_str, h_isiB_bool_list, h_isiB_bool_tuple, h_isiB_bool_dict, h_isiB_int_bool, h_isiB_int_int, h_isiB_int_str, h_isiB_int_list, h_isiB_int_tuple, h_isiB_int_dict, h_isiB_str_bool, h_isiB_str_int, h_isiB_str_str, h_isiB_str_list, h_isiB_str_tuple, h_isiB_str_dict, h_isiB_list_bool, h_isiB_list_int, h_isiB_list_str, h_isiB_list_list, h_isiB_list_tuple, h_isiB_list_dict, h_isiB_tuple_bool, h_isiB_tuple_int, h_isiB_tuple_str, h_isiB_tuple_list, h_isiB_tuple_tuple, h_isiB_tuple_dict, h_isiB_dict_bool, h_isiB_dict_int, h_isiB_dict_str, h_isiB_dict_list, h_isiB_dict_tuple, h_isiB_dict_dict, h_append, h_insert, h_put0, h_rng1, h_guard1, h_guard0, h_forLn, h_forLc, h_forT_nx, h_forT_ct, h_forT_bk, h_forT_rt, h_forT_ex, h_lc1, h_lcK, h_lcJ1, h_lcJ0, h_wipe0, h_wipes, h_frz, h_frzO, h_frzOn, h_runR_rt, h_runR_nx, h_retZ, h_bGetn, h_bGets, h_setS, h_fldI, h_fldO, h_iteFd1, h_iteFd0, h_iteFe1, h_iteFe0, h_andFd1, h_andFd0, h_andFe1, h_andFe0, h_orFd1, h_orFd0, h_orFe1, h_orFe0, h_lcJd1, h_lcJd0, h_lcJe1, h_lcJe0, h_resE, h_resEn, h_posn, h_posc, h_putc, h_putE, h_subF, h_subI, h_putF, h_putI, h_setOs, h_eSfld, h_fldK, h_setFD, h_setFn, h_setFc, h_eMake, h_makeF, h_makeV, h_mk1, h_mkR, h_eProp, h_propF, h_propV, h_prop1, h_eLenU, h_lenI_lst, h_lenI_tup, h_lenI_scr, h_lenI_ins, h_lenQ, h_lenR, h_eSl, h_slE, h_evI0, h_evI1, h_intO, h_RTthen_ok, h_RTthenS_ok, h_RTthen_exn, h_RTthenS_exn, h_RTof, h_eListU, h_lstE_lst, h_lstE_tup, h_lstE_scr, h_lstE_olst, h_lstE_ins, h_itQ, h_it_ins, h_lo_lst, h_lo_olst, h_eiSeqUF, h_eiSeqUP, h_eiEnumUF, h_eiEnumUP, h_eiEnumTF, h_eiEnumTP, h_enTI_tup, h_enTI_lst, h_enTI_ins, h_seqFI_lst, h_seqFI_tup, h_seqFI_scr, h_seqFI_ins, h_seqKI_lst, h_seqKI_tup, h_seqKI_scr, h_seqKI_ins, h_seqKI_olst, h_enFI_lst, h_enFI_ins, h_enKI_lst, h_enKI_ins, h_enKI_olst, h_orI_s, h_orI_n, h_ixD_ins, h_okD_ins, h_eqD_ins, h_addD_ins, h_addD_oins, h_eSum, h_sumI, h_eSset, h_setK, h_storeD, h_inK_non, h_inK_int, h_inK_str, h_guardB_t, h_keyD_i, h_keyD_s, h_lentEs, h_lentEn, h_ofBs, h_ofBn, h_oNl_int, h_oNl_str, h_oNl_bl, h_oNl_n, h_oNl_ins, h_oNl_oins, h_oNl_dic, h_oNl_odic, h_oNl_tup, h_oNl_olst, h_oNls_n, h_oNls_c, h_eRaise, h_exOf, h_exOfn, h_eTryAs, h_tryK_nx, h_tryK_rt, h_tryK_bk, h_tryK_ct, h_tryK_no, h_tryK_ex, h_tryJ1, h_tryJ0, h_clr_nx, h_clr_rt, h_clr_bk, h_clr_ct, h_clr_no, h_ehAsg, h_hAsgK, h_hAsgKn, h_qevO, h_qevB, h_qevF, h_toQf, h_toQp, h_toQv, h_toQn, h_eqFld, h_eqIs, h_isX1t, h_isX1f, h_eqAnd, h_eqNot, h_eMakeM, h_makeM, h_mkMo, h_mkMx, h_mkMn, h_runR_ex, h_retX, h_thenY1, h_thenY2, h_thenY3, h_look1, h_look2, h_div, h_mod, h_mulL, h_mulR, h_rngOk, List.zip_cons_cons, List.zip_nil_left, if_pos, if_neg, List.getElem?_cons_zero, List.getElem?_cons_succ, List.getElem?_nil, List.getLast?_append, List.getLast?_singleton, List.getLast?_cons_cons, runFn, env0, Option.toList, List.map_cons, List.map_nil, List.length_cons, List.length_nil, List.length_append, List.length_map, List.length_set, List.replicate, List.cons_append, List.nil_append, List.append_nil, Nat.reduceSub, Nat.reduceAdd, Nat.reduceLT, Nat.reduceLeDiff, Nat.reduceEqDiff, Nat.zero_add, Nat.add_zero, List.set_cons_zero, List.set_cons_succ, List.set_nil, Option.bind_some, Option.bind_none, Option.map_some, Option.map_none, List.foldl_cons, List.foldl_nil, not_false_eq_true, not_true_eq_false, and_true, true_and, and_self, and_false, false_and, if_true, if_false, ite_true, ite_false, reduceIte, List.not_mem_nil, reduceCtorEq, List.mem_cons, or_false, false_or, or_self, ne_eq, Bool.not_true, Bool.not_false, Bool.and_true, Bool.and_false, Bool.true_and, Bool.false_and, Bool.or_true, Bool.or_false, Bool.true_or, Bool.false_or, Bool.and_self, Bool.or_self, List.all_cons, List.all_nil, decide_true, decide_false, decide_not, decide_eq_true_eq, decide_eq_false_iff_not, Bool.not_not, Int.reduceLT, Int.reduceLE, Int.reduceEq, Int.reduceNe, Int.reduceAdd, Int.reduceMul, Int.reduceSub, Int.reduceNeg, List.isEmpty_cons, List.isEmpty_nil, Bool.false_eq_true, Bool.true_eq_false, String.reduceEq, Function.comp_apply, Option.isNone_none, Option.some_or, Option.isNone_some, List.getLast?_concat, List.dropLast_concat, List.all_append, $xs,*])
local macro_rules | `(tactic| dsimp? only [$xs,*]) => `(tactic| simp? only [xs_JoinError_JoinError, xs_JoinError_BadRow, xs_JoinError_BadCounts, xs_BadRow_JoinError, xs_BadRow_BadRow, xs_BadRow_BadCounts, xs_BadCounts_JoinError, xs_BadCounts_BadRow, xs_BadCounts_BadCounts, ik_Counts, fk_Counts__rows, rs_Counts___len__, rs_Counts_left_total, rs_Counts_right_total, sb_Counts_Counts, $xs,*])
local macro_rules | `(tactic| walk_at "ev") => `(tactic| simp? only [])
section
variable {W : Wd TT}
def drawStep (big : Bool) (k : Int) (n : Int) : Int × Int :=
  if big = true then (n % 1000, n / 1000)
  else if 0 < n then
    ((((n * (48271 + 6 * k) + 69621 * k) % 2147483647 * ((n * (48271 + 6 * k) + 69621 * k) % 2147483647) + 40692 * k + 1) % 2147483629) % 1000, n)
  else (0, n)
def drawsGo (big : Bool) (n : Int) : Nat -> List Int × Int
  | 0 => ([], n)
  | i + 1 => ((drawsGo big n i).1 ++ [(drawStep big (0 + i) (drawsGo big n i).2).1], (drawStep big (0 + i) (drawsGo big n i).2).2)
def drawNum (ns : List Int) (at' : Int) : Int := if h : 0 <= at' /\ at' < ns.length then (if ns[at'.toNat]'(by omega) < 0 then -(ns[at'.toNat]'(by omega)) else ns[at'.toNat]'(by omega)) else 0
def draws (ns : List Int) (at' many : Int) : List Int := (drawsGo (decide (10 ^ 18 <= drawNum ns at')) (drawNum ns at') many.toNat).1
theorem drawStep_ok {big : Bool} {k n : Int} (h : 0 <= n) : 0 <= (drawStep big k n).1 /\ (drawStep big k n).1 < 1000 /\ 0 <= (drawStep big k n).2 /\ (drawStep big k n).2 <= n := by
  unfold drawStep
  split
  · simp only; omega
  · split
    · simp only; omega
    · simp only; omega
theorem drawsGo_ok {big : Bool} {n : Int} (h : 0 <= n) : ∀ i, (drawsGo big n i).1.length = i /\ (∀ d ∈ (drawsGo big n i).1, 0 <= d /\ d < 1000) /\ 0 <= (drawsGo big n i).2 /\ (drawsGo big n i).2 <= n
  | 0 => ⟨rfl, (fun _ m => nomatch m), h, Int.le_refl _⟩
  | i + 1 => by
    obtain ⟨h1, h2, h3, h4⟩ := drawsGo_ok (big := big) h i
    obtain ⟨q1, q2, q3, q4⟩ := drawStep_ok (big := big) (k := 0 + i) h3
    refine ⟨by rw [drawsGo]; simp [h1], fun d m => ?_, q3, Int.le_trans q4 h4⟩
    rw [drawsGo] at m
    rcases List.mem_append.mp m with m | m
    · exact h2 d m
    · rw [List.mem_singleton.mp m]; exact ⟨q1, q2⟩
theorem drawNum_nn (ns : List Int) (at' : Int) : 0 <= drawNum ns at' := by
  unfold drawNum
  split
  · split <;> omega
  · omega
theorem draws_length (ns : List Int) (at' many : Int) : (draws ns at' many).length = many.toNat := (drawsGo_ok (drawNum_nn ns at') _).1
theorem draws_ok (ns : List Int) (at' many : Int) : ∀ d ∈ draws ns at' many, 0 <= d /\ d < 1000 := (drawsGo_ok (drawNum_nn ns at') _).2.1
theorem f_law_draws (k : Nat) {ns : List Int} {i n : Int} (h0 : 0 <= i) (h1 : 0 <= n) (h2 : n <= 1000) : semT (tbl W) (k + 1) "_law_draws" [.scr ns, .int i, .int n] none = .ok (.olst ((draws ns i n).map .int)) none := by
  rw [sem_law_draws]
  unfold b_law_draws
  have loop : ∀ (b : Bool) (m : Int), 0 <= m -> ∀ e0, e0 = [some (.scr ns), some (.int i), some (.int n), some (.int m), some (.bl b), some (.olst []), none, none, none] -> ∀ r, forL (forK (xgN W 6) (l1_law_draws W (semT (tbl W) k)) []) (rangeD 0 n.toNat) e0 = r ->
      ∃ e', r = .nx e' /\ getS e' 5 = some (.olst ((drawsGo b m n.toNat).1.map .int)) /\ e'.length = 9 := by
    intro b m hm e0 he r hF
    obtain ⟨e', rfl, o6, o7, o8, h⟩ := forL_gen (fun j e => ∃ o6 o7 o8, e = [some (.scr ns), some (.int i), some (.int n), some (.int (drawsGo b m j).2), some (.bl b), some (.olst ((drawsGo b m j).1.map .int)), o6, o7, o8]) hF ⟨none, none, none, he⟩ (by
      rintro j d _ hd ⟨o6, o7, o8, rfl⟩
      obtain ⟨hj, rfl⟩ := rangeD_get hd
      obtain ⟨q1, q2, q3, q4⟩ := drawsGo_ok (big := b) hm j
      generalize hg : drawsGo b m j = g at q1 q2 q3 q4
      have hs : drawsGo b m (j + 1) = (g.1 ++ [(drawStep b (0 + j) g.2).1], (drawStep b (0 + j) g.2).2) := by rw [drawsGo, hg]
      rw [hs]
      have hj2 : (0 : Int) + (j : Int) < 1000 := by omega
      generalize hx : (0 : Int) + (j : Int) = x at hj2
      have hx0 : 0 <= x := by omega
      have hl : g.1.length < 1000000 := by omega
      clear hx hj hd hs hg q4 hF q2
      unfold drawStep l1_law_draws
      cases b with
      | true =>
        refine ⟨_, .inl (by walk_at "ev"; rfl), ?_⟩
        rw [List.map_append]
        exact ⟨_, _, _, rfl⟩
      | false =>
        by_cases hp : 0 < g.2
        · generalize hy : g.2 * (48271 + 6 * x) + 69621 * x = y
          have e1 : 0 <= y % 2147483647 := by omega
          have e2 : y % 2147483647 < 2147483647 := by omega
          generalize hz : y % 2147483647 = z at e1 e2
          refine ⟨_, .inl (by walk_at "ev"; rw [hy, hz]), ?_⟩
          rw [if_neg (by decide), if_pos hp, List.map_append]
          exact ⟨_, _, _, rfl⟩
        · refine ⟨_, .inl (by walk_at "ev"; rfl), ?_⟩
          rw [if_neg (by decide), if_neg hp, List.map_append]
          exact ⟨_, _, _, rfl⟩)
    rw [rangeD_length] at h
    exact ⟨e', rfl, by rw [h]; rfl, by rw [h]; rfl⟩
  have fin : ∀ e' : Py.Env, getS e' 5 = some (.olst ((draws ns i n).map .int)) -> runR none (RS.then (.nx e') ((xsRet (xmMove W 5)).ev [])) = .ok (.olst ((draws ns i n).map .int)) none := fun e' he => by
    walk_at "ev"
    rw [he]
    walk_at "ev"
  have hp : powD (.int 10) (.int 18) = some (.int 1000000000000000000) := rfl
  by_cases hi : i < ns.length
  · obtain ⟨x, hx1, hx2⟩ := atI_get h0 hi
    have en : drawNum ns i = if x < 0 then -x else x := by
      have : x = ns[i.toNat]'(by omega) := by rw [List.getElem?_eq_getElem (by omega)] at hx2; exact (Option.some.inj hx2).symm
      unfold drawNum
      rw [dif_pos ⟨h0, hi⟩, this]
    walk_at "ev"
    rw [atI_map, hx1]
    walk_at "ev"
    rw [hp]
    walk_at "ev"
    rw [<- en]
    have hn := drawNum_nn ns i
    have e0 : drawsGo (decide (1000000000000000000 <= drawNum ns i)) (drawNum ns i) n.toNat = drawsGo (decide (10 ^ 18 <= drawNum ns i)) (drawNum ns i) n.toNat := rfl
    generalize hF : forL _ _ _ = r
    obtain ⟨e', rfl, h5, _⟩ := loop _ _ hn _ rfl _ hF
    exact fin e' (by rw [h5, e0]; rfl)
  · have en : drawNum ns i = 0 := by
      unfold drawNum
      rw [dif_neg (by omega)]
    walk_at "ev"
    rw [hp]
    walk_at "ev"
    generalize hF : forL _ _ _ = r
    obtain ⟨e', rfl, h5, _⟩ := loop false 0 (Int.le_refl _) _ rfl _ hF
    exact fin e' (by rw [h5]; unfold draws; rw [en]; rfl)
abbrev Tr := T3 Int Int Int
abbrev cD (ts : List Tr) : D := .oins "Counts" ["_rows"] [.olst (ts.map enc)]
abbrev cS (ts : List Tr) : D := .ins "Counts" ["_rows"] [.lst (ts.map enc)]
local macro_rules | `(tactic| walk_at "evk0") => `(tactic| dsimp? only [])
theorem it_cS (ts : List Tr) : itOf TT (cS ts) = some (ts.map enc) := by
  walk_at "evk0"
theorem u_is_integer (k : Nat) (i : Int) : semT (tbl W) (k + 1) "is_integer" [.int i] none = .ok (.bl true) none := by
  rw [sem_is_integer]; unfold b_is_integer; walk_at "ev"
local macro_rules | `(tactic| walk_at "evc") => `(tactic| dsimp? only [it_cS, it_t3, sF_t3, sFI_t3, ty_t3, len_t3, lenI_t3, fl_t3, xg_t3, it_pair, sF_pair, sFI_pair, so_pair, ty_pair, len_pair, lenI_pair, fl_pair, xg_pair, enc_int, isN_opt, sh_enc, fz_enc, shl_enc, fzl_enc, fl_enc, ok_enc, okl_enc, eq_enc, eql_enc, en_enc, ne_enc, nn_enc, decide_true, enumD_enc])
theorem f_is_triple (k : Nat) (t : Tr) (h1 : 0 <= t.b) (h2 : 0 <= t.c) (h3 : 0 < t.b + t.c) : semT (tbl W) (k + 2) "is_triple" [enc t] none = .ok (.bl true) none := by
  obtain ⟨a, b, c⟩ := t
  dsimp only at h1 h2 h3
  have u := fun i => u_is_integer (W := W) k i
  rw [sem_is_triple]
  unfold b_is_triple
  walk_at "evc"
  unfold l1_is_triple
  walk_at "evc"
  repeat (rw [u]; walk_at "evc")
  rw [decide_eq_true h3]
structure OkTs (ts : List Tr) : Prop where
  asc : ts.Pairwise fun s t => s.a < t.a
  nn : ∀ t ∈ ts, 0 <= t.b /\ 0 <= t.c /\ 0 < t.b + t.c
theorem sumI_enc (ns : List Int) : sumI (ns.map enc) = some (.int ns.sum) := h_sumI
def sumB (ts : List Tr) : Int := (ts.map T3.b).sum
def sumC (ts : List Tr) : Int := (ts.map T3.c).sum
theorem f_left_total (k : Nat) (ts : List Tr) (hl : ts.length <= 1000) : semT (tbl W) (k + 1) "Counts.left_total" [cS ts] none = .ok (.int (sumB ts)) none := by
  rw [sem_Counts_left_total]
  unfold b_Counts_left_total
  walk_at "evc"
  rw [lcL_mapE (enc := enc) (enc2 := enc) (fun t : Tr => t.b) ts (fun t _ => by
    walk_at "evc"
    try rfl)]
  walk_at "evc"
  rw [sumI_enc]
  walk_at "evc"
  try rfl
theorem f_right_total (k : Nat) (ts : List Tr) (hl : ts.length <= 1000) : semT (tbl W) (k + 1) "Counts.right_total" [cS ts] none = .ok (.int (sumC ts)) none := by
  rw [sem_Counts_right_total]
  unfold b_Counts_right_total
  walk_at "evc"
  rw [lcL_mapE (enc := enc) (enc2 := enc) (fun t : Tr => t.c) ts (fun t _ => by
    walk_at "evc"
    try rfl)]
  walk_at "evc"
  rw [sumI_enc]
  walk_at "evc"
  try rfl
theorem OkTs.snoc {ts : List Tr} {t : Tr} (h : OkTs ts) (ha : ∀ s ∈ ts, s.a < t.a) (hb : 0 <= t.b) (hc : 0 <= t.c) (hs : 0 < t.b + t.c) : OkTs (ts ++ [t]) :=
  ⟨List.pairwise_append.mpr ⟨h.asc, List.pairwise_singleton .., fun s hs' u hu => by rw [List.mem_singleton.mp hu]; exact ha s hs'⟩, fun s hs' => by
    rcases List.mem_append.mp hs' with m | m
    · exact h.nn s m
    · rw [List.mem_singleton.mp m]; exact ⟨hb, hc, hs⟩⟩
local macro_rules | `(tactic| walk_at "evl") => `(tactic| dsimp? only [e_xsForM, e_xMakeI, it_cS, it_t3, sF_t3, sFI_t3, ty_t3, len_t3, lenI_t3, fl_t3, xg_t3, it_pair, sF_pair, sFI_pair, so_pair, ty_pair, len_pair, lenI_pair, fl_pair, xg_pair, enc_int, isN_opt, sh_enc, fz_enc, shl_enc, fzl_enc, fl_enc, ok_enc, okl_enc, eq_enc, eql_enc, en_enc, ne_enc, nn_enc, decide_true])
def gT (p : Bool × Tr) : D := if p.1 = true then .olst [.int p.2.a, .int p.2.b, .int p.2.c] else enc p.2
def gTS (p : Bool × Tr) : D := if p.1 = true then .lst [.int p.2.a, .int p.2.b, .int p.2.c] else enc p.2
def gTM (p : Bool × Tr) : D := if p.1 = true then .olst [.int p.2.a, .int 500, .int p.2.c] else enc p.2
theorem gTS_two (p : Bool × Tr) : gTS p = .lst [.int p.2.a, .int p.2.b, .int p.2.c] \/ gTS p = .tup [.int p.2.a, .int p.2.b, .int p.2.c] := by
  obtain ⟨b, t⟩ := p
  cases b
  · exact .inr rfl
  · exact .inl rfl
theorem fz_gT (p : Bool × Tr) : fz (gT p) = gTS p := by
  obtain ⟨b, t⟩ := p
  cases b with
  | false => exact fz_enc t
  | true =>
    unfold gT gTS
    rw [if_pos rfl, if_pos rfl, fz]
    rfl
theorem fzl_gT (ps : List (Bool × Tr)) : fzs (ps.map gT) = ps.map gTS := by
  rw [fzs_eq, List.map_map]
  exact List.map_congr_left fun p _ => fz_gT p
theorem isLss_gT (ps : List (Bool × Tr)) : isLss (ps.map gT) = true := isLss_all fun d hd => by
  obtain ⟨⟨b, t⟩, _, rfl⟩ := List.mem_map.mp hd
  cases b with
  | false => exact (sh_enc t : isSh (enc t) = true)
  | true => rfl
theorem oNls_trs (ts : List Tr) : oNls (ts.map (enc : Tr -> D)) = true := oNls_all fun d hd => by
  obtain ⟨t, _, rfl⟩ := List.mem_map.mp hd
  show oNl (.tup [.int t.a, .int t.b, .int t.c]) = true
  simp [oNl, oNls]
theorem f_is_tripleM (k : Nat) (p : Bool × Tr) (h1 : 0 <= p.2.b) (h2 : 0 <= p.2.c) (h3 : 0 < p.2.b + p.2.c) : semT (tbl W) (k + 2) "is_triple" [gTS p] none = .ok (.bl true) none := by
  obtain ⟨b, a, l, r⟩ := p
  cases b with
  | false => exact f_is_triple k ⟨a, l, r⟩ h1 h2 h3
  | true =>
    dsimp only at h1 h2 h3
    have e : gTS (true, ⟨a, l, r⟩) = .lst [.int a, .int l, .int r] := rfl
    have u := fun i => u_is_integer (W := W) k i
    rw [e, sem_is_triple]
    unfold b_is_triple
    walk_at "evl"
    unfold l1_is_triple
    walk_at "evl"
    repeat (rw [u]; walk_at "evl")
    rw [decide_eq_true h3]
theorem c_step (k : Nat) {acc : List Tr} {j : Nat} {x : Bool × Tr} {z : D} {o3 o4 : Option D} (hx : 0 <= x.2.b /\ 0 <= x.2.c /\ 0 < x.2.b + x.2.c) (hl : ∀ y, acc.getLast? = some y -> y.a < x.2.a) (hn : acc.length < 1000000) :
    forK (xgT 2 (xgsCons (xgN W 3) (xgsCons (xgN W 4) (xgsNil W)))) (l1_Counts___init__ W (semT (tbl W) (k + 2))) [0] (.tup [.int (j : Int), gTS x]) [some (.oins "Counts" [] []), some z, some (.olst (acc.map enc)), o3, o4] =
      .nx [some (.oins "Counts" [] []), some z, some (.olst ((acc ++ [x.2]).map enc)), some (.int (j : Int)), some (gTS x)] := by
  have hr := f_is_tripleM (W := W) k x hx.1 hx.2.1 hx.2.2
  have he : (enc x.2 : D) = .tup [.int x.2.a, .int x.2.b, .int x.2.c] := rfl
  rw [List.map_append, List.map_singleton, he]
  rcases List.eq_nil_or_concat acc with rfl | ⟨us, y, rfl⟩
  · rcases gTS_two x with e | e
    · rw [e] at hr ⊢
      unfold l1_Counts___init__
      walk_at "evl"
      rw [hr]
      walk_at "evl"
      try rfl
    · rw [e] at hr ⊢
      unfold l1_Counts___init__
      walk_at "evl"
      rw [hr]
      walk_at "evl"
      try rfl
  · have hlt : y.a < x.2.a := hl y (by simp)
    have hla : ((us ++ [y]).map (enc : Tr -> D)).getLast? = some (.tup [.int y.a, .int y.b, .int y.c]) := by rw [List.map_append]; simp; rfl
    rw [List.concat_eq_append] at *
    generalize us ++ [y] = acc at *
    have hlen : 0 < acc.length := by
      rcases acc with _ | ⟨a, as⟩
      · simp at hla
      · simp
    rcases gTS_two x with e | e
    · rw [e] at hr ⊢
      unfold l1_Counts___init__
      walk_at "evl"
      rw [hr]
      walk_at "evl"
      rw [hla]
      walk_at "evl"
      try rfl
    · rw [e] at hr ⊢
      unfold l1_Counts___init__
      walk_at "evl"
      rw [hr]
      walk_at "evl"
      rw [hla]
      walk_at "evl"
      try rfl
theorem ok_last {ts : List Tr} (ho : OkTs ts) {j : Nat} {x : Tr} (hx : ts[j]? = some x) : ∀ y, (ts.take j).getLast? = some y -> y.a < x.a := by
  intro y hy
  have hj := (List.getElem?_eq_some_iff.mp hx).1
  rcases j with _ | j
  · simp at hy
  · have h2 : (ts.take (j + 1)).getLast? = ts[j]? := by rw [List.take_add_one, List.getElem?_eq_getElem (by omega : j < ts.length), Option.toList, List.getLast?_concat]
    rw [h2] at hy
    have := List.pairwise_iff_getElem.mp ho.asc j (j + 1) (by omega) hj (by omega)
    rw [List.getElem?_eq_getElem hj] at hx
    rw [List.getElem?_eq_getElem (by omega)] at hy
    cases hx; cases hy
    exact this
theorem c_loop (k : Nat) {ps : List (Bool × Tr)} (ho : OkTs (ps.map (·.2))) (hn : ps.length <= 1000) (z : D) : ∃ o3 o4, forL (forK (xgT 2 (xgsCons (xgN W 3) (xgsCons (xgN W 4) (xgsNil W)))) (l1_Counts___init__ W (semT (tbl W) (k + 2))) [0]) (enumD (ps.map gTS)) [some (.oins "Counts" [] []), some z, some (.olst []), none, none] =
    .nx [some (.oins "Counts" [] []), some z, some (.olst ((ps.map (·.2)).map enc)), o3, o4] := by
  generalize hF : forL _ _ _ = r
  obtain ⟨e', rfl, o3, o4, rfl⟩ := forL_gen (fun j e => ∃ o3 o4, e = [some (.oins "Counts" [] []), some z, some (.olst (((ps.take j).map (·.2)).map enc)), o3, o4]) hF ⟨none, none, rfl⟩ (by
    rintro j d _ hd ⟨o3, o4, rfl⟩
    obtain ⟨y, hy, rfl⟩ := enumD_get hd
    rw [List.getElem?_map] at hy
    obtain ⟨x, hx, rfl⟩ := Option.map_eq_some_iff.mp hy
    have hx2 : (ps.map (·.2))[j]? = some x.2 := by rw [List.getElem?_map, hx]; rfl
    have ht : ps.take (j + 1) = ps.take j ++ [x] := by rw [List.take_add_one, hx]; rfl
    refine ⟨_, .inl (c_step k (ho.nn _ (List.mem_of_getElem? hx2)) (by rw [List.map_take]; exact ok_last ho hx2) (by rw [List.length_map, List.length_take]; omega)), some (.int (j : Int)), some (gTS x), by rw [ht]; simp only [List.map_append, List.map_cons, List.map_nil]⟩)
  have hlen : (enumD (ps.map gTS)).length = ps.length := by rw [enumD_length, List.length_map]
  rw [hlen, List.take_length]
  exact ⟨o3, o4, rfl⟩
theorem f_counts_initM (k : Nat) (ps : List (Bool × Tr)) (hn : ps.length <= 1000) (ho : OkTs (ps.map (·.2))) : semT (tbl W) (k + 3) "Counts.__init__" [.oins "Counts" [] [], .lst (ps.map gTS)] (some 0) = .ok .non (some (cD (ps.map (·.2)))) := by
  obtain ⟨o3, o4, h⟩ := c_loop (W := W) k ho hn (.lst (ps.map gTS))
  rw [sem_Counts___init__]
  unfold b_Counts___init__
  walk_at "evl"
  rw [h]
  walk_at "evl"
theorem map_ff (ts : List Tr) : (ts.map fun t => (false, t)).map gTS = ts.map enc := by rw [List.map_map]; rfl
theorem map_fs (ts : List Tr) : (ts.map fun t => (false, t)).map (·.2) = ts := by rw [List.map_map]; exact List.map_id _
theorem f_counts_init (k : Nat) (ts : List Tr) (hn : ts.length <= 1000) (ho : OkTs ts) : semT (tbl W) (k + 3) "Counts.__init__" [.oins "Counts" [] [], .lst (ts.map enc)] (some 0) = .ok .non (some (cD ts)) := by
  have h := f_counts_initM (W := W) k (ts.map fun t => (false, t)) (by rw [List.length_map]; exact hn) (by rw [map_fs]; exact ho)
  rw [map_ff, map_fs] at h
  exact h
theorem f_counts_initT (k : Nat) (ts : List Tr) (hn : ts.length <= 1000) (ho : OkTs ts) : semT (tbl W) (k + 3) "Counts.__init__" [.oins "Counts" [] [], .tup (ts.map enc)] (some 0) = .ok .non (some (cD ts)) := by
  obtain ⟨o3, o4, h⟩ := c_loop (W := W) k (ps := ts.map fun t => (false, t)) (by rw [map_fs]; exact ho) (by rw [List.length_map]; exact hn) (.tup (ts.map enc))
  rw [map_ff, map_fs] at h
  rw [sem_Counts___init__]
  unfold b_Counts___init__
  walk_at "evl"
  rw [h]
  walk_at "evl"
theorem u_counts_len (k : Nat) (ts : List Tr) : semT (tbl W) (k + 1) "Counts.__len__" [cS ts] none = .ok (.int ts.length) none := by
  rw [sem_Counts___len__]
  unfold b_Counts___len__
  walk_at "evl"
theorem f_is_counts (k : Nat) (ts : List Tr) (hn : ts.length <= 1000) : semT (tbl W) (k + 2) "_law_is_counts" [cS ts, .lst (ts.map enc)] none = .ok (.bl true) none := by
  have cl := u_counts_len (W := W) k ts
  have t1 := f_left_total (W := W) k ts hn
  have t2 := f_right_total (W := W) k ts hn
  rw [sem_law_is_counts]
  unfold b_law_is_counts
  walk_at "evl"
  rw [cl]
  walk_at "evl"
  (try rw [cl])
  (try walk_at "evl")
  generalize hF : forL _ _ _ = r
  obtain ⟨e', rfl, o3, o4, rfl⟩ := forL_gen (fun j e => ∃ o3 o4, e = [some (cS ts), some (.lst (ts.map enc)), some (.lst (ts.map enc)), o3, o4, none]) hF ⟨none, none, rfl⟩ (by
    rintro j d _ hd ⟨o3, o4, rfl⟩
    rw [List.getElem?_map] at hd
    obtain ⟨t, _, rfl⟩ := Option.map_eq_some_iff.mp hd
    have he : (enc t : D) = .tup [.int t.a, .int t.b, .int t.c] := rfl
    rw [he]
    unfold l1_law_is_counts
    refine ⟨_, .inl (by
      walk_at "evl"
      unfold l2_law_is_counts
      walk_at "evl"
      rfl), _, _, rfl⟩)
  walk_at "evl"
  rw [lcL_mapE (enc := enc) (enc2 := enc) (fun t : Tr => t.b) ts (fun t _ => by
    walk_at "evl"
    try rfl)]
  walk_at "evl"
  rw [sumI_enc]
  walk_at "evl"
  rw [lcL_mapE (enc := enc) (enc2 := enc) (fun t : Tr => t.c) ts (fun t _ => by
    walk_at "evl"
    try rfl)]
  walk_at "evl"
  rw [sumI_enc]
  walk_at "evl"
  rw [t1]
  walk_at "evl"
  rw [t2]
  walk_at "evl"
  rw [decide_eq_true (show sumB ts = (ts.map fun t => t.b).sum from rfl), decide_eq_true (show sumC ts = (ts.map fun t => t.c).sum from rfl)]
  rfl
end
local macro_rules | `(tactic| walk_at "ev") => `(tactic| simp? only [])
section
variable {W : Wd TT}
local macro_rules | `(tactic| walk_at "evl") => `(tactic| dsimp? only [e_xsForM, e_xMakeI, it_cS, it_t3, sF_t3, sFI_t3, ty_t3, len_t3, lenI_t3, fl_t3, xg_t3, it_pair, sF_pair, sFI_pair, so_pair, ty_pair, len_pair, lenI_pair, fl_pair, xg_pair, enc_int, isN_opt, sh_enc, fz_enc, shl_enc, fzl_enc, fl_enc, ok_enc, okl_enc, eq_enc, eql_enc, en_enc, ne_enc, nn_enc, decide_true])
theorem atI_mem {α : Type} {xs : List α} {i : Int} (h0 : 0 <= i) (h1 : i < xs.length) : ∃ x ∈ xs, atI xs i = some x := by
  have hi : i.toNat < xs.length := by omega
  refine ⟨xs[i.toNat], List.getElem_mem _, ?_⟩
  have e : atI xs i = xs[i.toNat]? := by
    have e : i = (i.toNat : Int) := by omega
    generalize i.toNat = n at e
    subst e
    exact atI_litN _
  rw [e, List.getElem?_eq_getElem hi]
theorem forL_exn {f : D -> Py.Env -> RS} {J : Exn -> Py.Env -> Prop} : ∀ {ds : List D} {env : Py.Env} {p : Nat} {d0 : D} (I : Nat -> Py.Env -> Prop), ds[p]? = some d0 -> I 0 env ->
    (∀ i d e, i < p -> ds[i]? = some d -> I i e -> ∃ e', (f d e = .nx e' \/ f d e = .ct e') /\ I (i + 1) e') -> (∀ e, I p e -> ∃ x e', f d0 e = .ex x e' /\ J x e') -> ∃ x e', forL f ds env = .ex x e' /\ J x e'
  | [], _, p, d0, _, h, _, _, _ => by simp at h
  | d :: ds, env, 0, d0, I, h, h0, _, hx => by
    have e : d = d0 := by simpa using h
    subst e
    obtain ⟨x, e', h1, h2⟩ := hx env h0
    exact ⟨x, e', by unfold forL; rw [h1], h2⟩
  | d :: ds, env, p + 1, d0, I, h, h0, hs, hx => by
    obtain ⟨e', h1, h2⟩ := hs 0 d env (by omega) rfl h0
    obtain ⟨x, e2, h3, h4⟩ := forL_exn (fun i e => I (i + 1) e) (ds := ds) (env := e') (p := p) (by simpa using h) h2 (fun i d e hi hd hI => hs (i + 1) d e (by omega) (by simpa using hd) hI) hx
    refine ⟨x, e2, ?_, h4⟩
    unfold forL
    rcases h1 with h1 | h1 <;> (rw [h1]; exact h3)
theorem enumD_at {gs : List Tr} {b : D} {rest : List D} : (enumD (gs.map enc ++ b :: rest))[gs.length]? = some (.tup [.int gs.length, b]) := by
  unfold enumD
  rw [List.getElem?_mapIdx, List.getElem?_append_right (by rw [List.length_map]; exact Nat.le_refl _), List.length_map, Nat.sub_self]
  rfl
theorem enumD_lt {gs : List Tr} {b : D} {rest : List D} {i : Nat} {d : D} (hi : i < gs.length) (h : (enumD (gs.map enc ++ b :: rest))[i]? = some d) : ∃ x, gs[i]? = some x /\ d = .tup [.int i, enc x] := by
  unfold enumD at h
  rw [List.getElem?_mapIdx, List.getElem?_append_left (by rw [List.length_map]; exact hi), List.getElem?_map, List.getElem?_eq_getElem hi] at h
  exact ⟨_, List.getElem?_eq_getElem hi, (Option.some.inj h).symm⟩
def bads (N : Int) : List D := [.non, .int 7, .str "abc", .tup [], .tup [.int N, .int 1], .tup [.int N, .int 1, .int 1, .int 1], .tup [.int N, .int 0, .int 0], .tup [.int N, .int (-1), .int 2], .tup [.bl true, .int 1, .int 1], .tup [.int N, .bl true, .int 1], .tup [.str "k", .int 1, .int 1], .tup [.non, .int 1, .int 1]]
theorem bads_sh {N : Int} {r : D} (h : r ∈ bads N) : isSh r = true := by
  simp only [bads, List.mem_cons, List.not_mem_nil, or_false] at h
  rcases h with rfl | rfl | rfl | rfl | rfl | rfl | rfl | rfl | rfl | rfl | rfl | rfl <;> rfl
theorem u_bl (k : Nat) (i : Bool) : semT (tbl W) (k + 1) "is_integer" [.bl i] none = .ok (.bl false) none := by
  rw [sem_is_integer]; unfold b_is_integer; walk_at "evl"
theorem u_non (k : Nat) : semT (tbl W) (k + 1) "is_integer" [.non] none = .ok (.bl false) none := by
  rw [sem_is_integer]; unfold b_is_integer; walk_at "evl"
theorem u_str (k : Nat) (i : String) : semT (tbl W) (k + 1) "is_integer" [.str i] none = .ok (.bl false) none := by
  rw [sem_is_integer]; unfold b_is_integer; walk_at "evl"
theorem x_is_triple (k : Nat) {N : Int} {b : D} (hb : b ∈ bads N) : semT (tbl W) (k + 2) "is_triple" [b] none = .ok (.bl false) none := by
  have u1 := fun i => u_is_integer (W := W) k i
  have u2 := fun i => u_bl (W := W) k i
  have u3 := u_non (W := W) k
  have u4 := fun i => u_str (W := W) k i
  rw [sem_is_triple]
  unfold b_is_triple
  simp only [bads, List.mem_cons, List.not_mem_nil, or_false] at hb
  rcases hb with rfl | rfl | rfl | rfl | rfl | rfl | rfl | rfl | rfl | rfl | rfl | rfl <;> (walk_at "evl"; try unfold l1_is_triple; try walk_at "evl"; repeat ((first | rw [u1] | rw [u2] | rw [u3] | rw [u4]); try walk_at "evl"))
abbrev bcx (n : Nat) : Exn := ⟨"BadCounts", [("number", .int n)]⟩
def Bad (gs : List Tr) (b : D) : Prop := (∃ N, b ∈ bads N) \/ ∃ t y : Tr, b = enc t /\ gs.getLast? = some y /\ t.a <= y.a /\ 0 <= t.b /\ 0 <= t.c /\ 0 < t.b + t.c
theorem x_step (k : Nat) {gs : List Tr} {b : D} (hb : Bad gs b) (hn : gs.length < 1000000) (j : Nat) (z : D) (o3 o4 : Option D) :
    forK (xgT 2 (xgsCons (xgN W 3) (xgsCons (xgN W 4) (xgsNil W)))) (l1_Counts___init__ W (semT (tbl W) (k + 2))) [0] (.tup [.int (j : Int), b]) [some (.oins "Counts" [] []), some z, some (.olst (gs.map enc)), o3, o4] =
      .ex (bcx j) [some (.oins "Counts" [] []), some z, some (.olst (gs.map enc)), some (.int (j : Int)), some b] := by
  rcases hb with ⟨N, hb⟩ | ⟨t, y, rfl, hy, ht, h1, h2, h3⟩
  · have hr := x_is_triple (W := W) k hb
    have hs := bads_sh hb
    unfold l1_Counts___init__
    walk_at "evl"
    rw [hr]
    walk_at "evl"
    try rfl
  · have hr := f_is_triple (W := W) k t h1 h2 h3
    have he : (enc t : D) = .tup [.int t.a, .int t.b, .int t.c] := rfl
    rw [he] at hr ⊢
    have hla : (gs.map (enc : Tr -> D)).getLast? = some (.tup [.int y.a, .int y.b, .int y.c]) := by rw [List.getLast?_map, hy]; rfl
    have hlen : 0 < gs.length := by
      rcases gs with _ | ⟨a, as⟩
      · simp at hy
      · simp
    unfold l1_Counts___init__
    walk_at "evl"
    rw [hr]
    walk_at "evl"
    rw [hla]
    walk_at "evl"
    try rfl
theorem x_loop (k : Nat) {gs : List Tr} (ho : OkTs gs) {b : D} (hb : Bad gs b) {rest : List D} (hn : gs.length <= 1000) (z : D) :
    ∃ o3 o4, forL (forK (xgT 2 (xgsCons (xgN W 3) (xgsCons (xgN W 4) (xgsNil W)))) (l1_Counts___init__ W (semT (tbl W) (k + 2))) [0]) (enumD (gs.map enc ++ b :: rest)) [some (.oins "Counts" [] []), some z, some (.olst []), none, none] =
      .ex (bcx gs.length) [some (.oins "Counts" [] []), some z, some (.olst (gs.map enc)), o3, o4] := by
  obtain ⟨x, e', h1, h2, o3, o4, h3⟩ := forL_exn (f := forK (xgT 2 (xgsCons (xgN W 3) (xgsCons (xgN W 4) (xgsNil W)))) (l1_Counts___init__ W (semT (tbl W) (k + 2))) [0]) (J := fun x e => x = bcx gs.length /\ ∃ o3 o4, e = [some (.oins "Counts" [] []), some z, some (.olst (gs.map enc)), o3, o4]) (fun j e => ∃ o3 o4, e = [some (.oins "Counts" [] []), some z, some (.olst ((gs.take j).map enc)), o3, o4]) (enumD_at (gs := gs) (b := b) (rest := rest)) ⟨none, none, rfl⟩ (by
    rintro j d e hj hd ⟨o3, o4, rfl⟩
    obtain ⟨x, hx, rfl⟩ := enumD_lt hj hd
    have ht : gs.take (j + 1) = gs.take j ++ [x] := by rw [List.take_add_one, hx]; rfl
    refine ⟨_, .inl (c_step k (x := (false, x)) (ho.nn _ (List.mem_of_getElem? hx)) (ok_last ho hx) (by rw [List.length_take]; omega)), some (.int (j : Int)), some (enc x), by rw [ht]; rfl⟩) (by
    rintro e ⟨o3, o4, rfl⟩
    rw [List.take_length]
    exact ⟨_, _, x_step k hb (by omega) gs.length z o3 o4, rfl, _, _, rfl⟩)
  subst h2 h3
  exact ⟨o3, o4, h1⟩
theorem x_counts (k : Nat) {gs : List Tr} (ho : OkTs gs) {b : D} (hb : Bad gs b) {rest : List D} (hn : gs.length <= 1000) :
    semT (tbl W) (k + 3) "Counts.__init__" [.oins "Counts" [] [], .lst (gs.map enc ++ b :: rest)] (some 0) = .exn (bcx gs.length) (some (.oins "Counts" [] [])) := by
  obtain ⟨o3, o4, h⟩ := x_loop (W := W) k ho hb (rest := rest) hn (.lst (gs.map enc ++ b :: rest))
  rw [sem_Counts___init__]
  unfold b_Counts___init__
  walk_at "evl"
  rw [h]
  walk_at "evl"
theorem x_countsT (k : Nat) {gs : List Tr} (ho : OkTs gs) {b : D} (hb : Bad gs b) {rest : List D} (hn : gs.length <= 1000) :
    semT (tbl W) (k + 3) "Counts.__init__" [.oins "Counts" [] [], .tup (gs.map enc ++ b :: rest)] (some 0) = .exn (bcx gs.length) (some (.oins "Counts" [] [])) := by
  obtain ⟨o3, o4, h⟩ := x_loop (W := W) k ho hb (rest := rest) hn (.tup (gs.map enc ++ b :: rest))
  rw [sem_Counts___init__]
  unfold b_Counts___init__
  walk_at "evl"
  rw [h]
  walk_at "evl"
theorem x_refused (k : Nat) {gs : List Tr} (ho : OkTs gs) {b : D} (hb : Bad gs b) {rest : List D} (hn : gs.length <= 1000) :
    semT (tbl W) (k + 4) "_law_refused" [.lst (gs.map enc ++ b :: rest)] none = .ok (.int gs.length) none := by
  have h := x_counts (W := W) k ho hb (rest := rest) hn
  rw [sem_law_refused]
  unfold b_law_refused
  walk_at "evl"
  rw [h]
  walk_at "evl"
theorem f_refused (k : Nat) {ts : List Tr} (ho : OkTs ts) (hn : ts.length <= 1000) :
    semT (tbl W) (k + 4) "_law_refused" [.lst (ts.map enc)] none = .ok (.int (-1)) none := by
  have h := f_counts_init (W := W) k ts hn ho
  rw [sem_law_refused]
  unfold b_law_refused
  walk_at "evl"
  rw [h]
  walk_at "evl"
theorem p17 : powD (.int 10) (.int 17) = some (.int (10 ^ 17)) := rfl
theorem f_law_triples (k : Nat) {ns : List Int} {i st : Int} {n : Nat} (h0 : 0 <= i) (hn : n <= 40) (hs : 1 <= st) (hs2 : st <= 10 ^ 15) : ∃ ts : List Tr, OkTs ts /\ ts.length = n /\ semT (tbl W) (k + 2) "_law_triples" [.scr ns, .int i, .int (n : Int), .int st] none = .ok (.olst (ts.map enc)) none := by
  rw [sem_law_triples]
  unfold b_law_triples
  walk_at "evl"
  try rw [Int.toNat_natCast]
  generalize hF : forL _ _ _ = rr
  obtain ⟨e', rfl, ts, hD, hl, key, hk, o6, o7, o8, o9, rfl⟩ := forL_range (fun j e => ∃ ts : List Tr, OkTs ts /\ ts.length = j /\ ∃ key : Int, (∀ t ∈ ts, t.a <= key) /\ ∃ o6 o7 o8 o9, e = [some (.scr ns), some (.int i), some (.int (n : Int)), some (.int st), some (.olst (ts.map enc)), some (.int key), o6, o7, o8, o9]) hF ⟨[], ⟨.nil, by simp⟩, rfl, _, by simp, none, none, none, none, rfl⟩ (by
    rintro j _ hj ⟨ts, hD, hl, key, hk, o6, o7, o8, o9, rfl⟩
    have h := f_law_draws (W := W) k (ns := ns) (i := i + (j : Int)) (n := 4) (by omega) (by omega) (by omega)
    have hlen := draws_length ns (i + (j : Int)) 4
    have ho := draws_ok ns (i + (j : Int)) 4
    match hd : draws ns (i + (j : Int)) 4, hlen with
    | [x, y, z, w], _ =>
    rw [hd] at h ho
    have hx := ho x (by simp)
    have hy := ho y (by simp)
    have hz := ho z (by simp)
    have hw := ho w (by simp)
    have hm : 0 < (1 + x % 4) * st := Int.mul_pos (by omega) (by omega)
    clear hd ho
    obtain ⟨l, hl0, hll⟩ : ∃ l : Int, 0 <= l /\ l = (if w % 5 = 1 then y * 10 ^ 17 else y % 7) := ⟨_, by split <;> omega, rfl⟩
    refine ⟨_, .inl (?_ : _ = RS.nx [some (.scr ns), some (.int i), some (.int (n : Int)), some (.int st), some (.olst ((ts ++ [(⟨key + (1 + x % 4) * st, l, if l + z % 7 = 0 then 1 else z % 7⟩ : Tr)]).map enc)), some (.int (key + (1 + x % 4) * st)), some (.int (j : Int)), some (.olst [.int x, .int y, .int z, .int w]), some (.int l), some (.int (if l + z % 7 = 0 then 1 else z % 7))]), ts ++ [(⟨key + (1 + x % 4) * st, l, if l + z % 7 = 0 then 1 else z % 7⟩ : Tr)], hD.snoc (fun s hs' => by have := hk s hs'; show s.a < key + (1 + x % 4) * st; omega) hl0 (by show (0 : Int) <= if l + z % 7 = 0 then 1 else z % 7; split <;> omega) (by show (0 : Int) < l + if l + z % 7 = 0 then 1 else z % 7; split <;> omega), by rw [List.length_append, hl]; rfl, _, fun t ht => ?_, _, _, _, _, rfl⟩
    · rw [List.map_append, List.map_singleton]
      unfold l1_law_triples
      walk_at "evl"
      rw [h]
      by_cases c1 : w % 5 = 1
      · rw [if_pos c1] at hll
        subst hll
        by_cases c2 : y * 10 ^ 17 + z % 7 = 0
        · simp only [if_pos c2]
          walk_at "evl"
          rw [p17]
          walk_at "evl"
          try rfl
        · simp only [if_neg c2]
          walk_at "evl"
          rw [p17]
          walk_at "evl"
          try rfl
      · rw [if_neg c1] at hll
        subst hll
        by_cases c2 : y % 7 + z % 7 = 0
        · simp only [if_pos c2]
          walk_at "evl"
          try rfl
        · simp only [if_neg c2]
          walk_at "evl"
          try rfl
    · rcases List.mem_append.mp ht with m | m
      · have := hk t m; omega
      · rw [List.mem_singleton.mp m]; exact Int.le_refl _)
  walk_at "evl"
  exact ⟨ts, hD, hl, rfl⟩
end
end Py
namespace Py
open PySem L2
local macro_rules | `(tactic| dsimp? only [$xs,*]) => `(tactic| dsimp only [$xs,*, xsForM, xMakeI, xsSeq, xsNext, xsAsg, xsExpr, xsRet, xsIf, xsFrz, xsFor, xmP, xmMove, xmBM, xmAppend, xmInsert, plVar, xoNil, xoCons, xVar, xC, xInt, xBl, xNon, xStr, xOp, xSub, xMul, xDiv, xMod, xPow, xNeg, xAdd, xEq, xNe, xLt, xCmp, xLe, xGt, xGe, xAnd, xNot, xtV, xtTru, xtAnd, xtOr, xtNot, xtYes, xaNil, xaCons, xTup, xLst, xCb, xInt1, xAbs, xIx, xFld, xList, xTuple, xIsi, xIsiT, xCall, xgN, xgsNil, xgsCons, xgT, xiSeq, xiR1, xLc, xMake, xProp, xLenU, xsFld, xSl, tO, xListU, xiSeqU, xiEnumU, xiEnumT, tCls, xSum, xsSet, xiSeq, xVar, List.map_cons, List.map_nil, xsRaise, xsTryAs, xhAsg, xqFld, xqIs, xqAnd, xqNot, xmMake])
def top (i : Nat) : Stmt := PySem.Challenge.pw_anyhashes_k44_counts_keep_triples.main.body.getD i (.Pass ⟨0, 0, 0, 0⟩)
def inClass (s : Stmt) (j : Nat) : Stmt := match s with
  | .ClassDef _ _ _ body _ _ _ _ _ _ _ => body.getD j (.Pass ⟨0, 0, 0, 0⟩)
  | s => s
abbrev s_is_integer : Stmt := top 6
abbrev N_is_integer : List Str := ["thing"]
abbrev A_is_integer : List Str := ["thing"]
theorem sc_is_integer : FnScope N_is_integer A_is_integer (defScope s_is_integer) := ⟨rfl, rfl, rfl, by decide +kernel, rfl, by decide +kernel, by decide +kernel⟩
theorem bp_is_integer : BindsP "is_integer" "is_integer" s_is_integer A_is_integer := fun _ _ _ _ _ _ us hl => match us, hl with | [_], _ => rfl
abbrev s_is_triple : Stmt := top 8
abbrev N_is_triple : List Str := ["thing", "part"]
abbrev A_is_triple : List Str := ["thing"]
theorem sc_is_triple : FnScope N_is_triple A_is_triple (defScope s_is_triple) := ⟨rfl, rfl, rfl, by decide +kernel, rfl, by decide +kernel, by decide +kernel⟩
theorem bp_is_triple : BindsP "is_triple" "is_triple" s_is_triple A_is_triple := fun _ _ _ _ _ _ us hl => match us, hl with | [_], _ => rfl
abbrev s_law_draws : Stmt := top 11
abbrev N_law_draws : List Str := ["_law_script", "_law_at", "_law_many", "_law_number", "_law_big", "_law_found", "_law_k", "_law_draw", "_law_mixed"]
abbrev A_law_draws : List Str := ["_law_script", "_law_at", "_law_many"]
theorem sc_law_draws : FnScope N_law_draws A_law_draws (defScope s_law_draws) := ⟨rfl, rfl, rfl, by decide +kernel, rfl, by decide +kernel, by decide +kernel⟩
theorem bp_law_draws : BindsP "_law_draws" "_law_draws" s_law_draws A_law_draws := fun _ _ _ _ _ _ us hl => match us, hl with | [_, _, _], _ => rfl
abbrev s_law_triples : Stmt := top 12
abbrev N_law_triples : List Str := ["_law_script", "_law_first", "_law_many", "_law_step", "_law_triples_here", "_law_key", "_law_k", "_law_draws_here", "_law_left", "_law_right"]
abbrev A_law_triples : List Str := ["_law_script", "_law_first", "_law_many", "_law_step"]
theorem sc_law_triples : FnScope N_law_triples A_law_triples (defScope s_law_triples) := ⟨rfl, rfl, rfl, by decide +kernel, rfl, by decide +kernel, by decide +kernel⟩
theorem bp_law_triples : BindsP "_law_triples" "_law_triples" s_law_triples A_law_triples := fun _ _ _ _ _ _ us hl => match us, hl with | [_, _, _, _], _ => rfl
abbrev s_law_is_counts : Stmt := top 13
abbrev N_law_is_counts : List Str := ["_law_counts", "_law_triples_here", "_law_told", "_law_triple", "_law_number", "_law_totals"]
abbrev A_law_is_counts : List Str := ["_law_counts", "_law_triples_here"]
theorem sc_law_is_counts : FnScope N_law_is_counts A_law_is_counts (defScope s_law_is_counts) := ⟨rfl, rfl, rfl, by decide +kernel, rfl, by decide +kernel, by decide +kernel⟩
theorem bp_law_is_counts : BindsP "_law_is_counts" "_law_is_counts" s_law_is_counts A_law_is_counts := fun _ _ _ _ _ _ us hl => match us, hl with | [_, _], _ => rfl
abbrev s_law_refused : Stmt := top 14
abbrev N_law_refused : List Str := ["_law_given", "_law_found", "e"]
abbrev A_law_refused : List Str := ["_law_given"]
theorem sc_law_refused : FnScope N_law_refused A_law_refused (defScope s_law_refused) := ⟨rfl, rfl, rfl, by decide +kernel, rfl, by decide +kernel, by decide +kernel⟩
theorem bp_law_refused : BindsP "_law_refused" "_law_refused" s_law_refused A_law_refused := fun _ _ _ _ _ _ us hl => match us, hl with | [_], _ => rfl
abbrev s_Counts___init__ : Stmt := inClass (top 9) 0
abbrev N_Counts___init__ : List Str := ["self", "rows", "found", "number", "row"]
abbrev A_Counts___init__ : List Str := ["self", "rows"]
theorem sc_Counts___init__ : FnScope N_Counts___init__ A_Counts___init__ (defScope s_Counts___init__) := ⟨rfl, rfl, rfl, by decide +kernel, rfl, by decide +kernel, by decide +kernel⟩
theorem bp_Counts___init__ : BindsP "__init__" "Counts.__init__" s_Counts___init__ A_Counts___init__ := fun _ _ _ _ _ _ us hl => match us, hl with | [_, _], _ => rfl
abbrev s_Counts___len__ : Stmt := inClass (top 9) 1
abbrev N_Counts___len__ : List Str := ["self"]
abbrev A_Counts___len__ : List Str := ["self"]
theorem sc_Counts___len__ : FnScope N_Counts___len__ A_Counts___len__ (defScope s_Counts___len__) := ⟨rfl, rfl, rfl, by decide +kernel, rfl, by decide +kernel, by decide +kernel⟩
theorem bp_Counts___len__ : BindsP "__len__" "Counts.__len__" s_Counts___len__ A_Counts___len__ := fun _ _ _ _ _ _ us hl => match us, hl with | [_], _ => rfl
abbrev s_Counts_left_total : Stmt := inClass (top 9) 6
abbrev N_Counts_left_total : List Str := ["self", "row"]
abbrev A_Counts_left_total : List Str := ["self"]
theorem sc_Counts_left_total : FnScope N_Counts_left_total A_Counts_left_total (defScope s_Counts_left_total) := ⟨rfl, rfl, rfl, by decide +kernel, rfl, by decide +kernel, by decide +kernel⟩
theorem bp_Counts_left_total : BindsP "left_total" "Counts.left_total" s_Counts_left_total A_Counts_left_total := fun _ _ _ _ _ _ us hl => match us, hl with | [_], _ => rfl
abbrev s_Counts_right_total : Stmt := inClass (top 9) 7
abbrev N_Counts_right_total : List Str := ["self", "row"]
abbrev A_Counts_right_total : List Str := ["self"]
theorem sc_Counts_right_total : FnScope N_Counts_right_total A_Counts_right_total (defScope s_Counts_right_total) := ⟨rfl, rfl, rfl, by decide +kernel, rfl, by decide +kernel, by decide +kernel⟩
theorem bp_Counts_right_total : BindsP "right_total" "Counts.right_total" s_Counts_right_total A_Counts_right_total := fun _ _ _ _ _ _ us hl => match us, hl with | [_], _ => rfl
abbrev s_Counts___iter__ : Stmt := inClass (top 9) 2
abbrev N_Counts___iter__ : List Str := ["self"]
abbrev A_Counts___iter__ : List Str := ["self"]
theorem sc_Counts___iter__ : FnScope N_Counts___iter__ A_Counts___iter__ (defScope s_Counts___iter__) := ⟨rfl, rfl, rfl, by decide +kernel, rfl, by decide +kernel, by decide +kernel⟩
theorem bp_Counts___iter__ : BindsP "__iter__" "Counts.__iter__" s_Counts___iter__ A_Counts___iter__ := fun _ _ _ _ _ _ us hl => match us, hl with | [_], _ => rfl
abbrev s_law : Stmt := top 15
abbrev N_law : List Str := ["_law_script", "_law_shape", "_law_triples_here", "_law_given", "_law_k", "_law_counts", "_law_row", "_law_told", "_law_wrongs", "_law_place", "_law_bad", "_law_base", "e", "_law_at", "_law_turned"]
abbrev A_law : List Str := ["_law_script"]
theorem sc_law : FnScope N_law A_law (defScope s_law) := ⟨rfl, rfl, rfl, by decide +kernel, rfl, by decide +kernel, by decide +kernel⟩
theorem bp_law : BindsP "law" "law" s_law A_law := fun _ _ _ _ _ _ us hl => match us, hl with | [_], _ => rfl
section
variable {W : Wd TT} {mg : Str -> Option Value} {base : Heap}
structure Cs (W : Wd TT) (mg : Str -> Option Value) : Prop where
  hasL : ∀ c, W.has c -> c ∈ clsL
  dun : Dun W
  has_Counts : W.has "Counts"
  g_Counts : mg "Counts" = some (.ref (W.cA "Counts"))
  a_Counts___init__ : MethAt W.K (W.cA "Counts") "__init__" "__init__" "Counts.__init__" s_Counts___init__ [] []
  a_Counts___len__ : MethAt W.K (W.cA "Counts") "__len__" "__len__" "Counts.__len__" s_Counts___len__ [] []
  a_Counts___iter__ : MethAt W.K (W.cA "Counts") "__iter__" "__iter__" "Counts.__iter__" s_Counts___iter__ [] []
  p_Counts_left_total : ∃ p g fd, PropOf W.K (W.cA "Counts") "left_total" p g /\ FunD W.K "left_total" "Counts.left_total" (defArgs s_Counts_left_total) (defBody s_Counts_left_total) (defScope s_Counts_left_total) [] [] g fd
  p_Counts_right_total : ∃ p g fd, PropOf W.K (W.cA "Counts") "right_total" p g /\ FunD W.K "right_total" "Counts.right_total" (defArgs s_Counts_right_total) (defBody s_Counts_right_total) (defScope s_Counts_right_total) [] [] g fd
  k_Counts : ∃ f, Mk W.K (W.cA "Counts") f
  noVE : mg "ValueError" = none
  hx_JoinError : W.hasX "JoinError"
  gx_JoinError : mg "JoinError" = some (.ref (W.cA "JoinError"))
  hx_BadRow : W.hasX "BadRow"
  gx_BadRow : mg "BadRow" = some (.ref (W.cA "BadRow"))
  x_BadRow : ExcD W.P W.K mg "BadRow" (W.cA "BadRow") (["number"].map so)
  hx_BadCounts : W.hasX "BadCounts"
  gx_BadCounts : mg "BadCounts" = some (.ref (W.cA "BadCounts"))
  x_BadCounts : ExcD W.P W.K mg "BadCounts" (W.cA "BadCounts") (["number"].map so)
structure Ds (W : Wd TT) (mg : Str -> Option Value) (base : Heap) (φ : Sem) (k : Nat) : Prop where
  its : Its W.P W.w W.K mg base W
  d_is_integer : ∀ b, (∀ i, b = some i -> i < 1) -> Df W.P W.w W.K mg base (L2.CX W.P W.w) k "is_integer" A_is_integer (spR W 1 (φ "is_integer") b)
  d_is_triple : ∀ b, (∀ i, b = some i -> i < 1) -> Df W.P W.w W.K mg base (L2.CX W.P W.w) k "is_triple" A_is_triple (spR W 1 (φ "is_triple") b)
  d_law_draws : ∀ b, (∀ i, b = some i -> i < 3) -> Df W.P W.w W.K mg base (L2.CX W.P W.w) k "_law_draws" A_law_draws (spR W 3 (φ "_law_draws") b)
  d_law_triples : ∀ b, (∀ i, b = some i -> i < 4) -> Df W.P W.w W.K mg base (L2.CX W.P W.w) k "_law_triples" A_law_triples (spR W 4 (φ "_law_triples") b)
  d_law_is_counts : ∀ b, (∀ i, b = some i -> i < 2) -> Df W.P W.w W.K mg base (L2.CX W.P W.w) k "_law_is_counts" A_law_is_counts (spR W 2 (φ "_law_is_counts") b)
  d_law_refused : ∀ b, (∀ i, b = some i -> i < 1) -> Df W.P W.w W.K mg base (L2.CX W.P W.w) k "_law_refused" A_law_refused (spR W 1 (φ "_law_refused") b)
  m___len__ : ∀ b, (∀ i, b = some i -> i < 1) -> Mt W.P W.w W.K mg base W k "__len__" 1 φ b
  p_left_total : Pp W.P W.w W.K mg base W k "left_total" φ
  p_right_total : Pp W.P W.w W.K mg base W k "right_total" φ
  mk_Counts : MkAt W.P W.w W.K mg base k "Counts" (W.cA "Counts") 2 (spR W 2 (φ "Counts.__init__") (some 0))
theorem it_all (C : Cs W mg) (B : Blt mg) : Its W.P W.w W.K mg base W := by
  refine ⟨fun c f hc hf => ?_⟩
  have hm := C.hasL c hc
  simp only [clsL, List.mem_cons, List.not_mem_nil, or_false] at hm
  rcases hm with rfl
  · rw [ik_Counts] at hf; cases hf
    exact it_of C.a_Counts___iter__.ex sc_Counts___iter__ bp_Counts___iter__ rfl (by decide) (W.cl _ hc) (W.na _ _ hc fk_Counts__rows) fun g cdv A out s H => pss_one (ps_ret (pe_callB ItX.call_iterN (by rfl) B.iter (by decide +kernel) (pa_cons (pe_fld (pv 0) rfl) pa_nil)))
theorem ok_is_integer {φ : Sem} {k : Nat} (D : Ds W mg base φ k) (C : Cs W mg) (D' : DefAt W.K mg "is_integer" "is_integer" s_is_integer [] []) (B : Blt mg) : ∀ b, (∀ i, b = some i -> i < 1) -> Df W.P W.w W.K mg base (L2.CX W.P W.w) (k + 4) "is_integer" A_is_integer (spR W 1 (runFn 1 (b_is_integer W φ)) b) := by
  intro b hb
  refine df_of D' sc_is_integer bp_is_integer spR_len fun f cdv A outer s H vs Q E hr hsp => ⟨(b_is_integer W φ).t (fun c d _ H => E c d H), ?_, fn_run (N := N_is_integer) hb hsp⟩
  dsimp? only [b_is_integer]
  exact (pss_one (ps_ret (pe_and (px_isi (n := "int") B.isinstance B.int (pv 0)) (pe_one (pe_not (px_isi (n := "bool") B.isinstance B.bool (pv 0)))))))
theorem ok_is_triple {φ : Sem} {k : Nat} (D : Ds W mg base φ k) (C : Cs W mg) (D' : DefAt W.K mg "is_triple" "is_triple" s_is_triple [] []) (B : Blt mg) : ∀ b, (∀ i, b = some i -> i < 1) -> Df W.P W.w W.K mg base (L2.CX W.P W.w) (k + 4) "is_triple" A_is_triple (spR W 1 (runFn 2 (b_is_triple W φ)) b) := by
  intro b hb
  refine df_of D' sc_is_triple bp_is_triple spR_len fun f cdv A outer s H vs Q E hr hsp => ⟨(b_is_triple W φ).t (fun c d _ H => E c d H), ?_, fn_run (N := N_is_triple) hb hsp⟩
  dsimp? only [b_is_triple, l1_is_triple]
  exact (pss_cons (ps_if (PW.pt (pw_or (pt_not (pt_truU (px_isiT (cs := [(false, "list"), (false, "tuple")]) B.isinstance (by decide) (by decide) (pv 0) (pa_cons (px_ty (n := "list") B.list) (pa_cons (px_ty (n := "tuple") B.tuple) pa_nil))))) (pw_or1 (pt_cmpR (opNe hr.units) (pe_callB (CallR.or call_lenA (call_lenI (D.m___len__ none (by nofun)) (ro1 hr) rfl)) (by rfl) B.len (by decide +kernel) (pa_cons (pv 0) pa_nil)) pe_int (nomark _))))) (pss_one (ps_ret pe_bl)) pss_nil)
      (pss_cons (ps_for cx_po rfl (pi_or (pi_seqU (pv 0)) (pi_own D.its (hr.mono (by omega)) rfl (pv 0))) (pg_name (i := 1) sc_is_triple.nd rfl (Or.inl rfl)) (pss_one (ps_if (pt_not (pt_truU (px_call (D.d_is_integer none (by nofun)) (ro0 hr) rfl (pa_cons (pv 1) pa_nil)))) (pss_one (ps_ret pe_bl)) pss_nil)))
      (pss_one (ps_ret (pe_and (pe_cmpR op_ge (pe_ix ixU (pv 0) pe_int (fun _ _ => rfl)) pe_int (nomark _)) (pe_and (pe_cmpR op_ge (pe_ix ixU (pv 0) pe_int (fun _ _ => rfl)) pe_int (nomark _)) (pe_one (pe_cmpR op_gt (pe_op opAdd (pe_ix ixU (pv 0) pe_int (fun _ _ => rfl)) (pe_ix ixU (pv 0) pe_int (fun _ _ => rfl))) pe_int (nomark _)))))))))
theorem ok_law_draws {φ : Sem} {k : Nat} (D : Ds W mg base φ k) (C : Cs W mg) (D' : DefAt W.K mg "_law_draws" "_law_draws" s_law_draws [] []) (B : Blt mg) : ∀ b, (∀ i, b = some i -> i < 3) -> Df W.P W.w W.K mg base (L2.CX W.P W.w) (k + 4) "_law_draws" A_law_draws (spR W 3 (runFn 9 (b_law_draws W φ)) b) := by
  intro b hb
  refine df_of D' sc_law_draws bp_law_draws spR_len fun f cdv A outer s H vs Q E hr hsp => ⟨(b_law_draws W φ).t (fun c d _ H => E c d H), ?_, fn_run (N := N_law_draws) hb hsp⟩
  dsimp? only [b_law_draws, l1_law_draws]
  exact (pss_cons (ps_set (i := 3) sc_law_draws.nd rfl (Or.inl rfl) pe_int)
      (pss_cons (ps_if (pt_cmpR (opLt hr.units0) (pv 1) (pe_callB (CallR.or call_lenA (call_lenI (D.m___len__ none (by nofun)) (ro1 hr) rfl)) (by rfl) B.len (by decide +kernel) (pa_cons (pv 0) pa_nil)) (nomark _)) (pss_one (ps_set (i := 3) sc_law_draws.nd rfl (Or.inl rfl) (pe_callB call_absU (by rfl) B.abs (by decide +kernel) (pa_cons (pe_ix ixU (pv 0) (pv 1) (fun _ _ => rfl)) pa_nil)))) pss_nil)
      (pss_cons (ps_set (i := 4) sc_law_draws.nd rfl (Or.inl rfl) (pe_cmpR op_ge (pv 3) (pe_op op_pow pe_int pe_int) (nomark _)))
      (pss_cons (ps_set (i := 5) sc_law_draws.nd rfl (Or.inl rfl) (pe_lst pa_nil))
      (pss_cons (ps_for cx_po rfl (pi_range1 rfl B.range (pa_cons (pv 2) pa_nil)) (pg_name (i := 6) sc_law_draws.nd rfl (Or.inl rfl)) (pss_cons (ps_set (i := 7) sc_law_draws.nd rfl (Or.inl rfl) pe_int)
      (pss_cons (ps_if (pt_truU (pv 4)) (pss_cons (ps_set (i := 7) sc_law_draws.nd rfl (Or.inl rfl) (pe_op op_mod (pe_callTy call_intU (by rfl) B.int (by decide +kernel) (pa_cons (pv 3) pa_nil)) pe_int))
      (pss_one (ps_set (i := 3) sc_law_draws.nd rfl (Or.inl rfl) (pe_op opDiv (pv 3) pe_int)))) (pss_one (ps_if (pt_cmpR op_gt (pv 3) pe_int (nomark _)) (pss_cons (ps_set (i := 8) sc_law_draws.nd rfl (Or.inl rfl) (pe_op op_mod (pe_callTy call_intU (by rfl) B.int (by decide +kernel) (pa_cons (pe_op opAdd (pe_op opMul (pv 3) (pe_op opAdd pe_int (pe_op opMul pe_int (pv 6)))) (pe_op opMul pe_int (pv 6))) pa_nil)) pe_int))
      (pss_cons (ps_set (i := 8) sc_law_draws.nd rfl (Or.inl rfl) (pe_op op_mod (pe_callTy call_intU (by rfl) B.int (by decide +kernel) (pa_cons (pe_op opAdd (pe_op opAdd (pe_op opMul (pv 8) (pv 8)) (pe_op opMul pe_int (pv 6))) pe_int) pa_nil)) pe_int))
      (pss_one (ps_set (i := 7) sc_law_draws.nd rfl (Or.inl rfl) (pe_op op_mod (pe_callTy call_intU (by rfl) B.int (by decide +kernel) (pa_cons (pv 8) pa_nil)) pe_int))))) pss_nil)))
      (pss_one (ps_expr (pe_bm PySem.F.plainAttrs_list PySem.F.slot_list_append PySem.F.type_list_append mt_append (pv 5) (pa_cons (pv 7) pa_nil)))))))
      (pss_one (ps_ret (pv 5))))))))
theorem ok_law_triples {φ : Sem} {k : Nat} (D : Ds W mg base φ k) (C : Cs W mg) (D' : DefAt W.K mg "_law_triples" "_law_triples" s_law_triples [] []) (B : Blt mg) : ∀ b, (∀ i, b = some i -> i < 4) -> Df W.P W.w W.K mg base (L2.CX W.P W.w) (k + 4) "_law_triples" A_law_triples (spR W 4 (runFn 10 (b_law_triples W φ)) b) := by
  intro b hb
  refine df_of D' sc_law_triples bp_law_triples spR_len fun f cdv A outer s H vs Q E hr hsp => ⟨(b_law_triples W φ).t (fun c d _ H => E c d H), ?_, fn_run (N := N_law_triples) hb hsp⟩
  dsimp? only [b_law_triples, l1_law_triples]
  exact (pss_cons (ps_set (i := 4) sc_law_triples.nd rfl (Or.inl rfl) (pe_lst pa_nil))
      (pss_cons (ps_set (i := 5) sc_law_triples.nd rfl (Or.inl rfl) (pe_op opMul (pe_un un_neg pe_int) (pv 3)))
      (pss_cons (ps_for cx_po rfl (pi_range1 rfl B.range (pa_cons (pv 2) pa_nil)) (pg_name (i := 6) sc_law_triples.nd rfl (Or.inl rfl)) (pss_cons (ps_set (i := 7) sc_law_triples.nd rfl (Or.inl rfl) (px_call (D.d_law_draws none (by nofun)) (ro0 hr) rfl (pa_cons (pv 0) (pa_cons (pe_op opAdd (pv 1) (pv 6)) (pa_cons pe_int pa_nil)))))
      (pss_cons (ps_set (i := 8) sc_law_triples.nd rfl (Or.inl rfl) (pe_op op_mod (pe_callTy call_intU (by rfl) B.int (by decide +kernel) (pa_cons (pe_ix ixU (pv 7) pe_int (fun _ _ => rfl)) pa_nil)) pe_int))
      (pss_cons (ps_set (i := 9) sc_law_triples.nd rfl (Or.inl rfl) (pe_op op_mod (pe_callTy call_intU (by rfl) B.int (by decide +kernel) (pa_cons (pe_ix ixU (pv 7) pe_int (fun _ _ => rfl)) pa_nil)) pe_int))
      (pss_cons (ps_if (pt_cmpR (opEq hr.units) (pe_op op_mod (pe_callTy call_intU (by rfl) B.int (by decide +kernel) (pa_cons (pe_ix ixU (pv 7) pe_int (fun _ _ => rfl)) pa_nil)) pe_int) pe_int (nomark _)) (pss_one (ps_set (i := 8) sc_law_triples.nd rfl (Or.inl rfl) (pe_op opMul (pe_ix ixU (pv 7) pe_int (fun _ _ => rfl)) (pe_op op_pow pe_int pe_int)))) pss_nil)
      (pss_cons (ps_if (pt_cmpR (opEq hr.units) (pe_op opAdd (pv 8) (pv 9)) pe_int (nomark _)) (pss_one (ps_set (i := 9) sc_law_triples.nd rfl (Or.inl rfl) pe_int)) pss_nil)
      (pss_cons (ps_set (i := 5) sc_law_triples.nd rfl (Or.inl rfl) (pe_op opAdd (pv 5) (pe_op opMul (pe_op opAdd pe_int (pe_op op_mod (pe_callTy call_intU (by rfl) B.int (by decide +kernel) (pa_cons (pe_ix ixU (pv 7) pe_int (fun _ _ => rfl)) pa_nil)) pe_int)) (pv 3))))
      (pss_one (ps_expr (pe_bm PySem.F.plainAttrs_list PySem.F.slot_list_append PySem.F.type_list_append mt_append (pv 4) (pa_cons (pe_tup (pa_cons (pv 5) (pa_cons (pv 8) (pa_cons (pv 9) pa_nil)))) pa_nil)))))))))))
      (pss_one (ps_ret (pv 4))))))
theorem ok_law_is_counts {φ : Sem} {k : Nat} (D : Ds W mg base φ k) (C : Cs W mg) (D' : DefAt W.K mg "_law_is_counts" "_law_is_counts" s_law_is_counts [] []) (B : Blt mg) : ∀ b, (∀ i, b = some i -> i < 2) -> Df W.P W.w W.K mg base (L2.CX W.P W.w) (k + 4) "_law_is_counts" A_law_is_counts (spR W 2 (runFn 6 (b_law_is_counts W φ)) b) := by
  intro b hb
  refine df_of D' sc_law_is_counts bp_law_is_counts spR_len fun f cdv A outer s H vs Q E hr hsp => ⟨(b_law_is_counts W φ).t (fun c d _ H => E c d H), ?_, fn_run (N := N_law_is_counts) hb hsp⟩
  dsimp? only [b_law_is_counts, l1_law_is_counts, l2_law_is_counts]
  exact (pss_cons (ps_if (PW.pt (pw_or (pt_not (pt_truU (px_isiO B.isinstance C.has_Counts C.g_Counts (pv 0)))) (pw_or1 (pt_cmpR (opNe hr.units) (pe_callB (CallR.or call_lenA (call_lenI (D.m___len__ none (by nofun)) (ro1 hr) rfl)) (by rfl) B.len (by decide +kernel) (pa_cons (pv 0) pa_nil)) (pe_callB (CallR.or call_lenA (call_lenI (D.m___len__ none (by nofun)) (ro1 hr) rfl)) (by rfl) B.len (by decide +kernel) (pa_cons (pv 1) pa_nil)) (nomark _))))) (pss_one (ps_ret pe_bl)) pss_nil)
      (pss_cons (ps_set (i := 2) sc_law_is_counts.nd rfl (Or.inl rfl) (pe_callTy (CallR.or call_listU (call_listI (D.m___len__ none (by nofun)) D.its hr rfl)) (by rfl) B.list (by decide +kernel) (pa_cons (pv 0) pa_nil)))
      (pss_cons (ps_for cx_po rfl (pi_or (pi_seqU (pv 2)) (pi_own D.its (hr.mono (by omega)) rfl (pv 2))) (pg_name (i := 3) sc_law_is_counts.nd rfl (Or.inl rfl)) (pss_cons (ps_if (pt_not (pt_truU (px_isi (n := "tuple") B.isinstance B.tuple (pv 3)))) (pss_one (ps_ret pe_bl)) pss_nil)
      (pss_one (ps_for cx_po rfl (pi_or (pi_seqU (pv 3)) (pi_own D.its (hr.mono (by omega)) rfl (pv 3))) (pg_name (i := 4) sc_law_is_counts.nd rfl (Or.inl rfl)) (pss_one (ps_if (PW.pt (pw_or (pt_not (pt_truU (px_isi (n := "int") B.isinstance B.int (pv 4)))) (pw_or1 (pt_truU (px_isi (n := "bool") B.isinstance B.bool (pv 4)))))) (pss_one (ps_ret pe_bl)) pss_nil))))))
      (pss_cons (ps_set (i := 5) sc_law_is_counts.nd rfl (Or.inl rfl) (pe_lst (pa_cons (pe_callB (cr_sum2 rfl) (by rfl) B.sum (by decide +kernel) (pa_cons (pe_lc (own := [("_law_triple", 3)]) rfl sc_law_is_counts.nd (pi_or (pi_seqU (pv 1)) (pi_own D.its (hr.mono (by omega)) rfl (pv 1))) (blkOk_by (own := [("_law_triple", 3)]) (N := N_law_is_counts) (sc := defScope s_law_is_counts) (by decide +kernel)) (fun _ _ _ _ _ => (pg_name (i := 3) sc_law_is_counts.nd rfl (Or.inl rfl))) (fun _ _ _ _ _ => pts_nil) (fun _ _ _ _ _ => (pe_ix ixU (pv 3) pe_int (fun _ _ => rfl)))) pa_nil)) (pa_cons (pe_callB (cr_sum2 rfl) (by rfl) B.sum (by decide +kernel) (pa_cons (pe_lc (own := [("_law_triple", 3)]) rfl sc_law_is_counts.nd (pi_or (pi_seqU (pv 1)) (pi_own D.its (hr.mono (by omega)) rfl (pv 1))) (blkOk_by (own := [("_law_triple", 3)]) (N := N_law_is_counts) (sc := defScope s_law_is_counts) (by decide +kernel)) (fun _ _ _ _ _ => (pg_name (i := 3) sc_law_is_counts.nd rfl (Or.inl rfl))) (fun _ _ _ _ _ => pts_nil) (fun _ _ _ _ _ => (pe_ix ixU (pv 3) pe_int (fun _ _ => rfl)))) pa_nil)) pa_nil))))
      (pss_one (ps_ret (pe_and (pe_cmpR (opEq hr.units) (pv 2) (pv 1) (nomark _)) (pe_one (pe_cmpR (opEq hr.units) (pe_lst (pa_cons (px_prop D.p_left_total (ro1 hr) rfl (pv 0) rfl) (pa_cons (px_prop D.p_right_total (ro1 hr) rfl (pv 0) rfl) pa_nil))) (pv 5) (nomark _))))))))))
theorem ok_law_refused {φ : Sem} {k : Nat} (D : Ds W mg base φ k) (C : Cs W mg) (D' : DefAt W.K mg "_law_refused" "_law_refused" s_law_refused [] []) (B : Blt mg) : ∀ b, (∀ i, b = some i -> i < 1) -> Df W.P W.w W.K mg base (L2.CX W.P W.w) (k + 4) "_law_refused" A_law_refused (spR W 1 (runFn 3 (b_law_refused W φ)) b) := by
  intro b hb
  refine df_of D' sc_law_refused bp_law_refused spR_len fun f cdv A outer s H vs Q E hr hsp => ⟨(b_law_refused W φ).t (fun c d _ H => E c d H), ?_, fn_run (N := N_law_refused) hb hsp⟩
  dsimp? only [b_law_refused]
  exact (pss_cons (ps_set (i := 1) sc_law_refused.nd rfl (Or.inl rfl) (pe_un un_neg pe_int))
      (pss_cons (ps_imp C.hx_BadCounts (ps_try_as (i := 2) (tb := fun W1 => ((xsFrz [0] (xsExpr (xmMake φ "Counts" "Counts.__init__" 2 (xaCons (xVar W 0) (xaNil W)))))).t W1) (ts := ((xhAsg 1 (xqFld W 2 "BadCounts" "number")) : XH W 2).t) rfl rfl sc_law_refused.nd rfl rfl ⟨rfl, by decide, .inl C.gx_BadCounts⟩ cx_tk (fun W1 pn xe tk po => (pss_one (ps_expr (px_makeX D.mk_Counts C.has_Counts tk (ro1 hr) (by rfl) (pa_cons (pv 0) pa_nil))))) (fun a0 oe0 cls0 d0 pn0 hz hf => (pss_one (ps_set (i := 1) sc_law_refused.nd rfl (Or.inl rfl) (px_xf C.x_BadCounts C.hx_BadCounts rfl (by simp) hz hf (pv 2)))))))
      (pss_one (ps_ret (pv 1)))))
theorem ok_Counts___init__ {φ : Sem} {k : Nat} (D : Ds W mg base φ k) (C : Cs W mg) {C0 : Addr} (D' : MethAt W.K C0 "__init__" "__init__" "Counts.__init__" s_Counts___init__ [] []) (B : Blt mg) : ∀ b, (∀ i, b = some i -> i < 2) -> MdOk W.P W.w W.K mg base (k + 4) C0 "__init__" 2 (spR W 2 (runFn 5 (b_Counts___init__ W φ)) b) := by
  intro b hb
  refine md_of D' sc_Counts___init__ bp_Counts___init__ rfl spR_len fun f cdv A outer s H vs Q E hr hsp => ⟨(b_Counts___init__ W φ).t (fun c d _ H => E c d H), ?_, fn_run (N := N_Counts___init__) hb hsp⟩
  dsimp? only [b_Counts___init__, l1_Counts___init__]
  exact (pss_cons (ps_set (i := 2) sc_Counts___init__.nd rfl (Or.inl rfl) (pe_lst pa_nil))
      (pss_cons (ps_for cx_po rfl (pi_or (pi_or (pi_enum (by rfl) B.enumerate (pa_cons (pv 1) pa_nil)) (pi_enumOwn D.its (hr.mono (by omega)) rfl (by rfl) B.enumerate (pa_cons (pv 1) pa_nil))) (pi_enumT (by rfl) B.enumerate (pa_cons (pv 1) pa_nil))) (pg_tup rfl (pgs_cons (pg_name (i := 3) sc_Counts___init__.nd rfl (Or.inl rfl)) (pgs_cons (pg_name (i := 4) sc_Counts___init__.nd rfl (Or.inl rfl)) pgs_nil))) (pss_cons (ps_if (pt_not (pt_truU (px_call (D.d_is_triple none (by nofun)) (ro0 hr) rfl (pa_cons (pv 4) pa_nil)))) (pss_one (px_raise C.x_BadCounts C.hx_BadCounts cx_tk rfl hr (pa_cons (pv 3) pa_nil) rfl)) pss_nil)
      (pss_cons (ps_if (PW.pt (pw_and (pt_cmpR op_gt (pe_callB (CallR.or call_lenA (call_lenI (D.m___len__ none (by nofun)) (ro1 hr) rfl)) (by rfl) B.len (by decide +kernel) (pa_cons (pv 2) pa_nil)) pe_int (nomark _)) (pw_and1 (pt_cmpR op_le (pe_ix ixU (pv 4) pe_int (fun _ _ => rfl)) (pe_ix ixU (pe_ix ixU (pv 2) (pe_un un_neg pe_int) (fun _ _ => rfl)) pe_int (fun _ _ => rfl)) (nomark _))))) (pss_one (px_raise C.x_BadCounts C.hx_BadCounts cx_tk rfl hr (pa_cons (pv 3) pa_nil) rfl)) pss_nil)
      (pss_one (ps_expr (pe_bm PySem.F.plainAttrs_list PySem.F.slot_list_append PySem.F.type_list_append mt_append (pv 2) (pa_cons (pe_tup (pa_cons (pe_ix ixU (pv 4) pe_int (fun _ _ => rfl)) (pa_cons (pe_ix ixU (pv 4) pe_int (fun _ _ => rfl)) (pa_cons (pe_ix ixU (pv 4) pe_int (fun _ _ => rfl)) pa_nil)))) pa_nil)))))))
      (pss_one (ps_fld (pv 0) (pv 2) rfl))))
theorem ok_Counts___len__ {φ : Sem} {k : Nat} (D : Ds W mg base φ k) (C : Cs W mg) {C0 : Addr} (D' : MethAt W.K C0 "__len__" "__len__" "Counts.__len__" s_Counts___len__ [] []) (B : Blt mg) : ∀ b, (∀ i, b = some i -> i < 1) -> MdOk W.P W.w W.K mg base (k + 4) C0 "__len__" 1 (spR W 1 (runFn 1 (b_Counts___len__ W φ)) b) := by
  intro b hb
  refine md_of D' sc_Counts___len__ bp_Counts___len__ rfl spR_len fun f cdv A outer s H vs Q E hr hsp => ⟨(b_Counts___len__ W φ).t (fun c d _ H => E c d H), ?_, fn_run (N := N_Counts___len__) hb hsp⟩
  dsimp? only [b_Counts___len__]
  exact (pss_one (ps_ret (pe_callB (CallR.or call_lenA (call_lenI (D.m___len__ none (by nofun)) (ro1 hr) rfl)) (by rfl) B.len (by decide +kernel) (pa_cons (pe_fld (pv 0) rfl) pa_nil))))
theorem ok_Counts_left_total {φ : Sem} {k : Nat} (D : Ds W mg base φ k) (C : Cs W mg) {g0 : Addr} {fd0 : FuncData} (F0 : FunD W.K "left_total" "Counts.left_total" (defArgs s_Counts_left_total) (defBody s_Counts_left_total) (defScope s_Counts_left_total) [] [] g0 fd0) (B : Blt mg) : FnOk W.P W.w W.K mg base (L2.CX W.P W.w) (k + 4) g0 fd0 A_Counts_left_total (spR W 1 (runFn 2 (b_Counts_left_total W φ)) none) := by
  refine pw_of F0 sc_Counts_left_total spR_len fun f cdv A outer s H vs Q E hr hsp => ⟨(b_Counts_left_total W φ).t (fun c d _ H => E c d H), ?_, fn_run (N := N_Counts_left_total) (by intro i h; cases h) hsp⟩
  dsimp? only [b_Counts_left_total]
  exact (pss_one (ps_ret (pe_callB (cr_sum2 rfl) (by rfl) B.sum (by decide +kernel) (pa_cons (pe_lc (own := [("row", 1)]) rfl sc_Counts_left_total.nd (pi_or (pi_seqU (pe_fld (pv 0) rfl)) (pi_own D.its (hr.mono (by omega)) rfl (pe_fld (pv 0) rfl))) (blkOk_by (own := [("row", 1)]) (N := N_Counts_left_total) (sc := defScope s_Counts_left_total) (by decide +kernel)) (fun _ _ _ _ _ => (pg_name (i := 1) sc_Counts_left_total.nd rfl (Or.inl rfl))) (fun _ _ _ _ _ => pts_nil) (fun _ _ _ _ _ => (pe_ix ixU (pv 1) pe_int (fun _ _ => rfl)))) pa_nil))))
theorem ok_Counts_right_total {φ : Sem} {k : Nat} (D : Ds W mg base φ k) (C : Cs W mg) {g0 : Addr} {fd0 : FuncData} (F0 : FunD W.K "right_total" "Counts.right_total" (defArgs s_Counts_right_total) (defBody s_Counts_right_total) (defScope s_Counts_right_total) [] [] g0 fd0) (B : Blt mg) : FnOk W.P W.w W.K mg base (L2.CX W.P W.w) (k + 4) g0 fd0 A_Counts_right_total (spR W 1 (runFn 2 (b_Counts_right_total W φ)) none) := by
  refine pw_of F0 sc_Counts_right_total spR_len fun f cdv A outer s H vs Q E hr hsp => ⟨(b_Counts_right_total W φ).t (fun c d _ H => E c d H), ?_, fn_run (N := N_Counts_right_total) (by intro i h; cases h) hsp⟩
  dsimp? only [b_Counts_right_total]
  exact (pss_one (ps_ret (pe_callB (cr_sum2 rfl) (by rfl) B.sum (by decide +kernel) (pa_cons (pe_lc (own := [("row", 1)]) rfl sc_Counts_right_total.nd (pi_or (pi_seqU (pe_fld (pv 0) rfl)) (pi_own D.its (hr.mono (by omega)) rfl (pe_fld (pv 0) rfl))) (blkOk_by (own := [("row", 1)]) (N := N_Counts_right_total) (sc := defScope s_Counts_right_total) (by decide +kernel)) (fun _ _ _ _ _ => (pg_name (i := 1) sc_Counts_right_total.nd rfl (Or.inl rfl))) (fun _ _ _ _ _ => pts_nil) (fun _ _ _ _ _ => (pe_ix ixU (pv 1) pe_int (fun _ _ => rfl)))) pa_nil))))
theorem ok_law {φ : Sem} {k : Nat} (D : Ds W mg base φ k) (C : Cs W mg) {f0 : Addr} {fd0 : FuncData} (F0 : FunD W.K "law" "law" (defArgs s_law) (defBody s_law) (defScope s_law) [] [] f0 fd0) (B : Blt mg) (hL : ∀ vs H Q E, spL W.K vs H Q E -> spR W 1 (runFn 15 (b_law W φ)) none vs H Q E) : FnOk W.P W.w W.K mg base CX0 (k + 4) f0 fd0 A_law (spL W.K) := by
  refine lw_of F0 sc_law spL_len fun f cdv A outer s H vs Q E hr hsp => ⟨(b_law W φ).t (fun c d _ H => E0 c d H), ?_, fn_run (N := N_law) (by intro i h; cases h) (hL vs H Q E0 hsp)⟩
  dsimp? only [b_law, l1_law, l2_law]
  exact (pss_cons (ps_set (i := 1) sc_law.nd rfl (Or.inl rfl) (px_call (D.d_law_draws none (by nofun)) (ro0 hr) rfl (pa_cons (pv 0) (pa_cons pe_int (pa_cons pe_int pa_nil)))))
      (pss_cons (ps_set (i := 2) sc_law.nd rfl (Or.inl rfl) (px_call (D.d_law_triples none (by nofun)) (ro0 hr) rfl (pa_cons (pv 0) (pa_cons pe_int (pa_cons (pe_op op_mod (pe_callTy call_intU (by rfl) B.int (by decide +kernel) (pa_cons (pe_ix ixU (pv 1) pe_int (fun _ _ => rfl)) pa_nil)) pe_int) (pa_cons (pe_ix ixU (pe_lst (pa_cons pe_int (pa_cons pe_int (pa_cons (pe_op op_pow pe_int pe_int) pa_nil)))) (pe_op op_mod (pe_callTy call_intU (by rfl) B.int (by decide +kernel) (pa_cons (pe_ix ixU (pv 1) pe_int (fun _ _ => rfl)) pa_nil)) pe_int) (fun _ _ => rfl)) pa_nil))))))
      (pss_cons (ps_set (i := 3) sc_law.nd rfl (Or.inl rfl) (pe_lst pa_nil))
      (pss_cons (ps_for PassesOwn.never rfl (pi_range1 rfl B.range (pa_cons (pe_callB (CallR.or call_lenA (call_lenI (D.m___len__ none (by nofun)) (ro1 hr) rfl)) (by rfl) B.len (by decide +kernel) (pa_cons (pv 2) pa_nil)) pa_nil)) (pg_name (i := 4) sc_law.nd rfl (Or.inl rfl)) (pss_one (ps_if (pt_cmpR (opEq hr.units) (pe_op op_mod (pe_callTy call_intU (by rfl) B.int (by decide +kernel) (pa_cons (pe_op opAdd (pe_ix ixU (pv 1) pe_int (fun _ _ => rfl)) (pv 4)) pa_nil)) pe_int) pe_int (nomark _)) (pss_one (ps_expr (pe_bm PySem.F.plainAttrs_list PySem.F.slot_list_append PySem.F.type_list_append mt_append (pv 3) (pa_cons (pe_lst (pa_cons (pe_ix ixU (pe_ix ixU (pv 2) (pv 4) (fun _ _ => rfl)) pe_int (fun _ _ => rfl)) (pa_cons (pe_ix ixU (pe_ix ixU (pv 2) (pv 4) (fun _ _ => rfl)) pe_int (fun _ _ => rfl)) (pa_cons (pe_ix ixU (pe_ix ixU (pv 2) (pv 4) (fun _ _ => rfl)) pe_int (fun _ _ => rfl)) pa_nil)))) pa_nil)))) (pss_one (ps_expr (pe_bm PySem.F.plainAttrs_list PySem.F.slot_list_append PySem.F.type_list_append mt_append (pv 3) (pa_cons (pe_ix ixU (pv 2) (pv 4) (fun _ _ => rfl)) pa_nil)))))))
      (pss_cons (ps_set (i := 5) sc_law.nd rfl (Or.inl rfl) (px_make D.mk_Counts C.has_Counts (ro1 hr) rfl (pa_cons (pv 3) pa_nil)))
      (pss_cons (ps_if (PW.pt (pw_or (pt_not (pt_truU (px_call (D.d_law_is_counts none (by nofun)) (ro0 hr) rfl (pa_cons (pv 5) (pa_cons (pv 2) pa_nil))))) (pw_or1 (pt_not (pt_truU (px_call (D.d_law_is_counts none (by nofun)) (ro0 hr) rfl (pa_cons (px_make D.mk_Counts C.has_Counts (ro1 hr) rfl (pa_cons (pe_callTy call_tupleU (by rfl) B.tuple (by decide +kernel) (pa_cons (pv 2) pa_nil)) pa_nil)) (pa_cons (pv 2) pa_nil)))))))) (pss_one (ps_ret pe_bl)) pss_nil)
      (pss_cons (ps_for PassesOwn.never rfl (pi_seqU (pv 3)) (pg_name (i := 6) sc_law.nd rfl (Or.inl rfl)) (pss_one (ps_if (pt_truU (px_isi (n := "list") B.isinstance B.list (pv 6))) (pss_one (ps_asg pe_int (pg_sub (pv 6) pe_int set_list))) pss_nil)))
      (pss_cons (ps_expr (pe_bm PySem.F.plainAttrs_list PySem.F.slot_list_append PySem.F.type_list_append mt_append (pv 3) (pa_cons (pe_tup (pa_cons (pe_op op_pow pe_int pe_int) (pa_cons pe_int (pa_cons pe_int pa_nil)))) pa_nil)))
      (pss_cons (ps_set (i := 7) sc_law.nd rfl (Or.inl rfl) (pe_callTy (CallR.or call_listU (call_listI (D.m___len__ none (by nofun)) D.its hr rfl)) (by rfl) B.list (by decide +kernel) (pa_cons (pv 5) pa_nil)))
      (pss_cons (ps_expr (pe_bm PySem.F.plainAttrs_list PySem.F.slot_list_append PySem.F.type_list_append mt_append (pv 7) (pa_cons (pe_tup (pa_cons pe_int (pa_cons pe_int (pa_cons pe_int pa_nil)))) pa_nil)))
      (pss_cons (ps_if (pt_not (pt_truU (px_call (D.d_law_is_counts none (by nofun)) (ro0 hr) rfl (pa_cons (pv 5) (pa_cons (pv 2) pa_nil))))) (pss_one (ps_ret pe_bl)) pss_nil)
      (pss_cons (ps_set (i := 8) sc_law.nd rfl (Or.inl rfl) (pe_lst (pa_cons pe_non (pa_cons pe_int (pa_cons pe_str (pa_cons (pe_tup pa_nil) (pa_cons (pe_tup (pa_cons (pe_op op_pow pe_int pe_int) (pa_cons pe_int pa_nil))) (pa_cons (pe_tup (pa_cons (pe_op op_pow pe_int pe_int) (pa_cons pe_int (pa_cons pe_int (pa_cons pe_int pa_nil))))) (pa_cons (pe_tup (pa_cons (pe_op op_pow pe_int pe_int) (pa_cons pe_int (pa_cons pe_int pa_nil)))) (pa_cons (pe_tup (pa_cons (pe_op op_pow pe_int pe_int) (pa_cons (pe_un un_neg pe_int) (pa_cons pe_int pa_nil)))) pa_nil))))))))))
      (pss_cons (ps_set (i := 8) sc_law.nd rfl (Or.inl rfl) (pe_op opAdd (pv 8) (pe_lst (pa_cons (pe_tup (pa_cons pe_bl (pa_cons pe_int (pa_cons pe_int pa_nil)))) (pa_cons (pe_tup (pa_cons (pe_op op_pow pe_int pe_int) (pa_cons pe_bl (pa_cons pe_int pa_nil)))) (pa_cons (pe_tup (pa_cons pe_str (pa_cons pe_int (pa_cons pe_int pa_nil)))) (pa_cons (pe_tup (pa_cons pe_non (pa_cons pe_int (pa_cons pe_int pa_nil)))) pa_nil)))))))
      (pss_cons (ps_set (i := 9) sc_law.nd rfl (Or.inl rfl) (pe_op op_mod (pe_callTy call_intU (by rfl) B.int (by decide +kernel) (pa_cons (pe_ix ixU (pv 1) pe_int (fun _ _ => rfl)) pa_nil)) (pe_op opAdd (pe_callB (CallR.or call_lenA (call_lenI (D.m___len__ none (by nofun)) (ro1 hr) rfl)) (by rfl) B.len (by decide +kernel) (pa_cons (pv 2) pa_nil)) pe_int)))
      (pss_cons (ps_set (i := 10) sc_law.nd rfl (Or.inl rfl) (pe_callTy (CallR.or call_listU (call_listI (D.m___len__ none (by nofun)) D.its hr rfl)) (by rfl) B.list (by decide +kernel) (pa_cons (pv 2) pa_nil)))
      (pss_cons (ps_expr (pe_bm PySem.F.plainAttrs_list PySem.F.slot_list_insert PySem.F.type_list_insert mt_insert (pv 10) (pa_cons (pv 9) (pa_cons (pe_ix ixU (pv 8) (pe_op op_mod (pe_callTy call_intU (by rfl) B.int (by decide +kernel) (pa_cons (pe_ix ixU (pv 1) pe_int (fun _ _ => rfl)) pa_nil)) pe_int) (fun _ _ => rfl)) pa_nil))))
      (pss_cons (ps_if (PW.pt (pw_or (pt_cmpR (opNe hr.units) (px_call (D.d_law_refused none (by nofun)) (ro0 hr) rfl (pa_cons (pv 10) pa_nil)) (pv 9) (nomark _)) (pw_or1 (pt_cmpR (opNe hr.units) (px_call (D.d_law_refused none (by nofun)) (ro0 hr) rfl (pa_cons (pe_op opAdd (pv 2) (pe_slice sl_list (pv 2) (po_some (pe_un un_neg pe_int)) po_none)) pa_nil)) (pe_ix ixU (pe_lst (pa_cons (pe_un un_neg pe_int) (pa_cons (pe_callB (CallR.or call_lenA (call_lenI (D.m___len__ none (by nofun)) (ro1 hr) rfl)) (by rfl) B.len (by decide +kernel) (pa_cons (pv 2) pa_nil)) pa_nil))) (pe_callTy call_intU (by rfl) B.int (by decide +kernel) (pa_cons (pe_cmpR op_gt (pe_callB (CallR.or call_lenA (call_lenI (D.m___len__ none (by nofun)) (ro1 hr) rfl)) (by rfl) B.len (by decide +kernel) (pa_cons (pv 2) pa_nil)) pe_int (nomark _)) pa_nil)) (fun _ _ => rfl)) (nomark _))))) (pss_one (ps_ret pe_bl)) pss_nil)
      (pss_cons (ps_set (i := 11) sc_law.nd rfl (Or.inl rfl) pe_bl)
      (pss_cons (ps_imp C.hx_JoinError (ps_try_as (i := 12) (tb := fun W1 => ((xsExpr (xmMake φ "Counts" "Counts.__init__" 2 (xaCons (xTuple (xVar W 10)) (xaNil W))))).t W1) (ts := ((xhAsg 11 (xqAnd (xqIs W 12 (false, "ValueError")) (xqAnd (xqIs W 12 (true, "BadCounts")) (xqNot (xqIs W 12 (true, "BadRow")))))) : XH W 12).t) rfl rfl sc_law.nd rfl rfl ⟨rfl, by decide, .inl C.gx_JoinError⟩ takesN (fun W1 pn xe tk po => (pss_one (ps_expr (px_makeX D.mk_Counts C.has_Counts tk (ro1 hr) (by rfl) (pa_cons (pe_callTy call_tupleU (by rfl) B.tuple (by decide +kernel) (pa_cons (pv 10) pa_nil)) pa_nil))))) (fun a0 oe0 cls0 d0 pn0 hz hf => (pss_one (ps_set (i := 11) sc_law.nd rfl (Or.inl rfl) (pe_and (px_isX (c := (false, "ValueError")) hz hf B.isinstance rfl (pv 12) (pe_bltn (v := clsV W (false, "ValueError")) (by rfl) C.noVE boot_VE (by rfl))) (pe_and (px_isX (c := (true, "BadCounts")) hz hf B.isinstance C.hx_BadCounts (pv 12) (pe_glob (v := clsV W (true, "BadCounts")) (by rfl) C.gx_BadCounts (by rfl))) (pe_one (pe_not (px_isX (c := (true, "BadRow")) hz hf B.isinstance C.hx_BadRow (pv 12) (pe_glob (v := clsV W (true, "BadRow")) (by rfl) C.gx_BadRow (by rfl))))))))))))
      (pss_cons (ps_if (PW.pt (pw_or (pt_not (pt_truU (pv 11))) (pw_or1 (pt_cmpR (opLt hr.units0) (pe_callB (CallR.or call_lenA (call_lenI (D.m___len__ none (by nofun)) (ro1 hr) rfl)) (by rfl) B.len (by decide +kernel) (pa_cons (pv 2) pa_nil)) pe_int (nomark _))))) (pss_one (ps_ret (pv 11))) pss_nil)
      (pss_cons (ps_set (i := 13) sc_law.nd rfl (Or.inl rfl) (pe_op op_mod (pe_callTy call_intU (by rfl) B.int (by decide +kernel) (pa_cons (pe_ix ixU (pv 1) pe_int (fun _ _ => rfl)) pa_nil)) (pe_op op_sub (pe_callB (CallR.or call_lenA (call_lenI (D.m___len__ none (by nofun)) (ro1 hr) rfl)) (by rfl) B.len (by decide +kernel) (pa_cons (pv 2) pa_nil)) pe_int)))
      (pss_cons (ps_set (i := 14) sc_law.nd rfl (Or.inl rfl) (pe_callTy (CallR.or call_listU (call_listI (D.m___len__ none (by nofun)) D.its hr rfl)) (by rfl) B.list (by decide +kernel) (pa_cons (pv 2) pa_nil)))
      (pss_cons (ps_asg (pe_ix ixU (pv 2) (pe_op opAdd (pv 13) pe_int) (fun _ _ => rfl)) (pg_sub (pv 14) (pv 13) set_list))
      (pss_cons (ps_asg (pe_ix ixU (pv 2) (pv 13) (fun _ _ => rfl)) (pg_sub (pv 14) (pe_op opAdd (pv 13) pe_int) set_list))
      (pss_one (ps_ret (pe_and (pe_cmpR (opEq hr.units) (px_call (D.d_law_refused none (by nofun)) (ro0 hr) rfl (pa_cons (pv 14) pa_nil)) (pe_op opAdd (pv 13) pe_int) (nomark _)) (pe_one (pe_cmpR (opEq hr.units) (px_call (D.d_law_refused none (by nofun)) (ro0 hr) rfl (pa_cons (pv 2) pa_nil)) (pe_un un_neg pe_int) (nomark _))))))))))))))))))))))))))))))
theorem mt___len__ {φ : Sem} {k : Nat} {b : Option Nat} (C : Cs W mg) (h_Counts : MdOk W.P W.w W.K mg base k (W.cA "Counts") "__len__" 1 (spR W 1 (φ "Counts.__len__") b)) : Mt W.P W.w W.K mg base W k "__len__" 1 φ b := by
  refine ⟨fun c nm hc hr => ?_⟩
  have hm := C.hasL c hc
  simp only [clsL, List.mem_cons, List.not_mem_nil, or_false] at hm
  rcases hm with rfl
  · rw [rs_Counts___len__] at hr; cases hr; obtain ⟨g, fd, ps, x1, x2, x3, _⟩ := h_Counts.ex; exact ⟨g, fd, ps, x1, x2, x3⟩
theorem pp_left_total {φ : Sem} {k : Nat} (C : Cs W mg) (h_Counts : ∀ g fd, FunD W.K "left_total" "Counts.left_total" (defArgs s_Counts_left_total) (defBody s_Counts_left_total) (defScope s_Counts_left_total) [] [] g fd -> FnOk W.P W.w W.K mg base (L2.CX W.P W.w) k g fd A_Counts_left_total (spR W 1 (φ "Counts.left_total") none)) : Pp W.P W.w W.K mg base W k "left_total" φ := by
  refine ⟨fun c nm hc hr => ?_⟩
  have hm := C.hasL c hc
  simp only [clsL, List.mem_cons, List.not_mem_nil, or_false] at hm
  rcases hm with rfl
  · rw [rs_Counts_left_total] at hr; cases hr; obtain ⟨p, g, fd, hp, F⟩ := C.p_Counts_left_total; exact ⟨p, g, fd, A_Counts_left_total, hp, h_Counts g fd F, F.bindsN bp_Counts_left_total⟩
theorem pp_right_total {φ : Sem} {k : Nat} (C : Cs W mg) (h_Counts : ∀ g fd, FunD W.K "right_total" "Counts.right_total" (defArgs s_Counts_right_total) (defBody s_Counts_right_total) (defScope s_Counts_right_total) [] [] g fd -> FnOk W.P W.w W.K mg base (L2.CX W.P W.w) k g fd A_Counts_right_total (spR W 1 (φ "Counts.right_total") none)) : Pp W.P W.w W.K mg base W k "right_total" φ := by
  refine ⟨fun c nm hc hr => ?_⟩
  have hm := C.hasL c hc
  simp only [clsL, List.mem_cons, List.not_mem_nil, or_false] at hm
  rcases hm with rfl
  · rw [rs_Counts_right_total] at hr; cases hr; obtain ⟨p, g, fd, hp, F⟩ := C.p_Counts_right_total; exact ⟨p, g, fd, A_Counts_right_total, hp, h_Counts g fd F, F.bindsN bp_Counts_right_total⟩
theorem ds_all (D0 : DefAt W.K mg "is_integer" "is_integer" s_is_integer [] []) (D1 : DefAt W.K mg "is_triple" "is_triple" s_is_triple [] []) (D2 : DefAt W.K mg "_law_draws" "_law_draws" s_law_draws [] []) (D3 : DefAt W.K mg "_law_triples" "_law_triples" s_law_triples [] []) (D4 : DefAt W.K mg "_law_is_counts" "_law_is_counts" s_law_is_counts [] []) (D5 : DefAt W.K mg "_law_refused" "_law_refused" s_law_refused [] []) (C : Cs W mg) (B : Blt mg) : ∀ n, Ds W mg base (semT (tbl W) n) (4 * n)
  | 0 => ⟨it_all C B,
    fun b _ => df_no D0 bp_is_integer spR_no,
    fun b _ => df_no D1 bp_is_triple spR_no,
    fun b _ => df_no D2 bp_law_draws spR_no,
    fun b _ => df_no D3 bp_law_triples spR_no,
    fun b _ => df_no D4 bp_law_is_counts spR_no,
    fun b _ => df_no D5 bp_law_refused spR_no,
    fun b _ => mt___len__ C (md_no C.a_Counts___len__ bp_Counts___len__ rfl spR_no),
    pp_left_total C (fun g fd _ => fn_no spR_no),
    pp_right_total C (fun g fd _ => fn_no spR_no),
    (let ⟨_, M⟩ := C.k_Counts; mk_of M (md_no C.a_Counts___init__ bp_Counts___init__ rfl spR_no) C.g_Counts)⟩
  | n + 1 => ⟨it_all C B,
    ok_is_integer (ds_all D0 D1 D2 D3 D4 D5 C B n) C D0 B,
    ok_is_triple (ds_all D0 D1 D2 D3 D4 D5 C B n) C D1 B,
    ok_law_draws (ds_all D0 D1 D2 D3 D4 D5 C B n) C D2 B,
    ok_law_triples (ds_all D0 D1 D2 D3 D4 D5 C B n) C D3 B,
    ok_law_is_counts (ds_all D0 D1 D2 D3 D4 D5 C B n) C D4 B,
    ok_law_refused (ds_all D0 D1 D2 D3 D4 D5 C B n) C D5 B,
    fun b hb => mt___len__ C (ok_Counts___len__ (ds_all D0 D1 D2 D3 D4 D5 C B n) C C.a_Counts___len__ B b hb),
    pp_left_total C (fun g fd F => ok_Counts_left_total (ds_all D0 D1 D2 D3 D4 D5 C B n) C F B),
    pp_right_total C (fun g fd F => ok_Counts_right_total (ds_all D0 D1 D2 D3 D4 D5 C B n) C F B),
    (let ⟨_, M⟩ := C.k_Counts; mk_of M (ok_Counts___init__ (ds_all D0 D1 D2 D3 D4 D5 C B n) C C.a_Counts___init__ B (some 0) (fun i h => by cases h; decide)) C.g_Counts)⟩
end
end Py
namespace Py
open PySem L2
open Enc (enc)
local macro_rules | `(tactic| simp? only [$xs,*]) => `(tactic| try simp (maxSteps := 1000000) (disch := first | omega | decide) only [e_xsSeq, e_xsNext, e_xsAsg, e_xsExpr, e_xsRet, e_xsIf, e_xsFrz, e_xmP, e_xVar_V, e_xtV, e_xtTru, e_xtAnd, e_xtOr, e_xtNot, e_xtYes, e_xVar, e_xInt, e_xBl, e_xNon, e_xStr, e_xSub, e_xMul, e_xDiv, e_xMod, e_xPow, e_xNeg, e_xAdd, e_xEq, e_xNe, e_xLt, e_xLe, e_xGt, e_xGe, e_xAnd, e_xNot, e_xTup, e_xLst, e_xInt1, e_xAbs, e_xIx, e_xFld, e_xList, e_xTuple, e_xIsi, e_xIsiT, e_xCall, e_xLc, e_xmMove, e_xmAppend, e_xmInsert, e_xoNil, e_xoCons, e_plVar, r_plVar, e_xaNilV, e_xaNilF, e_xaConsV, e_xaConsF, e_xgN, e_xgsNil, e_xgsCons, e_xgT, o_xgN, o_xgT, o_xgsNil, o_xgsCons, e_xiSeqF, e_xiSeqP, e_xiR1F, e_xiR1P, e_xsFor, e_evV, e_evK, e_evF, e_evO, e_evB, h_getS0, h_getS0n, h_getSs, h_toV, h_toVn, h_toKf, h_toKp, h_toKv, h_toKn, h_toFf, h_toFp, h_toFv, h_toFn, h_toOf, h_toOp, h_toOv, h_toOn, h_of_f, h_of_p, h_of_v, h_then_nx, h_then_rt, h_then_bk, h_then_ct, h_then_ex, h_then_no, h_thenS_ok, h_thenS_exn, h_thenS_no, h_ofO, h_ofOn, h_of, h_ofn, h_mofO, h_mofOn, h_iteF1, h_iteF0, h_iteFn, h_asgK, h_forK, h_andF1, h_andF0, h_orF1, h_orF0, h_blD, h_turn, h_turnn, h_forE, h_forEn, h_callF, h_callV, h_rzF, h_rzV, h_fz_non, h_sh_non, h_fl_non, h_isN_non, h_fz_bl, h_sh_bl, h_fl_bl, h_fz_int, h_sh_int, h_fl_int, h_isN_int, h_fz_str, h_sh_str, h_fl_str, h_isN_str, h_fz_cls, h_sh_cls, h_fl_cls, h_isN_cls, h_fz_sei, h_sh_sei, h_fl_sei, h_isN_sei, h_fz_scr, h_sh_scr, h_fl_scr, h_isN_scr, h_fz_tup, h_sh_tup, h_fl_tup, h_isN_tup, h_fz_lst, h_sh_lst, h_fl_lst, h_isN_lst, h_fz_dic, h_sh_dic, h_fl_dic, h_isN_dic, h_fz_dit, h_sh_dit, h_fl_dit, h_isN_dit, h_fz_dig, h_sh_dig, h_fl_dig, h_isN_dig, h_fz_ins, h_sh_ins, h_fl_ins, h_isN_ins, h_isN_bl, h_fz_olst, h_sh_olst, h_fl_olst, h_fz_odic, h_sh_odic, h_fl_odic, h_fz_odit, h_sh_odit, h_fl_odit, h_fz_odig, h_sh_odig, h_fl_odig, h_fz_oins, h_sh_oins, h_fl_oins, h_fzs_nil, h_fzs_cons, h_fzs_app, h_tru_bl, h_tru_non, h_tru_int, h_tru_lst, h_tru_tup, h_sub, h_neg, h_addI, h_addT, h_addL, h_addLo, h_addoL, h_addoo, h_eqD, h_neD, h_ok_non, h_ok_bl, h_ok_int, h_ok_str, h_ok_tup, h_ok_lst, h_oks_nil, h_oks_cons, h_eqB_ii, h_eqB_ss, h_eqB_bb, h_eqB_nn, h_eqB_ni, h_eqB_in, h_eqB_nt, h_eqB_tn, h_eqB_tt, h_eqB_ll, h_eqBs_nn, h_eqBs_cc, h_eqBs_nc, h_eqBs_cn, h_cmp, h_ltI, h_ltT, h_ints_nil, h_ints_cons, h_intI, h_intB, h_abs, h_lenL, h_lenT, h_lenS, h_ix, h_it_lst, h_it_olst, h_it_tup, h_it_scr, h_at0, h_at1, h_at2, h_at3, h_at4, h_at5, h_at6, h_at7, h_at8, h_at9, h_at10, h_at11, h_at12, h_atm1, h_seq_lst, h_seq_tup, h_seq_olst, h_seq_scr, h_sF_lst, h_sF_tup, h_sF_scr, h_lF_lst, h_ty_non, h_ty_bl, h_ty_int, h_ty_str, h_ty_lst, h_ty_tup, h_ty_ins, h_isi_bb, h_isi_bo, h_isi_ob, h_isi_oo, h_isiA_n, h_isiA_c, h_isiB_NoneType_bool, h_isiB_NoneType_int, h_isiB_NoneType_str, h_isiB_NoneType_list, h_isiB_NoneType_tuple, h_isiB_NoneType_dict, h_isiB_bool_bool, h_isiB_bool_int, h_isiB_bool_str, h_isiB_bool_list, h_isiB_bool_tuple, h_isiB_bool_dict, h_isiB_int_bool, h_isiB_int_int, h_isiB_int_str, h_isiB_int_list, h_isiB_int_tuple, h_isiB_int_dict, h_isiB_str_bool, h_isiB_str_int, h_isiB_str_str, h_isiB_str_list, h_isiB_str_tuple, h_isiB_str_dict, h_isiB_list_bool, h_isiB_list_int, h_isiB_list_str, h_isiB_list_list, h_isiB_list_tuple, h_isiB_list_dict, h_isiB_tuple_bool, h_isiB_tuple_int, h_isiB_tuple_str, h_isiB_tuple_list, h_isiB_tuple_tuple, h_isiB_tuple_dict, h_isiB_dict_bool, h_isiB_dict_int, h_isiB_dict_str, h_isiB_dict_list, h_isiB_dict_tuple, h_isiB_dict_dict, h_append, h_insert, h_put0, h_rng1, h_guard1, h_guard0, h_forLn, h_forLc, h_forT_nx, h_forT_ct, h_forT_bk, h_forT_rt, h_forT_ex, h_lc1, h_lcK, h_lcJ1, h_lcJ0, h_wipe0, h_wipes, h_frz, h_frzO, h_frzOn, h_runR_rt, h_runR_nx, h_retZ, h_bGetn, h_bGets, h_setS, h_fldI, h_fldO, h_iteFd1, h_iteFd0, h_iteFe1, h_iteFe0, h_andFd1, h_andFd0, h_andFe1, h_andFe0, h_orFd1, h_orFd0, h_orFe1, h_orFe0, h_lcJd1, h_lcJd0, h_lcJe1, h_lcJe0, h_resE, h_resEn, h_posn, h_posc, h_putc, h_putE, h_subF, h_subI, h_putF, h_putI, h_setOs, h_eSfld, h_fldK, h_setFD, h_setFn, h_setFc, h_eMake, h_makeF, h_makeV, h_mk1, h_mkR, h_eProp, h_propF, h_propV, h_prop1, h_eLenU, h_lenI_lst, h_lenI_tup, h_lenI_scr, h_lenI_ins, h_lenQ, h_lenR, h_eSl, h_slE, h_evI0, h_evI1, h_intO, h_RTthen_ok, h_RTthenS_ok, h_RTthen_exn, h_RTthenS_exn, h_RTof, h_eListU, h_lstE_lst, h_lstE_tup, h_lstE_scr, h_lstE_olst, h_lstE_ins, h_itQ, h_it_ins, h_lo_lst, h_lo_olst, h_eiSeqUF, h_eiSeqUP, h_eiEnumUF, h_eiEnumUP, h_eiEnumTF, h_eiEnumTP, h_enTI_tup, h_enTI_lst, h_enTI_ins, h_seqFI_lst, h_seqFI_tup, h_seqFI_scr, h_seqFI_ins, h_seqKI_lst, h_seqKI_tup, h_seqKI_scr, h_seqKI_ins, h_seqKI_olst, h_enFI_lst, h_enFI_ins, h_enKI_lst, h_enKI_ins, h_enKI_olst, h_orI_s, h_orI_n, h_ixD_ins, h_okD_ins, h_eqD_ins, h_addD_ins, h_addD_oins, h_eSum, h_sumI, h_eSset, h_setK, h_storeD, h_inK_non, h_inK_int, h_inK_str, h_guardB_t, h_keyD_i, h_keyD_s, h_lentEs, h_lentEn, h_ofBs, h_ofBn, h_oNl_int, h_oNl_str, h_oNl_bl, h_oNl_n, h_oNl_ins, h_oNl_oins, h_oNl_dic, h_oNl_odic, h_oNl_tup, h_oNl_olst, h_oNls_n, h_oNls_c, h_eRaise, h_exOf, h_exOfn, h_eTryAs, h_tryK_nx, h_tryK_rt, h_tryK_bk, h_tryK_ct, h_tryK_no, h_tryK_ex, h_tryJ1, h_tryJ0, h_clr_nx, h_clr_rt, h_clr_bk, h_clr_ct, h_clr_no, h_ehAsg, h_hAsgK, h_hAsgKn, h_qevO, h_qevB, h_qevF, h_toQf, h_toQp, h_toQv, h_toQn, h_eqFld, h_eqIs, h_isX1t, h_isX1f, h_eqAnd, h_eqNot, h_eMakeM, h_makeM, h_mkMo, h_mkMx, h_mkMn, h_runR_ex, h_retX, h_thenY1, h_thenY2, h_thenY3, h_look1, h_look2, h_div, h_mod, h_mulL, h_mulR, h_rngOk, List.zip_cons_cons, List.zip_nil_left, if_pos, if_neg, List.getElem?_cons_zero, List.getElem?_cons_succ, List.getElem?_nil, List.getLast?_append, List.getLast?_singleton, List.getLast?_cons_cons, runFn, env0, Option.toList, List.map_cons, List.map_nil, List.length_cons, List.length_nil, List.length_append, List.length_map, List.length_set, List.replicate, List.cons_append, List.nil_append, List.append_nil, Nat.reduceSub, Nat.reduceAdd, Nat.reduceLT, Nat.reduceLeDiff, Nat.reduceEqDiff, Nat.zero_add, Nat.add_zero, List.set_cons_zero, List.set_cons_succ, List.set_nil, Option.bind_some, Option.bind_none, Option.map_some, Option.map_none, List.foldl_cons, List.foldl_nil, not_false_eq_true, not_true_eq_false, and_true, true_and, and_self, and_false, false_and, if_true, if_false, ite_true, ite_false, reduceIte, List.not_mem_nil, reduceCtorEq, List.mem_cons, or_false, false_or, or_self, ne_eq, Bool.not_true, Bool.not_false, Bool.and_true, Bool.and_false, Bool.true_and, Bool.false_and, Bool.or_true, Bool.or_false, Bool.true_or, Bool.false_or, Bool.and_self, Bool.or_self, List.all_cons, List.all_nil, decide_true, decide_false, decide_not, decide_eq_true_eq, decide_eq_false_iff_not, Bool.not_not, Int.reduceLT, Int.reduceLE, Int.reduceEq, Int.reduceNe, Int.reduceAdd, Int.reduceMul, Int.reduceSub, Int.reduceNeg, List.isEmpty_cons, List.isEmpty_nil, Bool.false_eq_true, Bool.true_eq_false, String.reduceEq, Function.comp_apply, Option.isNone_none, Option.some_or, Option.isNone_some, List.getLast?_concat, List.dropLast_concat, List.all_append, $xs,*])
local macro_rules | `(tactic| dsimp? only [$xs,*]) => `(tactic| simp? only [xs_JoinError_JoinError, xs_JoinError_BadRow, xs_JoinError_BadCounts, xs_BadRow_JoinError, xs_BadRow_BadRow, xs_BadRow_BadCounts, xs_BadCounts_JoinError, xs_BadCounts_BadRow, xs_BadCounts_BadCounts, ik_Counts, fk_Counts__rows, rs_Counts___len__, rs_Counts_left_total, rs_Counts_right_total, sb_Counts_Counts, $xs,*])
local macro_rules | `(tactic| walk_at "ev") => `(tactic| simp? only [])
section
variable {W : Wd TT}
local macro_rules | `(tactic| walk_at "evl") => `(tactic| dsimp? only [e_xsForM, e_xMakeI, it_cS, it_t3, sF_t3, sFI_t3, ty_t3, len_t3, lenI_t3, fl_t3, xg_t3, it_pair, sF_pair, sFI_pair, so_pair, ty_pair, len_pair, lenI_pair, fl_pair, xg_pair, enc_int, isN_opt, sh_enc, fz_enc, shl_enc, fzl_enc, fl_enc, ok_enc, okl_enc, eq_enc, eql_enc, en_enc, ne_enc, nn_enc, decide_true])
def psOf (rs : List Tr) (d : Int) : List (Bool × Tr) := rs.zipIdx.map fun p => (decide ((d + (p.2 : Int)) % 2 = 1), p.1)
theorem psOf_length (rs : List Tr) (d : Int) : (psOf rs d).length = rs.length := by simp [psOf]
theorem psOf_snd (rs : List Tr) (d : Int) : (psOf rs d).map (·.2) = rs := by
  unfold psOf
  rw [List.map_map]
  exact List.zipIdx_map_fst 0 rs
theorem psOf_get {rs : List Tr} {j : Nat} {x : Tr} (d : Int) (h : rs[j]? = some x) : (psOf rs d)[j]? = some (decide ((d + (j : Int)) % 2 = 1), x) := by
  unfold psOf
  rw [List.getElem?_map, List.getElem?_zipIdx, h]
  simp
theorem row_turn (φ : Sem) (P1 : List Nat) (x0 x1 x2 x3 x4 x5 x7 x8 x9 x10 x11 x12 x13 x14 : Option D) (p : Bool × Tr) : (l2_law W φ).ev P1 [x0, x1, x2, x3, x4, x5, some (gT p), x7, x8, x9, x10, x11, x12, x13, x14] = .nx [x0, x1, x2, x3, x4, x5, some (gTM p), x7, x8, x9, x10, x11, x12, x13, x14] := by
  obtain ⟨b, t⟩ := p
  unfold l2_law
  cases b with
  | false =>
    have e1 : gT (false, t) = .tup [.int t.a, .int t.b, .int t.c] := rfl
    have e2 : gTM (false, t) = .tup [.int t.a, .int t.b, .int t.c] := rfl
    rw [e1, e2]
    walk_at "evl"
  | true =>
    have e1 : gT (true, t) = .olst [.int t.a, .int t.b, .int t.c] := rfl
    have e2 : gTM (true, t) = .olst [.int t.a, .int 500, .int t.c] := rfl
    rw [e1, e2]
    walk_at "evl"
    (try rw [show ixN 3 1 = some 1 from rfl])
    (try walk_at "evl")
    try rfl
theorem fmE_map {α : Type} {g g' : α -> D} {f : D -> Option D} : ∀ xs : List α, (∀ x ∈ xs, f (g x) = some (g' x)) -> fmE f (xs.map g) = some (xs.map g')
  | [], _ => rfl
  | x :: xs, h => by
    have ih := fmE_map xs fun y hy => h y (List.mem_cons_of_mem _ hy)
    show (f (g x)).bind (fun y => (fmE f (xs.map g)).map (y :: ·)) = _
    rw [h x (List.mem_cons_self ..), ih]
    rfl
theorem form_rows (φ : Sem) (x0 x1 x2 x4 x5 : Option D) (ps : List (Bool × Tr)) : formR [x0, x1, x2, some (.olst (ps.map gT)), x4, x5, none, none, none, none, none, none, none, none, none] 3 6 ((olO (some (.olst (ps.map gT)))).bind (formE (l2_law W φ).ev [] [x0, x1, x2, some (.olst (ps.map gT)), x4, x5, none, none, none, none, none, none, none, none, none] 3 6)) = .nx [x0, x1, x2, some (.olst (ps.map gTM)), x4, x5, none, none, none, none, none, none, none, none, none] := by
  have h : formE (l2_law W φ).ev [] [x0, x1, x2, some (.olst (ps.map gT)), x4, x5, none, none, none, none, none, none, none, none, none] 3 6 (ps.map gT) = some (ps.map gTM) := by
    unfold formE
    rw [if_pos ⟨by simp, by decide, by simp⟩]
    exact fmE_map ps fun p _ => (congrArg (outI 15 6) (row_turn (W := W) φ _ _ _ _ _ _ _ _ _ _ _ _ _ _ _ p)).trans rfl
  show formR _ 3 6 (formE (l2_law W φ).ev [] [x0, x1, x2, some (.olst (ps.map gT)), x4, x5, none, none, none, none, none, none, none, none, none] 3 6 (ps.map gT)) = _
  rw [h]
  rfl
theorem fz_sh {d : D} (h : isSh d = true) : fz d = d := by
  cases d <;> first | (simp only [h_fz_non, h_fz_bl, h_fz_int, h_fz_str, h_fz_cls, h_fz_sei, h_fz_scr, h_fz_tup, h_fz_lst, h_fz_dic, h_fz_dit, h_fz_dig, h_fz_ins]; done) | (simp [isSh] at h; done)
theorem fzs_sh {ds : List D} (h : ds.all isSh = true) : fzs ds = ds := by
  rw [fzs_eq]
  exact (List.map_congr_left (g := id) fun d hd => fz_sh (List.all_eq_true.mp h d hd)).trans (List.map_id _)
theorem ins1 (rs : List Tr) (p : Nat) (b : D) : (rs.map enc).take p ++ [b] ++ (rs.map enc).drop p = (rs.take p).map enc ++ b :: (rs.drop p).map enc := by
  rw [List.map_take, List.map_drop, List.append_assoc]; rfl
theorem rows_sh (rs : List Tr) : ∀ d ∈ rs.map enc, isSh d = true := fun d hd => by
  obtain ⟨r, _, rfl⟩ := List.mem_map.mp hd
  exact Enc.sh r
theorem OkTs.take {ts : List Tr} (h : OkTs ts) (p : Nat) : OkTs (ts.take p) := ⟨h.asc.sublist (List.take_sublist p ts), fun t ht => h.nn t (List.mem_of_mem_take ht)⟩
theorem cut_last (xs : List D) (x : D) : cutL (xs ++ [x]) (some (-1)) none = [x] := by
  have h1 : HT.sIx (xs ++ [x]).length 0 (some (-1)) = xs.length := by
    unfold HT.sIx
    simp
    try omega
  have h2 : HT.sIx (xs ++ [x]).length (xs ++ [x]).length none = xs.length + 1 := by
    unfold HT.sIx
    simp
    try omega
  unfold cutL
  rw [h1, h2, List.drop_left, show xs.length + 1 - xs.length = 1 by omega]
  rfl
theorem cut_twice (k : Nat) {ts : List Tr} (hok : OkTs ts) (hn : ts.length <= 1000) : ∃ ct v, cutL (ts.map (enc : Tr -> D)) (some (-1)) none = ct /\ ct.all isSh = true /\ ct.length <= 1 /\ semT (tbl W) (k + 4) "_law_refused" [.lst (ts.map enc ++ ct)] none = .ok (.int v) none /\ atI [D.int (-1), D.int (ts.length : Nat)] (if 0 < ((ts.length : Nat) : Int) then 1 else 0) = some (.int v) := by
  rcases List.eq_nil_or_concat ts with rfl | ⟨us, y, rfl⟩
  · exact ⟨[], -1, rfl, rfl, by simp, f_refused k hok hn, rfl⟩
  · rw [List.concat_eq_append] at *
    have hy := hok.nn y (by simp)
    refine ⟨[enc y], ((us ++ [y]).length : Nat), by rw [List.map_append]; exact cut_last _ _, by simp [sh_enc], by simp, x_refused k hok (.inr ⟨y, y, rfl, by simp, Int.le_refl _, hy⟩) (rest := []) hn, ?_⟩
    have h9 : (us ++ [y]).length = us.length + 1 := by simp
    rw [if_pos (by omega)]
    (try rfl)
theorem swap_eq {α : Type} : ∀ (xs : List α) (q : Nat) (x y : α), q + 1 < xs.length -> (xs.set q y).set (q + 1) x = xs.take q ++ y :: x :: xs.drop (q + 2)
  | [], _, _, _, h => by simp at h
  | [_], _, _, _, h => by simp at h
  | a :: b :: xs, 0, x, y, _ => rfl
  | a :: b :: xs, q + 1, x, y, h => by
    have ih := swap_eq (b :: xs) q x y (by simp at h ⊢; omega)
    show a :: (((b :: xs).set q y).set (q + 1) x) = a :: ((b :: xs).take q ++ y :: x :: (b :: xs).drop (q + 2))
    rw [ih]
theorem ixN_at {n j : Nat} (h : j < n) : ixN n (j : Int) = some j := by
  unfold ixN
  rw [if_pos (by omega), if_pos (by omega), Int.toNat_natCast]
theorem ok_swap {ts : List Tr} (hok : OkTs ts) {q : Nat} {y : Tr} (hy : ts[q + 1]? = some y) : OkTs (ts.take q ++ [y]) := by
  have hn := hok.nn y (List.mem_of_getElem? hy)
  obtain ⟨hl, he⟩ := List.getElem?_eq_some_iff.mp hy
  refine (hok.take q).snoc (fun s hs => ?_) hn.1 hn.2.1 hn.2.2
  obtain ⟨i, hi, rfl⟩ := List.mem_iff_getElem.mp hs
  have hi2 : i < q := by rw [List.length_take] at hi; omega
  have := List.pairwise_iff_getElem.mp hok.asc i (q + 1) (by omega) hl (by omega)
  rw [he] at this
  rw [List.getElem_take]
  exact this
theorem p15 : powD (.int 10) (.int 15) = some (.int (10 ^ 15)) := rfl
theorem p20 : powD (.int 10) (.int 20) = some (.int (10 ^ 20)) := rfl
theorem p25 : powD (.int 10) (.int 25) = some (.int (10 ^ 25)) := rfl
theorem law_true (W : Wd TT) (ns : List Int) (hns : ns.length <= 63) : runFn 15 (b_law W (semT (tbl W) 6)) [.scr ns] none = .ok (.bl true) none := by
  unfold b_law
  walk_at "evl"
  rw [f_law_draws 5 (by decide) (by decide) (by decide)]
  have hl := draws_length ns 0 5
  have ho := draws_ok ns 0 5
  match hd : draws ns 0 5, hl with
  | [a, b, c, d, e], _ =>
  rw [hd] at ho
  have ha := ho a (by simp)
  have hb := ho b (by simp)
  have hc := ho c (by simp)
  have hd1 := ho d (by simp)
  have he := ho e (by simp)
  clear ho hd
  obtain ⟨n, hn⟩ : ∃ n : Nat, a % 13 = (n : Int) := ⟨(a % 13).toNat, by omega⟩
  have hn25 : n < 13 := by omega
  obtain ⟨st, hst1, hst2, hst⟩ : ∃ st : Int, 1 <= st /\ st <= 10 ^ 15 /\ atI [D.int 1, D.int 1000000007, D.int (10 ^ 15)] (b % 3) = some (.int st) := by
    have : b % 3 = 0 \/ b % 3 = 1 \/ b % 3 = 2 := by omega
    rcases this with e | e | e <;> rw [e]
    · exact ⟨1, by decide, by decide, rfl⟩
    · exact ⟨1000000007, by decide, by decide, rfl⟩
    · exact ⟨10 ^ 15, by decide, by decide, rfl⟩
  walk_at "evl"
  rw [p15]
  walk_at "evl"
  rw [hst]
  walk_at "evl"
  rw [hn]
  obtain ⟨ts, hok, htl, ht⟩ := f_law_triples (W := W) 4 (ns := ns) (i := 1) (st := st) (n := n) (by decide) (by omega) hst1 hst2
  rw [ht]
  walk_at "evl"
  generalize hF : forL _ _ _ = r
  obtain ⟨e', rfl, o5, rfl⟩ := forL_gen (fun j z => ∃ o5, z = [some (.scr ns), some (.olst [.int a, .int b, .int c, .int d, .int e]), some (.lst (ts.map enc)), some (.olst (((psOf ts c).take j).map gT)), o5, none, none, none, none, none, none, none, none, none, none]) hF ⟨none, rfl⟩ (by
    rintro j dd _ hdd ⟨o5, rfl⟩
    obtain ⟨hj, rfl⟩ := rangeD_get hdd
    have hj : j < ts.length := by simpa using hj
    have hx : ts[j]? = some ts[j] := List.getElem?_eq_getElem hj
    generalize ts[j] = x at hx
    have hp := psOf_get c hx
    have ha := atI_encN hx
    have ht : (psOf ts c).take (j + 1) = (psOf ts c).take j ++ [(decide ((c + (j : Int)) % 2 = 1), x)] := by rw [List.take_add_one, hp]; rfl
    have hl : ((psOf ts c).take j).length < 1000000 := by rw [List.length_take, psOf_length]; omega
    refine ⟨[some (.scr ns), some (.olst [.int a, .int b, .int c, .int d, .int e]), some (.lst (ts.map enc)), some (.olst (((psOf ts c).take (j + 1)).map gT)), some (.int (j : Int)), none, none, none, none, none, none, none, none, none, none], .inl ?_, _, rfl⟩
    rw [ht, List.map_append]
    generalize (psOf ts c).take j = acc at *
    rw [Int.zero_add, List.map_singleton]
    have he : (enc x : D) = .tup [.int x.a, .int x.b, .int x.c] := rfl
    unfold l1_law
    by_cases hq : (c + (j : Int)) % 2 = 1
    · rw [decide_eq_true hq]
      have e1 : gT (true, x) = .olst [.int x.a, .int x.b, .int x.c] := rfl
      rw [e1]
      rw [he] at ha
      walk_at "evl"
      rw [ha]
      walk_at "evl"
      try rfl
    · rw [decide_eq_false hq]
      have e1 : gT (false, x) = enc x := rfl
      rw [e1]
      walk_at "evl"
      rw [ha]
      walk_at "evl"
      try rfl)
  have hlen : (rangeD 0 (((ts.length : Nat) : Int)).toNat).length = ts.length := by rw [rangeD_length]; omega
  rw [hlen, List.take_of_length_le (by rw [psOf_length]; omega)]
  have hs2 := psOf_snd ts c
  have hpl := psOf_length ts c
  generalize psOf ts c = ps at *
  have ti := f_counts_initM (W := W) 3 ps (by omega) (by rw [hs2]; exact hok)
  have th := f_is_counts (W := W) 4 ts (by omega)
  have tl := u_counts_len (W := W) 5 ts
  have tj := f_counts_initT (W := W) 3 ts (by omega) hok
  clear hF
  have hls := isLss_gT ps
  have hon := oNls_trs ts
  rw [hs2] at ti
  walk_at "evl"
  rw [h_ownI hls, fzl_gT]
  walk_at "evl"
  rw [ti]
  walk_at "evl"
  rw [th]
  walk_at "evl"
  rw [tj]
  walk_at "evl"
  rw [th]
  walk_at "evl"
  rw [form_rows]
  walk_at "evl"
  rw [p25]
  walk_at "evl"
  rw [tl]
  walk_at "evl"
  rw [th]
  walk_at "evl"
  rw [p20]
  walk_at "evl"
  rw [p20]
  walk_at "evl"
  obtain ⟨p, hp⟩ : ∃ p : Nat, d % ((ts.length : Int) + 1) = (p : Int) := ⟨(d % ((ts.length : Int) + 1)).toNat, by have := Int.emod_nonneg d (show (ts.length : Int) + 1 ≠ 0 by omega); omega⟩
  have hpl2 : p <= ts.length := by have := Int.emod_lt_of_pos d (show (0 : Int) < (ts.length : Int) + 1 by omega); omega
  obtain ⟨bd, hbd, hbe⟩ := atI_mem (xs := bads (10 ^ 20)) (i := e % 12) (by omega) (by show e % 12 < 12; omega)
  have hbs := bads_sh hbd
  unfold bads at hbe
  (try rw [hp])
  (try walk_at "evl")
  rw [hbe]
  walk_at "evl"
  have hall : ∀ zs : List Tr, (zs.map (enc : Tr -> D)).all isSh = true := fun zs => List.all_eq_true.mpr (rows_sh zs)
  have e1 : fzs (List.take p (ts.map enc)) ++ [fz bd] ++ fzs (List.drop p (ts.map enc)) = (ts.take p).map enc ++ bd :: (ts.drop p).map enc := by
    rw [<- List.map_take, <- List.map_drop, fzs_sh (hall _), fzs_sh (hall _), fz_sh hbs, List.append_assoc]
    rfl
  have okp := hok.take p
  have hpt : (ts.take p).length = p := by rw [List.length_take]; omega
  have r1 := x_refused (W := W) 2 okp (.inl ⟨_, hbd⟩) (rest := (ts.drop p).map enc) (by omega)
  have r4 := x_countsT (W := W) 3 okp (.inl ⟨_, hbd⟩) (rest := (ts.drop p).map enc) (by omega)
  rw [hpt] at r1 r4
  simp only [Int.toNat_natCast]
  rw [e1, ins1, r1]
  clear hbe
  walk_at "evl"
  obtain ⟨ct, v, hct, hcs, hcl, r2, hv⟩ := cut_twice (W := W) 2 hok (by omega)
  rw [hct, if_pos hcs, if_pos (by omega)]
  walk_at "evl"
  (try rw [fzs_sh hcs])
  (try walk_at "evl")
  rw [r2]
  walk_at "evl"
  rw [hv]
  walk_at "evl"
  rw [r4]
  walk_at "evl"
  by_cases h2 : (ts.length : Int) < 2
  · rw [decide_eq_true h2]
    walk_at "evl"
  rw [decide_eq_false h2]
  obtain ⟨q, hq⟩ : ∃ q : Nat, d % ((ts.length : Int) - 1) = (q : Int) := ⟨(d % ((ts.length : Int) - 1)).toNat, by have := Int.emod_nonneg d (show (ts.length : Int) - 1 ≠ 0 by omega); omega⟩
  have hq2 : q + 1 < ts.length := by have := Int.emod_lt_of_pos d (show (0 : Int) < (ts.length : Int) - 1 by omega); omega
  have hx : ts[q]? = some ts[q] := List.getElem?_eq_getElem (by omega)
  have hy : ts[q + 1]? = some ts[q + 1] := List.getElem?_eq_getElem hq2
  have hxy : ts[q].a < ts[q + 1].a := List.pairwise_iff_getElem.mp hok.asc q (q + 1) (by omega) hq2 (by omega)
  generalize ts[q] = x at hx hxy
  generalize ts[q + 1] = y at hy hxy
  have hax := atI_encN hx
  have hay := atI_encN hy
  rw [show ((q + 1 : Nat) : Int) = (q : Int) + 1 by omega] at hay
  walk_at "evl"
  rw [hq]
  walk_at "evl"
  (try rw [hay])
  (try walk_at "evl")
  have hsw : ((ts.map (enc : Tr -> D)).set q (enc y)).set (q + 1) (enc x) = (ts.take q ++ [y]).map enc ++ enc x :: (ts.drop (q + 2)).map enc := by
    rw [swap_eq _ _ _ _ (by rw [List.length_map]; exact hq2), <- List.map_take, <- List.map_drop, List.map_append, List.append_assoc]
    rfl
  have hnx := hok.nn x (List.mem_of_getElem? hx)
  have hq3 : (ts.take q ++ [y]).length = q + 1 := by rw [List.length_append, List.length_take]; simp; omega
  have r5 := x_refused (W := W) 2 (ok_swap hok hy) (.inr ⟨x, y, rfl, by simp, by omega, hnx⟩) (rest := (ts.drop (q + 2)).map enc) (by omega)
  rw [hq3, <- hsw] at r5
  have r6 := f_refused (W := W) 2 hok (by omega)
  have hss : (((ts.map (enc : Tr -> D)).set q (enc y)).set (q + 1) (enc x)).all isSh = true := by
    rw [hsw, List.all_append, List.all_cons, hall, hall, sh_enc]
    rfl
  have hix := ixN_at (n := ts.length) (j := q + 1) hq2
  rw [show ((q + 1 : Nat) : Int) = (q : Int) + 1 by omega] at hix r5
  rw [ixN_at (by omega)]
  walk_at "evl"
  (try rw [hax])
  (try walk_at "evl")
  rw [hix]
  walk_at "evl"
  have hs0 : ((ts.map (enc : Tr -> D)).set q (enc y)).all isSh = true := by rw [<- List.map_set]; exact hall _
  rw [if_pos hs0]
  walk_at "evl"
  rw [fzs_sh hss, r5]
  walk_at "evl"
  rw [r6]
  walk_at "evl"
end
end Py
namespace Py
open PySem L2
def dd_is_integer : DefX := ⟨fun K => ga K "is_integer", "is_integer", "is_integer", s_is_integer, [], [], false⟩
def dd_is_triple : DefX := ⟨fun K => ga K "is_triple", "is_triple", "is_triple", s_is_triple, [], [], false⟩
def dd_law_draws : DefX := ⟨fun K => ga K "_law_draws", "_law_draws", "_law_draws", s_law_draws, [], [], false⟩
def dd_law_triples : DefX := ⟨fun K => ga K "_law_triples", "_law_triples", "_law_triples", s_law_triples, [], [], false⟩
def dd_law_is_counts : DefX := ⟨fun K => ga K "_law_is_counts", "_law_is_counts", "_law_is_counts", s_law_is_counts, [], [], false⟩
def dd_law_refused : DefX := ⟨fun K => ga K "_law_refused", "_law_refused", "_law_refused", s_law_refused, [], [], false⟩
def dd_law : DefX := ⟨fun K => ga K "law", "law", "law", s_law, [], [], false⟩
def de_Counts___init__ : DefX := ⟨fun K => ma K "Counts" "__init__", "__init__", "Counts.__init__", s_Counts___init__, [], [], false⟩
def de_Counts___len__ : DefX := ⟨fun K => ma K "Counts" "__len__", "__len__", "Counts.__len__", s_Counts___len__, [], [], false⟩
def de_Counts___iter__ : DefX := ⟨fun K => ma K "Counts" "__iter__", "__iter__", "Counts.__iter__", s_Counts___iter__, [], [], false⟩
def de_Counts_left_total : DefX := ⟨fun K => pa K "Counts" "left_total", "left_total", "Counts.left_total", s_Counts_left_total, [], [], false⟩
def de_Counts_right_total : DefX := ⟨fun K => pa K "Counts" "right_total", "right_total", "Counts.right_total", s_Counts_right_total, [], [], false⟩
abbrev s_BadRow___init__ : Stmt := inClass (top 3) 0
def dx_BadRow : DefX := ⟨fun K => ma K "BadRow" "__init__", "__init__", "BadRow.__init__", s_BadRow___init__, [], [], true⟩
theorem exd_BadRow {P : Program} {K : PySem.W.Frag} {mg : Str -> Option Value} (T : PySem.PxE.ExTxt P K (ga K "BadRow") (ma K "BadRow" "__init__") (so "BadRow.__init__") (defArgs s_BadRow___init__) (defBody s_BadRow___init__) (defScope s_BadRow___init__) (["number"].map so)) (top : (P.main.scope.names.lookup ("super" : Str)).isSome = false) (gC : mg "BadRow" = some (.ref (ga K "BadRow"))) (gs : mg "super" = none) (kC : PySem.W.keepIn K (.ref (ga K "BadRow")) = true) : ExcD P K mg "BadRow" (ga K "BadRow") (["number"].map so) :=
  ⟨⟨_, _, _, _, _, T, ⟨_, _, _, rfl, ⟨_, _, _, _, _, _, _, rfl, fun _ _ _ _ => ⟨_, rfl⟩⟩, .cons (.nil)⟩, ⟨_, rfl, rfl⟩, by decide +kernel, rfl, rfl, by decide +kernel, rfl, rfl, rfl, fun us hl x doc pm an cdv ct cc => match us, hl with | [_], _ => rfl⟩, ⟨by simp, by decide +kernel, by decide, by decide +kernel⟩, top, gC, gs, kC⟩
abbrev s_BadCounts___init__ : Stmt := inClass (top 4) 0
def dx_BadCounts : DefX := ⟨fun K => ma K "BadCounts" "__init__", "__init__", "BadCounts.__init__", s_BadCounts___init__, [], [], true⟩
theorem exd_BadCounts {P : Program} {K : PySem.W.Frag} {mg : Str -> Option Value} (T : PySem.PxE.ExTxt P K (ga K "BadCounts") (ma K "BadCounts" "__init__") (so "BadCounts.__init__") (defArgs s_BadCounts___init__) (defBody s_BadCounts___init__) (defScope s_BadCounts___init__) (["number"].map so)) (top : (P.main.scope.names.lookup ("super" : Str)).isSome = false) (gC : mg "BadCounts" = some (.ref (ga K "BadCounts"))) (gs : mg "super" = none) (kC : PySem.W.keepIn K (.ref (ga K "BadCounts")) = true) : ExcD P K mg "BadCounts" (ga K "BadCounts") (["number"].map so) :=
  ⟨⟨_, _, _, _, _, T, ⟨_, _, _, rfl, ⟨_, _, _, _, _, _, _, rfl, fun _ _ _ _ => ⟨_, rfl⟩⟩, .cons (.nil)⟩, ⟨_, rfl, rfl⟩, by decide +kernel, rfl, rfl, by decide +kernel, rfl, rfl, rfl, fun us hl x doc pm an cdv ct cc => match us, hl with | [_], _ => rfl⟩, ⟨by simp, by decide +kernel, by decide, by decide +kernel⟩, top, gC, gs, kC⟩
def fnL : List DefX := [dd_is_integer, dd_is_triple, dd_law_draws, dd_law_triples, dd_law_is_counts, dd_law_refused, dd_law, de_Counts___init__, de_Counts___len__, de_Counts___iter__, de_Counts_left_total, de_Counts_right_total, dx_BadRow, dx_BadCounts]
def fileL : Str := PySem.Challenge.pw_anyhashes_k44_counts_keep_triples.main.file
def faL : List FB := [fGlo "is_integer", fGlo "is_triple", fGlo "_law_draws", fGlo "_law_triples", fGlo "_law_is_counts", fGlo "_law_refused", fGlo "law", fFree "len", fFree "range", fFree "abs", fFree "int", fFree "bool", fFree "str", fFree "list", fFree "tuple", fFree "isinstance", fFree "sorted", fFree "enumerate", fFree "zip", fFree "sum", fFree "any", fFree "all", fFree "max", fFree "min", fFree "dict", fFree "set", fFree "type", fFree "iter", fFree "super", fCls clsL, fNoat clsL fldL, fIsT clsL, fTO clsL, fOT clsL, fOO clsL subT, fDun clsL, fXm xL xsubT, fXv xL, fXc xL, fFree "ValueError", fGlo "JoinError", fGlo "BadRow", fExc "BadRow" "BadRow.__init__" ["number"] fileL, fGlo "BadCounts", fExc "BadCounts" "BadCounts.__init__" ["number"] fileL, fGlo "Counts", fMeth "Counts" "__init__", fMeth "Counts" "__len__", fMeth "Counts" "__iter__", fPr "Counts" "left_total", fPr "Counts" "right_total", fMkr "Counts"]
def nmL : List Str := (["_wall", "JoinError", "BadRow", "BadCounts", "is_integer", "is_triple", "Counts", "_law_draws", "_law_triples", "_law_is_counts", "_law_refused"] : List Str)
abbrev lawAt : Nat := 15
theorem fldL_ok (c f : String) (_ : c ∈ clsL) (h : TT.fOk c f = true) : f ∈ fldL c := List.contains_iff_mem.mp h
theorem factsL {P : Program} {w : World} {K : PySem.W.Frag} {h : Heap} {mg : Str -> Option Value} {f : Addr} (X : K.In h) (G : h.Ns mainGlobals mg) (hfa : mg ("law" : Str) = some (.ref f)) (c : SaysX faL fnL K) (hPf : ((P.main.file : Str) == fileL) = true) (hPs : (P.main.scope.names.lookup ("super" : Str)).isSome = false) :
    ∃ fd : FuncData, (∀ (s : Shared) (v : Value), BindsTo s fd ⟨[v], []⟩ [("_law_script", v)]) /\ ∀ base : Heap, K.In base -> base.Ns mainGlobals mg -> FnOk P w K mg base CX0 28 f fd A_law (spL K) := by
  let W : Wd TT := fLaw TT P w K clsL fldL fldL_ok subT (fun _ _ => rfl) xL xsubT (fun _ _ => rfl) (c.fact 36 (f := fXm xL xsubT) rfl) (c.fact 37 (f := fXv xL) rfl) (c.fact 38 (f := fXc xL) rfl) (c.fact 29 (f := fCls clsL) rfl) (c.fact 30 (f := fNoat clsL fldL) rfl) (c.fact 31 (f := fIsT clsL) rfl) (c.fact 32 (f := fTO clsL) rfl) (c.fact 33 (f := fOT clsL) rfl) (c.fact 34 (f := fOO clsL subT) rfl)
  have D_is_integer : DefAt K mg "is_integer" "is_integer" s_is_integer [] [] := by
    obtain ⟨fd, F⟩ := c.def_ 0 (d := dd_is_integer) rfl
    exact ⟨_, fd, F, He.glo_ok X G (c.fact 0 (f := fGlo "is_integer") rfl)⟩
  have D_is_triple : DefAt K mg "is_triple" "is_triple" s_is_triple [] [] := by
    obtain ⟨fd, F⟩ := c.def_ 1 (d := dd_is_triple) rfl
    exact ⟨_, fd, F, He.glo_ok X G (c.fact 1 (f := fGlo "is_triple") rfl)⟩
  have D_law_draws : DefAt K mg "_law_draws" "_law_draws" s_law_draws [] [] := by
    obtain ⟨fd, F⟩ := c.def_ 2 (d := dd_law_draws) rfl
    exact ⟨_, fd, F, He.glo_ok X G (c.fact 2 (f := fGlo "_law_draws") rfl)⟩
  have D_law_triples : DefAt K mg "_law_triples" "_law_triples" s_law_triples [] [] := by
    obtain ⟨fd, F⟩ := c.def_ 3 (d := dd_law_triples) rfl
    exact ⟨_, fd, F, He.glo_ok X G (c.fact 3 (f := fGlo "_law_triples") rfl)⟩
  have D_law_is_counts : DefAt K mg "_law_is_counts" "_law_is_counts" s_law_is_counts [] [] := by
    obtain ⟨fd, F⟩ := c.def_ 4 (d := dd_law_is_counts) rfl
    exact ⟨_, fd, F, He.glo_ok X G (c.fact 4 (f := fGlo "_law_is_counts") rfl)⟩
  have D_law_refused : DefAt K mg "_law_refused" "_law_refused" s_law_refused [] [] := by
    obtain ⟨fd, F⟩ := c.def_ 5 (d := dd_law_refused) rfl
    exact ⟨_, fd, F, He.glo_ok X G (c.fact 5 (f := fGlo "_law_refused") rfl)⟩
  have B : Blt mg := ⟨He.free_ok X G (c.fact 7 (f := fFree "len") rfl), He.free_ok X G (c.fact 8 (f := fFree "range") rfl), He.free_ok X G (c.fact 9 (f := fFree "abs") rfl), He.free_ok X G (c.fact 10 (f := fFree "int") rfl), He.free_ok X G (c.fact 11 (f := fFree "bool") rfl), He.free_ok X G (c.fact 12 (f := fFree "str") rfl), He.free_ok X G (c.fact 13 (f := fFree "list") rfl), He.free_ok X G (c.fact 14 (f := fFree "tuple") rfl), He.free_ok X G (c.fact 15 (f := fFree "isinstance") rfl), He.free_ok X G (c.fact 16 (f := fFree "sorted") rfl), He.free_ok X G (c.fact 17 (f := fFree "enumerate") rfl), He.free_ok X G (c.fact 18 (f := fFree "zip") rfl), He.free_ok X G (c.fact 19 (f := fFree "sum") rfl), He.free_ok X G (c.fact 20 (f := fFree "any") rfl), He.free_ok X G (c.fact 21 (f := fFree "all") rfl), He.free_ok X G (c.fact 22 (f := fFree "max") rfl), He.free_ok X G (c.fact 23 (f := fFree "min") rfl), He.free_ok X G (c.fact 24 (f := fFree "dict") rfl), He.free_ok X G (c.fact 25 (f := fFree "set") rfl), He.free_ok X G (c.fact 26 (f := fFree "type") rfl), He.free_ok X G (c.fact 27 (f := fFree "iter") rfl), He.free_ok X G (c.fact 28 (f := fFree "super") rfl)⟩
  have C : Cs W mg := ⟨fun c h => h,
    fDun_ok (fun c h => h) (fun c => rfl) (c.fact 35 (f := fDun clsL) rfl),
    (by simp [W, fLaw, clsL]),
    He.glo_ok X G (c.fact 45 (f := fGlo "Counts") rfl),
    (let ⟨fd, F⟩ := c.def_ 7 (d := de_Counts___init__) rfl; ⟨_, fd, F, He.meth_ok (c.fact 46 (f := fMeth "Counts" "__init__") rfl)⟩),
    (let ⟨fd, F⟩ := c.def_ 8 (d := de_Counts___len__) rfl; ⟨_, fd, F, He.meth_ok (c.fact 47 (f := fMeth "Counts" "__len__") rfl)⟩),
    (let ⟨fd, F⟩ := c.def_ 9 (d := de_Counts___iter__) rfl; ⟨_, fd, F, He.meth_ok (c.fact 48 (f := fMeth "Counts" "__iter__") rfl)⟩),
    (let ⟨fd, F⟩ := c.def_ 10 (d := de_Counts_left_total) rfl; ⟨_, _, fd, fPr_ok (c.fact 49 (f := fPr "Counts" "left_total") rfl), F⟩),
    (let ⟨fd, F⟩ := c.def_ 11 (d := de_Counts_right_total) rfl; ⟨_, _, fd, fPr_ok (c.fact 50 (f := fPr "Counts" "right_total") rfl), F⟩),
    ⟨_, He.mkr_ok (c.fact 51 (f := fMkr "Counts") rfl)⟩,
    He.free_ok X G (c.fact 39 (f := fFree "ValueError") rfl),
    (by simp [W, fLaw, xL]),
    He.glo_ok X G (c.fact 40 (f := fGlo "JoinError") rfl),
    (by simp [W, fLaw, xL]),
    He.glo_ok X G (c.fact 41 (f := fGlo "BadRow") rfl),
    (let z := fExc_ok (c.fact 42 (f := fExc "BadRow" "BadRow.__init__" ["number"] fileL) rfl) (c.cld 12 (d := dx_BadRow) rfl) hPf; exd_BadRow z.1 hPs (He.glo_ok X G (c.fact 41 (f := fGlo "BadRow") rfl)) B.super z.2),
    (by simp [W, fLaw, xL]),
    He.glo_ok X G (c.fact 43 (f := fGlo "BadCounts") rfl),
    (let z := fExc_ok (c.fact 44 (f := fExc "BadCounts" "BadCounts.__init__" ["number"] fileL) rfl) (c.cld 13 (d := dx_BadCounts) rfl) hPf; exd_BadCounts z.1 hPs (He.glo_ok X G (c.fact 43 (f := fGlo "BadCounts") rfl)) B.super z.2)⟩
  obtain ⟨fdL, FL⟩ := c.def_ 6 (d := dd_law) rfl
  have e := hfa.symm.trans (He.glo_ok X G (c.fact 6 (f := fGlo "law") rfl))
  cases e
  have b := FunD.bindsA (ps := A_law) FL bp_law
  refine ⟨fdL, fun s v => b s [v] rfl, fun base _ _ => ?_⟩
  exact ok_law (W := W) (ds_all (W := W) (base := base) D_is_integer D_is_triple D_law_draws D_law_triples D_law_is_counts D_law_refused C B 6) C FL B (spL_spR (W := W) (law_true W))
abbrev RowL : PySem.W.OpenRow := PySem.W.OpenLaw.row PySem.Challenge.rw_anyhashes_k44_counts_keep_triples
abbrev hkL : PySem.W.Hook := hookX 0 faL fnL
def obL (s : PySem.W.SharedT) : He.AlD := obsXG 0 faL fnL (HandSHeadRun.getT s)
theorem obL_eq (s : PySem.W.SharedT) : obL s = hkL.obs s.abs := obsXG_eq (HandSHeadRun.getT_eq s)
theorem runL (w : World) : HandSHeadRun.RunEq RowL (PySem.W.view RowL.prog [lawAt]) hkL obL 12000 nmL w := by
  intro os
  kernel_rfl
end Py
open PySem PySem.W PySem.Calls PyProof.Rows
theorem PySem.Challenge.cw_anyhashes_k44_counts_keep_triples_holds : PySem.Challenge.rw_anyhashes_k44_counts_keep_triples.Holds := by
  w_on; o_law
  refine HandSHeadRun.head_any (r := OpenLaw.row PySem.Challenge.rw_anyhashes_k44_counts_keep_triples) (q := view (OpenLaw.row PySem.Challenge.rw_anyhashes_k44_counts_keep_triples).prog [Py.lawAt]) (H := Py.hkL) (ob := Py.obL) (M := 12000) (loose := Py.nmL) (d := HandSHeadRun.topDef (OpenLaw.row PySem.Challenge.rw_anyhashes_k44_counts_keep_triples).prog Py.lawAt) (kwd := []) Py.obL_eq
    (by kernel_rfl) (fun s => by kernel_rfl) Py.runL (by kernel_rfl) (by kernel_rfl) (by kernel_rfl) (by rfl) (by first | assumption | decide +kernel) (by decide +kernel) ⟨rfl, rfl, rfl, rfl, rfl, by decide +kernel⟩ ?hw ?hc
  case hw => w_witness2
  case hc =>
    refine L2.walk_ofE (l := PySem.Challenge.rw_anyhashes_k44_counts_keep_triples) (n := 63) (k := 28) (x := "_law_script") (CX := L2.CX0) rfl (by decide) (by kernel_rfl) ⟨rfl, by decide, by decide⟩ ?F (fun _ _ _ _ z => z)
    intro w mg fa h Y G hmg0
    obtain ⟨K, KX, c⟩ := Y
    have hmg : mg ("law" : PySem.Str) = some (.ref fa) := by
      have e : (HandSHeadRun.topDef (OpenLaw.row PySem.Challenge.rw_anyhashes_k44_counts_keep_triples).prog Py.lawAt).name = ("law" : PySem.Str) := by kernel_rfl
      rw [<- e]
      exact hmg0
    obtain ⟨fd, hb, hF⟩ := Py.factsL (P := (PySem.Challenge.rw_anyhashes_k44_counts_keep_triples).prog) (w := w) KX G hmg c (by kernel_rfl) (by kernel_rfl)
    exact ⟨K, fd, Py.spL K, KX, hb, fun H a ns hl _ hS => Py.spL_in hl hS, hF⟩
