import PyProof.Rows.All
import Wide.All
import OpenK.AllK
import Wide.FinOn
import KE.KFromBytes
import KE.KSuper
import KE.KExcSuper
import KE.KExcIs
import HandS.ForMost
import HandS.Exc
import HandS.ExcOwn
import HandS.ExcSuper
import HandS.TryOnly
import HandS.TryMany
import HandS.CallSlots
import HandS.ExcIs
import KE.KDictKeyed
import HandS.IsInst
import HandS.Wide
import HandS.Defaults
import HandS.Zip
import HandS.More
import KE.SortData
import HandS.Property
import HandS.MakeKwOnly
import HandS.SortKw
import HandS.IterVal
import HandS.OwnIter
import HandS.OwnEq
import KE.DataMinMax
import KE.KTupSum
import HandS.Deep
import HandS.Dict
import HandS.DictComp
import HandS.NoneIn
import HandS.SetKeys
import HandS.Iter
import HandS.SetFor
import HandS.Strs
import PyProof.Rows.SetFrom
import HandS.ExcField
import KE.GoesMore
import PyProof.Draws
import HandS.Conv
import HandS.TupLen
import KE.KWithOwn
import HandS.GenList
import HandS.GenYield
import HandS.TupAny
import HandS.Style
import HandS.ClsMeth
import HandS.Nested
import HandS.New0
import KE.GoesComp
import KE.GoesRaise
import HandS.HeadHook2
import HandS.HeadNt
import HandS.Head0
import HandS.Head1
import HandS.Head2
import HandS.HeadEnd
import HandS.HeadHook1
import PySem.Challenge.RW_anyhashes_k81_paths_with_wrong_parts
set_option Elab.async false
set_option linter.all false
set_option maxRecDepth 100000
set_option maxHeartbeats 8000000
namespace PySem
namespace PxE
open PySem.W PySem.Calls PyProof.Rows PySem.HandSPX
abbrev selfN : Str := "self"
inductive IsAsgs : List Stmt -> List Str -> Prop
  | nil : IsAsgs [] []
  | cons {f : Str} {p1 p2 p3 p4 : Pos} {r : List Stmt} {fs : List Str} : IsAsgs r fs -> IsAsgs (.Assign [.Attribute (.Name "self" p1) f p2] (.Name f p3) p4 :: r) (f :: fs)
def IsSup (qual : Str) (scope : Scope) (msg : Str) (s : Stmt) : Prop := ∃ (p0 p1 p2 p3 p4 p5 : Pos) (k : Nat), s = .Expr (.Call (.Attribute (.Call (.Name "super" p0) [] [] p1) "__init__" p2) [.Constant (.str msg) k p3] [] p4) p5 /\
  ∀ (L a : Addr) (cd : Value) (cc : Addr), ∃ pl : PySem.Sem Bool, eval (.Call (.Attribute (.Call (.Name "super" p0) [] [] p1) "__init__" p2) [.Constant (.str msg) k p3] [] p4) (ksEnv qual scope L a cd cc) = (do
      let ov <- attributeBase (.Call (.Name "super" p0) [] [] p1) "__init__" (ksEnv qual scope L a cd cc) (eval (.Call (.Name "super" p0) [] [] p1) (ksEnv qual scope L a cd cc))
      standAt p2.atName
      let (f, first) <- holding [ov] (getMethod ov "__init__" pl)
      callWith p4 f first (backTo p4 (starEach [.Constant (.str msg) k p3] (ksEnv qual scope L a cd cc))) [])
structure ExTxt (P : Program) (K : Frag) (C fI : Addr) (qual : Str) (params : Arguments) (body : List Stmt) (scope : Scope) (fs : List Str) : Prop where
  cls : excInitIn K C veTail "ValueError.__new__" = true
  cdt : ∃ cd, clsIn K C = some cd /\ refsVE cd.mro = true /\ cd.hasDict = true
  sa : findIn K (.ref C) "__setattr__" = some (some (.builtin "object.__setattr__"))
  noN : ∀ f ∈ fs, findIn K (.ref C) f = some none
  iC : findIn K (.ref C) "__init__" = some (some (.ref fI))
  tC : typeIn K (.ref fI) = some (.type "function")
  exC : subIn K (.ref C) (.type "BaseException") = some true
  veC : subIn K (.ref C) (.type "ValueError") = some true
  tyC : typeIn K (.ref C) = some (.type "type")
  opq : nsIn K cStatics "thirdparty.any" = some none
  sup : ks_superIn K C C "__init__" = some (some (.builtin "ValueError.__init__"))
  slf : mroIn K C (.ref C) = some true
  fn : ∃ (oc : Value) (od : Option Addr) (doc pm : Value) (an : Option Addr) (ct : Value) (osl : Array (Option Value)) (cda cc : Addr) (ccl : Value) (cdd : Option Addr) (vs : Array Value) (ccs : Array (Option Value)) (file : Str) (tf : Tok) (cl : Value) (cld : Option Addr) (csl : Array (Option Value)),
    K.lookup fI = some ⟨oc, od, .func (ksFn "__init__" qual params body scope .none .none doc pm an (.ref cda) ct cc), osl⟩ /\ codeIn K (.ref cda) qual = true /\ K.lookup cda = some ⟨ccl, cdd, .fields vs, ccs⟩ /\ vs[2]? = some (.str file tf) /\ ((P.main.file : Str) == file) = true /\
      K.lookup cc = some ⟨cl, cld, .cell (some (.ref C)), csl⟩
section
open Builtin Builtin.ObjectAttr
variable {prog : Program} {w : World} {A : Around} {E : Value -> Shared -> Prop} {R : Result -> Shared -> Prop} {hp : Heap} {g : Array GenState} {d : Drawn} {t : Nat} {os : OsState}
theorem osa_old {K : W.Frag} {name : Str} {tk : Tok} {v : Value} {x C dx : Addr} {fv : Array Value} {cd : ClassData} {m0 : Str -> Option Value} {nl : List Str}
    (X : K.In hp) (hx : hp.get? x = some { cls := .ref C, dict := some dx, data := .fields fv }) (hns : hp.Ns1 dx m0) (hw : Within m0 nl) (hz : nl.length <= 1000) (hcd : W.clsIn K C = some cd) (hm : refsVE cd.mro = true) (hh : cd.hasDict = true)
    (ha : W.findIn K (.ref C) name = some none)
    (hq : ∀ h' tk', (∀ b o, b ≠ dx -> hp.get? b = some o -> h'.get? b = some o) -> h'.Ns1 dx (fun y => if y = name then some v else m0 y) -> R (.ok (.ret .none)) ⟨h', g, d, tk', os⟩) :
    codeAny (model prog w) A (.call (.builtin "object.__setattr__") ⟨[.ref x, .str name tk, v], []⟩) R ⟨hp, g, d, t, os⟩ := by
  obtain ⟨oD, esD, epD, hoD, hdD, _⟩ := hns.count hw
  have I : W.InstAt hp x { cls := .ref C, dict := some dx, data := .fields fv } C (some oD) := ⟨hx, rfl, rfl, hoD⟩
  have SF := F.store_object
  have ne := refsVE_ne hm
  have hob : cd.mro.contains (.type "object") = true := (refsVE_contains "object" _ hm).trans (by decide +kernel)
  have sub : W.Looks (model prog w) hp (isInstance (.ref x) (.type "object")) true := I.type.andThen (W.looks_mroIn X (by unfold W.mroIn; rw [hcd, Option.bind_some, if_neg (by rw [ne]; decide), hob]))
  refine codeAny_call_builtin SF.slot.plain SF.entry (@W.check_slot (model prog w) _ _ ⟨hp, g, d, t, os⟩ "object.__setattr__" "object" "__setattr__" (.ref x) [.str name tk, v] [] _ SF.kind SF.split sub (SF.args (.ref x) (.str name tk) v) ?_)
  have hmr : W.Looks (model prog w) hp (mroOf (.ref C)) cd.mro := (W.looks_clsIn X hcd).andThen .now
  have L3 : W.Looks (model prog w) hp (storeTaker? none) none := .now
  have hcls : W.Looks (model prog w) hp (classData C) cd := W.looks_clsIn X hcd
  rw [W.osa_eq, refuse_eq]
  refine wpAny_bind (wpAny_bind (I.type.at (wpAny_bind (hmr.at ?_))))
  rw [refsVE_pass _ _ hm]
  refine wpAny_pure (wpAny_bind (I.type.at (wpAny_bind ((W.looks_findIn X ha).at (wpAny_bind (L3.at ?_))))))
  show wpAny _ _ (storeInOwnDict (.ref x) (.ref C) (.str name tk) name v false) _ _ _
  obtain ⟨nm, bs, mro, ns, qn, hd, sn, sb, ab, col, del⟩ := cd
  dsimp only at hh
  subst hh
  unfold storeInOwnDict ownDictForStores
  repeat (first | with_reducible refine ESX.store_in_old hns hw hz ?_ | with_reducible refine wpAny_loadPart_at hx ?_ | with_reducible refine hcls.at ?_ | wp_step)
  intro h' tk' hn' hs
  exact hq h' tk' (fun b o hb ho => (hs.2 b hb).trans ho) hn'
theorem call_mw {u e C t0 : Addr} {rest : List Value} {Q : Value -> Shared -> Prop} {nm q : Str} {N : Addr} {bs bm : List Value} {hdct : Bool} {sn : List Str} {sub : List Value} {ab : Bool} {col : Option Bool} {dd : Option Addr} {k0 k1 k2 k3 k5 : Option Value}
    (hC : hp.get? C = some (excClassObj nm q C N bs bm hdct sn sub ab col dd k0 k1 k2 k3 k5 "ValueError.__new__")) (he : hp.get? e = some (excO C t0)) (hu : hp.get? u = some (kxs_mw "ValueError.__init__" e)) (hrest : rest.length <= sizeLine)
    (hq : ∀ h' t1, (∀ b o, b ≠ e -> hp.get? b = some o -> h'.get? b = some o) -> h'.get? e = some (excO C t1) -> Q .none ⟨h', g, d, t, os⟩) :
    wpAny (model prog w) A (call (.ref u) rest) Q E ⟨hp, g, d, t, os⟩ := by
  refine wpAny_call (codeAny_of_tree ?_)
  show wpAny _ A.in1 (callAny (.ref u) ⟨rest, []⟩) _ _ _
  simp only [callAny]
  refine wpAny_bind (wpAny_load hu ?_)
  simp only [kxs_mw, show (Value.type "method-wrapper" == Value.type "method" || Value.type "method-wrapper" == Value.type "builtin_function_or_method" || Value.type "method-wrapper" == Value.type "method-wrapper") = true by decide, if_true]
  refine W.KFB.if_so (by decide) ?_
  refine wpAny_bind (check_bound_init PySem.F.excBase_ValueError.toExcCallFacts hC he rfl ?_)
  refine wpAny_bind (wpAny_pure (wpAny_pure ?_))
  refine ⟨plainId_quiet PySem.F.excBase_ValueError.init.plain _, codeAny_builtin PySem.F.excBase_ValueError.initEntry ?_⟩
  refine exc_init_tree (cls := .ref C) (t0 := t0) (dv := none) (c2 := .none) (c3 := .none) (b4 := .bool false) he hrest fun h' k e' _ => ?_
  exact hq h' _ k e'
theorem callWith_mw {M : Model} {s : Shared} {pos : Pos} {u x : Addr} {first : List Value} {env : Env} {e : Expr} {rest : List Expr} {Q : Value -> Shared -> Prop} {i : String}
    (h : wpAny M A (spliced (backTo pos (starEach (e :: rest) env))) (fun vs s₁ => KxsAt i u x s₁.heap /\ wpAny M A (call (.ref u) (first ++ vs)) Q E s₁) E s)
    (he : starEach (e :: rest) env = (false, eval e env) :: starEach rest env := by rfl) (hplain : (backTo pos (starEach rest env)).any (·.1) = false := by rfl) :
    wpAny M A (callWith pos (.ref u) first (backTo pos (starEach (e :: rest) env)) []) Q E s := by
  rw [he] at h ⊢
  refine kxs_callWith (i := i) (x := x) (by show (false || (backTo pos (starEach rest env)).any (·.1)) = false; rw [hplain]; rfl) ?_
  exact evalArgs_plain h
end
structure Stored (h h' : Heap) (x C dx : Addr) (t1 : Addr) (m : Str -> Option Value) : Prop where
  keep : ∀ b o, b ≠ x -> b ≠ dx -> h.get? b = some o -> h'.get? b = some o
  obj : h'.get? x = some { cls := .ref C, dict := some dx, data := .fields #[.ref t1, .none, .none, .none, .bool false, .none] }
  ns : h'.Ns1 dx m
theorem lookup_snoc {f : Str} {v : Value} : ∀ {l : List (Str × Value)} (y : Str), f ∉ l.map (·.1) -> (if y = f then some v else l.lookup y) = (l ++ [(f, v)]).lookup y
  | [], y, _ => by
    by_cases e : y = f
    · subst e; simp [List.lookup]
    · simp [List.lookup, e, beq_eq_false_iff_ne.mpr e]
  | (k, u) :: l, y, hn => by
    have h1 : f ≠ k := fun z => hn (by rw [z]; simp)
    have h2 : f ∉ l.map (·.1) := fun z => hn (by simp at z ⊢; exact .inr z)
    have ih := lookup_snoc (v := v) y h2
    by_cases e : y = k
    · subst e
      rw [if_neg (Ne.symm h1)]
      simp [List.lookup]
    · have e' : (y == k) = false := beq_eq_false_iff_ne.mpr e
      simp only [List.cons_append, List.lookup_cons, e']
      exact ih
theorem within_lookup : ∀ (l : List (Str × Value)), Within (fun y => l.lookup y) (l.map (·.1)) := fun l y v => by
  cases e : List.lookup y l with
  | none => exact absurd e v
  | some u =>
    obtain ⟨l1, l2, rfl, _⟩ := List.lookup_eq_some_iff.mp e
    simp
section
variable {prog : Program} {w : World} {A : Around} {E : Value -> Shared -> Prop} {K : Frag} {C : Addr}
theorem ldX {M : Model} {s : Shared} {env : Env} {m : Str -> Option Value} {x : Str} {pos : Pos} {v : Value} {Q : Value -> Shared -> Prop} (hn : s.heap.Ns env.locals m) (hv : m x = some v) (h : Q v s)
    (hk : env.scope.kind = .function) (hl : env.kindOf x = some .local) (hd : (x == ("__debug__" : Str)) = false) : wpAny M A (eval (.Name x pos) env) Q E s := wpAny_Name (wpAny_loadName_local hk hl hn hv h) hd
theorem stores {cd : ClassData} {env : Env} {m : Str -> Option Value} {x dx t1 : Addr} (hcd : clsIn K C = some cd) (hve : refsVE cd.mro = true) (hdi : cd.hasDict = true) (sa : findIn K (.ref C) "__setattr__" = some (some (.builtin "object.__setattr__")))
    (hk : env.scope.kind = .function) (hs : env.kindOf selfN = some .local) (hms : m selfN = some (.ref x)) (hKx : K.lookup x = none) (hxL : x ≠ env.locals) (hdL : dx ≠ env.locals) (hdx : dx ≠ x) (hKd : K.lookup dx = none) :
    ∀ {ss : List Stmt} {fs : List Str} {us : List Value} {done : List (Str × Value)} {s : Shared} {Q : Flow -> Shared -> Prop}, IsAsgs ss fs -> fs.length = us.length -> (∀ f ∈ fs, findIn K (.ref C) f = some none /\ env.kindOf f = some .local /\ (f == ("__debug__" : Str)) = false) -> (∀ p ∈ fs.zip us, m p.1 = some p.2) ->
      (done.map (·.1) ++ fs).Nodup -> (done.map (·.1) ++ fs).length <= 1000 -> K.In s.heap -> s.heap.Ns env.locals m -> s.heap.get? x = some { cls := .ref C, dict := some dx, data := .fields #[.ref t1, .none, .none, .none, .bool false, .none] } -> s.heap.Ns1 dx (fun y => done.lookup y) ->
      (∀ h' tk, Stored s.heap h' x C dx t1 (fun y => (done ++ fs.zip us).lookup y) -> Q .next { s with heap := h', toks := tk }) -> wpAny (model prog w) A (execs ss env) Q E s
  | _, _, [], done, s, Q, .nil, _, _, _, _, _, X, hn, hx, hd, q => wpAny_execs_nil (q s.heap s.toks ⟨fun b o _ _ e => e, hx, by simpa using hd⟩)
  | _, _, u :: us, done, s, Q, .cons (f := f) (fs := fs) (r := r) hr, hl, hf, hm, nd, hz, X, hn, hx, hd, q => by
    obtain ⟨hno, hkf, hdb⟩ := hf f (List.mem_cons_self ..)
    refine wpAny_execs_cons (plainObj_wpAny_Assign_Attribute ?_)
    refine ldX (v := u) hn (hm (f, u) (by simp)) (ldX (v := .ref x) hn hms ?_ hk hs (by decide)) hk hkf hdb
    obtain ⟨oD, esD, epD, hoD, hdD, _⟩ := hd.count (within_lookup done)
    refine set_plain X (ox := { cls := .ref C, dict := some dx, data := .fields #[.ref t1, .none, .none, .none, .bool false, .none] }) (od := some oD) ⟨hx, rfl, rfl, hoD⟩ sa ?_
    have hnd : f ∉ done.map (·.1) := fun z => (List.nodup_append.mp nd).2.2 f z f (List.mem_cons_self ..) rfl
    obtain ⟨hp, g, dr, tk, os⟩ := s
    refine osa_old X hx hd (within_lookup done) (by rw [List.length_append] at hz; omega) hcd hve hdi hno (fun h3 tk3 k3 hn3 => ?_)
    have hn3' : h3.Ns1 dx (fun y => (done ++ [(f, u)]).lookup y) := by
      have e : (fun y => if y = f then some u else done.lookup y) = fun y => (done ++ [(f, u)]).lookup y := funext fun y => lookup_snoc y hnd
      rw [<- e]; exact hn3
    show wpAny _ _ (execs _ _) _ _ _
    have kx : h3.get? x = some { cls := .ref C, dict := some dx, data := .fields #[.ref t1, .none, .none, .none, .bool false, .none] } := k3 _ _ (Ne.symm hdx) hx
    have X3 : K.In h3 := fun a o e => k3 a o (fun z => by rw [z, hKd] at e; cases e) (X a o e)
    have hnL : h3.Ns env.locals m := by
      obtain ⟨oL, es, ep, hL, r⟩ := hn
      exact ⟨oL, es, ep, k3 _ _ (Ne.symm hdL) hL, r⟩
    refine stores hcd hve hdi sa hk hs hms hKx hxL hdL hdx hKd (s := ⟨h3, g, dr, tk3, os⟩) (us := us) (done := done ++ [(f, u)]) hr (by simpa using hl) (fun f' m' => hf f' (List.mem_cons_of_mem _ m')) (fun p hp => hm p (by simp; exact .inr hp)) ?_ ?_ X3 hnL kx hn3' fun h' tk' S => ?_
    · simpa [List.append_assoc] using nd
    · simpa [List.append_assoc] using hz
    · refine q h' tk' ⟨fun b o h1 h2 e => S.keep b o h1 h2 (k3 b o h2 e), S.obj, ?_⟩
      have := S.ns
      rwa [List.append_assoc] at this
structure OwnMade (h h' : Heap) (e C d : Addr) (m : Str -> Option Value) : Prop where
  keep : ∀ b o, h.get? b = some o -> h'.get? b = some o
  new : h.objs.size <= e
  obj : ∃ oe vs, h'.get? e = some oe /\ oe.cls = .ref C /\ oe.dict = some d /\ oe.data = .fields vs /\ vs[1]? = some .none
  dbig : h.objs.size <= d
  dne : d ≠ e
  ns : h'.Ns1 d m
theorem none_big {h : Heap} (X : K.In h) {a : Addr} (ha : h.objs.size <= a) : K.lookup a = none := by
  cases e : K.lookup a with
  | none => rfl
  | some o => exact absurd (Heap.lt_size (X _ _ e)) (Nat.not_lt.mpr ha)
theorem ns_keep {h h' : Heap} {L x : Addr} {m : Str -> Option Value} (hn : h.Ns L m) (k : ∀ b o, b ≠ x -> h.get? b = some o -> h'.get? b = some o) (ne : L ≠ x) : h'.Ns L m := by
  obtain ⟨oL, es, ep, hL, r⟩ := hn
  exact ⟨oL, es, ep, k _ _ ne hL, r⟩
structure InitEnd (h h' : Heap) (x C dx t1 : Addr) (m : Str -> Option Value) : Prop where
  keep : ∀ b o, b ≠ x -> h.get? b = some o -> h'.get? b = some o
  obj : h'.get? x = some { cls := .ref C, dict := some dx, data := .fields #[.ref t1, .none, .none, .none, .bool false, .none] }
  dbig : h.objs.size <= dx
  dne : dx ≠ x
  ns : h'.Ns1 dx m
theorem ex_init {R : Result -> Shared -> Prop} {s : Shared} {fI : Addr} {qual : Str} {params : Arguments} {body : List Stmt} {scope : Scope} {fs : List Str} {mg mb : Str -> Option Value} {us : List Value} {x t0 : Addr}
    (T : ExTxt prog K C fI qual params body scope fs) (hb : ∃ b0 ss msg, body = b0 :: ss /\ IsSup qual scope msg b0 /\ IsAsgs ss fs) (hfs : fs ≠ []) (hl : fs.length = us.length)
    (nd : fs.Nodup) (hz : fs.length <= 1000) (hself : selfN ∉ fs)
    (hhead : ∃ ar : Arg, (params.posonlyargs ++ params.args).head? = some ar /\ ar.arg = selfN)
    (hloc : ∀ f ∈ selfN :: fs, scope.names.lookup f = some .local /\ (f == ("__debug__" : Str)) = false) (hsup : scope.names.lookup ("super" : Str) = some .globalImplicit) (hcl : scope.names.lookup ("__class__" : Str) = some .free)
    (hcell : ∀ x ∈ scope.names, x.2 ≠ .cell) (hco : scope.isCoroutine = false) (hgen : scope.isGenerator = false) (hk : scope.kind = .function)
    (htop : (prog.main.scope.names.lookup ("super" : Str)).isSome = false)
    (hbind : ∀ (doc pm : Value) (an : Option Addr) (cdv ct : Value) (cc : Addr), bindArgs (ksFn "__init__" qual params body scope .none .none doc pm an cdv ct cc) ⟨.ref x :: us, []⟩ = pure ((selfN, Value.ref x) :: fs.zip us))
    (X : K.In s.heap) (hlim : s.heap.NoLimit) (hG : s.heap.Ns mainGlobals mg) (hms : mg "super" = none) (hB : s.heap.Ns builtinsNs mb) (hmb : mb "super" = some (.type "super"))
    (hx : s.heap.get? x = some (excO C t0)) (hnx : K.lookup x = none) (hroom : A.depth < recursionLimit)
    (hq : ∀ h' tk dx t1, InitEnd s.heap h' x C dx t1 (fun y => (fs.zip us).lookup y) -> R (.ok (.ret .none)) { s with heap := h', toks := tk }) :
    codeAny (model prog w) A (.call (.ref fI) ⟨.ref x :: us, []⟩) R s := by
  obtain ⟨sc1, sc2, sc3, sc4, sc5⟩ := scope
  dsimp only at hco hgen hk
  subst hco hgen hk
  obtain ⟨oc, od, doc, pm, an, ct, osl, cda, cc, ccl, cdd, vs, ccs, file, tf, cl, cld, csl, ho, hcd, hcode, hvs, hfile, hcc⟩ := T.fn
  obtain ⟨b0, ss, msg, rfl, ⟨p0, p1, p2, p3, p4, p5, k, rfl, hev⟩, hss⟩ := hb
  obtain ⟨cd, hcdt, hve, hdi⟩ := T.cdt
  obtain ⟨ar, har, hars⟩ := hhead
  have hmap : (fs.zip us).map (·.1) = fs := by rw [List.map_fst_zip (by omega)]
  have hnodup : ((selfN, Value.ref x) :: fs.zip us).map (·.1) |>.Nodup := by
    rw [List.map_cons, hmap]; exact List.nodup_cons.mpr ⟨hself, nd⟩
  have hmem : ∀ p ∈ (selfN, Value.ref x) :: fs.zip us, ((selfN, Value.ref x) :: fs.zip us).reverse.lookup p.1 = some p.2 := by
    intro p hp
    obtain ⟨l1, l2, e⟩ := List.append_of_mem (List.mem_reverse.mpr hp)
    refine List.lookup_eq_some_iff.mpr ⟨l1, l2, e, fun q hq => ?_⟩
    have h2 : ((((selfN, Value.ref x) :: fs.zip us).map (·.1)).reverse).Nodup := List.pairwise_reverse.mpr (hnodup.imp fun h => Ne.symm h)
    rw [<- List.map_reverse, e, List.map_append, List.map_cons] at h2
    have h3 := (List.nodup_append.mp h2).2.2 q.1 (List.mem_map_of_mem hq) p.1 (List.mem_cons_self ..)
    exact bne_iff_ne.mpr fun z => h3 z.symm
  refine ks_codeAny_call_defAt (fd := ksFn "__init__" qual params (_ :: ss) _ .none .none doc pm an (.ref cda) ct cc) (binds := (selfN, Value.ref x) :: fs.zip us) hroom (X _ _ ho) rfl hlim (codeRec_of X hcd) rfl (BindsTo.of_eq (hbind ..)) hcell
    (fun y hy => ?_) (fun h₁ hn k1 => ?_) rfl rfl rfl
  · refine (hloc y.1 ?_).1
    rcases List.mem_cons.mp hy with rfl | hy
    · exact List.mem_cons_self ..
    · exact List.mem_cons_of_mem _ (List.of_mem_zip (show (y.1, y.2) ∈ fs.zip us from hy)).1
  have hxs : x < s.heap.objs.size := Heap.lt_size hx
  have hxL : x ≠ s.heap.objs.size := Nat.ne_of_lt hxs
  have X1 : K.In h₁ := X.keeps k1
  have hx1 := k1 _ _ hx
  obtain ⟨oD, hD1, hD2⟩ : ∃ oD, h₁.get? C = some oD /\ oD.data = .cls cd := by
    have hcdt' := hcdt
    unfold clsIn at hcdt'
    split at hcdt'
    · rename_i c d cd' sl ho
      cases hcdt'
      exact ⟨_, X1 _ _ ho, rfl⟩
    · cases hcdt'
  have hxC : x ≠ C := fun z => by
    have hcdt' := hcdt
    unfold clsIn at hcdt'
    rw [<- z, hnx] at hcdt'
    cases hcdt'
  obtain ⟨pl, hev⟩ := hev s.heap.objs.size fI (.ref cda) cc
  refine ks_wpAt_execs_cons (ks_wpAt_Expr_any (ks_wpAt_MethodCall (pl := pl) ?_ hev))
  refine ks_wpAt_super_base (ar := ar) hsup hcl (by decide) rfl (X1 _ _ ho) rfl har rfl (X1 _ _ hcode) rfl hvs hfile htop ?_
  refine ks_loadName_global rfl hsup (loadGlobal_builtin (hG.keeps k1) hms (hB.keeps k1) hmb ⟨rfl, ?_⟩)
  refine wpAny_loadName_free rfl hcl rfl ⟨_, X1 _ _ hcc, rfl⟩ ?_
  rw [hars]
  refine wpAny_loadName_local rfl (hloc _ (List.mem_cons_self ..)).1 hn (hmem _ (List.mem_cons_self ..)) ?_
  refine ks_wpAny_isType_cls hD1 hD2 ⟨rfl, ?_⟩
  refine ks_wpAny_call_super hD1 hD2 hx1 rfl (fun c e => by cases e) (looks_mroIn X1 T.slf) (fun h2 e2 k2 => ?_)
  have X2 : K.In h2 := X1.keeps k2
  have hx2 := k2 _ _ hx1
  have I2 : InstAt h2 x (excO C t0) C none := ⟨hx2, rfl, rfl, trivial⟩
  have hsup2 : alongIn K "__init__" ((cd.mro.dropWhile (· != .ref C)).drop 1) = some (some (.builtin "ValueError.__init__")) := by
    have := T.sup
    unfold ks_superIn at this
    rwa [hcdt] at this
  refine kxs_getMethod kxs_ValueError e2 (looks_opaque X2 T.opq) (l₀ := cd.mro) (fun A Q E s k q => wpAny_bind ((looks_clsIn X2 hcdt) A _ E s k (wpAny_pure q))) rfl X2 hsup2 (I2.type.andThen (looks_subIn X2 T.veC)) hxC (by decide) ?_
  refine callWith_mw (i := "ValueError.__init__") (x := x) (first := []) (spliced_more (Calls.Constant_str (spliced_none ⟨Heap.get?_push_at rfl rfl, ?_⟩)))
  have k3 : ∀ b o, h2.get? b = some o -> (h2.push (kxs_mw "ValueError.__init__" x)).get? b = some o := fun b o e => Heap.get?_push_of_some _ e
  obtain ⟨nm, N', qn, bs, bm, hdct, sn, sub, ab, col, dd, k0, k1', k2', k3', k5, hC, hT⟩ := excInit_of (X2.keeps k3) T.cls
  refine call_mw hC (k3 _ _ hx2) (Heap.get?_push_at rfl rfl) (by rw [sizeLine_eq]; exact (by decide : 1 <= 16777216)) fun h4 t1 k4 hx4 => ?_
  have kk : ∀ b o, b ≠ x -> h₁.get? b = some o -> h4.get? b = some o := fun b o ne e => k4 b o ne (k3 b o (k2 b o e))
  have X4 : K.In h4 := fun a o e => kk a o (fun z => by rw [z, hnx] at e; cases e) (X1 a o e)
  have hn4 := ns_keep hn kk (Ne.symm hxL)
  show wpAt _ _ _ (execs ss _) _ _ _
  refine wpAt_of_wpAny ?_
  cases hss with
  | nil => exact absurd rfl hfs
  | @cons f q1 q2 q3 q4 r fs hr =>
    cases us with
    | nil => simp at hl
    | cons u us =>
      refine wpAny_execs_cons (plainObj_wpAny_Assign_Attribute ?_)
      have hf := hloc f (List.mem_cons_of_mem _ (List.mem_cons_self ..))
      refine ldX (v := u) hn4 (hmem (f, u) (by simp)) (ldX (v := .ref x) hn4 (hmem _ (List.mem_cons_self ..)) ?_ rfl (hloc _ (List.mem_cons_self ..)).1 (by decide)) rfl hf.1 hf.2
      refine set_plain X4 (ox := excO C t1) (od := none) ⟨hx4, rfl, rfl, trivial⟩ T.sa ?_
      refine exc_osa X4 hx4 hcdt hve hdi (T.noN f (List.mem_cons_self ..)) (fun h5 tk5 dx k5 dn dne hx5 hn5 => ?_)
      show wpAny _ _ (execs _ _) _ _ _
      have hLlt : s.heap.objs.size < h4.objs.size := hn4.lt
      have X5 : K.In h5 := fun a o e => k5 a o (fun z => by rw [z, hnx] at e; cases e) (X4 a o e)
      have e5 : (fun y => if y = f then some u else none) = fun y => List.lookup y [(f, u)] := funext fun y => by
        have := lookup_snoc (l := []) (v := u) (f := f) y (by simp)
        simpa using this
      rw [e5] at hn5
      refine stores (w := w) (env := ksEnv qual _ s.heap.objs.size fI (.ref cda) cc) hcdt hve hdi T.sa (x := x) (dx := dx) (t1 := t1) (m := _) rfl (hloc _ (List.mem_cons_self ..)).1 (hmem _ (List.mem_cons_self ..)) hnx hxL (Nat.ne_of_gt (Nat.lt_of_lt_of_le hLlt dn)) dne (none_big X4 dn)
        (done := [(f, u)]) (us := us) hr (by simpa using hl) (fun f' m' => ?_) (fun p hp => hmem p (by simp; exact .inr (.inr hp))) (by simpa using nd) (by simpa using hz) X5 (ns_keep hn4 k5 (Ne.symm hxL)) hx5 hn5 fun h' tk' S => ?_
      · have := hloc f' (List.mem_cons_of_mem _ (List.mem_cons_of_mem _ m'))
        exact ⟨T.noN f' (List.mem_cons_of_mem _ m'), this.1, this.2⟩
      · refine hq h' tk' dx t1 ⟨fun b o ne e => ?_, S.obj, Nat.le_of_lt (Nat.lt_of_lt_of_le hLlt dn), dne, S.ns⟩
        refine S.keep b o ne (fun z => ?_) (k5 b o ne (kk b o ne (k1 b o e)))
        subst z
        exact absurd (Heap.lt_size e) (Nat.not_lt.mpr (Nat.le_of_lt (Nat.lt_of_lt_of_le hLlt dn)))
theorem ex_made {R : Result -> Shared -> Prop} {s : Shared} {fI : Addr} {qual : Str} {params : Arguments} {body : List Stmt} {scope : Scope} {fs : List Str} {mg mb : Str -> Option Value} {us : List Value}
    (T : ExTxt prog K C fI qual params body scope fs) (hb : ∃ b0 ss msg, body = b0 :: ss /\ IsSup qual scope msg b0 /\ IsAsgs ss fs) (hfs : fs ≠ []) (hl : fs.length = us.length)
    (nd : fs.Nodup) (hz : fs.length <= 1000) (hself : selfN ∉ fs)
    (hhead : ∃ ar : Arg, (params.posonlyargs ++ params.args).head? = some ar /\ ar.arg = selfN)
    (hloc : ∀ f ∈ selfN :: fs, scope.names.lookup f = some .local /\ (f == ("__debug__" : Str)) = false) (hsup : scope.names.lookup ("super" : Str) = some .globalImplicit) (hcl : scope.names.lookup ("__class__" : Str) = some .free)
    (hcell : ∀ x ∈ scope.names, x.2 ≠ .cell) (hco : scope.isCoroutine = false) (hgen : scope.isGenerator = false) (hk : scope.kind = .function)
    (htop : (prog.main.scope.names.lookup ("super" : Str)).isSome = false)
    (hbind : ∀ (x : Addr) (doc pm : Value) (an : Option Addr) (cdv ct : Value) (cc : Addr), bindArgs (ksFn "__init__" qual params body scope .none .none doc pm an cdv ct cc) ⟨.ref x :: us, []⟩ = pure ((selfN, .ref x) :: fs.zip us))
    (X : K.In s.heap) (hlim : s.heap.NoLimit) (hG : s.heap.Ns mainGlobals mg) (hms : mg "super" = none) (hB : s.heap.Ns builtinsNs mb) (hmb : mb "super" = some (.type "super"))
    (hroom : A.depth + 1 < recursionLimit)
    (hq : ∀ h' tk e d, OwnMade s.heap h' e C d (fun y => (fs.zip us).lookup y) -> R (.ok (.ret (.ref e))) { s with heap := h', toks := tk }) :
    codeAny (model prog w) A (.call (.ref C) ⟨us, []⟩) R s := by
  obtain ⟨nm, N', qn, bs, bm, hdct, sn, sub, ab, col, dd, k0, k1', k2', k3', k5, hC, hT⟩ := excInit_of X T.cls
  obtain ⟨hp, g, dr, tk, os⟩ := s
  have k : ∀ b o, hp.get? b = some o -> ((hp.push (kdv_tup us)).push (excO C hp.objs.size)).get? b = some o := fun b o e => Heap.get?_push_of_some _ (Heap.get?_push_of_some _ e)
  have hget : ((hp.push (kdv_tup us)).push (excO C hp.objs.size)).get? (hp.objs.size + 1) = some (excO C hp.objs.size) := by heap_get
  have hnx : K.lookup (hp.objs.size + 1) = none := none_big X (Nat.le_succ _)
  refine call_own PySem.F.excBase_ValueError hT hC (looks_findIn X T.iC) (fun self => bind_fn X self T.tC) (by rw [<- hl, sizeLine_eq]; omega) ?_
  refine ex_init (s := ⟨(hp.push (kdv_tup us)).push (excO C hp.objs.size), g, dr, tk, os⟩) T hb hfs hl nd hz hself hhead hloc hsup hcl hcell hco hgen hk htop (hbind _) (X.keeps k) (hlim.keeps k) (hG.keeps k) hms (hB.keeps k) hmb hget hnx ?_ fun h' tk' dx t1 S => ?_
  · show A.depth + 1 < recursionLimit
    exact hroom
  · have old : ∀ b o, hp.get? b = some o -> h'.get? b = some o := fun b o e => S.keep b o (Nat.ne_of_lt (Nat.lt_succ_of_lt (Heap.lt_size e))) (k b o e)
    have z : hp.objs.size + 1 + 1 <= dx := by
      have q := S.dbig
      first
        | exact q
        | (rw [Heap.size_push, Heap.size_push] at q; exact q)
    exact ⟨rfl, hq h' tk' (hp.objs.size + 1) dx ⟨old, Nat.le_succ _, ⟨_, _, S.obj, rfl, rfl, rfl, rfl⟩, Nat.le_trans (Nat.le_trans (Nat.le_succ _) (Nat.le_succ _)) z, S.dne, S.ns⟩⟩
end
end PxE
end PySem
namespace L2
open PySem PySem.Spec PyProof.Rows PySem.PxE
theorem relO_zip {f : Str} : ∀ {fs : List Str} {vs : List V} {us : List Value}, Vals vs us -> RelO ((fs.zip vs).lookup f) ((fs.zip us).lookup f)
  | [], _, _, _ => by simp [List.lookup]; trivial
  | _ :: _, [], [], .nil => by simp [List.lookup]; trivial
  | k :: fs, v :: vs, u :: us, .cons r t => by
    rw [List.zip_cons_cons, List.zip_cons_cons]
    by_cases e : f = k
    · subst e
      simp only [List.lookup_cons_self]
      exact r
    · simp only [List.lookup_cons, beq_eq_false_iff_ne.mpr e]
      exact relO_zip t
structure ExcD (P : Program) (K : PySem.W.Frag) (mg : Str -> Option Value) (x : Str) (C : Addr) (fs : List Str) : Prop where
  ex : ∃ (fI : Addr) (qual : Str) (params : Arguments) (body : List Stmt) (scope : Scope), ExTxt P K C fI qual params body scope fs /\ (∃ b0 ss msg, body = b0 :: ss /\ IsSup qual scope msg b0 /\ IsAsgs ss fs) /\
    (∃ ar : Arg, (params.posonlyargs ++ params.args).head? = some ar /\ ar.arg = selfN) /\
    (∀ f ∈ selfN :: fs, scope.names.lookup f = some .local /\ (f == ("__debug__" : Str)) = false) /\ scope.names.lookup ("super" : Str) = some .globalImplicit /\ scope.names.lookup ("__class__" : Str) = some .free /\
    (∀ x ∈ scope.names, x.2 ≠ .cell) /\ scope.isCoroutine = false /\ scope.isGenerator = false /\ scope.kind = .function /\
    (∀ (us : List Value), us.length = fs.length -> ∀ (x : Addr) (doc pm : Value) (an : Option Addr) (cdv ct : Value) (cc : Addr), bindArgs (PySem.W.ksFn "__init__" qual params body scope .none .none doc pm an cdv ct cc) ⟨.ref x :: us, []⟩ = pure ((selfN, .ref x) :: fs.zip us))
  nf : fs ≠ [] /\ fs.Nodup /\ fs.length <= 1000 /\ selfN ∉ fs
  top : (P.main.scope.names.lookup ("super" : Str)).isSome = false
  gC : mg x = some (.ref C)
  gs : mg "super" = none
  kC : PySem.W.keepIn K (.ref C) = true
section
variable {X : Cx} {C : Addr} {fs : List Str} {x : Str}
def tMkX (C : Addr) (fs : List Str) (ta : TA) : St -> Hp -> XK -> Prop := fun σ H Q => ta σ H fun vs H1 => vs.length = fs.length /\ ∀ d, H1 d = none -> Q (.ref C) (some d) (upd H1 d (.xd (fs.zip vs)))
theorem pmk_x {a : Expr} {es : List Expr} {ta : TA} {p pos : Pos} {k : Nat} (D : ExcD X.prog X.K X.mg x C fs) (hr : Room k X.A) (ha : PA X (a :: es) ta) (hg : Gl X x)
    (hd : (x == ("__debug__" : Str)) = false := by decide) (he : starEach (a :: es) X.env = (false, eval a X.env) :: starEach es X.env := by rfl) (hpl : (backTo pos (starEach es X.env)).any (·.1) = false := by rfl) :
    PMk X (.Call (.Name x p) (a :: es) [] pos) (tMkX C fs ta) := by
  intro pins s σ H Q I h
  obtain ⟨fI, qual, params, body, scope, T, hb, hhead, hloc, hsup, hcl, hcell, hco, hgen, hk, hbind⟩ := D.ex
  refine wpAny_Call_Name_kw (ld_glob I hg D.gC ?_ hd)
  refine PySem.W.callWith_K (h₀ := X.base) I.ok.mod.kin D.kC (thn (ha.run pos pins s σ H _ I h) fun us s1 hh => ?_) he hpl
  obtain ⟨vs, H1, I1, r1, hl, q1⟩ := hh
  refine ⟨I1.kIn, ?_⟩
  show wpAny _ _ (call (.ref C) us) _ _ _
  obtain ⟨mb, hB, hmb⟩ := I1.ok.mod.blt
  have hlim := I1.nolimit
  have hG := I1.ok.mod.glob.keeps I1.bk
  have hB2 := hB.keeps I1.bk
  have hX := I1.kIn
  obtain ⟨hp, g, dr, tk, os⟩ := s1
  refine wpAny_call (ex_made T hb D.nf.1 (by rw [<- r1.length, hl]) D.nf.2.1 D.nf.2.2.1 D.nf.2.2.2 hhead hloc hsup hcl hcell hco hgen hk D.top (hbind us (by rw [<- r1.length, hl])) hX hlim hG D.gs hB2 ((hmb _ (by decide)).trans (by decide +kernel)) (by have := hr.dp; omega) fun h' tk' e d M => ?_)
  show MkP X pins σ Q (.ref e) ⟨h', g, dr, tk', os⟩
  obtain ⟨oe, fv, hoe, hc, hd, hdat, h1⟩ := M.obj
  have hns := M.ns
  obtain ⟨G', g1, g2⟩ := restrict h' fun b => decide (b ≠ e)
  have gk : ∀ b, b ≠ e -> G'.get? b = h'.get? b := fun b hb => g1 b (decide_eq_true hb)
  have ge : G'.get? e = none := g2 e (by simp)
  have old : ∀ b o, hp.get? b = some o -> G'.get? b = some o := fun b o q => (gk b (Nat.ne_of_lt (Nat.lt_of_lt_of_le (Heap.lt_size q) M.new))).trans (M.keep b o q)
  have ob : ObjOk X.prog X.w (upd H1 d (.xd (fs.zip vs))) G' d (.xd (fs.zip vs)) :=
    ⟨_, hns.at (fun o q => (gk d M.dne).trans q), fun f => relO_zip r1⟩
  have J : Inv X pins σ (upd H1 d (.xd (fs.zip vs))) ⟨G', g, dr, tk', os⟩ := I1.laid (t' := tk') old M.dbig ob
  refine ⟨e, oe, fv, ⟨G', g, dr, tk', os⟩, _, .ref C, some d, rfl, J, fun b o q => ?_, ge, hoe, ⟨hc, hd⟩, hdat, h1, ?_, rfl, I1.bare, raises_own T.exC T.tyC, q1 d (I1.hok.fresh M.dbig)⟩
  · by_cases hb : b = e
    · have q' : G'.get? b = some o := q
      rw [hb, ge] at q'; cases q'
    · exact (gk b hb).symm.trans q
  · rw [upd_ne (Ne.symm M.dne)]
    exact I1.hok.fresh M.new
end
end L2
namespace Py
open PySem L2
inductive D where
  | non | bl (b : Bool) | int (i : Int) | str (x : String) | cls (c : String) | sei (xs : List Int)
  | scr (ns : List Int) | tup (xs : List D) | lst (xs : List D) | dic (ks : List Key) (xs : List D) | dit (ks : List (List Key)) (xs : List D) | dig (ks : List NestedKey) (xs : List D) | ins (c : String) (ns : List String) (xs : List D)
  | olst (xs : List D) | odic (ks : List Key) (xs : List D) | odit (ks : List (List Key)) (xs : List D) | odig (ks : List NestedKey) (xs : List D) | oins (c : String) (ns : List String) (xs : List D)
abbrev so : String -> Str := Str.ofString
theorem so_inj {x y : String} (h : so x = so y) : x = y := by
  unfold so at h
  rw [Str.ofString_eq_toList, Str.ofString_eq_toList] at h
  injection h with h
  have h2 : x.toList.map Char.toNat = y.toList.map Char.toNat := by
    have := congrArg Array.toList h
    simpa using this
  have h3 : x.toList = y.toList := by
    have inj : ∀ a b : Char, a.toNat = b.toNat -> a = b := fun a b e => Char.ext (UInt32.toNat_inj.mp e)
    revert h2
    generalize x.toList = l
    generalize y.toList = r
    intro h2
    induction l generalizing r with
    | nil => cases r with
      | nil => rfl
      | cons b r => cases h2
    | cons a l ih => cases r with
      | nil => cases h2
      | cons b r =>
        rw [List.map_cons, List.map_cons] at h2
        injection h2 with e1 e2
        rw [inj _ _ e1, ih r e2]
  exact String.toList_inj.mp h3
structure Tbl where
  fOk : String -> String -> Bool
  con : String -> String -> Option D
  sub : String -> String -> Bool
  /-- the def that a class's name (a method, a getter) stands for -/
  res : String -> String -> Option String := fun _ _ => none
  /-- the field whose list a class's __iter__ walks -/
  it : String -> Option String := fun _ => none
  /-- of exception classes: who derives from whom -/
  xsub : String -> String -> Bool := fun _ _ => false
structure Wd (T : Tbl) where
  K : PySem.W.Frag
  P : Program
  w : World
  cA : String -> Addr
  has : String -> Prop
  cl : ∀ c, has c -> Cls K (cA c)
  na : ∀ c f, has c -> T.fOk c f = true -> NoAttr K (cA c) (so f)
  isT : ∀ c, has c -> PySem.W.findIn K (.ref (cA c)) "__class__" = some (some (.builtin "object.__class__")) /\
    PySem.W.specialIn K (.builtin "object.__class__") "__get__" = some (some (.builtin "getset_descriptor.__get__")) /\ PySem.W.takesIn K (.builtin "object.__class__") = some true /\ PySem.W.mroIn K (cA c) (.type "object") = some true
  isTO : ∀ t c, t ∈ ["NoneType", "bool", "int", "str", "list", "tuple", "dict"] -> has c -> PySem.W.kitOne K (.type t) (.ref (cA c)) = some false
  isOT : ∀ c t, has c -> t ∈ ["int", "bool", "str", "list", "tuple", "dict"] -> PySem.W.kitOne K (.ref (cA c)) (.type t) = some false
  isOO : ∀ c d, has c -> has d -> PySem.W.kitOne K (.ref (cA c)) (.ref (cA d)) = some (T.sub c d)
  /-- the exception classes -/
  hasX : String -> Prop
  xm : ∀ c d, hasX c -> hasX d -> PySem.W.exmOne K (.ref (cA c)) (.ref (cA d)) = some (T.xsub c d)
  xk : ∀ c d, hasX c -> hasX d -> PySem.W.kitOne K (.ref (cA c)) (.ref (cA d)) = some (T.xsub c d)
  xv : ∀ c, hasX c -> PySem.W.kitOne K (.ref (cA c)) (.type "ValueError") = some true
  xc : ∀ c, hasX c -> ExcC K (cA c)
def nkD : NestedKey -> D
  | .none => .non
  | .num i => .int i
  | .text x => .str (String.ofList (x.cps.toList.map Char.ofNat))
  | .tup ks => .tup (nkDs ks)
where nkDs : List NestedKey -> List D
  | [] => []
  | k :: ks => nkD k :: nkDs ks
def digP (P : Program) (w : World) (a : Addr) (ks : List NestedKey) (kas : List Addr) (vs : List V) : Heap -> Prop := fun h =>
  (a == sysModules) = false /\ ∃ us : List Value, Vals vs us /\ ks.length = kas.length /\ ks.length = us.length /\ us.length <= sizeLine /\
    ∃ o es ep, h.get? a = some o /\ o.ExactDict /\ o.data = .dict es ep /\ es.toList = (ks.zip (kas.zip us)).map (entryOfKey (nestedKind P w)) /\ ks.Nodup
section
variable {T : Tbl} (W : Wd T)
mutual
inductive Shr : Hp -> D -> V -> Prop
  | non {F} : Shr F .non .non
  | bl {F b} : Shr F (.bl b) (.bl b)
  | int {F i} : Shr F (.int i) (.int i)
  | str {F x} : Shr F (.str x) (.str (so x))
  | cls {F c} : W.has c -> Shr F (.cls c) (.ref (W.cA c))
  | sei {F a xs} : F a = some (.set (fun i => decide (i ∈ xs)) xs.length) -> xs.Pairwise (· < ·) -> Shr F (.sei xs) (.ref a)
  | scr {F a ns} : SqL W.K F a (ns.map V.int) -> Shr F (.scr ns) (.ref a)
  | tup {F a xs vs} : F a = some (.tup vs) -> Shrs F xs vs -> Shr F (.tup xs) (.ref a)
  | lst {F a xs vs} : F a = some (.lst vs) -> Shrs F xs vs -> Shr F (.lst xs) (.ref a)
  | dic {F a ks xs vs} : Rd F a (.dK (ks.zip vs)) -> ks.length = vs.length -> ks.Nodup -> Shrs F xs vs -> Shr F (.dic ks xs) (.ref a)
  | dit {F a ks xs vs} : Rd F a (.dT (ks.zip vs)) -> ks.length = vs.length -> ks.Nodup -> Shrs F xs vs -> Shr F (.dit ks xs) (.ref a)
  | dig {F a ks kas xs vs} : F a = some (.ext (digP W.P W.w a ks kas vs)) -> Shrs F (ks.map nkD) (kas.map V.ref) -> ks.length = vs.length -> Shrs F xs vs -> Shr F (.dig ks xs) (.ref a)
  | ins {F a c dx ns xs vs} : F a = some (.ins (W.cA c) dx ((ns.map so).zip vs)) -> W.has c -> ns.length = vs.length -> Shrs F xs vs -> Shr F (.ins c ns xs) (.ref a)
inductive Shrs : Hp -> List D -> List V -> Prop
  | nil {F} : Shrs F [] []
  | cons {F d v ds vs} : Shr F d v -> Shrs F ds vs -> Shrs F (d :: ds) (v :: vs)
end
mutual
inductive Own : Hp -> Hp -> D -> V -> List Addr -> Prop
  | sh {F H d v} : Shr W F d v -> Own F H d v []
  | olst {F H a xs vs L} : H a = some (.lst vs) -> Owns F H xs vs L -> Own F H (.olst xs) (.ref a) (a :: L)
  | odic {F H a ks xs vs L} : H a = some (.dK (ks.zip vs)) -> ks.length = vs.length -> ks.Nodup -> Owns F H xs vs L -> Own F H (.odic ks xs) (.ref a) (a :: L)
  | odit {F H a ks xs vs L} : H a = some (.dT (ks.zip vs)) -> ks.length = vs.length -> ks.Nodup -> Owns F H xs vs L -> Own F H (.odit ks xs) (.ref a) (a :: L)
  | odig {F H a ks kas xs vs L} : H a = some (.ext (digP W.P W.w a ks kas vs)) -> Shrs W F (ks.map nkD) (kas.map V.ref) -> ks.length = vs.length -> Owns F H xs vs L -> Own F H (.odig ks xs) (.ref a) (a :: L)
  | oins {F H a c dx ns xs vs L} : H a = some (.ins (W.cA c) dx ((ns.map so).zip vs)) -> W.has c -> ns.length = vs.length -> Owns F H xs vs L -> Own F H (.oins c ns xs) (.ref a) (a :: L)
inductive Owns : Hp -> Hp -> List D -> List V -> List Addr -> Prop
  | nil {F H} : Owns F H [] [] []
  | cons {F H d v ds vs L M} : Own F H d v L -> Owns F H ds vs M -> Owns F H (d :: ds) (v :: vs) (L ++ M)
end
end
section
variable {T : Tbl} {W : Wd T} {F F' H H' : Hp}
theorem rd_same {F F' : Hp} (e : Same F F') {a : Addr} {u : HO} (h : Rd F a u) : Rd F' a u := h.elim (fun h => .inl (e _ _ h)) fun ⟨o, h⟩ => .inr ⟨o, e _ _ h⟩
mutual
theorem Shr.mono {F F' : Hp} (e : Same F F') : ∀ {d : D} {v : V}, Shr W F d v -> Shr W F' d v
  | _, _, .non => .non
  | _, _, .bl => .bl
  | _, _, .int => .int
  | _, _, .str => .str
  | _, _, .cls h => .cls h
  | _, _, .sei h n => .sei (e _ _ h) n
  | _, _, .scr h => .scr (e.seq h)
  | _, _, .tup h hs => .tup (e _ _ h) (Shrs.mono e hs)
  | _, _, .lst h hs => .lst (e _ _ h) (Shrs.mono e hs)
  | _, _, .dic h l n hs => .dic (rd_same e h) l n (Shrs.mono e hs)
  | _, _, .dit h l n hs => .dit (rd_same e h) l n (Shrs.mono e hs)
  | _, _, .dig h k l hs => .dig (e _ _ h) (Shrs.mono e k) l (Shrs.mono e hs)
  | _, _, .ins h c l hs => .ins (e _ _ h) c l (Shrs.mono e hs)
theorem Shrs.mono {F F' : Hp} (e : Same F F') : ∀ {d : List D} {v : List V}, Shrs W F d v -> Shrs W F' d v
  | _, _, .nil => .nil
  | _, _, .cons h t => .cons (Shr.mono e h) (Shrs.mono e t)
end
theorem Shrs.length {F : Hp} : ∀ {ds : List D} {vs : List V}, Shrs W F ds vs -> ds.length = vs.length
  | _, _, .nil => rfl
  | _, _, .cons _ t => congrArg (· + 1) (Shrs.length t)
theorem Shrs.get {F : Hp} : ∀ {ds : List D} {vs : List V} {i : Nat} {d : D}, Shrs W F ds vs -> ds[i]? = some d -> ∃ v, vs[i]? = some v /\ Shr W F d v
  | _, _, _, _, .nil, e => by simp at e
  | _, _, 0, _, .cons h _, e => by simp at e; subst e; exact ⟨_, rfl, h⟩
  | _, _, i + 1, _, .cons _ t, e => Shrs.get (i := i) t (by simpa using e)
theorem Shrs.append {F : Hp} : ∀ {ds es : List D} {vs ws : List V}, Shrs W F ds vs -> Shrs W F es ws -> Shrs W F (ds ++ es) (vs ++ ws)
  | _, _, _, _, .nil, h => h
  | _, _, _, _, .cons h t, q => .cons h (Shrs.append t q)
mutual
theorem Own.frame {F F' H H' : Hp} (e : Same F F') : ∀ {d : D} {v : V} {L : List Addr}, (∀ a ∈ L, ∀ o, H a = some o -> H' a = some o) -> Own W F H d v L -> Own W F' H' d v L
  | _, _, _, _, .sh h => .sh (h.mono e)
  | _, _, _, k, .olst h t => .olst (k _ (List.mem_cons_self ..) _ h) (Owns.frame e (fun a m => k a (List.mem_cons_of_mem _ m)) t)
  | _, _, _, k, .odic h l n t => .odic (k _ (List.mem_cons_self ..) _ h) l n (Owns.frame e (fun a m => k a (List.mem_cons_of_mem _ m)) t)
  | _, _, _, k, .odit h l n t => .odit (k _ (List.mem_cons_self ..) _ h) l n (Owns.frame e (fun a m => k a (List.mem_cons_of_mem _ m)) t)
  | _, _, _, k, .odig h s l t => .odig (k _ (List.mem_cons_self ..) _ h) (s.mono e) l (Owns.frame e (fun a m => k a (List.mem_cons_of_mem _ m)) t)
  | _, _, _, k, .oins h c l t => .oins (k _ (List.mem_cons_self ..) _ h) c l (Owns.frame e (fun a m => k a (List.mem_cons_of_mem _ m)) t)
theorem Owns.frame {F F' H H' : Hp} (e : Same F F') : ∀ {d : List D} {v : List V} {L : List Addr}, (∀ a ∈ L, ∀ o, H a = some o -> H' a = some o) -> Owns W F H d v L -> Owns W F' H' d v L
  | _, _, _, _, .nil => .nil
  | _, _, _, k, .cons h t => .cons (Own.frame e (fun a m => k a (List.mem_append_left _ m)) h) (Owns.frame e (fun a m => k a (List.mem_append_right _ m)) t)
end
mutual
theorem Own.lives {F H : Hp} : ∀ {d : D} {v : V} {L : List Addr}, Own W F H d v L -> ∀ a ∈ L, ∃ o, H a = some o
  | _, _, _, .sh _, a, m => nomatch m
  | _, _, _, .olst h t, a, m => by
    rcases List.mem_cons.mp m with rfl | m
    · exact ⟨_, h⟩
    · exact Owns.lives t a m
  | _, _, _, .odic h _ _ t, a, m => by
    rcases List.mem_cons.mp m with rfl | m
    · exact ⟨_, h⟩
    · exact Owns.lives t a m
  | _, _, _, .odit h _ _ t, a, m => by
    rcases List.mem_cons.mp m with rfl | m
    · exact ⟨_, h⟩
    · exact Owns.lives t a m
  | _, _, _, .odig h _ _ t, a, m => by
    rcases List.mem_cons.mp m with rfl | m
    · exact ⟨_, h⟩
    · exact Owns.lives t a m
  | _, _, _, .oins h _ _ t, a, m => by
    rcases List.mem_cons.mp m with rfl | m
    · exact ⟨_, h⟩
    · exact Owns.lives t a m
theorem Owns.lives {F H : Hp} : ∀ {d : List D} {v : List V} {L : List Addr}, Owns W F H d v L -> ∀ a ∈ L, ∃ o, H a = some o
  | _, _, _, .nil, a, m => nomatch m
  | _, _, _, .cons h t, a, m => (List.mem_append.mp m).elim (fun m => Own.lives h a m) fun m => Owns.lives t a m
end
theorem Owns.length {F H : Hp} : ∀ {ds : List D} {vs : List V} {L : List Addr}, Owns W F H ds vs L -> ds.length = vs.length
  | _, _, _, .nil => rfl
  | _, _, _, .cons _ t => congrArg (· + 1) (Owns.length t)
mutual
def fz : D -> D
  | .olst xs => .lst (fzs xs)
  | .odic ks xs => .dic ks (fzs xs)
  | .odit ks xs => .dit ks (fzs xs)
  | .odig ks xs => .dig ks (fzs xs)
  | .oins C ns xs => .ins C ns (fzs xs)
  | d => d
def fzs : List D -> List D
  | [] => []
  | d :: ds => fz d :: fzs ds
end
theorem fzs_eq : ∀ ds : List D, fzs ds = ds.map fz
  | [] => by rw [fzs]; rfl
  | d :: ds => by rw [fzs, fzs_eq ds]; rfl
def isSh : D -> Bool
  | .olst _ => false
  | .odic _ _ => false
  | .odit _ _ => false
  | .odig _ _ => false
  | .oins _ _ _ => false
  | _ => true
theorem fz_isSh {d : D} (h : isSh d = true) : fz d = d := by
  cases d <;> first | (cases h; done) | simp [fz]
theorem fz_shr {F : Hp} {d : D} {v : V} (h : Shr W F d v) : fz d = d := by
  refine fz_isSh ?_
  cases h <;> rfl
theorem Shr.isSh {F : Hp} {d : D} {v : V} (h : Shr W F d v) : isSh d = true := by cases h <;> rfl
theorem Shrs.isSh {F : Hp} : ∀ {d : List D} {v : List V}, Shrs W F d v -> d.all Py.isSh = true
  | _, _, .nil => rfl
  | _, _, .cons h t => by rw [List.all_cons, h.isSh, t.isSh]; rfl
mutual
theorem Own.view {F H G : Hp} (e : Same F G) : ∀ {d : D} {v : V} {L : List Addr}, (∀ a ∈ L, ∀ o, H a = some o -> G a = some o) -> Own W F H d v L -> Shr W G (fz d) v
  | _, _, _, _, .sh h => by rw [fz_shr h]; exact h.mono e
  | _, _, _, k, .olst h t => by rw [fz]; exact .lst (k _ (List.mem_cons_self ..) _ h) (Owns.view e (fun a m => k a (List.mem_cons_of_mem _ m)) t)
  | _, _, _, k, .odic h l n t => by rw [fz]; exact .dic (.inl (k _ (List.mem_cons_self ..) _ h)) l n (Owns.view e (fun a m => k a (List.mem_cons_of_mem _ m)) t)
  | _, _, _, k, .odit h l n t => by rw [fz]; exact .dit (.inl (k _ (List.mem_cons_self ..) _ h)) l n (Owns.view e (fun a m => k a (List.mem_cons_of_mem _ m)) t)
  | _, _, _, k, .odig h s l t => by rw [fz]; exact .dig (k _ (List.mem_cons_self ..) _ h) (s.mono e) l (Owns.view e (fun a m => k a (List.mem_cons_of_mem _ m)) t)
  | _, _, _, k, .oins h c l t => by rw [fz]; exact .ins (k _ (List.mem_cons_self ..) _ h) c l (Owns.view e (fun a m => k a (List.mem_cons_of_mem _ m)) t)
theorem Owns.view {F H G : Hp} (e : Same F G) : ∀ {d : List D} {v : List V} {L : List Addr}, (∀ a ∈ L, ∀ o, H a = some o -> G a = some o) -> Owns W F H d v L -> Shrs W G (fzs d) v
  | _, _, _, _, .nil => by rw [fzs]; exact .nil
  | _, _, _, k, .cons h t => by rw [fzs]; exact .cons (Own.view e (fun a m => k a (List.mem_append_left _ m)) h) (Owns.view e (fun a m => k a (List.mem_append_right _ m)) t)
end
theorem Shrs.owns {F H : Hp} : ∀ {ds : List D} {vs : List V}, Shrs W F ds vs -> Owns W F H ds vs []
  | _, _, .nil => .nil
  | _, _, .cons h t => Owns.cons (L := []) (M := []) (.sh h) (Shrs.owns t)
theorem Own.shr {F H : Hp} {d : D} {v : V} {L : List Addr} (o : Own W F H d v L) (h : Py.isSh d = true) : Shr W F d v := by
  cases o with
  | sh y => exact y
  | olst => cases h
  | odic => cases h
  | odit => cases h
  | odig => cases h
  | oins => cases h
theorem Own.shNil {F H : Hp} {d : D} {v : V} {L : List Addr} (o : Own W F H d v L) (h : Py.isSh d = true) : L = [] := by
  cases o with
  | sh y => rfl
  | olst => cases h
  | odic => cases h
  | odit => cases h
  | odig => cases h
  | oins => cases h
theorem Owns.shrs {F H : Hp} : ∀ {ds : List D} {vs : List V} {L : List Addr}, Owns W F H ds vs L -> ds.all Py.isSh = true -> Shrs W F ds vs
  | _, _, _, .nil, _ => .nil
  | _, _, _, .cons o t, h => by
    rw [List.all_cons, Bool.and_eq_true] at h
    exact .cons (o.shr h.1) (t.shrs h.2)
end
end Py
namespace Py
open PySem L2
abbrev Env := List (Option D)
inductive Slots {T : Tbl} (W : Wd T) : Hp -> Hp -> Py.Env -> St -> List Addr -> Prop
  | nil {F H} : Slots W F H [] [] []
  | so {F H d v env σ L M} : Own W F H d v L -> Slots W F H env σ M -> Slots W F H (some d :: env) (some v :: σ) (L ++ M)
  | no {F H o env σ M} : Slots W F H env σ M -> Slots W F H (none :: env) (o :: σ) M
section
variable {T : Tbl} {W : Wd T} {F F' H H' : Hp}
theorem Slots.frame (e : Same F F') : ∀ {env : Py.Env} {σ : St} {L : List Addr}, (∀ a ∈ L, ∀ o, H a = some o -> H' a = some o) -> Slots W F H env σ L -> Slots W F' H' env σ L
  | _, _, _, _, .nil => .nil
  | _, _, _, k, .so h t => .so (h.frame e fun a m => k a (List.mem_append_left _ m)) (t.frame e fun a m => k a (List.mem_append_right _ m))
  | _, _, _, k, .no t => .no (t.frame e k)
theorem Slots.lives : ∀ {env : Py.Env} {σ : St} {L : List Addr}, Slots W F H env σ L -> ∀ a ∈ L, ∃ o, H a = some o
  | _, _, _, .nil, _, m => nomatch m
  | _, _, _, .so h t, a, m => (List.mem_append.mp m).elim (fun m => h.lives a m) fun m => t.lives a m
  | _, _, _, .no t, a, m => t.lives a m
theorem Slots.length : ∀ {env : Py.Env} {σ : St} {L : List Addr}, Slots W F H env σ L -> env.length = σ.length
  | _, _, _, .nil => rfl
  | _, _, _, .so _ t => congrArg (· + 1) t.length
  | _, _, _, .no t => congrArg (· + 1) t.length
theorem Slots.take : ∀ {env : Py.Env} {σ : St} {L : List Addr} {i : Nat} {d : D}, Slots W F H env σ L -> L.Nodup -> env[i]? = some (some d) ->
    ∃ v Li Lr, σ[i]? = some (some v) /\ Own W F H d v Li /\ Slots W F H (env.set i none) σ Lr /\ (Li ++ Lr).Nodup /\ (∀ a, a ∈ Li \/ a ∈ Lr ↔ a ∈ L)
  | _, _, _, _, _, .nil, _, e => by simp at e
  | _, _, _, 0, _, .so (L := L1) (M := M1) h t, nd, e => by
    simp at e; subst e
    exact ⟨_, L1, M1, rfl, h, .no t, nd, fun a => List.mem_append.symm⟩
  | _, _, _, i + 1, _, .so (L := L1) (M := M1) h t, nd, e => by
    rw [List.nodup_append] at nd
    obtain ⟨n1, n2, n3⟩ := nd
    obtain ⟨v, Li, Lr, e1, o, s, nd', m⟩ := t.take (i := i) n2 (by simpa using e)
    refine ⟨v, Li, L1 ++ Lr, by simpa using e1, o, .so h s, ?_, fun a => ?_⟩
    · rw [List.nodup_append] at nd' ⊢
      obtain ⟨p1, p2, p3⟩ := nd'
      refine ⟨p1, ?_, ?_⟩
      · rw [List.nodup_append]
        exact ⟨n1, p2, fun a ha b hb => n3 a ha b ((m b).mp (.inr hb))⟩
      · intro a ha b hb
        rcases List.mem_append.mp hb with hb | hb
        · exact fun q => n3 b hb a ((m a).mp (.inl ha)) q.symm
        · exact p3 a ha b hb
    · simp only [List.mem_append, <- m a]
      constructor
      · rintro (h | h | h)
        · exact .inr (.inl h)
        · exact .inl h
        · exact .inr (.inr h)
      · rintro (h | h | h)
        · exact .inr (.inl h)
        · exact .inl h
        · exact .inr (.inr h)
  | _, _, _, 0, _, .no t, nd, e => by simp at e
  | _, _, _, i + 1, _, .no (o := o1) (M := M1) t, nd, e => by
    obtain ⟨v, Li, Lr, e1, o, s, nd', m⟩ := t.take (i := i) nd (by simpa using e)
    exact ⟨v, Li, Lr, by simpa using e1, o, .no s, nd', m⟩
theorem Slots.put : ∀ {env : Py.Env} {σ : St} {L : List Addr} {i : Nat} {d : D} {v : V} {Ld : List Addr}, Slots W F H env σ L -> Own W F H d v Ld -> (Ld ++ L).Nodup -> i < env.length ->
    ∃ L', Slots W F H (env.set i (some d)) (σ.set i (some v)) L' /\ L'.Nodup /\ (∀ a ∈ L', a ∈ Ld \/ a ∈ L)
  | _, _, _, _, _, _, _, .nil, _, _, hi => by simp at hi
  | _, _, _, 0, d, v, Ld, .so (L := L1) (M := M1) h t, o, nd, _ => by
    refine ⟨Ld ++ M1, .so o t, ?_, fun a m => ?_⟩
    · rw [List.nodup_append] at nd ⊢
      obtain ⟨n1, n2, n3⟩ := nd
      rw [List.nodup_append] at n2
      exact ⟨n1, n2.2.1, fun a ha b hb => n3 a ha b (List.mem_append_right _ hb)⟩
    · rcases List.mem_append.mp m with m | m
      · exact .inl m
      · exact .inr (List.mem_append_right _ m)
  | _, _, _, 0, d, v, Ld, .no (M := M1) t, o, nd, _ => by
    exact ⟨Ld ++ M1, .so o t, nd, fun a m => List.mem_append.mp m⟩
  | _, _, _, i + 1, d, v, Ld, .so (L := L1) (M := M1) h t, o, nd, hi => by
    rw [List.nodup_append] at nd
    obtain ⟨n1, n2, n3⟩ := nd
    rw [List.nodup_append] at n2
    obtain ⟨p1, p2, p3⟩ := n2
    obtain ⟨L', s, nd', m⟩ := t.put (i := i) o (by
      rw [List.nodup_append]
      exact ⟨n1, p2, fun a ha b hb => n3 a ha b (List.mem_append_right _ hb)⟩) (by simpa using hi)
    refine ⟨L1 ++ L', .so h s, ?_, fun a ha => ?_⟩
    · rw [List.nodup_append]
      refine ⟨p1, nd', fun a ha b hb => ?_⟩
      rcases m b hb with q | q
      · exact fun z => n3 b q a (List.mem_append_left _ ha) z.symm
      · exact p3 a ha b q
    · rcases List.mem_append.mp ha with q | q
      · exact .inr (List.mem_append_left _ q)
      · rcases m a q with q | q
        · exact .inl q
        · exact .inr (List.mem_append_right _ q)
  | _, _, _, i + 1, d, v, Ld, .no (M := M1) t, o, nd, hi => by
    obtain ⟨L', s, nd', m⟩ := t.put (i := i) o nd (by simpa using hi)
    exact ⟨L', .no s, nd', m⟩
structure Ent where
  F0 : Hp
  H0 : Hp
  L0 : List Addr
  pins : List (Nat × V)
structure Rel {T : Tbl} (W : Wd T) (e : Ent) (env : Py.Env) (F : Hp) (σ : St) (H : Hp) (L : List Addr) : Prop where
  sF : Same F H
  slots : Slots W F H env σ L
  nd : L.Nodup
  dj : ∀ a ∈ L, F a = none
  s0 : Same e.F0 F
  nw : ∀ a o, F a = some o -> e.F0 a = some o \/ e.H0 a = none \/ a ∈ e.L0
  fr : ∀ a o, a ∉ e.L0 -> e.H0 a = some o -> H a = some o
  ln : ∀ a ∈ L, a ∈ e.L0 \/ e.H0 a = none
  pin : ∀ p ∈ e.pins, σ[p.1]? = some (some p.2)
structure Ext (F H F' H' : Hp) : Prop where
  f : Same F F'
  s : Same F' H'
  h : Same H H'
  n : ∀ a o, F' a = some o -> F a = some o \/ H a = none
theorem Ext.refl (s : Same F H) : Ext F H F H := ⟨Same.refl _, s, Same.refl _, fun _ _ h => .inl h⟩
theorem Ext.trans {F1 H1 F2 H2 : Hp} (a : Ext F H F1 H1) (b : Ext F1 H1 F2 H2) : Ext F H F2 H2 :=
  ⟨a.f.trans b.f, b.s, a.h.trans b.h, fun x o h => by
    rcases b.n x o h with q | q
    · exact a.n x o q
    · exact .inr (a.h.free q)⟩
theorem same_new {H : Hp} {p : Addr} {o : HO} (h : H p = none) : Same H (upd H p o) := fun b u e => by
  rw [upd_ne (ne_of_none e h)]; exact e
theorem Ext.new (s : Same F H) {p : Addr} {o : HO} (h : H p = none) : Ext F H (upd F p o) (upd H p o) where
  f := same_new (s.free h)
  s := fun b u e => by
    by_cases q : b = p
    · subst q; rw [upd_same] at e ⊢; exact e
    · rw [upd_ne q] at e ⊢; exact s _ _ e
  h := same_new h
  n := fun b u e => by
    by_cases q : b = p
    · subst q; exact .inr h
    · rw [upd_ne q] at e; exact .inl e
theorem Ext.newH (s : Same F H) {p : Addr} {o : HO} (h : H p = none) : Ext F H F (upd H p o) where
  f := Same.refl _
  s := s.trans (same_new h)
  h := same_new h
  n := fun _ _ e => .inl e
theorem Rel.ext {e : Ent} {env : Py.Env} {σ : St} {L : List Addr} (R : Rel W e env F σ H L) (x : Ext F H F' H') : Rel W e env F' σ H' L where
  sF := x.s
  slots := R.slots.frame x.f fun a _ o q => x.h _ _ q
  nd := R.nd
  dj := fun a m => by
    obtain ⟨o, ho⟩ := R.slots.lives a m
    cases q : F' a with
    | none => rfl
    | some u =>
      rcases x.n a u q with z | z
      · rw [R.dj a m] at z; cases z
      · rw [ho] at z; cases z
  s0 := R.s0.trans x.f
  nw := fun a o q => by
    rcases x.n a o q with z | z
    · exact R.nw a o z
    · by_cases m : a ∈ e.L0
      · exact .inr (.inr m)
      · refine .inr (.inl ?_)
        cases y : e.H0 a with
        | none => rfl
        | some u => rw [R.fr a u m y] at z; cases z
  fr := fun a o m q => x.h _ _ (R.fr a o m q)
  ln := R.ln
  pin := R.pin
abbrev Res := Hp -> Hp -> Hp -> V -> Prop
def rF {T : Tbl} (W : Wd T) (d : D) : Res := fun F _ _ v => Shr W F d v
def rV {T : Tbl} (W : Wd T) (d : D) : Res := fun _ H _ v => Shr W H d v
def rO {T : Tbl} (W : Wd T) (d : D) : Res := fun F H H0 v => ∃ L, Own W F H d v L /\ L.Nodup /\ ∀ a ∈ L, H0 a = none /\ F a = none
def rL {T : Tbl} (W : Wd T) (ds : List D) : Res := fun F H _ v => ∃ a vs, v = .ref a /\ SqL W.K H a vs /\ Shrs W F ds vs
def AE {T : Tbl} (W : Wd T) (t : TE) (env : Py.Env) (R : Res) : Prop :=
  ∀ (e : Ent) (F : Hp) (σ : St) (H : Hp) (L : List Addr) (Q : VK), Rel W e env F σ H L -> (∀ v F' H', Ext F H F' H' -> R F' H' H v -> Q v H') -> t σ H Q
def AT {T : Tbl} (W : Wd T) (t : TT) (env : Py.Env) (b : Bool) : Prop :=
  ∀ (e : Ent) (F : Hp) (σ : St) (H : Hp) (L : List Addr) (Q : Bool -> Hp -> Prop), Rel W e env F σ H L -> (∀ F' H', Ext F H F' H' -> Q b H') -> t σ H Q
abbrev ResL := Hp -> Hp -> Hp -> List V -> Prop
def rFs {T : Tbl} (W : Wd T) (ds : List D) : ResL := fun F _ _ vs => Shrs W F ds vs
def rVs {T : Tbl} (W : Wd T) (ds : List D) : ResL := fun _ H _ vs => Shrs W H ds vs
def AA {T : Tbl} (W : Wd T) (t : TA) (env : Py.Env) (R : ResL) : Prop :=
  ∀ (e : Ent) (F : Hp) (σ : St) (H : Hp) (L : List Addr) (Q : List V -> Hp -> Prop), Rel W e env F σ H L -> (∀ v F' H', Ext F H F' H' -> R F' H' H v -> Q v H') -> t σ H Q
variable {env : Py.Env} {t ta tb : TE}
theorem AE.imp {R R' : Res} (h : AE W t env R) (k : ∀ F H H0 v, Same F H -> R F H H0 v -> R' F H H0 v) : AE W t env R' := fun e F σ H L Q r q =>
  h e F σ H L Q r fun v F' H' x y => q v F' H' x (k _ _ _ _ x.s y)
theorem AE.view {d : D} (h : AE W t env (rF W d)) : AE W t env (rV W d) := h.imp fun _ _ _ _ s y => Shr.mono s y
theorem AE.own {d : D} (h : AE W t env (rF W d)) : AE W t env (rO W d) := h.imp fun _ _ _ _ s y => ⟨[], .sh y, .nil, fun _ m => nomatch m⟩
theorem AE.list {ds : List D} (h : AE W t env (rF W (.lst ds))) : AE W t env (rL W ds) := h.imp fun _ _ _ _ s y => by
  cases y with
  | lst a b => exact ⟨_, _, rfl, .of (s _ _ a), b⟩
theorem freeze {F H : Hp} {d : D} {v : V} {L : List Addr} (s : Same F H) (o : Own W F H d v L) (k : ∀ a ∈ L, F a = none) :
    ∃ F', Same F F' /\ Same F' H /\ (∀ a o, F' a = some o -> F a = some o \/ a ∈ L) /\ Shr W F' (fz d) v := by
  refine ⟨fun a => if a ∈ L then H a else F a, fun a u q => ?_, fun a u q => ?_, fun a u q => ?_, o.view (fun a u q => ?_) fun a m u q => ?_⟩
  · show (if a ∈ L then H a else F a) = some u
    split
    · rename_i m; rw [k a m] at q; cases q
    · exact q
  · have q : (if a ∈ L then H a else F a) = some u := q
    split at q
    · exact q
    · exact s _ _ q
  · have q : (if a ∈ L then H a else F a) = some u := q
    split at q
    · exact .inr (by assumption)
    · exact .inl q
  · show (if a ∈ L then H a else F a) = some u
    split
    · rename_i m; rw [k a m] at q; cases q
    · exact q
  · show (if a ∈ L then H a else F a) = some u
    rw [if_pos m]; exact q
theorem AE.frz {d : D} (h : AE W t env (rO W d)) : AE W t env (rF W (fz d)) := fun e F σ H L Q r q =>
  h e F σ H L Q r fun v F' H' x ⟨M, o, nd, k⟩ => by
    obtain ⟨G, s1, s2, nw, y⟩ := freeze x.s o fun a m => (k a m).2
    refine q v G H' ⟨x.f.trans s1, s2, x.h, fun a o z => ?_⟩ y
    rcases nw a o z with z | z
    · exact x.n a o z
    · exact .inr (k a z).1
structure Exn where
  c : String
  fs : List (String × D)
structure AEnds where
  nx : Py.Env -> Prop
  rt : D -> Py.Env -> Prop
  bk : Py.Env -> Prop := fun _ => False
  ct : Py.Env -> Prop := fun _ => False
  ex : Exn -> Py.Env -> Prop := fun _ _ => False
def IsExn {T : Tbl} (W : Wd T) (F : Hp) (ex : Exn) (C : Value) (d : Option Addr) : Prop :=
  C = .ref (W.cA ex.c) /\ W.hasX ex.c /\ (ex.fs = [] \/ ∃ a vs, d = some a /\ F a = some (.xd (((ex.fs.map (·.1)).map so).zip vs)) /\ Shrs W F (ex.fs.map (·.2)) vs)
structure Sat {T : Tbl} (W : Wd T) (e : Ent) (E : WX) (A : AEnds) (Dn : Ends) : Prop where
  nx : ∀ env F σ H L, A.nx env -> Rel W e env F σ H L -> Dn.nx σ H
  rt : ∀ d env F σ H L v M, A.rt d env -> Rel W e env F σ H L -> Own W F H d v M -> (M ++ L).Nodup -> (∀ a ∈ M, F a = none /\ (a ∈ e.L0 \/ e.H0 a = none)) -> Dn.rt v H
  bk : ∀ env F σ H L, A.bk env -> Rel W e env F σ H L -> Dn.bk σ H
  ct : ∀ env F σ H L, A.ct env -> Rel W e env F σ H L -> Dn.ct σ H
  ex : ∀ x env F σ H L C d, A.ex x env -> Rel W e env F σ H L -> IsExn W F x C d -> E C d σ H
def AS {T : Tbl} (W : Wd T) (P : List Nat) (E : WX) (t : TS) (env : Py.Env) (A : AEnds) : Prop :=
  ∀ (e : Ent) (F : Hp) (σ : St) (H : Hp) (L : List Addr) (Dn : Ends), P = e.pins.map (·.1) -> Rel W e env F σ H L -> Sat W e E A Dn -> t Dn σ H
variable {P : List Nat} {E : WX} {A : AEnds}
theorem as_seq {t u : TS} (h : AS W P E t env { A with nx := fun env' => AS W P E u env' A }) : AS W P E (tSeq t u) env A := fun e F σ H L Dn hp r s =>
  h e F σ H L _ hp r ⟨fun env' F' σ' H' L' a r' => a e F' σ' H' L' Dn hp r' s, s.rt, s.bk, s.ct, s.ex⟩
theorem as_next (h : A.nx env) : AS W P E tNext env A := fun e F σ H L Dn hp r s => s.nx _ _ _ _ _ h r
theorem Rel.set {e : Ent} {σ : St} {L M : List Addr} {d : D} {v : V} {i : Nat} (r : Rel W e env F σ H L) (o : Own W F H d v M) (nd : (M ++ L).Nodup) (k : ∀ a ∈ M, F a = none /\ (a ∈ e.L0 \/ e.H0 a = none)) (hi : i < env.length)
    (hp : ∀ p ∈ e.pins, p.1 ≠ i) : ∃ L', Rel W e (env.set i (some d)) F (σ.set i (some v)) H L' := by
  obtain ⟨L', s, nd', m⟩ := r.slots.put o nd hi
  refine ⟨L', r.sF, s, nd', fun a ha => ?_, r.s0, r.nw, r.fr, fun a ha => ?_, fun p hm => ?_⟩
  · rcases m a ha with q | q
    · exact (k a q).1
    · exact r.dj a q
  · rcases m a ha with q | q
    · exact (k a q).2
    · exact r.ln a q
  · rw [List.getElem?_set_ne (fun z => hp p hm z.symm)]
    exact r.pin p hm
theorem Rel.h0 {e : Ent} {σ : St} {L : List Addr} (r : Rel W e env F σ H L) {a : Addr} (h : H a = none) : a ∈ e.L0 \/ e.H0 a = none := by
  by_cases m : a ∈ e.L0
  · exact .inl m
  · refine .inr ?_
    cases y : e.H0 a with
    | none => rfl
    | some u => rw [r.fr a u m y] at h; cases h
theorem nodup_new {L M : List Addr} {H : Hp} (h1 : L.Nodup) (h2 : M.Nodup) (hl : ∀ a ∈ L, ∃ o, H a = some o) (hm : ∀ a ∈ M, H a = none) : (M ++ L).Nodup := by
  rw [List.nodup_append]
  refine ⟨h2, h1, fun a ha b hb q => ?_⟩
  subst q
  obtain ⟨o, z⟩ := hl a hb
  rw [hm a ha] at z
  cases z
theorem as_if {tc : TT} {t u : TS} {b : Bool} (h : AT W tc env b) (h1 : b = true -> AS W P E t env A) (h2 : b = false -> AS W P E u env A) : AS W P E (tIfS tc t u) env A := fun e F σ H L Dn hP r s =>
  h e F σ H L _ r fun F' H' x => by
    have r' := r.ext x
    cases b with
    | true => exact h1 rfl e F' σ H' L Dn hP r' s
    | false => exact h2 rfl e F' σ H' L Dn hP r' s
end
end Py
namespace Py
open PySem L2
section
variable {T : Tbl} {W : Wd T} {env : Py.Env} {t ta tb tc : TE} {d d1 d2 d3 : D} {i j : Int} {n m : Nat}
theorem slot_get {e : Ent} {F H : Hp} {σ : St} {L : List Addr} (r : Rel W e env F σ H L) (h : env[n]? = some (some d)) : ∃ v M, σ[n]? = some (some v) /\ Own W F H d v M /\ ∀ a ∈ M, a ∈ L := by
  obtain ⟨v, Li, Lr, e1, o, _, _, m⟩ := r.slots.take r.nd h
  exact ⟨v, Li, e1, o, fun a ha => (m a).mp (.inl ha)⟩
theorem ae_c {v : V} (h : ∀ F, Shr W F d v) : AE W (tC v) env (rF W d) := fun e F σ H L Q r q => q v F H (.refl r.sF) (h F)
theorem AE.shr (h : AE W t env (rO W d)) (s : isSh d = true) : AE W t env (rF W d) := h.imp fun _ _ _ _ _ ⟨_, o, _⟩ => o.shr s
theorem rO_sh {F H H0 : Hp} {v : V} (h : Shr W F d v) : rO W d F H H0 v := ⟨[], .sh h, .nil, fun _ m => nomatch m⟩
theorem rO_back {F H H0 H1 : Hp} {v : V} (e : Same H0 H1) (h : rO W d F H H1 v) : rO W d F H H0 v := by
  obtain ⟨L, o, nd, k⟩ := h
  exact ⟨L, o, nd, fun a m => ⟨e.free (k a m).1, (k a m).2⟩⟩
def Op2 {T : Tbl} (W : Wd T) (r : R2) (d1 d2 d : D) : Prop := ∀ (F H : Hp) (v1 v2 : V) (Q : VK), Same F H -> Shr W H d1 v1 -> Shr W H d2 v2 -> (∀ v F' H', Ext F H F' H' -> rO W d F' H' H v -> Q v H') -> r v1 v2 H Q
def Op2L {T : Tbl} (W : Wd T) (r : R2) (ds es : List D) (d : D) : Prop := ∀ (F H : Hp) (a b : Addr) (vs ws : List V) (Q : VK), Same F H -> H a = some (.lst vs) -> Shrs W F ds vs -> H b = some (.lst ws) -> Shrs W F es ws -> (∀ v F' H', Ext F H F' H' -> rO W d F' H' H v -> Q v H') -> r (.ref a) (.ref b) H Q
theorem ae_op2 {r : R2} (ha : AE W ta env (rV W d1)) (hb : AE W tb env (rV W d2)) (h : Op2 W r d1 d2 d) : AE W (tOp r ta tb) env (rO W d) := fun e F σ H L Q rl q =>
  ha e F σ H L _ rl fun v F1 H1 x1 y1 => hb e F1 σ H1 L _ (rl.ext x1) fun u F2 H2 x2 y2 => h F2 H2 v u Q x2.s (y1.mono x2.h) y2 fun w F3 H3 x3 y3 => q w F3 H3 ((x1.trans x2).trans x3) (rO_back (x1.h.trans x2.h) y3)
theorem o2_l {r r' : R2} (h : Op2 W r d1 d2 d) : Op2 W (fun x y H Q => r x y H Q \/ r' x y H Q) d1 d2 d := fun F H v1 v2 Q s a b q => .inl (h F H v1 v2 Q s a b q)
theorem o2_r {r r' : R2} (h : Op2 W r' d1 d2 d) : Op2 W (fun x y H Q => r x y H Q \/ r' x y H Q) d1 d2 d := fun F H v1 v2 Q s a b q => .inr (h F H v1 v2 Q s a b q)
theorem o2_i {g : Int -> Int -> V} (hg : ∀ F, Shr W F d (g i j)) : Op2 W (rI0 g) (.int i) (.int j) d := fun F H v1 v2 Q s a b q => by
  cases a; cases b
  exact ⟨i, j, rfl, rfl, q _ F H (.refl s) (rO_sh (hg _))⟩
theorem o2_ic {C : Int -> Int -> Prop} {g : Int -> Int -> V} (hc : C i j) (hg : ∀ F, Shr W F d (g i j)) : Op2 W (rI C g) (.int i) (.int j) d := fun F H v1 v2 Q s a b q => by
  cases a; cases b
  exact ⟨i, j, rfl, rfl, hc, q _ F H (.refl s) (rO_sh (hg _))⟩
theorem ae_u {g : Int -> V} (ha : AE W ta env (rV W (.int i))) (hg : ∀ F, Shr W F d (g i)) : AE W (tUn (rU g) ta) env (rF W d) := fun e F σ H L Q r q =>
  ha e F σ H L _ r fun v F1 H1 x1 y1 => by
    cases y1
    exact ⟨i, rfl, q _ F1 H1 x1 (hg _)⟩
def fl : D -> Option V
  | .non => some .non
  | .bl b => some (.bl b)
  | .int i => some (.int i)
  | .str x => some (.str (so x))
  | _ => none
theorem Shr.fl {F : Hp} {v u : V} (h : Shr W F d v) (e : Py.fl d = some u) : v = u := by
  cases h <;> (first | (cases e; rfl) | cases e)
mutual
def pd : D -> Option PyData
  | .non => some .none
  | .bl b => some (.bool b)
  | .int i => some (.int i)
  | .str x => some (.str (so x))
  | .tup xs => (pds xs).map PyData.tuple
  | .lst xs => (pds xs).map PyData.list
  | _ => none
def pds : List D -> Option (List PyData)
  | [] => some []
  | d :: ds => match pd d, pds ds with
    | some x, some xs => some (x :: xs)
    | _, _ => none
end
mutual
theorem Shr.dp {H : Hp} : ∀ {d : D} {v : V} {x : PyData}, Shr W H d v -> pd d = some x -> Dp W.K H v x
  | _, _, _, .non, e => by rw [pd] at e; cases e; exact .non
  | _, _, _, .bl, e => by rw [pd] at e; cases e; exact .bl _
  | _, _, _, .int, e => by rw [pd] at e; cases e; exact .int _
  | _, _, _, .str, e => by rw [pd] at e; cases e; exact .str _
  | _, _, _, .scr _, e => by rw [pd] at e <;> cases e
  | .tup xs, _, _, .tup h hs, e => by
    rw [pd] at e
    cases q : pds xs with
    | none => rw [q] at e; cases e
    | some ys => rw [q] at e; cases e; exact .tup (.of h) (Shrs.dp hs q)
  | .lst xs, _, _, .lst h hs, e => by
    rw [pd] at e
    cases q : pds xs with
    | none => rw [q] at e; cases e
    | some ys => rw [q] at e; cases e; exact .lst (.of h) (Shrs.dp hs q)
  | _, _, _, .cls _, e => by rw [pd] at e <;> cases e
  | _, _, _, .sei _ _, e => by rw [pd] at e <;> cases e
  | _, _, _, .dic _ _ _ _, e => by rw [pd] at e <;> cases e
  | _, _, _, .dit _ _ _ _, e => by rw [pd] at e <;> cases e
  | _, _, _, .dig _ _ _ _, e => by rw [pd] at e <;> cases e
  | _, _, _, .ins _ _ _ _, e => by rw [pd] at e <;> cases e
theorem Shrs.dp {H : Hp} : ∀ {ds : List D} {vs : List V} {xs : List PyData}, Shrs W H ds vs -> pds ds = some xs -> DpAll W.K H vs xs
  | _, _, _, .nil, e => by rw [pds] at e; cases e; exact .nil
  | d :: ds, _, _, .cons h t, e => by
    rw [pds] at e
    cases q1 : pd d with
    | none => rw [q1] at e; cases e
    | some x =>
      cases q2 : pds ds with
      | none => rw [q1, q2] at e; cases e
      | some xs => rw [q1, q2] at e; cases e; exact .cons (Shr.dp h q1) (Shrs.dp t q2)
end
theorem o2_eqD {x y : PyData} (h1 : pd d1 = some x) (h2 : pd d2 = some y) (s1 : SeqAt.shaped x = true) (s2 : SeqAt.shaped y = true) : Op2 W (rEqD W.K) d1 d2 (.bl (PyData.eqv x y)) := fun F H v1 v2 Q s a b q =>
  ⟨x, y, a.dp h1, b.dp h2, s1, s2, q _ F H (.refl s) (rO_sh .bl)⟩
theorem o2_neD {x y : PyData} (h1 : pd d1 = some x) (h2 : pd d2 = some y) (s1 : SeqAt.shaped x = true) (s2 : SeqAt.shaped y = true) : Op2 W (rNeD W.K) d1 d2 (.bl (!PyData.eqv x y)) := fun F H v1 v2 Q s a b q =>
  ⟨x, y, a.dp h1, b.dp h2, s1, s2, q _ F H (.refl s) (rO_sh .bl)⟩
theorem o2L_cat {ds es : List D} (hl : ds.length + es.length <= 1000000) : Op2L W rCat ds es (.olst (ds ++ es)) := fun F H a b vs ws Q s ha sa hb sb q =>
  ⟨a, b, vs, ws, rfl, rfl, ha, hb, by rw [<- sa.length, <- sb.length]; exact Nat.le_trans hl (by decide), fun p hp => q _ F _ (.newH s hp) ⟨[p], .olst upd_same (sa.append sb).owns, by simp, fun x m => by
    rw [List.mem_singleton.mp m]; exact ⟨hp, s.free hp⟩⟩⟩
def Cb {T : Tbl} (W : Wd T) (r : List V -> Hp -> VK -> Prop) (ds : List D) (d : D) : Prop := ∀ (F H : Hp) (vs : List V) (Q : VK), Same F H -> Shrs W H ds vs -> (∀ v F' H', Ext F H F' H' -> rO W d F' H' H v -> Q v H') -> r vs H Q
theorem ae_cb {r : List V -> Hp -> VK -> Prop} {tr : TA} {ds : List D} (h : AA W tr env (rVs W ds)) (hc : Cb W r ds d) : AE W (tCB r tr) env (rO W d) := fun e F σ H L Q rl q =>
  h e F σ H L _ rl fun vs F1 H1 x1 y1 => hc F1 H1 vs Q x1.s y1 fun w F3 H3 x3 y3 => q w F3 H3 (x1.trans x3) (rO_back x1.h y3)
theorem cb_l {r r' : List V -> Hp -> VK -> Prop} {ds : List D} (h : Cb W r ds d) : Cb W (fun xs H Q => r xs H Q \/ r' xs H Q) ds d := fun F H vs Q s a q => .inl (h F H vs Q s a q)
def isNon : D -> Bool
  | .non => true
  | _ => false
theorem Shr.non_iff {F : Hp} {v : V} (h : Shr W F d v) : decide (v = V.non) = isNon d := by
  cases h <;> first | rfl | (simp [isNon])
theorem ae_isN (ha : AE W ta env (rV W d)) : AE W (tOp (fun x y H Q => y = .non /\ Q (.bl (decide (x = .non))) H) ta (tC .non)) env (rF W (.bl (isNon d))) := fun e F σ H L Q r q =>
  ha e F σ H L _ r fun v F1 H1 x1 y1 => ⟨rfl, by rw [y1.non_iff]; exact q _ F1 H1 x1 .bl⟩
theorem ae_andV {a b : Bool} (ha : AE W ta env (rV W (.bl a))) (hb : a = true -> AE W tb env (rV W (.bl b))) : AE W (tAndV ta tb) env (rF W (.bl (a && b))) := fun e F σ H L Q r q =>
  ha e F σ H L _ r fun v F1 H1 x1 y1 => by
    cases y1
    refine ⟨a, rfl, ?_⟩
    cases a with
    | true => exact hb rfl e F1 σ H1 L _ (r.ext x1) fun u F2 H2 x2 y2 => by cases y2; exact q _ F2 H2 (x1.trans x2) .bl
    | false => exact q _ F1 H1 x1 .bl
theorem ae_orV {a b : Bool} (ha : AE W ta env (rV W (.bl a))) (hb : a = false -> AE W tb env (rV W (.bl b))) : AE W (tOrV ta tb) env (rF W (.bl (a || b))) := fun e F σ H L Q r q =>
  ha e F σ H L _ r fun v F1 H1 x1 y1 => by
    cases y1
    refine ⟨a, rfl, ?_⟩
    cases a with
    | false => exact hb rfl e F1 σ H1 L _ (r.ext x1) fun u F2 H2 x2 y2 => by cases y2; exact q _ F2 H2 (x1.trans x2) .bl
    | true => exact q _ F1 H1 x1 .bl
theorem ae_notV {a : Bool} (ha : AE W ta env (rV W (.bl a))) : AE W (tNotV ta) env (rF W (.bl (!a))) := fun e F σ H L Q r q =>
  ha e F σ H L _ r fun v F1 H1 x1 y1 => by
    cases y1
    exact ⟨a, rfl, q _ F1 H1 x1 .bl⟩
variable {tt tu : TT} {a b : Bool}
theorem at_test (h : AE W t env (rV W (.bl b))) : AT W (tTest t) env b := fun e F σ H L Q r q => h e F σ H L _ r fun v F1 H1 x1 y1 => by
  cases y1
  exact ⟨b, rfl, q F1 H1 x1⟩
theorem at_and (h1 : AT W tt env a) (h2 : a = true -> AT W tu env b) : AT W (tAnd tt tu) env (a && b) := fun e F σ H L Q r q => h1 e F σ H L _ r fun F1 H1 x1 => by
  cases a with
  | true => exact h2 rfl e F1 σ H1 L _ (r.ext x1) fun F2 H2 x2 => q F2 H2 (x1.trans x2)
  | false => exact q F1 H1 x1
theorem at_or (h1 : AT W tt env a) (h2 : a = false -> AT W tu env b) : AT W (tOr tt tu) env (a || b) := fun e F σ H L Q r q => h1 e F σ H L _ r fun F1 H1 x1 => by
  cases a with
  | false => exact h2 rfl e F1 σ H1 L _ (r.ext x1) fun F2 H2 x2 => q F2 H2 (x1.trans x2)
  | true => exact q F1 H1 x1
theorem at_not (h1 : AT W tt env a) : AT W (tNot tt) env (!a) := fun e F σ H L Q r q => h1 e F σ H L _ r fun F1 H1 x1 => q F1 H1 x1
variable {tr : TA} {ds : List D}
theorem aa_nil : AA W tNil env (rFs W []) := fun e F σ H L Q r q => q [] F H (.refl r.sF) .nil
theorem aa_nilV : AA W tNil env (rVs W []) := fun e F σ H L Q r q => q [] F H (.refl r.sF) .nil
theorem aa_cons (ha : AE W t env (rF W d)) (hr : AA W tr env (rFs W ds)) : AA W (tCons t tr) env (rFs W (d :: ds)) := fun e F σ H L Q r q =>
  ha e F σ H L _ r fun v F1 H1 x1 y1 => hr e F1 σ H1 L _ (r.ext x1) fun vs F2 H2 x2 y2 => q _ F2 H2 (x1.trans x2) (.cons (y1.mono x2.f) y2)
theorem aa_consV (ha : AE W t env (rV W d)) (hr : AA W tr env (rVs W ds)) : AA W (tCons t tr) env (rVs W (d :: ds)) := fun e F σ H L Q r q =>
  ha e F σ H L _ r fun v F1 H1 x1 y1 => hr e F1 σ H1 L _ (r.ext x1) fun vs F2 H2 x2 y2 => q _ F2 H2 (x1.trans x2) (.cons (y1.mono x2.h) y2)
theorem AA.view (h : AA W tr env (rFs W ds)) : AA W tr env (rVs W ds) := fun e F σ H L Q r q => h e F σ H L _ r fun v F1 H1 x1 y1 => q v F1 H1 x1 (Shrs.mono x1.s y1)
theorem sz_le {n : Nat} (h : n <= 1000000) : n <= sizeLine := Nat.le_trans h (by decide)
theorem ae_tup (h : AA W tr env (rFs W ds)) (hl : ds.length <= 1000000) : AE W (tTup tr) env (rF W (.tup ds)) := fun e F σ H L Q r q =>
  h e F σ H L _ r fun vs F1 H1 x1 y1 => ⟨by rw [<- y1.length]; exact sz_le hl, fun p hp =>
    q _ (upd F1 p (.tup vs)) _ (x1.trans (.new x1.s hp)) (.tup upd_same (y1.mono (same_new (x1.s.free hp))))⟩
theorem ae_lst (h : AA W tr env (rFs W ds)) (hl : ds.length <= 1000000) : AE W (tLst tr) env (rO W (.olst ds)) := fun e F σ H L Q r q =>
  h e F σ H L _ r fun vs F1 H1 x1 y1 => ⟨by rw [<- y1.length]; exact sz_le hl, fun p hp =>
    q _ F1 _ (x1.trans (.newH x1.s hp)) ⟨[p], .olst upd_same y1.owns, by simp, fun a m => by
      rw [List.mem_singleton.mp m]; exact ⟨x1.h.free hp, x1.s.free hp⟩⟩⟩
abbrev rLenU (K : PySem.W.Frag) : List V -> Hp -> VK -> Prop := fun xs H Q => ∃ p ys, xs = [.ref p] /\ (SqL K H p ys \/ SqT K H p ys) /\ Q (.int ys.length) H
theorem cb_lenL {ds : List D} : Cb W (rLenU W.K) [.lst ds] (.int ds.length) := fun F H vs Q s a q => by
  cases a with
  | cons a b =>
    cases b
    cases a with
    | lst a b => exact ⟨_, _, rfl, .inl (.of a), q _ F H (.refl s) (rO_sh (by rw [b.length]; exact .int))⟩
theorem cb_lenT {ds : List D} : Cb W (rLenU W.K) [.tup ds] (.int ds.length) := fun F H vs Q s a q => by
  cases a with
  | cons a b =>
    cases b
    cases a with
    | tup a b => exact ⟨_, _, rfl, .inr (.of a), q _ F H (.refl s) (rO_sh (by rw [b.length]; exact .int))⟩
theorem cb_lenS {ns : List Int} : Cb W (rLenU W.K) [.scr ns] (.int ns.length) := fun F H vs Q s a q => by
  cases a with
  | cons a b =>
    cases b
    cases a with
    | scr a => exact ⟨_, _, rfl, .inl a, q _ F H (.refl s) (rO_sh (by rw [List.length_map]; exact .int))⟩
def rIxU (K : PySem.W.Frag) : R2 := fun x y H Q => rIxL K x y H Q \/ rIxT K x y H Q
theorem AT.is {tt : TT} {b c : Bool} (h : AT W tt env b) (e : b = c) : AT W tt env c := e ▸ h
theorem cb_int : Cb W (fun xs H Q => (∃ i, xs = [.int i] /\ Q (.int i) H) \/ ∃ k, xs = [.bl k] /\ Q (.int (if k then 1 else 0)) H) [.int i] (.int i) := fun F H vs Q s a q => by
  cases a with
  | cons a b =>
    cases b; cases a
    exact .inl ⟨i, rfl, q _ F H (.refl s) (rO_sh .int)⟩
theorem cb_abs : Cb W (fun xs H Q => ∃ i, xs = [.int i] /\ Q (.int (if i < 0 then -i else i)) H) [.int i] (.int (if i < 0 then -i else i)) := fun F H vs Q s a q => by
  cases a with
  | cons a b =>
    cases b; cases a
    exact ⟨i, rfl, q _ F H (.refl s) (rO_sh .int)⟩
variable {P : List Nat} {E : WX} {A : AEnds}
def AG {T : Tbl} (W : Wd T) (P : List Nat) (g : TG) (d : D) (env : Py.Env) (k : Py.Env -> Prop) : Prop :=
  ∀ (e : Ent) (F : Hp) (σ : St) (H : Hp) (L : List Addr) (v : V) (Q : St -> Hp -> Prop), P = e.pins.map (·.1) -> Rel W e env F σ H L -> Shr W F d v -> (∀ env' σ' L', k env' -> Rel W e env' F σ' H L' -> Q σ' H) -> g v σ H Q
def AGs {T : Tbl} (W : Wd T) (P : List Nat) (g : TGs) (ds : List D) (env : Py.Env) (k : Py.Env -> Prop) : Prop :=
  ∀ (e : Ent) (F : Hp) (σ : St) (H : Hp) (L : List Addr) (vs : List V) (Q : St -> Hp -> Prop), P = e.pins.map (·.1) -> Rel W e env F σ H L -> Shrs W F ds vs -> (∀ env' σ' L', k env' -> Rel W e env' F σ' H L' -> Q σ' H) -> g vs σ H Q
theorem ag_name {k : Nat} {o' : Option D} {q : Py.Env -> Prop} (hi' : env[k]? = some o') (hp : k ∉ P) (h : q (env.set k (some d))) : AG W P (gName k) d env q := fun e F σ H L v Q hP r s c => by
  have hi := (List.getElem?_eq_some_iff.mp hi').1
  obtain ⟨L', r2⟩ := r.set (i := k) (M := []) (.sh s) (by simpa using r.nd) (fun a m => nomatch m) hi fun p hm z => hp (by rw [hP]; exact List.mem_map.mpr ⟨p, hm, z⟩)
  exact c _ _ _ h r2
theorem ag_tup {gs : TGs} {q : Py.Env -> Prop} {k : Nat} (hl : ds.length = k) (h : AGs W P gs ds env q) : AG W P (gTup W.K k gs) (.tup ds) env q := fun e F σ H L v Q hP r s c => by
  cases s with
  | tup a b => exact ⟨_, _, rfl, .of (r.sF _ _ a), by rw [<- b.length]; exact hl, h e F σ H L _ Q hP r b c⟩
theorem Rel.enter {e : Ent} {F H : Hp} {σ : St} {L : List Addr} (r : Rel W e env F σ H L) : Rel W { e with F0 := F } env F σ H L :=
  ⟨r.sF, r.slots, r.nd, r.dj, Same.refl _, fun _ _ h => .inl h, r.fr, r.ln, r.pin⟩
theorem Rel.leave {e : Ent} {F1 F H H1 : Hp} {σ σ1 : St} {L L1 : List Addr} {env1 : Py.Env} (r1 : Rel W e env1 F1 σ1 H1 L1) (r : Rel W { e with F0 := F1 } env F σ H L) : Rel W e env F σ H L :=
  ⟨r.sF, r.slots, r.nd, r.dj, r1.s0.trans r.s0, fun a o h => (r.nw a o h).elim (fun q => r1.nw a o q) .inr, r.fr, r.ln, r.pin⟩
end
end Py
namespace Py
open PySem L2
inductive Pst where
  | fld (f : String) | idx (k : Nat) | key (k : Key) | keyT (k : List Key)
def pos {α : Type} [DecidableEq α] (f : α) : List α -> Option Nat
  | [] => none
  | x :: xs => if x = f then some 0 else (pos f xs).map (· + 1)
theorem pos_get {α : Type} [DecidableEq α] {f : α} : ∀ {ns : List α} {j : Nat}, pos f ns = some j -> ns[j]? = some f
  | [], _, h => by cases h
  | x :: xs, j, h => by
    unfold pos at h
    split at h
    · rename_i e; cases h; rw [e]; rfl
    · cases q : pos f xs with
      | none => rw [q] at h; cases h
      | some k => rw [q] at h; cases h; exact pos_get (ns := xs) q
theorem zip_lookup {f : String} : ∀ {ns : List String} {vs : List V} {j : Nat}, pos f ns = some j -> ((ns.map so).zip vs).lookup (so f) = vs[j]?
  | [], _, _, h => by cases h
  | x :: xs, [], j, h => by simp
  | x :: xs, v :: vs, j, h => by
    unfold pos at h
    rw [List.map_cons, List.zip_cons_cons, List.lookup_cons]
    split at h
    · rename_i e; cases h; subst e; simp
    · rename_i e
      cases q : pos f xs with
      | none => rw [q] at h; cases h
      | some k =>
        rw [q] at h; cases h
        rw [beq_eq_false_iff_ne.mpr (fun z => e (so_inj z.symm))]
        exact zip_lookup (ns := xs) q
def D.place : D -> Pst -> Option Nat
  | .oins _ ns _, .fld f => pos f ns
  | .olst _, .idx k => some k
  | .odic ks _, .key k => pos k ks
  | .odit ks _, .keyT k => pos k ks
  | _, _ => none
def D.parts : D -> List D
  | .oins _ _ xs => xs
  | .olst xs => xs
  | .odic _ xs => xs
  | .odit _ xs => xs
  | _ => []
def D.withParts : D -> List D -> D
  | .oins C ns _, xs => .oins C ns xs
  | .olst _, xs => .olst xs
  | .odic ks _, xs => .odic ks xs
  | .odit ks _, xs => .odit ks xs
  | d, _ => d
def D.sub (d : D) (s : Pst) : Option D := (d.place s).bind fun j => d.parts[j]?
def D.put (d : D) (s : Pst) (n : D) : D := match d.place s with
  | some j => d.withParts (d.parts.set j n)
  | none => d
def D.at (d : D) : List Pst -> Option D
  | [] => some d
  | s :: st => (d.sub s).bind fun x => x.at st
def D.putAt (d : D) : List Pst -> D -> D
  | [], n => n
  | s :: st, n => match d.sub s with
    | some x => d.put s (x.putAt st n)
    | none => d
def VStep (H : Hp) (v : V) (s : Pst) (w : V) : Prop := match s with
  | .fld f => ∃ a C dx fs, v = .ref a /\ H a = some (.ins C dx fs) /\ fs.lookup (so f) = some w
  | .idx k => ∃ a vs, v = .ref a /\ H a = some (.lst vs) /\ vs[k]? = some w
  | .key k => ∃ a kvs, v = .ref a /\ H a = some (.dK kvs) /\ ∃ j : Nat, pos k (kvs.map (·.1)) = some j /\ (kvs.map (·.2))[j]? = some w
  | .keyT k => ∃ a kvs, v = .ref a /\ H a = some (.dT kvs) /\ ∃ j : Nat, pos k (kvs.map (·.1)) = some j /\ (kvs.map (·.2))[j]? = some w
def VPath (H : Hp) (v : V) : List Pst -> V -> Prop
  | [], w => v = w
  | s :: st, w => ∃ u, VStep H v s u /\ VPath H u st w
theorem VStep.mono {H H' : Hp} {v w : V} {s : Pst} (e : Same H H') (h : VStep H v s w) : VStep H' v s w := by
  cases s with
  | fld f => obtain ⟨a, C, dx, fs, h1, h2, h3⟩ := h; exact ⟨a, C, dx, fs, h1, e _ _ h2, h3⟩
  | idx k => obtain ⟨a, vs, h1, h2, h3⟩ := h; exact ⟨a, vs, h1, e _ _ h2, h3⟩
  | key k => obtain ⟨a, vs, h1, h2, h3⟩ := h; exact ⟨a, vs, h1, e _ _ h2, h3⟩
  | keyT k => obtain ⟨a, vs, h1, h2, h3⟩ := h; exact ⟨a, vs, h1, e _ _ h2, h3⟩
theorem VPath.mono {H H' : Hp} (e : Same H H') : ∀ {st : List Pst} {v w : V}, VPath H v st w -> VPath H' v st w
  | [], _, _, h => h
  | _ :: _, _, _, ⟨u, h1, h2⟩ => ⟨u, h1.mono e, VPath.mono e h2⟩
theorem VStep.det {H : Hp} {v w u : V} {s : Pst} (h : VStep H v s w) (q : VStep H v s u) : w = u := by
  cases s with
  | fld f =>
    obtain ⟨a, C, dx, fs, h1, h2, h3⟩ := h
    obtain ⟨b, C', dx', fs', q1, q2, q3⟩ := q
    rw [h1] at q1; cases q1
    rw [h2] at q2; cases q2
    rw [h3] at q3; exact Option.some.inj q3
  | idx k =>
    obtain ⟨a, vs, h1, h2, h3⟩ := h
    obtain ⟨b, ws, q1, q2, q3⟩ := q
    rw [h1] at q1; cases q1
    rw [h2] at q2; cases q2
    rw [h3] at q3; exact Option.some.inj q3
  | key k =>
    obtain ⟨a, vs, h1, h2, j, h3, h4⟩ := h
    obtain ⟨b, ws, q1, q2, j', q3, q4⟩ := q
    rw [h1] at q1; cases q1
    rw [h2] at q2; cases q2
    rw [h3] at q3; cases q3
    rw [h4] at q4; exact Option.some.inj q4
  | keyT k =>
    obtain ⟨a, vs, h1, h2, j, h3, h4⟩ := h
    obtain ⟨b, ws, q1, q2, j', q3, q4⟩ := q
    rw [h1] at q1; cases q1
    rw [h2] at q2; cases q2
    rw [h3] at q3; cases q3
    rw [h4] at q4; exact Option.some.inj q4
theorem VPath.det {H : Hp} : ∀ {st : List Pst} {v w u : V}, VPath H v st w -> VPath H v st u -> w = u
  | [], _, _, _, h, q => by cases h; cases q; rfl
  | _ :: _, _, _, _, ⟨x, h1, h2⟩, ⟨y, q1, q2⟩ => by
    cases h1.det q1
    exact VPath.det h2 q2
theorem VPath.snoc {H : Hp} : ∀ {st : List Pst} {v w u : V} {s : Pst}, VPath H v st w -> VStep H w s u -> VPath H v (st ++ [s]) u
  | [], _, _, _, _, h, q => by cases h; exact ⟨_, q, rfl⟩
  | _ :: _, _, _, _, _, ⟨x, h1, h2⟩, q => ⟨x, h1, VPath.snoc h2 q⟩
section
variable {T : Tbl} {W : Wd T} {F H : Hp}
theorem Owns.focus : ∀ {xs : List D} {vs : List V} {L : List Addr} {j : Nat} {n : D}, Owns W F H xs vs L -> L.Nodup -> xs[j]? = some n ->
    ∃ vn Ln Lr, vs[j]? = some vn /\ Own W F H n vn Ln /\ (Ln ++ Lr).Nodup /\ (∀ a, a ∈ Ln \/ a ∈ Lr ↔ a ∈ L) /\
      ∀ F' H' n' Ln', Same F F' -> (∀ a ∈ Lr, ∀ o, H a = some o -> H' a = some o) -> Own W F' H' n' vn Ln' -> (Ln' ++ Lr).Nodup -> ∃ L', Owns W F' H' (xs.set j n') vs L' /\ L'.Nodup /\ ∀ a, a ∈ L' ↔ a ∈ Ln' \/ a ∈ Lr
  | _, _, _, _, _, .nil, _, e => by simp at e
  | _, _, _, 0, n, .cons (L := L1) (M := M1) (v := v1) o t, nd, e => by
    simp at e; subst e
    refine ⟨v1, L1, M1, rfl, o, nd, fun a => List.mem_append.symm, fun F' H' n' Ln' s k o' nd' => ⟨Ln' ++ M1, ?_, nd', fun a => List.mem_append⟩⟩
    exact .cons o' (t.frame s k)
  | _, _, _, j + 1, n, .cons (L := L1) (M := M1) (v := v1) (d := d1) (ds := ds1) o t, nd, e => by
    rw [List.nodup_append] at nd
    obtain ⟨n1, n2, n3⟩ := nd
    obtain ⟨vn, Ln, Lr, h1, h2, h3, h4, h5⟩ := t.focus (j := j) n2 (by simpa using e)
    have hd : ∀ a ∈ L1, a ∉ Ln /\ a ∉ Lr := fun a ha => ⟨fun z => n3 a ha a ((h4 a).mp (.inl z)) rfl, fun z => n3 a ha a ((h4 a).mp (.inr z)) rfl⟩
    refine ⟨vn, Ln, L1 ++ Lr, by simpa using h1, h2, ?_, fun a => ?_, fun F' H' n' Ln' s k o' nd' => ?_⟩
    · rw [List.nodup_append] at h3 ⊢
      refine ⟨h3.1, ?_, fun a ha b hb q => ?_⟩
      · rw [List.nodup_append]
        exact ⟨n1, h3.2.1, fun a ha b hb q => (hd a ha).2 (q ▸ hb)⟩
      · subst q
        rcases List.mem_append.mp hb with z | z
        · exact (hd a z).1 ha
        · exact h3.2.2 a ha a z rfl
    · rw [List.mem_append, List.mem_append, <- h4 a]
      constructor
      · rintro (z | z | z)
        · exact .inr (.inl z)
        · exact .inl z
        · exact .inr (.inr z)
      · rintro (z | z | z)
        · exact .inr (.inl z)
        · exact .inl z
        · exact .inr (.inr z)
    · rw [List.nodup_append] at nd'
      obtain ⟨p1, p2, p3⟩ := nd'
      rw [List.nodup_append] at p2
      obtain ⟨L', q1, q2, q3⟩ := h5 F' H' n' Ln' s (fun a m => k a (List.mem_append_right _ m)) o' (by
        rw [List.nodup_append]
        exact ⟨p1, p2.2.1, fun a ha b hb => p3 a ha b (List.mem_append_right _ hb)⟩)
      refine ⟨L1 ++ L', .cons (o.frame s fun a m => k a (List.mem_append_left _ m)) q1, ?_, fun a => ?_⟩
      · rw [List.nodup_append]
        refine ⟨n1, q2, fun a ha b hb q => ?_⟩
        subst q
        rcases (q3 a).mp hb with z | z
        · exact p3 a z a (List.mem_append_left _ ha) rfl
        · exact p2.2.2 a ha a z rfl
      · rw [List.mem_append, List.mem_append, q3 a]
        constructor
        · rintro (z | z | z)
          · exact .inr (.inl z)
          · exact .inl z
          · exact .inr (.inr z)
        · rintro (z | z | z)
          · exact .inr (.inl z)
          · exact .inl z
          · exact .inr (.inr z)
theorem zipK_get {κ : Type} {ks : List κ} {vs : List V} (h : ks.length = vs.length) : ((ks.zip vs).map (·.1)) = ks /\ ((ks.zip vs).map (·.2)) = vs := ⟨by rw [List.map_fst_zip (by omega)], by rw [List.map_snd_zip (by omega)]⟩
theorem Own.focus1 {d n : D} {v : V} {L : List Addr} {s : Pst} (o : Own W F H d v L) (nd : L.Nodup) (h : d.sub s = some n) :
    ∃ vn Ln Lr, VStep H v s vn /\ Own W F H n vn Ln /\ (Ln ++ Lr).Nodup /\ (∀ a, a ∈ Ln \/ a ∈ Lr ↔ a ∈ L) /\
      ∀ F' H' n' Ln', Same F F' -> (∀ a ∈ Lr, ∀ o, H a = some o -> H' a = some o) -> Own W F' H' n' vn Ln' -> (Ln' ++ Lr).Nodup -> ∃ L', Own W F' H' (d.put s n') v L' /\ L'.Nodup /\ ∀ a, a ∈ L' ↔ a ∈ Ln' \/ a ∈ Lr := by
  have gen : ∀ {a : Addr} {xs : List D} {vs : List V} {M : List Addr} {j : Nat} {ho : HO} {G : List D -> D}, H a = some ho -> Owns W F H xs vs M -> (a :: M).Nodup -> xs[j]? = some n ->
      (∀ F' H' ys M', H' a = some ho -> Owns W F' H' ys vs M' -> Own W F' H' (G ys) (.ref a) (a :: M')) -> ∃ vn, vs[j]? = some vn /\ ∃ Ln Lr, Own W F H n vn Ln /\ (Ln ++ Lr).Nodup /\ (∀ b, b ∈ Ln \/ b ∈ Lr ↔ b ∈ a :: M) /\
      ∀ F' H' n' Ln', Same F F' -> (∀ a ∈ Lr, ∀ o, H a = some o -> H' a = some o) -> Own W F' H' n' vn Ln' -> (Ln' ++ Lr).Nodup -> ∃ L', Own W F' H' (G (xs.set j n')) (.ref a) L' /\ L'.Nodup /\ ∀ b, b ∈ L' ↔ b ∈ Ln' \/ b ∈ Lr := by
    intro a xs vs M j ho G ha os nd hj mk
    rw [List.nodup_cons] at nd
    obtain ⟨vn, Ln, Lr, h1, h2, h3, h4, h5⟩ := os.focus nd.2 hj
    have na : a ∉ Ln /\ a ∉ Lr := ⟨fun z => nd.1 ((h4 a).mp (.inl z)), fun z => nd.1 ((h4 a).mp (.inr z))⟩
    refine ⟨vn, h1, Ln, a :: Lr, h2, ?_, fun b => ?_, fun F' H' n' Ln' s k o' nd' => ?_⟩
    · rw [List.nodup_append] at h3 ⊢
      refine ⟨h3.1, List.nodup_cons.mpr ⟨na.2, h3.2.1⟩, fun x hx y hy q => ?_⟩
      subst q
      rcases List.mem_cons.mp hy with z | z
      · subst z; exact na.1 hx
      · exact h3.2.2 x hx x z rfl
    · rw [List.mem_cons, List.mem_cons, <- h4 b]
      constructor
      · rintro (z | z | z)
        · exact .inr (.inl z)
        · exact .inl z
        · exact .inr (.inr z)
      · rintro (z | z | z)
        · exact .inr (.inl z)
        · exact .inl z
        · exact .inr (.inr z)
    · rw [List.nodup_append] at nd'
      obtain ⟨p1, p2, p3⟩ := nd'
      rw [List.nodup_cons] at p2
      obtain ⟨L', q1, q2, q3⟩ := h5 F' H' n' Ln' s (fun b m => k b (List.mem_cons_of_mem _ m)) o' (by
        rw [List.nodup_append]
        exact ⟨p1, p2.2, fun x hx y hy => p3 x hx y (List.mem_cons_of_mem _ hy)⟩)
      refine ⟨a :: L', mk F' H' _ L' (k a (List.mem_cons_self ..) _ ha) q1, List.nodup_cons.mpr ⟨fun z => ?_, q2⟩, fun b => ?_⟩
      · rcases (q3 a).mp z with z | z
        · exact p3 a z a (List.mem_cons_self ..) rfl
        · exact p2.1 z
      · rw [List.mem_cons, List.mem_cons, q3 b]
        constructor
        · rintro (z | z | z)
          · exact .inr (.inl z)
          · exact .inl z
          · exact .inr (.inr z)
        · rintro (z | z | z)
          · exact .inr (.inl z)
          · exact .inl z
          · exact .inr (.inr z)
  unfold D.sub at h
  cases hp : d.place s with
  | none => rw [hp] at h; cases h
  | some j =>
    rw [hp] at h
    have h : d.parts[j]? = some n := h
    have hput : ∀ n', d.put s n' = d.withParts (d.parts.set j n') := fun n' => by unfold D.put; rw [hp]
    simp only [hput]
    cases o with
    | sh y =>
      cases y <;> (unfold D.place at hp; cases hp)
    | @olst a xs vs M ha os =>
      cases s with
      | idx k =>
        cases hp
        obtain ⟨vn, h1, Ln, Lr, h2⟩ := gen (G := .olst) ha os nd h fun F' H' ys M' q r => .olst q r
        exact ⟨vn, Ln, Lr, ⟨a, vs, rfl, ha, h1⟩, h2⟩
      | fld f => cases hp
      | key k => cases hp
      | keyT k => cases hp
    | @odic a ks xs vs M ha hl hn os =>
      cases s with
      | key k =>
        obtain ⟨vn, h1, Ln, Lr, h2⟩ := gen (G := .odic ks) ha os nd h fun F' H' ys M' q r => .odic q hl hn r
        obtain ⟨z1, z2⟩ := zipK_get hl
        exact ⟨vn, Ln, Lr, ⟨a, _, rfl, ha, j, by rw [z1]; exact hp, by rw [z2]; exact h1⟩, h2⟩
      | fld f => cases hp
      | idx k => cases hp
      | keyT k => cases hp
    | @odit a ks xs vs M ha hl hn os =>
      cases s with
      | keyT k =>
        obtain ⟨vn, h1, Ln, Lr, h2⟩ := gen (G := .odit ks) ha os nd h fun F' H' ys M' q r => .odit q hl hn r
        obtain ⟨z1, z2⟩ := zipK_get hl
        exact ⟨vn, Ln, Lr, ⟨a, _, rfl, ha, j, by rw [z1]; exact hp, by rw [z2]; exact h1⟩, h2⟩
      | fld f => cases hp
      | idx k => cases hp
      | key k => cases hp
    | odig => cases s <;> cases hp
    | @oins a C dx ns xs vs M ha hc hl os =>
      cases s with
      | fld f =>
        obtain ⟨vn, h1, Ln, Lr, h2⟩ := gen (G := .oins C ns) ha os nd h fun F' H' ys M' q r => .oins q hc hl r
        exact ⟨vn, Ln, Lr, ⟨a, _, dx, _, rfl, ha, by rw [zip_lookup hp]; exact h1⟩, h2⟩
      | idx k => cases hp
      | key k => cases hp
      | keyT k => cases hp
theorem Own.focus : ∀ {st : List Pst} {d n : D} {v : V} {L : List Addr}, Own W F H d v L -> L.Nodup -> d.at st = some n ->
    ∃ vn Ln Lr, VPath H v st vn /\ Own W F H n vn Ln /\ (Ln ++ Lr).Nodup /\ (∀ a, a ∈ Ln \/ a ∈ Lr ↔ a ∈ L) /\
      ∀ F' H' n' Ln', Same F F' -> (∀ a ∈ Lr, ∀ o, H a = some o -> H' a = some o) -> Own W F' H' n' vn Ln' -> (Ln' ++ Lr).Nodup -> ∃ L', Own W F' H' (d.putAt st n') v L' /\ L'.Nodup /\ ∀ a, a ∈ L' ↔ a ∈ Ln' \/ a ∈ Lr
  | [], d, n, v, L, o, nd, h => by
    cases h
    exact ⟨v, L, [], rfl, o, by simpa using nd, fun a => by simp, fun F' H' n' Ln' s k o' nd' => ⟨Ln', o', by simpa using nd', fun a => by simp⟩⟩
  | s :: st, d, n, v, L, o, nd, h => by
    unfold D.at at h
    cases hs : d.sub s with
    | none => rw [hs] at h; cases h
    | some x =>
      rw [hs] at h
      obtain ⟨vx, Lx, Ly, h1, h2, h3, h4, h5⟩ := o.focus1 nd hs
      obtain ⟨vn, Ln, Lr, k1, k2, k3, k4, k5⟩ := h2.focus (st := st) (List.nodup_append.mp h3).1 h
      have hput : ∀ n', d.putAt (s :: st) n' = d.put s (x.putAt st n') := fun n' => by
        show (match d.sub s with | some x => d.put s (x.putAt st n') | none => d) = _
        rw [hs]
      simp only [hput]
      rw [List.nodup_append] at h3
      obtain ⟨m1, m2, m3⟩ := h3
      refine ⟨vn, Ln, Lr ++ Ly, ⟨vx, h1, k1⟩, k2, ?_, fun a => ?_, fun F' H' n' Ln' sm k o' nd' => ?_⟩
      · rw [<- List.append_assoc, List.nodup_append]
        refine ⟨k3, m2, fun a ha b hb => m3 a ?_ b hb⟩
        exact (k4 a).mp (List.mem_append.mp ha)
      · rw [List.mem_append, <- h4 a, <- k4 a]
        constructor
        · rintro (z | z | z)
          · exact .inl (.inl z)
          · exact .inl (.inr z)
          · exact .inr z
        · rintro ((z | z) | z)
          · exact .inl z
          · exact .inr (.inl z)
          · exact .inr (.inr z)
      · rw [<- List.append_assoc, List.nodup_append] at nd'
        obtain ⟨p1, p2, p3⟩ := nd'
        obtain ⟨L', q1, q2, q3⟩ := k5 F' H' n' Ln' sm (fun a m => k a (List.mem_append_left _ m)) o' p1
        obtain ⟨L2, r1, r2, r3⟩ := h5 F' H' _ L' sm (fun a m => k a (List.mem_append_right _ m)) q1 (by
          rw [List.nodup_append]
          exact ⟨q2, p2, fun a ha b hb => p3 a (List.mem_append.mpr ((q3 a).mp ha)) b hb⟩)
        refine ⟨L2, r1, r2, fun a => ?_⟩
        rw [r3 a, q3 a, List.mem_append]
        constructor
        · rintro ((z | z) | z)
          · exact .inl z
          · exact .inr (.inl z)
          · exact .inr (.inr z)
        · rintro (z | z | z)
          · exact .inl (.inl z)
          · exact .inl (.inr z)
          · exact .inr z
theorem Owns.snoc : ∀ {xs : List D} {vs : List V} {M M2 : List Addr} {d : D} {v : V}, Owns W F H xs vs M -> Own W F H d v M2 -> Owns W F H (xs ++ [d]) (vs ++ [v]) (M ++ M2)
  | _, _, _, M2, _, _, .nil, o => by
    have h := Owns.cons o (Owns.nil (W := W) (F := F) (H := H))
    rw [List.append_nil] at h
    exact h
  | _, _, _, M2, _, _, .cons (L := L) (M := M) h t, o => by
    have q := Owns.cons h (t.snoc o)
    rw [<- List.append_assoc] at q
    exact q
theorem Rel.focus {e : Ent} {env : Py.Env} {σ : St} {L : List Addr} {i : Nat} {d0 n : D} {st : List Pst} (r : Rel W e env F σ H L) (h0 : env[i]? = some (some d0)) (h1 : d0.at st = some n) :
    ∃ v0 vn Ln Lr, σ[i]? = some (some v0) /\ VPath H v0 st vn /\ Own W F H n vn Ln /\ (Ln ++ Lr).Nodup /\ (∀ a, a ∈ Ln \/ a ∈ Lr ↔ a ∈ L) /\
      ∀ F' H' n' Ln', Same F F' -> Same F' H' -> (∀ a o, a ∉ Ln -> H a = some o -> H' a = some o) -> (∀ a o, F' a = some o -> F a = some o \/ (H a = none \/ a ∉ L /\ (a ∈ e.L0 \/ e.H0 a = none)) \/ a ∈ Ln) -> Own W F' H' n' vn Ln' -> (Ln' ++ Lr).Nodup -> (∀ a ∈ Ln', F' a = none /\ (a ∈ Ln \/ a ∈ e.L0 \/ e.H0 a = none)) ->
        ∃ L', Rel W e (env.set i (some (d0.putAt st n'))) F' σ H' L' /\ ∀ a ∈ L', a ∈ Ln' \/ a ∈ Lr := by
  obtain ⟨v0, Li, Lj, e1, o, sl, nd, mem⟩ := r.slots.take r.nd h0
  obtain ⟨vn, Ln, Lr, k1, k2, k3, k4, k5⟩ := o.focus (List.nodup_append.mp nd).1 h1
  rw [List.nodup_append] at nd
  obtain ⟨m1, m2, m3⟩ := nd
  have tot : ∀ a, a ∈ Ln \/ a ∈ Lr ++ Lj ↔ a ∈ L := fun a => by
    rw [List.mem_append, <- mem a, <- k4 a]
    constructor
    · rintro (z | z | z)
      · exact .inl (.inl z)
      · exact .inl (.inr z)
      · exact .inr z
    · rintro ((z | z) | z)
      · exact .inl z
      · exact .inr (.inl z)
      · exact .inr (.inr z)
  have ndT : (Ln ++ (Lr ++ Lj)).Nodup := by
    rw [<- List.append_assoc, List.nodup_append]
    exact ⟨k3, m2, fun a ha b hb => m3 a ((k4 a).mp (List.mem_append.mp ha)) b hb⟩
  refine ⟨v0, vn, Ln, Lr ++ Lj, e1, k1, k2, ndT, tot, fun F' H' n' Ln' sF sH fr nw o' nd' hn => ?_⟩
  have notn : ∀ a ∈ Lr ++ Lj, a ∉ Ln := fun a ha z => (List.nodup_append.mp ndT).2.2 a z a ha rfl
  have keep : ∀ a ∈ Lr ++ Lj, ∀ o, H a = some o -> H' a = some o := fun a ha o q => fr a o (notn a ha) q
  rw [<- List.append_assoc, List.nodup_append] at nd'
  obtain ⟨p1, p2, p3⟩ := nd'
  obtain ⟨L', q1, q2, q3⟩ := k5 F' H' n' Ln' sF (fun a m => keep a (List.mem_append_left _ m)) o' p1
  have sl' := sl.frame (F' := F') (H' := H') sF fun a m => keep a (List.mem_append_right _ m)
  have hi : i < env.length := (List.getElem?_eq_some_iff.mp h0).1
  obtain ⟨L2, s1, s2, s3⟩ := sl'.put (i := i) (v := v0) q1 (by
    rw [List.nodup_append]
    exact ⟨q2, p2, fun a ha b hb => p3 a (List.mem_append.mpr ((q3 a).mp ha)) b hb⟩) (by simpa using hi)
  have hset : (env.set i none).set i (some (d0.putAt st n')) = env.set i (some (d0.putAt st n')) := by rw [List.set_set]
  have hσ : σ.set i (some v0) = σ := by
    apply List.ext_getElem?
    intro k
    by_cases hk : i = k
    · subst hk
      obtain ⟨hlt, _⟩ := List.getElem?_eq_some_iff.mp e1
      rw [List.getElem?_set_self hlt, e1]
    · rw [List.getElem?_set_ne hk]
  rw [hset, hσ] at s1
  have inL : ∀ a ∈ L2, (a ∈ Ln' \/ a ∈ Lr ++ Lj) := fun a ha => by
    rcases s3 a ha with z | z
    · rcases (q3 a).mp z with z | z
      · exact .inl z
      · exact .inr (List.mem_append_left _ z)
    · exact .inr (List.mem_append_right _ z)
  have nr : ∀ a ∈ Lr ++ Lj, F' a = none := fun a ha => by
    obtain ⟨o, ho⟩ := r.slots.lives a ((tot a).mp (.inr ha))
    cases q : F' a with
    | none => rfl
    | some u =>
      rcases nw a u q with z | (z | z) | z
      · rw [r.dj a ((tot a).mp (.inr ha))] at z; cases z
      · rw [ho] at z; cases z
      · exact absurd ((tot a).mp (.inr ha)) z.1
      · exact absurd z (notn a ha)
  refine ⟨L2, ⟨sH, s1, s2, fun a ha => ?_, r.s0.trans sF, fun a o q => ?_, fun a o m q => ?_, fun a ha => ?_, r.pin⟩, inL⟩
  · rcases inL a ha with z | z
    · exact (hn a z).1
    · exact nr a z
  · rcases nw a o q with z | (z | z) | z
    · exact r.nw a o z
    · exact .inr ((r.h0 z).elim .inr .inl)
    · exact .inr (z.2.elim .inr .inl)
    · exact .inr ((r.ln a ((tot a).mp (.inl z))).elim .inr .inl)
  · have h := r.fr a o m q
    refine fr a o (fun z => ?_) h
    rcases r.ln a ((tot a).mp (.inl z)) with y | y
    · exact m y
    · rw [q] at y; cases y
  · rcases inL a ha with z | z
    · rcases (hn a z).2 with y | y
      · exact r.ln a ((tot a).mp (.inl y))
      · exact y
    · exact r.ln a ((tot a).mp (.inr z))
end
end Py
namespace Py
open PySem L2
section
variable {T : Tbl} {W : Wd T} {env : Py.Env} {t ta tb tk : TE} {tr : TA} {d d0 d1 d2 : D} {i : Nat} {st : List Pst} {P : List Nat} {E : WX} {A : AEnds}
def ALoc {T : Tbl} (W : Wd T) (t : TE) (env : Py.Env) (i : Nat) (st : List Pst) : Prop :=
  ∀ (e : Ent) (F : Hp) (σ : St) (H : Hp) (L : List Addr) (v0 : V) (Q : VK), Rel W e env F σ H L -> σ[i]? = some (some v0) -> (∀ v F' H', Ext F H F' H' -> VPath H' v0 st v -> Q v H') -> t σ H Q
theorem loc_var : ALoc W (tVar i) env i [] := fun e F σ H L v0 Q r h q => ⟨v0, h, q v0 F H (.refl r.sF) rfl⟩
end
end Py
namespace Py
open PySem L2
section
variable {X : Cx}
def CMulU (i j : Int) : Prop := CMul i j \/ CMulW i j
def CDivU (i j : Int) : Prop := CDiv i j \/ CDivW i j
theorem cmul_l {i j : Int} (h1 : -(2 ^ 64) < i) (h2 : i < 2 ^ 64) : CMulU i j := .inl (.inl ⟨h1, h2⟩)
theorem cmul_r {i j : Int} (h1 : -(2 ^ 64) < j) (h2 : j < 2 ^ 64) : CMulU i j := .inl (.inr ⟨h1, h2⟩)
theorem cmul_w {i j : Int} (h1 : i.natAbs < 2 ^ 4000) (h2 : j.natAbs < 2 ^ 4000) : CMulU i j := .inr (wide_mul h1 h2 (by decide) (by decide) (by decide))
theorem cdiv_s {i j : Int} (h1 : 0 < j) (h2 : j < 1073741824) : CDivU i j := .inl ⟨h1, h2⟩
theorem cdiv_w {i j : Int} (h1 : 0 < j) (h2 : j.natAbs < 2 ^ 4000) : CDivU i j := .inr (wide_div h1 h2 (by decide) (by decide))
theorem op_mulU : OpR X (binaryOp .Mult) (rI CMulU fun i j => .int (i * j)) := opI fun _ _ _ _ _ _ _ hc q => PyProof.Rows.mul_int q (hc.elim CMul.ok CMulW.ok)
theorem op_divU : OpR X (binaryOp .FloorDiv) (rI CDivU fun i j => .int (i / j)) := fun pins s σ H x y v u Q I rx ry h => by
  obtain ⟨i, j, e1, e2, hc, q⟩ := h
  rcases hc with hc | hc
  · exact op_fdiv pins s σ H x y v u Q I rx ry ⟨i, j, e1, e2, hc, q⟩
  · exact op_fdivW pins s σ H x y v u Q I rx ry ⟨i, j, e1, e2, hc, q⟩
theorem opAdd : OpR X (binaryOp .Add) (fun x y H Q => rI0 (fun i j => .int (i + j)) x y H Q \/ (fun x y H Q => rCat x y H Q \/ rCatT X.K x y H Q) x y H Q) := OpR.or op_add (OpR.or op_cat op_catT)
theorem opMul : OpR X (binaryOp .Mult) (rI CMulU fun i j => .int (i * j)) := op_mulU
theorem opDiv : OpR X (binaryOp .FloorDiv) (rI CDivU fun i j => .int (i / j)) := op_divU
theorem opEq (hu : X.A.units + 64 < cLine) : OpR X (compareOp .Eq) (fun x y H Q => rEq x y H Q \/ rEqD X.K x y H Q) := OpR.or op_eq (op_eqD hu)
theorem opNe (hu : X.A.units + 64 < cLine) : OpR X (compareOp .NotEq) (fun x y H Q => rNe x y H Q \/ rNeD X.K x y H Q) := OpR.or op_ne (op_neD hu)
theorem opLt (hu : X.A.units < cLine) : OpR X (compareOp .Lt) (fun x y H Q => rI0 (fun i j => .bl (decide (i < j))) x y H Q \/ rLtT X.K x y H Q) := OpR.or op_lt (op_ltT hu)
theorem ixU : IxR X (rIxU X.K) := ix_list.or ix_tup
theorem call_intU : CallR X (.type "int") (fun xs H Q => (∃ i, xs = [.int i] /\ Q (.int i) H) \/ ∃ k, xs = [.bl k] /\ Q (.int (if k then 1 else 0)) H) := call_int1
theorem call_absU : CallR X (.builtin "abs") (fun xs H Q => ∃ i, xs = [.int i] /\ Q (.int (if i < 0 then -i else i)) H) := call_abs
theorem call_lenU : CallR X (.builtin "len") (rLenU X.K) := call_len_seq
theorem call_listU : CallR X (.type "list") (fun xs H Q => ∃ p ys, xs = [.ref p] /\ (SqL X.K H p ys \/ SqT X.K H p ys) /\ ∀ l, H l = none -> Q (.ref l) (upd H l (.lst ys))) := call_list_of
theorem call_tupleU : CallR X (.type "tuple") (fun xs H Q => ∃ p ys, xs = [.ref p] /\ ((SqL X.K H p ys /\ ∀ l, H l = none -> Q (.ref l) (upd H l (.tup ys))) \/ (SqT X.K H p ys /\ Q (.ref p) H))) := call_tuple_of
theorem pt_truU {a : Expr} {ta : TE} (ha : PE X a ta) (he : ∀ whole, isTrue a X.env whole = (do let v <- whole; standAt a.pos; holding [v] (truthy v)) := by intro _; rfl) :
    PT X a (fun σ H Q => ta σ H fun x H' => ∃ k, TruV X.K x H' k /\ Q k H') := pt_truth ha he
end
end Py
namespace Py
open PySem L2
section
variable {T : Tbl} {W : Wd T} {env : Py.Env} {t ta tb te : TE} {tr : TA} {d d0 d1 d2 : D} {ds es : List D} {i : Nat} {P : List Nat} {E : WX} {A : AEnds}
structure Seq {T : Tbl} (W : Wd T) (J : It) (ds : List D) (F0 : Hp) : Prop where
  go : ∀ (i : Nat) (d : D) (F H : Hp), Same F0 F -> Same F H -> ds[i]? = some d -> J.go i H /\ ∀ x H', J.yld i H x H' -> ∃ F', Ext F H F' H' /\ Shr W F' d x
  stop : ∀ (F H : Hp), Same F0 F -> Same F H -> J.stop ds.length H
def AIt {T : Tbl} (W : Wd T) (wi : TI) (env : Py.Env) (ds : List D) : Prop :=
  ∀ (e : Ent) (F : Hp) (σ : St) (H : Hp) (L : List Addr) (R : It -> Hp -> Prop), Rel W e env F σ H L -> (∀ J F' H', Ext F H F' H' -> Seq W J ds F' -> R J H') -> wi σ H R
theorem seq_list {F0 : Hp} {a : Addr} {vs : List V} (h : F0 a = some (.lst vs)) (hs : Shrs W F0 ds vs) : Seq W (Itl W.K a) ds F0 where
  go := fun i d F H s1 s2 hd => by
    obtain ⟨v, hv, sv⟩ := hs.get hd
    refine ⟨⟨vs, v, .of (s2 _ _ (s1 _ _ h)), hv⟩, fun x H' y => ?_⟩
    obtain ⟨rfl, y⟩ := y
    have := y vs (.of (s2 _ _ (s1 _ _ h)))
    rw [hv] at this; cases this
    exact ⟨F, .refl s2, sv.mono s1⟩
  stop := fun F H s1 s2 => ⟨vs, .of (s2 _ _ (s1 _ _ h)), by rw [hs.length]; exact Nat.le_refl _⟩
theorem seq_tup {F0 : Hp} {a : Addr} {vs : List V} (h : F0 a = some (.tup vs)) (hs : Shrs W F0 ds vs) : Seq W (Itt W.K a) ds F0 where
  go := fun i d F H s1 s2 hd => by
    obtain ⟨v, hv, sv⟩ := hs.get hd
    refine ⟨⟨vs, v, .of (s2 _ _ (s1 _ _ h)), hv⟩, fun x H' y => ?_⟩
    obtain ⟨rfl, y⟩ := y
    have := y vs (.of (s2 _ _ (s1 _ _ h)))
    rw [hv] at this; cases this
    exact ⟨F, .refl s2, sv.mono s1⟩
  stop := fun F H s1 s2 => ⟨vs, .of (s2 _ _ (s1 _ _ h)), by rw [hs.length]; exact Nat.le_refl _⟩
def rangeD (lo : Int) (n : Nat) : List D := (List.range n).map fun k : Nat => D.int (lo + (k : Nat))
theorem rangeD_length (lo : Int) (n : Nat) : (rangeD lo n).length = n := by simp [rangeD]
theorem rangeD_get {lo : Int} {n i : Nat} {d : D} (h : (rangeD lo n)[i]? = some d) : i < n /\ d = .int (lo + (i : Nat)) := by
  unfold rangeD at h
  rw [List.getElem?_map] at h
  by_cases hi : i < n
  · rw [List.getElem?_range hi] at h
    exact ⟨hi, (Option.some.inj h).symm⟩
  · rw [List.getElem?_eq_none (by simpa using hi)] at h; cases h
theorem seq_range {F0 : Hp} {lo : Int} {n : Nat} : Seq W (Itr lo n) (rangeD lo n) F0 where
  go := fun i d F H s1 s2 hd => by
    obtain ⟨hi, rfl⟩ := rangeD_get hd
    refine ⟨hi, fun x H' y => ?_⟩
    obtain ⟨rfl, rfl⟩ := y
    exact ⟨F, .refl s2, .int⟩
  stop := fun F H s1 s2 => by rw [rangeD_length]; exact Nat.le_refl n
theorem ait_list (h : AE W t env (rF W (.lst ds))) : AIt W (iList W.K t) env ds := fun e F σ H L R r q =>
  h e F σ H L _ r fun v F1 H1 x1 y1 => by
    cases y1 with
    | lst hF hS => exact ⟨_, rfl, ⟨_, .of (x1.s _ _ hF)⟩, q _ F1 H1 x1 (seq_list hF hS)⟩
theorem ait_tup (h : AE W t env (rF W (.tup ds))) : AIt W (iTup W.K t) env ds := fun e F σ H L R r q =>
  h e F σ H L _ r fun v F1 H1 x1 y1 => by
    cases y1 with
    | tup hF hS => exact ⟨_, rfl, ⟨_, .of (x1.s _ _ hF)⟩, q _ F1 H1 x1 (seq_tup hF hS)⟩
theorem ait_range {n : Int} (h : AA W tr env (rVs W [.int n])) (hb : -(2 ^ 62) <= n /\ n < 2 ^ 62) : AIt W (iRng1 tr) env (rangeD 0 n.toNat) := fun e F σ H L R r q =>
  h e F σ H L _ r fun vs F1 H1 x1 y1 => by
    cases y1 with
    | cons a b =>
      cases a; cases b
      exact ⟨n, rfl, hb.1, hb.2, q _ F1 H1 x1 seq_range⟩
theorem ait_range2 {lo n : Int} (h : AA W tr env (rVs W [.int lo, .int n])) (hb : -(2 ^ 62) <= lo /\ lo < 2 ^ 62 /\ -(2 ^ 62) <= n /\ n < 2 ^ 62) : AIt W (iRng2 tr) env (rangeD lo (n - lo).toNat) := fun e F σ H L R r q =>
  h e F σ H L _ r fun vs F1 H1 x1 y1 => by
    cases y1 with
    | cons a b =>
      cases a
      cases b with
      | cons a b =>
        cases a; cases b
        exact ⟨lo, n, rfl, hb, q _ F1 H1 x1 seq_range⟩
def enumD (ds : List D) : List D := ds.mapIdx fun k d => D.tup [.int (k : Nat), d]
def iSeqU (K : PySem.W.Frag) (tl : TE) : TI := fun σ H R => iList K tl σ H R \/ iTup K tl σ H R
theorem pi_seqU {X : Cx} {tg l : Expr} {tl : TE} (hl : PE X l tl) : PI X tg l (iSeqU X.K tl) := ⟨fun pins s σ H R I h => h.elim (fun h => (pi_list hl).run pins s σ H R I h) fun h => (pi_tup hl).run pins s σ H R I h⟩
theorem at_yes : AT W tYes env true := fun e F σ H L Q r q => q F H (.refl r.sF)
theorem as_for {wi : TI} {g : TG} {tb : TS} (h : AIt W wi env ds) (Iv : Nat -> Py.Env -> Prop) (h0 : Iv 0 env)
    (hs : ∀ i d env', ds[i]? = some d -> Iv i env' -> AG W P g d env' fun e2 => AS W P E tb e2 { A with nx := Iv (i + 1), ct := Iv (i + 1), bk := A.nx })
    (hd : ∀ env', Iv ds.length env' -> A.nx env') : AS W P E (tFor wi g tb) env A := fun e F σ H L Dn hP r s =>
  h e F σ H L _ r fun J F1 H1 x1 sq => by
    have r1 := r.ext x1
    refine ⟨fun i m σ H => m = ds.length - i /\ i <= ds.length /\ ∃ env' F L, Iv i env' /\ Rel W { e with F0 := F1 } env' F σ H L, ⟨ds.length, rfl, Nat.zero_le _, env, F1, L, h0, r1.enter⟩, ?_⟩
    rintro i m σ H ⟨rfl, hi, env', F, L, hI, q⟩
    by_cases hlt : i < ds.length
    · have hd' : ds[i]? = some ds[i] := List.getElem?_eq_getElem hlt
      obtain ⟨g1, g2⟩ := sq.go i _ F H q.s0 q.sF hd'
      refine .inr ⟨g1, fun σ H => ∃ env' F L, Iv (i + 1) env' /\ Rel W { e with F0 := F1 } env' F σ H L, fun σ' H' p' => ⟨ds.length - (i + 1), by omega, rfl, hlt, p'⟩, fun x H' y => ?_⟩
      obtain ⟨F2, x2, sx⟩ := g2 x H' y
      refine hs i _ env' hd' hI { e with F0 := F1 } F2 σ H' L x _ hP (q.ext x2) sx fun env2 σ2 L2 k2 q2 => k2 { e with F0 := F1 } F2 σ2 H' L2 _ hP q2 ?_
      exact ⟨fun e3 F3 σ3 H3 L3 w q3 => ⟨e3, F3, L3, w, q3⟩, fun d e3 F3 σ3 H3 L3 v M w q3 => s.rt d e3 F3 σ3 H3 L3 v M w (r1.leave q3), fun e3 F3 σ3 H3 L3 w q3 => s.nx e3 F3 σ3 H3 L3 w (r1.leave q3),
        fun e3 F3 σ3 H3 L3 w q3 => ⟨e3, F3, L3, w, q3⟩, fun x e3 F3 σ3 H3 L3 C dd w q3 => s.ex x e3 F3 σ3 H3 L3 C dd w (r1.leave q3)⟩
    · have e0 : i = ds.length := by omega
      subst e0
      exact .inl ⟨sq.stop F H q.s0 q.sF, s.nx _ _ _ _ _ (hd env' hI) (r1.leave q)⟩
def wipeE (env : Py.Env) : List Nat -> Py.Env
  | [] => env
  | v :: vs => (wipeE env vs).set v none
theorem Slots.kill {F H : Hp} {o : Option V} : ∀ {env : Py.Env} {σ : St} {L : List Addr} {i : Nat}, Slots W F H env σ L -> L.Nodup -> ∃ L', Slots W F H (env.set i none) (σ.set i o) L' /\ L'.Nodup /\ ∀ a ∈ L', a ∈ L
  | _, _, _, i, .nil, nd => ⟨[], by simpa using Slots.nil, nd, fun a h => h⟩
  | _, _, _, 0, .so (L := L1) (M := M1) h t, nd => ⟨M1, .no t, (List.nodup_append.mp nd).2.1, fun a h => List.mem_append_right _ h⟩
  | _, _, _, 0, .no (M := M1) t, nd => ⟨M1, .no t, nd, fun a h => h⟩
  | _, _, _, i + 1, .so (L := L1) (M := M1) h t, nd => by
    rw [List.nodup_append] at nd
    obtain ⟨n1, n2, n3⟩ := nd
    obtain ⟨L', s, nd', m⟩ := t.kill (i := i) (o := o) n2
    refine ⟨L1 ++ L', .so h s, ?_, fun a ha => ?_⟩
    · rw [List.nodup_append]
      exact ⟨n1, nd', fun a ha b hb => n3 a ha b (m b hb)⟩
    · rcases List.mem_append.mp ha with q | q
      · exact List.mem_append_left _ q
      · exact List.mem_append_right _ (m a q)
  | _, _, _, i + 1, .no (M := M1) t, nd => by
    obtain ⟨L', s, nd', m⟩ := t.kill (i := i) (o := o) nd
    exact ⟨L', .no s, nd', m⟩
theorem Rel.wipe {e : Ent} {F H : Hp} {σ : St} {L : List Addr} (r : Rel W e env F σ H L) (hp : e.pins = []) : ∀ vs : List Nat, ∃ L', Rel W e (wipeE env vs) F (L2.wipe σ vs) H L' /\ ∀ a ∈ L', a ∈ L
  | [] => ⟨L, r, fun _ h => h⟩
  | v :: vs => by
    obtain ⟨L1, r1, m1⟩ := r.wipe hp vs
    obtain ⟨L2, s, nd, m⟩ := r1.slots.kill (i := v) (o := none) r1.nd
    exact ⟨L2, ⟨r1.sF, s, nd, fun a h => r1.dj a (m a h), r1.s0, r1.nw, r1.fr, fun a h => r1.ln a (m a h), fun p hm => by rw [hp] at hm; cases hm⟩, fun a h => m1 a (m a h)⟩
theorem Rel.nopin {e : Ent} {F H : Hp} {σ : St} {L : List Addr} (r : Rel W e env F σ H L) : Rel W { e with pins := [] } env F σ H L := ⟨r.sF, r.slots, r.nd, r.dj, r.s0, r.nw, r.fr, r.ln, fun _ h => nomatch h⟩
theorem Rel.free {e : Ent} {F H : Hp} {σ : St} {L : List Addr} {p : Addr} {o : HO} (r : Rel W e env F σ H L) (h1 : p ∉ L) (h2 : F p = none) (h3 : p ∈ e.L0 \/ e.H0 p = none) : Rel W e env F σ (upd H p o) L where
  sF := fun b u hb => by rw [upd_ne (fun z => by rw [z, h2] at hb; cases hb)]; exact r.sF _ _ hb
  slots := r.slots.frame (Same.refl _) fun a m u hu => by rw [upd_ne (fun z => h1 (by rw [<- z]; exact m))]; exact hu
  nd := r.nd
  dj := r.dj
  s0 := r.s0
  nw := r.nw
  fr := fun a u m hu => by
    rw [upd_ne (fun z => ?_)]
    · exact r.fr a u m hu
    · subst z
      rcases h3 with q | q
      · exact m q
      · rw [q] at hu; cases hu
  ln := r.ln
  pin := r.pin
def GW (g : TG) (vs : List Nat) : Prop := ∀ (v : V) (σ : St) (H : Hp) (Q : St -> Hp -> Prop), g v σ H Q -> g v σ H fun σ2 H2 => wipe σ2 vs = wipe σ vs /\ Q σ2 H2
def GWs (g : TGs) (vs : List Nat) : Prop := ∀ (v : List V) (σ : St) (H : Hp) (Q : St -> Hp -> Prop), g v σ H Q -> g v σ H fun σ2 H2 => wipe σ2 vs = wipe σ vs /\ Q σ2 H2
theorem wipe_comm {n : Nat} {o : Option V} : ∀ (vs : List Nat) (σ : St), n ∉ vs -> wipe (σ.set n o) vs = (wipe σ vs).set n o
  | [], σ, _ => rfl
  | w :: ws, σ, hn => by
    unfold wipe
    rw [wipe_comm ws σ (fun z => hn (List.mem_cons_of_mem _ z)), List.set_comm _ _ (fun z => hn (by rw [z]; exact List.mem_cons_self ..))]
theorem wipe_set {σ : St} {n : Nat} {o : Option V} : ∀ {vs : List Nat}, n ∈ vs -> wipe (σ.set n o) vs = wipe σ vs
  | [], h => nomatch h
  | v :: vs, h => by
    unfold wipe
    by_cases hv : n ∈ vs
    · rw [wipe_set hv]
    · rcases List.mem_cons.mp h with z | z
      · subst z
        rw [wipe_comm vs σ hv, List.set_set]
      · exact absurd z hv
theorem wipe_wipe {σ : St} : ∀ {vs : List Nat}, wipe (wipe σ vs) vs = wipe σ vs
  | [] => rfl
  | v :: vs => by
    have e : wipe σ (v :: vs) = (wipe σ vs).set v none := rfl
    rw [e]
    show (wipe ((wipe σ vs).set v none) vs).set v none = _
    by_cases hv : v ∈ vs
    · rw [wipe_set hv, wipe_wipe]
    · rw [wipe_comm vs _ hv, wipe_wipe, List.set_set]
theorem gw_name {n : Nat} {vs : List Nat} (h : n ∈ vs) : GW (gName n) vs := fun v σ H Q q => ⟨wipe_set h, q⟩
theorem gw_tup {k : Nat} {gs : TGs} {vs : List Nat} (h : GWs gs vs) : GW (gTup W.K k gs) vs := fun v σ H Q ⟨a, xs, e1, e2, e3, q⟩ => ⟨a, xs, e1, e2, e3, h xs σ H Q q⟩
structure SeqP {T : Tbl} (W : Wd T) (J : It) (ds : List D) (F0 H0 : Hp) : Prop where
  go : ∀ (i : Nat) (d : D) (F H : Hp), Same F0 F -> Same H0 H -> Same F H -> ds[i]? = some d -> J.go i H /\ ∀ x H', J.yld i H x H' -> ∃ F', Ext F H F' H' /\ Shr W F' d x
  stop : ∀ (F H : Hp), Same F0 F -> Same H0 H -> Same F H -> J.stop ds.length H
def AIp {T : Tbl} (W : Wd T) (wi : TI) (env : Py.Env) (ds : List D) : Prop :=
  ∀ (e : Ent) (F : Hp) (σ : St) (H : Hp) (L : List Addr) (R : It -> Hp -> Prop), Rel W e env F σ H L -> (∀ J F' H', Ext F H F' H' -> SeqP W J ds F' H' -> R J H') -> wi σ H R
theorem AIt.p {wi : TI} (h : AIt W wi env ds) : AIp W wi env ds := fun e F σ H L R r q => h e F σ H L R r fun J F' H' x s => q J F' H' x ⟨fun i d F1 H1 a _ c e => s.go i d F1 H1 a c e, fun F1 H1 a _ c => s.stop F1 H1 a c⟩
theorem ae_lc {wi : TI} {g : TG} {tt : TT} {vs : List Nat} (h : AIp W wi env ds) (hg : GW g vs) (rs : Nat -> List D) (h0 : rs 0 = [])
    (hs : ∀ (i : Nat) (d : D), ds[i]? = some d -> AG W [] g d (wipeE env vs) fun e2 => ∃ b, AT W tt e2 b /\ (b = true -> ∃ y, AE W te e2 (rO W y) /\ rs (i + 1) = rs i ++ [y]) /\ (b = false -> rs (i + 1) = rs i))
    (hz : ∀ i, i <= ds.length -> (rs i).length < 1000000) : AE W (tLc wi g tt te vs) env (rO W (.olst (rs ds.length))) := fun e F σ H L Q r q =>
  h e F σ H L _ r fun J F1 H1 x1 sq => by
    intro Dl hD
    have r1 := (r.ext x1).nopin
    obtain ⟨Lw, rw', mw⟩ := r1.wipe rfl vs
    have hF1 : F1 Dl = none := x1.s.free hD
    have hH : H Dl = none := x1.h.free hD
    refine ⟨fun i m H' => m = ds.length - i /\ i <= ds.length /\ ∃ F' ws M, Ext F H F' H' /\ (Same F1 F' /\ Same H1 H') /\ Rel W { e with pins := [] } (wipeE env vs) F' (wipe σ vs) H' Lw /\ H' Dl = some (.lst ws) /\ F' Dl = none /\ Owns W F' H' (rs i) ws M /\ (Dl :: M).Nodup /\ ∀ a ∈ M, H a = none /\ F' a = none,
      ⟨ds.length, rfl, Nat.zero_le _, F1, [], [], ?_, ⟨Same.refl _, same_new hD⟩, ?_, upd_same, hF1, by rw [h0]; exact .nil, by simp, fun a h => nomatch h⟩, ?_⟩
    · exact x1.trans (.newH x1.s hD)
    · exact rw'.ext (.newH x1.s hD)
    rintro i m H' ⟨rfl, hi, F', ws, M, xE, s1, rr, hl, hFD, os, nd, hM⟩
    have hDL : Dl ∉ Lw := fun z => by
      obtain ⟨o, ho⟩ := rw'.slots.lives Dl z
      rw [hD] at ho; cases ho
    by_cases hlt : i < ds.length
    · have hd' : ds[i]? = some ds[i] := List.getElem?_eq_getElem hlt
      obtain ⟨g1, g2⟩ := sq.go i _ F' H' s1.1 s1.2 rr.sF hd'
      refine .inr ⟨g1, fun H'' => ∃ F' ws M, Ext F H F' H'' /\ (Same F1 F' /\ Same H1 H'') /\ Rel W { e with pins := [] } (wipeE env vs) F' (wipe σ vs) H'' Lw /\ H'' Dl = some (.lst ws) /\ F' Dl = none /\ Owns W F' H'' (rs (i + 1)) ws M /\ (Dl :: M).Nodup /\ ∀ a ∈ M, H a = none /\ F' a = none,
        fun H'' p' => ⟨ds.length - (i + 1), by omega, rfl, hlt, p'⟩, fun x H2 y => ?_⟩
      obtain ⟨F2, x2, sx⟩ := g2 x H2 y
      have rr2 := rr.ext x2
      have fin : ∀ {Fa Ha}, Ext F2 H2 Fa Ha -> Ext F H Fa Ha /\ (Same F1 Fa /\ Same H1 Ha) /\ Rel W { e with pins := [] } (wipeE env vs) Fa (wipe σ vs) Ha Lw /\ Ha Dl = some (.lst ws) /\ Fa Dl = none /\ Owns W Fa Ha (rs i) ws M /\ ∀ a ∈ M, H a = none /\ Fa a = none := fun {Fa Ha} xa => by
        have x3 := x2.trans xa
        have nn : ∀ a, (∃ o, H' a = some o) -> F' a = none -> Fa a = none := fun a ⟨o, ho⟩ hf => by
          cases z : Fa a with
          | none => rfl
          | some u =>
            rcases x3.n a u z with w | w
            · rw [hf] at w; cases w
            · rw [ho] at w; cases w
        exact ⟨xE.trans x3, ⟨s1.1.trans x3.f, s1.2.trans x3.h⟩, rr.ext x3, x3.h _ _ hl, nn Dl ⟨_, hl⟩ hFD, os.frame x3.f fun a _ o ho => x3.h _ _ ho, fun a ha => ⟨(hM a ha).1, nn a (os.lives a ha) (hM a ha).2⟩⟩
      have step := hg x (wipe σ vs) H2 _ (hs i _ hd' { e with pins := [] } F2 (wipe σ vs) H2 Lw x (fun σ2 H2 => tt σ2 H2 fun b H3 => if b = true then te σ2 H3 fun y H4 => ∃ acc, H4 Dl = some (.lst acc) /\ acc.length < sizeLine /\
          (fun H'' => ∃ F' ws M, Ext F H F' H'' /\ (Same F1 F' /\ Same H1 H'') /\ Rel W { e with pins := [] } (wipeE env vs) F' (wipe σ vs) H'' Lw /\ H'' Dl = some (.lst ws) /\ F' Dl = none /\ Owns W F' H'' (rs (i + 1)) ws M /\ (Dl :: M).Nodup /\ ∀ a ∈ M, H a = none /\ F' a = none) (upd H4 Dl (.lst (acc ++ [y]))) else
          (fun H'' => ∃ F' ws M, Ext F H F' H'' /\ (Same F1 F' /\ Same H1 H'') /\ Rel W { e with pins := [] } (wipeE env vs) F' (wipe σ vs) H'' Lw /\ H'' Dl = some (.lst ws) /\ F' Dl = none /\ Owns W F' H'' (rs (i + 1)) ws M /\ (Dl :: M).Nodup /\ ∀ a ∈ M, H a = none /\ F' a = none) H3) rfl rr2 sx fun env2 σ2 L2 k2 q2 => ?_)
      · rw [wipe_wipe] at step
        exact step
      obtain ⟨b, hb, hy, hn⟩ := k2
      refine hb _ F2 σ2 H2 L2 _ q2 fun F3 H3 x3 => ?_
      cases b with
      | false =>
        obtain ⟨a1, a2, a3, a4, a5, a6, a7⟩ := fin x3
        rw [hn rfl]
        exact ⟨F3, ws, M, a1, a2, a3, a4, a5, a6, nd, a7⟩
      | true =>
        obtain ⟨y, hte, hacc⟩ := hy rfl
        refine hte _ F3 σ2 H3 L2 _ (q2.ext x3) fun w F4 H4 x4 ⟨My, oy, ndy, ky⟩ => ?_
        obtain ⟨a1, a2, a3, a4, a5, a6, a7⟩ := fin (x3.trans x4)
        have hlen : (rs i).length < 1000000 := hz i hi
        refine ⟨ws, a4, by rw [<- a6.length]; exact Nat.lt_of_lt_of_le hlen (by decide), F4, ws ++ [w], M ++ My, ?_, ⟨a2.1, fun b u hb => by rw [upd_ne (fun z => by rw [z, hD] at hb; cases hb)]; exact a2.2 _ _ hb⟩, a3.free hDL a5 (rw'.h0 hD), upd_same, a5, ?_, ?_, ?_⟩
        · exact ⟨a1.f, fun b u hb => by rw [upd_ne (fun z => by rw [z, a5] at hb; cases hb)]; exact a1.s _ _ hb, fun b u hb => by rw [upd_ne (fun z => by rw [z, hH] at hb; cases hb)]; exact a1.h _ _ hb, a1.n⟩
        · have nD : ∀ b ∈ My, b ≠ Dl := fun b hb z => by
            have := (x2.trans x3).h _ _ hl
            rw [<- z, (ky b hb).1] at this; cases this
          rw [hacc]
          refine Owns.snoc (a6.frame (Same.refl _) fun b hb u hu => ?_) (oy.frame (Same.refl _) fun b hb u hu => ?_)
          · rw [upd_ne (fun z => (List.nodup_cons.mp nd).1 (by rw [<- z]; exact hb))]; exact hu
          · rw [upd_ne (nD b hb)]; exact hu
        · have fr : ∀ b ∈ My, b ∉ Dl :: M := fun b hb z => by
            have : ∃ o, H3 b = some o := by
              rcases List.mem_cons.mp z with z | z
              · exact ⟨_, by rw [z]; exact (x2.trans x3).h _ _ hl⟩
              · obtain ⟨o, ho⟩ := os.lives b z
                exact ⟨o, (x2.trans x3).h _ _ ho⟩
            obtain ⟨o, ho⟩ := this
            rw [(ky b hb).1] at ho; cases ho
          have : ((Dl :: M) ++ My).Nodup := by
            rw [List.nodup_append]
            exact ⟨nd, ndy, fun b hb c hc z => fr c hc (by rw [<- z]; exact hb)⟩
          exact this
        · intro b hb
          rcases List.mem_append.mp hb with z | z
          · exact a7 b z
          · exact ⟨(xE.trans (x2.trans x3)).h.free (ky b z).1, (ky b z).2⟩
    · have e0 : i = ds.length := by omega
      subst e0
      refine .inl ⟨sq.stop F' H' s1.1 s1.2 rr.sF, q _ F' H' xE ⟨Dl :: M, .olst hl os, nd, fun a ha => ?_⟩⟩
      rcases List.mem_cons.mp ha with z | z
      · subst z; exact ⟨hH, hFD⟩
      · exact hM a z
end
end Py
namespace Py
open PySem L2
inductive Kd where
  | fr | pl | vw
def isFlat : D -> Bool
  | .non | .bl _ | .int _ | .str _ | .cls _ => true
  | _ => false
section
variable {T : Tbl} {W : Wd T} {env : Py.Env} {t ta tb : TE} {d d1 d2 : D}
theorem Shr.flat {F F' : Hp} {d : D} {v : V} (h : Shr W F d v) (e : isFlat d = true) : Shr W F' d v := by
  cases h <;> first | (cases e; done) | exact .non | exact .bl | exact .int | exact .str | (apply Shr.cls; assumption)
theorem isSh_flat {d : D} (e : isFlat d = true) : isSh d = true := by cases d <;> first | rfl | cases e
def rP {T : Tbl} (W : Wd T) (d : D) : Res := fun F H _ v => ∃ L, Own W F H d v L
def rK {T : Tbl} (W : Wd T) : Kd -> D -> Res
  | .fr, d => rO W d
  | .pl, d => rP W d
  | .vw, d => rV W d
theorem ite_some {α : Type} {c : Prop} [Decidable c] {a b : α} (h : (if c then some a else none) = some b) : c /\ a = b := by
  split at h
  · exact ⟨by assumption, Option.some.inj h⟩
  · cases h
theorem rK_view {F H H0 : Hp} {k : Kd} {v : V} (s : Same F H) (h : rK W k d F H H0 v) : Shr W H (fz d) v := by
  cases k with
  | fr => obtain ⟨L, o, _⟩ := h; exact o.view s fun _ _ _ z => z
  | pl => obtain ⟨L, o⟩ := h; exact o.view s fun _ _ _ z => z
  | vw => have h : Shr W H d v := h; rw [fz_shr h]; exact h
def basis (k : Kd) (F H : Hp) : Hp := match k with | .vw => H | _ => F
theorem basis_same {k : Kd} {F H : Hp} (s : Same F H) : Same (basis k F H) H := by cases k <;> first | exact s | exact Same.refl _
theorem rK_own {F H H0 : Hp} {k : Kd} {v : V} (h : rK W k d F H H0 v) : ∃ L, Own W (basis k F H) H d v L := by
  cases k with
  | fr => obtain ⟨L, o, _⟩ := h; exact ⟨L, o⟩
  | pl => exact h
  | vw => exact ⟨[], .sh h⟩
def Kd.part : Kd -> Kd
  | .vw => .vw
  | _ => .pl
def Kd.of (k : Kd) (d : D) : Kd × D := match k with | .vw => (.vw, fz d) | _ => (.pl, d)
theorem rK_of {F H H0 : Hp} {k k' : Kd} {d' : D} {v : V} {L : List Addr} (s : Same F H) (h : Own W (basis k F H) H d v L) (e : k.of d = (k', d')) : rK W k' d' F H H0 v := by
  cases k with
  | fr => cases e; exact ⟨L, h⟩
  | pl => cases e; exact ⟨L, h⟩
  | vw => cases e; exact h.view (Same.refl _) fun _ _ _ z => z
theorem Ext.basis {k : Kd} {F H F' H' : Hp} (x : Ext F H F' H') : Same (basis k F H) (basis k F' H') := by
  cases k <;> first | exact x.f | exact x.h
theorem Own.ext {k : Kd} {F H F' H' : Hp} {v : V} {L : List Addr} (o : Own W (basis k F H) H d v L) (x : Ext F H F' H') : Own W (basis k F' H') H' d v L := o.frame x.basis fun a _ o q => x.h _ _ q
structure XP {T : Tbl} (W : Wd T) where
  t : TE
  ev : Py.Env -> Option (Kd × D)
  snd : ∀ {env k d}, ev env = some (k, d) -> AE W t env (rK W k d)
def toV : Option (Kd × D) -> Option D
  | some (_, d) => some (fz d)
  | none => none
def toK : Option (Kd × D) -> Option D
  | some (.vw, d) => if isFlat d then some d else none
  | some (_, d) => some d
  | none => none
def toF : Option (Kd × D) -> Option D
  | some (.fr, d) => some (fz d)
  | some (.pl, d) => if isSh d then some d else none
  | some (.vw, d) => if isFlat d then some d else none
  | none => none
def toO : Option (Kd × D) -> Option D
  | some (.fr, d) => some d
  | some (.pl, d) => if isSh d then some d else none
  | some (.vw, d) => if isFlat d then some d else none
  | none => none
def XP.evV (x : XP W) (env : Py.Env) : Option D := toV (x.ev env)
def XP.evK (x : XP W) (env : Py.Env) : Option D := toK (x.ev env)
def XP.evF (x : XP W) (env : Py.Env) : Option D := toF (x.ev env)
def XP.evO (x : XP W) (env : Py.Env) : Option D := toO (x.ev env)
theorem XP.sV (x : XP W) (h : x.evV env = some d) : AE W x.t env (rV W d) := by
  unfold XP.evV at h
  match e : x.ev env, h with
  | some (k, d0), h =>
    cases h
    exact (x.snd e).imp fun F H H0 v s q => rK_view s q
theorem XP.sK (x : XP W) (h : x.evK env = some d) : AE W x.t env (rP W d) := by
  unfold XP.evK at h
  match e : x.ev env, h with
  | some (.fr, d0), h => cases h; exact (x.snd e).imp fun F H H0 v s ⟨L, o, _⟩ => ⟨L, o⟩
  | some (.pl, d0), h => cases h; exact x.snd e
  | some (.vw, d0), h =>
    have h : (if isFlat d0 = true then some d0 else none) = some d := h
    split at h
    · cases h; exact (x.snd e).imp fun F H H0 v s q => ⟨[], .sh (Shr.flat q (by assumption))⟩
    · cases h
theorem XP.sF (x : XP W) (h : x.evF env = some d) : AE W x.t env (rF W d) := by
  unfold XP.evF at h
  match e : x.ev env, h with
  | some (.fr, d0), h => cases h; exact (AE.frz (d := d0) (x.snd e))
  | some (.pl, d0), h =>
    have h : (if isSh d0 = true then some d0 else none) = some d := h
    split at h
    · cases h; exact (x.snd e).imp fun F H H0 v s ⟨L, o⟩ => o.shr (by assumption)
    · cases h
  | some (.vw, d0), h =>
    have h : (if isFlat d0 = true then some d0 else none) = some d := h
    split at h
    · cases h; exact (x.snd e).imp fun F H H0 v s q => (Shr.flat q (by assumption))
    · cases h
theorem XP.sO (x : XP W) (h : x.evO env = some d) : AE W x.t env (rO W d) := by
  unfold XP.evO at h
  match e : x.ev env, h with
  | some (.fr, d0), h => cases h; exact x.snd e
  | some (.pl, d0), h =>
    have h : (if isSh d0 = true then some d0 else none) = some d := h
    split at h
    · cases h; exact (x.snd e).imp fun F H H0 v s ⟨L, o⟩ => rO_sh (o.shr (by assumption))
    · cases h
  | some (.vw, d0), h =>
    have h : (if isFlat d0 = true then some d0 else none) = some d := h
    split at h
    · cases h; exact (x.snd e).imp fun F H H0 v s q => rO_sh (Shr.flat q (by assumption))
    · cases h
def getS (env : Py.Env) (i : Nat) : Option D := (env[i]?).join
theorem getS_some (h : getS env i = some d) : env[i]? = some (some d) := by
  unfold getS at h
  match e : env[i]?, h with
  | some (some x), h => cases h; rfl
def xVar {T : Tbl} (W : Wd T) (i : Nat) : XP W where
  t := tVar i
  ev env := (getS env i).map (Prod.mk .pl)
  snd := fun {env k d} h => by
    match e : getS env i, h with
    | some x, h =>
      cases h
      exact fun e' F σ H L Q r q => by
        obtain ⟨v, M, e1, o, _⟩ := slot_get r (getS_some e)
        exact ⟨v, e1, q v F H (.refl r.sF) ⟨M, o⟩⟩
def xC {T : Tbl} (W : Wd T) (v : V) (d : D) (h : ∀ F, Shr W F d v) : XP W where
  t := tC v
  ev _ := some (.fr, d)
  snd := fun e => by cases e; exact (ae_c h).own
def xInt {T : Tbl} (W : Wd T) (i : Int) : XP W := xC W (.int i) (.int i) fun _ => .int
def xBl {T : Tbl} (W : Wd T) (b : Bool) : XP W := xC W (.bl b) (.bl b) fun _ => .bl
def xNon {T : Tbl} (W : Wd T) : XP W := xC W .non .non fun _ => .non
def xStr {T : Tbl} (W : Wd T) (x : String) : XP W := xC W (.str (so x)) (.str x) fun _ => .str
def xOp (r : R2) (f : D -> D -> Option D) (h : ∀ {x y d}, f x y = some d -> Op2 W r x y d) (a b : XP W) : XP W where
  t := tOp r a.t b.t
  ev env := (a.evV env).bind fun x => (b.evV env).bind fun y => (f x y).map (Prod.mk .fr)
  snd := fun {env k d} e => by
    obtain ⟨x, e1, e⟩ := Option.bind_eq_some_iff.mp e
    obtain ⟨y, e2, e⟩ := Option.bind_eq_some_iff.mp e
    obtain ⟨z, e3, e⟩ := Option.map_eq_some_iff.mp e
    cases e
    exact ae_op2 (a.sV e1) (b.sV e2) (h e3)
def subD : D -> D -> Option D
  | .int i, .int j => some (.int (i - j))
  | _, _ => none
def xSub (a b : XP W) : XP W := xOp (rI0 fun i j => .int (i - j)) subD (fun {x y d} e => by
  cases x <;> cases y <;> first | (cases e; done) | (cases e; exact o2_i fun _ => .int)) a b
def b4000 : Nat := 2 ^ 4000
def mulOk (i j : Int) : Prop := (-18446744073709551616 < i /\ i < 18446744073709551616) \/ (-18446744073709551616 < j /\ j < 18446744073709551616) \/ (i.natAbs < b4000 /\ j.natAbs < b4000)
instance (i j : Int) : Decidable (mulOk i j) := by unfold mulOk; infer_instance
theorem mulOk_u {i j : Int} (h : mulOk i j) : CMulU i j := by
  rcases h with h | h | h
  · exact cmul_l h.1 h.2
  · exact cmul_r h.1 h.2
  · exact cmul_w h.1 h.2
def mulD : D -> D -> Option D
  | .int i, .int j => if mulOk i j then some (.int (i * j)) else none
  | _, _ => none
def xMul (a b : XP W) : XP W := xOp (rI CMulU fun i j => .int (i * j)) mulD (fun {x y d} e => by
  cases x <;> first | (cases e; done) | skip
  cases y <;> first | (cases e; done) | skip
  obtain ⟨hc, rfl⟩ := ite_some e
  exact o2_ic (mulOk_u hc) fun _ => .int) a b
def divOk (j : Int) : Prop := 0 < j /\ (j < 1073741824 \/ j.natAbs < b4000)
instance (j : Int) : Decidable (divOk j) := by unfold divOk; infer_instance
def divD : D -> D -> Option D
  | .int i, .int j => if divOk j then some (.int (i / j)) else none
  | _, _ => none
def xDiv (a b : XP W) : XP W := xOp (rI CDivU fun i j => .int (i / j)) divD (fun {x y d} e => by
  cases x <;> first | (cases e; done) | skip
  cases y <;> first | (cases e; done) | skip
  obtain ⟨⟨h0, h⟩, rfl⟩ := ite_some e
  refine o2_ic ?_ fun _ => .int
  rcases h with h | h
  · exact cdiv_s h0 h
  · exact cdiv_w h0 h) a b
def modD : D -> D -> Option D
  | .int i, .int j => if 0 < j then some (.int (i % j)) else none
  | _, _ => none
def xMod (a b : XP W) : XP W := xOp (rI (fun _ j => 0 < j) fun i j => .int (i % j)) modD (fun {x y d} e => by
  cases x <;> first | (cases e; done) | skip
  cases y <;> first | (cases e; done) | skip
  obtain ⟨hc, rfl⟩ := ite_some e
  exact o2_ic (hc) fun _ => .int) a b
def powOk (i j : Int) : Prop := 0 <= j /\ j <= 1000000 /\ i.natAbs < 18446744073709551616
instance (i j : Int) : Decidable (powOk i j) := by unfold powOk; infer_instance
def powD : D -> D -> Option D
  | .int i, .int j => if powOk i j then some (.int (i ^ j.toNat)) else none
  | _, _ => none
def xPow (a b : XP W) : XP W := xOp (rI CPow fun i j => .int (i ^ j.toNat)) powD (fun {x y d} e => by
  cases x <;> first | (cases e; done) | skip
  cases y <;> first | (cases e; done) | skip
  obtain ⟨hc, rfl⟩ := ite_some e
  exact o2_ic (⟨hc.1, hc.2.1, hc.2.2⟩) fun _ => .int) a b
def negD : D -> Option D
  | .int i => some (.int (-i))
  | _ => none
def xNeg (a : XP W) : XP W where
  t := tUn (rU fun i => .int (-i)) a.t
  ev env := match a.evV env with
    | some x => (negD x).map (Prod.mk .fr)
    | none => none
  snd := fun {env k d} e => by
    match e1 : a.evV env, e with
    | some x, e =>
      cases x <;> first | (cases e; done) | skip
      cases e
      exact (ae_u (g := fun i => .int (-i)) (a.sV e1) fun _ => .int).own
def seqOf : D -> Option (Bool × List D)
  | .lst xs => some (false, xs)
  | .olst xs => if xs.all isSh then some (false, xs) else none
  | .tup xs => some (true, xs)
  | .scr ns => some (false, ns.map .int)
  | _ => none
theorem shrs_ints {F : Hp} : ∀ ns : List Int, Shrs W F (ns.map D.int) (ns.map V.int)
  | [] => .nil
  | _ :: ns => .cons .int (shrs_ints ns)
theorem seqOf_ok {F H : Hp} {v : V} {L : List Addr} {b : Bool} {xs : List D} (s : Same F H) (o : Own W F H d v L) (h : seqOf d = some (b, xs)) :
    ∃ a vs, v = .ref a /\ Shrs W F xs vs /\ if b = true then SqT W.K H a vs else SqL W.K H a vs := by
  cases o with
  | sh y =>
    cases y <;> first | (cases h; done) | skip
    · cases h; exact ⟨_, _, rfl, shrs_ints _, s.seq (by assumption)⟩
    · cases h; exact ⟨_, _, rfl, by assumption, .of (s _ _ (by assumption))⟩
    · cases h; exact ⟨_, _, rfl, by assumption, .of (s _ _ (by assumption))⟩
  | olst ha hs =>
    obtain ⟨hc, e⟩ := ite_some h
    cases e
    exact ⟨_, _, rfl, hs.shrs hc, .of ha⟩
  | odic => cases h
  | odit => cases h
  | odig => cases h
  | oins => cases h
def lstOf : D -> Option (List D)
  | .lst xs => some xs
  | .olst xs => if xs.all isSh then some xs else none
  | _ => none
theorem lstOf_ok {F H : Hp} {v : V} {L : List Addr} {xs : List D} (s : Same F H) (o : Own W F H d v L) (h : lstOf d = some xs) : ∃ a vs, v = .ref a /\ Shrs W F xs vs /\ H a = some (.lst vs) := by
  cases o with
  | sh y =>
    cases y <;> first | (cases h; done) | skip
    cases h; exact ⟨_, _, rfl, by assumption, s _ _ (by assumption)⟩
  | olst ha hs =>
    obtain ⟨hc, e⟩ := ite_some h
    cases e
    exact ⟨_, _, rfl, hs.shrs hc, ha⟩
  | odic => cases h
  | odit => cases h
  | odig => cases h
  | oins => cases h
def addD (x y : D) : Option D := match x, y with
  | .int i, .int j => some (.int (i + j))
  | .tup xs, .tup ys => if xs ≠ [] /\ xs.length + ys.length <= 1000000 then some (.tup (xs ++ ys)) else none
  | x, y => match lstOf x, lstOf y with
    | some xs, some ys => if xs.length + ys.length <= 1000000 then some (.olst (xs ++ ys)) else none
    | _, _ => none
def xAdd (a b : XP W) : XP W where
  t := tOp (fun x y H Q => rI0 (fun i j => .int (i + j)) x y H Q \/ (fun x y H Q => rCat x y H Q \/ rCatT W.K x y H Q) x y H Q) a.t b.t
  ev env := (a.evK env).bind fun x => (b.evK env).bind fun y => (addD x y).map (Prod.mk .fr)
  snd := fun {env k d} e => by
    obtain ⟨x, e1, e⟩ := Option.bind_eq_some_iff.mp e
    obtain ⟨y, e2, e⟩ := Option.bind_eq_some_iff.mp e
    obtain ⟨z, e3, e⟩ := Option.map_eq_some_iff.mp e
    cases e
    intro e' F σ H L Q r q
    refine a.sK e1 e' F σ H L _ r fun v F1 H1 x1 ⟨L1, y1⟩ => b.sK e2 e' F1 σ H1 L _ (r.ext x1) fun u F2 H2 x2 ⟨L2, y2⟩ => ?_
    have y1 : Own W F2 H2 x v L1 := y1.frame x2.f fun a _ o q => x2.h _ _ q
    have lists : ∀ {xs ys}, lstOf x = some xs -> lstOf y = some ys -> xs.length + ys.length <= 1000000 -> d = .olst (xs ++ ys) -> (fun x y H Q => rI0 (fun i j => V.int (i + j)) x y H Q \/ (fun x y H Q => rCat x y H Q \/ rCatT W.K x y H Q) x y H Q) v u H2 Q := by
      intro xs ys h1 h2 hl hz
      obtain ⟨a, vs, rfl, sa, ha⟩ := lstOf_ok x2.s y1 h1
      obtain ⟨b, ws, rfl, sb, hb⟩ := lstOf_ok x2.s y2 h2
      subst hz
      exact .inr (.inl (o2L_cat hl F2 H2 a b vs ws Q x2.s ha sa hb sb fun w F3 H3 x3 y3 => q w F3 H3 ((x1.trans x2).trans x3) (rO_back (x1.h.trans x2.h) y3)))
    unfold addD at e3
    split at e3
    · cases e3
      cases y1.shr rfl; cases y2.shr rfl
      exact .inl ⟨_, _, rfl, rfl, q _ F2 H2 (x1.trans x2) (rO_sh .int)⟩
    · obtain ⟨⟨hn, hl⟩, rfl⟩ := ite_some e3
      cases y1.shr rfl with
      | tup ha sa =>
        cases y2.shr rfl with
        | tup hb sb =>
          have z1 := sa.length
          have z2 := sb.length
          refine .inr (.inr ⟨_, _, _, _, rfl, rfl, .of (x2.s _ _ ha), .of (x2.s _ _ hb), fun z => ?_, by rw [<- z1, <- z2]; exact Nat.le_trans hl (by decide), fun z => ?_, fun z p hp => ?_⟩)
          · subst z; exact hn (List.eq_nil_of_length_eq_zero z1)
          · subst z
            have z2 := List.eq_nil_of_length_eq_zero z2
            subst z2
            refine q _ F2 H2 (x1.trans x2) ?_
            rw [List.append_nil]
            exact rO_sh (.tup ha sa)
          · exact q _ _ _ ((x1.trans x2).trans (.new x2.s hp)) (rO_sh (.tup upd_same ((sa.append sb).mono (same_new (x2.s.free hp)))))
    · rename_i hx hy
      cases h1 : lstOf x with
      | none => rw [h1] at e3; cases e3
      | some xs =>
        cases h2 : lstOf y with
        | none => rw [h1, h2] at e3; cases e3
        | some ys =>
          rw [h1, h2] at e3
          obtain ⟨hl, rfl⟩ := ite_some e3
          exact lists h1 h2 hl rfl
mutual
def okD : Nat -> D -> Bool
  | _, .non | _, .bl _ | _, .int _ | _, .str _ => true
  | n + 1, .tup xs => okDs n xs
  | n + 1, .lst xs => okDs n xs
  | _, _ => false
def okDs : Nat -> List D -> Bool
  | _, [] => true
  | n, x :: xs => okD n x && okDs n xs
end
mutual
def eqB : D -> D -> Bool
  | .non, .non => true
  | .bl a, .bl b => decide (a = b)
  | .bl a, .int j => decide ((if a then 1 else 0) = j)
  | .int i, .bl b => decide (i = if b then 1 else 0)
  | .int i, .int j => decide (i = j)
  | .str x, .str y => decide (x = y)
  | .tup xs, .tup ys => eqBs xs ys
  | .lst xs, .lst ys => eqBs xs ys
  | _, _ => false
def eqBs : List D -> List D -> Bool
  | [], [] => true
  | x :: xs, y :: ys => eqB x y && eqBs xs ys
  | _, _ => false
end
theorem okDs_all (n : Nat) : ∀ xs : List D, okDs n xs = xs.all (okD n)
  | [] => by rw [okDs]; rfl
  | x :: xs => by rw [okDs, okDs_all n xs]; rfl
theorem strOk_so (x : String) : PyData.strOk (so x) = true := by
  unfold PyData.strOk so
  rw [Str.ofString_eq_toList]
  simp only [List.all_toArray, List.all_map, List.all_eq_true, Function.comp_apply, decide_eq_true_eq]
  intro c _
  have := c.valid
  rcases this with h | h
  · have : c.toNat < 55296 := h
    omega
  · exact h.2
mutual
theorem okD_pd : ∀ {n : Nat} {d : D}, okD n d = true -> ∃ p, pd d = some p /\ p.canLay0 = true /\ p.depth <= n
  | n, .non, _ => ⟨_, by rw [pd], by rw [PyData.canLay0], by simp [PyData.depth]⟩
  | n, .bl _, _ => ⟨_, by rw [pd], by rw [PyData.canLay0], by simp [PyData.depth]⟩
  | n, .int _, _ => ⟨_, by rw [pd], by rw [PyData.canLay0], by simp [PyData.depth]⟩
  | n, .str _, h => ⟨_, by rw [pd], by rw [PyData.canLay0]; exact strOk_so _, by simp [PyData.depth]⟩
  | n + 1, .tup xs, h => by
    rw [okD] at h
    obtain ⟨ps, h1, h2, h3⟩ := okDs_pd h
    exact ⟨.tuple ps, by rw [pd, h1]; rfl, by rw [PyData.canLay0]; exact h2, by rw [PyData.depth]; omega⟩
  | n + 1, .lst xs, h => by
    rw [okD] at h
    obtain ⟨ps, h1, h2, h3⟩ := okDs_pd h
    exact ⟨.list ps, by rw [pd, h1]; rfl, by rw [PyData.canLay0]; exact h2, by rw [PyData.depth]; omega⟩
  | _, .scr _, h => by simp [okD] at h
  | 0, .tup _, h => by simp [okD] at h
  | 0, .lst _, h => by simp [okD] at h
  | _, .cls _, h => by simp [okD] at h
  | _, .sei _, h => by simp [okD] at h
  | _, .dic _ _, h => by simp [okD] at h
  | _, .dit _ _, h => by simp [okD] at h
  | _, .dig _ _, h => by simp [okD] at h
  | _, .ins _ _ _, h => by simp [okD] at h
  | _, .olst _, h => by simp [okD] at h
  | _, .odic _ _, h => by simp [okD] at h
  | _, .odit _ _, h => by simp [okD] at h
  | _, .odig _ _, h => by simp [okD] at h
  | _, .oins _ _ _, h => by simp [okD] at h
theorem okDs_pd : ∀ {n : Nat} {ds : List D}, okDs n ds = true -> ∃ ps, pds ds = some ps /\ PyData.canLayAll0 ps = true /\ PyData.depthAll ps <= n
  | n, [], _ => ⟨[], by rw [pds], by rw [PyData.canLayAll0], by simp [PyData.depthAll]⟩
  | n, d :: ds, h => by
    rw [okDs, Bool.and_eq_true] at h
    obtain ⟨p, h1, h2, h3⟩ := okD_pd h.1
    obtain ⟨ps, k1, k2, k3⟩ := okDs_pd h.2
    exact ⟨p :: ps, by rw [pds, h1, k1], by rw [PyData.canLayAll0, h2, k2]; rfl, by rw [PyData.depthAll]; omega⟩
end
theorem so_eq {x y : String} : (so x == so y) = decide (x = y) := by
  by_cases h : x = y
  · subst h; simp
  · rw [beq_eq_false_iff_ne.mpr fun z => h (so_inj z), decide_eq_false h]
mutual
theorem eqB_pd : ∀ (x : D) {y : D} {p q : PyData}, pd x = some p -> pd y = some q -> eqB x y = PyData.eqv p q
  | .tup xs, y, p, q, hx, hy => by
    rw [pd] at hx
    obtain ⟨ps, h1, rfl⟩ := Option.map_eq_some_iff.mp hx
    cases y <;> (simp only [pd, reduceCtorEq, Option.some.injEq, Option.map_eq_some_iff] at hy) <;> first | (obtain ⟨qs, h2, rfl⟩ := hy) | subst hy
    all_goals first | (simp only [eqB, PyData.eqv]; done) | (simp only [eqB, PyData.eqv]; exact eqBs_pd xs h1 h2)
  | .lst xs, y, p, q, hx, hy => by
    rw [pd] at hx
    obtain ⟨ps, h1, rfl⟩ := Option.map_eq_some_iff.mp hx
    cases y <;> (simp only [pd, reduceCtorEq, Option.some.injEq, Option.map_eq_some_iff] at hy) <;> first | (obtain ⟨qs, h2, rfl⟩ := hy) | subst hy
    all_goals first | (simp only [eqB, PyData.eqv]; done) | (simp only [eqB, PyData.eqv]; exact eqBs_pd xs h1 h2)
  | .non, y, p, q, hx, hy => by
    rw [pd] at hx; cases hx
    cases y <;> (simp only [pd, reduceCtorEq, Option.some.injEq, Option.map_eq_some_iff] at hy) <;> first | (obtain ⟨qs, h2, rfl⟩ := hy) | subst hy
    all_goals first | (simp only [eqB, PyData.eqv, so_eq]; done) | (simp only [eqB, PyData.eqv]; rw [Bool.eq_iff_iff]; simp; done)
  | .bl _, y, p, q, hx, hy => by
    rw [pd] at hx; cases hx
    cases y <;> (simp only [pd, reduceCtorEq, Option.some.injEq, Option.map_eq_some_iff] at hy) <;> first | (obtain ⟨qs, h2, rfl⟩ := hy) | subst hy
    all_goals first | (simp only [eqB, PyData.eqv, so_eq]; done) | (simp only [eqB, PyData.eqv]; rw [Bool.eq_iff_iff]; simp; done)
  | .int _, y, p, q, hx, hy => by
    rw [pd] at hx; cases hx
    cases y <;> (simp only [pd, reduceCtorEq, Option.some.injEq, Option.map_eq_some_iff] at hy) <;> first | (obtain ⟨qs, h2, rfl⟩ := hy) | subst hy
    all_goals first | (simp only [eqB, PyData.eqv, so_eq]; done) | (simp only [eqB, PyData.eqv]; rw [Bool.eq_iff_iff]; simp; done)
  | .str _, y, p, q, hx, hy => by
    rw [pd] at hx; cases hx
    cases y <;> (simp only [pd, reduceCtorEq, Option.some.injEq, Option.map_eq_some_iff] at hy) <;> first | (obtain ⟨qs, h2, rfl⟩ := hy) | subst hy
    all_goals first | (simp only [eqB, PyData.eqv, so_eq]; done) | (simp only [eqB, PyData.eqv]; rw [Bool.eq_iff_iff]; simp; done)
  | .cls _, y, p, q, hx, hy => by simp [pd] at hx
  | .sei _, y, p, q, hx, hy => by simp [pd] at hx
  | .scr _, y, p, q, hx, hy => by simp [pd] at hx
  | .dic _ _, y, p, q, hx, hy => by simp [pd] at hx
  | .dit _ _, y, p, q, hx, hy => by simp [pd] at hx
  | .dig _ _, y, p, q, hx, hy => by simp [pd] at hx
  | .ins _ _ _, y, p, q, hx, hy => by simp [pd] at hx
  | .olst _, y, p, q, hx, hy => by simp [pd] at hx
  | .odic _ _, y, p, q, hx, hy => by simp [pd] at hx
  | .odit _ _, y, p, q, hx, hy => by simp [pd] at hx
  | .odig _ _, y, p, q, hx, hy => by simp [pd] at hx
  | .oins _ _ _, y, p, q, hx, hy => by simp [pd] at hx
theorem eqBs_pd : ∀ (xs : List D) {ys : List D} {ps qs : List PyData}, pds xs = some ps -> pds ys = some qs -> eqBs xs ys = PyData.eqvAll ps qs
  | [], ys, ps, qs, hx, hy => by
    rw [pds] at hx; cases hx
    cases ys with
    | nil => rw [pds] at hy; cases hy; simp [eqBs, PyData.eqvAll]
    | cons y ys =>
      rw [pds] at hy
      split at hy
      · cases hy; simp [eqBs, PyData.eqvAll]
      · cases hy
  | x :: xs, ys, ps, qs, hx, hy => by
    rw [pds] at hx
    split at hx
    · rename_i p ps' h1 h2
      cases hx
      cases ys with
      | nil => rw [pds] at hy; cases hy; simp [eqBs, PyData.eqvAll]
      | cons y ys =>
        rw [pds] at hy
        split at hy
        · rename_i q qs' k1 k2
          cases hy
          rw [eqBs, PyData.eqvAll, eqB_pd x h1 k1, eqBs_pd xs h2 k2]
        · cases hy
    · cases hx
end
def eqD (x y : D) : Option D := if okD 60 x = true /\ okD 60 y = true then some (.bl (eqB x y)) else none
def neD (x y : D) : Option D := if okD 60 x = true /\ okD 60 y = true then some (.bl (!eqB x y)) else none
theorem okD_sh {x : D} {p : PyData} (h1 : p.canLay0 = true) (h2 : p.depth <= 60) : SeqAt.shaped p = true := by
  unfold SeqAt.shaped
  rw [h1, decide_eq_true (by omega)]; rfl
def xEq (a b : XP W) : XP W := xOp (fun x y H Q => rEq x y H Q \/ rEqD W.K x y H Q) eqD (fun {x y d} e => by
  obtain ⟨⟨h1, h2⟩, rfl⟩ := ite_some e
  obtain ⟨p, p1, p2, p3⟩ := okD_pd h1
  obtain ⟨q, q1, q2, q3⟩ := okD_pd h2
  rw [eqB_pd x p1 q1]
  exact o2_r (o2_eqD p1 q1 (okD_sh (x := x) p2 p3) (okD_sh (x := y) q2 q3))) a b
def xNe (a b : XP W) : XP W := xOp (fun x y H Q => rNe x y H Q \/ rNeD W.K x y H Q) neD (fun {x y d} e => by
  obtain ⟨⟨h1, h2⟩, rfl⟩ := ite_some e
  obtain ⟨p, p1, p2, p3⟩ := okD_pd h1
  obtain ⟨q, q1, q2, q3⟩ := okD_pd h2
  rw [eqB_pd x p1 q1]
  exact o2_r (o2_neD p1 q1 (okD_sh (x := x) p2 p3) (okD_sh (x := y) q2 q3))) a b
def intsOf : List D -> Option (List Int)
  | [] => some []
  | .int i :: ds => (intsOf ds).map (i :: ·)
  | _ => none
theorem intsOf_ok : ∀ {ds : List D} {ns : List Int}, intsOf ds = some ns -> ds = ns.map D.int
  | [], _, h => by cases h; rfl
  | .int i :: ds, ns, h => by
    obtain ⟨ms, h1, rfl⟩ := Option.map_eq_some_iff.mp h
    rw [intsOf_ok h1]; rfl
theorem shrs_int {F : Hp} : ∀ {ns : List Int} {vs : List V}, Shrs W F (ns.map D.int) vs -> vs = ns.map V.int
  | [], _, .nil => rfl
  | n :: ns, _, .cons h t => by cases h; rw [shrs_int t]; rfl
def cmpD (f : Int -> Int -> Bool) : D -> D -> Option D
  | .int i, .int j => some (.bl (f i j))
  | _, _ => none
def ltD : D -> D -> Option D
  | .int i, .int j => some (.bl (decide (i < j)))
  | .tup xs, .tup ys => (intsOf xs).bind fun ns => (intsOf ys).map fun ms => .bl (HT.lexLt ns ms)
  | _, _ => none
def xLt (a b : XP W) : XP W := xOp (fun x y H Q => rI0 (fun i j => .bl (decide (i < j))) x y H Q \/ rLtT W.K x y H Q) ltD (fun {x y d} e => by
  unfold ltD at e
  split at e
  · cases e; exact o2_l (o2_i fun _ => .bl)
  · obtain ⟨ns, h1, e⟩ := Option.bind_eq_some_iff.mp e
    obtain ⟨ms, h2, rfl⟩ := Option.map_eq_some_iff.mp e
    cases intsOf_ok h1
    cases intsOf_ok h2
    refine o2_r fun F H v1 v2 Q s a b q => ?_
    cases a with
    | tup ha sa =>
      cases b with
      | tup hb sb =>
        cases shrs_int sa
        cases shrs_int sb
        exact ⟨_, _, _, _, rfl, rfl, .of ha, .of hb, q _ F H (.refl s) (rO_sh .bl)⟩
  · cases e) a b
def xCmp (f : Int -> Int -> Bool) (a b : XP W) : XP W := xOp (rI0 fun i j => .bl (f i j)) (cmpD f) (fun {x y d} e => by
  unfold cmpD at e
  split at e
  · cases e; exact o2_i fun _ => .bl
  · cases e) a b
def xGt (a b : XP W) : XP W := xCmp (fun i j => decide (j < i)) a b
def xGe (a b : XP W) : XP W := xCmp (fun i j => decide (j <= i)) a b
def xIsN (a : XP W) : XP W where
  t := tOp (fun x y H Q => y = .non /\ Q (.bl (decide (x = .non))) H) a.t (tC .non)
  ev env := (a.evV env).map fun x => (.fr, .bl (isNon x))
  snd := fun {env k d} e => by
    obtain ⟨x, e1, e⟩ := Option.map_eq_some_iff.mp e
    cases e
    exact (ae_isN (a.sV e1)).own
def blD : D -> Option Bool
  | .bl b => some b
  | _ => none
theorem blD_ok {x : D} {b : Bool} (h : blD x = some b) : x = .bl b := by cases x <;> cases h; rfl
def XP.evB (a : XP W) (env : Py.Env) : Option Bool := (a.evV env).bind blD
theorem XP.sB (a : XP W) {b : Bool} (h : a.evB env = some b) : AE W a.t env (rV W (.bl b)) := by
  obtain ⟨x, e1, e⟩ := Option.bind_eq_some_iff.mp h
  cases blD_ok e
  exact a.sV e1
def andE (x : Option Bool) (y : Unit -> Option Bool) : Option Bool := match x with
  | some true => y ()
  | some false => some false
  | none => none
def orE (x : Option Bool) (y : Unit -> Option Bool) : Option Bool := match x with
  | some false => y ()
  | some true => some true
  | none => none
def xAnd (a b : XP W) : XP W where
  t := tAndV a.t b.t
  ev env := (andE (a.evB env) fun _ => b.evB env).map fun c => (.fr, .bl c)
  snd := fun {env k d} e => by
    obtain ⟨c, e1, e⟩ := Option.map_eq_some_iff.mp e
    cases e
    match ha : a.evB env, e1 with
    | some false, e1 => cases e1; exact (ae_andV (b := false) (a.sB ha) fun q => nomatch q).own
    | some true, e1 => exact (ae_andV (a.sB ha) fun q => b.sB e1).own
def xOr (a b : XP W) : XP W where
  t := tOrV a.t b.t
  ev env := (orE (a.evB env) fun _ => b.evB env).map fun c => (.fr, .bl c)
  snd := fun {env k d} e => by
    obtain ⟨c, e1, e⟩ := Option.map_eq_some_iff.mp e
    cases e
    match ha : a.evB env, e1 with
    | some true, e1 => cases e1; exact (ae_orV (b := false) (a.sB ha) fun q => nomatch q).own
    | some false, e1 => exact (ae_orV (a.sB ha) fun q => b.sB e1).own
def xNot (a : XP W) : XP W where
  t := tNotV a.t
  ev env := (a.evB env).map fun c => (.fr, .bl (!c))
  snd := fun {env k d} e => by
    obtain ⟨c, e1, e⟩ := Option.map_eq_some_iff.mp e
    cases e
    exact (ae_notV (a.sB e1)).own
structure XT {T : Tbl} (W : Wd T) where
  t : TT
  ev : Py.Env -> Option Bool
  snd : ∀ {env b}, ev env = some b -> AT W t env b
def xtV (a : XP W) : XT W where
  t := tTest a.t
  ev env := a.evB env
  snd := fun e => at_test (a.sB e)
def truD : D -> Option Bool
  | .bl b => some b
  | .non => some false
  | .int i => some (decide (i ≠ 0))
  | .lst ds => some (!ds.isEmpty)
  | .tup ds => some (!ds.isEmpty)
  | _ => none
theorem isE {ds : List D} {vs : List V} {F : Hp} (b : Shrs W F ds vs) : (!ds.isEmpty) = !vs.isEmpty := by cases b <;> rfl
def xtTru (a : XP W) : XT W where
  t := fun σ H Q => a.t σ H fun x H' => ∃ k, TruV W.K x H' k /\ Q k H'
  ev env := (a.evV env).bind truD
  snd := fun {env b} e => by
    obtain ⟨x, e1, e⟩ := Option.bind_eq_some_iff.mp e
    intro e' F σ H L Q r q
    refine a.sV e1 e' F σ H L _ r fun v F1 H1 x1 y1 => ⟨b, ?_, q F1 H1 x1⟩
    cases y1 <;> first | (cases e; done) | (cases e; rfl) | skip
    · cases e
      show decide _ = (_ != 0)
      rw [Bool.eq_iff_iff]; simp
    · cases e; exact .inr (.inl ⟨_, .of (by assumption), isE (by assumption)⟩)
    · cases e; exact .inl ⟨_, .of (by assumption), isE (by assumption)⟩
def xtAnd (a b : XT W) : XT W where
  t := tAnd a.t b.t
  ev env := andE (a.ev env) fun _ => b.ev env
  snd := fun {env c} e => by
    match ha : a.ev env, e with
    | some false, e => cases e; exact at_and (b := false) (a.snd ha) fun q => nomatch q
    | some true, e => exact at_and (a.snd ha) fun q => b.snd e
def xtOr (a b : XT W) : XT W where
  t := tOr a.t b.t
  ev env := orE (a.ev env) fun _ => b.ev env
  snd := fun {env c} e => by
    match ha : a.ev env, e with
    | some true, e => cases e; exact at_or (b := false) (a.snd ha) fun q => nomatch q
    | some false, e => exact at_or (a.snd ha) fun q => b.snd e
def xtNot (a : XT W) : XT W where
  t := tNot a.t
  ev env := (a.ev env).map (!·)
  snd := fun {env c} e => by
    obtain ⟨b, e1, rfl⟩ := Option.map_eq_some_iff.mp e
    exact at_not (a.snd e1)
structure XA {T : Tbl} (W : Wd T) where
  t : TA
  evV : Py.Env -> Option (List D)
  evF : Py.Env -> Option (List D)
  sV : ∀ {env ds}, evV env = some ds -> AA W t env (rVs W ds)
  sF : ∀ {env ds}, evF env = some ds -> AA W t env (rFs W ds)
def xaNil {T : Tbl} (W : Wd T) : XA W where
  t := tNil
  evV _ := some []
  evF _ := some []
  sV := fun e => by cases e; exact aa_nilV
  sF := fun e => by cases e; exact aa_nil
def xaCons (a : XP W) (as : XA W) : XA W where
  t := tCons a.t as.t
  evV env := (a.evV env).bind fun x => (as.evV env).map (x :: ·)
  evF env := (a.evF env).bind fun x => (as.evF env).map (x :: ·)
  sV := fun {env ds} e => by
    obtain ⟨x, e1, e⟩ := Option.bind_eq_some_iff.mp e
    obtain ⟨xs, e2, rfl⟩ := Option.map_eq_some_iff.mp e
    exact aa_consV (a.sV e1) (as.sV e2)
  sF := fun {env ds} e => by
    obtain ⟨x, e1, e⟩ := Option.bind_eq_some_iff.mp e
    obtain ⟨xs, e2, rfl⟩ := Option.map_eq_some_iff.mp e
    exact aa_cons (a.sF e1) (as.sF e2)
def xTup (as : XA W) : XP W where
  t := tTup as.t
  ev env := (as.evF env).bind fun ds => if ds.length <= 1000000 then some (.fr, .tup ds) else none
  snd := fun {env k d} e => by
    obtain ⟨x, e1, e⟩ := Option.bind_eq_some_iff.mp e
    obtain ⟨h, e⟩ := ite_some e
    cases e
    exact (ae_tup (as.sF e1) h).own
def xLst (as : XA W) : XP W where
  t := tLst as.t
  ev env := (as.evF env).bind fun ds => if ds.length <= 1000000 then some (.fr, .olst ds) else none
  snd := fun {env k d} e => by
    obtain ⟨x, e1, e⟩ := Option.bind_eq_some_iff.mp e
    obtain ⟨h, e⟩ := ite_some e
    cases e
    exact ae_lst (as.sF e1) h
def xCb (r : List V -> Hp -> VK -> Prop) (f : List D -> Option D) (h : ∀ {ds d}, f ds = some d -> Cb W r ds d) (as : XA W) : XP W where
  t := tCB r as.t
  ev env := (as.evV env).bind fun ds => (f ds).map (Prod.mk .fr)
  snd := fun {env k d} e => by
    obtain ⟨x, e1, e⟩ := Option.bind_eq_some_iff.mp e
    obtain ⟨z, e2, e⟩ := Option.map_eq_some_iff.mp e
    cases e
    exact ae_cb (as.sV e1) (h e2)
def intD : List D -> Option D
  | [.int i] => some (.int i)
  | [.bl b] => some (.int (if b then 1 else 0))
  | _ => none
def xInt1 (as : XA W) : XP W := xCb (fun xs H Q => (∃ i, xs = [.int i] /\ Q (.int i) H) \/ ∃ k, xs = [.bl k] /\ Q (.int (if k then 1 else 0)) H) intD (fun {ds d} e => by
  unfold intD at e
  split at e
  · cases e; exact cb_int
  · cases e
    exact fun F H vs Q s a q => by
      cases a with
      | cons a b => cases b; cases a; exact .inr ⟨_, rfl, q _ F H (.refl s) (rO_sh .int)⟩
  · cases e) as
def absD : List D -> Option D
  | [.int i] => some (.int (if i < 0 then -i else i))
  | _ => none
def xAbs (as : XA W) : XP W := xCb (fun xs H Q => ∃ i, xs = [.int i] /\ Q (.int (if i < 0 then -i else i)) H) absD (fun {ds d} e => by
  unfold absD at e
  split at e
  · cases e; exact cb_abs
  · cases e) as
abbrev rLenA (K : PySem.W.Frag) : List V -> Hp -> VK -> Prop := fun xs H Q => (∃ p ys, xs = [.ref p] /\ (SqL K H p ys \/ SqT K H p ys) /\ Q (.int ys.length) H) \/ (∃ a kvs, xs = [V.ref a] /\ H a = some (.dK kvs) /\ Q (.int kvs.length) H)
def lenD : List D -> Option D
  | [.lst ds] => some (.int ds.length)
  | [.tup ds] => some (.int ds.length)
  | [.scr ns] => some (.int ns.length)
  | _ => none
theorem len_cb {ds : List D} {d : D} (e : lenD ds = some d) : Cb W (rLenA W.K) ds d := by
  unfold lenD at e
  split at e
  · cases e; exact cb_l cb_lenL
  · cases e; exact cb_l cb_lenT
  · cases e; exact cb_l cb_lenS
  · cases e
def itemsD : D -> Option (List D)
  | .lst xs => some xs
  | .olst xs => some xs
  | .tup xs => some xs
  | .scr ns => some (ns.map .int)
  | _ => none
def ixD (d y : D) : Option D := match y with
  | .int i => (itemsD d).bind fun xs => atI xs i
  | _ => none
theorem Owns.get {G H : Hp} : ∀ {ds : List D} {vs : List V} {L : List Addr} {i : Nat} {d : D}, Owns W G H ds vs L -> ds[i]? = some d -> ∃ v M, vs[i]? = some v /\ Own W G H d v M
  | _, _, _, _, _, .nil, e => by simp at e
  | _, _, _, 0, _, .cons h _, e => by simp at e; subst e; exact ⟨_, _, rfl, h⟩
  | _, _, _, i + 1, _, .cons _ t, e => Owns.get (i := i) t (by simpa using e)
theorem atI_own {G H : Hp} {ds : List D} {vs : List V} {L : List Addr} {i : Int} (h : Owns W G H ds vs L) (ha : atI ds i = some d) : ∃ v M, atI vs i = some v /\ Own W G H d v M := by
  unfold atI at ha ⊢
  rw [<- h.length]
  cases e : ixN ds.length i with
  | none => rw [e] at ha; cases ha
  | some j =>
    rw [e] at ha
    exact h.get ha
theorem ixD_ok {G H : Hp} {v : V} {L : List Addr} {i : Int} {x : D} (s : Same G H) (o : Own W G H d v L) (h : ixD d (.int i) = some x) : ∃ w M, Own W G H x w M /\ ∀ Q : VK, Q w H -> rIxU W.K v (.int i) H Q := by
  obtain ⟨xs, h1, h2⟩ := Option.bind_eq_some_iff.mp h
  cases o with
  | sh y =>
    cases y <;> first | (cases h1; done) | skip
    · cases h1
      obtain ⟨w, M, e1, e2⟩ := atI_own (Shrs.owns (H := H) (shrs_ints (W := W) (F := G) _)) h2
      exact ⟨w, M, e2, fun Q q => .inl ⟨_, _, i, w, rfl, rfl, s.seq (by assumption), e1, q⟩⟩
    · cases h1
      obtain ⟨w, M, e1, e2⟩ := atI_own (Shrs.owns (H := H) (by assumption)) h2
      exact ⟨w, M, e2, fun Q q => .inr ⟨_, _, i, w, rfl, rfl, .of (s _ _ (by assumption)), e1, q⟩⟩
    · cases h1
      obtain ⟨w, M, e1, e2⟩ := atI_own (Shrs.owns (H := H) (by assumption)) h2
      exact ⟨w, M, e2, fun Q q => .inl ⟨_, _, i, w, rfl, rfl, .of (s _ _ (by assumption)), e1, q⟩⟩
  | olst ha hs =>
    cases h1
    obtain ⟨w, M, e1, e2⟩ := atI_own hs h2
    exact ⟨w, M, e2, fun Q q => .inl ⟨_, _, i, w, rfl, rfl, .of ha, e1, q⟩⟩
  | odic => cases h1
  | odit => cases h1
  | odig => cases h1
  | oins => cases h1
def xIx (a b : XP W) : XP W where
  t := tOp (rIxU W.K) a.t b.t
  ev env := (a.ev env).bind fun p => (b.evV env).bind fun y => (ixD p.2 y).map p.1.of
  snd := fun {env k d} e => by
    obtain ⟨⟨k1, d1⟩, e1, e⟩ := Option.bind_eq_some_iff.mp e
    obtain ⟨y, e2, e⟩ := Option.bind_eq_some_iff.mp e
    obtain ⟨x, e3, e9⟩ := Option.map_eq_some_iff.mp e
    intro e' F σ H L Q r q
    refine a.snd e1 e' F σ H L _ r fun v F1 H1 x1 y1 => b.sV e2 e' F1 σ H1 L _ (r.ext x1) fun u F2 H2 x2 y2 => ?_
    obtain ⟨L1, o⟩ := rK_own y1
    have o2 := o.ext x2
    cases y <;> first | (cases e3; done) | skip
    cases y2
    obtain ⟨w, M, o3, c⟩ := ixD_ok (basis_same x2.s) o2 e3
    exact c _ (q w F2 H2 (x1.trans x2) (rK_of x2.s o3 e9))
def fldD (T : Tbl) (f : String) : D -> Option D
  | .ins c ns xs => if T.fOk c f = true then (pos f ns).bind fun j => xs[j]? else none
  | .oins c ns xs => if T.fOk c f = true then (pos f ns).bind fun j => xs[j]? else none
  | _ => none
theorem fldD_ok {G H : Hp} {v : V} {L : List Addr} {f : String} {x : D} (s : Same G H) (o : Own W G H d v L) (h : fldD T f d = some x) :
    ∃ a c dx fs w M, v = .ref a /\ H a = some (.ins (W.cA c) dx fs) /\ Cls W.K (W.cA c) /\ NoAttr W.K (W.cA c) (so f) /\ fs.lookup (so f) = some w /\ Own W G H x w M := by
  have gen : ∀ {c ns xs vs dx a M}, (if T.fOk c f = true then (pos f ns).bind fun j => xs[j]? else none) = some x -> H a = some (.ins (W.cA c) dx ((ns.map so).zip vs)) -> W.has c -> Owns W G H xs vs M ->
      ∃ a' c' dx fs w M, V.ref a = .ref a' /\ H a' = some (.ins (W.cA c') dx fs) /\ Cls W.K (W.cA c') /\ NoAttr W.K (W.cA c') (so f) /\ fs.lookup (so f) = some w /\ Own W G H x w M := by
    intro c ns xs vs dx a M e ha hc os
    split at e
    · rename_i hf
      obtain ⟨j, e1, e2⟩ := Option.bind_eq_some_iff.mp e
      obtain ⟨w, M', e3, o3⟩ := os.get e2
      exact ⟨a, c, dx, _, w, M', rfl, ha, W.cl c hc, W.na c f hc hf, (zip_lookup e1).trans e3, o3⟩
    · cases e
  cases o with
  | sh y =>
    cases y <;> first | (cases h; done) | skip
    exact gen h (s _ _ (by assumption)) (by assumption) (Shrs.owns (by assumption))
  | olst => cases h
  | odic => cases h
  | odit => cases h
  | odig => cases h
  | oins ha hc hl hs => exact gen h ha hc hs
def xFld (a : XP W) (f : String) : XP W where
  t := tFld W.K a.t (so f)
  ev env := (a.ev env).bind fun p => (fldD T f p.2).map p.1.of
  snd := fun {env k d} e => by
    obtain ⟨⟨k1, d1⟩, e1, e⟩ := Option.bind_eq_some_iff.mp e
    obtain ⟨x, e3, e⟩ := Option.map_eq_some_iff.mp e
    intro e' F σ H L Q r q
    refine a.snd e1 e' F σ H L _ r fun v F1 H1 x1 y1 => ?_
    obtain ⟨L1, o⟩ := rK_own y1
    obtain ⟨a, c, dx, fs, w, M, rfl, h1, h2, h3, h4, h5⟩ := fldD_ok (basis_same x1.s) o e3
    exact ⟨a, _, dx, fs, w, rfl, h1, h2, h3, h4, q w F1 H1 x1 (rK_of x1.s h5 e)⟩
def xList (a : XP W) : XP W where
  t := tCB (fun xs H Q => ∃ p ys, xs = [.ref p] /\ (SqL W.K H p ys \/ SqT W.K H p ys) /\ ∀ l, H l = none -> Q (.ref l) (upd H l (.lst ys))) (tCons a.t tNil)
  ev env := (a.evK env).bind fun d => (seqOf d).map fun p => (.fr, .olst p.2)
  snd := fun {env k d} e => by
    obtain ⟨d1, e1, e⟩ := Option.bind_eq_some_iff.mp e
    obtain ⟨⟨b, xs⟩, e3, e⟩ := Option.map_eq_some_iff.mp e
    cases e
    intro e' F σ H L Q r q
    refine a.sK e1 e' F σ H L _ r fun v F1 H1 x1 ⟨L1, o⟩ => ?_
    obtain ⟨a, vs, rfl, sh, sq⟩ := seqOf_ok x1.s o e3
    refine ⟨a, vs, rfl, ?_, fun p hp => q _ F1 _ (x1.trans (.newH x1.s hp)) ⟨[p], .olst upd_same sh.owns, by simp, fun x m => by
      rw [List.mem_singleton.mp m]; exact ⟨x1.h.free hp, x1.s.free hp⟩⟩⟩
    cases b with
    | true => exact .inr sq
    | false => exact .inl sq
def xTuple (a : XP W) : XP W where
  t := tCB (fun xs H Q => ∃ p ys, xs = [.ref p] /\ ((SqL W.K H p ys /\ ∀ l, H l = none -> Q (.ref l) (upd H l (.tup ys))) \/ (SqT W.K H p ys /\ Q (.ref p) H))) (tCons a.t tNil)
  ev env := (a.evK env).bind fun d => (seqOf d).map fun p => (.fr, .tup p.2)
  snd := fun {env k d} e => by
    obtain ⟨d1, e1, e⟩ := Option.bind_eq_some_iff.mp e
    obtain ⟨⟨b, xs⟩, e3, e⟩ := Option.map_eq_some_iff.mp e
    cases e
    intro e' F σ H L Q r q
    refine a.sK e1 e' F σ H L _ r fun v F1 H1 x1 ⟨L1, o⟩ => ?_
    cases b with
    | true =>
      have o1 : ∃ a vs, d1 = .tup xs /\ v = .ref a /\ F1 a = some (.tup vs) /\ Shrs W F1 xs vs := by
        unfold seqOf at e3
        split at e3 <;> first | (cases e3; done) | skip
        · split at e3 <;> cases e3
        · cases e3
          cases o.shr rfl with
          | tup ha hs => exact ⟨_, _, rfl, rfl, ha, hs⟩
      obtain ⟨a, vs, rfl, rfl, ha, hs⟩ := o1
      exact ⟨a, vs, rfl, .inr ⟨.of (x1.s _ _ ha), q _ F1 H1 x1 (rO_sh (.tup ha hs))⟩⟩
    | false =>
      obtain ⟨a, vs, rfl, sh, sq⟩ := seqOf_ok x1.s o e3
      exact ⟨a, vs, rfl, .inl ⟨sq, fun p hp => q _ (upd F1 p (.tup vs)) _ (x1.trans (.new x1.s hp)) (rO_sh (.tup upd_same (sh.mono (same_new (x1.s.free hp)))))⟩⟩
def tyD : D -> Option (Bool × String)
  | .non => some (false, "NoneType")
  | .bl _ => some (false, "bool")
  | .int _ => some (false, "int")
  | .str _ => some (false, "str")
  | .lst _ => some (false, "list")
  | .tup _ => some (false, "tuple")
  | .ins c _ _ => some (true, c)
  | _ => none
def isiB (a b : String) : Bool := a == b || (a == "bool" && b == "int")
def isi1 (T : Tbl) (t c : Bool × String) : Bool := match t, c with
  | (false, a), (false, b) => isiB a b
  | (false, _), (true, _) => false
  | (true, _), (false, _) => false
  | (true, c), (true, d) => T.sub c d
def clsOk (W : Wd T) (c : Bool × String) : Prop := if c.1 = true then W.has c.2 else c.2 ∈ ["int", "bool", "str", "list", "tuple", "dict"]
def clsT (W : Wd T) (c : Bool × String) : Value := if c.1 = true then .ref (W.cA c.2) else .type c.2
def clsV (W : Wd T) (c : Bool × String) : V := if c.1 = true then .ref (W.cA c.2) else .ty c.2
theorem clsV_ok (c : Bool × String) : ClsV (clsV W c) (clsT W c) := by
  obtain ⟨b, n⟩ := c
  cases b with
  | true => exact .own _
  | false => exact .ty _
theorem kitB_ok : ∀ a ∈ ["NoneType", "bool", "int", "str", "list", "tuple", "dict"], ∀ b ∈ ["int", "bool", "str", "list", "tuple", "dict"], kitB a b = some (isiB a b) := by decide +kernel
theorem tyD_ok {F H : Hp} {v : V} {t : Bool × String} (s : Same F H) (h : Shr W F d v) (e : tyD d = some t) : TyX W.K H v (clsT W t) /\ if t.1 = true then W.has t.2 else t.2 ∈ ["NoneType", "bool", "int", "str", "list", "tuple", "dict"] := by
  cases h with
  | non => cases e; exact ⟨.base .non, by simp⟩
  | bl => cases e; exact ⟨.base (.bl _), by simp⟩
  | int => cases e; exact ⟨.base (.int _), by simp⟩
  | str => cases e; exact ⟨.base (.str _), by simp⟩
  | lst h => cases e; exact ⟨.base (.lst (s _ _ h)), by simp⟩
  | tup h => cases e; exact ⟨.base (.tup (s _ _ h)), by simp⟩
  | dic => cases e
  | dit => cases e
  | ins h hc => cases e; exact ⟨.base (.ins (s _ _ h) (W.cl _ hc) (W.isT _ hc).1 (W.isT _ hc).2.1 (W.isT _ hc).2.2.1 (W.isT _ hc).2.2.2), hc⟩
  | scr => cases e
  | cls => cases e
  | sei => cases e
  | dig => cases e
theorem kit_isi {t c : Bool × String} (ht : if t.1 = true then W.has t.2 else t.2 ∈ ["NoneType", "bool", "int", "str", "list", "tuple", "dict"]) (hc : clsOk W c) : PySem.W.kitOne W.K (clsT W t) (clsT W c) = some (isi1 T t c) := by
  obtain ⟨b, n⟩ := t
  obtain ⟨b', n'⟩ := c
  cases b <;> cases b'
  · exact kit_ty (kitB_ok n ht n' hc)
  · exact W.isTO n n' ht hc
  · exact W.isOT n n' ht hc
  · exact W.isOO n n' ht hc
def xIsi (c : Bool × String) (a : XP W) : XP W where
  t := fun σ H Q => clsOk W c -> tCB (rIsi W.K) (tCons a.t (tCons (tC (clsV W c)) tNil)) σ H Q
  ev env := (a.evV env).bind fun x => (tyD x).map fun t => (.fr, .bl (isi1 T t c))
  snd := fun {env k d} e => by
    obtain ⟨x, e1, e⟩ := Option.bind_eq_some_iff.mp e
    obtain ⟨t, e2, e⟩ := Option.map_eq_some_iff.mp e
    cases e
    intro e' F σ H L Q r q hc
    refine a.sV e1 e' F σ H L _ r fun v F1 H1 x1 y1 => ?_
    obtain ⟨z1, z2⟩ := tyD_ok (Same.refl _) y1 e2
    exact ⟨_, _, _, _, _, rfl, clsV_ok c, z1, kit_isi z2 hc, q _ F1 H1 x1 (rO_sh .bl)⟩
inductive Rz where
  | ok (d : D) (b : Option D) | exn (x : Exn) (b : Option D) | no
abbrev Sem := String -> List D -> Option Nat -> Rz
structure Post (F H : Hp) (L0 : List Addr) (F' H' : Hp) : Prop where
  f : Same F F'
  s : Same F' H'
  h : ∀ a o, a ∉ L0 -> H a = some o -> H' a = some o
  n : ∀ a o, F' a = some o -> F a = some o \/ H a = none \/ a ∈ L0
def bOwn {T : Tbl} (W : Wd T) (F H : Hp) (vs : List V) : Option Nat -> Option D -> List Addr -> Prop
  | some i, some d, M => ∃ v, vs[i]? = some v /\ Own W F H d v M
  | _, _, M => M = []
def spR {T : Tbl} (W : Wd T) (n : Nat) (φ : List D -> Option Nat -> Rz) (b : Option Nat) : Sp := fun vs H Q E => ∃ F args L0, Same F H /\ Owns W F H args vs L0 /\ L0.Nodup /\ (∀ a ∈ L0, F a = none) /\ args.length = n /\ φ args b ≠ .no /\
  (∀ d bd, φ args b = .ok d bd -> ∀ F' H' v M Mb, Post F H L0 F' H' -> Own W F' H' d v M -> bOwn W F' H' vs b bd Mb -> (M ++ Mb).Nodup -> (∀ a ∈ M ++ Mb, F' a = none /\ (a ∈ L0 \/ H a = none)) -> Q v H') /\
  (∀ x bd, φ args b = .exn x bd -> ∀ F' H' C dd Mb, Post F H L0 F' H' -> IsExn W F' x C dd -> bOwn W F' H' vs b bd Mb -> Mb.Nodup -> (∀ a ∈ Mb, F' a = none /\ (a ∈ L0 \/ H a = none)) -> E C dd H')
theorem spR_len {n : Nat} {φ : List D -> Option Nat -> Rz} {b : Option Nat} : ∀ vs H Q E, spR W n φ b vs H Q E -> vs.length = n := by
  rintro vs H Q E ⟨F, args, L0, _, hS, _, _, hl, _⟩
  rw [<- hS.length, hl]
theorem Post.ext {F H F' H' : Hp} (p : Post F H [] F' H') : Ext F H F' H' := ⟨p.f, p.s, fun a o h => p.h a o (by simp) h, fun a o h => (p.n a o h).elim .inl fun z => z.elim .inr fun q => nomatch q⟩
def Rz.toF : Rz -> Option (Kd × D)
  | .ok d _ => some (.fr, d)
  | _ => none
def Rz.toV : Rz -> Option (Kd × D)
  | .ok d _ => some (if isFlat d = true then (.fr, d) else (.vw, fz d))
  | _ => none
theorem Rz.toF_ok {r : Rz} {k : Kd} {d : D} (h : r.toF = some (k, d)) : k = .fr /\ ∃ b, r = .ok d b := by cases r <;> cases h; exact ⟨rfl, _, rfl⟩
theorem Rz.toV_ok {r : Rz} {k : Kd} {d : D} (h : r.toV = some (k, d)) : ∃ d0 b, r = .ok d0 b /\ ((isFlat d0 = true /\ k = .fr /\ d = d0) \/ (k = .vw /\ d = fz d0)) := by
  cases r with
  | exn => cases h
  | no => cases h
  | ok d0 b =>
    have e : some (if isFlat d0 = true then (Kd.fr, d0) else (.vw, fz d0)) = some (k, d) := h
    have e := Option.some.inj e
    split at e
    · cases e; exact ⟨_, _, rfl, .inl ⟨by assumption, rfl, rfl⟩⟩
    · cases e; exact ⟨_, _, rfl, .inr ⟨rfl, rfl⟩⟩
theorem callF {n : Nat} {φ : List D -> Option Nat -> Rz} {F H : Hp} {vs : List V} {args : List D} {Q : VK} {E : XK} {b : Option D} (s : Same F H) (h : Shrs W F args vs) (hl : args.length = n) (hφ : φ args none = .ok d b)
    (q : ∀ v F' H', Ext F H F' H' -> rO W d F' H' H v -> Q v H') : spR W n φ none vs H Q E := by
  refine ⟨F, args, [], s, h.owns, .nil, ?_, hl, ?_, fun d' bd e F' H' v M Mb p o ob nd k => ?_, fun x bd e => ?_⟩
  · exact fun a m => nomatch m
  · rw [hφ]; exact fun z => nomatch z
  rotate_left
  · rw [hφ] at e; cases e
  rw [hφ] at e; cases e
  have ob : Mb = [] := ob
  subst ob
  rw [List.append_nil] at nd k
  exact q v F' H' p.ext ⟨M, o, nd, fun a m => ⟨(k a m).2.elim (fun z => nomatch z) id, (k a m).1⟩⟩
theorem callV {n : Nat} {φ : List D -> Option Nat -> Rz} {F H : Hp} {vs : List V} {args : List D} {Q : VK} {E : XK} {b : Option D} (s : Same F H) (h : Shrs W H args vs) (hl : args.length = n) (hφ : φ args none = .ok d b)
    (q : ∀ v H', Ext F H F H' -> Shr W H' (fz d) v -> Q v H') : spR W n φ none vs H Q E :=
  callF (Same.refl H) h hl hφ fun v F' H' x ⟨L, o, _, _⟩ => q v H' ⟨Same.refl _, s.trans (x.f.trans x.s), x.h, fun _ _ z => .inl z⟩ (o.view x.s fun _ _ _ z => z)
def xCall (φ : List D -> Option Nat -> Rz) (n : Nat) (as : XA W) (dds : List D) (dvs : List V) (hd : ∀ F, Shrs W F dds dvs) : XP W where
  t := tCall (spR W n φ none) dvs E0 as.t
  ev env := match as.evF env with
    | some ds => if (ds ++ dds).length = n then (φ (ds ++ dds) none).toF else none
    | none => match as.evV env with
      | some ds => if (ds ++ dds).length = n then (φ (ds ++ dds) none).toV else none
      | none => none
  snd := fun {env k d} e => by
    match e1 : as.evF env, e with
    | some ds, e =>
      dsimp only at e
      split at e
      · rename_i hl
        obtain ⟨rfl, b, h⟩ := Rz.toF_ok e
        exact fun e' F σ H L Q r q => as.sF e1 e' F σ H L _ r fun vs F1 H1 x1 y1 => callF x1.s (y1.append (hd F1)) hl h fun v F2 H2 x2 y2 => q v F2 H2 (x1.trans x2) (rO_back x1.h y2)
      · cases e
    | none, e =>
      match e2 : as.evV env, e with
      | some ds, e =>
        dsimp only at e
        split at e
        · rename_i hl
          obtain ⟨d0, b, h, hk⟩ := Rz.toV_ok e
          refine fun e' F σ H L Q r q => as.sV e2 e' F σ H L _ r fun vs F1 H1 x1 y1 => callV x1.s (Shrs.append y1 (hd H1)) hl h fun v H2 x2 y2 => q v F1 H2 (x1.trans x2) ?_
          rcases hk with ⟨hf, rfl, rfl⟩ | ⟨rfl, rfl⟩
          · rw [fz_isSh (isSh_flat hf)] at y2
            exact rO_sh (y2.flat hf)
          · exact y2
        · cases e
structure XG {T : Tbl} (W : Wd T) where
  t : TG
  ev : List Nat -> D -> Py.Env -> Option Py.Env
  own : List Nat
  snd : ∀ {P d env env'}, ev P d env = some env' -> AG W P t d env (· = env')
  mono : ∀ {v : V} {σ : St} {H : Hp} {Q Q' : St -> Hp -> Prop}, (∀ σ H, Q σ H -> Q' σ H) -> t v σ H Q -> t v σ H Q'
  gw : ∀ {vs : List Nat}, (∀ i ∈ own, i ∈ vs) -> GW t vs
structure XGs {T : Tbl} (W : Wd T) where
  t : TGs
  ev : List Nat -> List D -> Py.Env -> Option Py.Env
  own : List Nat
  snd : ∀ {P d env env'}, ev P d env = some env' -> AGs W P t d env (· = env')
  mono : ∀ {v : List V} {σ : St} {H : Hp} {Q Q' : St -> Hp -> Prop}, (∀ σ H, Q σ H -> Q' σ H) -> t v σ H Q -> t v σ H Q'
  gw : ∀ {vs : List Nat}, (∀ i ∈ own, i ∈ vs) -> GWs t vs
def setS (P : List Nat) (i : Nat) (d : D) (env : Py.Env) : Option Py.Env := if i < env.length /\ i ∉ P then some (env.set i (some d)) else none
def xgN {T : Tbl} (W : Wd T) (i : Nat) : XG W where
  t := gName i
  ev P d env := setS P i d env
  own := [i]
  snd := fun {P d env env'} e => by
    obtain ⟨⟨h1, h2⟩, rfl⟩ := ite_some e
    exact ag_name (List.getElem?_eq_getElem h1) h2 rfl
  mono := fun h q => h _ _ q
  gw := fun h => gw_name (h i (List.mem_cons_self ..))
def xgT (n : Nat) (gs : XGs W) : XG W where
  t := gTup W.K n gs.t
  ev P d env := match d with
    | .tup ds => if ds.length = n then gs.ev P ds env else none
    | _ => none
  own := gs.own
  snd := fun {P d env env'} e => by
    cases d <;> first | (cases e; done) | skip
    dsimp only at e
    split at e
    · exact ag_tup (by assumption) (gs.snd e)
    · cases e
  mono := fun h ⟨a, xs, e1, e2, e3, q⟩ => ⟨a, xs, e1, e2, e3, gs.mono h q⟩
  gw := fun h => gw_tup (gs.gw h)
structure XI {T : Tbl} (W : Wd T) where
  t : TI
  evF : Py.Env -> Option (List D)
  evP : Py.Env -> Option (List D)
  sF : ∀ {env ds}, evF env = some ds -> AIt W t env ds
  sP : ∀ {env ds}, evP env = some ds -> AIp W t env ds
theorem seq_sql {F0 : Hp} {a : Addr} {ds : List D} {vs : List V} (h : SqL W.K F0 a vs) (hs : Shrs W F0 ds vs) : Seq W (Itl W.K a) ds F0 where
  go := fun i d F H s1 s2 hd => by
    obtain ⟨v, hv, sv⟩ := hs.get hd
    refine ⟨⟨vs, v, (s1.trans s2).seq h, hv⟩, fun x H' y => ?_⟩
    obtain ⟨rfl, y⟩ := y
    have := y vs ((s1.trans s2).seq h)
    rw [hv] at this; cases this
    exact ⟨F, .refl s2, sv.mono s1⟩
  stop := fun F H s1 s2 => ⟨vs, (s1.trans s2).seq h, by rw [hs.length]; exact Nat.le_refl _⟩
theorem seqP_sql {F0 H0 : Hp} {a : Addr} {ds : List D} {vs : List V} (h : SqL W.K H0 a vs) (hs : Shrs W F0 ds vs) : SeqP W (Itl W.K a) ds F0 H0 where
  go := fun i d F H s1 s0 s2 hd => by
    obtain ⟨v, hv, sv⟩ := hs.get hd
    refine ⟨⟨vs, v, s0.seq h, hv⟩, fun x H' y => ?_⟩
    obtain ⟨rfl, y⟩ := y
    have := y vs (s0.seq h)
    rw [hv] at this; cases this
    exact ⟨F, .refl s2, sv.mono s1⟩
  stop := fun F H s1 s0 s2 => ⟨vs, s0.seq h, by rw [hs.length]; exact Nat.le_refl _⟩
theorem sameT {H H' : Hp} (e : Same H H') {a : Addr} {xs : List V} (h : SqT W.K H a xs) : SqT W.K H' a xs := by
  rcases h with (h | ⟨o, h⟩) | h
  · exact .inl (.inl (e _ _ h))
  · exact .inl (.inr ⟨o, e _ _ h⟩)
  · exact .inr h
theorem seqP_sqt {F0 H0 : Hp} {a : Addr} {ds : List D} {vs : List V} (h : SqT W.K H0 a vs) (hs : Shrs W F0 ds vs) : SeqP W (Itt W.K a) ds F0 H0 where
  go := fun i d F H s1 s0 s2 hd => by
    obtain ⟨v, hv, sv⟩ := hs.get hd
    refine ⟨⟨vs, v, sameT s0 h, hv⟩, fun x H' y => ?_⟩
    obtain ⟨rfl, y⟩ := y
    have := y vs (sameT s0 h)
    rw [hv] at this; cases this
    exact ⟨F, .refl s2, sv.mono s1⟩
  stop := fun F H s1 s0 s2 => ⟨vs, sameT s0 h, by rw [hs.length]; exact Nat.le_refl _⟩
def seqF : D -> Option (List D)
  | .lst xs => some xs
  | .tup xs => some xs
  | .scr ns => some (ns.map .int)
  | _ => none
def xiSeq (a : XP W) : XI W where
  t := iSeqU W.K a.t
  evF env := (a.evF env).bind seqF
  evP env := (a.evK env).bind fun d => (seqOf d).map (·.2)
  sF := fun {env ds} e => by
    obtain ⟨d, e1, e⟩ := Option.bind_eq_some_iff.mp e
    intro e' F σ H L R r q
    cases d <;> first | (cases e; done) | skip
    · cases e
      refine .inl (a.sF e1 e' F σ H L _ r fun v F1 H1 x1 y1 => ?_)
      cases y1 with
      | scr h => exact ⟨_, rfl, ⟨_, x1.s.seq h⟩, q _ F1 H1 x1 (seq_sql h (shrs_ints _))⟩
    · cases e; exact .inr (ait_tup (a.sF e1) e' F σ H L R r q)
    · cases e; exact .inl (ait_list (a.sF e1) e' F σ H L R r q)
  sP := fun {env ds} e => by
    obtain ⟨d, e1, e⟩ := Option.bind_eq_some_iff.mp e
    obtain ⟨⟨b, xs⟩, e2, rfl⟩ := Option.map_eq_some_iff.mp e
    intro e' F σ H L R r q
    cases b with
    | true =>
      refine .inr (a.sK e1 e' F σ H L _ r fun v F1 H1 x1 ⟨M, o⟩ => ?_)
      obtain ⟨a, vs, rfl, sh, sq⟩ := seqOf_ok x1.s o e2
      exact ⟨a, rfl, ⟨vs, sq⟩, q _ F1 H1 x1 (seqP_sqt sq sh)⟩
    | false =>
      refine .inl (a.sK e1 e' F σ H L _ r fun v F1 H1 x1 ⟨M, o⟩ => ?_)
      obtain ⟨a, vs, rfl, sh, sq⟩ := seqOf_ok x1.s o e2
      exact ⟨a, rfl, ⟨vs, sq⟩, q _ F1 H1 x1 (seqP_sql sq sh)⟩
def guardB {α : Type} (b : Bool) (x : Option α) : Option α := match b with
  | true => x
  | false => none
theorem guardB_some {α : Type} {b : Bool} {x : Option α} {y : α} (h : guardB b x = some y) : b = true /\ x = some y := by
  cases b with
  | true => exact ⟨rfl, h⟩
  | false => cases h
def rngOk (i : Int) : Bool := Nat.ble i.natAbs 1000000000000000000
theorem rngOk_ok {i : Int} (h : rngOk i = true) : -4611686018427387904 <= i /\ i < 4611686018427387904 := by
  have h : i.natAbs <= 1000000000000000000 := Nat.le_of_ble_eq_true h
  omega
def rng1D : List D -> Option (List D)
  | [.int n] => guardB (rngOk n) (some (rangeD 0 n.toNat))
  | _ => none
def rng2D : List D -> Option (List D)
  | [.int m, .int n] => guardB (rngOk m && rngOk n) (some (rangeD m (n - m).toNat))
  | _ => none
theorem rng1_ok {as : XA W} {env : Py.Env} {ds : List D} (e : (as.evV env).bind rng1D = some ds) : AIt W (iRng1 as.t) env ds := by
  obtain ⟨xs, e1, e⟩ := Option.bind_eq_some_iff.mp e
  unfold rng1D at e
  split at e
  · obtain ⟨h, e⟩ := guardB_some e
    cases e
    exact ait_range (as.sV e1) (rngOk_ok h)
  · cases e
theorem rng2_ok {as : XA W} {env : Py.Env} {ds : List D} (e : (as.evV env).bind rng2D = some ds) : AIt W (iRng2 as.t) env ds := by
  obtain ⟨xs, e1, e⟩ := Option.bind_eq_some_iff.mp e
  unfold rng2D at e
  split at e
  · obtain ⟨h, e⟩ := guardB_some e
    cases e
    rw [Bool.and_eq_true] at h
    have h1 := rngOk_ok h.1
    have h2 := rngOk_ok h.2
    exact ait_range2 (as.sV e1) ⟨h1.1, h1.2, h2.1, h2.2⟩
  · cases e
def xiR1 (as : XA W) : XI W := ⟨iRng1 as.t, fun env => (as.evV env).bind rng1D, fun env => (as.evV env).bind rng1D, rng1_ok, fun e => (rng1_ok e).p⟩
def xiR2 (as : XA W) : XI W := ⟨iRng2 as.t, fun env => (as.evV env).bind rng2D, fun env => (as.evV env).bind rng2D, rng2_ok, fun e => (rng2_ok e).p⟩
def xtYes {T : Tbl} (W : Wd T) : XT W := ⟨tYes, fun _ => some true, fun e => by cases e; exact at_yes⟩
def lc1 (g : XG W) (c : XT W) (x : XP W) (env : Py.Env) (d : D) : Option (List D) := (g.ev [] d env).bind fun e2 => (c.ev e2).bind fun b => if b = true then (x.evO e2).map fun y => [y] else some []
def lcL (f : D -> Option (List D)) : List D -> Option (List D)
  | [] => some []
  | d :: ds => (f d).bind fun y => (lcL f ds).map (y ++ ·)
theorem lcL_take {f : D -> Option (List D)} : ∀ {ds ys : List D}, lcL f ds = some ys -> ∃ rs : Nat -> List D, rs 0 = [] /\ rs ds.length = ys /\ (∀ (i : Nat) (d : D), ds[i]? = some d -> ∃ y, f d = some y /\ rs (i + 1) = rs i ++ y)
  | [], _, h => by cases h; exact ⟨fun _ => [], rfl, rfl, fun i d h => by simp at h⟩
  | d :: ds, ys, h => by
    obtain ⟨y, e1, h⟩ := Option.bind_eq_some_iff.mp h
    obtain ⟨zs, e2, rfl⟩ := Option.map_eq_some_iff.mp h
    obtain ⟨rs, r0, r1, r2⟩ := lcL_take e2
    refine ⟨fun i => match i with | 0 => [] | i + 1 => y ++ rs i, rfl, by rw [List.length_cons, <- r1], fun i d' hd => ?_⟩
    cases i with
    | zero =>
      simp at hd; subst hd
      exact ⟨y, e1, by simp [r0]⟩
    | succ i =>
      obtain ⟨z, h1, h2⟩ := r2 i d' (by simpa using hd)
      exact ⟨z, h1, by simp [h2]⟩
theorem lcL_pre {f : D -> Option (List D)} : ∀ {ds : List D} {rs : Nat -> List D}, (∀ d y, f d = some y -> y.length <= 1) -> rs 0 = [] -> (∀ (i : Nat) (d : D), ds[i]? = some d -> ∃ y, f d = some y /\ rs (i + 1) = rs i ++ y) -> ∀ i, i <= ds.length -> (rs i).length <= i
  | ds, rs, hf, r0, r2, 0, _ => by rw [r0]; exact Nat.le_refl _
  | ds, rs, hf, r0, r2, i + 1, h => by
    have ih := lcL_pre hf r0 r2 i (by omega)
    obtain ⟨y, e1, e2⟩ := r2 i ds[i] (List.getElem?_eq_getElem (by omega))
    have := hf _ _ e1
    rw [e2, List.length_append]
    omega
def xLc (it : XI W) (g : XG W) (c : XT W) (x : XP W) : XP W where
  t := tLc it.t g.t c.t x.t g.own
  ev env := (it.evP env).bind fun ds => if ds.length < 1000000 then (lcL (lc1 g c x (wipeE env g.own)) ds).map fun ys => (.fr, .olst ys) else none
  snd := fun {env k d} e => by
    obtain ⟨ds, e1, e⟩ := Option.bind_eq_some_iff.mp e
    split at e
    · rename_i hl
      obtain ⟨ys, e2, e⟩ := Option.map_eq_some_iff.mp e
      cases e
      obtain ⟨rs, r0, r1, r2⟩ := lcL_take e2
      have h1 : ∀ d y, lc1 g c x (wipeE env g.own) d = some y -> y.length <= 1 := fun d y h => by
        obtain ⟨e2, _, h⟩ := Option.bind_eq_some_iff.mp h
        obtain ⟨b, _, h⟩ := Option.bind_eq_some_iff.mp h
        split at h
        · obtain ⟨z, _, rfl⟩ := Option.map_eq_some_iff.mp h; simp
        · cases h; simp
      rw [<- r1]
      refine ae_lc (it.sP e1) (g.gw fun _ m => m) rs r0 (fun i d hd => ?_) fun i hi => ?_
      · obtain ⟨y, h, hr⟩ := r2 i d hd
        obtain ⟨env2, g1, h⟩ := Option.bind_eq_some_iff.mp h
        obtain ⟨b, c1, h⟩ := Option.bind_eq_some_iff.mp h
        intro e0 F σ H L v Q hP r s q
        refine g.snd g1 e0 F σ H L v Q hP r s fun env3 σ2 L2 z r3 => ?_
        subst z
        refine q _ σ2 L2 ⟨b, c.snd c1, fun hb => ?_, fun hb => ?_⟩ r3
        · subst hb
          obtain ⟨z, h8, rfl⟩ := Option.map_eq_some_iff.mp h
          exact ⟨z, x.sO h8, hr⟩
        · subst hb
          cases h
          rw [hr, List.append_nil]
      · have := lcL_pre h1 r0 r2 i hi
        omega
    · cases e
end
end Py
namespace Py
open PySem L2
section
variable {T : Tbl} {W : Wd T} {env : Py.Env} {d d0 d1 d2 : D} {P : List Nat} {E : WX} {A : AEnds}
theorem AS.weaken {t : TS} {A' : AEnds} (h : AS W P E t env A') (nx : ∀ e, A'.nx e -> A.nx e) (rt : ∀ d e, A'.rt d e -> A.rt d e) (bk : ∀ e, A'.bk e -> A.bk e) (ct : ∀ e, A'.ct e -> A.ct e) (ex : ∀ x e, A'.ex x e -> A.ex x e) : AS W P E t env A :=
  fun e F σ H L Dn hP r s => h e F σ H L Dn hP r ⟨fun _ _ _ _ _ a => s.nx _ _ _ _ _ (nx _ a), fun _ _ _ _ _ _ _ _ a => s.rt _ _ _ _ _ _ _ _ (rt _ _ a), fun _ _ _ _ _ a => s.bk _ _ _ _ _ (bk _ a), fun _ _ _ _ _ a => s.ct _ _ _ _ _ (ct _ a), fun _ _ _ _ _ _ _ _ a => s.ex _ _ _ _ _ _ _ _ (ex _ _ a)⟩
inductive RM where
  | ok (d : D) (env : Py.Env) | exn (x : Exn) (env : Py.Env) | no
def AMr {T : Tbl} (W : Wd T) (P : List Nat) (E : WX) (t : TE) (env : Py.Env) (r : RM) : Prop := r ≠ .no ->
  ∀ (e : Ent) (F : Hp) (σ : St) (H : Hp) (L : List Addr) (Q : VK), P = e.pins.map (·.1) -> Rel W e env F σ H L ->
    (∀ d env' v F' H' L' M, r = .ok d env' -> Rel W e env' F' σ H' L' -> Own W F' H' d v M -> (M ++ L').Nodup -> (∀ a ∈ M, F' a = none /\ (a ∈ e.L0 \/ e.H0 a = none)) -> Q v H') ->
    (∀ x env' F' H' L' C dd, r = .exn x env' -> Rel W e env' F' σ H' L' -> IsExn W F' x C dd -> E C dd σ H') -> t σ H Q
structure XM {T : Tbl} (W : Wd T) where
  t : WX -> TE
  ev : List Nat -> Py.Env -> RM
  snd : ∀ P E env, AMr W P E (t E) env (ev P env)
def RM.of (o : Option D) (env : Py.Env) : RM := match o with
  | some d => .ok d env
  | none => .no
theorem RM.of_ok {o : Option D} {env : Py.Env} (h : RM.of o env ≠ .no) : ∃ d, o = some d /\ RM.of o env = .ok d env := by
  cases o with
  | none => exact absurd rfl h
  | some d => exact ⟨d, rfl, rfl⟩
def xmP (p : XP W) : XM W where
  t _ := p.t
  ev _ env := RM.of (p.evO env) env
  snd := fun P E env hn e F σ H L Q hP r c _ => by
    obtain ⟨d, e1, e2⟩ := RM.of_ok hn
    exact p.sO e1 e F σ H L Q r fun v F' H' x ⟨M, o, nd, kk⟩ => c d env v F' H' L M e2 (r.ext x) o (nodup_new (H := H) r.nd nd r.slots.lives fun a m => (kk a m).1) fun a m => ⟨(kk a m).2, r.h0 (kk a m).1⟩
theorem Rel.freeze {e : Ent} {F H : Hp} {σ : St} {L : List Addr} {i : Nat} (r : Rel W e env F σ H L) (h : getS env i = some d) :
    ∃ v F' L', σ[i]? = some (some v) /\ Rel W e (env.set i (some (fz d))) F' σ H L' /\ Shr W F' (fz d) v := by
  obtain ⟨v, Li, Lr, e1, o, sl, nd, mem⟩ := r.slots.take r.nd (getS_some h)
  obtain ⟨F', s1, s2, nw, sh⟩ := Py.freeze r.sF o fun a ha => r.dj a ((mem a).mp (.inl ha))
  rw [List.nodup_append] at nd
  have hi : i < env.length := (List.getElem?_eq_some_iff.mp (getS_some h)).1
  have sl' := sl.frame (F' := F') (H' := H) s1 fun a _ o q => q
  obtain ⟨L', t1, t2, t3⟩ := sl'.put (i := i) (v := v) (Ld := []) (.sh sh) (by simpa using nd.2.1) (by simpa using hi)
  rw [List.set_set] at t1
  have hσ : σ.set i (some v) = σ := by
    apply List.ext_getElem?
    intro k
    by_cases hk : i = k
    · subst hk
      obtain ⟨hlt, _⟩ := List.getElem?_eq_some_iff.mp e1
      rw [List.getElem?_set_self hlt, e1]
    · rw [List.getElem?_set_ne hk]
  rw [hσ] at t1
  have inr : ∀ a ∈ L', a ∈ Lr := fun a ha => (t3 a ha).elim (fun z => nomatch z) id
  refine ⟨v, F', L', e1, ⟨s2, t1, t2, fun a ha => ?_, r.s0.trans s1, fun a o q => ?_, r.fr, fun a ha => r.ln a ((mem a).mp (.inr (inr a ha))), r.pin⟩, sh⟩
  · cases q : F' a with
    | none => rfl
    | some u =>
      rcases nw a u q with z | z
      · rw [r.dj a ((mem a).mp (.inr (inr a ha)))] at z; cases z
      · exact absurd rfl (nd.2.2 a z a (inr a ha))
  · rcases nw a o q with z | z
    · exact r.nw a o z
    · exact .inr ((r.ln a ((mem a).mp (.inl z))).elim .inr .inl)
def frzS (env : Py.Env) (i : Nat) : Py.Env := match getS env i with
  | some d => env.set i (some (fz d))
  | none => env
theorem Rel.frz1 {e : Ent} {F H : Hp} {σ : St} {L : List Addr} (r : Rel W e env F σ H L) (i : Nat) : ∃ F' L', Rel W e (frzS env i) F' σ H L' := by
  unfold frzS
  cases h : getS env i with
  | none => exact ⟨F, L, r⟩
  | some d =>
    obtain ⟨_, F', L', _, r', _⟩ := r.freeze h
    exact ⟨F', L', r'⟩
theorem Rel.frzs {e : Ent} {H : Hp} {σ : St} : ∀ (is : List Nat) (env : Py.Env) (F : Hp) (L : List Addr), Rel W e env F σ H L -> ∃ F' L', Rel W e (is.foldl frzS env) F' σ H L'
  | [], _, _, _, r => ⟨_, _, r⟩
  | i :: is, env, F, L, r => by
    obtain ⟨F', L', r'⟩ := r.frz1 i
    exact Rel.frzs is _ F' L' r'
def xmVar {T : Tbl} (W : Wd T) (i : Nat) : XM W where
  t _ := tVar i
  ev _ env := match getS env i with
    | some d => .ok (fz d) (if isSh d = true then env else env.set i (some (fz d)))
    | none => .no
  snd := fun P E env hn e F σ H L Q hP r c _ => by
    match h : getS env i, hn, c with
    | some d, hn, c =>
      by_cases hs : isSh d = true
      · obtain ⟨v, M, e1, o, _⟩ := slot_get r (getS_some h)
        have sh := o.shr hs
        refine ⟨v, e1, c (fz d) env v F H L [] (by dsimp only; rw [if_pos hs]) r (by rw [fz_isSh hs]; exact .sh sh) (by simpa using r.nd) fun a m => nomatch m⟩
      · obtain ⟨v, F', L', e1, r', sh⟩ := r.freeze h
        exact ⟨v, e1, c (fz d) _ v F' H L' [] (by dsimp only; rw [if_neg hs]) r' (.sh sh) (by simpa using r'.nd) fun a m => nomatch m⟩
def xmMove {T : Tbl} (W : Wd T) (i : Nat) : XM W where
  t _ := tVar i
  ev _ env := match getS env i with
    | some d => .ok d (env.set i none)
    | none => .no
  snd := fun P E env hn e F σ H L Q hP r c _ => by
    match h : getS env i, hn, c with
    | some d, hn, c =>
      obtain ⟨v, Li, Lr, e1, o, sl, nd, mem⟩ := r.slots.take r.nd (getS_some h)
      exact ⟨v, e1, c d _ v F H Lr Li rfl ⟨r.sF, sl, (List.nodup_append.mp nd).2.1, fun a ha => r.dj a ((mem a).mp (.inr ha)), r.s0, r.nw, r.fr, fun a ha => r.ln a ((mem a).mp (.inr ha)), r.pin⟩ o nd fun a ha => ⟨r.dj a ((mem a).mp (.inl ha)), r.ln a ((mem a).mp (.inl ha))⟩⟩
structure XPl {T : Tbl} (W : Wd T) where
  t : TE
  root : Nat
  ev : Py.Env -> Option (List Pst × D)
  at_ : ∀ {env st n}, ev env = some (st, n) -> ∃ d0, env[root]? = some (some d0) /\ d0.at st = some n
  loc : ∀ {env st n}, ev env = some (st, n) -> ALoc W t env root st
def plVar {T : Tbl} (W : Wd T) (i : Nat) : XPl W where
  t := tVar i
  root := i
  ev env := (getS env i).map fun d => ([], d)
  at_ := fun {env st n} e => by
    obtain ⟨d, e1, e2⟩ := Option.map_eq_some_iff.mp e
    cases e2
    exact ⟨_, getS_some e1, rfl⟩
  loc := fun {env st n} e => by
    obtain ⟨d, e1, e2⟩ := Option.map_eq_some_iff.mp e
    cases e2
    exact loc_var
def rOs {T : Tbl} (W : Wd T) (ds : List D) : ResL := fun F H H0 vs => ∃ L, Owns W F H ds vs L /\ L.Nodup /\ ∀ a ∈ L, H0 a = none /\ F a = none
structure XO {T : Tbl} (W : Wd T) where
  t : TA
  ev : Py.Env -> Option (List D)
  snd : ∀ {env ds}, ev env = some ds -> AA W t env (rOs W ds)
def xoNil {T : Tbl} (W : Wd T) : XO W where
  t := tNil
  ev _ := some []
  snd := fun e => by cases e; exact fun e F σ H L Q r q => q [] F H (.refl r.sF) ⟨[], .nil, .nil, fun _ m => nomatch m⟩
def xoCons (a : XP W) (as : XO W) : XO W where
  t := tCons a.t as.t
  ev env := (a.evO env).bind fun x => (as.ev env).map (x :: ·)
  snd := fun {env ds} e => by
    obtain ⟨x, e1, e⟩ := Option.bind_eq_some_iff.mp e
    obtain ⟨xs, e2, rfl⟩ := Option.map_eq_some_iff.mp e
    intro e F σ H L Q r q
    refine a.sO e1 e F σ H L _ r fun v F1 H1 x1 ⟨M1, o1, n1, k1⟩ => as.snd e2 e F1 σ H1 L _ (r.ext x1) fun vs F2 H2 x2 ⟨M2, o2, n2, k2⟩ => ?_
    have nn : ∀ a ∈ M1, F2 a = none := fun a ha => by
      obtain ⟨u, hu⟩ := o1.lives a ha
      cases z : F2 a with
      | none => rfl
      | some w =>
        rcases x2.n a w z with y | y
        · rw [(k1 a ha).2] at y; cases y
        · rw [hu] at y; cases y
    refine q _ F2 H2 (x1.trans x2) ⟨M1 ++ M2, .cons (o1.frame x2.f fun a _ o q => x2.h _ _ q) o2, ?_, fun a ha => ?_⟩
    · rw [List.nodup_append]
      refine ⟨n1, n2, fun a ha b hb z => ?_⟩
      subst z
      obtain ⟨u, hu⟩ := o1.lives a ha
      rw [(k2 a hb).1] at hu; cases hu
    · rcases List.mem_append.mp ha with z | z
      · exact ⟨(k1 a z).1, nn a z⟩
      · exact ⟨x1.h.free (k2 a z).1, (k2 a z).2⟩
def Mop {T : Tbl} (W : Wd T) (r : V -> List V -> Hp -> VK -> Prop) (f : D -> List D -> Option (D × D)) : Prop :=
  ∀ {n : D} {ds : List D} {n' d : D}, f n ds = some (n', d) -> ∀ (F H : Hp) (vn : V) (Ln : List Addr) (vs : List V) (Ms : List Addr) (Q : VK), Same F H -> Own W F H n vn Ln -> Owns W F H ds vs Ms -> (Ms ++ Ln).Nodup -> (∀ a ∈ Ms ++ Ln, F a = none) ->
    (∀ F' H' v' Ln' M', Same F F' -> Same F' H' -> (∀ a o, a ∉ Ln -> H a = some o -> H' a = some o) -> (∀ a o, F' a = some o -> F a = some o \/ H a = none) -> Own W F' H' n' vn Ln' -> Own W F' H' d v' M' -> (M' ++ Ln').Nodup ->
      (∀ a ∈ M' ++ Ln', F' a = none /\ (a ∈ Ln \/ a ∈ Ms \/ H a = none)) -> Q v' H') -> r vn vs H Q
theorem am_mop {r : V -> List V -> Hp -> VK -> Prop} {f : D -> List D -> Option (D × D)} (hf : Mop W r f) {e : Ent} {F H : Hp} {σ : St} {L : List Addr} {i : Nat} {st : List Pst} {n n' d d0 : D} {v0 vn : V} {vs : List V} {ds : List D} {Ms : List Addr} {Q : VK}
    (rl : Rel W e env F σ H L) (h0 : env[i]? = some (some d0)) (h1 : d0.at st = some n) (hs : σ[i]? = some (some v0)) (hp : VPath H v0 st vn) (hz : f n ds = some (n', d)) (os : Owns W F H ds vs Ms) (nM : Ms.Nodup) (kM : ∀ a ∈ Ms, a ∉ L /\ F a = none /\ (a ∈ e.L0 \/ e.H0 a = none))
    (c : ∀ v F' H' L' M, Rel W e (env.set i (some (d0.putAt st n'))) F' σ H' L' -> Own W F' H' d v M -> (M ++ L').Nodup -> (∀ a ∈ M, F' a = none /\ (a ∈ e.L0 \/ e.H0 a = none)) -> Q v H') : r vn vs H Q := by
  obtain ⟨v0', vn', Ln, Lr, e1, p2, o, nd, mem, put⟩ := rl.focus h0 h1
  rw [hs] at e1; cases e1
  cases hp.det p2
  rw [List.nodup_append] at nd
  obtain ⟨n1, n2, n3⟩ := nd
  refine hf hz F H vn Ln vs Ms Q rl.sF o os ?_ (fun a ha => ?_) fun F' H' v' Ln' M' s1 s2 fr nw on od nd' k' => ?_
  · rw [List.nodup_append]
    exact ⟨nM, n1, fun a ha b hb z => (kM a ha).1 ((mem a).mp (.inl (z ▸ hb)))⟩
  · rcases List.mem_append.mp ha with z | z
    · exact (kM a z).2.1
    · exact rl.dj a ((mem a).mp (.inl z))
  have org : ∀ a, (a ∈ Ln \/ a ∈ Ms \/ H a = none) -> a ∉ Lr /\ (a ∈ e.L0 \/ e.H0 a = none) := fun a h => by
    rcases h with z | z | z
    · exact ⟨fun y => n3 a z a y rfl, rl.ln a ((mem a).mp (.inl z))⟩
    · exact ⟨fun y => (kM a z).1 ((mem a).mp (.inr y)), (kM a z).2.2⟩
    · refine ⟨fun y => ?_, rl.h0 z⟩
      obtain ⟨o, ho⟩ := rl.slots.lives a ((mem a).mp (.inr y))
      rw [z] at ho; cases ho
  rw [List.nodup_append] at nd'
  obtain ⟨m1, m2, m3⟩ := nd'
  obtain ⟨L', r', inL⟩ := put F' H' n' Ln' s1 s2 fr (fun a o q => (nw a o q).elim .inl fun z => .inr (.inl (.inl z))) on (by
    rw [List.nodup_append]
    exact ⟨m2, n2, fun a ha b hb z => (org a (k' a (List.mem_append_right _ ha)).2).1 (z ▸ hb)⟩) (fun a ha => ⟨(k' a (List.mem_append_right _ ha)).1, .inr (org a (k' a (List.mem_append_right _ ha)).2).2⟩)
  refine c v' F' H' L' M' r' od ?_ fun a ha => ⟨(k' a (List.mem_append_left _ ha)).1, (org a (k' a (List.mem_append_left _ ha)).2).2⟩
  rw [List.nodup_append]
  refine ⟨m1, r'.nd, fun a ha b hb z => ?_⟩
  subst z
  rcases inL a hb with y | y
  · exact m3 a ha a y rfl
  · exact (org a (k' a (List.mem_append_left _ ha)).2).1 y
end
end Py
namespace Py
open PySem L2
section
variable {T : Tbl} {W : Wd T} {env : Py.Env} {d d0 d1 d2 : D} {P : List Nat} {E : WX} {A : AEnds}
theorem Owns.append {F H : Hp} : ∀ {xs ys : List D} {vs ws : List V} {L M : List Addr}, Owns W F H xs vs L -> Owns W F H ys ws M -> Owns W F H (xs ++ ys) (vs ++ ws) (L ++ M)
  | _, _, _, _, _, _, .nil, o => o
  | _, _, _, _, _, M, .cons (L := L1) (M := M1) h t, o => by
    have q := Owns.cons h (t.append o)
    rw [<- List.append_assoc] at q
    exact q
theorem Owns.one {F H : Hp} {x : D} {vs : List V} {L : List Addr} (h : Owns W F H [x] vs L) : ∃ v, vs = [v] /\ Own W F H x v L := by
  cases h with
  | cons a b => cases b; rw [List.append_nil]; exact ⟨_, rfl, a⟩
theorem Owns.two {F H : Hp} {x y : D} {vs : List V} {L : List Addr} (h : Owns W F H [x, y] vs L) : ∃ v w L1 L2, vs = [v, w] /\ Own W F H x v L1 /\ Own W F H y w L2 /\ L = L1 ++ L2 := by
  cases h with
  | cons a b =>
    obtain ⟨w, rfl, c⟩ := b.one
    exact ⟨_, _, _, _, rfl, a, c, rfl⟩
theorem own_upd {F H : Hp} {a : Addr} {o : HO} {L : List Addr} {v : V} (h : Own W F H d v L) (n : a ∉ L) : Own W F (upd H a o) d v L := h.frame (Same.refl _) fun b hb u hu => by
  rw [upd_ne (fun z => n (by rw [<- z]; exact hb))]; exact hu
theorem owns_upd {F H : Hp} {a : Addr} {o : HO} {L : List Addr} {ds : List D} {vs : List V} (h : Owns W F H ds vs L) (n : a ∉ L) : Owns W F (upd H a o) ds vs L := h.frame (Same.refl _) fun b hb u hu => by
  rw [upd_ne (fun z => n (by rw [<- z]; exact hb))]; exact hu
theorem same_upd {F H : Hp} {a : Addr} {o : HO} (s : Same F H) (n : F a = none) : Same F (upd H a o) := fun b u hb => by
  rw [upd_ne (fun z => by rw [z, n] at hb; cases hb)]; exact s _ _ hb
theorem mop_list {F H : Hp} {a : Addr} {L : List Addr} {Ms : List Addr} {ys : List D} {ws : List V} {o : HO} {M' L2 : List Addr} {v' : V} {Q : VK} (s : Same F H) (nd : (Ms ++ (a :: L)).Nodup) (kF : ∀ b ∈ Ms ++ (a :: L), F b = none)
    (hl : o = .lst ws) (hs : Owns W F H ys ws L2) (od : Own W F H d v' M') (n2 : (M' ++ L2).Nodup) (sub : ∀ b ∈ M' ++ L2, b ∈ L \/ b ∈ Ms)
    (q : ∀ F' H' v' Ln' M', Same F F' -> Same F' H' -> (∀ b o, b ∉ a :: L -> H b = some o -> H' b = some o) -> (∀ b o, F' b = some o -> F b = some o \/ H b = none) -> Own W F' H' (.olst ys) (.ref a) Ln' -> Own W F' H' d v' M' -> (M' ++ Ln').Nodup ->
      (∀ b ∈ M' ++ Ln', F' b = none /\ (b ∈ a :: L \/ b ∈ Ms \/ H b = none)) -> Q v' H') : Q v' (upd H a o) := by
  subst hl
  rw [List.nodup_append] at nd
  obtain ⟨n3, n4, n5⟩ := nd
  rw [List.nodup_cons] at n4
  have na : ∀ b ∈ M' ++ L2, b ≠ a := fun b hb z => by
    subst z
    rcases sub _ hb with y | y
    · exact n4.1 y
    · exact n5 _ y _ (List.mem_cons_self ..) rfl
  have Fa : F a = none := kF a (List.mem_append_right _ (List.mem_cons_self ..))
  refine q F (upd H a (.lst ws)) v' (a :: L2) M' (Same.refl _) (same_upd s Fa) (fun b u hb hu => ?_) (fun b u hu => .inl hu) (.olst upd_same (owns_upd hs fun z => na a (List.mem_append_right _ z) rfl)) (own_upd od fun z => na a (List.mem_append_left _ z) rfl) ?_ (fun b hb => ?_)
  · rw [upd_ne (fun z => hb (by rw [z]; exact List.mem_cons_self ..))]; exact hu
  · rw [List.nodup_append] at n2 ⊢
    refine ⟨n2.1, List.nodup_cons.mpr ⟨fun z => na a (List.mem_append_right _ z) rfl, n2.2.1⟩, fun b hb c hc => ?_⟩
    rcases List.mem_cons.mp hc with z | z
    · rw [z]; exact na b (List.mem_append_left _ hb)
    · exact n2.2.2 b hb c z
  · rcases List.mem_append.mp hb with z | z
    · have := sub b (List.mem_append_left _ z)
      refine ⟨kF b ?_, ?_⟩
      · rcases this with y | y
        · exact List.mem_append_right _ (List.mem_cons_of_mem _ y)
        · exact List.mem_append_left _ y
      · rcases this with y | y
        · exact .inl (List.mem_cons_of_mem _ y)
        · exact .inr (.inl y)
    · rcases List.mem_cons.mp z with z | z
      · subst z; exact ⟨Fa, .inl (List.mem_cons_self ..)⟩
      · have := sub b (List.mem_append_right _ z)
        refine ⟨kF b ?_, ?_⟩
        · rcases this with y | y
          · exact List.mem_append_right _ (List.mem_cons_of_mem _ y)
          · exact List.mem_append_left _ y
        · rcases this with y | y
          · exact .inl (List.mem_cons_of_mem _ y)
          · exact .inr (.inl y)
theorem nd_swap {L M : List Addr} (h : (M ++ L).Nodup) : (L ++ M).Nodup := by
  rw [List.nodup_append] at h ⊢
  exact ⟨h.2.1, h.1, fun a ha b hb z => h.2.2 b hb a ha z.symm⟩
theorem nd_tail {a : Addr} {L M : List Addr} (h : (M ++ (a :: L)).Nodup) : (M ++ L).Nodup := by
  rw [List.nodup_append] at h ⊢
  exact ⟨h.1, (List.nodup_cons.mp h.2.1).2, fun b hb c hc => h.2.2 b hb c (List.mem_cons_of_mem _ hc)⟩
def appendD : D -> List D -> Option (D × D)
  | .olst xs, [d] => if xs.length < 1000000 then some (.olst (xs ++ [d]), .non) else none
  | _, _ => none
theorem mop_append : Mop W rAppend appendD := by
  intro n ds n' d hf F H vn Ln vs Ms Q s o os nd kF q
  unfold appendD at hf
  split at hf
  · obtain ⟨hz, e⟩ := ite_some hf
    cases e
    obtain ⟨u, rfl, o2⟩ := os.one
    cases o with
    | sh y => cases y
    | @olst a xs vs L ha hs =>
      refine ⟨a, vs, u, rfl, rfl, ha, by rw [<- hs.length]; exact Nat.lt_of_lt_of_le hz (by decide), ?_⟩
      exact mop_list s nd kF rfl (hs.append (.cons o2 .nil)) (.sh .non) (by simpa using nd_swap (nd_tail nd)) (fun b hb => by simpa using hb) q
  · cases hf
theorem Shrs.reverse {F : Hp} : ∀ {ds : List D} {vs : List V}, Shrs W F ds vs -> Shrs W F ds.reverse vs.reverse
  | _, _, .nil => .nil
  | _, _, .cons h t => by rw [List.reverse_cons, List.reverse_cons]; exact t.reverse.append (.cons h .nil)
theorem Shrs.take {F : Hp} : ∀ {ds : List D} {vs : List V} (k : Nat), Shrs W F ds vs -> Shrs W F (ds.take k) (vs.take k)
  | _, _, 0, _ => .nil
  | _, _, k + 1, .nil => .nil
  | _, _, k + 1, .cons h t => .cons h (t.take k)
theorem Shrs.drop {F : Hp} : ∀ {ds : List D} {vs : List V} (k : Nat), Shrs W F ds vs -> Shrs W F (ds.drop k) (vs.drop k)
  | _, _, 0, h => h
  | _, _, k + 1, .nil => .nil
  | _, _, k + 1, .cons h t => t.drop k
def RM.ofO : Option (D × Py.Env) -> RM
  | some (d, env) => .ok d env
  | none => .no
theorem RM.ofO_ok {o : Option (D × Py.Env)} (h : RM.ofO o ≠ .no) : ∃ d env, o = some (d, env) := by
  match o, h with
  | some (d, env), _ => exact ⟨d, env, rfl⟩
  | none, h => exact absurd rfl h
def xmBM (r : V -> List V -> Hp -> VK -> Prop) (f : D -> List D -> Option (D × D)) (hf : Mop W r f) (hl : ∀ {n ds z}, f n ds = some z -> ∃ xs, n = .olst xs) (p : XPl W) (as : XO W) : XM W where
  t _ := tBM W.K "list" r p.t as.t
  ev _ env := RM.ofO ((p.ev env).bind fun q => (as.ev env).bind fun ds => (f q.2 ds).bind fun z => (getS env p.root).map fun d0 => (z.2, env.set p.root (some (d0.putAt q.1 z.1))))
  snd := fun P E env hn e F σ H L Q hP r c _ => by
    obtain ⟨d, env', h⟩ := RM.ofO_ok hn
    rw [h] at c
    obtain ⟨⟨st, n⟩, e1, h⟩ := Option.bind_eq_some_iff.mp h
    obtain ⟨ds, e2, h⟩ := Option.bind_eq_some_iff.mp h
    obtain ⟨⟨n', d'⟩, e3, h⟩ := Option.bind_eq_some_iff.mp h
    obtain ⟨d0', e4, h⟩ := Option.map_eq_some_iff.mp h
    cases h
    obtain ⟨d0, h0, h1⟩ := p.at_ e1
    rw [getS_some e4] at h0
    cases h0
    obtain ⟨v0, _, _, _, hs, _⟩ := r.focus (getS_some e4) h1
    refine p.loc e1 e F σ H L v0 _ r hs fun v F1 H1 x1 p1 => ?_
    have r1 := r.ext x1
    refine ⟨?_, as.snd e2 e F1 σ H1 L _ r1 fun vs F2 H2 x2 ⟨M2, o2, nd2, k2⟩ => ?_⟩
    · obtain ⟨v0', vn, Ln, Lr, e5, p2, o, _⟩ := r1.focus (getS_some e4) h1
      rw [hs] at e5; cases e5
      cases p1.det p2
      obtain ⟨xs, rfl⟩ := hl e3
      cases o with
      | sh y => cases y
      | olst ha _ => exact .inl ⟨rfl, _, .of ha⟩
    · refine am_mop hf (r1.ext x2) (getS_some e4) h1 hs (p1.mono x2.h) e3 o2 nd2 (fun a ha => ⟨fun z => ?_, (k2 a ha).2, r1.h0 (k2 a ha).1⟩) fun v F' H' L' M r' o nd kk => c _ _ v F' H' L' M rfl r' o nd kk
      obtain ⟨w, hw⟩ := r1.slots.lives a z
      rw [(k2 a ha).1] at hw; cases hw
theorem lf_append {n : D} {ds : List D} {z : D × D} (h : appendD n ds = some z) : ∃ xs, n = .olst xs := by unfold appendD at h; split at h <;> first | exact ⟨_, rfl⟩ | cases h
def xmAppend (p : XPl W) (a : XP W) : XM W := xmBM rAppend appendD mop_append lf_append p (xoCons a (xoNil W))
end
end Py
namespace Py
open PySem L2
inductive RS where
  | nx (env : Py.Env) | rt (d : D) (env : Py.Env) | bk (env : Py.Env) | ct (env : Py.Env) | ex (x : Exn) (env : Py.Env) | no
def ends (r : RS) : AEnds where
  nx e := r = .nx e
  rt d e := r = .rt d e
  bk e := r = .bk e
  ct e := r = .ct e
  ex x e := r = .ex x e
section
variable {T : Tbl} {W : Wd T} {env : Py.Env} {d d0 d1 d2 : D} {P : List Nat} {E : WX} {A : AEnds}
structure XS {T : Tbl} (W : Wd T) where
  t : WX -> TS
  ev : List Nat -> Py.Env -> RS
  snd : ∀ P E env, ev P env ≠ .no -> AS W P E (t E) env (ends (ev P env))
def RS.then (r : RS) (f : Py.Env -> RS) : RS := match r with
  | .nx e => f e
  | r => r
def xsSeq (s u : XS W) : XS W where
  t E := tSeq (s.t E) (u.t E)
  ev P env := (s.ev P env).then fun e => u.ev P e
  snd := fun P E env hn => by
    have hs := s.snd P E env
    match h : s.ev P env, hn, hs with
    | .nx e1, hn, hs =>
      refine as_seq ((hs (by simp)).weaken (fun e h2 => ?_) (fun d e h2 => nomatch h2) (fun e h2 => nomatch h2) (fun e h2 => nomatch h2) fun x e h2 => nomatch h2)
      cases h2
      exact u.snd P E e1 hn
    | .rt d e1, hn, hs => exact as_seq ((hs (by simp)).weaken (fun e h2 => nomatch h2) (fun d e h2 => h2) (fun e h2 => nomatch h2) (fun e h2 => nomatch h2) fun x e h2 => nomatch h2)
    | .bk e1, hn, hs => exact as_seq ((hs (by simp)).weaken (fun e h2 => nomatch h2) (fun d e h2 => nomatch h2) (fun e h2 => h2) (fun e h2 => nomatch h2) fun x e h2 => nomatch h2)
    | .ct e1, hn, hs => exact as_seq ((hs (by simp)).weaken (fun e h2 => nomatch h2) (fun d e h2 => nomatch h2) (fun e h2 => nomatch h2) (fun e h2 => h2) fun x e h2 => nomatch h2)
    | .ex x e1, hn, hs => exact as_seq ((hs (by simp)).weaken (fun e h2 => nomatch h2) (fun d e h2 => nomatch h2) (fun e h2 => nomatch h2) (fun e h2 => nomatch h2) fun x e h2 => h2)
    | .no, hn, hs => exact absurd rfl hn
def xsNext {T : Tbl} (W : Wd T) : XS W := ⟨fun _ => tNext, fun _ env => .nx env, fun _ _ _ _ => as_next rfl⟩
def RM.thenS (r : RM) (f : D -> Py.Env -> RS) : RS := match r with
  | .ok d e => f d e
  | .exn x e => .ex x e
  | .no => .no
theorem AMr.run {t : TE} {r : RM} (h : AMr W P E t env r) (hn : r ≠ .no) {e : Ent} {F H : Hp} {σ : St} {L : List Addr} {Q : VK} {Dn : Ends} (hP : P = e.pins.map (·.1)) (rl : Rel W e env F σ H L) (s : Sat W e E A Dn) (hx : ∀ x e1, r = .exn x e1 -> A.ex x e1)
    (c : ∀ d env' v F' H' L' M, r = .ok d env' -> Rel W e env' F' σ H' L' -> Own W F' H' d v M -> (M ++ L').Nodup -> (∀ a ∈ M, F' a = none /\ (a ∈ e.L0 \/ e.H0 a = none)) -> Q v H') : t σ H Q :=
  h hn e F σ H L Q hP rl c fun x env' F' H' L' C dd hr r' ie => s.ex x env' F' σ H' L' C dd (hx _ _ hr) r' ie
def RS.ofO : Option Py.Env -> RS
  | some e => .nx e
  | none => .no
def xsAsg (i : Nat) (m : XM W) : XS W where
  t E := tAsg (m.t E) (gName i)
  ev P env := (m.ev P env).thenS fun d e => RS.ofO (setS P i d e)
  snd := fun P E env hn e F σ H L Dn hP r s => by
    have hm : m.ev P env ≠ .no := fun z => hn (by rw [z]; rfl)
    refine (m.snd P E env).run hm hP r s (fun x e1 h => by rw [h]; rfl) fun d env' v F' H' L' M h r' o nd kk => ?_
    rw [h] at hn s
    have hn : RS.ofO (setS P i d env') ≠ .no := hn
    cases h2 : setS P i d env' with
    | none => rw [h2] at hn; exact absurd rfl hn
    | some e2 =>
      obtain ⟨⟨h3, h4⟩, rfl⟩ := ite_some h2
      obtain ⟨L2, r2⟩ := r'.set (i := i) o nd kk h3 fun p hm z => h4 (by rw [hP]; exact List.mem_map.mpr ⟨p, hm, z⟩)
      exact s.nx _ _ _ _ _ (show RS.ofO (setS P i d env') = .nx _ by rw [h2]; rfl) r2
theorem Rel.frzTmp {e : Ent} {F H : Hp} {σ : St} {L M : List Addr} {v : V} (r : Rel W e env F σ H L) (o : Own W F H d v M) (nd : (M ++ L).Nodup) (k : ∀ a ∈ M, F a = none /\ (a ∈ e.L0 \/ e.H0 a = none)) :
    ∃ F', Rel W e env F' σ H L /\ Shr W F' (fz d) v /\ Same F F' := by
  obtain ⟨F', s1, s2, nw, sh⟩ := Py.freeze r.sF o fun a ha => (k a ha).1
  refine ⟨F', ⟨s2, r.slots.frame s1 fun a _ o q => q, r.nd, fun a ha => ?_, r.s0.trans s1, fun a o q => ?_, r.fr, r.ln, r.pin⟩, sh, s1⟩
  · cases q : F' a with
    | none => rfl
    | some u =>
      rcases nw a u q with z | z
      · rw [r.dj a ha] at z; cases z
      · exact absurd rfl ((List.nodup_append.mp nd).2.2 a z a ha)
  · rcases nw a o q with z | z
    · exact r.nw a o z
    · exact .inr ((k a z).2.elim .inr .inl)
def xsExpr (m : XM W) : XS W where
  t E := tDrop (m.t E)
  ev P env := (m.ev P env).thenS fun _ e => .nx e
  snd := fun P E env hn e F σ H L Dn hP r s => by
    have hm : m.ev P env ≠ .no := fun z => hn (by rw [z]; rfl)
    refine (m.snd P E env).run hm hP r s (fun x e1 h => by rw [h]; rfl) fun d env' v F' H' L' M h r' o nd kk => ?_
    rw [h] at s
    exact s.nx _ _ _ _ _ rfl r'
def xsRet (m : XM W) : XS W where
  t E := tRet (m.t E)
  ev P env := (m.ev P env).thenS fun d e => .rt d e
  snd := fun P E env hn e F σ H L Dn hP r s => by
    have hm : m.ev P env ≠ .no := fun z => hn (by rw [z]; rfl)
    refine (m.snd P E env).run hm hP r s (fun x e1 h => by rw [h]; rfl) fun d env' v F' H' L' M h r' o nd kk => ?_
    rw [h] at s
    exact s.rt _ _ _ _ _ _ _ _ rfl r' o nd kk
def iteR (b : Option Bool) (s u : RS) : RS := match b with
  | some true => s
  | some false => u
  | none => .no
def xsIf (c : XT W) (s u : XS W) : XS W where
  t E := tIfS c.t (s.t E) (u.t E)
  ev P env := iteR (c.ev env) (s.ev P env) (u.ev P env)
  snd := fun P E env hn => by
    match h : c.ev env, hn with
    | some true, hn => exact as_if (c.snd h) (fun _ => s.snd P E env hn) fun z => nomatch z
    | some false, hn => exact as_if (c.snd h) (fun z => nomatch z) fun _ => u.snd P E env hn
    | none, hn => exact absurd rfl hn
def xsFrz (is : List Nat) (s : XS W) : XS W where
  t := s.t
  ev P env := s.ev P (is.foldl frzS env)
  snd := fun P E env hn e F σ H L Dn hP r h => by
    obtain ⟨F', L', r'⟩ := Rel.frzs is env F L r
    exact s.snd P E _ hn e F' σ H L' Dn hP r' h
def forL (f : D -> Py.Env -> RS) : List D -> Py.Env -> RS
  | [], env => .nx env
  | d :: ds, env => match f d env with
    | .nx e => forL f ds e
    | .ct e => forL f ds e
    | .bk e => .nx e
    | r => r
def xsFor (it : XI W) (g : XG W) (b : XS W) : XS W where
  t E := tFor it.t g.t (b.t E)
  ev P env := match it.evF env with
    | some ds => forL (fun d e => match g.ev P d e with | some e2 => b.ev P e2 | none => .no) ds env
    | none => .no
  snd := fun P E env hn => by
    match h : it.evF env, hn with
    | some ds, hn =>
      have hn : forL (fun d e => match g.ev P d e with | some e2 => b.ev P e2 | none => .no) ds env ≠ .no := hn
      show AS W P E _ env (ends (forL (fun d e => match g.ev P d e with | some e2 => b.ev P e2 | none => .no) ds env))
      generalize hr : forL (fun d e => match g.ev P d e with | some e2 => b.ev P e2 | none => .no) ds env = r at hn ⊢
      refine as_for (it.sF h) (fun i e => forL (fun d e => match g.ev P d e with | some e2 => b.ev P e2 | none => .no) (ds.drop i) e = r) (by rw [List.drop_zero]; exact hr) (fun i d e' hd hi => ?_) fun e' he => ?_
      · rw [List.drop_eq_getElem?_toList_append, hd] at hi
        have hi : forL (fun d e => match g.ev P d e with | some e2 => b.ev P e2 | none => .no) (d :: ds.drop (i + 1)) e' = r := hi
        unfold forL at hi
        cases h1 : g.ev P d e' with
        | none => rw [h1] at hi; exact absurd hi.symm hn
        | some e2 =>
          rw [h1] at hi
          intro e0 F σ H L v Q hP rl sh q
          refine g.snd h1 e0 F σ H L v Q hP rl sh fun env3 σ2 L2 z r3 => q env3 σ2 L2 ?_ r3
          subst z
          have hb := b.snd P E env3
          dsimp only at hi
          match h2 : b.ev P env3, hb, hi with
          | .nx e3, hb, hi => exact (hb (by simp)).weaken (fun e h => by cases h; exact hi) (fun d e h => nomatch h) (fun e h => nomatch h) (fun e h => nomatch h) fun x e h => nomatch h
          | .ct e3, hb, hi => exact (hb (by simp)).weaken (fun e h => nomatch h) (fun d e h => nomatch h) (fun e h => nomatch h) (fun e h => by cases h; exact hi) fun x e h => nomatch h
          | .bk e3, hb, hi => exact (hb (by simp)).weaken (fun e h => nomatch h) (fun d e h => nomatch h) (fun e h => by cases h; exact hi.symm) (fun e h => nomatch h) fun x e h => nomatch h
          | .rt d3 e3, hb, hi => exact (hb (by simp)).weaken (fun e h => nomatch h) (fun d e h => by cases h; exact hi.symm) (fun e h => nomatch h) (fun e h => nomatch h) fun x e h => nomatch h
          | .ex x3 e3, hb, hi => exact (hb (by simp)).weaken (fun e h => nomatch h) (fun d e h => nomatch h) (fun e h => nomatch h) (fun e h => nomatch h) fun x e h => by cases h; exact hi.symm
          | .no, hb, hi => exact absurd hi.symm hn
      · rw [List.drop_length] at he
        exact he.symm
    | none, hn => exact absurd rfl hn
def env0 (N : Nat) (args : List D) : Py.Env := args.map some ++ List.replicate (N - args.length) none
def bGet (b : Option Nat) (env : Py.Env) : Option (Option D) := match b with
  | none => some none
  | some i => (getS env i).map some
def runR (b : Option Nat) (r : RS) : Rz := match r with
  | .rt d env => match bGet b env with
    | some x => .ok d x
    | none => .no
  | .nx env => match bGet b env with
    | some x => .ok .non x
    | none => .no
  | .ex x env => match bGet b env with
    | some y => .exn x y
    | none => .no
  | _ => .no
def runFn (N : Nat) (s : XS W) (args : List D) (b : Option Nat) : Rz := runR b (s.ev b.toList (env0 N args))
theorem slots_startO {F H : Hp} : ∀ {ds : List D} {vs : List V} {L : List Addr} (k : Nat), Owns W F H ds vs L -> Slots W F H (ds.map some ++ List.replicate k none) (vs.map some ++ List.replicate k none) L
  | [], [], _, 0, .nil => .nil
  | [], [], _, k + 1, .nil => .no (slots_startO k .nil)
  | _ :: _, _ :: _, _, k, .cons h t => Slots.so h (slots_startO k t)
theorem fn_run {n : Nat} {N : List Str} {s : XS W} {b : Option Nat} (hb : ∀ i, b = some i -> i < n) {vs : List V} {H : Hp} {Q : VK} {E : XK} (hsp : spR W n (runFn N.length s) b vs H Q E) :
    s.t (fun c d _ H => E c d H) { nx := fun _ H' => Q .non H', rt := Q } (L2.start N vs) H := by
  obtain ⟨F, args, L0, sF, os, nd, kF, hl, hn, ok, exn⟩ := hsp
  have hlen : vs.length = args.length := os.length.symm
  obtain ⟨pins, hp1, hp2⟩ : ∃ pins : List (Nat × V), b.toList = pins.map (·.1) /\ ∀ p ∈ pins, vs[p.1]? = some p.2 := by
    cases b with
    | none => exact ⟨[], rfl, fun _ h => nomatch h⟩
    | some i =>
      have hi : i < vs.length := by have := hb i rfl; omega
      exact ⟨[(i, vs[i])], rfl, fun p h => by rw [List.mem_singleton.mp h]; exact List.getElem?_eq_getElem hi⟩
  have hr : Rel W ⟨F, H, L0, pins⟩ (env0 N.length args) F (L2.start N vs) H L0 := {
    sF := sF
    slots := by unfold L2.start env0; rw [hlen]; exact slots_startO _ os
    nd := nd
    dj := kF
    s0 := Same.refl _
    nw := fun _ _ h => .inl h
    fr := fun _ _ _ h => h
    ln := fun _ m => .inl m
    pin := fun p m => by
      have h := hp2 p m
      have hlt := (List.getElem?_eq_some_iff.mp h).1
      unfold L2.start
      rw [List.getElem?_append_left (by rw [List.length_map]; exact hlt), List.getElem?_map, h]; rfl }
  have hne : s.ev b.toList (env0 N.length args) ≠ .no := fun z => hn (by unfold runFn; rw [z]; rfl)
  have post : ∀ {env' : Py.Env} {F' : Hp} {σ' : St} {H' : Hp} {L' : List Addr}, Rel W ⟨F, H, L0, pins⟩ env' F' σ' H' L' -> Post F H L0 F' H' := fun r =>
    ⟨r.s0, r.sF, r.fr, r.nw⟩
  have bor : ∀ {env' : Py.Env} {F' : Hp} {σ' : St} {H' : Hp} {L' : List Addr} {x : Option D}, bGet b env' = some x -> Rel W ⟨F, H, L0, pins⟩ env' F' σ' H' L' -> ∃ Mb, bOwn W F' H' vs b x Mb /\ Mb.Nodup /\ ∀ a ∈ Mb, a ∈ L' := by
    intro env' F' σ' H' L' x hx r
    cases b with
    | none => exact ⟨[], by cases hx; rfl, .nil, fun _ h => nomatch h⟩
    | some i =>
      obtain ⟨d, e1, e2⟩ := Option.map_eq_some_iff.mp hx
      subst e2
      obtain ⟨v, Li, Lr, h1, o, _, nd', mem⟩ := r.slots.take r.nd (getS_some e1)
      obtain ⟨v', hm⟩ : ∃ v', (i, v') ∈ pins := by
        have : i ∈ pins.map (·.1) := by rw [<- hp1]; simp
        obtain ⟨⟨j, v'⟩, h2, h3⟩ := List.mem_map.mp this
        cases h3; exact ⟨v', h2⟩
      have h4 := r.pin _ hm
      rw [h1] at h4
      cases h4
      exact ⟨Li, ⟨_, hp2 _ hm, o⟩, (List.nodup_append.mp nd').1, fun a h => (mem a).mp (.inl h)⟩
  have run := s.snd b.toList (fun c d _ H => E c d H) (env0 N.length args) hne ⟨F, H, L0, pins⟩ F (L2.start N vs) H L0 { nx := fun _ H' => Q .non H', rt := Q } hp1 hr
  have hn' : runR b (s.ev b.toList (env0 N.length args)) ≠ .no := hn
  have ok' : ∀ d bd, runR b (s.ev b.toList (env0 N.length args)) = .ok d bd -> _ := ok
  have exn' : ∀ x bd, runR b (s.ev b.toList (env0 N.length args)) = .exn x bd -> _ := exn
  generalize s.ev b.toList (env0 N.length args) = res at run hn' ok' exn'
  refine run ⟨fun env' F' σ' H' L' a r => ?_, fun d env' F' σ' H' L' v M a r o nd2 kk => ?_, fun env' F' σ' H' L' a r => ?_, fun env' F' σ' H' L' a r => ?_, fun x env' F' σ' H' L' C dd a r ie => ?_⟩
  · cases a
    cases hbg : bGet b env' with
    | none => exact absurd (show runR b (.nx env') = .no by unfold runR; simp only [hbg]) hn'
    | some x =>
      obtain ⟨Mb, ob, nb, sb⟩ := bor hbg r
      exact ok' .non x (by unfold runR; simp only [hbg]) F' H' .non [] Mb (post r) (.sh .non) ob (by simpa using nb) fun a ha => ⟨r.dj a (sb a (by simpa using ha)), r.ln a (sb a (by simpa using ha))⟩
  · cases a
    cases hbg : bGet b env' with
    | none => exact absurd (show runR b (.rt d env') = .no by unfold runR; simp only [hbg]) hn'
    | some x =>
      obtain ⟨Mb, ob, nb, sb⟩ := bor hbg r
      rw [List.nodup_append] at nd2
      refine ok' d x (by unfold runR; simp only [hbg]) F' H' v M Mb (post r) o ob ?_ fun a ha => ?_
      · rw [List.nodup_append]
        exact ⟨nd2.1, nb, fun a ha c hc => nd2.2.2 a ha c (sb c hc)⟩
      · rcases List.mem_append.mp ha with z | z
        · exact kk a z
        · exact ⟨r.dj a (sb a z), r.ln a (sb a z)⟩
  · cases a; exact absurd rfl hn'
  · cases a; exact absurd rfl hn'
  · cases a
    cases hbg : bGet b env' with
    | none => exact absurd (show runR b (.ex x env') = .no by unfold runR; simp only [hbg]) hn'
    | some y =>
      obtain ⟨Mb, ob, nb, sb⟩ := bor hbg r
      exact exn' x y (by unfold runR; simp only [hbg]) F' H' C dd Mb (post r) ie ob nb fun a ha => ⟨r.dj a (sb a ha), r.ln a (sb a ha)⟩
end
end Py
namespace L2
open PySem PySem.SeqAt PySem.W PySem.Calls PyProof.Rows
section
variable {A : Around} {s : Shared}
end
section
variable {prog : Program} {w : World} {A : Around} {E : Value -> Shared -> Prop} {s : Shared}
end
section
variable {M : Model} {A : Around} {E : Value -> Shared -> Prop} {s : Shared}
end
section
variable {prog : Program} {w : World} {A : Around} {s : Shared}
end
section
variable {prog : Program} {w : World} {A : Around} {E : Value -> Shared -> Prop} {s : Shared} {β : Type} {vs : List Value} {bs : List β} {enc : β -> PyData} {R : Value -> β -> Prop}
end
end L2
namespace L2
open PySem PySem.Spec PyProof.Rows
theorem DpAll.len {K : PySem.W.Frag} {H : Hp} : ∀ {xs : List V} {ds : List PyData}, DpAll K H xs ds -> xs.length = ds.length
  | _, _, .nil => rfl
  | _, _, .cons _ t => by rw [List.length_cons, List.length_cons, DpAll.len t]
section
variable {X : Cx} {pins : List (Addr × Obj)} {σ : St} {H : Hp} {s : Shared}
theorem zip_snd {xs : List V} {ds : List PyData} (h : xs.length = ds.length) : (xs.zip ds).map Prod.snd = ds := List.map_snd_zip (by omega)
end
end L2
namespace Py
open PySem L2
section
variable {T : Tbl} {W : Wd T} {env : Py.Env} {β : Type} {enc : β -> D} {dat : β -> PyData}
def tupNE : PyData -> Bool
  | .tuple _ => true
  | _ => false
def notTN : PyData -> Bool
  | .tuple _ => false
  | .none => false
  | _ => true
def sortOk (ps : List PyData) : Bool := (ps.all fun p => ps.all fun q => PySem.W.alike p q) && (ps.all tupNE || ps.all notTN) && ps.all fun p => decide (p.depth <= 60)
def sortD (xs : List D) : Option (List D) := (pds xs).bind fun ps => if sortOk ps = true then some (((xs.zip ps).mergeSort (PySem.W.dataLe false Prod.snd)).map Prod.fst) else none
theorem pds_mapD (hp : ∀ b, pd (enc b) = some (dat b)) : ∀ bs : List β, pds (bs.map enc) = some (bs.map dat)
  | [] => by rw [List.map_nil, pds]; rfl
  | b :: bs => by rw [List.map_cons, pds, hp b, pds_mapD hp bs]; rfl
theorem sortD_map (hp : ∀ b, pd (enc b) = some (dat b)) (bs : List β) (ho : sortOk (bs.map dat) = true) : sortD (bs.map enc) = some ((bs.mergeSort (PySem.W.dataLe false dat)).map enc) := by
  unfold sortD
  rw [pds_mapD hp]
  show (if sortOk (bs.map dat) = true then _ else none) = _
  rw [if_pos ho]
  congr 1
  have e : (bs.map enc).zip (bs.map dat) = bs.map fun b => (enc b, dat b) := by rw [List.zip_map']
  rw [e, <- PySem.W.sort_maps (r := PySem.W.dataLe false dat) (s := PySem.W.dataLe false Prod.snd) (fun b => (enc b, dat b)) (fun _ _ _ _ => rfl), List.map_map]
  rfl
end
end Py
namespace Py
open PySem L2
structure Blt (mg : Str -> Option Value) : Prop where
  len : mg "len" = none
  range : mg "range" = none
  abs : mg "abs" = none
  int : mg "int" = none
  bool : mg "bool" = none
  str : mg "str" = none
  list : mg "list" = none
  tuple : mg "tuple" = none
  isinstance : mg "isinstance" = none
  sorted : mg "sorted" = none
  enumerate : mg "enumerate" = none
  zip : mg "zip" = none
  sum : mg "sum" = none
  any : mg "any" = none
  all : mg "all" = none
  max : mg "max" = none
  min : mg "min" = none
  dict : mg "dict" = none
  set : mg "set" = none
  type : mg "type" = none
  iter : mg "iter" = none
  super : mg "super" = none
structure DefAt (K : PySem.W.Frag) (mg : Str -> Option Value) (x qual : Str) (st : Stmt) (dvs : List V) (kws : List (Str × V)) : Prop where
  ex : ∃ f fd, FunD K x qual (defArgs st) (defBody st) (defScope st) dvs kws f fd /\ mg x = some (.ref f)
def BindsP (x qual : Str) (st : Stmt) (ps : List Str) : Prop := ∀ (kV doc pm : Value) (an : Option Addr) (cdv ct : Value) (us : List Value), us.length = ps.length -> bindArgs (PySem.W.fnOf x qual (defArgs st) (defBody st) (defScope st) .none kV doc pm an cdv ct) ⟨us, []⟩ = pure (ps.zip us)
structure Df (P : Program) (w : World) (K : PySem.W.Frag) (mg : Str -> Option Value) (base : Heap) (CX : CXT) (k : Nat) (x : Str) (ps : List Str) (sp : Sp) : Prop where
  ex : ∃ f fd, FnOk P w K mg base CX k f fd ps sp /\ mg x = some (.ref f) /\ PySem.W.keepIn K (.ref f) = true /\ Binds K fd ps []
section
variable {P : Program} {w : World} {K : PySem.W.Frag} {mg : Str -> Option Value} {base : Heap}
theorem df_of {x qual : Str} {st : Stmt} {N ps : List Str} {k : Nat} {sp : Sp} (D : DefAt K mg x qual st [] []) (S : FnScope N ps (defScope st)) (bp : BindsP x qual st ps) (len : ∀ vs H Q E, sp vs H Q E -> vs.length = ps.length)
    (hbody : ∀ (f : Addr) (cdv : Value) (A : Around) (outer : List PySem.Env) (s : Shared) (H : Hp) (vs : List V) (Q : VK) (E : XK), Room k (A.deeper (PyProof.Rows.envOfC qual (defScope st) s.heap.objs.size f cdv)) -> sp vs H Q E ->
      ∃ t, PSs (cxOf (L2.CX P w) P w K mg base N qual (defScope st) f cdv A outer s H E) (defBody st) t /\ t { nx := fun _ H' => Q .non H', rt := Q } (L2.start N vs) H) : Df P w K mg base (L2.CX P w) (k + 1) x ps sp := by
  obtain ⟨f, fd, F, hm⟩ := D.ex
  refine ⟨f, fd, F.ok S len fun cdv A outer s H vs Q E hr h => ?_, hm, F.kp, F.bindsN bp⟩
  obtain ⟨t, q1, q2⟩ := hbody f cdv A outer s H vs Q E hr h
  exact ⟨t, q1, q2⟩
theorem lw_of {x qual : Str} {st : Stmt} {N ps : List Str} {k : Nat} {sp : Sp} {f : Addr} {fd : FuncData} (F : FunD K x qual (defArgs st) (defBody st) (defScope st) [] [] f fd) (S : FnScope N ps (defScope st)) (len : ∀ vs H Q E, sp vs H Q E -> vs.length = ps.length)
    (hbody : ∀ (f : Addr) (cdv : Value) (A : Around) (outer : List PySem.Env) (s : Shared) (H : Hp) (vs : List V) (Q : VK) (E : XK), Room k (A.deeper (PyProof.Rows.envOfC qual (defScope st) s.heap.objs.size f cdv)) -> sp vs H Q E ->
      ∃ t, PSs (cxOf CX0 P w K mg base N qual (defScope st) f cdv A outer s H E).nox (defBody st) t /\ t { nx := fun _ H' => Q .non H', rt := Q } (L2.start N vs) H) : FnOk P w K mg base CX0 (k + 1) f fd ps sp := by
  refine F.ok S len fun cdv A outer s H vs Q E hr h => ?_
  obtain ⟨t, q1, q2⟩ := hbody f cdv A outer s H vs Q E hr h
  exact ⟨t, q1.nox, q2⟩
theorem cx_no {P : Program} {w : World} {o : List PySem.Env} {H : Hp} {s s' : Shared} {e : Value} (h : L2.CX P w o H s E0 e s') : False := by
  obtain ⟨_, _, _, _, _, _, _, _, _, _, _, _, z⟩ := h
  exact z.elim
theorem passE0 {X : Cx} : Passes (L2.CX X.prog X.w) X E0 := fun _ _ _ _ _ _ _ h => by
  obtain ⟨_, _, _, _, _, _, _, _, _, _, _, _, z⟩ := h
  exact z.elim
theorem px_call {X : Cx} {k : Nat} {x : Str} {ps : List Str} {sp : Sp} {p pos : Pos} {e : Expr} {es : List Expr} {t : TA} (D : Df X.prog X.w X.K X.mg X.base (L2.CX X.prog X.w) k x ps sp) (hr : Room k X.A) (hg : Gl X x)
    (ha : PA X (e :: es) t) (hdb : (x == ("__debug__" : Str)) = false := by decide) (he : starEach (e :: es) X.env = (false, eval e X.env) :: starEach es X.env := by rfl) (hpl : (backTo pos (starEach es X.env)).any (·.1) = false := by rfl) :
    PE X (.Call (.Name x p) (e :: es) [] pos) (tCall sp [] E0 t) := by
  obtain ⟨f, fd, F, hm, hk, hb⟩ := D.ex
  exact pe_call F hr hg hm hk hb .nil passE0 ha hdb he hpl
def gK {α : Type} (n m : Nat) (us ws : List α) : List α := if us.length = n /\ ws.length = m then us ++ ws else []
structure DfK (P : Program) (w : World) (K : PySem.W.Frag) (mg : Str -> Option Value) (base : Heap) (CX : CXT) (k : Nat) (x : Str) (ps ks : List Str) (n : Nat) (sp : Sp) : Prop where
  ex : ∃ f fd, FnOk P w K mg base CX k f fd ps sp /\ mg x = some (.ref f) /\ PySem.W.keepIn K (.ref f) = true /\ KBinds K fd ps ks (gK n ks.length) (gK n ks.length)
end
section
variable {X : Cx} {T : Tbl} {W : Wd T}
theorem call_lenA : CallR X (.builtin "len") (rLenA X.K) := CallR.or call_lenU call_lenD
theorem pe_imp {e : Expr} {t : TE} {c : Prop} (hc : c) (h : PE X e t) : PE X e (fun σ H Q => c -> t σ H Q) := ⟨fun pins s σ H Q I q => h.run pins s σ H Q I (q hc)⟩
theorem px_isi {a : Expr} {ta : TE} {c : Str} {n : String} {p1 p2 pos : Pos} (hm : X.mg "isinstance" = none) (hmc : X.mg c = none) (ha : PE X a ta) (hk : n ∈ ["int", "bool", "str", "list", "tuple", "dict"] := by decide) (hg : Gl X "isinstance" := by rfl) (hgc : Gl X c := by rfl)
    (hb : bootBuiltins c = some (.type n) := by decide +kernel) (hn : c ≠ "__name__" := by decide) (hd : (c == ("__debug__" : Str)) = false := by decide)
    (hs : starEach [a, .Name c p2] X.env = (false, eval a X.env) :: starEach [.Name c p2] X.env := by rfl) (hs2 : starEach [.Name c p2] X.env = (false, eval (.Name c p2) X.env) :: starEach [] X.env := by rfl)
    (hpl : (backTo pos (starEach [.Name c p2] X.env)).any (·.1) = false := by rfl) :
    PE X (.Call (.Name "isinstance" p1) [a, .Name c p2] [] pos) (fun σ H Q => clsOk W (false, n) -> tCB (rIsi X.K) (tCons ta (tCons (tC (clsV W (false, n))) tNil)) σ H Q) :=
  pe_imp hk (pe_callB call_isi hg hm (by decide +kernel) (pa_cons ha (pa_cons (pe_bltn hgc hc' hb rfl hn hd) pa_nil hs2) hs) (he := hs) (hpl := hpl))
where hc' := hmc
end
theorem df_no {P : Program} {w : World} {K : PySem.W.Frag} {mg : Str -> Option Value} {base : Heap} {x qual : Str} {st : Stmt} {ps : List Str} {k : Nat} (D : DefAt K mg x qual st [] []) (bp : BindsP x qual st ps) {sp : Sp} (h : ∀ vs H Q E, ¬ sp vs H Q E) : Df P w K mg base (L2.CX P w) k x ps sp := by
  obtain ⟨f, fd, F, hm⟩ := D.ex
  exact ⟨f, fd, ⟨fun vs H Q E z => absurd z (h vs H Q E), fun A outer s H args us vs Q E _ _ _ _ z => absurd z (h vs H Q E)⟩, hm, F.kp, F.bindsN bp⟩
theorem spR_no {T : Tbl} {W : Wd T} {n : Nat} {b : Option Nat} : ∀ vs H Q E, ¬ spR W n (fun _ _ => .no) b vs H Q E := fun vs H Q E ⟨_, _, _, _, _, _, _, _, h, _⟩ => h rfl
def semT (tbl : String -> Option (Sem -> List D -> Option Nat -> Rz)) : Nat -> Sem
  | 0 => fun _ _ _ => .no
  | k + 1 => fun f args b => match tbl f with
    | some g => g (semT tbl k) args b
    | none => .no
def spL (K : PySem.W.Frag) : Sp := fun vs H Q _ => ∃ (a : Addr) (ns : List Int), vs = [.ref a] /\ SqL K H a (ns.map V.int) /\ ns.length <= 63 /\ ∀ H', Q (.bl true) H'
theorem spL_in {K : PySem.W.Frag} {H : Hp} {a : Addr} {ns : List Int} (hl : ns.length <= 63) (hS : SqL K H a (ns.map V.int)) : spL K [.ref a] H (fun v _ => v = .bl true) fun _ _ _ => False := ⟨a, ns, rfl, hS, hl, fun _ => rfl⟩
theorem spL_spR {T : Tbl} {W : Wd T} {φ : List D -> Option Nat -> Rz} (h : ∀ ns : List Int, ns.length <= 63 -> φ [.scr ns] none = .ok (.bl true) none) : ∀ vs H Q E, spL W.K vs H Q E -> spR W 1 φ none vs H Q E := by
  rintro vs H Q E ⟨a, ns, rfl, hS, hl, q⟩
  refine callF (Same.refl H) (.cons (.scr hS) .nil) rfl (h ns hl) fun v F' H' x ⟨L, o, _, _⟩ => ?_
  cases o.shr rfl
  exact q H'
section
variable {T : Tbl} {W : Wd T}
end
end Py
namespace Py
open PySem L2
theorem pe_alt {X : Cx} {e : Expr} {t1 t2 : TE} (h1 : PE X e t1) (h2 : PE X e t2) : PE X e (fun σ H Q => t1 σ H Q \/ t2 σ H Q) :=
  ⟨fun pins s σ H Q I h => h.elim (h1.run pins s σ H Q I) (h2.run pins s σ H Q I)⟩
theorem lookup_zip_none {m : String} : ∀ {ns : List String} {vs : List V}, pos m ns = none -> ((ns.map so).zip vs).lookup (so m) = none
  | [], _, _ => by simp
  | n :: ns, [], _ => by simp
  | n :: ns, v :: vs, h => by
    have h : (if n = m then some 0 else (pos m ns).map (· + 1)) = none := h
    by_cases e : n = m
    · rw [if_pos e] at h; cases h
    · rw [if_neg e] at h
      have h : pos m ns = none := Option.map_eq_none_iff.mp h
      show (match so m == so n with | true => some v | false => _) = none
      have : (so m == so n) = false := by
        rw [Bool.eq_false_iff]
        intro z
        exact e (so_inj (eq_of_beq z)).symm
      rw [this]
      exact lookup_zip_none h
section
variable {T : Tbl} {W : Wd T}
structure Mt (P : Program) (w : World) (K : PySem.W.Frag) (mg : Str -> Option Value) (base : Heap) {T : Tbl} (W : Wd T) (k : Nat) (m : String) (n : Nat) (φ : Sem) (b : Option Nat) : Prop where
  ex : ∀ c nm, W.has c -> T.res c m = some nm -> ∃ g fd ps, Meth K (W.cA c) (so m) g /\ FnOk P w K mg base (L2.CX P w) k g fd ps (spR W n (φ nm) b) /\ Binds K fd ps []
def tMethD {T : Tbl} (W : Wd T) (φ : Sem) (m : String) (n : Nat) (b : Option Nat) (E : XK) (ta : TE) (t : TA) : TE := fun σ H Q => ta σ H fun x H1 => ∃ a c nm dx fs, x = .ref a /\ H1 a = some (.ins (W.cA c) dx fs) /\ W.has c /\ T.res c m = some nm /\ fs.lookup (so m) = none /\
  t σ H1 fun vs H2 => spR W n (φ nm) b (x :: vs) H2 Q E
theorem px_methS {X : Cx} {E : St -> XK} {k n : Nat} {m : String} {φ : Sem} {b : Option Nat} {o e : Expr} {es : List Expr} {ta : TE} {t : TA} {apos pos : Pos} {pl : PySem.Sem Bool} (M : Mt X.prog X.w X.K X.mg X.base W k m n φ b) (hx : ∀ σ, PassesAt (L2.CX X.prog X.w) X σ (E σ)) (hr : Room k X.A) (hK : W.K = X.K) (he : PE X o ta) (ha : PA X (e :: es) t)
    (hst : starEach (e :: es) X.env = (false, eval e X.env) :: starEach es X.env := by rfl) (hpl : (backTo pos (starEach es X.env)).any (·.1) = false := by rfl)
    (ht : eval (.Call (.Attribute o (so m) apos) (e :: es) [] pos) X.env = (do
      let ov <- eval o X.env
      standAt apos.atName
      let (f, first) <- holding [ov] (getMethod ov (so m) pl)
      callWith pos f first (backTo pos (starEach (e :: es) X.env)) (backToKw pos (keywordEach [] X.env))) := by rfl) :
    PE X (.Call (.Attribute o (so m) apos) (e :: es) [] pos) (fun σ H Q => tMethD W φ m n b (E σ) ta t σ H Q) := by
  refine ⟨fun pins s σ H Q I h => ?_⟩
  refine PySem.W.methodCall_KW (pl := pl) (thn (he.run pins s σ H _ I h) fun u s1 ⟨x, H1, I1, rx, a, c, nm, dx, fs, ex, ea, hc, hn, l, q⟩ => ?_) ht
  subst ex
  obtain rfl : u = Value.ref a := rx
  obtain ⟨g, fd, ps, hm, F, hb⟩ := M.ex c nm hc hn
  refine getmeth_ok I1 ea (hK ▸ W.cl c hc) hm l ?_
  refine PySem.W.callWith_K (first := [.ref a]) (h₀ := X.base) I.ok.mod.kin hm.kp (thn (ha.run pos pins s1 σ H1 _ I1 q) fun us s2 ⟨vs, H2, I2, r, q2⟩ => ⟨I2.kIn, ?_⟩) hst hpl
  exact run_fnS (E := E) (us := .ref a :: us) (vs := .ref a :: vs) F hr hb (hx σ) I2 (.cons rfl r) q2
theorem px_methX {X : Cx} {E : WX} {k n : Nat} {m : String} {φ : Sem} {b : Option Nat} {o e : Expr} {es : List Expr} {ta : TE} {t : TA} {apos pos : Pos} {pl : PySem.Sem Bool} (M : Mt X.prog X.w X.K X.mg X.base W k m n φ b) (tk : Takes X E) (hr : Room k X.A) (hK : W.K = X.K) (he : PE X o ta) (ha : PA X (e :: es) t)
    (hst : starEach (e :: es) X.env = (false, eval e X.env) :: starEach es X.env := by rfl) (hpl : (backTo pos (starEach es X.env)).any (·.1) = false := by rfl)
    (ht : eval (.Call (.Attribute o (so m) apos) (e :: es) [] pos) X.env = (do
      let ov <- eval o X.env
      standAt apos.atName
      let (f, first) <- holding [ov] (getMethod ov (so m) pl)
      callWith pos f first (backTo pos (starEach (e :: es) X.env)) (backToKw pos (keywordEach [] X.env))) := by rfl) :
    PE X (.Call (.Attribute o (so m) apos) (e :: es) [] pos) (fun σ H Q => tMethD W φ m n b (WE E σ) ta t σ H Q) := px_methS (E := fun σ => WE E σ) M (fun σ => L2.passAt tk σ) hr hK he ha hst hpl ht
def meth1 (T : Tbl) (φ : Sem) (m : String) (n : Nat) : List D -> Rz
  | .ins c ns xs :: ds => match T.res c m with
    | some nm => if pos m ns = none /\ ds.length + 1 = n then φ nm (.ins c ns xs :: ds) none else .no
    | none => .no
  | _ => .no
theorem meth1_ok {φ : Sem} {m : String} {n : Nat} {d : D} {ds : List D} (h : meth1 T φ m n (d :: ds) ≠ .no) : ∃ c ns xs nm, d = .ins c ns xs /\ T.res c m = some nm /\ pos m ns = none /\ (d :: ds).length = n /\ meth1 T φ m n (d :: ds) = φ nm (d :: ds) none := by
  cases d <;> first | (exact absurd rfl h) | skip
  rename_i c ns xs
  cases e : T.res c m with
  | none => exact absurd (by show (match T.res c m with | some nm => if pos m ns = none /\ ds.length + 1 = n then φ nm (.ins c ns xs :: ds) none else Rz.no | none => .no) = .no; rw [e]) h
  | some nm =>
    have e2 : meth1 T φ m n (.ins c ns xs :: ds) = if pos m ns = none /\ ds.length + 1 = n then φ nm (.ins c ns xs :: ds) none else Rz.no := by
      show (match T.res c m with | some nm => if pos m ns = none /\ ds.length + 1 = n then φ nm (.ins c ns xs :: ds) none else Rz.no | none => .no) = _
      rw [e]
    by_cases hh : pos m ns = none /\ ds.length + 1 = n
    · rw [if_pos hh] at e2
      exact ⟨c, ns, xs, nm, rfl, e, hh.1, hh.2, e2⟩
    · rw [if_neg hh] at e2
      exact absurd e2 h
theorem shr_ins {F : Hp} {c : String} {ns : List String} {xs : List D} {v : V} (h : Shr W F (.ins c ns xs) v) : ∃ a dx vs, v = .ref a /\ F a = some (.ins (W.cA c) dx ((ns.map so).zip vs)) /\ W.has c := by
  cases h with
  | ins ha hc _ _ => exact ⟨_, _, _, rfl, ha, hc⟩
def mkR (r : Rz) : Option D := match r with
  | .ok .non (some d) => some d
  | _ => none
def mk1 (φ : Sem) (c ini : String) (n : Nat) (ds : List D) : Option D := if ds.length + 1 = n then mkR (φ ini (.oins c [] [] :: ds) (some 0)) else none
theorem mk1_ok {φ : Sem} {c ini : String} {n : Nat} {ds : List D} {d : D} (h : mk1 φ c ini n ds = some d) : (D.oins c [] [] :: ds).length = n /\ φ ini (.oins c [] [] :: ds) (some 0) = .ok .non (some d) := by
  obtain ⟨h1, h2⟩ : ds.length + 1 = n /\ mkR (φ ini (.oins c [] [] :: ds) (some 0)) = some d := by
    unfold mk1 at h
    split at h
    · exact ⟨by assumption, h⟩
    · cases h
  refine ⟨h1, ?_⟩
  unfold mkR at h2
  split at h2
  · cases h2; assumption
  · cases h2
theorem makeF {n : Nat} {φ : Sem} {c ini : String} {F H : Hp} {vs : List V} {ds : List D} {d : D} {Q : VK} {E : XK} (s : Same F H) (h : Shrs W F ds vs) (hc : W.has c) (hφ : mk1 φ c ini n ds = some d)
    (q : ∀ v F' H', Ext F H F' H' -> rO W d F' H' H v -> Q v H') (x dx : Addr) (hx : H x = none) (hd : H dx = none) (ne : dx ≠ x) :
    spR W n (φ ini) (some 0) (.ref x :: vs) (upd (upd H dx (.own x)) x (.ins (W.cA c) dx [])) (fun v H2 => v = .non /\ Q (.ref x) H2) E := by
  obtain ⟨hl, hφ⟩ := mk1_ok hφ
  have hs : Same H (upd (upd H dx (.own x)) x (.ins (W.cA c) dx [])) := (same_new hd).trans (same_new (by rw [upd_ne ne.symm]; exact hx))
  refine ⟨F, .oins c [] [] :: ds, [x] ++ [], s.trans hs, .cons (.oins (vs := []) (by rw [upd_same]; rfl) hc rfl .nil) h.owns, by simp, fun a m => ?_, hl, ?_, fun d' bd e F' H' v M Mb p o ob nd k => ?_, fun x' bd e => ?_⟩
  · obtain rfl : a = x := by simpa using m
    exact s.free hx
  · rw [hφ]; exact fun z => nomatch z
  · rw [hφ] at e; cases e
    have hv : v = .non := by cases o with | sh y => cases y; rfl
    have hM : M = [] := o.shNil rfl
    subst hM
    obtain ⟨w, hw, ow⟩ := ob
    cases hw
    refine ⟨hv, q _ F' H' ⟨p.f, p.s, fun a o ha => ?_, fun a o ha => ?_⟩ ⟨Mb, ow, by simpa using nd, fun a m => ⟨?_, (k a (by simpa using m)).1⟩⟩⟩
    · refine p.h a o (fun z => ?_) (hs _ _ ha)
      obtain rfl : a = x := by simpa using z
      rw [hx] at ha; cases ha
    · rcases p.n a o ha with z | z | z
      · exact .inl z
      · exact .inr (hs.free z)
      · obtain rfl : a = x := by simpa using z
        exact .inr hx
    · rcases (k a (by simpa using m)).2 with z | z
      · obtain rfl : a = x := by simpa using z
        exact hx
      · exact hs.free z
  · rw [hφ] at e; cases e
theorem makeV {n : Nat} {φ : Sem} {c ini : String} {F H : Hp} {vs : List V} {ds : List D} {d : D} {Q : VK} {E : XK} (s : Same F H) (h : Shrs W H ds vs) (hc : W.has c) (hφ : mk1 φ c ini n ds = some d)
    (q : ∀ v H', Ext F H F H' -> Shr W H' (fz d) v -> Q v H') (x dx : Addr) (hx : H x = none) (hd : H dx = none) (ne : dx ≠ x) :
    spR W n (φ ini) (some 0) (.ref x :: vs) (upd (upd H dx (.own x)) x (.ins (W.cA c) dx [])) (fun v H2 => v = .non /\ Q (.ref x) H2) E :=
  makeF (Same.refl H) h hc hφ (fun v F' H' x ⟨L, o, _, _⟩ => q v H' ⟨Same.refl _, s.trans (x.f.trans x.s), x.h, fun _ _ z => .inl z⟩ (o.view x.s fun _ _ _ z => z)) x dx hx hd ne
def makeE (φ : Sem) (c ini : String) (n : Nat) (dds : List D) (f v : Option (List D)) : Option (Kd × D) := match f with
  | some ds => (mk1 φ c ini n (ds ++ dds)).map (Prod.mk .fr)
  | none => match v with
    | some ds => (mk1 φ c ini n (ds ++ dds)).map fun d => (.vw, fz d)
    | none => none
def xMake (φ : Sem) (c ini : String) (n : Nat) (as : XA W) (dds : List D) (dvs : List V) (hd : ∀ F, Shrs W F dds dvs) : XP W where
  t := fun σ H Q => W.has c -> tMake (W.cA c) (spR W n (φ ini) (some 0)) dvs E0 as.t σ H Q
  ev env := makeE φ c ini n dds (as.evF env) (as.evV env)
  snd := fun {env k d} e e' F σ H L Q r q hc => by
    unfold makeE at e
    split at e
    · rename_i ds e1
      obtain ⟨d2, h, e⟩ := Option.map_eq_some_iff.mp e
      cases e
      exact as.sF e1 e' F σ H L _ r fun vs F1 H1 x1 y1 x dx hx hdx ne => makeF x1.s (y1.append (hd F1)) hc h (fun v F2 H2 x2 y2 => q v F2 H2 (x1.trans x2) (rO_back x1.h y2)) x dx hx hdx ne
    · split at e
      · rename_i ds e2
        obtain ⟨d2, h, e⟩ := Option.map_eq_some_iff.mp e
        cases e
        exact as.sV e2 e' F σ H L _ r fun vs F1 H1 x1 y1 x dx hx hdx ne => makeV x1.s (Shrs.append y1 (hd H1)) hc h (fun v H2 x2 y2 => q v F1 H2 (x1.trans x2) y2) x dx hx hdx ne
      · cases e
structure MkAt (P : Program) (w : World) (K : PySem.W.Frag) (mg : Str -> Option Value) (base : Heap) (k : Nat) (x : Str) (C : Addr) (n : Nat) (sp : Sp) : Prop where
  ex : ∃ f fd ps, Mk K C f /\ FnOk P w K mg base (L2.CX P w) k f fd ps sp /\ mg x = some (.ref C) /\ Binds K fd ps [] /\ ps.length = n
theorem px_make {X : Cx} {k n : Nat} {x : Str} {c : String} {sp : Sp} {e : Expr} {es : List Expr} {p pos : Pos} {t : TA} (M : MkAt X.prog X.w X.K X.mg X.base k x (W.cA c) n sp) (hc : W.has c) (hr : Room (k + 1) X.A) (hg : Gl X x)
    (ha : PA X (e :: es) t) (hdb : (x == ("__debug__" : Str)) = false := by decide) (he : starEach (e :: es) X.env = (false, eval e X.env) :: starEach es X.env := by rfl) (hpl : (backTo pos (starEach es X.env)).any (·.1) = false := by rfl) :
    PE X (.Call (.Name x p) (e :: es) [] pos) (fun σ H Q => W.has c -> tMake (W.cA c) sp [] E0 t σ H Q) := by
  obtain ⟨f, fd, ps, M, F, hm, hb, _⟩ := M.ex
  exact pe_imp hc (pe_make M F hr hg hm hb .nil passE0 ha hdb he hpl)
def rm0 (r : Rz) (e : Py.Env) : RM := match r with
  | .ok d _ => .ok d e
  | .exn x _ => .exn x e
  | .no => .no
def rm1 (r : Rz) (o : Option D) (i : Nat) (st : List Pst) (e : Py.Env) : RM := match r, o with
  | .ok d (some n), some d0 => .ok d (e.set i (some (d0.putAt st n)))
  | .exn x (some n), some d0 => .exn x (e.set i (some (d0.putAt st n)))
  | _, _ => .no
def meth2 (T : Tbl) (φ : Sem) (m : String) (n : Nat) : List D -> Rz
  | .oins c ns xs :: ds => match T.res c m with
    | some nm => if pos m ns = none /\ ds.length + 1 = n then φ nm (.oins c ns xs :: ds) (some 0) else .no
    | none => .no
  | _ => .no
theorem meth2_ok {φ : Sem} {m : String} {n : Nat} {d : D} {ds : List D} (h : meth2 T φ m n (d :: ds) ≠ .no) : ∃ c ns xs nm, d = .oins c ns xs /\ T.res c m = some nm /\ pos m ns = none /\ (d :: ds).length = n /\ meth2 T φ m n (d :: ds) = φ nm (d :: ds) (some 0) := by
  cases d <;> first | (exact absurd rfl h) | skip
  rename_i c ns xs
  cases e : T.res c m with
  | none => exact absurd (by show (match T.res c m with | some nm => if pos m ns = none /\ ds.length + 1 = n then φ nm (.oins c ns xs :: ds) (some 0) else Rz.no | none => .no) = .no; rw [e]) h
  | some nm =>
    have e2 : meth2 T φ m n (.oins c ns xs :: ds) = if pos m ns = none /\ ds.length + 1 = n then φ nm (.oins c ns xs :: ds) (some 0) else Rz.no := by
      show (match T.res c m with | some nm => if pos m ns = none /\ ds.length + 1 = n then φ nm (.oins c ns xs :: ds) (some 0) else Rz.no | none => .no) = _
      rw [e]
    by_cases hh : pos m ns = none /\ ds.length + 1 = n
    · rw [if_pos hh] at e2
      exact ⟨c, ns, xs, nm, rfl, e, hh.1, hh.2, e2⟩
    · rw [if_neg hh] at e2
      exact absurd e2 h
theorem call_put {φ : List D -> Option Nat -> Rz} {n : Nat} {e : Ent} {env : Py.Env} {F H : Hp} {σ : St} {L : List Addr} {i j : Nat} {st : List Pst} {nd d0 : D} {v0 vn : V} {as bs : List D} {vs ws : List V} {Q : VK} {E : XK}
    (rl : Rel W e env F σ H L) (h0 : env[i]? = some (some d0)) (h1 : d0.at st = some nd) (hs : σ[i]? = some (some v0)) (hp : VPath H v0 st vn) (os : Shrs W F as vs) (ot : Shrs W F bs ws) (hj : as.length = j) (hl : (as ++ nd :: bs).length = n) (hn : φ (as ++ nd :: bs) (some j) ≠ .no)
    (c : ∀ d n' v F' H' L' M, φ (as ++ nd :: bs) (some j) = .ok d (some n') -> Rel W e (env.set i (some (d0.putAt st n'))) F' σ H' L' -> Own W F' H' d v M -> (M ++ L').Nodup -> (∀ a ∈ M, F' a = none /\ (a ∈ e.L0 \/ e.H0 a = none)) -> Q v H')
    (cx : ∀ x n' F' H' L' C dd, φ (as ++ nd :: bs) (some j) = .exn x (some n') -> Rel W e (env.set i (some (d0.putAt st n'))) F' σ H' L' -> IsExn W F' x C dd -> E C dd H')
    (hok : ∀ d, φ (as ++ nd :: bs) (some j) ≠ .ok d none) (hex : ∀ x, φ (as ++ nd :: bs) (some j) ≠ .exn x none) : spR W n φ (some j) (vs ++ vn :: ws) H Q E := by
  obtain ⟨v0', vn', Ln, Lr, e1, p2, o, ndL, mem, put⟩ := rl.focus h0 h1
  rw [hs] at e1; cases e1
  cases hp.det p2
  rw [List.nodup_append] at ndL
  obtain ⟨n1, n2, n3⟩ := ndL
  have hO : Owns W F H (as ++ nd :: bs) (vs ++ vn :: ws) ([] ++ (Ln ++ [])) := Owns.append os.owns (.cons o ot.owns)
  rw [List.nil_append, List.append_nil] at hO
  have hjv : (vs ++ vn :: ws)[j]? = some vn := by
    rw [<- hj, os.length, List.getElem?_append_right (Nat.le_refl _), Nat.sub_self]; rfl
  have org : ∀ a, (a ∈ Ln \/ H a = none) -> a ∉ Lr /\ (a ∈ e.L0 \/ e.H0 a = none) := fun a h => by
    rcases h with z | z
    · exact ⟨fun y => n3 a z a y rfl, rl.ln a ((mem a).mp (.inl z))⟩
    · refine ⟨fun y => ?_, rl.h0 z⟩
      obtain ⟨o, ho⟩ := rl.slots.lives a ((mem a).mp (.inr y))
      rw [z] at ho; cases ho
  have back : ∀ {F' H' n' Mb}, Post F H Ln F' H' -> Own W F' H' n' vn Mb -> Mb.Nodup -> (∀ a ∈ Mb, F' a = none /\ (a ∈ Ln \/ H a = none)) -> ∃ L', Rel W e (env.set i (some (d0.putAt st n'))) F' σ H' L' /\ ∀ a ∈ L', a ∈ Mb \/ a ∈ Lr := by
    intro F' H' n' Mb p ow nb k
    refine put F' H' n' Mb p.f p.s p.h (fun a o q => (p.n a o q).elim .inl fun z => z.elim (fun z => .inr (.inl (.inl z))) fun z => .inr (.inr z)) ow ?_ fun a ha => ⟨(k a ha).1, .inr (org a (k a ha).2).2⟩
    rw [List.nodup_append]
    exact ⟨nb, n2, fun a ha b hb z => (org a (k a ha).2).1 (z ▸ hb)⟩
  refine ⟨F, as ++ nd :: bs, Ln, rl.sF, hO, n1, fun a m => rl.dj a ((mem a).mp (.inl m)), hl, hn, fun d bd eq F' H' v M Mb p o' ob nd' k => ?_, fun x bd eq F' H' C dd Mb p ie ob nb k => ?_⟩
  · cases bd with
    | none => exact absurd eq (hok d)
    | some n' =>
      obtain ⟨w, hw, ow⟩ := ob
      rw [hjv] at hw; cases hw
      rw [List.nodup_append] at nd'
      obtain ⟨m1, m2, m3⟩ := nd'
      obtain ⟨L', r', inL⟩ := back p ow m2 fun a ha => k a (List.mem_append_right _ ha)
      refine c d n' v F' H' L' M eq r' o' ?_ fun a ha => ⟨(k a (List.mem_append_left _ ha)).1, (org a (k a (List.mem_append_left _ ha)).2).2⟩
      rw [List.nodup_append]
      refine ⟨m1, r'.nd, fun a ha b hb z => ?_⟩
      subst z
      rcases inL a hb with y | y
      · exact m3 a ha a y rfl
      · exact (org a (k a (List.mem_append_left _ ha)).2).1 y
  · cases bd with
    | none => exact absurd eq (hex x)
    | some n' =>
      obtain ⟨w, hw, ow⟩ := ob
      rw [hjv] at hw; cases hw
      obtain ⟨L', r', inL⟩ := back p ow nb k
      exact cx x n' F' H' L' C dd eq r' ie
theorem callX {n : Nat} {φ : List D -> Option Nat -> Rz} {F H : Hp} {vs : List V} {args : List D} {Q : VK} {E : XK} (s : Same F H) (h : Shrs W F args vs) (hl : args.length = n) (hn : φ args none ≠ .no)
    (q : ∀ d b v F' H', φ args none = .ok d b -> Ext F H F' H' -> rO W d F' H' H v -> Q v H') (qx : ∀ x b F' H' C dd, φ args none = .exn x b -> Ext F H F' H' -> IsExn W F' x C dd -> E C dd H') : spR W n φ none vs H Q E := by
  refine ⟨F, args, [], s, h.owns, .nil, (fun a m => nomatch m), hl, hn, fun d' bd e F' H' v M Mb p o ob nd k => ?_, fun x bd e F' H' C dd Mb p ie ob nb k => ?_⟩
  · have ob : Mb = [] := ob
    subst ob
    rw [List.append_nil] at nd k
    exact q d' bd v F' H' e p.ext ⟨M, o, nd, fun a m => ⟨(k a m).2.elim (fun z => nomatch z) id, (k a m).1⟩⟩
  · exact qx x bd F' H' C dd e p.ext ie
def methM (T : Tbl) (φ : Sem) (m : String) (n i : Nat) (q : Option (List Pst × D)) (fs : Option (List D)) (env : Py.Env) : RM := match q, fs with
  | some (st, nd), some ds => if isSh nd = true then rm0 (meth1 T φ m n (nd :: ds)) env else rm1 (meth2 T φ m n (nd :: ds)) (getS env i) i st env
  | _, _ => .no
def xmMeth (φ : Sem) (m : String) (n : Nat) (p : XPl W) (as : XA W) : XM W where
  t E := fun σ H Q => tMethD W φ m n none (WE E σ) p.t as.t σ H Q \/ tMethD W φ m n (some 0) (WE E σ) p.t as.t σ H Q
  ev _ env := methM T φ m n p.root (p.ev env) (as.evF env) env
  snd := fun P E env hn e F σ H L Q hP r c cx => by
    match e1 : p.ev env, e2 : as.evF env, hn, c, cx with
    | none, _, hn, _, _ => exact absurd rfl hn
    | some _, none, hn, _, _ => exact absurd rfl hn
    | some (st, nd), some ds, hn, c, cx =>
      obtain ⟨d0, h0, h1⟩ := p.at_ e1
      obtain ⟨v0, _, _, _, hs, _⟩ := r.focus h0 h1
      unfold methM at hn c cx
      dsimp only at hn c cx
      by_cases hsh : isSh nd = true
      · rw [if_pos hsh] at hn c cx
        have hm : meth1 T φ m n (nd :: ds) ≠ .no := fun z => hn (by rw [z]; rfl)
        obtain ⟨cn, ns, xs, nm, rfl, h2, h3, h4, h5⟩ := meth1_ok hm
        rw [h5] at hn c cx hm
        refine .inl (p.loc e1 e F σ H L v0 _ r hs fun v F1 H1 x1 p1 => ?_)
        have r1 := r.ext x1
        obtain ⟨v0', vn, Ln, Lr, e5, p2, o, _⟩ := r1.focus h0 h1
        rw [hs] at e5; cases e5
        cases p1.det p2
        have sh := o.shr hsh
        obtain ⟨a, dx, vs, rfl, ha, hc⟩ := shr_ins sh
        refine ⟨a, cn, nm, dx, _, rfl, r1.sF _ _ ha, hc, h2, lookup_zip_none h3, as.sF e2 e F1 σ H1 L _ r1 fun ws F2 H2 x2 y2 => ?_⟩
        refine callX x2.s (.cons (sh.mono x2.f) y2) h4 hm (fun d b v F3 H3 eq x3 ⟨M, o3, nd3, k3⟩ => ?_) fun x b F3 H3 C dd eq x3 ie => ?_
        · rw [eq] at c
          have r2 := r1.ext x2
          exact c d env v F3 H3 L M rfl (r2.ext x3) o3 (nodup_new (H := H2) r2.nd nd3 r2.slots.lives fun a m => (k3 a m).1) fun a m => ⟨(k3 a m).2, r2.h0 (k3 a m).1⟩
        · rw [eq] at cx
          exact cx x env F3 H3 L C dd rfl ((r1.ext x2).ext x3) ie
      · rw [if_neg hsh] at hn c cx
        have hm : meth2 T φ m n (nd :: ds) ≠ .no := fun z => hn (by rw [z]; rfl)
        obtain ⟨cn, ns, xs, nm, rfl, h2, h3, h4, h5⟩ := meth2_ok hm
        rw [h5] at hn c cx hm
        have hg : getS env p.root = some d0 := by unfold getS; rw [h0]; rfl
        rw [hg] at hn c cx
        refine .inr (p.loc e1 e F σ H L v0 _ r hs fun v F1 H1 x1 p1 => ?_)
        have r1 := r.ext x1
        obtain ⟨v0', vn, Ln, Lr, e5, p2, o, _⟩ := r1.focus h0 h1
        rw [hs] at e5; cases e5
        cases p1.det p2
        cases o with
        | sh y => cases y
        | oins ha hc hl os =>
          refine ⟨_, cn, nm, _, _, rfl, ha, hc, h2, lookup_zip_none h3, as.sF e2 e F1 σ H1 L _ r1 fun ws F2 H2 x2 y2 => ?_⟩
          refine call_put (as := []) (vs := []) (r1.ext x2) h0 h1 hs (p1.mono x2.h) .nil y2 rfl h4 hm (fun d n' v F3 H3 L3 M eq r3 o3 nd3 k3 => ?_) (fun x n' F3 H3 L3 C dd eq r3 ie => ?_) (fun d z => ?_) fun x z => ?_
          · have eq : φ nm (.oins cn ns xs :: ds) (some 0) = .ok d (some n') := eq
            rw [eq] at c
            exact c d _ v F3 H3 L3 M rfl r3 o3 nd3 k3
          · have eq : φ nm (.oins cn ns xs :: ds) (some 0) = .exn x (some n') := eq
            rw [eq] at cx
            exact cx x _ F3 H3 L3 C dd rfl r3 ie
          · have z : φ nm (.oins cn ns xs :: ds) (some 0) = .ok d none := z
            rw [z] at hn
            exact hn rfl
          · have z : φ nm (.oins cn ns xs :: ds) (some 0) = .exn x none := z
            rw [z] at hn
            exact hn rfl
def setF (f : String) (d : D) : List String -> List D -> List String × List D
  | n :: ns, x :: xs => if n = f then (n :: ns, d :: xs) else ((n :: (setF f d ns xs).1), x :: (setF f d ns xs).2)
  | _, _ => ([f], [d])
def setFD (T : Tbl) (f : String) (n : D) (ds : List D) : Option (D × D) := match n, ds with
  | .oins c ns xs, [d] => if T.fOk c f = true /\ ns.length < 1000 then some (.oins c (setF f d ns xs).1 (setF f d ns xs).2, .non) else none
  | _, _ => none
def rSetF {T : Tbl} (W : Wd T) (f : Str) : V -> List V -> Hp -> VK -> Prop := fun x ys H Q => ∃ a C dx fs y, x = .ref a /\ ys = [y] /\ H a = some (.ins C dx fs) /\ Cls W.K C /\ NoAttr W.K C f /\ fs.length < 1000 /\ Q .non (upd H a (.ins C dx (putF f y fs)))
theorem mop_at {F H : Hp} {a : Addr} {L : List Addr} {Ms : List Addr} {n' d : D} {o : HO} {M' L2 : List Addr} {v' : V} {Q : VK} (s : Same F H) (nd : (Ms ++ (a :: L)).Nodup) (kF : ∀ b ∈ Ms ++ (a :: L), F b = none)
    (hn : a ∉ L2 -> Own W F (upd H a o) n' (.ref a) (a :: L2)) (od : Own W F H d v' M') (n2 : (M' ++ L2).Nodup) (sub : ∀ b ∈ M' ++ L2, b ∈ L \/ b ∈ Ms)
    (q : ∀ F' H' v' Ln' M', Same F F' -> Same F' H' -> (∀ b o, b ∉ a :: L -> H b = some o -> H' b = some o) -> (∀ b o, F' b = some o -> F b = some o \/ H b = none) -> Own W F' H' n' (.ref a) Ln' -> Own W F' H' d v' M' -> (M' ++ Ln').Nodup ->
      (∀ b ∈ M' ++ Ln', F' b = none /\ (b ∈ a :: L \/ b ∈ Ms \/ H b = none)) -> Q v' H') : Q v' (upd H a o) := by
  rw [List.nodup_append] at nd
  obtain ⟨n3, n4, n5⟩ := nd
  rw [List.nodup_cons] at n4
  have na : ∀ b ∈ M' ++ L2, b ≠ a := fun b hb z => by
    subst z
    rcases sub _ hb with y | y
    · exact n4.1 y
    · exact n5 _ y _ (List.mem_cons_self ..) rfl
  have Fa : F a = none := kF a (List.mem_append_right _ (List.mem_cons_self ..))
  have nL : a ∉ L2 := fun z => na a (List.mem_append_right _ z) rfl
  refine q F (upd H a o) v' (a :: L2) M' (Same.refl _) (same_upd s Fa) (fun b u hb hu => ?_) (fun b u hu => .inl hu) (hn nL) (own_upd od fun z => na a (List.mem_append_left _ z) rfl) ?_ (fun b hb => ?_)
  · rw [upd_ne (fun z => hb (by rw [z]; exact List.mem_cons_self ..))]; exact hu
  · rw [List.nodup_append] at n2 ⊢
    refine ⟨n2.1, List.nodup_cons.mpr ⟨fun z => na a (List.mem_append_right _ z) rfl, n2.2.1⟩, fun b hb c hc => ?_⟩
    rcases List.mem_cons.mp hc with z | z
    · rw [z]; exact na b (List.mem_append_left _ hb)
    · exact n2.2.2 b hb c z
  · rcases List.mem_append.mp hb with z | z
    · have := sub b (List.mem_append_left _ z)
      refine ⟨kF b ?_, ?_⟩
      · rcases this with y | y
        · exact List.mem_append_right _ (List.mem_cons_of_mem _ y)
        · exact List.mem_append_left _ y
      · rcases this with y | y
        · exact .inl (List.mem_cons_of_mem _ y)
        · exact .inr (.inl y)
    · rcases List.mem_cons.mp z with z | z
      · subst z; exact ⟨Fa, .inl (List.mem_cons_self ..)⟩
      · have := sub b (List.mem_append_right _ z)
        refine ⟨kF b ?_, ?_⟩
        · rcases this with y | y
          · exact List.mem_append_right _ (List.mem_cons_of_mem _ y)
          · exact List.mem_append_left _ y
        · rcases this with y | y
          · exact .inl (List.mem_cons_of_mem _ y)
          · exact .inr (.inl y)
theorem setF_owns {F H : Hp} {f : String} {d : D} {y : V} {M : List Addr} (o : Own W F H d y M) : ∀ {ns : List String} {xs : List D} {vs : List V} {L : List Addr}, Owns W F H xs vs L -> ns.length = vs.length -> (M ++ L).Nodup ->
    ∃ vs' L', putF (so f) y ((ns.map so).zip vs) = (((setF f d ns xs).1).map so).zip vs' /\ (setF f d ns xs).1.length = vs'.length /\ Owns W F H (setF f d ns xs).2 vs' L' /\ (∀ a ∈ L', a ∈ L \/ a ∈ M) /\ L'.Nodup
  | [], [], [], _, .nil, _, nd => ⟨[y], M ++ [], rfl, rfl, .cons o .nil, fun a m => .inr (by simpa using m), by simpa using nd⟩
  | n :: ns, x :: xs, v :: vs, _, .cons (L := L1) (M := L2) h t, hl, nd => by
    rw [List.nodup_append] at nd
    obtain ⟨n1, n2, n3⟩ := nd
    rw [List.nodup_append] at n2
    obtain ⟨p1, p2, p3⟩ := n2
    by_cases e : n = f
    · refine ⟨y :: vs, M ++ L2, ?_, ?_, ?_, fun a m => ?_, ?_⟩
      · subst e
        show (if so n = so n then (so n, y) :: (ns.map so).zip vs else _) = ((if n = n then (n :: ns, d :: xs) else ((n :: (setF n d ns xs).1), x :: (setF n d ns xs).2)).1.map so).zip (y :: vs)
        rw [if_pos rfl, if_pos rfl]; rfl
      · show ((if n = f then (n :: ns, d :: xs) else ((n :: (setF f d ns xs).1), x :: (setF f d ns xs).2)).1).length = _
        rw [if_pos e]; simpa using hl
      · show Owns W F H ((if n = f then (n :: ns, d :: xs) else ((n :: (setF f d ns xs).1), x :: (setF f d ns xs).2)).2) _ _
        rw [if_pos e]; exact .cons o t
      · rcases List.mem_append.mp m with m | m
        · exact .inr m
        · exact .inl (List.mem_append_right _ m)
      · rw [List.nodup_append]
        exact ⟨n1, p2, fun a ha b hb => n3 a ha b (List.mem_append_right _ hb)⟩
    · obtain ⟨vs', L', e1, e2, e3, e4, e5⟩ := setF_owns (f := f) o t (ns := ns) (by simpa using hl) (by
        rw [List.nodup_append]
        exact ⟨n1, p2, fun a ha b hb => n3 a ha b (List.mem_append_right _ hb)⟩)
      refine ⟨v :: vs', L1 ++ L', ?_, ?_, ?_, fun a m => ?_, ?_⟩
      · show (if so n = so f then (so n, y) :: (ns.map so).zip vs else (so n, v) :: putF (so f) y ((ns.map so).zip vs)) = ((if n = f then (n :: ns, d :: xs) else ((n :: (setF f d ns xs).1), x :: (setF f d ns xs).2)).1.map so).zip (v :: vs')
        rw [if_neg (fun z => e (so_inj z)), if_neg e, e1]; rfl
      · show ((if n = f then (n :: ns, d :: xs) else ((n :: (setF f d ns xs).1), x :: (setF f d ns xs).2)).1).length = _
        rw [if_neg e]; simpa using e2
      · show Owns W F H ((if n = f then (n :: ns, d :: xs) else ((n :: (setF f d ns xs).1), x :: (setF f d ns xs).2)).2) _ _
        rw [if_neg e]; exact .cons h e3
      · rcases List.mem_append.mp m with m | m
        · exact .inl (List.mem_append_left _ m)
        · exact (e4 a m).imp (List.mem_append_right _) id
      · rw [List.nodup_append]
        refine ⟨p1, e5, fun a ha b hb z => ?_⟩
        subst z
        rcases e4 a hb with q | q
        · exact p3 a ha a q rfl
        · exact n3 a q a (List.mem_append_left _ ha) rfl
  | [], _ :: _, _, _, .cons _ _, hl, _ => by simp at hl
  | _ :: _, [], _, _, .nil, hl, _ => by simp at hl
theorem mop_setF {f : String} : Mop W (rSetF W (so f)) (setFD T f) := by
  intro n ds n' d hf F H vn Ln vs Ms Q s o os nd kF q
  unfold setFD at hf
  split at hf
  · rename_i c ns xs d0
    obtain ⟨⟨hf1, hf2⟩, e⟩ := ite_some hf
    cases e
    obtain ⟨u, rfl, o2⟩ := os.one
    cases o with
    | sh y => cases y
    | @oins a c dx ns xs vs L ha hc hl hs =>
      obtain ⟨vs', L', e1, e2, e3, e4, e5⟩ := setF_owns (f := f) o2 hs hl (nd_tail nd)
      refine ⟨a, _, dx, _, u, rfl, rfl, ha, W.cl c hc, W.na c f hc hf1, by simp; omega, ?_⟩
      refine mop_at (L2 := L') (M' := []) (d := .non) s nd kF (fun na => .oins (by rw [upd_same, e1]) hc e2 (owns_upd e3 na)) (.sh .non) (by simpa using e5) (fun b hb => e4 b (by simpa using hb)) q
  · cases hf
def fldK (T : Tbl) {W : Wd T} (p : XPl W) (f : String) (d : D) (e : Py.Env) : RS := RS.ofO ((p.ev e).bind fun q => (setFD T f q.2 [d]).bind fun z => (getS e p.root).map fun d0 => e.set p.root (some (d0.putAt q.1 z.1)))
def xsFld (p : XPl W) (f : String) (m : XM W) : XS W where
  t E := sFld W.K p.t (m.t E) (so f)
  ev P env := (m.ev P env).thenS (fldK T p f)
  snd := fun P E env hn e F σ H L Dn hP r s => by
    have hm : m.ev P env ≠ .no := fun z => hn (by rw [z]; rfl)
    refine (m.snd P E env).run hm hP r s (fun x e1 h => by rw [h]; rfl) fun d env' v F' H' L' M h r' o nd kk => ?_
    rw [h] at hn s
    have hn : fldK T p f d env' ≠ .no := hn
    have s : Sat W e E (ends (fldK T p f d env')) Dn := s
    unfold fldK at hn s
    cases h2 : ((p.ev env').bind fun q => (setFD T f q.2 [d]).bind fun z => (getS env' p.root).map fun d0 => env'.set p.root (some (d0.putAt q.1 z.1))) with
    | none => rw [h2] at hn; exact absurd rfl hn
    | some e2 =>
      rw [h2] at s
      obtain ⟨⟨st, n⟩, e1, h3⟩ := Option.bind_eq_some_iff.mp h2
      obtain ⟨⟨n', d'⟩, e3, h4⟩ := Option.bind_eq_some_iff.mp h3
      obtain ⟨d0', e4, h5⟩ := Option.map_eq_some_iff.mp h4
      subst h5
      obtain ⟨d0, h0, h1⟩ := p.at_ e1
      rw [getS_some e4] at h0
      cases h0
      obtain ⟨v0, _, _, _, hs, _⟩ := r'.focus (getS_some e4) h1
      refine p.loc e1 e F' σ H' L' v0 _ r' hs fun vn F1 H1 x1 p1 => ?_
      rw [List.nodup_append] at nd
      obtain ⟨nd1, nd2, nd3⟩ := nd
      have go : rSetF W (so f) vn [v] H1 (fun _ H => Dn.nx σ H) := by
        refine am_mop mop_setF (r'.ext x1) (getS_some e4) h1 hs p1 e3 (Ms := M ++ []) (.cons (o.frame x1.f fun a _ o q => x1.h _ _ q) .nil) (by simpa using nd1) (fun a ha => ?_) fun v2 F2 H2 L2 M2 r2 o2 n2 k2 => s.nx _ _ _ _ _ rfl r2
        have ha : a ∈ M := by simpa using ha
        refine ⟨fun z => nd3 a ha a z rfl, ?_, (kk a ha).2⟩
        obtain ⟨u, hu⟩ := o.lives a ha
        cases z : F1 a with
        | none => rfl
        | some w =>
          rcases x1.n a w z with y | y
          · rw [(kk a ha).1] at y; cases y
          · rw [hu] at y; cases y
      obtain ⟨a, C, dx, fs, y, ex, ey, ha, c1, c2, c3, q⟩ := go
      cases ey
      exact ⟨a, C, dx, fs, ex, ha, c1, c2, c3, q⟩
structure MethAt (K : PySem.W.Frag) (C : Addr) (m : String) (x qual : Str) (st : Stmt) (dvs : List V) (kws : List (Str × V)) : Prop where
  ex : ∃ g fd, FunD K x qual (defArgs st) (defBody st) (defScope st) dvs kws g fd /\ Meth K C (so m) g
structure MdOk (P : Program) (w : World) (K : PySem.W.Frag) (mg : Str -> Option Value) (base : Heap) (k : Nat) (C : Addr) (m : String) (n : Nat) (sp : Sp) : Prop where
  ex : ∃ g fd ps, Meth K C (so m) g /\ FnOk P w K mg base (L2.CX P w) k g fd ps sp /\ Binds K fd ps [] /\ ps.length = n
section
variable {P : Program} {w : World} {K : PySem.W.Frag} {mg : Str -> Option Value} {base : Heap}
theorem md_of {C : Addr} {m : String} {x qual : Str} {st : Stmt} {N ps : List Str} {n k : Nat} {sp : Sp} (D : MethAt K C m x qual st [] []) (S : FnScope N ps (defScope st)) (bp : BindsP x qual st ps) (hn : ps.length = n) (len : ∀ vs H Q E, sp vs H Q E -> vs.length = ps.length)
    (hbody : ∀ (f : Addr) (cdv : Value) (A : Around) (outer : List PySem.Env) (s : Shared) (H : Hp) (vs : List V) (Q : VK) (E : XK), Room k (A.deeper (PyProof.Rows.envOfC qual (defScope st) s.heap.objs.size f cdv)) -> sp vs H Q E ->
      ∃ t, PSs (cxOf (L2.CX P w) P w K mg base N qual (defScope st) f cdv A outer s H E) (defBody st) t /\ t { nx := fun _ H' => Q .non H', rt := Q } (L2.start N vs) H) : MdOk P w K mg base (k + 1) C m n sp := by
  obtain ⟨f, fd, F, hm⟩ := D.ex
  refine ⟨f, fd, ps, hm, F.ok S len fun cdv A outer s H vs Q E hr h => ?_, F.bindsN bp, hn⟩
  obtain ⟨t, q1, q2⟩ := hbody f cdv A outer s H vs Q E hr h
  exact ⟨t, q1, q2⟩
theorem md_no {C : Addr} {m : String} {x qual : Str} {st : Stmt} {ps : List Str} {n k : Nat} (D : MethAt K C m x qual st [] []) (bp : BindsP x qual st ps) (hn : ps.length = n) {sp : Sp} (h : ∀ vs H Q E, ¬ sp vs H Q E) : MdOk P w K mg base k C m n sp := by
  obtain ⟨f, fd, F, hm⟩ := D.ex
  exact ⟨f, fd, ps, hm, ⟨fun vs H Q E z => absurd z (h vs H Q E), fun A outer s H args us vs Q E _ _ _ _ z => absurd z (h vs H Q E)⟩, F.bindsN bp, hn⟩
theorem mk_of {C : Addr} {x : Str} {f : Addr} {n k : Nat} {sp : Sp} (M : Mk K C f) (D : MdOk P w K mg base k C "__init__" n sp) (hm : mg x = some (.ref C)) : MkAt P w K mg base k x C n sp := by
  obtain ⟨g, fd, ps, hg, F, hb, hl⟩ := D.ex
  have e := M.init
  rw [hg.at_] at e
  cases e
  exact ⟨_, fd, ps, M, F, hm, hb, hl⟩
end
structure Pp (P : Program) (w : World) (K : PySem.W.Frag) (mg : Str -> Option Value) (base : Heap) {T : Tbl} (W : Wd T) (k : Nat) (m : String) (φ : Sem) : Prop where
  ex : ∀ c nm, W.has c -> T.res c m = some nm -> ∃ p g fd ps, PropOf K (W.cA c) (so m) p g /\ FnOk P w K mg base (L2.CX P w) k g fd ps (spR W 1 (φ nm) none) /\ Binds K fd ps []
def tPropD {T : Tbl} (W : Wd T) (φ : Sem) (m : String) (ta : TE) : TE := fun σ H Q => ta σ H fun x H1 => ∃ a c nm dx fs, x = .ref a /\ H1 a = some (.ins (W.cA c) dx fs) /\ W.has c /\ T.res c m = some nm /\ spR W 1 (φ nm) none [.ref a] H1 Q E0
theorem px_prop {X : Cx} {k : Nat} {m : String} {φ : Sem} {e : Expr} {ta : TE} {pos : Pos} (M : Pp X.prog X.w X.K X.mg X.base W k m φ) (hr : Room (k + 1) X.A) (hK : W.K = X.K) (he : PE X e ta) (hab : attributeBase e (so m) X.env (eval e X.env) = eval e X.env) :
    PE X (.Attribute e (so m) pos) (tPropD W φ m ta) := by
  refine ⟨fun pins s σ H Q I h => ?_⟩
  refine attr_of hab (thn (he.run pins s σ H _ I h) fun u s1 ⟨x, H1, I1, rx, a, c, nm, dx, fs, ex, ea, hc, hn, q⟩ => ?_)
  subst ex
  obtain rfl : u = Value.ref a := rx
  obtain ⟨p, g, fd, ps, hp, F, hb⟩ := M.ex c nm hc hn
  exact getprop_ok I1 ea (hK ▸ W.cl c hc) hp F hr hb .nil passE0 q
def prop1 (T : Tbl) (φ : Sem) (m : String) : D -> Rz
  | .ins c ns xs => match T.res c m with
    | some nm => φ nm [.ins c ns xs] none
    | none => .no
  | _ => .no
theorem prop1_ok {φ : Sem} {m : String} {d : D} (h : prop1 T φ m d ≠ .no) : ∃ c ns xs nm, d = .ins c ns xs /\ T.res c m = some nm /\ prop1 T φ m d = φ nm [d] none := by
  cases d <;> first | (exact absurd rfl h) | skip
  rename_i c ns xs
  cases e : T.res c m with
  | none => exact absurd (by show (match T.res c m with | some nm => φ nm [.ins c ns xs] none | none => Rz.no) = .no; rw [e]) h
  | some nm => exact ⟨c, ns, xs, nm, rfl, e, by show (match T.res c m with | some nm => φ nm [.ins c ns xs] none | none => Rz.no) = _; rw [e]⟩
def propE (T : Tbl) (φ : Sem) (m : String) (f v : Option D) : Option (Kd × D) := match f with
  | some d => (prop1 T φ m d).toF
  | none => match v with
    | some d => (prop1 T φ m d).toV
    | none => none
def xProp (φ : Sem) (m : String) (a : XP W) : XP W where
  t := tPropD W φ m a.t
  ev env := propE T φ m (a.evF env) (a.evV env)
  snd := fun {env k d} e => by
    unfold propE at e
    split at e
    · rename_i d0 e1
      obtain ⟨rfl, b, h⟩ := Rz.toF_ok e
      obtain ⟨c, ns, xs, nm, rfl, h1, h4⟩ := prop1_ok (T := T) (φ := φ) (m := m) (d := d0) (by rw [h]; exact fun z => nomatch z)
      rw [h4] at h
      refine fun e' F σ H L Q r q => a.sF e1 e' F σ H L _ r fun v F1 H1 x1 y1 => ?_
      obtain ⟨p, dx, vs, rfl, hp, hc⟩ := shr_ins y1
      exact ⟨p, c, nm, dx, _, rfl, x1.s _ _ hp, hc, h1, callF x1.s (.cons y1 .nil) rfl h fun v F3 H3 x3 y3 => q v F3 H3 (x1.trans x3) (rO_back x1.h y3)⟩
    · split at e
      · rename_i d0 e1
        obtain ⟨d2, b, h, hk⟩ := Rz.toV_ok e
        obtain ⟨c, ns, xs, nm, rfl, h1, h4⟩ := prop1_ok (T := T) (φ := φ) (m := m) (d := d0) (by rw [h]; exact fun z => nomatch z)
        rw [h4] at h
        refine fun e' F σ H L Q r q => a.sV e1 e' F σ H L _ r fun v F1 H1 x1 y1 => ?_
        obtain ⟨p, dx, vs, rfl, hp, hc⟩ := shr_ins y1
        refine ⟨p, c, nm, dx, _, rfl, hp, hc, h1, callV x1.s (.cons y1 .nil) rfl h fun v H3 x3 y3 => q v F1 H3 (x1.trans x3) ?_⟩
        rcases hk with ⟨hf, rfl, rfl⟩ | ⟨rfl, rfl⟩
        · rw [fz_isSh (isSh_flat hf)] at y3
          exact rO_sh (y3.flat hf)
        · exact y3
      · cases e
def rLenI {T : Tbl} (W : Wd T) (φ : Sem) : List V -> Hp -> VK -> Prop := fun xs H Q => ∃ a c nm dx fs, xs = [.ref a] /\ H a = some (.ins (W.cA c) dx fs) /\ W.has c /\ T.res c "__len__" = some nm /\ spR W 1 (φ nm) none [.ref a] H (fun v H' => ∃ i, v = .int i /\ 0 <= i /\ i < 2 ^ 63 /\ Q (.int i) H') E0
theorem len_own {prog : Program} {w : World} {A : Around} {E : Value -> Shared -> Prop} {s : Shared} {K : PySem.W.Frag} {x C f : Addr} {ox : Obj} {od : Option Obj} {Q : Value -> Shared -> Prop} (X : K.In s.heap) (I : PySem.W.InstAt s.heap x ox C od) (hs : PySem.W.findIn K (.ref C) "__len__" = some (some (.ref f))) (hf : PySem.W.isFn K (.ref f) = true)
    (h : wpAny (model prog w) A.in1 (call (.ref f) [.ref x]) (PySem.W.LenBack Q) E s) : wpAny (model prog w) A (call (.builtin "len") [.ref x]) Q E s := by
  refine Calls.call_function_entry PySem.kind_len PySem.plain_len PySem.entry_len (PySem.args_len1 _) ?_
  unfold Builtin.«len»
  refine wpAny_bind (m := oneArg "len" _) (wpAny_pure ?_)
  refine wpAny_bind (m := callSpecial? (.ref x) (Str.ofString "__len__")) (PySem.W.special_fn X I hs (beq_iff_eq.mp hf) (wpAny_mono h (fun r s' hr => ?_) fun _ _ y => y))
  cases r <;> first | exact hr.elim | skip
  rename_i n u
  obtain ⟨⟨h0, h1⟩, hq⟩ := hr
  refine wpAny_bind (wpAny_holding (wpAny_pure ?_))
  refine wpAny_bind (wpAny_letGo ?_)
  show wpAny _ _ (if n < 0 then _ else _) _ _ _
  rw [if_neg (by omega)]
  show wpAny _ _ (if n ≥ 2 ^ 63 then _ else _) _ _ _
  rw [if_neg (by omega)]
  exact wpAny_bind (wpAny_mkInt (wpAny_pure ⟨_, rfl, hq⟩))
theorem call_lenI {X : Cx} {k : Nat} {φ : Sem} (M : Mt X.prog X.w X.K X.mg X.base W k "__len__" 1 φ none) (hr : Room (k + 1) X.A) (hK : W.K = X.K) : CallR X (.builtin "len") (rLenI W φ) := by
  rintro pins s σ H xs us Q I rv ⟨a, c, nm, dx, fs, rfl, ea, hc, hn, h⟩
  cases rv with
  | @cons _ u _ _ ru rt =>
  cases rt
  obtain rfl : u = Value.ref a := ru
  obtain ⟨g, fd, ps, hm, F, hb⟩ := M.ex c nm hc hn
  obtain ⟨mA, O, _, _, _, _⟩ := ins_get I.hok ea
  obtain ⟨od, J, _⟩ := O.look
  have hl : ([Value.ref a] ++ []).length = ps.length := by rw [<- F.len _ _ _ _ h]; rfl
  refine len_own I.kIn J hm.at_ hm.fn (wpAny_call ?_)
  refine codeAny_mono (F.run X.A.in1 X.stack s H ⟨[.ref a], []⟩ [.ref a] [.ref a] _ E0 hr.in1 I.env0.in1 (hb s [.ref a] I.kIn hl) (.cons rfl .nil) h) fun r s' hq => ?_
  cases r with
  | error er => exact passE0 pins σ H s er s' I hq
  | ok fl =>
    cases fl with
    | ret u =>
      obtain ⟨v, H', I3, rv, i, rfl, h0, h1, q3⟩ := I.after hq
      obtain ⟨t, rfl⟩ := (show ∃ t, u = Value.int i t from rv)
      exact ⟨⟨h0, h1⟩, .int i, H', I3.tok _, ⟨_, rfl⟩, q3⟩
    | next => exact False.elim hq
    | brk => exact False.elim hq
    | cont => exact False.elim hq
def lenI1 (T : Tbl) (φ : Sem) : List D -> Option D
  | [.ins c ns xs] => match T.res c "__len__" with
    | some nm => match φ nm [.ins c ns xs] none with
      | .ok (.int i) _ => if 0 <= i /\ i <= 1000000 then some (.int i) else none
      | _ => none
    | none => none
  | ds => lenD ds
theorem lenI1_ok {φ : Sem} {ds : List D} {d : D} (h : lenI1 T φ ds = some d) : lenD ds = some d \/ ∃ c ns xs nm i b, ds = [.ins c ns xs] /\ T.res c "__len__" = some nm /\ φ nm ds none = .ok (.int i) b /\ 0 <= i /\ i <= 1000000 /\ d = .int i := by
  unfold lenI1 at h
  split at h
  · split at h
    · split at h
      · obtain ⟨⟨h0, h1⟩, e⟩ := ite_some h
        exact .inr ⟨_, _, _, _, _, _, rfl, by assumption, by assumption, h0, h1, e.symm⟩
      · cases h
    · cases h
  · exact .inl h
theorem lenI_cb {φ : Sem} {ds : List D} {d : D} (h : lenI1 T φ ds = some d) : Cb W (fun xs H Q => rLenA W.K xs H Q \/ rLenI W φ xs H Q) ds d := by
  rcases lenI1_ok h with h | ⟨c, ns, xs, nm, i, b, rfl, h1, h2, h3, h4, rfl⟩
  · exact fun F H vs Q s y q => .inl (len_cb h F H vs Q s y q)
  · refine fun F H vs Q s y q => .inr ?_
    cases y with
    | cons y t =>
      cases t
      obtain ⟨a, dx, vs, rfl, ha, hc⟩ := shr_ins y
      refine ⟨a, c, nm, dx, _, rfl, ha, hc, h1, callV s (.cons y .nil) rfl h2 fun v H2 x2 y2 => ?_⟩
      rw [fz_isSh rfl] at y2
      cases y2
      exact ⟨i, rfl, h3, by omega, q _ F H2 x2 (rO_sh .int)⟩
def xLenU (φ : Sem) (as : XA W) : XP W := xCb (fun xs H Q => rLenA W.K xs H Q \/ rLenI W φ xs H Q) (lenI1 T φ) lenI_cb as
end
end Py
namespace Py
open PySem L2
section
variable {M : Model} {A : Around} {E : Value -> Shared -> Prop} {s : Shared} {pos : Pos} {f : Value} {first : List Value} {Q : Value -> Shared -> Prop}
theorem callWith_caller {P : Heap -> Prop} {args : List (Bool × PySem.Sem Value)} {keywords : List (Option Str × PySem.Sem Value)} (hplain : (args.any (·.1) || keywords.any (·.1.isNone)) = false)
    (hk : ∀ h, P h -> PySem.W.Looks M h (keeperOf f) Keeper.caller)
    (h : wpAny M A (evalArgs f true args keywords) (fun a s₁ => P s₁.heap /\ wpAny M A (call f (first ++ a.pos) a.kw) Q E s₁) E s) : wpAny M A (callWith pos f first args keywords) Q E s := by
  unfold callWith
  refine wpAny_bind (wpAny_holding (wpAny_mono h (fun a s₁ h₁ => wpAny_bind (wpAny_standAt ?_)) fun _ _ x => x))
  have L := hk _ h₁.1
  simp only [hplain]
  refine wpAny_bind (L.here ?_)
  dsimp only
  exact wpAny_bind (wpAny_mono (PyProof.Rows.wpAny_operate' h₁.2) (fun r s₂ hr => wpAny_bind (wpAny_holding (wpAny_point (wpAny_pure hr)))) fun _ _ x => x)
theorem keeper_inst {h : Heap} {a C dx : Addr} (e : h.get? a = some (PySem.W.instObj C dx)) : PySem.W.Looks M h (keeperOf (.ref a)) Keeper.caller := by
  unfold keeperOf
  exact (PySem.W.Looks.ld (part := none) e).andThen .now
theorem plain_fn {K : PySem.W.Frag} {h : Heap} {g : Addr} (X : K.In h) (e : PySem.W.fnIn K g = true) : PySem.W.Looks M h (callAny.plainCallee (.ref g)) true := by
  unfold PySem.W.fnIn at e
  split at e
  · rename_i hlk
    exact (PySem.W.Looks.ld (part := none) (X _ _ hlk)).andThen .now
  · cases e
theorem code_inst {prog : Program} {w : World} {K : PySem.W.Frag} {a C dx g : Addr} {us : List Value} {R : Result -> Shared -> Prop} (X : K.In s.heap) (e : s.heap.get? a = some (PySem.W.instObj C dx)) (k : Meth K C "__call__" g) (hf : PySem.W.fnIn K g = true)
    (h : codeAny (model prog w) A (.call (.ref g) ⟨.ref a :: us, []⟩) R s) : codeAny (model prog w) A (.call (.ref a) ⟨us, []⟩) R s := by
  refine codeAny_of_tree ?_
  show wpAny _ _ (callAny (.ref a) _) _ _ _
  refine PySem.W.nd_load e ?_
  show wpAny _ _ (callAny.viaDunder (.ref a) _) _ _ _
  unfold callAny.viaDunder
  have ty : PySem.W.Looks (model prog w) s.heap (typeOf (.ref a)) (.ref C) := (PySem.W.Looks.ld e).andThen .now
  have cl : PySem.W.Looks (model prog w) s.heap (specialOf (.ref a) "__call__") (some (.ref g)) := ty.andThen (PySem.W.looks_findIn X k.at_)
  refine wpAny_bind (cl.here ?_)
  dsimp only
  refine wpAny_bind ((PySem.W.bind_fn X (.ref a) (beq_iff_eq.mp k.fn)).here ?_)
  dsimp only
  refine wpAny_bind ((plain_fn X hf).here ?_)
  rw [if_pos rfl]
  exact wpAny_pure (a := Fin.again (.call (.ref g) ⟨.ref a :: us, []⟩)) (And.intro rfl h)
end
section
variable {T : Tbl} {W : Wd T}
def CallFn {T : Tbl} (W : Wd T) (K : PySem.W.Frag) : Prop := ∀ c nm g, W.has c -> T.res c "__call__" = some nm -> Meth K (W.cA c) (so "__call__") g -> PySem.W.fnIn K g = true
theorem callFn_of {T : Tbl} {W : Wd T} {K : PySem.W.Frag} (h : ∀ c nm, W.has c -> T.res c "__call__" = some nm -> ∃ x qual st dvs kws, MethAt K (W.cA c) "__call__" x qual st dvs kws) : CallFn W K := fun c nm g hc hn hm => by
  obtain ⟨x, qual, st, dvs, kws, D⟩ := h c nm hc hn
  obtain ⟨g2, fd, F, hm2⟩ := D.ex
  have e := hm2.at_
  rw [hm.at_] at e
  cases e
  obtain ⟨oc, od, dV, kV, doc, pm, an, cdv, ct, osl, rfl, lk, _⟩ := F.ex
  unfold PySem.W.fnIn
  rw [lk]
def tCallO {T : Tbl} (W : Wd T) (φ : Sem) (n : Nat) (b : Option Nat) (E : XK) (ta : TE) (t : TA) : TE := fun σ H Q => ta σ H fun x H1 => ∃ a, x = .ref a /\ t σ H1 fun vs H2 => ∃ c nm dx fs, H2 a = some (.ins (W.cA c) dx fs) /\ W.has c /\ T.res c "__call__" = some nm /\
  spR W n (φ nm) b (x :: vs) H2 Q E
theorem px_callOS {X : Cx} {E : St -> XK} {k n : Nat} {φ : Sem} {b : Option Nat} {x : Str} {p : Pos} {e : Expr} {es : List Expr} {ta : TE} {t : TA} {pos : Pos} (M : Mt X.prog X.w X.K X.mg X.base W k "__call__" n φ b) (hF : CallFn W X.K) (hx : ∀ σ, PassesAt (L2.CX X.prog X.w) X σ (E σ)) (hr : Room k X.A) (hK : W.K = X.K) (he : PE X (.Name x p) ta) (ha : PA X (e :: es) t)
    (hst : starEach (e :: es) X.env = (false, eval e X.env) :: starEach es X.env := by rfl) (hpl : (backTo pos (starEach es X.env)).any (·.1) = false := by rfl) :
    PE X (.Call (.Name x p) (e :: es) [] pos) (fun σ H Q => tCallO W φ n b (E σ) ta t σ H Q) := by
  refine ⟨fun pins s σ H Q I h => ?_⟩
  refine wpAny_Call_Name_kw (thn (he.run pins s σ H _ I h) fun u s1 ⟨x, H1, I1, rx, a, ex, q⟩ => ?_)
  subst ex
  obtain rfl : u = Value.ref a := rx
  refine callWith_caller (P := fun h => ∃ C dx, h.get? a = some (PySem.W.instObj C dx)) (by rw [hst]; show ((false || (backTo pos (starEach es X.env)).any (·.1)) || false) = false; rw [hpl]; rfl) (fun h ⟨C, dx, e⟩ => keeper_inst e) ?_
  rw [hst]
  refine Calls.evalArgs_plain ?_
  have z := ha.run pos pins s1 σ H1 _ I1 q
  rw [hst] at z
  refine thn z fun us s2 ⟨vs, H2, I2, r, c, nm, dx, fs, ea, hc, hn, q2⟩ => ?_
  obtain ⟨g, fd, ps, hm, F, hb⟩ := M.ex c nm hc hn
  obtain ⟨mA, O, _, _, _, _⟩ := ins_get I2.hok ea
  refine ⟨⟨_, _, O.obj⟩, ?_⟩
  refine wpAny_call (code_inst I2.kIn O.obj hm (hF c nm g hc hn hm) ?_)
  have hl : (Value.ref a :: us ++ []).length = ps.length := by
    rw [<- F.len _ _ _ _ q2, List.append_nil, List.length_cons, List.length_cons, r.length]
  refine codeAny_mono (F.run X.A X.stack s2 H2 ⟨.ref a :: us, []⟩ (.ref a :: us ++ []) (.ref a :: vs) Q (E σ) hr I2.env0 (hb s2 (.ref a :: us) I2.kIn hl) (by rw [List.append_nil]; exact .cons rfl r) q2) fun r s' hq => ?_
  cases r with
  | error er => exact hx σ pins H2 s2 er s' I2 hq
  | ok fl =>
    cases fl with
    | ret u => exact I2.after hq
    | next => exact False.elim hq
    | brk => exact False.elim hq
    | cont => exact False.elim hq
theorem px_callOX {X : Cx} {E : WX} {k n : Nat} {φ : Sem} {b : Option Nat} {x : Str} {p : Pos} {e : Expr} {es : List Expr} {ta : TE} {t : TA} {pos : Pos} (M : Mt X.prog X.w X.K X.mg X.base W k "__call__" n φ b) (hF : CallFn W X.K) (tk : Takes X E) (hr : Room k X.A) (hK : W.K = X.K) (he : PE X (.Name x p) ta) (ha : PA X (e :: es) t)
    (hst : starEach (e :: es) X.env = (false, eval e X.env) :: starEach es X.env := by rfl) (hpl : (backTo pos (starEach es X.env)).any (·.1) = false := by rfl) :
    PE X (.Call (.Name x p) (e :: es) [] pos) (fun σ H Q => tCallO W φ n b (WE E σ) ta t σ H Q) := px_callOS (E := fun σ => WE E σ) M hF (fun σ => L2.passAt tk σ) hr hK he ha hst hpl
def callO1 (T : Tbl) (φ : Sem) (n : Nat) : List D -> Rz
  | .ins c ns xs :: ds => match T.res c "__call__" with
    | some nm => if ds.length + 1 = n then φ nm (.ins c ns xs :: ds) none else .no
    | none => .no
  | _ => .no
theorem callO1_ok {φ : Sem} {n : Nat} {d : D} {ds : List D} (h : callO1 T φ n (d :: ds) ≠ .no) : ∃ c ns xs nm, d = .ins c ns xs /\ T.res c "__call__" = some nm /\ (d :: ds).length = n /\ callO1 T φ n (d :: ds) = φ nm (d :: ds) none := by
  cases d <;> first | (exact absurd rfl h) | skip
  rename_i c ns xs
  cases e : T.res c "__call__" with
  | none => exact absurd (by show (match T.res c "__call__" with | some nm => if ds.length + 1 = n then φ nm (.ins c ns xs :: ds) none else Rz.no | none => .no) = .no; rw [e]) h
  | some nm =>
    have e2 : callO1 T φ n (.ins c ns xs :: ds) = if ds.length + 1 = n then φ nm (.ins c ns xs :: ds) none else Rz.no := by
      show (match T.res c "__call__" with | some nm => if ds.length + 1 = n then φ nm (.ins c ns xs :: ds) none else Rz.no | none => .no) = _
      rw [e]
    by_cases hh : ds.length + 1 = n
    · rw [if_pos hh] at e2
      exact ⟨c, ns, xs, nm, rfl, e, hh, e2⟩
    · rw [if_neg hh] at e2
      exact absurd e2 h
end
end Py
namespace L2
open PySem PySem.Spec PyProof.Rows
end L2
namespace Py
open PySem L2
section
variable {T : Tbl} {W : Wd T}
def cutL {α : Type} (xs : List α) (lo hi : Option Int) : List α := (xs.drop (HT.sIx xs.length 0 lo)).take (HT.sIx xs.length xs.length hi - HT.sIx xs.length 0 lo)
theorem Shrs.cut {F : Hp} {ds : List D} {vs : List V} (h : Shrs W F ds vs) (lo hi : Option Int) : Shrs W F (cutL ds lo hi) (cutV vs lo hi) := by
  unfold cutL cutV
  rw [h.length]
  exact (Shrs.take _ (Shrs.drop _ h))
def intO : D -> Option (Option Int)
  | .int i => some (some i)
  | _ => none
def tO {T : Tbl} {W : Wd T} : Option (XP W) -> TO
  | none => tNoPart
  | some p => tPart p.t
def evI {T : Tbl} {W : Wd T} (o : Option (XP W)) (env : Py.Env) : Option (Option Int) := match o with
  | none => some none
  | some p => (p.evV env).bind intO
theorem evI_ok {o : Option (XP W)} {env : Py.Env} {i : Option Int} (h : evI o env = some i) : ∀ (e : Ent) (F : Hp) (σ : St) (H : Hp) (L : List Addr) (Q : Option Int -> Hp -> Prop), Rel W e env F σ H L -> (∀ F' H', Ext F H F' H' -> Q i H') -> tO o σ H Q := by
  intro e F σ H L Q r q
  cases o with
  | none => cases h; exact q F H (.refl r.sF)
  | some p =>
    obtain ⟨d, e1, e2⟩ := Option.bind_eq_some_iff.mp h
    refine p.sV e1 e F σ H L _ r fun v F1 H1 x1 y1 => ?_
    cases d <;> first | (cases e2; done) | skip
    cases e2
    cases y1
    exact ⟨_, rfl, q F1 H1 x1⟩
def slE (d : Option D) (lo hi : Option (Option Int)) : Option (Kd × D) := d.bind fun d => (seqOf d).bind fun p => if p.1 = false then lo.bind fun l => hi.map fun u => (.fr, .olst (cutL p.2 l u)) else none
def xSl (a : XP W) (lo hi : Option (XP W)) : XP W where
  t := tSl (rSlL W.K) a.t (tO lo) (tO hi)
  ev env := slE (a.evK env) (evI lo env) (evI hi env)
  snd := fun {env k d} e => by
    obtain ⟨d1, e1, e⟩ := Option.bind_eq_some_iff.mp e
    obtain ⟨⟨b, xs⟩, e3, e⟩ := Option.bind_eq_some_iff.mp e
    split at e
    · rename_i hb
      have hb : b = false := hb
      subst hb
      obtain ⟨l, e4, e⟩ := Option.bind_eq_some_iff.mp e
      obtain ⟨u, e5, e⟩ := Option.map_eq_some_iff.mp e
      cases e
      intro e' F σ H L Q r q
      refine a.sK e1 e' F σ H L _ r fun v F1 H1 x1 ⟨L1, o⟩ => ?_
      obtain ⟨a, vs, rfl, sh, sq⟩ := seqOf_ok x1.s o e3
      refine evI_ok e4 e' F1 σ H1 L _ (r.ext x1) fun F2 H2 x2 => evI_ok e5 e' F2 σ H2 L _ ((r.ext x1).ext x2) fun F3 H3 x3 => ?_
      refine ⟨a, vs, rfl, (x2.trans x3).h.seq sq, fun p hp => q _ F3 _ (((x1.trans x2).trans x3).trans (.newH x3.s hp)) ⟨[p], .olst upd_same ((sh.mono (x2.trans x3).f).cut l u).owns, by simp, fun x m => by
        rw [List.mem_singleton.mp m]; exact ⟨((x1.trans x2).trans x3).h.free hp, x3.s.free hp⟩⟩⟩
    · cases e
end
section
variable {T : Tbl} {W : Wd T} {env : Py.Env} {β : Type} {enc : β -> D} {dat : β -> PyData}
end
end Py
namespace Py
open PySem L2
section
variable {T : Tbl} {W : Wd T} {env env' : Py.Env} {P : List Nat} {E : WX}
theorem Rel.comp {e : Ent} {F F' H H' : Hp} {σ σ' : St} {L L' : List Addr} (r1 : Rel W e env F σ H L) (r2 : Rel W ⟨F, H, L, e.pins⟩ env' F' σ' H' L') : Rel W e env' F' σ' H' L' := by
  have up : ∀ a, (a ∈ L \/ H a = none) -> a ∈ e.L0 \/ e.H0 a = none := fun a h => h.elim (r1.ln a) r1.h0
  refine ⟨r2.sF, r2.slots, r2.nd, r2.dj, r1.s0.trans r2.s0, fun a o h => ?_, fun a o h1 h2 => r2.fr a o (fun z => ?_) (r1.fr a o h1 h2), fun a h => up a (r2.ln a h), r2.pin⟩
  · rcases r2.nw a o h with z | z | z
    · exact r1.nw a o z
    · rcases up a (.inr z) with y | y
      · exact .inr (.inr y)
      · exact .inr (.inl y)
    · rcases up a (.inl z) with y | y
      · exact .inr (.inr y)
      · exact .inr (.inl y)
  · rcases r1.ln a z with y | y
    · exact h1 y
    · rw [h2] at y; cases y
theorem Rel.base {e : Ent} {F H : Hp} {σ : St} {L : List Addr} (r : Rel W e env F σ H L) : Rel W ⟨F, H, L, e.pins⟩ env F σ H L :=
  ⟨r.sF, r.slots, r.nd, r.dj, Same.refl _, fun a o h => .inl h, fun a o _ h => h, fun a h => .inl h, r.pin⟩
inductive RL where
  | ok (ds : List D) (env : Py.Env) | exn (x : Exn) (env : Py.Env) | no
def ALr {T : Tbl} (W : Wd T) (P : List Nat) (E : WX) (t : TA) (env : Py.Env) (r : RL) : Prop := r ≠ .no ->
  ∀ (e : Ent) (F : Hp) (σ : St) (H : Hp) (L : List Addr) (Q : List V -> Hp -> Prop), P = e.pins.map (·.1) -> Rel W e env F σ H L ->
    (∀ ds env' vs F' H' L', r = .ok ds env' -> Rel W e env' F' σ H' L' -> Shrs W F' ds vs -> Q vs H') ->
    (∀ x env' F' H' L' C dd, r = .exn x env' -> Rel W e env' F' σ H' L' -> IsExn W F' x C dd -> E C dd σ H') -> t σ H Q
structure XMs {T : Tbl} (W : Wd T) where
  t : WX -> TA
  ev : List Nat -> Py.Env -> RL
  snd : ∀ P E env, ALr W P E (t E) env (ev P env)
def xmsNil {T : Tbl} (W : Wd T) : XMs W where
  t _ := tNil
  ev _ env := .ok [] env
  snd := fun P E env hn e F σ H L Q hP r c cx => c [] env [] F H L rfl r .nil
def RM.thenL (r : RM) (f : D -> Py.Env -> RL) : RL := match r with
  | .ok d e => f d e
  | .exn x e => .exn x e
  | .no => .no
def RL.thenL (r : RL) (f : List D -> Py.Env -> RL) : RL := match r with
  | .ok d e => f d e
  | .exn x e => .exn x e
  | .no => .no
def RL.thenM (r : RL) (f : List D -> Py.Env -> RM) : RM := match r with
  | .ok d e => f d e
  | .exn x e => .exn x e
  | .no => .no
def consL (d : D) (ds : List D) (e : Py.Env) : RL := .ok (d :: ds) e
def consK {T : Tbl} {W : Wd T} (ms : XMs W) (P : List Nat) (d : D) (e : Py.Env) : RL := (ms.ev P e).thenL (consL (fz d))
def xmsCons (m : XM W) (ms : XMs W) : XMs W where
  t E := tCons (m.t E) (ms.t E)
  ev P env := (m.ev P env).thenL (consK ms P)
  snd := fun P E env hn e F σ H L Q hP r c cx => by
    have hm : m.ev P env ≠ .no := fun z => hn (by rw [z]; rfl)
    refine m.snd P E env hm e F σ H L _ hP r (fun d env1 v F1 H1 L1 M h r1 o nd kk => ?_) fun x env1 F1 H1 L1 C dd h r1 ie => cx x env1 F1 H1 L1 C dd (by rw [h]; rfl) r1 ie
    rw [h] at hn c cx
    have hn : (ms.ev P env1).thenL (consL (fz d)) ≠ .no := hn
    have hm2 : ms.ev P env1 ≠ .no := fun z => hn (by rw [z]; rfl)
    obtain ⟨F2, r2, sh, _⟩ := r1.frzTmp o nd kk
    refine ms.snd P E env1 hm2 ⟨F2, H1, L1, e.pins⟩ F2 σ H1 L1 _ hP r2.base (fun ds env3 vs F3 H3 L3 h3 r3 s3 => ?_) fun x env3 F3 H3 L3 C dd h3 r3 ie => ?_
    · exact c (fz d :: ds) env3 (v :: vs) F3 H3 L3 (show (ms.ev P env1).thenL (consL (fz d)) = _ by rw [h3]; rfl) (r2.comp r3) (.cons (sh.mono r3.s0) s3)
    · exact cx x env3 F3 H3 L3 C dd (show (ms.ev P env1).thenL (consL (fz d)) = _ by rw [h3]; rfl) (r2.comp r3) ie
inductive RT where
  | ok (b : Bool) (env : Py.Env) | exn (x : Exn) (env : Py.Env) | no
def ATr {T : Tbl} (W : Wd T) (P : List Nat) (E : WX) (t : TT) (env : Py.Env) (r : RT) : Prop := r ≠ .no ->
  ∀ (e : Ent) (F : Hp) (σ : St) (H : Hp) (L : List Addr) (Q : Bool -> Hp -> Prop), P = e.pins.map (·.1) -> Rel W e env F σ H L ->
    (∀ b env' F' H' L', r = .ok b env' -> Rel W e env' F' σ H' L' -> Q b H') ->
    (∀ x env' F' H' L' C dd, r = .exn x env' -> Rel W e env' F' σ H' L' -> IsExn W F' x C dd -> E C dd σ H') -> t σ H Q
structure XTM {T : Tbl} (W : Wd T) where
  t : WX -> TT
  ev : List Nat -> Py.Env -> RT
  snd : ∀ P E env, ATr W P E (t E) env (ev P env)
def RT.of (o : Option Bool) (e : Py.Env) : RT := match o with
  | some b => .ok b e
  | none => .no
def RT.then (r : RT) (f : Bool -> Py.Env -> RT) : RT := match r with
  | .ok d e => f d e
  | .exn x e => .exn x e
  | .no => .no
def RT.thenS (r : RT) (f : Bool -> Py.Env -> RS) : RS := match r with
  | .ok d e => f d e
  | .exn x e => .ex x e
  | .no => .no
def RM.thenM (r : RM) (f : D -> Py.Env -> RM) : RM := match r with
  | .ok d e => f d e
  | .exn x e => .exn x e
  | .no => .no
theorem Sat.base {e : Ent} {F H : Hp} {σ : St} {L : List Addr} {A : AEnds} {Dn : Ends} (r : Rel W e env F σ H L) (s : Sat W e E A Dn) : Sat W ⟨F, H, L, e.pins⟩ E A Dn := by
  refine ⟨fun env' F' σ' H' L' a r' => s.nx _ _ _ _ _ a (r.comp r'), fun d env' F' σ' H' L' v M a r' o nd k => s.rt _ _ _ _ _ _ _ _ a (r.comp r') o nd fun b hb => ⟨(k b hb).1, ?_⟩, fun env' F' σ' H' L' a r' => s.bk _ _ _ _ _ a (r.comp r'), fun env' F' σ' H' L' a r' => s.ct _ _ _ _ _ a (r.comp r'), fun x env' F' σ' H' L' C dd a r' ie => s.ex _ _ _ _ _ _ _ _ a (r.comp r') ie⟩
  rcases (k b hb).2 with z | z
  · exact r.ln b z
  · exact r.h0 z
end
end Py
namespace Py
open PySem L2
section
variable {CX : CXT} {P : Program} {w : World} {K : PySem.W.Frag} {mg : Str -> Option Value} {base : Heap}
theorem fn_at {j : Nat} {g : Addr} {gd : FuncData} {nm qual : Str} {st : Stmt} {N ps : List Str} (G : FunD K nm qual (defArgs st) (defBody st) (defScope st) [] [] g gd) (S : FnScope N ps (defScope st))
    {A : Around} {out : List PySem.Env} {s0 : Shared} {H0 : Hp} {ar : Args} {ws : List Value} {xs : List V} {Q : VK} {E : XK} (room : Room (j + 1) A) (at0 : Env0 P w K mg base A out s0 H0) (bd : BindsTo s0 gd ar (ps.zip ws)) (rel : Vals xs ws) (len : xs.length = ps.length)
    (bdy : ∀ cdv : Value, ∃ t, PSs (cxOf CX P w K mg base N qual (defScope st) g cdv A out s0 H0 E) (defBody st) t /\ t { nx := fun _ h => Q .non h, rt := Q } (L2.start N xs) H0) :
    codeAny (model P w) A (.call (.ref g) ar) (CR CX out P w H0 s0 Q E) s0 := by
  obtain ⟨_, _, _, _, _, _, _, cdv, _, _, rfl, look, cod, _, _⟩ := G.ex
  have inK : K.In s0.heap := at0.mod.kin.keeps fun b o q => (at0.bs b o q).1
  have nl : s0.heap.NoLimit := at0.mod.nolimit.keeps fun b o q => (at0.bs b o q).1
  have kinds : ∀ z ∈ ps.zip ws, (defScope st).names.lookup z.1 = some .local \/ ((defScope st).names.lookup z.1 = some .cell /\ ((cellsFrom (s0.heap.objs.size + 1) (defScope st).names []).lookup z.1).isSome = true) := by
    rintro ⟨n, v⟩ hz
    refine (S.par n (List.of_mem_zip hz).1).imp id fun q => ⟨q, ?_⟩
    exact PySem.W.cellsFrom_some _ _ _ (.inl q)
  refine codeAny_call_function room.depth (inK _ _ look) rfl S.co S.gen rfl (PySem.W.codeRec_of inK cod) (bd _ _ _ _ ?_)
  refine wpAny_newFunctionEnv_cells S.kind kinds fun env1 e1 s1 ic => ?_
  subst e1
  refine ⟨nl.keeps ic.toInCall.keep, codeAny_func ?_⟩
  obtain ⟨t, hp, hq⟩ := bdy cdv
  have I := inv_start (CX := CX) (E := E) S room.hd at0 len rel ic
  refine wpAny_mono (hp.run [] s1 (L2.start N xs) H0 _ I hq) (fun fl s2 q => ?_) fun e s2 q => q
  have fin : ∀ {σ2 : St} {H2 : Hp} {v : V} {u : Value}, Inv (cxOf CX P w K mg base N qual (defScope st) g cdv A out s0 H0 E) [] σ2 H2 s2 -> RelV v u -> Q v H2 -> CE out P w H0 s0 Q u s2 := fun J rv q => ⟨_, _, J.os, J.bare, J.base, J.hok, rv, q⟩
  cases fl with
  | ret u => obtain ⟨v, _, _, J, rv, q⟩ := q; exact fin J rv q
  | next => obtain ⟨_, _, J, q⟩ := q; exact fin (v := .non) (u := .none) J rfl q
  | brk => obtain ⟨_, _, _, q⟩ := q; exact False.elim q
  | cont => obtain ⟨_, _, _, q⟩ := q; exact False.elim q
structure ItAt (P : Program) (w : World) (K : PySem.W.Frag) (mg : Str -> Option Value) (base : Heap) (C : Addr) (f : String) : Prop where
  ex : ∃ g, Meth K C "__iter__" g /\ ∀ (A : Around) (out : List PySem.Env) (s : Shared) (H : Hp) (a dx l : Addr) (fs : List (Str × V)) (zs : List V), Room 1 A -> Env0 P w K mg base A out s H -> H a = some (.ins C dx fs) -> fs.lookup (so f) = some (.ref l) -> SqL K H l zs ->
    codeAny (model P w) A (.call (.ref g) ⟨[.ref a], []⟩) (CR CX0 out P w H s (fun v H' => ∃ it, v = .ref it /\ H it = none /\ s.heap.objs.size <= it /\ H' = upd H it (ItO l it 0)) E0) s
theorem it_of {C : Addr} {f : String} {nm qual : Str} {st : Stmt} {N ps : List Str} (D : ∃ g fd, FunD K nm qual (defArgs st) (defBody st) (defScope st) [] [] g fd /\ Meth K C "__iter__" g) (S : FnScope N ps (defScope st)) (bp : BindsP nm qual st ps) (one : ps.length = 1) (hN : 0 < N.length) (hc : Cls K C) (hn : NoAttr K C (so f))
    (bdy : ∀ (g : Addr) (cdv : Value) (A : Around) (out : List PySem.Env) (s : Shared) (H : Hp), PSs (cxOf CX0 P w K mg base N qual (defScope st) g cdv A out s H E0) (defBody st) (tRet (tCB (ItX.rIterN K s.heap.objs.size) (tCons (tFld K (tVar 0) (so f)) tNil)))) : ItAt P w K mg base C f := by
  obtain ⟨g, fd, F, M⟩ := D
  refine ⟨g, M, fun A out s H a dx l fs zs room e0 ha hl hz => ?_⟩
  have b := F.bindsN bp s [.ref a] (e0.mod.kin.keeps fun b o q => (e0.bs b o q).1) (by simp [one])
  refine fn_at (j := 0) (xs := [V.ref a]) (ws := [Value.ref a]) F S room e0 (by simpa using b) (.cons (show RelV (V.ref a) (Value.ref a) from rfl) .nil) (by simp [one]) fun cdv => ⟨_, bdy g cdv A out s H, ?_⟩
  have h0 : (L2.start N [V.ref a])[0]? = some (some (.ref a)) := rfl
  exact ⟨_, h0, a, C, dx, fs, _, rfl, ha, hc, hn, hl, l, zs, rfl, hz, fun it h1 h2 => ⟨it, rfl, h1, h2, rfl⟩⟩
end
section
variable {X : Cx} {pins : List (Addr × Obj)} {σ : St} {H : Hp} {s : Shared}
theorem own_iter {A : Around} {a dx l C : Addr} {f : String} {fs : List (Str × V)} {zs : List V} {Q : Value -> Shared -> Prop} (M : ItAt X.prog X.w X.K X.mg X.base C f) (sb : Sub X 1 A) (I : Inv X pins σ H s) (ha : H a = some (.ins C dx fs)) (hl : fs.lookup (so f) = some (.ref l)) (hz : SqL X.K H l zs)
    (q : ∀ s' it, Inv X pins σ H s' -> s.heap.objs.size <= it -> s'.heap.get? it = some (GNX.itObj l 0) -> FpOk X pins H it -> Q (.ref it) s') : wpAny (model X.prog X.w) A (pyIter (.ref a)) Q X.xe s := by
  obtain ⟨g, mg, run⟩ := M.ex
  obtain ⟨mA, J, _⟩ := ins_get I.hok ha
  obtain ⟨od, J, _⟩ := J.look
  obtain ⟨m, hF⟩ := I.fr
  refine PySem.W.owit_iter hF I.ok.mod.kin J mg.at_ mg.fn ?_
  have e := I.env0
  have e0 : Env0 X.prog X.w X.K X.mg X.base A X.stack s H := ⟨by rw [sb.fr]; exact e.frames, e.mod, e.bs, e.bsz, e.funs, e.frf, e.hok, e.bare⟩
  refine wpAny_call (codeAny_mono (run A X.stack s H a dx l fs zs sb.room e0 ha hl hz) fun r s' hq => ?_)
  cases r with
  | error er => exact (fun _ _ _ _ _ _ _ h => h.elim : Passes CX0 X E0) pins σ H s er s' I hq
  | ok fl =>
    cases fl with
    | next => exact False.elim hq
    | brk => exact False.elim hq
    | cont => exact False.elim hq
    | ret u =>
      obtain ⟨v, H', I', rv, it, rfl, hn, hs, rfl⟩ := I.after hq
      obtain rfl : u = Value.ref it := rv
      have hg := itO_get I' upd_same
      have I2 := ItX.inv_drop I' (φ := _) upd_same
      rw [ItX.dropH_upd hn] at I2
      have hT : s'.TypeIs (.ref it) "list_iterator" := ⟨_, hg, rfl⟩
      unfold PySem.W.OwitIt
      refine wpAny_specialOf (name := Str.ofString "__next__") hT slot_listiter_next.lookup ?_
      refine q s' it I2 hs hg ?_
      have fp := ItX.inv_fp I' upd_same (Nat.le_trans I.sz hs)
      rw [ItX.dropH_upd hn] at fp
      exact fp
end
section
variable {prog : Program} {w : World}
end
section
variable {T : Tbl} {W : Wd T}
structure Its (P : Program) (w : World) (K : PySem.W.Frag) (mg : Str -> Option Value) (base : Heap) {T : Tbl} (W : Wd T) : Prop where
  at_ : ∀ c f, W.has c -> T.it c = some f -> ItAt P w K mg base (W.cA c) f
def InsL {T : Tbl} (W : Wd T) (H : Hp) (a l : Addr) (zs : List V) : Prop := ∃ c f dx fs, W.has c /\ T.it c = some f /\ H a = some (.ins (W.cA c) dx fs) /\ fs.lookup (so f) = some (.ref l) /\ SqL W.K H l zs
def iOwn {T : Tbl} (W : Wd T) (tl : TE) : TI := fun σ H R => tl σ H fun x H1 => ∃ a l zs, x = .ref a /\ InsL W H1 a l zs /\ R (Itl W.K l) H1
theorem pi_own {X : Cx} {tg l : Expr} {tl : TE} (M : Its X.prog X.w X.K X.mg X.base W) (hr : Room 1 X.A) (hK : W.K = X.K) (hl : PE X l tl) : PI X tg l (iOwn W tl) := by
  refine ⟨fun pins s σ H R I h => ?_⟩
  refine thn (hl.run pins s σ H _ I h) fun v s1 ⟨x, H1, I1, r1, a, l, zs, e, ⟨c, f, dx, fs, hc, hf, ha, hlk, hz⟩, q⟩ => ?_
  subst e
  cases r1
  refine own_iter (M.at_ c f hc hf) ⟨hr, rfl⟩ I1 ha hlk (hK ▸ hz) fun s2 it I2 hs hg fp => ?_
  refine ⟨it, [it], _, _, H1, rfl, I2, turn_list l it, ⟨_, hg, rfl, rfl⟩, fun b hb => ?_, hK ▸ q⟩
  obtain rfl : b = it := by simpa using hb
  exact fp
end
end Py
namespace Py
open PySem L2
section
variable {T : Tbl} {W : Wd T} {X : Cx} {pins : List (Addr × Obj)} {σ : St} {H : Hp} {s : Shared}
theorem sub_env {A : Around} {n : Nat} (sb : Sub X n A) (I : Inv X pins σ H s) : Env0 X.prog X.w X.K X.mg X.base A X.stack s H :=
  have e := I.env0
  ⟨by rw [sb.fr]; exact e.frames, e.mod, e.bs, e.bsz, e.funs, e.frf, e.hok, e.bare⟩
theorem own_len {A : Around} {k : Nat} {φ : Sem} {a dx : Addr} {c nm : String} {fs : List (Str × V)} {Q : Int -> Hp -> Prop} {E : Value -> Shared -> Prop} (M : Mt X.prog X.w X.K X.mg X.base W k "__len__" 1 φ none) (sb : Sub X (k + 1) A) (hK : W.K = X.K) (I : Inv X pins σ H s) (ea : H a = some (.ins (W.cA c) dx fs))
    (hc : W.has c) (hn : T.res c "__len__" = some nm) (h : spR W 1 (φ nm) none [.ref a] H (fun v H' => ∃ i, v = .int i /\ 0 <= i /\ i < 2 ^ 63 /\ Q i H') E0) :
    wpAny (model X.prog X.w) A (call (.builtin "len") [.ref a]) (fun u s' => ∃ i t H', u = .int i t /\ 0 <= i /\ i < 2 ^ 63 /\ Inv X pins σ H' s' /\ Q i H') E s := by
  obtain ⟨g, fd, ps, hm, F, hb⟩ := M.ex c nm hc hn
  obtain ⟨mA, O, _, _, _, _⟩ := ins_get I.hok ea
  obtain ⟨od, J, _⟩ := O.look
  have hl : ([Value.ref a] ++ []).length = ps.length := by rw [<- F.len _ _ _ _ h]; rfl
  have sb1 := Sub.in1 sb
  refine len_own I.kIn J hm.at_ hm.fn (wpAny_call ?_)
  refine codeAny_mono (F.run A.in1 X.stack s H ⟨[.ref a], []⟩ [.ref a] [.ref a] _ E0 sb1.room (sub_env sb1 I) (hb s [.ref a] I.kIn hl) (.cons rfl .nil) h) fun r s' hq => ?_
  cases r with
  | error er => exact (cx_no hq).elim
  | ok fl =>
    cases fl with
    | ret u =>
      obtain ⟨v, H', I3, rv, i, rfl, h0, h1, q3⟩ := I.after hq
      obtain ⟨t, rfl⟩ := (show ∃ t, u = Value.int i t from rv)
      exact ⟨⟨h0, h1⟩, i, _, H', rfl, h0, h1, I3.tok _, q3⟩
    | next => exact False.elim hq
    | brk => exact False.elim hq
    | cont => exact False.elim hq
theorem ext_loop {A : Around} {q it l : Addr} {zs : List V} {Rs : Result -> Shared -> Prop} (hh : A.in1.handled = none) (hz : zs.length <= sizeLine) (hne : it ≠ q) (hs : ∀ xs, SqL X.K (upd H q (.lst xs)) l zs) (hf : ∀ xs, FpOk X pins (upd H q (.lst xs)) it)
    (done : ∀ s', Inv X pins σ (upd H q (.lst zs)) s' -> Rs (.ok (.ret .none)) s') :
    ∀ (n i : Nat) (s : Shared), zs.length - i = n -> i <= zs.length -> Inv X pins σ (upd H q (.lst (zs.take i))) s -> s.heap.IsListIter it l i -> codeAny (model X.prog X.w) A (.builtin "list.extend.loop" ⟨[.ref q, .ref it, .none], []⟩) Rs s := by
  intro n
  induction n with
  | zero =>
    intro i s hn hi I st
    obtain rfl : i = zs.length := by omega
    obtain ⟨its, rv, p, hz'⟩ := I.list (hs _)
    have hl := rv.length
    obtain ⟨f0, f1, f2, f3, f4, f5⟩ := hf (zs.take zs.length)
    refine codeAny_builtin PySem.F.entry_extend_loop ?_
    rw [Around.under_plainId PySem.F.plain_extend_loop _]
    show wpAny _ A.in1 (pyNext (.ref it) >>= _) _ _ s
    refine wpAny_bind (wpAny_pyNext_list_end hh st p.isList (by simp; omega) fun h' eb => ?_)
    have I1 := I.turned (t' := s.toks) (fun b o hb e => eb b o hb e) f0 f1 f3 f4 f5
    rw [List.take_length] at I1
    exact wpAny_pure (done _ I1)
  | succ n ih =>
    intro i s hn hi I st
    obtain ⟨its, rv, p, hz'⟩ := I.list (hs _)
    have hx : zs[i]? = some (zs[i]'(by omega)) := List.getElem?_eq_getElem (by omega)
    obtain ⟨u, hu, ru⟩ := rv.get hx
    obtain ⟨f0, f1, f2, f3, f4, f5⟩ := hf (zs.take i)
    refine codeAny_builtin PySem.F.entry_extend_loop ?_
    rw [Around.under_plainId PySem.F.plain_extend_loop _]
    show wpAny _ A.in1 (pyNext (.ref it) >>= _) _ _ s
    refine wpAny_bind (wpAny_pyNext_list_item st p.isList (x := u) (by simpa using hu) fun h' st' sb => ?_)
    have I1 : Inv X pins σ (upd H q (.lst (zs.take i))) { s with heap := h' } := I.turned (t' := s.toks) (fun b o hb e => (sb.2 b hb).trans e) f0 f1 f3 f4 f5
    show wpAny _ A.in1 (updateSeq q (·.push u) >>= _) _ _ _
    obtain ⟨z, its2, k, r2, hl, e⟩ := I1.lstM upd_same
    have hlen : (zs.take i).length = i := by rw [List.length_take]; omega
    have ht : zs.take (i + 1) = zs.take i ++ [zs[i]'(by omega)] := by rw [List.take_add_one, hx]; rfl
    refine wpAny_bind (wpAny_updateSeq e rfl (wpAny_pure ⟨plainId_quiet PySem.F.plain_extend_loop _, ?_⟩) (by rw [List.size_toArray]; omega) (by show (its2.toArray.push u).size <= sizeLine + 1; rw [Array.size_push, List.size_toArray]; omega))
    have I2 := I1.lset (f := (·.push u)) (its' := its2 ++ [u]) (ys := zs.take (i + 1)) (t' := s.toks) upd_same e (by simp) (by rw [ht]; exact r2.append (.cons ru .nil)) (by rw [List.length_take]; omega)
    rw [upd_upd] at I2
    exact ih (i + 1) _ (by omega) (by omega) I2 (st'.at fun o e => (Heap.get?_update_other _ _ (Ne.symm hne)).trans e)
theorem own_hint {A : Around} {k : Nat} {φ : Sem} {a dx : Addr} {c nm : String} {fs : List (Str × V)} {Q : Hp -> Prop} {R : Bool -> Shared -> Prop} (M : Mt X.prog X.w X.K X.mg X.base W k "__len__" 1 φ none) (sb : Sub X (k + 1) A) (hK : W.K = X.K) (I : Inv X pins σ H s) (ea : H a = some (.ins (W.cA c) dx fs))
    (hc : W.has c) (hn : T.res c "__len__" = some nm) (h : spR W 1 (φ nm) none [.ref a] H (fun v H' => ∃ i, v = .int i /\ 0 <= i /\ i <= 1000000 /\ Q H') E0) (q : ∀ b s' H', Inv X pins σ H' s' -> Q H' -> R b s') :
    wpAny (model X.prog X.w) A (Builtin.List.listLengthHint (.ref a)) R X.xe s := by
  obtain ⟨g, fd, ps, hm, F, hb⟩ := M.ex c nm hc hn
  obtain ⟨mA, O, _, _, _, _⟩ := ins_get I.hok ea
  obtain ⟨od, J, _⟩ := O.look
  unfold Builtin.List.listLengthHint
  refine wpAny_bind (wpAny_bind (J.type.here ((PySem.W.looks_findIn I.kIn hm.at_).here ?_)))
  refine PySem.W.KFB.if_not rfl ?_
  show wpAny _ _ (rule "list.length-hint.len" >>= _) _ _ _
  refine wpAny_bind (wpAny_rule ?_)
  refine wpAny_bind (wpAny_attempt (wpAny_mono (own_len (E := fun _ _ => False) (Q := fun i H' => i <= 1000000 /\ Q H') M sb hK I ea hc hn ?_) (fun u s' hu => ?_) fun e s' he => (show False from he).elim))
  · obtain ⟨F', args, L0, h1, h2, h3, h4, h5, h6, h7, h8⟩ := h
    refine ⟨F', args, L0, h1, h2, h3, h4, h5, h6, fun d bd e F2 H2 v M Mb p o ob nd kk => ?_, h8⟩
    obtain ⟨i, rfl, z0, z1, z2⟩ := h7 d bd e F2 H2 v M Mb p o ob nd kk
    exact ⟨i, rfl, z0, by omega, z1, z2⟩
  · obtain ⟨i, t, H', rfl, h0, h1, I', hle, hq⟩ := hu
    show wpAny _ _ (if Builtin.List.listTooLong i.toNat = true then _ else _) _ _ _
    rw [if_neg (by rw [notLongL (Nat.le_trans (show i.toNat <= 1000000 by omega) (by decide))]; decide)]
    exact wpAny_pure (q _ s' H' I' hq)
def rLstO {T : Tbl} (W : Wd T) (φ : Sem) : List V -> Hp -> VK -> Prop := fun xs H Q => ∃ a c f l dx fs zs nm, xs = [.ref a] /\ W.has c /\ T.it c = some f /\ T.res c "__len__" = some nm /\ H a = some (.ins (W.cA c) dx fs) /\ fs.lookup (so f) = some (.ref l) /\ SqL W.K H l zs /\ zs.length <= 1000000 /\
  ∀ q, H q = none -> spR W 1 (φ nm) none [.ref a] (upd H q (.lst [])) (fun v H' => ∃ i, v = .int i /\ 0 <= i /\ i <= 1000000 /\ H' q = some (.lst []) /\ SqL W.K H' l zs /\ (∀ xs, SqL W.K (upd H' q (.lst xs)) l zs) /\ Q (.ref q) (upd H' q (.lst zs))) E0
theorem call_listI {k : Nat} {φ : Sem} (M : Mt X.prog X.w X.K X.mg X.base W k "__len__" 1 φ none) (N : Its X.prog X.w X.K X.mg X.base W) (hr : Room (k + 3) X.A) (hK : W.K = X.K) : CallR X (.type "list") (rLstO W φ) := by
  rintro pins s σ H xs us Q I rv ⟨a, c, f, l, dx, fs, zs, nm, rfl, hc, hf, hn, ea, hlk, hz, hzl, hq⟩
  cases rv with
  | @cons _ u _ _ ru rt =>
  cases rt
  obtain rfl : u = Value.ref a := ru
  have sb : Sub X (k + 1) X.A.in1.in1 := Sub.in1 (Sub.in1 (⟨hr, rfl⟩ : Sub X (k + 3) X.A))
  refine callType_codes (Q₁ := fun obj s₁ => obj = .ref s.heap.objs.size /\ s₁ = { s with heap := s.heap.push { cls := .type "list", data := .seq #[] } }) PySem.F.called_list (PySem.F.typeCall_list_1 _) PySem.F.entry_list_init
    (code_list_new _ ⟨rfl, rfl⟩) fun obj s₁ h₁ => ?_
  obtain ⟨rfl, rfl⟩ := h₁
  have hS : (s.heap.push { cls := .type "list", data := .seq #[] }).get? s.heap.objs.size = some { cls := .type "list", data := .seq #[] } := Heap.get?_push_size _ rfl
  refine ⟨⟨_, hS, rfl⟩, PySem.F.args_list_init_2 _ _, ?_⟩
  have fr : H s.heap.objs.size = none := I.hok.fresh (Nat.le_refl _)
  have hsp := hq _ fr
  generalize hqq : s.heap.objs.size = q at *
  have I1 : Inv X pins σ (upd H q (.lst [])) { s with heap := s.heap.push { cls := .type "list", data := .seq #[] } } := by rw [<- hqq]; exact I.lnew (its := []) (t' := s.toks) .nil (Nat.zero_le _)
  show wpAny _ _ (do let old <- Builtin.List.listItems (.ref q); Builtin.List.listUpdate (.ref q) (fun _ => #[]); letGo old.toList.reverse; Builtin.List.listExtendWith (.ref q) (.ref a) .none) _ _ _
  refine wpAny_bind ?_
  unfold Builtin.List.listItems
  refine wpAny_bind (wpAny_seqItems hS rfl (wpAny_pure ?_))
  show wpAny _ _ (updateSeq q (fun _ => #[]) >>= fun _ => letGo (#[] : Array Value).toList.reverse >>= fun _ => Builtin.List.listExtendWith (.ref q) (.ref a) .none) _ _ _
  refine wpAny_bind (wpAny_updateSeq hS rfl ?_)
  have I2 := I1.lset (f := fun _ => #[]) (its := []) (its' := []) (ys := []) (t' := s.toks) upd_same hS rfl .nil (Nat.zero_le _)
  rw [upd_upd] at I2
  refine wpAny_bind (wpAny_letGo ?_)
  have ea2 : upd H q (.lst []) a = some (.ins (W.cA c) dx fs) := by rw [upd_ne (ne_of_none ea fr)]; exact ea
  have hne : q ≠ a := fun z => by rw [z, ea] at fr; cases fr
  obtain ⟨mA, J, _⟩ := ins_get I2.hok ea2
  obtain ⟨od, J, _⟩ := J.look
  unfold Builtin.List.listExtendWith
  refine wpAny_bind (J.type.here ?_)
  have h1 : Builtin.List.listSameRef (.ref q) (.ref a) = false := by simp [Builtin.List.listSameRef, hne]
  have h2 : (Value.ref (W.cA c) == Value.type "list") = false := rfl
  have h3 : (Value.ref (W.cA c) == Value.type "tuple") = false := rfl
  simp only [h1, h2, h3, Bool.or_false, Bool.false_eq_true, if_false]
  have hz2 : SqL X.K (upd H q (.lst [])) l zs := hK ▸ (same_new fr).seq hz
  refine wpAny_bind (wpAny_mono (own_iter (N.at_ c f hc hf) (sb.mono (by omega)) I2 ea2 hlk hz2 fun s2 it I3 hs hg fp => ?_) (fun _ _ z => z) fun e s' he => he)
  have p1 : ∀ b ∈ [it], FpOk X pins (upd H q (.lst [])) b := fun b hb => by
    obtain rfl : b = it := by simpa using hb
    exact fp
  have p2 : ∀ b ∈ [it], ∃ o, s2.heap.get? b = some o /\ ∀ v, o.data ≠ .cell v := fun b hb => by
    obtain rfl : b = it := by simpa using hb
    exact ⟨_, hg, fun v z => nomatch z⟩
  have I3' := I3.pinned p1 p2
  have hpin : pinsAt [it] s2.heap = [(it, GNX.itObj l 0)] := by simp [pinsAt, hg]
  rw [hpin] at I3'
  have niq : it ≠ q := fun z => by
    have := fp.1
    rw [z, upd_same] at this
    cases this
  have hand : X.A.in1.in1.handled = none := sb.room.hd
  have go : ∀ (H' : Hp) (s' : Shared), Inv X (pins ++ [(it, GNX.itObj l 0)]) σ H' s' -> H' q = some (.lst []) -> (∀ xs, SqL W.K (upd H' q (.lst xs)) l zs) -> Q (.ref q) (upd H' q (.lst zs)) ->
      codeAny (model X.prog X.w) X.A.in1 (.builtin "list.extend.loop" ⟨[.ref q, .ref it, .none], []⟩) (wants (fun r s₂ => r = .none /\ EP X pins σ Q (.ref q) s₂) X.xe) s' := by
    intro H' s' I' e1 e2 e3
    have pn := I'.pin (it, GNX.itObj l 0) (List.mem_append_right _ (List.mem_append_right _ (by simp)))
    have hu : upd H' q (.lst (zs.take 0)) = H' := by
      funext b
      by_cases hb : b = q
      · subst hb; rw [upd_same, e1]; rfl
      · rw [upd_ne hb]
    refine ext_loop hand (Nat.le_trans hzl (by decide)) niq (hK ▸ e2) (fun xs => ⟨by rw [upd_ne niq]; exact pn.2.1, fp.2⟩) (fun s3 J3 => ⟨rfl, .ref q, _, J3, rfl, e3⟩) _ 0 s' rfl (Nat.zero_le _) (by rw [hu]; exact I'.unpinned) ⟨_, pn.1, rfl, rfl⟩
  refine wpAny_bind (wpAny_holding (wpAny_mono (own_hint M sb hK I3' ea2 hc hn hsp (R := fun b s' => ∃ H', Inv X (pins ++ [(it, GNX.itObj l 0)]) σ H' s' /\ H' q = some (.lst []) /\ SqL W.K H' l zs /\ (∀ xs, SqL W.K (upd H' q (.lst xs)) l zs) /\ Q (.ref q) (upd H' q (.lst zs))) fun b s' H' I' h => ⟨H', I', h⟩) (fun b s' h => ?_) fun e s' he => he))
  obtain ⟨H', I', e1, _, e2, e3⟩ := h
  refine wpAny_ite_split (fun _ => ?_) (fun _ => wpAny_pure ⟨plainId_quiet PySem.F.plain_extend_loop _, go H' s' I' e1 e2 e3⟩)
  refine wpAny_bind (wpAny_rule ?_)
  refine wpAny_bind ?_
  show wpAny _ _ (updateSeq q (·.push .none) >>= fun _ => updateSeq q (·.pop)) _ _ _
  obtain ⟨z4, its4, k4, r4, hl4, e4⟩ := I'.lstM e1
  cases r4
  refine wpAny_bind (wpAny_updateSeq e4 rfl ?_)
  have I5 := I'.lset (f := (·.push Value.none)) (its' := [Value.none]) (ys := [.non]) (t' := s'.toks) e1 e4 (by simp) (.cons rfl .nil) (by decide)
  obtain ⟨z6, its6, k6, r6, hl6, e6⟩ := I5.lstM upd_same
  obtain ⟨u6, rfl, ru6⟩ := r6.one
  refine wpAny_updateSeq e6 rfl ?_ (by show 1 <= sizeLine; decide) (by show 0 <= sizeLine + 1; exact Nat.zero_le _)
  have I7 := I5.lset (f := (·.pop)) (its := [u6]) (its' := []) (ys := []) (t' := s'.toks) upd_same e6 (by rfl) .nil (Nat.zero_le _)
  rw [upd_upd] at I7
  have hu : upd H' q (.lst []) = H' := by
    funext b
    by_cases hb : b = q
    · subst hb; rw [upd_same, e1]
    · rw [upd_ne hb]
  rw [hu] at I7
  exact wpAny_pure ⟨plainId_quiet PySem.F.plain_extend_loop _, go H' _ I7 e1 e2 e3⟩
end
end Py
namespace Py
open PySem L2
section
variable {T : Tbl} {W : Wd T} {env : Py.Env} {d : D}
def itOf (T : Tbl) : D -> Option (List D)
  | .ins c ns xs => (T.it c).bind fun f => (pos f ns).bind fun j => (xs[j]?).bind lstOf
  | .oins c ns xs => (T.it c).bind fun f => (pos f ns).bind fun j => (xs[j]?).bind lstOf
  | _ => none
theorem itOf_ok {F H : Hp} {v : V} {L : List Addr} {zs : List D} (s : Same F H) (o : Own W F H d v L) (h : itOf T d = some zs) :
    ∃ a c f l dx fs vs, v = .ref a /\ W.has c /\ T.it c = some f /\ H a = some (.ins (W.cA c) dx fs) /\ fs.lookup (so f) = some (.ref l) /\ H l = some (.lst vs) /\ Shrs W F zs vs /\ (∃ ns xs, fz d = .ins c ns xs) := by
  have gen : ∀ {c ns xs us dx a M}, ((T.it c).bind fun f => (pos f ns).bind fun j => (xs[j]?).bind lstOf) = some zs -> H a = some (.ins (W.cA c) dx ((ns.map so).zip us)) -> W.has c -> Owns W F H xs us M -> (∃ ns xs, fz d = .ins c ns xs) ->
      ∃ a' c f l dx fs vs, V.ref a = .ref a' /\ W.has c /\ T.it c = some f /\ H a' = some (.ins (W.cA c) dx fs) /\ fs.lookup (so f) = some (.ref l) /\ H l = some (.lst vs) /\ Shrs W F zs vs /\ (∃ ns xs, fz d = .ins c ns xs) := by
    intro c ns xs us dx a M e ha hc os hz
    obtain ⟨f, e1, e⟩ := Option.bind_eq_some_iff.mp e
    obtain ⟨j, e2, e⟩ := Option.bind_eq_some_iff.mp e
    obtain ⟨x, e3, e⟩ := Option.bind_eq_some_iff.mp e
    obtain ⟨u, M', e4, o'⟩ := os.get e3
    obtain ⟨l, vs, rfl, sh, hl⟩ := lstOf_ok s o' e
    exact ⟨a, c, f, l, dx, _, vs, rfl, hc, e1, ha, (zip_lookup e2).trans e4, hl, sh, hz⟩
  cases o with
  | sh y =>
    cases y <;> first | (cases h; done) | skip
    exact gen h (s _ _ (by assumption)) (by assumption) (Shrs.owns (by assumption)) ⟨_, _, by rw [fz_isSh rfl]⟩
  | olst => cases h
  | odic => cases h
  | odit => cases h
  | odig => cases h
  | oins ha hc hl hs => exact gen h ha hc hs ⟨_, _, by rw [fz]⟩
def lstE (T : Tbl) (φ : Sem) (d : D) : Option (Kd × D) := match seqOf d with
  | some p => some (.fr, .olst p.2)
  | none => (itOf T d).bind fun zs => (lenI1 T φ [fz d]).bind fun _ => if zs.length <= 1000000 then some (.fr, .olst zs) else none
def xListU (φ : Sem) (a : XP W) : XP W where
  t := tCB (fun xs H Q => (∃ p ys, xs = [.ref p] /\ (SqL W.K H p ys \/ SqT W.K H p ys) /\ ∀ l, H l = none -> Q (.ref l) (upd H l (.lst ys))) \/ rLstO W φ xs H Q) (tCons a.t tNil)
  ev env := (a.evK env).bind (lstE T φ)
  snd := fun {env k d} e => by
    obtain ⟨d1, e1, e⟩ := Option.bind_eq_some_iff.mp e
    unfold lstE at e
    split at e
    · rename_i p e3
      have h := (xList a).snd (show (xList a).ev env = some (k, d) by show (a.evK env).bind _ = _; rw [e1, Option.bind_some, e3]; exact e)
      exact fun e' F σ H L Q r q => a.sK e1 e' F σ H L _ r fun v F1 H1 x1 y1 => by
        obtain ⟨L1, o⟩ := y1
        cases e
        obtain ⟨b, xs⟩ := p
        obtain ⟨a', vs, rfl, sh, sq⟩ := seqOf_ok x1.s o e3
        refine .inl ⟨a', vs, rfl, ?_, fun p hp => q _ F1 _ (x1.trans (.newH x1.s hp)) ⟨[p], .olst upd_same sh.owns, by simp, fun x m => by
          rw [List.mem_singleton.mp m]; exact ⟨x1.h.free hp, x1.s.free hp⟩⟩⟩
        cases b with
        | true => exact .inr sq
        | false => exact .inl sq
    · obtain ⟨zs, e2, e⟩ := Option.bind_eq_some_iff.mp e
      obtain ⟨n, e3, e⟩ := Option.bind_eq_some_iff.mp e
      obtain ⟨hz, e⟩ := ite_some e
      cases e
      refine fun e' F σ H L Q r q => a.sK e1 e' F σ H L _ r fun v F1 H1 x1 y1 => ?_
      obtain ⟨L1, o⟩ := y1
      obtain ⟨a', c, f, l, dx, fs, vs, rfl, hc, hf, ha, hlk, hl, sh, ns, xs, hfz⟩ := itOf_ok x1.s o e2
      rw [hfz] at e3
      rcases lenI1_ok e3 with e3 | ⟨c', ns', xs', nm, i, b, e4, h1, h2, h3, h4, rfl⟩
      · cases e3
      cases e4
      refine .inr ⟨a', c, f, l, dx, fs, vs, nm, rfl, hc, hf, h1, ha, hlk, .of hl, by rw [<- sh.length]; exact hz, fun p hp => ?_⟩
      have nF : F1 p = none := x1.s.free hp
      have sv : Shr W (upd H1 p (.lst [])) (.ins c ns xs) (.ref a') := by
        rw [<- hfz]
        exact (o.view x1.s fun _ _ _ z => z).mono (same_new hp)
      have lp : l ≠ p := fun z => by rw [z, hp] at hl; cases hl
      refine callV (F := F1) (x1.s.trans (same_new hp)) (.cons sv .nil) rfl h2 fun u H2 x2 y2 => ?_
      rw [fz_isSh rfl] at y2
      cases y2
      have hl2 : H2 l = some (.lst vs) := x2.h _ _ (by rw [upd_ne lp]; exact hl)
      refine ⟨i, rfl, h3, h4, x2.h _ _ upd_same, .of hl2, fun ys => .of (by rw [upd_ne lp]; exact hl2), ?_⟩
      refine q _ F1 _ (x1.trans ⟨Same.refl _, same_upd x2.s nF, fun b u hb => ?_, fun _ _ z => .inl z⟩) ⟨[p], .olst upd_same sh.owns, by simp, fun x m => by
        rw [List.mem_singleton.mp m]; exact ⟨x1.h.free hp, nF⟩⟩
      have hb' : b ≠ p := fun z => by rw [z, hp] at hb; cases hb
      rw [upd_ne hb']
      exact x2.h _ _ (by rw [upd_ne hb']; exact hb)
theorem InsL.mono {H H' : Hp} (e : Same H H') {a l : Addr} {zs : List V} (h : InsL W H a l zs) : InsL W H' a l zs := by
  obtain ⟨c, f, dx, fs, h1, h2, h3, h4, h5⟩ := h
  exact ⟨c, f, dx, fs, h1, h2, e _ _ h3, h4, e.seq h5⟩
def seqFI (T : Tbl) (d : D) : Option (List D) := match seqF d with
  | some ds => some ds
  | none => guardB (isSh d) (itOf T d)
def seqKI (T : Tbl) (d : D) : Option (List D) := match seqOf d with
  | some p => some p.2
  | none => itOf T d
def xiSeqU (a : XP W) : XI W where
  t := fun σ H R => iSeqU W.K a.t σ H R \/ iOwn W a.t σ H R
  evF env := (a.evF env).bind (seqFI T)
  evP env := (a.evK env).bind (seqKI T)
  sF := fun {env ds} e => by
    obtain ⟨d, e1, e⟩ := Option.bind_eq_some_iff.mp e
    unfold seqFI at e
    split at e
    · rename_i ds' e2
      cases e
      exact fun e' F σ H L R r q => .inl ((xiSeq a).sF (show (xiSeq a).evF env = some ds by show (a.evF env).bind _ = _; rw [e1]; exact e2) e' F σ H L R r q)
    · obtain ⟨hs, e⟩ := guardB_some e
      refine fun e' F σ H L R r q => .inr (a.sF e1 e' F σ H L _ r fun v F1 H1 x1 y1 => ?_)
      obtain ⟨a', c, f, l, dx, fs, vs, rfl, hc, hf, ha, hlk, hl, sh, _⟩ := itOf_ok (H := F1) (Same.refl F1) (.sh y1) e
      exact ⟨a', l, vs, rfl, InsL.mono x1.s ⟨c, f, dx, fs, hc, hf, ha, hlk, .of hl⟩, q _ F1 H1 x1 (seq_list hl sh)⟩
  sP := fun {env ds} e => by
    obtain ⟨d, e1, e⟩ := Option.bind_eq_some_iff.mp e
    unfold seqKI at e
    split at e
    · rename_i p e2
      cases e
      exact fun e' F σ H L R r q => .inl ((xiSeq a).sP (show (xiSeq a).evP env = some p.2 by show (a.evK env).bind _ = _; rw [e1, Option.bind_some, e2]; rfl) e' F σ H L R r q)
    · refine fun e' F σ H L R r q => .inr (a.sK e1 e' F σ H L _ r fun v F1 H1 x1 ⟨M, o⟩ => ?_)
      obtain ⟨a', c, f, l, dx, fs, vs, rfl, hc, hf, ha, hlk, hl, sh, _⟩ := itOf_ok x1.s o e
      exact ⟨a', l, vs, rfl, ⟨c, f, dx, fs, hc, hf, ha, hlk, .of hl⟩, q _ F1 H1 x1 (seqP_sql (.of hl) sh)⟩
end
theorem pi_or {X : Cx} {tg e : Expr} {w1 w2 : TI} (h1 : PI X tg e w1) (h2 : PI X tg e w2) : PI X tg e (fun σ H R => w1 σ H R \/ w2 σ H R) :=
  ⟨fun pins s σ H R I h => h.elim (h1.run pins s σ H R I) (h2.run pins s σ H R I)⟩
theorem ro0 {k : Nat} {A : Around} (r : Room (k + 3) A) : Room k A := r.mono (by omega)
theorem ro1 {k : Nat} {A : Around} (r : Room (k + 3) A) : Room (k + 1) A := r.mono (by omega)
section
variable {T : Tbl} {W : Wd T} {X : Cx}
end
end Py
namespace Py
open PySem L2
structure Dun {T : Tbl} (W : Wd T) : Prop where
  sf : ∀ c, W.has c -> PySem.W.selfFirst W.K (W.cA c) = true
  nt : ∀ c t, W.has c -> t ∈ ["NoneType", "bool", "int", "str", "list", "tuple", "dict"] -> PySem.W.notFirst W.K (W.cA c) (.type t) = true
  gi : ∀ c g, W.has c -> PySem.W.findIn W.K (.ref (W.cA c)) (so "__getitem__") = some (some (.ref g)) -> PySem.W.fnIn W.K g = true
section
variable {T : Tbl} {W : Wd T}
def gSame (W : Wd T) : String -> V -> Hp -> Prop := fun c y H => ∃ b dx fs, y = .ref b /\ H b = some (.ins (W.cA c) dx fs)
section
variable {X : Cx} {pins : List (Addr × Obj)} {σ : St} {H : Hp} {s : Shared}
end
def ownE (T : Tbl) (φ : Sem) (m : String) (ok : String -> D -> Bool) (x y : D) : Option Rz := match x with
  | .ins c _ _ => if ok c y = true then some (meth1 T φ m 2 [x, y]) else none
  | _ => none
theorem ownE_ok {φ : Sem} {m : String} {ok : String -> D -> Bool} {x y : D} {r : Rz} (h : ownE T φ m ok x y = some r) (hn : r ≠ .no) : ∃ c ns xs nm, x = .ins c ns xs /\ ok c y = true /\ T.res c m = some nm /\ r = φ nm [x, y] none := by
  unfold ownE at h
  split at h
  · rename_i c ns xs
    obtain ⟨h1, h⟩ := ite_some h
    subst h
    obtain ⟨c', ns', xs', nm, e, h2, h3, h4, h5⟩ := meth1_ok hn
    cases e
    exact ⟨c, ns, xs, nm, rfl, h1, h2, h5⟩
  · cases h
def OkG (W : Wd T) (ok : String -> D -> Bool) (g : String -> V -> Hp -> Prop) : Prop := ∀ c y H v, ok c y = true -> Shr W H y v -> g c v H
def okSame : String -> D -> Bool := fun c y => match y with
  | .ins c' _ _ => decide (c' = c)
  | _ => false
theorem okG_same : OkG W okSame (gSame W) := fun c y H v h s => by
  unfold okSame at h
  split at h
  · obtain rfl := of_decide_eq_true h
    obtain ⟨p, dx, vs, rfl, hp, _⟩ := shr_ins s
    exact ⟨p, dx, _, rfl, hp⟩
  · cases h
end
end Py
namespace L2
open PySem PySem.Spec PyProof.Rows
section
variable {prog : Program} {w : World} {A : Around} {E : Value -> Shared -> Prop} {s : Shared}
end
section
variable {X : Cx} {pins : List (Addr × Obj)} {σ : St} {H : Hp} {s : Shared}
end
section
variable {prog : Program} {w : World} {A : Around} {E : Value -> Shared -> Prop} {s : Shared} {l : Addr} {its : List Value} {ns : List Int} {Q : Value -> Shared -> Prop}
end
section
variable {X : Cx}
end
end L2
namespace Py
open PySem L2
section
variable {T : Tbl} {W : Wd T} {env : Py.Env}
end
end Py
namespace Py
open PySem L2
section
variable {T : Tbl} {W : Wd T} {env : Py.Env} {d : D}
theorem set_split {α : Type} {xs : List α} {j : Nat} (h : j < xs.length) (d : α) : xs.set j d = xs.take j ++ [d] ++ xs.drop (j + 1) := by
  rw [List.set_eq_take_append_cons_drop, if_pos h, List.append_assoc]; rfl
end
end Py
namespace Py
open PySem L2
def mgM {α : Type} : List Bool -> List α -> List α -> List α
  | true :: bs, m :: ms, ws => m :: mgM bs ms ws
  | false :: bs, ms, w :: ws => w :: mgM bs ms ws
  | _, _, _ => []
theorem mgM_rel : ∀ {bs : List Bool} {mz zs : List V} {mv ws : List Value}, Vals mz mv -> Vals zs ws -> Vals (mgM bs mz zs) (mgM bs mv ws)
  | [], _, _, _, _, _, _ => .nil
  | true :: bs, _, _, _, _, .nil, _ => .nil
  | true :: bs, _, _, _, _, .cons h t, r => .cons h (mgM_rel t r)
  | false :: bs, _, _, _, _, r, .nil => by cases r <;> exact .nil
  | false :: bs, _, _, _, _, r, .cons h t => by cases r <;> exact .cons h (mgM_rel (by first | exact .nil | exact .cons (by assumption) (by assumption)) t)
def cV : D -> V
  | .int i => .int i
  | .str x => .str (so x)
  | .bl b => .bl b
  | _ => .non
def cst : D -> Bool
  | .int _ | .str _ | .bl _ | .non => true
  | _ => false
section
variable {T : Tbl} {W : Wd T}
theorem shr_cst {F : Hp} {d : D} (h : cst d = true) : Shr W F d (cV d) := by cases d <;> first | (cases h; done) | exact .int | exact .str | exact .bl | exact .non
theorem mgM_shr {F : Hp} : ∀ {bs : List Bool} {dd zs : List D} {ws : List V}, dd.all cst = true -> Shrs W F zs ws -> Shrs W F (mgM bs dd zs) (mgM bs (dd.map cV) ws)
  | [], _, _, _, _, _ => .nil
  | true :: bs, [], _, _, _, _ => .nil
  | true :: bs, d :: dd, _, _, h, r => by
    rw [List.all_cons, Bool.and_eq_true] at h
    exact .cons (shr_cst h.1) (mgM_shr h.2 r)
  | false :: bs, dd, _, _, h, .nil => by cases dd <;> exact .nil
  | false :: bs, dd, _, _, h, .cons x t => by cases dd <;> exact .cons x (mgM_shr h t)
theorem if_some' {α : Type} {c : Prop} [Decidable c] {a : Option α} {b : α} (h : (if c then a else none) = some b) : c /\ a = some b := by
  split at h
  · exact ⟨by assumption, h⟩
  · cases h
def mkN (φ : Sem) (c ini : String) (n m N : Nat) (bs : List Bool) (dd ds zs : List D) : Option D := if ds.length = n /\ zs.length = m then mk1 φ c ini N (ds ++ mgM bs dd zs) else none
def makeNE (φ : Sem) (c ini : String) (n m N : Nat) (bs : List Bool) (dd : List D) (f g v w : Option (List D)) : Option (Kd × D) := match f, g with
  | some ds, some zs => (mkN φ c ini n m N bs dd ds zs).map (Prod.mk .fr)
  | _, _ => match v, w with
    | some ds, some zs => (mkN φ c ini n m N bs dd ds zs).map fun d => (.vw, fz d)
    | _, _ => none
def xMakeN (φ : Sem) (c ini : String) (n m N : Nat) (bs : List Bool) (dd : List D) (hd : dd.all cst = true) (as ks : XA W) : XP W where
  t := fun σ H Q => W.has c -> tMakeK (W.cA c) n m (spR W N (φ ini) (some 0)) (fun vs zs => vs ++ mgM bs (dd.map cV) zs) E0 as.t ks.t σ H Q
  ev env := makeNE φ c ini n m N bs dd (as.evF env) (ks.evF env) (as.evV env) (ks.evV env)
  snd := fun {env k d} e e' F σ H L Q r q hc => by
    unfold makeNE at e
    split at e
    · rename_i ds zs e1 e2
      obtain ⟨d2, h, e⟩ := Option.map_eq_some_iff.mp e
      cases e
      obtain ⟨⟨l1, l2⟩, h⟩ := if_some' h
      refine as.sF e1 e' F σ H L _ r fun vs F1 H1 x1 y1 => ks.sF e2 e' F1 σ H1 L _ (r.ext x1) fun ws F2 H2 x2 y2 => ?_
      have y1 : Shrs W F1 ds vs := y1
      have y2 : Shrs W F2 zs ws := y2
      exact ⟨by rw [<- y1.length, l1], by rw [<- y2.length, l2], fun x dx hx hdx ne => makeF x2.s (Shrs.append (y1.mono x2.f) (mgM_shr hd y2)) hc h (fun v F3 H3 x3 y3 => q v F3 H3 ((x1.trans x2).trans x3) (rO_back (x1.trans x2).h y3)) x dx hx hdx ne⟩
    · split at e
      · rename_i ds zs e1 e2
        obtain ⟨d2, h, e⟩ := Option.map_eq_some_iff.mp e
        cases e
        obtain ⟨⟨l1, l2⟩, h⟩ := if_some' h
        refine as.sV e1 e' F σ H L _ r fun vs F1 H1 x1 y1 => ks.sV e2 e' F1 σ H1 L _ (r.ext x1) fun ws F2 H2 x2 y2 => ?_
        have y1 : Shrs W H1 ds vs := y1
        have y2 : Shrs W H2 zs ws := y2
        exact ⟨by rw [<- y1.length, l1], by rw [<- y2.length, l2], fun x dx hx hdx ne => makeV x2.s (Shrs.append (y1.mono x2.h) (mgM_shr hd y2)) hc h (fun v H3 x3 y3 => q v F2 H3 ((x1.trans x2).trans x3) y3) x dx hx hdx ne⟩
      · cases e
end
def KShape (K : PySem.W.Frag) (x qual : Str) (st : Stmt) (kws : List (Str × V)) (ps : List Str) (n : Nat) (ks : List Str) (bs : List Bool) (dvs : List V) : Prop :=
  ∀ f fd, FunD K x qual (defArgs st) (defBody st) (defScope st) [] kws f fd -> ∃ g, KBn K fd ps n ks g (fun vs zs => vs ++ mgM bs dvs zs)
theorem kshape1 {K : PySem.W.Frag} {x qual : Str} {st : Stmt} {kws : List (Str × V)} {ps : List Str} {n : Nat} {ks : List Str} {bs : List Bool} (ms : List (Str × V)) (hk : kws ≠ []) (hms : ∀ q ∈ ms, q ∈ kws)
    (h : ∀ (D : Addr) (doc pm : Value) (an : Option Addr) (cdv ct : Value) (us mv ws : List Value), us.length = n -> mv.length = ms.length -> ws.length = ks.length ->
      KwChain D ((ms.map (·.1)).zip mv) (bindArgs (PySem.W.fnOf x qual (defArgs st) (defBody st) (defScope st) .none (.ref D) doc pm an cdv ct) ⟨us, ks.zip ws⟩) (ps.zip (us ++ mgM bs mv ws))) :
    KShape K x qual st kws ps n ks bs (ms.map (·.2)) := fun f fd F => by
  obtain ⟨mv, hb⟩ := F.kbinds0 (ps := ps) n ks ms (fun us mz ws => us ++ mgM bs mz ws) hk hms (fun r1 r2 r3 => r1.append (mgM_rel r2 r3)) h
  exact ⟨_, hb⟩
structure DfD (P : Program) (w : World) (K : PySem.W.Frag) (mg : Str -> Option Value) (base : Heap) (k : Nat) (x qual : Str) (st : Stmt) (kws : List (Str × V)) (ps : List Str) (sp : Sp) : Prop where
  ex : ∃ f fd, FnOk P w K mg base (L2.CX P w) k f fd ps sp /\ mg x = some (.ref f) /\ PySem.W.keepIn K (.ref f) = true /\ FunD K x qual (defArgs st) (defBody st) (defScope st) [] kws f fd
structure MkD (P : Program) (w : World) (K : PySem.W.Frag) (mg : Str -> Option Value) (base : Heap) (k : Nat) (x : Str) (C : Addr) (qual : Str) (st : Stmt) (kws : List (Str × V)) (ps : List Str) (sp : Sp) : Prop where
  ex : ∃ f fd, Mk K C f /\ FnOk P w K mg base (L2.CX P w) k f fd ps sp /\ mg x = some (.ref C) /\ FunD K "__init__" qual (defArgs st) (defBody st) (defScope st) [] kws f fd
section
variable {P : Program} {w : World} {K : PySem.W.Frag} {mg : Str -> Option Value} {base : Heap}
theorem mkD_of {C : Addr} {x qual : Str} {st : Stmt} {kws : List (Str × V)} {N ps : List Str} {k : Nat} {sp : Sp} {f0 : Addr} (M : Mk K C f0) (hm : mg x = some (.ref C)) (D : MethAt K C "__init__" "__init__" qual st [] kws) (S : FnScope N ps (defScope st)) (len : ∀ vs H Q E, sp vs H Q E -> vs.length = ps.length)
    (hbody : ∀ (f : Addr) (cdv : Value) (A : Around) (outer : List PySem.Env) (s : Shared) (H : Hp) (vs : List V) (Q : VK) (E : XK), Room k (A.deeper (PyProof.Rows.envOfC qual (defScope st) s.heap.objs.size f cdv)) -> sp vs H Q E ->
      ∃ t, PSs (cxOf (L2.CX P w) P w K mg base N qual (defScope st) f cdv A outer s H E) (defBody st) t /\ t { nx := fun _ H' => Q .non H', rt := Q } (L2.start N vs) H) : MkD P w K mg base (k + 1) x C qual st kws ps sp := by
  obtain ⟨f, fd, F, hg⟩ := D.ex
  have e := M.init
  rw [hg.at_] at e
  cases e
  refine ⟨_, fd, M, F.ok S len fun cdv A outer s H vs Q E hr h => ?_, hm, F⟩
  obtain ⟨t, q1, q2⟩ := hbody _ cdv A outer s H vs Q E hr h
  exact ⟨t, q1, q2⟩
theorem mkD_no {C : Addr} {x qual : Str} {st : Stmt} {kws : List (Str × V)} {ps : List Str} {k : Nat} {sp : Sp} {f0 : Addr} (M : Mk K C f0) (hm : mg x = some (.ref C)) (D : MethAt K C "__init__" "__init__" qual st [] kws) (h : ∀ vs H Q E, ¬ sp vs H Q E) : MkD P w K mg base k x C qual st kws ps sp := by
  obtain ⟨f, fd, F, hg⟩ := D.ex
  have e := M.init
  rw [hg.at_] at e
  cases e
  exact ⟨_, fd, M, ⟨fun vs H Q E z => absurd z (h vs H Q E), fun A outer s H args us vs Q E _ _ _ _ z => absurd z (h vs H Q E)⟩, hm, F⟩
end
section
variable {X : Cx} {k n : Nat} {x qual : Str} {st : Stmt} {kws0 : List (Str × V)} {ps ks : List Str} {bs : List Bool} {dvs : List V} {sp : Sp} {p pos : Pos} {e : Expr} {es : List Expr} {kws : List Keyword} {t tk : TA}
theorem px_makeN {C : String} {T : Tbl} {W : Wd T} (M : MkD X.prog X.w X.K X.mg X.base k x (W.cA C) qual st kws0 ps sp) (hb : KShape X.K "__init__" qual st kws0 ps (n + 1) ks bs dvs) (hc : W.has C) (hr : Room (k + 1) X.A) (hg : Gl X x)
    (ha : PA X (e :: es) t) (hkw : PK X kws tk) (hall : (backToKw pos (keywordEach kws X.env)).all (·.1.isSome) = true := by rfl) (hks : (backToKw pos (keywordEach kws X.env)).filterMap (·.1) = ks := by rfl)
    (hdb : (x == ("__debug__" : Str)) = false := by decide) (he : starEach (e :: es) X.env = (false, eval e X.env) :: starEach es X.env := by rfl)
    (hpl : ((backTo pos (starEach (e :: es) X.env)).any (·.1) || (backToKw pos (keywordEach kws X.env)).any (·.1.isNone)) = false := by rfl) :
    PE X (.Call (.Name x p) (e :: es) kws pos) (fun σ H Q => W.has C -> tMakeK (W.cA C) n ks.length sp (fun vs zs => vs ++ mgM bs dvs zs) E0 t tk σ H Q) := by
  obtain ⟨f, fd, M, F, hm, FD⟩ := M.ex
  obtain ⟨g, hb⟩ := hb f fd FD
  exact pe_imp hc (pe_makeK M F hr hg hm hb passE0 ha hkw hall hks hdb he hpl)
theorem px_glI {x : Str} {i : Int} {pos : Pos} (h : ∃ t, X.mg x = some (.int i t)) (hg : Gl X x := by rfl) (hd : (x == ("__debug__" : Str)) = false := by decide) : PE X (.Name x pos) (tC (.int i)) := by
  obtain ⟨t, h⟩ := h
  exact pe_glob hg h ⟨t, rfl⟩ hd
end
section
variable {P : Program} {w : World} {K : PySem.W.Frag} {mg : Str -> Option Value} {base : Heap}
theorem fn_no {k : Nat} {f : Addr} {fd : FuncData} {ps : List Str} {sp : Sp} (h : ∀ vs H Q E, ¬ sp vs H Q E) : FnOk P w K mg base (L2.CX P w) k f fd ps sp :=
  ⟨fun vs H Q E z => absurd z (h vs H Q E), fun A outer s H args us vs Q E _ _ _ _ z => absurd z (h vs H Q E)⟩
end
section
variable {T : Tbl} {W : Wd T}
end
end Py
namespace Py
open PySem L2
def keyD : D -> Option Key
  | .int i => some (.inl i)
  | .str x => some (.inr (so x))
  | _ => none
def dg : List Key -> List D -> Key -> Option D
  | k' :: ks, x :: xs, k => if k' = k then some x else dg ks xs k
  | _, _, _ => none
section
variable {T : Tbl} {W : Wd T} {env : Py.Env} {d : D}
theorem keyD_ok {F : Hp} {v : V} {k : Key} (h : Shr W F d v) (e : keyD d = some k) : v = kV k := by
  cases h <;> first | (cases e; rfl) | cases e
theorem dg_own {F H : Hp} {k : Key} : ∀ {ks : List Key} {xs : List D} {vs : List V} {L : List Addr}, Owns W F H xs vs L -> ks.length = vs.length ->
    (∀ d, dg ks xs k = some d -> ∃ v M, valV (ks.zip vs) k = some v /\ Own W F H d v M) /\ (dg ks xs k = none -> valV (ks.zip vs) k = none)
  | [], xs, vs, _, o, hl => by
    cases vs with
    | nil => cases o; exact ⟨fun d h => by simp [dg] at h, fun _ => rfl⟩
    | cons v vs => simp at hl
  | k' :: ks, _, _, _, .nil, hl => by simp at hl
  | k' :: ks, _, _, _, .cons (v := v) (vs := vs) (L := L1) h t, hl => by
    obtain ⟨i1, i2⟩ := dg_own (k := k) (ks := ks) t (by simpa using hl)
    rw [List.zip_cons_cons]
    by_cases e : k' = k
    · unfold dg
      rw [if_pos e, valV_pos (p := (k', v)) e]
      exact ⟨fun d hd => by cases hd; exact ⟨v, L1, rfl, h⟩, fun z => nomatch z⟩
    · unfold dg
      rw [if_neg e, valV_neg (p := (k', v)) e]
      exact ⟨i1, i2⟩
def dicOf : D -> Option (List Key × List D)
  | .dic ks xs => some (ks, xs)
  | .odic ks xs => some (ks, xs)
  | _ => none
theorem dicOf_ok {F H : Hp} {v : V} {L : List Addr} {ks : List Key} {xs : List D} (s : Same F H) (o : Own W F H d v L) (h : dicOf d = some (ks, xs)) : ∃ a vs M, v = .ref a /\ Rd H a (.dK (ks.zip vs)) /\ ks.length = vs.length /\ ks.Nodup /\ Owns W F H xs vs M := by
  cases o with
  | sh y =>
    cases y <;> first | (cases h; done) | skip
    rename_i a1 vs1 h1 h2 h3 h4
    cases h
    exact ⟨_, _, [], rfl, rd_same s h1, h2, h3, Shrs.owns h4⟩
  | odic ha hl hn hs => cases h; exact ⟨_, _, _, rfl, .inl ha, hl, hn, hs⟩
  | olst => cases h
  | odit => cases h
  | odig => cases h
  | oins => cases h
def xDnew {T : Tbl} (W : Wd T) : XP W where
  t := tDNewK
  ev _ := some (.fr, .odic [] [])
  snd := fun e => by
    cases e
    exact fun e' F σ H L Q r q p hp => q _ F _ (.newH r.sF hp) ⟨[p], .odic (vs := []) upd_same rfl .nil .nil, by simp, fun x m => by rw [List.mem_singleton.mp m]; exact ⟨hp, r.sF.free hp⟩⟩
def DGetN (H : Hp) (a : Addr) (y : V) (o : Option V) : Prop := DGet H a y o \/ (y = .non /\ (∃ kvs, Rd H a (.dK kvs)) /\ o = none)
section
variable {X : Cx} {pins : List (Addr × Obj)} {σ : St} {H : Hp} {s : Shared} {A : Around} {E : Value -> Shared -> Prop} {kvs : List (Key × V)} {a : Addr}
theorem d_get2None {z : V} {r : Value} {Q : Value -> Shared -> Prop} (I : Inv X pins σ H s) (e : Rd H a (.dK kvs)) (rd : RelV z r) (h : ∀ s', Inv X pins σ H s' -> Q r s') : wpAny (model X.prog X.w) A (call (.builtin "dict.get") [.ref a, .none, r]) Q E s := by
  obtain ⟨_, hd, vs, _, dd⟩ := dk_rd I.hok e
  obtain ⟨f, hm, hf⟩ := none_map dd
  have hk : (noneKind X.prog X.w).is none .none = true := rfl
  refine call_meetsIn PySem.F.slot_dict_get dd.typeIs PySem.F.entry_dict_get (PySem.F.args_dict_get_3 _ _ _) (meets_dict_get_default (noneKind X.prog X.w) a hk hd r) ⟨_, hm, ?_⟩
  rw [hf]
  exact h _ (I.tok _)
end
def tDGet2N (td ty tx : TE) : TE := fun σ H Q => td σ H fun x H1 => ∃ a, x = .ref a /\ IsD H1 a /\ ty σ H1 fun y H2 => tx σ H2 fun z H3 => ∃ o, DGetN H3 a y o /\ Q (o.getD z) H3
theorem pe_dget2N {X : Cx} {o e f : Expr} {td ty tx : TE} {apos cpos : Pos} (hu : X.A.units + 1 < cLine) (ho : PE X o td) (he : PE X e ty) (hf : PE X f tx) (m : M2 X o "get" apos e f cpos) : PE X (.Call (.Attribute o "get" apos) [e, f] [] cpos) (tDGet2N td ty tx) := by
  refine ⟨fun pins s σ H Q I h => ?_⟩
  refine wpAny_Call_method m.base m.few m.line PySem.F.plainAttrs_dict PySem.F.slot_dict_get PySem.F.type_dict_get (thn (ho.run pins s σ H _ I h) fun u s1 ⟨x, H1, I1, rx, a, ex, d, q1⟩ => ?_)
  subst ex
  obtain rfl : u = Value.ref a := rx
  obtain ⟨t1, t2, _⟩ := isD_at I1 d
  refine ⟨t1, t2, ?_⟩
  rw [m.trees]
  refine Calls.callWith_builtin rfl (Calls.evalArgs_plain (Calls.spliced_cons (thn (he.run pins s1 σ H1 _ I1 q1) fun iv s2 ⟨y, H2, I2, ry, q2⟩ =>
    Calls.spliced_cons (thn (hf.run pins s2 σ H2 _ I2 q2) fun fv s3 ⟨z, H3, I3, rz, o, g, q3⟩ => Calls.spliced_nil ?_))))
  rcases g with g | ⟨ey, ⟨kvs, e⟩, eo⟩
  · exact d_get2 hu I3 g ry rz fun w' s4 I4 rw' => ⟨_, H3, I4, rw', q3⟩
  · subst ey eo
    obtain rfl : iv = Value.none := ry
    exact d_get2None I3 e rz fun s4 I4 => ⟨_, H3, I4, rz, q3⟩
def getE (ks : List Key) (xs : List D) (p : Kd) (y : D) (z : Kd × D) : Option (Kd × D) := match y with
  | .non => some z
  | y => (keyD y).map fun k => match dg ks xs k with
    | some x => p.of x
    | none => z
theorem rK_back {F H H0 H1 : Hp} {k : Kd} {v : V} {d : D} (e : Same H0 H1) (h : rK W k d F H H1 v) : rK W k d F H H0 v := by
  cases k with
  | fr => exact rO_back e h
  | pl => exact h
  | vw => exact h
def xDget2 (a b c : XP W) : XP W where
  t := tDGet2N a.t b.t c.t
  ev env := (a.ev env).bind fun p => (dicOf p.2).bind fun q => (b.evV env).bind fun y => (c.ev env).bind fun z => getE q.1 q.2 p.1 y z
  snd := fun {env k d} e => by
    obtain ⟨⟨kp, dp⟩, e1, e⟩ := Option.bind_eq_some_iff.mp e
    obtain ⟨⟨ks, xs⟩, e2, e⟩ := Option.bind_eq_some_iff.mp e
    obtain ⟨y, e3, e⟩ := Option.bind_eq_some_iff.mp e
    obtain ⟨⟨kz, dz⟩, e4, e⟩ := Option.bind_eq_some_iff.mp e
    intro e' F σ H L Q r q
    refine a.snd e1 e' F σ H L _ r fun v F1 H1 x1 y1 => ?_
    obtain ⟨M, o⟩ := rK_own y1
    obtain ⟨da, vs, M1, rfl, rd, hl, hn, os⟩ := dicOf_ok (basis_same x1.s) o e2
    refine ⟨da, rfl, .inl ⟨_, rd⟩, b.sV e3 e' F1 σ H1 L _ (r.ext x1) fun u F2 H2 x2 y2 => c.snd e4 e' F2 σ H2 L _ ((r.ext x1).ext x2) fun w F3 H3 x3 y3 => ?_⟩
    have x12 := x2.trans x3
    have rd3 := rd_same x12.h rd
    have os3 := os.frame (F' := basis kp F3 H3) (H' := H3) x12.basis fun a _ o q => x12.h _ _ q
    have y2 : Shr W H2 y u := y2
    have y2 := y2.mono x3.h
    have back : ∀ {k d v}, rK W k d F3 H3 H2 v -> rK W k d F3 H3 H v := fun h => rK_back (x1.h.trans x2.h) h
    dsimp only at e
    by_cases hy : ∃ k, keyD y = some k
    · obtain ⟨ky, hk⟩ := hy
      have ee : (some (match dg ks xs ky with | some x => kp.of x | none => (kz, dz))) = some (k, d) := by
        rw [<- e]
        cases y <;> first | (cases hk; done) | (simp only [getE, hk, Option.map_some])
      have hv := keyD_ok y2 hk
      obtain ⟨g1, g2⟩ := dg_own (k := ky) os3 hl
      cases hg : dg ks xs ky with
      | none =>
        rw [hg] at ee
        cases ee
        refine ⟨none, .inl (.inl ⟨_, ky, rd3, hv, (g2 hg).symm⟩), ?_⟩
        exact q _ F3 H3 (x1.trans x12) (back y3)
      | some x =>
        rw [hg] at ee
        obtain ⟨v', M', hv', ov⟩ := g1 x hg
        refine ⟨some v', .inl (.inl ⟨_, ky, rd3, hv, hv'.symm⟩), ?_⟩
        exact q _ F3 H3 (x1.trans x12) (rK_of x3.s ov (Option.some.inj ee))
    · have hyn : y = .non := by
        cases y <;> first | rfl | skip
        all_goals first | (exact absurd ⟨_, rfl⟩ hy) | (simp [getE, keyD] at e)
      subst hyn
      cases e
      cases y2
      exact ⟨none, .inr ⟨rfl, ⟨_, rd3⟩, rfl⟩, q _ F3 H3 (x1.trans x12) (back y3)⟩
theorem ps_alt {X : Cx} {st : Stmt} {t1 t2 : TS} (h1 : PS X st t1) (h2 : PS X st t2) : PS X st (fun D σ H => t1 D σ H \/ t2 D σ H) :=
  ⟨fun pins s σ H D I h => h.elim (h1.run pins s σ H D I) (h2.run pins s σ H D I)⟩
theorem PSet.or {X : Cx} {r r' : TSet} (h : PSet X r) (h' : PSet X r') : PSet X (fun o i v H Q => r o i v H Q \/ r' o i v H Q) :=
  fun pins s σ H o i v ov iv u Q I ro ri rv q => q.elim (h pins s σ H o i v ov iv u Q I ro ri rv) (h' pins s σ H o i v ov iv u Q I ro ri rv)
def dgE (ks : List Key) (xs : List D) (p : Kd) (y : D) : Option (Kd × D) := (keyD y).bind fun k => (dg ks xs k).map p.of
def xDix (a b : XP W) : XP W where
  t := tDGet a.t b.t
  ev env := (a.ev env).bind fun p => (dicOf p.2).bind fun q => (b.evV env).bind fun y => dgE q.1 q.2 p.1 y
  snd := fun {env k d} e => by
    obtain ⟨⟨kp, dp⟩, e1, e⟩ := Option.bind_eq_some_iff.mp e
    obtain ⟨⟨ks, xs⟩, e2, e⟩ := Option.bind_eq_some_iff.mp e
    obtain ⟨y, e3, e⟩ := Option.bind_eq_some_iff.mp e
    obtain ⟨ky, hk, e⟩ := Option.bind_eq_some_iff.mp e
    obtain ⟨x, hx, e⟩ := Option.map_eq_some_iff.mp e
    intro e' F σ H L Q r q
    refine a.snd e1 e' F σ H L _ r fun v F1 H1 x1 y1 => b.sV e3 e' F1 σ H1 L _ (r.ext x1) fun u F2 H2 x2 y2 => ?_
    obtain ⟨M, o⟩ := rK_own y1
    have o2 : Own W (basis kp F2 H2) H2 dp v M := o.frame x2.basis fun a _ o q => x2.h _ _ q
    obtain ⟨da, vs, M1, rfl, rd, hl, hn, os⟩ := dicOf_ok (basis_same x2.s) o2 e2
    have y2 : Shr W H2 y u := y2
    obtain ⟨v', M', hv', ov⟩ := (dg_own (k := ky) os hl).1 x hx
    exact ⟨da, v', rfl, .inl ⟨_, ky, rd, keyD_ok y2 hk, hv'.symm⟩, q _ F2 H2 (x1.trans x2) (rK_of x2.s ov e)⟩
def fls : List D -> Option (List V)
  | [] => some []
  | d :: ds => (fl d).bind fun v => (fls ds).map (v :: ·)
def inL (neg : Bool) (x : D) (ys : List D) : Option D := (fl x).bind fun v => (fls ys).map fun vs => .bl (if neg then !inV v vs else inV v vs)
def hasK (ks : List Key) (k : Key) : Bool := ks.any fun j => decide (j = k)
def inK (neg : Bool) (ks : List Key) (y : D) : Option D := match y with
  | .non => some (.bl neg)
  | y => (keyD y).map fun k => .bl (if neg then !hasK ks k else hasK ks k)
theorem hasK_valV {k : Key} : ∀ {ks : List Key} {vs : List V}, ks.length = vs.length -> (valV (ks.zip vs) k).isSome = hasK ks k
  | [], [], _ => rfl
  | [], _ :: _, h => by simp at h
  | _ :: _, [], h => by simp at h
  | k' :: ks, v :: vs, h => by
    rw [List.zip_cons_cons]
    unfold hasK
    rw [List.any_cons]
    by_cases e : k' = k
    · rw [valV_pos (p := (k', v)) e, decide_eq_true e]; rfl
    · rw [valV_neg (p := (k', v)) e, decide_eq_false e, hasK_valV (by simpa using h)]; rfl
def kDs : List Key -> Option (List D)
  | [] => some []
  | .inl i :: ks => (kDs ks).map (.int i :: ·)
  | .inr _ :: _ => none
theorem kDs_ok {F : Hp} : ∀ {ks : List Key} {vs : List V} {ds : List D}, ks.length = vs.length -> kDs ks = some ds -> Shrs W F ds ((ks.zip vs).map fun kv => kV kv.1)
  | [], [], _, _, e => by cases e; exact .nil
  | [], _ :: _, _, h, _ => by simp at h
  | _ :: _, [], _, h, _ => by simp at h
  | .inl i :: ks, v :: vs, _, h, e => by
    obtain ⟨ds, e1, rfl⟩ := Option.map_eq_some_iff.mp e
    exact .cons .int (kDs_ok (by simpa using h) e1)
  | .inr _ :: _, _, _, _, e => by cases e
abbrev rDictK : List V -> Hp -> VK -> Prop := fun xs H Q => ∃ (a : Addr) (kvs : List (Key × V)), xs = [.ref a] /\ Rd H a (.dK kvs) /\ ∀ p, H p = none -> Q (.ref p) (upd H p (.dK kvs))
def dicF : D -> Option (List Key × List D)
  | .dic ks xs => some (ks, xs)
  | .odic ks xs => if xs.all isSh = true then some (ks, xs) else none
  | _ => none
theorem dicF_ok {F H : Hp} {v : V} {L : List Addr} {ks : List Key} {xs : List D} (s : Same F H) (o : Own W F H d v L) (h : dicF d = some (ks, xs)) : ∃ a vs, v = .ref a /\ Rd H a (.dK (ks.zip vs)) /\ ks.length = vs.length /\ ks.Nodup /\ Shrs W F xs vs := by
  cases o with
  | sh y =>
    cases y <;> first | (cases h; done) | skip
    rename_i a1 vs1 h1 h2 h3 h4
    cases h
    exact ⟨_, _, rfl, rd_same s h1, h2, h3, h4⟩
  | odic ha hl hn hs => obtain ⟨hz, e⟩ := ite_some h; cases e; exact ⟨_, _, rfl, .inl ha, hl, hn, hs.shrs hz⟩
  | olst => cases h
  | odit => cases h
  | odig => cases h
  | oins => cases h
def xDict (a : XP W) : XP W where
  t := tCB rDictK (tCons a.t tNil)
  ev env := (a.evK env).bind fun d => (dicF d).map fun q => (.fr, .odic q.1 q.2)
  snd := fun {env k d} e => by
    obtain ⟨d0, e1, e⟩ := Option.bind_eq_some_iff.mp e
    obtain ⟨⟨ks, xs⟩, e2, e⟩ := Option.map_eq_some_iff.mp e
    cases e
    intro e' F σ H L Q r q
    refine a.sK e1 e' F σ H L _ r fun v F1 H1 x1 ⟨M, o⟩ => ?_
    obtain ⟨da, vs, rfl, rd, hl, hn, os⟩ := dicF_ok x1.s o e2
    exact ⟨da, _, rfl, rd, fun p hp => q _ F1 _ (x1.trans (.newH x1.s hp)) ⟨[p], .odic upd_same hl hn os.owns, by simp, fun x m => by
      rw [List.mem_singleton.mp m]; exact ⟨x1.h.free hp, x1.s.free hp⟩⟩⟩
theorem pos_none_has {k : Key} : ∀ {ks : List Key}, pos k ks = none -> (∀ k' ∈ ks, k' ≠ k)
  | [], _, _, m => nomatch m
  | k1 :: ks, h, k', m => by
    have h : (if k1 = k then some 0 else (pos k ks).map (· + 1)) = none := h
    split at h
    · cases h
    · rename_i e
      rcases List.mem_cons.mp m with rfl | m
      · exact e
      · exact pos_none_has (Option.map_eq_none_iff.mp h) k' m
theorem putK_none {k : Key} {v : V} {ks : List Key} {vs : List V} (hl : ks.length = vs.length) (h : pos k ks = none) : putK (ks.zip vs) k v = (ks ++ [k]).zip (vs ++ [v]) := by
  have hn : valV (ks.zip vs) k = none := by
    cases e : valV (ks.zip vs) k with
    | none => rfl
    | some x =>
      have := hasK_valV (k := k) hl
      rw [e] at this
      have this : hasK ks k = true := this.symm
      unfold hasK at this
      obtain ⟨k', m, e'⟩ := List.any_eq_true.mp this
      exact absurd (of_decide_eq_true e') (pos_none_has h k' m)
  rw [putK_new v hn, List.zip_append hl]; rfl
theorem pos_has {k : Key} : ∀ {ks : List Key} {j : Nat}, pos k ks = some j -> hasK ks k = true
  | k1 :: ks, j, h => by
    have h : (if k1 = k then some 0 else (pos k ks).map (· + 1)) = some j := h
    unfold hasK
    rw [List.any_cons]
    split at h
    · rename_i e; rw [decide_eq_true e]; rfl
    · obtain ⟨i, h1, _⟩ := Option.map_eq_some_iff.mp h
      have := pos_has h1
      unfold hasK at this
      rw [this, Bool.or_true]
theorem putK_map {k : Key} {v : V} : ∀ {ks : List Key} {vs : List V} {j : Nat}, ks.length = vs.length -> ks.Nodup -> pos k ks = some j -> (ks.zip vs).map (fun kv => if kv.1 = k then (kv.1, v) else kv) = ks.zip (vs.set j v)
  | [], _, _, _, _, h => by cases h
  | _ :: _, [], _, h, _, _ => by simp at h
  | k1 :: ks, u :: vs, j, hl, hn, h => by
    have h : (if k1 = k then some 0 else (pos k ks).map (· + 1)) = some j := h
    rw [List.nodup_cons] at hn
    rw [List.zip_cons_cons, List.map_cons]
    split at h
    · rename_i e
      cases h
      rw [if_pos e, List.set_cons_zero, List.zip_cons_cons]
      congr 1
      have : ∀ kv ∈ ks.zip vs, (if kv.1 = k then (kv.1, v) else kv) = kv := fun kv m => by
        rw [if_neg]
        intro z
        have := (List.of_mem_zip (a := kv.1) (b := kv.2) m).1
        rw [z, <- e] at this
        exact hn.1 this
      exact (List.map_congr_left this).trans (List.map_id _)
    · rename_i e
      obtain ⟨i, h1, h2⟩ := Option.map_eq_some_iff.mp h
      subst h2
      rw [if_neg e, List.set_cons_succ, List.zip_cons_cons, putK_map (by simpa using hl) hn.2 h1]
theorem putK_some {k : Key} {v : V} {ks : List Key} {vs : List V} {j : Nat} (hl : ks.length = vs.length) (hn : ks.Nodup) (h : pos k ks = some j) : putK (ks.zip vs) k v = ks.zip (vs.set j v) := by
  unfold putK
  rw [if_pos, putK_map hl hn h]
  rw [valV_any, hasK_valV hl]
  exact pos_has h
theorem mop_atD {G : D} {F H : Hp} {a : Addr} {L : List Addr} {Ms : List Addr} {ys : List D} {ws : List V} {o : HO} {M' L2 : List Addr} {v' : V} {Q : VK} (s : Same F H) (nd : (Ms ++ (a :: L)).Nodup) (kF : ∀ b ∈ Ms ++ (a :: L), F b = none)
    (hG : ∀ (F' H' : Hp) (L' : List Addr), H' a = some o -> Owns W F' H' ys ws L' -> Own W F' H' G (.ref a) (a :: L')) (hs : Owns W F H ys ws L2) (od : Own W F H d v' M') (n2 : (M' ++ L2).Nodup) (sub : ∀ b ∈ M' ++ L2, b ∈ L \/ b ∈ Ms)
    (q : ∀ F' H' v' Ln' M', Same F F' -> Same F' H' -> (∀ b o, b ∉ a :: L -> H b = some o -> H' b = some o) -> (∀ b o, F' b = some o -> F b = some o \/ H b = none) -> Own W F' H' G (.ref a) Ln' -> Own W F' H' d v' M' -> (M' ++ Ln').Nodup ->
      (∀ b ∈ M' ++ Ln', F' b = none /\ (b ∈ a :: L \/ b ∈ Ms \/ H b = none)) -> Q v' H') : Q v' (upd H a o) := by
  rw [List.nodup_append] at nd
  obtain ⟨n3, n4, n5⟩ := nd
  rw [List.nodup_cons] at n4
  have na : ∀ b ∈ M' ++ L2, b ≠ a := fun b hb z => by
    subst z
    rcases sub _ hb with y | y
    · exact n4.1 y
    · exact n5 _ y _ (List.mem_cons_self ..) rfl
  have Fa : F a = none := kF a (List.mem_append_right _ (List.mem_cons_self ..))
  refine q F (upd H a o) v' (a :: L2) M' (Same.refl _) (same_upd s Fa) (fun b u hb hu => ?_) (fun b u hu => .inl hu) (hG F _ _ upd_same (owns_upd hs fun z => na a (List.mem_append_right _ z) rfl)) (own_upd od fun z => na a (List.mem_append_left _ z) rfl) ?_ (fun b hb => ?_)
  · rw [upd_ne (fun z => hb (by rw [z]; exact List.mem_cons_self ..))]; exact hu
  · rw [List.nodup_append] at n2 ⊢
    refine ⟨n2.1, List.nodup_cons.mpr ⟨fun z => na a (List.mem_append_right _ z) rfl, n2.2.1⟩, fun b hb c hc => ?_⟩
    rcases List.mem_cons.mp hc with z | z
    · rw [z]; exact na b (List.mem_append_left _ hb)
    · exact n2.2.2 b hb c z
  · rcases List.mem_append.mp hb with z | z
    · have := sub b (List.mem_append_left _ z)
      refine ⟨kF b ?_, ?_⟩
      · rcases this with y | y
        · exact List.mem_append_right _ (List.mem_cons_of_mem _ y)
        · exact List.mem_append_left _ y
      · rcases this with y | y
        · exact .inl (List.mem_cons_of_mem _ y)
        · exact .inr (.inl y)
    · rcases List.mem_cons.mp z with z | z
      · subst z; exact ⟨Fa, .inl (List.mem_cons_self ..)⟩
      · have := sub b (List.mem_append_right _ z)
        refine ⟨kF b ?_, ?_⟩
        · rcases this with y | y
          · exact List.mem_append_right _ (List.mem_cons_of_mem _ y)
          · exact List.mem_append_left _ y
        · rcases this with y | y
          · exact .inl (List.mem_cons_of_mem _ y)
          · exact .inr (.inl y)
def putP (ks : List Key) (xs : List D) (k : Key) (y : D) : Option (List Key × List D) := match pos k ks with
  | none => some (ks ++ [k], xs ++ [y])
  | some j => if xs.all isSh = true then some (ks, xs.set j y) else none
def dputD (n : D) (ds : List D) : Option (D × D) := match n, ds with
  | .odic ks xs, [i, d] => if xs.length < 1000000 then (keyD i).bind fun k => (putP ks xs k d).map fun q => (.odic q.1 q.2, .non) else none
  | _, _ => none
def rDput : V -> List V -> Hp -> VK -> Prop := fun x ys H Q => ∃ (a : Addr) (k v : V) (H' : Hp), x = .ref a /\ ys = [k, v] /\ DPut H a k v H' /\ Q .non H'
theorem mop_dput : Mop W rDput dputD := by
  intro n ds n' d hf F H vn Ln vs Ms Q s o os nd kF q
  unfold dputD at hf
  split at hf
  · rename_i ks xs i d2
    have hz : xs.length < 1000000 := by
      by_cases h : xs.length < 1000000
      · exact h
      · rw [if_neg h] at hf; cases hf
    rw [if_pos hz] at hf
    obtain ⟨k, hk, hf⟩ := Option.bind_eq_some_iff.mp hf
    obtain ⟨⟨ks', xs'⟩, hp, e⟩ := Option.map_eq_some_iff.mp hf
    cases e
    obtain ⟨v1, v2, L1, L2, rfl, o1, o2, rfl⟩ := os.two
    have hi : isSh i = true := by cases i <;> first | rfl | cases hk
    have hv := keyD_ok (o1.shr hi) hk
    cases o1.shNil hi
    cases o with
    | sh y => cases y
    | @odic a _ _ vs L ha hl hn hs =>
      have hz2 : (ks.zip vs).length < sizeLine := by
        rw [List.length_zip, <- hs.length]
        exact Nat.lt_of_le_of_lt (Nat.min_le_right _ _) (Nat.lt_of_lt_of_le hz (by decide))
      unfold putP at hp
      cases hpos : pos k ks with
      | none =>
        rw [hpos] at hp
        cases hp
        refine ⟨a, v1, v2, _, rfl, rfl, .inl ⟨_, k, ha, hv, hz2, rfl⟩, ?_⟩
        rw [putK_none hl hpos]
        refine mop_atD (ys := xs ++ [d2]) (ws := vs ++ [v2]) s nd kF (fun F' H' L' h1 h2 => .odic h1 (by simp [hl]) ?_ h2) (hs.append (.cons o2 .nil)) (.sh .non) ?_ (fun b hb => ?_) q
        · rw [List.nodup_append]
          exact ⟨hn, by simp, fun x hx y hy z => pos_none_has hpos x hx (by rw [z]; simpa using hy)⟩
        · have := nd_swap (nd_tail nd)
          simpa using this
        · simpa using hb
      | some j =>
        rw [hpos] at hp
        obtain ⟨hall, e⟩ := ite_some hp
        cases e
        refine ⟨a, v1, v2, _, rfl, rfl, .inl ⟨_, k, ha, hv, hz2, rfl⟩, ?_⟩
        rw [putK_some hl hn hpos]
        have sh := hs.shrs hall
        have hj : j < ks.length := by
          have := pos_get hpos
          exact (List.getElem?_eq_some_iff.mp this).1
        have hjx : j < xs.length := by have := hs.length; omega
        refine mop_atD (ys := xs.set j d2) (ws := vs.set j v2) (L2 := L2 ++ []) s nd kF (fun F' H' L' h1 h2 => .odic h1 (by simp [hl]) hn h2) ?_ (.sh .non) ?_ (fun b hb => ?_) q
        · rw [set_split hjx, set_split (by rw [<- hs.length]; exact hjx)]
          have h3 := ((sh.take j).owns (H := H)).append (.cons o2 ((sh.drop (j + 1)).owns))
          rw [List.nil_append] at h3
          rw [List.append_assoc, List.append_assoc]
          exact h3
        · have := (List.nodup_append.mp nd).1
          simpa using this
        · exact .inr (by simpa using hb)
  · cases hf
def rSetD : TSet := fun o i v H Q => ∃ (a : Addr) (H' : Hp), o = .ref a /\ DPut H a i v H' /\ Q H'
theorem set_dict {X : Cx} (hu : X.A.units + 1 < cLine) : PSet X rSetD := by
  intro pins s σ H o i v ov iv u Q I ro ri rv h
  obtain ⟨a, H', rfl, g, q⟩ := h
  cases ro
  exact d_setItem hu I g ri rv fun s' I' => ⟨H', I', q⟩
def dputK {T : Tbl} {W : Wd T} (p : XPl W) (k : XP W) (d : D) (e : Py.Env) : RS := RS.ofO ((p.ev e).bind fun q => (k.evF e).bind fun i => (dputD q.2 [i, d]).bind fun z => (getS e p.root).map fun d0 => e.set p.root (some (d0.putAt q.1 z.1)))
def xsDput (p : XPl W) (k : XP W) (m : XM W) : XS W where
  t E := tAsg (m.t E) (gSub p.t k.t rSetD)
  ev P env := (m.ev P env).thenS (dputK p k)
  snd := fun P E env hn e F σ H L Dn hP r s => by
    have hm : m.ev P env ≠ .no := fun z => hn (by rw [z]; rfl)
    refine (m.snd P E env).run hm hP r s (fun x e1 h => by rw [h]; rfl) fun d env' v F' H' L' M h r' o nd kk => ?_
    rw [h] at hn s
    have hn : dputK p k d env' ≠ .no := hn
    have s : Sat W e E (ends (dputK p k d env')) Dn := s
    unfold dputK at hn s
    cases h2 : ((p.ev env').bind fun q => (k.evF env').bind fun i => (dputD q.2 [i, d]).bind fun z => (getS env' p.root).map fun d0 => env'.set p.root (some (d0.putAt q.1 z.1))) with
    | none => rw [h2] at hn; exact absurd rfl hn
    | some e2 =>
      rw [h2] at s
      obtain ⟨⟨st, n⟩, e1, h3⟩ := Option.bind_eq_some_iff.mp h2
      obtain ⟨i, ei, h3⟩ := Option.bind_eq_some_iff.mp h3
      obtain ⟨⟨n', d'⟩, e3, h4⟩ := Option.bind_eq_some_iff.mp h3
      obtain ⟨d0', e4, h5⟩ := Option.map_eq_some_iff.mp h4
      subst h5
      obtain ⟨d0, h0, h1⟩ := p.at_ e1
      rw [getS_some e4] at h0
      cases h0
      obtain ⟨v0, _, _, _, hs, _⟩ := r'.focus (getS_some e4) h1
      refine p.loc e1 e F' σ H' L' v0 _ r' hs fun vn F1 H1 x1 p1 => ?_
      refine k.sF ei e F1 σ H1 L' _ (r'.ext x1) fun u F2 H2 x2 y2 => ?_
      rw [List.nodup_append] at nd
      obtain ⟨nd1, nd2, nd3⟩ := nd
      have x12 := x1.trans x2
      have go : rDput vn [u, v] H2 (fun _ H => Dn.nx σ H) := by
        refine am_mop mop_dput ((r'.ext x1).ext x2) (getS_some e4) h1 hs (p1.mono x2.h) e3 (Ms := [] ++ (M ++ [])) (.cons (.sh y2) (.cons (o.frame x12.f fun a _ o q => x12.h _ _ q) .nil)) (by simpa using nd1) (fun a ha => ?_) fun v2 F2 H2 L2 M2 r2 o2 n2 k2 => s.nx _ _ _ _ _ rfl r2
        have ha : a ∈ M := by simpa using ha
        refine ⟨fun z => nd3 a ha a z rfl, ?_, (kk a ha).2⟩
        obtain ⟨u, hu⟩ := o.lives a ha
        cases z : F2 a with
        | none => rfl
        | some w =>
          rcases x12.n a w z with y | y
          · rw [(kk a ha).1] at y; cases y
          · rw [hu] at y; cases y
      obtain ⟨a, k2, v', H', ex, ey, hd, q⟩ := go
      cases ey
      exact ⟨a, H', ex, hd, q⟩
end
end Py
namespace Py
open PySem L2
section
variable {T : Tbl} {W : Wd T} {env : Py.Env} {d : D} {P : List Nat} {E : WX} {A : AEnds}
def SameL (F F' : Hp) : Prop := ∀ a o, F a = some o -> F' a = some o \/ (∃ kvs od, o = .dK kvs /\ F' a = some (.frz od (.dK kvs))) \/ ∃ kvs od, o = .frz od (.dK kvs) /\ F' a = some (.dK kvs)
theorem SameL.eq {F F' : Hp} (e : SameL F F') {a : Addr} {o : HO} (h : F a = some o) (h1 : ∀ kvs, o ≠ .dK kvs) (h2 : ∀ od kvs, o ≠ .frz od (.dK kvs)) : F' a = some o := by
  rcases e a o h with q | ⟨kvs, od, q, _⟩ | ⟨kvs, od, q, _⟩
  · exact q
  · exact absurd q (h1 kvs)
  · exact absurd q (h2 od kvs)
theorem SameL.rd {F F' : Hp} (e : SameL F F') {a : Addr} {kvs : List (Key × V)} (h : Rd F a (.dK kvs)) : Rd F' a (.dK kvs) := by
  rcases h with h | ⟨o, h⟩
  · rcases e a _ h with q | ⟨kvs', od, q, q2⟩ | ⟨kvs', od, q, _⟩
    · exact .inl q
    · cases q; exact .inr ⟨_, q2⟩
    · cases q
  · rcases e a _ h with q | ⟨kvs', od, q, q2⟩ | ⟨kvs', od, q, q2⟩
    · exact .inr ⟨_, q⟩
    · cases q
    · cases q; exact .inl q2
theorem SameL.rdT {F F' : Hp} (e : SameL F F') {a : Addr} {kvs : List (List Key × V)} (h : Rd F a (.dT kvs)) : Rd F' a (.dT kvs) := by
  rcases h with h | ⟨o, h⟩
  · exact .inl (e.eq h (fun _ z => nomatch z) fun _ _ z => nomatch z)
  · exact .inr ⟨_, e.eq h (fun _ z => nomatch z) fun _ _ z => nomatch z⟩
theorem SameL.seq {F F' : Hp} (e : SameL F F') {K : PySem.W.Frag} {a : Addr} {vs : List V} (h : SqL K F a vs) : SqL K F' a vs := by
  rcases h with (h | ⟨o, h⟩) | h
  · exact .inl (.inl (e.eq h (fun _ z => nomatch z) fun _ _ z => nomatch z))
  · exact .inl (.inr ⟨o, e.eq h (fun _ z => nomatch z) fun _ _ z => nomatch z⟩)
  · exact .inr h
mutual
theorem Shr.lock {F F' : Hp} (e : SameL F F') : ∀ {d : D} {v : V}, Shr W F d v -> Shr W F' d v
  | _, _, .non => .non
  | _, _, .bl => .bl
  | _, _, .int => .int
  | _, _, .str => .str
  | _, _, .cls h => .cls h
  | _, _, .sei h n => .sei (e.eq h (fun _ z => nomatch z) fun _ _ z => nomatch z) n
  | _, _, .scr h => .scr (e.seq h)
  | _, _, .tup h hs => .tup (e.eq h (fun _ z => nomatch z) fun _ _ z => nomatch z) (Shrs.lock e hs)
  | _, _, .lst h hs => .lst (e.eq h (fun _ z => nomatch z) fun _ _ z => nomatch z) (Shrs.lock e hs)
  | _, _, .dic h l n hs => .dic (e.rd h) l n (Shrs.lock e hs)
  | _, _, .dit h l n hs => .dit (e.rdT h) l n (Shrs.lock e hs)
  | _, _, .dig h k l hs => .dig (e.eq h (fun _ z => nomatch z) fun _ _ z => nomatch z) (Shrs.lock e k) l (Shrs.lock e hs)
  | _, _, .ins h c l hs => .ins (e.eq h (fun _ z => nomatch z) fun _ _ z => nomatch z) c l (Shrs.lock e hs)
theorem Shrs.lock {F F' : Hp} (e : SameL F F') : ∀ {d : List D} {v : List V}, Shrs W F d v -> Shrs W F' d v
  | _, _, .nil => .nil
  | _, _, .cons h t => .cons (Shr.lock e h) (Shrs.lock e t)
end
mutual
theorem Own.lock {F F' H H' : Hp} (e : SameL F F') : ∀ {d : D} {v : V} {L : List Addr}, (∀ a ∈ L, ∀ o, H a = some o -> H' a = some o) -> Own W F H d v L -> Own W F' H' d v L
  | _, _, _, _, .sh h => .sh (h.lock e)
  | _, _, _, k, .olst h t => .olst (k _ (List.mem_cons_self ..) _ h) (Owns.lock e (fun a m => k a (List.mem_cons_of_mem _ m)) t)
  | _, _, _, k, .odic h l n t => .odic (k _ (List.mem_cons_self ..) _ h) l n (Owns.lock e (fun a m => k a (List.mem_cons_of_mem _ m)) t)
  | _, _, _, k, .odit h l n t => .odit (k _ (List.mem_cons_self ..) _ h) l n (Owns.lock e (fun a m => k a (List.mem_cons_of_mem _ m)) t)
  | _, _, _, k, .odig h s l t => .odig (k _ (List.mem_cons_self ..) _ h) (s.lock e) l (Owns.lock e (fun a m => k a (List.mem_cons_of_mem _ m)) t)
  | _, _, _, k, .oins h c l t => .oins (k _ (List.mem_cons_self ..) _ h) c l (Owns.lock e (fun a m => k a (List.mem_cons_of_mem _ m)) t)
theorem Owns.lock {F F' H H' : Hp} (e : SameL F F') : ∀ {d : List D} {v : List V} {L : List Addr}, (∀ a ∈ L, ∀ o, H a = some o -> H' a = some o) -> Owns W F H d v L -> Owns W F' H' d v L
  | _, _, _, _, .nil => .nil
  | _, _, _, k, .cons h t => .cons (Own.lock e (fun a m => k a (List.mem_append_left _ m)) h) (Owns.lock e (fun a m => k a (List.mem_append_right _ m)) t)
end
theorem Slots.lock {F F' H H' : Hp} (e : SameL F F') : ∀ {env : Py.Env} {σ : St} {L : List Addr}, (∀ a ∈ L, ∀ o, H a = some o -> H' a = some o) -> Slots W F H env σ L -> Slots W F' H' env σ L
  | _, _, _, _, .nil => .nil
  | _, _, _, k, .so h t => .so (h.lock e fun a m => k a (List.mem_append_left _ m)) (t.lock e fun a m => k a (List.mem_append_right _ m))
  | _, _, _, k, .no t => .no (t.lock e k)
theorem sameL_lock {F : Hp} {a : Addr} {kvs : List (Key × V)} {od : Obj} (h : F a = some (.dK kvs)) : SameL F (upd F a (.frz od (.dK kvs))) := fun b o q => by
  by_cases z : b = a
  · subst z; rw [h] at q; cases q; exact .inr (.inl ⟨kvs, od, rfl, upd_same⟩)
  · rw [upd_ne z]; exact .inl q
theorem sameL_unlock {F : Hp} {a : Addr} {kvs : List (Key × V)} {od : Obj} (h : F a = some (.frz od (.dK kvs))) : SameL F (upd F a (.dK kvs)) := fun b o q => by
  by_cases z : b = a
  · subst z; rw [h] at q; cases q; exact .inr (.inr ⟨kvs, od, rfl, upd_same⟩)
  · rw [upd_ne z]; exact .inl q
theorem Rel.lock {e : Ent} {F H : Hp} {σ : St} {L : List Addr} {a : Addr} {kvs : List (Key × V)} {od : Obj} (r : Rel W e env F σ H L) (h : F a = some (.dK kvs)) :
    Rel W ⟨upd F a (.frz od (.dK kvs)), upd H a (.frz od (.dK kvs)), L, e.pins⟩ env (upd F a (.frz od (.dK kvs))) σ (upd H a (.frz od (.dK kvs))) L where
  sF := fun b o q => by
    by_cases z : b = a
    · subst z; rw [upd_same] at q ⊢; exact q
    · rw [upd_ne z] at q ⊢; exact r.sF _ _ q
  slots := r.slots.lock (sameL_lock h) fun b m o q => by
    have : b ≠ a := fun z => by rw [z] at m; rw [r.dj a m] at h; cases h
    rw [upd_ne this]; exact q
  nd := r.nd
  dj := fun b m => by
    have : b ≠ a := fun z => by rw [z] at m; rw [r.dj a m] at h; cases h
    rw [upd_ne this]; exact r.dj b m
  s0 := Same.refl _
  nw := fun b o q => .inl q
  fr := fun b o m q => q
  ln := fun b m => .inl m
  pin := r.pin
theorem Rel.unlock {e : Ent} {F H F' H' : Hp} {σ σ' : St} {L L' : List Addr} {a : Addr} {kvs : List (Key × V)} {od : Obj} {env' : Py.Env} (r : Rel W e env F σ H L) (h : F a = some (.dK kvs))
    (r2 : Rel W ⟨upd F a (.frz od (.dK kvs)), upd H a (.frz od (.dK kvs)), L, e.pins⟩ env' F' σ' H' L') : F' a = some (.frz od (.dK kvs)) /\ H' a = some (.frz od (.dK kvs)) /\ Rel W e env' (upd F' a (.dK kvs)) σ' (upd H' a (.dK kvs)) L' := by
  have hF' : F' a = some (.frz od (.dK kvs)) := r2.s0 _ _ upd_same
  have hH' : H' a = some (.frz od (.dK kvs)) := r2.sF _ _ hF'
  have na : ∀ b ∈ L', b ≠ a := fun b m z => by rw [z] at m; rw [r2.dj a m] at hF'; cases hF'
  refine ⟨hF', hH', ⟨fun b o q => ?_, r2.slots.lock (sameL_unlock hF') fun b m o q => by rw [upd_ne (na b m)]; exact q, r2.nd, fun b m => by rw [upd_ne (na b m)]; exact r2.dj b m, fun b o q => ?_, fun b o q => ?_, fun b o m q => ?_, fun b m => ?_, r2.pin⟩⟩
  · by_cases z : b = a
    · subst z; rw [upd_same] at q ⊢; exact q
    · rw [upd_ne z] at q ⊢; exact r2.sF _ _ q
  · have q1 := r.s0 _ _ q
    by_cases z : b = a
    · subst z; rw [h] at q1; cases q1; exact upd_same
    · rw [upd_ne z]
      exact r2.s0 b o (by show upd F a _ b = _; rw [upd_ne z]; exact q1)
  · by_cases z : b = a
    · subst z; rw [upd_same] at q; cases q; exact r.nw b _ h
    · rw [upd_ne z] at q
      rcases r2.nw b o q with y | y | y
      · have y : upd F a (.frz od (.dK kvs)) b = some o := y
        rw [upd_ne z] at y
        exact r.nw b o y
      · have y : upd H a (.frz od (.dK kvs)) b = none := y
        rw [upd_ne z] at y
        exact .inr ((r.h0 y).elim .inr .inl)
      · exact .inr ((r.ln b y).elim .inr .inl)
  · have q1 := r.fr b o m q
    have nL : b ∉ L := fun y => by
      rcases r.ln b y with w | w
      · exact m w
      · rw [q] at w; cases w
    by_cases z : b = a
    · subst z
      rw [r.sF _ _ h] at q1
      cases q1
      exact upd_same
    · rw [upd_ne z]
      exact r2.fr b o nL (by show upd H a _ b = _; rw [upd_ne z]; exact q1)
  · rcases r2.ln b m with y | y
    · exact r.ln b y
    · have y : upd H a (.frz od (.dK kvs)) b = none := y
      rw [upd_ne (na b m)] at y
      exact r.h0 y
theorem seq_keys {F0 : Hp} {a : Addr} {od : Obj} {ks : List Key} {vs : List V} {ds : List D} (h : F0 a = some (.frz od (.dK (ks.zip vs)))) (hl : ks.length = vs.length) (hk : kDs ks = some ds) : Seq W (Itk a od (ks.zip vs)) ds F0 := by
  have hn : ds.length = ks.length := by
    clear h hl
    induction ks generalizing ds with
    | nil => cases hk; rfl
    | cons k ks ih =>
      cases k with
      | inl i => obtain ⟨ds', e, rfl⟩ := Option.map_eq_some_iff.mp hk; rw [List.length_cons, List.length_cons, ih e]
      | inr x => cases hk
  have hz : (ks.zip vs).length = ks.length := by rw [List.length_zip, <- hl, Nat.min_self]
  refine ⟨fun i d F H s1 s2 hd => ?_, fun F H s1 s2 => ⟨s2 _ _ (s1 _ _ h), by rw [hz, hn]; exact Nat.le_refl _⟩⟩
  have hi := (List.getElem?_eq_some_iff.mp hd).1
  refine ⟨⟨s2 _ _ (s1 _ _ h), by rw [hz]; omega⟩, fun x H' y => ?_⟩
  obtain ⟨rfl, k, v, h1, rfl⟩ := y
  refine ⟨F, .refl s2, ?_⟩
  have sh := kDs_ok (W := W) (F := F) hl hk
  obtain ⟨u, hu, su⟩ := sh.get hd
  rw [List.getElem?_map, h1] at hu
  cases hu
  exact su
def dsK : Option D -> Option (List D)
  | some (.dic ks _) => kDs ks
  | _ => none
theorem dsK_ok {o : Option D} {ds : List D} (h : dsK o = some ds) : ∃ ks xs, o = some (.dic ks xs) /\ kDs ks = some ds := by
  match o, h with
  | some (.dic ks xs), h => exact ⟨ks, xs, rfl, h⟩
def Lk (i : Nat) (σ : St) (H : Hp) : Prop := ∃ a od kvs, σ[i]? = some (some (V.ref a)) /\ H a = some (.frz od (.dK kvs))
theorem ait_keysL {i : Nat} {ds : List D} (h : dsK (getS env i) = some ds) : AIt W (fun σ H R => Lk i σ H -> iKeys (tVar i) σ H R) env ds := fun e F σ H L R r q => by
  rintro ⟨a, od, kvs, h1, h2⟩
  obtain ⟨ks, xs, e1, e2⟩ := dsK_ok h
  obtain ⟨v, M, e3, o, _⟩ := slot_get r (getS_some e1)
  rw [h1] at e3
  cases e3
  have sh := o.shr rfl
  cases sh with
  | dic hd hl hn hs =>
    rcases hd with hd | ⟨od', hd⟩
    · rw [r.sF _ _ hd] at h2; cases h2
    · have := r.sF _ _ hd
      refine ⟨_, h1, a, od', rfl, .inl ⟨_, this, ?_⟩⟩
      exact q _ F H (.refl r.sF) (seq_keys hd hl e2)
def xiKeysL (i : Nat) : XI W where
  t := fun σ H R => Lk i σ H -> iKeys (tVar i) σ H R
  evF env := dsK (getS env i)
  evP env := dsK (getS env i)
  sF := fun e => ait_keysL e
  sP := fun e => (ait_keysL e).p
def isDic : Option D -> Bool
  | some (.dic _ _) => true
  | _ => false
theorem isDic_ok {o : Option D} (h : isDic o = true) : ∃ ks xs, o = some (.dic ks xs) := by
  match o, h with
  | some (.dic ks xs), h => exact ⟨ks, xs, rfl⟩
def xpLock (i : Nat) (x : XP W) (t : TE) (ht : ∀ σ H Q, Lk i σ H -> x.t σ H Q -> t σ H Q) : XP W where
  t := fun σ H Q => tLockE t σ H Q \/ t σ H Q
  ev env := guardB (isDic (getS env i)) (match x.ev env with
    | some (.fr, d) => some (.fr, d)
    | _ => none)
  snd := fun {env k d} e => by
    obtain ⟨h1, e⟩ := guardB_some e
    obtain ⟨ks, xs, e1⟩ := isDic_ok h1
    match e2 : x.ev env, e with
    | some (.fr, d'), e =>
      cases e
      intro e' F σ H L Q r q
      obtain ⟨v, M, e3, o, _⟩ := slot_get r (getS_some e1)
      have sh := o.shr rfl
      cases sh with
      | @dic a _ _ vs hd hl hn hs =>
        rcases hd with hd | ⟨od', hd⟩
        · refine .inl ⟨a, _, r.sF _ _ hd, trivial, fun od => ht _ _ _ ⟨a, od, _, e3, upd_same⟩ (x.snd e2 _ _ σ _ L _ (r.lock (od := od) hd) fun v F' H' x1 ⟨M, o, nd, kk⟩ => ?_)⟩
          have hF' : F' a = some (.frz od (.dK (ks.zip vs))) := x1.f _ _ upd_same
          have hH' := x1.s _ _ hF'
          have na : ∀ b ∈ M, b ≠ a := fun b m z => by have := (kk b m).2; rw [z, hF'] at this; cases this
          refine ⟨hH', q v (upd F' a (.dK (ks.zip vs))) _ ⟨fun b o q => ?_, fun b o q => ?_, fun b o q => ?_, fun b o q => ?_⟩ ⟨M, o.lock (sameL_unlock hF') fun b m o q => by rw [upd_ne (na b m)]; exact q, nd, fun b m => ⟨?_, by rw [upd_ne (na b m)]; exact (kk b m).2⟩⟩⟩
          · by_cases z : b = a
            · subst z; rw [hd] at q; cases q; exact upd_same
            · rw [upd_ne z]; exact x1.f _ _ (by rw [upd_ne z]; exact q)
          · by_cases z : b = a
            · subst z; rw [upd_same] at q ⊢; exact q
            · rw [upd_ne z] at q ⊢; exact x1.s _ _ q
          · by_cases z : b = a
            · subst z; rw [r.sF _ _ hd] at q; cases q; exact upd_same
            · rw [upd_ne z]; exact x1.h _ _ (by rw [upd_ne z]; exact q)
          · by_cases z : b = a
            · subst z; rw [upd_same] at q; cases q; exact .inl hd
            · rw [upd_ne z] at q
              rcases x1.n b o q with y | y
              · rw [upd_ne z] at y; exact .inl y
              · rw [upd_ne z] at y; exact .inr y
          · have := (kk b m).1
            rw [upd_ne (na b m)] at this
            exact this
        · exact .inr (ht _ _ _ ⟨a, od', _, e3, r.sF _ _ hd⟩ (x.snd e2 e' F σ H L Q r q))
def noEx : RS -> RS
  | .ex _ _ => .no
  | r => r
theorem noEx_ne {r : RS} (h : noEx r ≠ .no) : noEx r = r /\ r ≠ .no /\ ∀ x e, r ≠ .ex x e := by
  cases r <;> first | exact ⟨rfl, h, fun _ _ z => nomatch z⟩ | exact absurd rfl h
def xsLock (i : Nat) (s : XS W) (t : WX -> TS) (ht : ∀ E D σ H, Lk i σ H -> s.t E D σ H -> t E D σ H) : XS W where
  t E := fun D σ H => tLock (t E) D σ H \/ t E D σ H
  ev P env := match isDic (getS env i) with
    | true => noEx (s.ev P env)
    | false => .no
  snd := fun P E env hn e F σ H L Dn hP r st => by
    match h1 : isDic (getS env i), hn, st with
    | true, hn, st =>
    obtain ⟨hq, hn1, hx⟩ := noEx_ne hn
    dsimp only at st
    rw [hq] at st
    obtain ⟨ks, xs, e1⟩ := isDic_ok h1
    obtain ⟨v, M, e3, o, _⟩ := slot_get r (getS_some e1)
    have sh := o.shr rfl
    cases sh with
    | @dic a _ _ vs hd hl hnd hs =>
      rcases hd with hd | ⟨od', hd⟩
      · refine .inl ⟨a, _, r.sF _ _ hd, trivial, fun od => ht _ _ _ _ ⟨a, od, _, e3, upd_same⟩ (s.snd P E env hn1 ⟨upd F a (.frz od (.dK (ks.zip vs))), upd H a (.frz od (.dK (ks.zip vs))), L, e.pins⟩ _ σ _ L _ hP (r.lock (od := od) hd) ⟨fun env' F' σ' H' L' a' r' => ?_, fun d env' F' σ' H' L' v M a' r' o nd kk => ?_, fun env' F' σ' H' L' a' r' => ?_, fun env' F' σ' H' L' a' r' => ?_, fun x env' F' σ' H' L' C dd a' r' ie => absurd a' (hx _ _)⟩)⟩
        · obtain ⟨_, z, u⟩ := Rel.unlock r hd r'
          exact ⟨z, st.nx _ _ _ _ _ a' u⟩
        · obtain ⟨hF', z, u⟩ := Rel.unlock r hd r'
          have na : ∀ b ∈ M, b ≠ a := fun b m z => by have := (kk b m).1; rw [z, hF'] at this; cases this
          refine ⟨z, st.rt _ _ _ _ _ _ _ _ a' u (o.lock (sameL_unlock hF') fun b m o q => by rw [upd_ne (na b m)]; exact q) nd fun b m => ⟨by rw [upd_ne (na b m)]; exact (kk b m).1, ?_⟩⟩
          rcases (kk b m).2 with y | y
          · exact r.ln b y
          · have y : upd H a _ b = none := y
            rw [upd_ne (na b m)] at y
            exact r.h0 y
        · obtain ⟨_, z, u⟩ := Rel.unlock r hd r'
          exact ⟨z, st.bk _ _ _ _ _ a' u⟩
        · obtain ⟨_, z, u⟩ := Rel.unlock r hd r'
          exact ⟨z, st.ct _ _ _ _ _ a' u⟩
      · exact .inr (ht _ _ _ _ ⟨a, od', _, e3, r.sF _ _ hd⟩ (s.snd P E env hn1 e F σ H L Dn hP r st))
theorem tFor_lk {i : Nat} {g : TG} {tb : TS} {D : Ends} {σ : St} {H : Hp} (h : Lk i σ H) (q : tFor (fun σ H R => Lk i σ H -> iKeys (tVar i) σ H R) g tb D σ H) : tFor (iKeys (tVar i)) g tb D σ H := q h
def xsForD (i : Nat) (g : XG W) (b : XS W) : XS W := xsLock i (xsFor (xiKeysL i) g b) (fun E => tFor (iKeys (tVar i)) g.t (b.t E)) (fun _ _ _ _ h q => tFor_lk h q)
theorem ps_forD {X : Cx} {i : Nat} {st : Stmt} {g : TG} {tb : TS} (h : PS X st (tFor (iKeys (tVar i)) g tb)) : PS X st (fun D σ H => tLock (tFor (iKeys (tVar i)) g tb) D σ H \/ tFor (iKeys (tVar i)) g tb D σ H) := ps_alt (ps_lock h) h
theorem pe_lockU {X : Cx} {e : Expr} {t : TE} (h : PE X e t) : PE X e (fun σ H Q => tLockE t σ H Q \/ t σ H Q) := pe_alt (pe_lock h) h
def dc1 (g : XG W) (c : XT W) (k x : XP W) (env : Py.Env) (d : D) : Option (Option (Key × D)) := (g.ev [] d env).bind fun e2 => (c.ev e2).bind fun b => if b = true then ((k.evF e2).bind keyD).bind fun y => (x.evF e2).map fun z => some (y, z) else some none
def putO (acc : List Key × List D) : Option (Key × D) -> Option (List Key × List D)
  | some p => putP acc.1 acc.2 p.1 p.2
  | none => some acc
def dcL (f : D -> Option (Option (Key × D))) : List D -> List Key × List D -> Option (List Key × List D)
  | [], acc => some acc
  | d :: ds, acc => (f d).bind fun o => (putO acc o).bind (dcL f ds)
theorem dcL_take {f : D -> Option (Option (Key × D))} : ∀ {ds : List D} {acc r : List Key × List D}, dcL f ds acc = some r -> ∃ rs : Nat -> List Key × List D, rs 0 = acc /\ rs ds.length = r /\ (∀ (i : Nat) (d : D), ds[i]? = some d -> ∃ o, f d = some o /\ putO (rs i) o = some (rs (i + 1)))
  | [], acc, r, h => by cases h; exact ⟨fun _ => acc, rfl, rfl, fun i d h => by simp at h⟩
  | d :: ds, acc, r, h => by
    obtain ⟨o, e1, h⟩ := Option.bind_eq_some_iff.mp h
    obtain ⟨acc2, e2, h⟩ := Option.bind_eq_some_iff.mp h
    obtain ⟨rs, r0, r1, r2⟩ := dcL_take h
    refine ⟨fun i => match i with | 0 => acc | i + 1 => rs i, rfl, r1, fun i d' hd => ?_⟩
    cases i with
    | zero => simp at hd; subst hd; exact ⟨o, e1, by dsimp only; rw [r0]; exact e2⟩
    | succ i => exact r2 i d' (by simpa using hd)
theorem ae_dc {wi : TI} {g : TG} {tt : TT} {tk tv : TE} {vs : List Nat} {ds : List D} (h : AIp W wi env ds) (hg : GW g vs) (rs : Nat -> List Key × List D) (h0 : rs 0 = ([], []))
    (hs : ∀ (i : Nat) (d : D), ds[i]? = some d -> AG W [] g d (wipeE env vs) fun e2 => ∃ b, AT W tt e2 b /\ (b = true -> ∃ y k z, AE W tk e2 (rF W y) /\ keyD y = some k /\ AE W tv e2 (rF W z) /\ putP (rs i).1 (rs i).2 k z = some (rs (i + 1))) /\ (b = false -> rs (i + 1) = rs i))
    (hz : ds.length < 1000000) : AE W (tDc wi g tt tk tv vs) env (rO W (.odic (rs ds.length).1 (rs ds.length).2)) := fun e F σ H L Q r q =>
  h e F σ H L _ r fun J F1 H1 x1 sq => by
    intro Dl hD
    have r1 := (r.ext x1).nopin
    obtain ⟨Lw, rw', mw⟩ := r1.wipe rfl vs
    have hF1 : F1 Dl = none := x1.s.free hD
    have hH : H Dl = none := x1.h.free hD
    let Iv : Nat -> Hp -> Prop := fun i H' => ∃ F' ws, Ext F H F' H' /\ (Same F1 F' /\ Same H1 H') /\ Rel W { e with pins := [] } (wipeE env vs) F' (wipe σ vs) H' Lw /\ H' Dl = some (.dK ((rs i).1.zip ws)) /\ F' Dl = none /\ Shrs W F' (rs i).2 ws /\ (rs i).1.length = ws.length /\ (rs i).1.Nodup /\ (rs i).1.length <= i
    refine ⟨fun i m H' => m = ds.length - i /\ i <= ds.length /\ Iv i H', ⟨ds.length, rfl, Nat.zero_le _, F1, [], x1.trans (.newH x1.s hD), ⟨Same.refl _, same_new hD⟩, rw'.ext (.newH x1.s hD), by rw [h0]; exact upd_same, hF1, by rw [h0]; exact .nil, by rw [h0]; rfl, by rw [h0]; exact .nil, by rw [h0]; exact Nat.le_refl _⟩, ?_⟩
    rintro i m H' ⟨rfl, hi, F', ws, xE, s1, rr, hl, hFD, os, lk, nd, hle⟩
    have hDL : Dl ∉ Lw := fun z => by
      obtain ⟨o, ho⟩ := rw'.slots.lives Dl z
      rw [hD] at ho; cases ho
    by_cases hlt : i < ds.length
    · have hd' : ds[i]? = some ds[i] := List.getElem?_eq_getElem hlt
      obtain ⟨g1, g2⟩ := sq.go i _ F' H' s1.1 s1.2 rr.sF hd'
      refine .inr ⟨g1, Iv (i + 1), fun H'' p' => ⟨ds.length - (i + 1), by omega, rfl, hlt, p'⟩, fun x H2 y => ?_⟩
      obtain ⟨F2, x2, sx⟩ := g2 x H2 y
      have rr2 := rr.ext x2
      have fin : ∀ {Fa Ha}, Ext F2 H2 Fa Ha -> Ext F H Fa Ha /\ (Same F1 Fa /\ Same H1 Ha) /\ Rel W { e with pins := [] } (wipeE env vs) Fa (wipe σ vs) Ha Lw /\ Ha Dl = some (.dK ((rs i).1.zip ws)) /\ Fa Dl = none /\ Shrs W Fa (rs i).2 ws := fun {Fa Ha} xa => by
        have x3 := x2.trans xa
        refine ⟨xE.trans x3, ⟨s1.1.trans x3.f, s1.2.trans x3.h⟩, rr.ext x3, x3.h _ _ hl, ?_, os.mono x3.f⟩
        cases z : Fa Dl with
        | none => rfl
        | some u =>
          rcases x3.n Dl u z with w | w
          · rw [hFD] at w; cases w
          · rw [hl] at w; cases w
      have step := hg x (wipe σ vs) H2 _ (hs i _ hd' { e with pins := [] } F2 (wipe σ vs) H2 Lw x (fun σ2 H2 => tt σ2 H2 fun b H3 => if b = true then tk σ2 H3 fun y H4 => tv σ2 H4 fun z H5 => ∃ kvs k, y = kV k /\ H5 Dl = some (.dK kvs) /\ kvs.length < sizeLine /\ Iv (i + 1) (upd H5 Dl (.dK (putK kvs k z))) else Iv (i + 1) H3) rfl rr2 sx fun env2 σ2 L2 k2 q2 => ?_)
      · rw [wipe_wipe] at step
        exact step
      obtain ⟨b, hb, hy, hn⟩ := k2
      refine hb _ F2 σ2 H2 L2 _ q2 fun F3 H3 x3 => ?_
      cases b with
      | false =>
        obtain ⟨a1, a2, a3, a4, a5, a6⟩ := fin x3
        rw [if_neg (by decide)]
        refine ⟨F3, ws, a1, a2, a3, ?_, a5, ?_, ?_, ?_, ?_⟩
        · rw [hn rfl]; exact a4
        · rw [hn rfl]; exact a6
        · rw [hn rfl]; exact lk
        · rw [hn rfl]; exact nd
        · rw [hn rfl]; omega
      | true =>
        obtain ⟨y, k, z, htk, hk, htv, hput⟩ := hy rfl
        rw [if_pos rfl]
        refine htk _ F3 σ2 H3 L2 _ (q2.ext x3) fun w F4 H4 x4 sy => htv _ F4 σ2 H4 L2 _ ((q2.ext x3).ext x4) fun w2 F5 H5 x5 sz => ?_
        obtain ⟨a1, a2, a3, a4, a5, a6⟩ := fin ((x3.trans x4).trans x5)
        have hzl : ((rs i).1.zip ws).length < sizeLine := by
          rw [List.length_zip, <- lk, Nat.min_self]
          exact Nat.lt_of_le_of_lt hle (Nat.lt_of_lt_of_le (Nat.lt_trans hlt hz) (by decide))
        refine ⟨_, k, keyD_ok sy hk, a4, hzl, ?_⟩
        have ext2 : ∀ o, Ext F H F5 (upd H5 Dl o) := fun o => ⟨a1.f, fun b u hb => by rw [upd_ne (fun z => by rw [z, a5] at hb; cases hb)]; exact a1.s _ _ hb, fun b u hb => by rw [upd_ne (fun z => by rw [z, hH] at hb; cases hb)]; exact a1.h _ _ hb, a1.n⟩
        have same2 : ∀ o, Same F1 F5 /\ Same H1 (upd H5 Dl o) := fun o => ⟨a2.1, fun b u hb => by rw [upd_ne (fun z => by rw [z, hD] at hb; cases hb)]; exact a2.2 _ _ hb⟩
        unfold putP at hput
        cases hpos : pos k (rs i).1 with
        | none =>
          rw [hpos] at hput
          have hput := Option.some.inj hput
          have e1 : (rs (i + 1)).1 = (rs i).1 ++ [k] := by rw [<- hput]
          have e2 : (rs (i + 1)).2 = (rs i).2 ++ [z] := by rw [<- hput]
          rw [putK_none lk hpos]
          refine ⟨F5, ws ++ [w2], ext2 _, same2 _, a3.free hDL a5 (rw'.h0 hD), by rw [e1]; exact upd_same, a5, ?_, ?_, ?_, ?_⟩
          · rw [e2]; exact a6.append (.cons sz .nil)
          · rw [e1]; simp [lk]
          · rw [e1, List.nodup_append]
            exact ⟨nd, by simp, fun x hx y hy z => pos_none_has hpos x hx (by rw [z]; simpa using hy)⟩
          · rw [e1]; simp; exact hle
        | some j =>
          rw [hpos] at hput
          obtain ⟨hall, hput⟩ := ite_some hput
          have e1 : (rs (i + 1)).1 = (rs i).1 := by rw [<- hput]
          have e2 : (rs (i + 1)).2 = (rs i).2.set j z := by rw [<- hput]
          have hj : j < (rs i).1.length := (List.getElem?_eq_some_iff.mp (pos_get hpos)).1
          have hjx : j < (rs i).2.length := by have := a6.length; omega
          rw [putK_some lk nd hpos]
          refine ⟨F5, ws.set j w2, ext2 _, same2 _, a3.free hDL a5 (rw'.h0 hD), by rw [e1]; exact upd_same, a5, ?_, ?_, ?_, ?_⟩
          · rw [e2, set_split hjx, set_split (by rw [<- a6.length]; exact hjx), List.append_assoc, List.append_assoc]
            exact (a6.take j).append (.cons sz (a6.drop (j + 1)))
          · rw [e1, List.length_set]; exact lk
          · rw [e1]; exact nd
          · rw [e1]; omega
    · have e0 : i = ds.length := by omega
      subst e0
      refine .inl ⟨sq.stop F' H' s1.1 s1.2 rr.sF, q _ F' H' xE ⟨[Dl], .odic hl lk nd os.owns, by simp, fun a ha => ?_⟩⟩
      rw [List.mem_singleton.mp ha]; exact ⟨hH, hFD⟩
def xDc (it : XI W) (g : XG W) (c : XT W) (k x : XP W) : XP W where
  t := tDc it.t g.t c.t k.t x.t g.own
  ev env := (it.evP env).bind fun ds => if ds.length < 1000000 then (dcL (dc1 g c k x (wipeE env g.own)) ds ([], [])).map fun q => (.fr, .odic q.1 q.2) else none
  snd := fun {env kd d} e => by
    obtain ⟨ds, e1, e⟩ := Option.bind_eq_some_iff.mp e
    split at e
    · rename_i hl
      obtain ⟨q, e2, e⟩ := Option.map_eq_some_iff.mp e
      cases e
      obtain ⟨rs, r0, r1, r2⟩ := dcL_take e2
      rw [<- r1]
      refine ae_dc (it.sP e1) (g.gw fun _ m => m) rs r0 (fun i d hd => ?_) hl
      obtain ⟨o, h, hr⟩ := r2 i d hd
      obtain ⟨env2, g1, h⟩ := Option.bind_eq_some_iff.mp h
      obtain ⟨b, c1, h⟩ := Option.bind_eq_some_iff.mp h
      intro e0 F σ H L v Q hP r s q
      refine g.snd g1 e0 F σ H L v Q hP r s fun env3 σ2 L2 z r3 => ?_
      subst z
      refine q _ σ2 L2 ⟨b, c.snd c1, fun hb => ?_, fun hb => ?_⟩ r3
      · subst hb
        obtain ⟨y, h8, h⟩ := Option.bind_eq_some_iff.mp h
        obtain ⟨z, h9, rfl⟩ := Option.map_eq_some_iff.mp h
        obtain ⟨yd, h10, h11⟩ := Option.bind_eq_some_iff.mp h8
        exact ⟨yd, y, z, k.sF h10, h11, x.sF h9, hr⟩
      · subst hb
        cases h
        exact (Option.some.inj hr).symm
    · cases e
def xDcD (i : Nat) (g : XG W) (c : XT W) (k x : XP W) : XP W := xpLock i (xDc (xiKeysL i) g c k x) (tDc (iKeys (tVar i)) g.t c.t k.t x.t g.own) (fun _ _ _ h q => q h)
end
end Py
namespace Py
open PySem L2
section
variable {T : Tbl} {W : Wd T} {env : Py.Env} {d : D} {P : List Nat} {E : WX} {A : AEnds}
end
theorem hu1 {k : Nat} {A : Around} (r : Room k A) : A.units + 1 < cLine := by have := r.un; omega
end Py
namespace Py
open PySem L2
section
variable {T : Tbl} {W : Wd T} {env : Py.Env} {P : List Nat} {E : WX} {A : AEnds}
end
end Py
namespace Py
open PySem L2
section
variable {T : Tbl} {W : Wd T} {env : Py.Env}
end
end Py
namespace Py
open PySem L2
section
variable {T : Tbl} {W : Wd T}
end
end Py
namespace Py
open PySem L2 PyProof.Rows
section
variable {P : Program} {w : World} {A : Around} {E : Value -> Shared -> Prop} {s : Shared}
end
end Py
namespace Py
open PySem L2
section
variable {X : Cx} {k n : Nat} {f C : Addr} {fd : FuncData} {ps ks : List Str} {sp : Sp} {E : WX} {x : Str} {p pos : Pos} {e : Expr} {es : List Expr} {kws : List Keyword} {t tkw : TA} {g : List Value -> List Value -> List Value} {gV : List V -> List V -> List V} {dvs : List V} {ds : List Value}
end
section
variable {T : Tbl} {W : Wd T} {env : Py.Env} {P : List Nat} {E : WX} {A : AEnds} {d : D}
def exOf (c : String) (fs : List String) (ds : Option (List D)) (env : Py.Env) : RS := match ds with
  | some ds => if ds.length = fs.length then .ex ⟨c, fs.zip ds⟩ env else .no
  | none => .no
theorem zip_fst {fs : List String} {ds : List D} (h : ds.length = fs.length) : (fs.zip ds).map (·.1) = fs := List.map_fst_zip (by omega)
theorem zip_snd {fs : List String} {ds : List D} (h : ds.length = fs.length) : (fs.zip ds).map (·.2) = ds := List.map_snd_zip (by omega)
def xsRaise (c : String) (fs : List String) (as : XA W) : XS W where
  t E := fun _ σ H => W.hasX c -> tMkX (W.cA c) (fs.map so) as.t σ H fun cls d H' => E cls d σ H'
  ev P env := exOf c fs (as.evF env) env
  snd := fun P E env hn e F σ H L Dn hP r s hc => by
    match h : as.evF env, hn, s with
    | none, hn, s => exact absurd rfl hn
    | some ds, hn, s =>
      unfold exOf at hn s
      by_cases hl : ds.length = fs.length
      · dsimp only at s
        rw [if_pos hl] at s
        refine as.sF h e F σ H L _ r fun vs F1 H1 x1 y1 => ?_
        have y1 : Shrs W F1 ds vs := y1
        refine ⟨by rw [<- y1.length, hl, List.length_map], fun a ha => ?_⟩
        refine s.ex ⟨c, fs.zip ds⟩ env (upd F1 a (.xd ((fs.map so).zip vs))) σ (upd H1 a (.xd ((fs.map so).zip vs))) L _ _ rfl ((r.ext x1).ext (.new x1.s ha)) ⟨rfl, hc, .inr ⟨a, vs, rfl, ?_, ?_⟩⟩
        · rw [upd_same, zip_fst hl]
        · rw [zip_snd hl]
          exact y1.mono (same_new (x1.s.free ha))
      · dsimp only at hn
        rw [if_neg hl] at hn
        exact absurd rfl hn
end
end Py
namespace Py
open PySem L2
section
variable {T : Tbl} {W : Wd T} {env : Py.Env} {P : List Nat} {E : WX} {A : AEnds} {d : D} {i : Nat}
theorem IsExn.mono {F F' : Hp} {x : Exn} {C : Value} {dd : Option Addr} (e : Same F F') (h : IsExn W F x C dd) : IsExn W F' x C dd := by
  obtain ⟨h1, h2, h3⟩ := h
  refine ⟨h1, h2, h3.imp id ?_⟩
  rintro ⟨a, vs, h4, h5, h6⟩
  exact ⟨a, vs, h4, e _ _ h5, h6.mono e⟩
def AQ {T : Tbl} (W : Wd T) (i : Nat) (x : Exn) (a : Addr) (cls : Value) (dd : Option Addr) (t : TE) (env : Py.Env) (R : Res) : Prop :=
  ∀ (e : Ent) (F : Hp) (σ : St) (H : Hp) (L : List Addr) (Q : VK), Rel W e env F σ H L -> IsExn W F x cls dd -> σ[i]? = some (some (.ref a)) -> (∀ v F' H', Ext F H F' H' -> R F' H' H v -> Q v H') -> t σ H Q
structure XQ {T : Tbl} (W : Wd T) (i : Nat) where
  t : Addr -> Value -> Option Addr -> TE
  ev : Exn -> Py.Env -> Option (Kd × D)
  snd : ∀ {x env k d}, ev x env = some (k, d) -> ∀ a cls dd, AQ W i x a cls dd (t a cls dd) env (rK W k d)
def xqP (p : XP W) : XQ W i where
  t _ _ _ := p.t
  ev _ env := p.ev env
  snd := fun h a cls dd e F σ H L Q r _ _ q => p.snd h e F σ H L Q r q
theorem look_fld {F : Hp} {f : String} {d : D} : ∀ {fs : List (String × D)} {vs : List V}, Shrs W F (fs.map (·.2)) vs -> fs.lookup f = some d -> ∃ v, (((fs.map (·.1)).map so).zip vs).lookup (so f) = some v /\ Shr W F d v
  | [], _, _, h => by simp [List.lookup] at h
  | (k, x) :: fs, _, .cons (v := v) h t, hl => by
    by_cases e : f = k
    · subst e
      simp only [List.lookup_cons_self] at hl
      cases hl
      exact ⟨v, by simp, h⟩
    · rw [List.lookup_cons, beq_eq_false_iff_ne.mpr e] at hl
      obtain ⟨u, h1, h2⟩ := look_fld t hl
      refine ⟨u, ?_, h2⟩
      rw [List.map_cons, List.map_cons, List.zip_cons_cons, List.lookup_cons, beq_eq_false_iff_ne.mpr (fun z => e (so_inj z))]
      exact h1
def xqFld (W : Wd T) (i : Nat) (c f : String) : XQ W i where
  t a cls dd := tXf a cls dd (W.cA c) (so f) (tVar i)
  ev x _ := if x.c = c then (x.fs.lookup f).map (Prod.mk .fr) else none
  snd := fun {x env k d} h a cls dd e F σ H L Q r ie hs q => by
    obtain ⟨hc, h⟩ := if_some' h
    obtain ⟨z, h, e1⟩ := Option.map_eq_some_iff.mp h
    cases e1
    obtain ⟨h1, h2, h3⟩ := ie
    rcases h3 with h3 | ⟨p, vs, h4, h5, h6⟩
    · rw [h3] at h; simp [List.lookup] at h
    · obtain ⟨v, h7, h8⟩ := look_fld h6 h
      exact ⟨_, hs, rfl, by rw [h1, hc], p, _, v, h4, r.sF _ _ h5, h7, q v F H (.refl r.sF) (rO_sh h8)⟩
def XQ.evB (m : XQ W i) (x : Exn) (env : Py.Env) : Option Bool := (toV (m.ev x env)).bind blD
theorem XQ.sB (m : XQ W i) {x : Exn} {b : Bool} (h : m.evB x env = some b) (a : Addr) (cls : Value) (dd : Option Addr) : AQ W i x a cls dd (m.t a cls dd) env (rV W (.bl b)) := by
  obtain ⟨y, e1, e⟩ := Option.bind_eq_some_iff.mp h
  cases blD_ok e
  match e2 : m.ev x env, e1 with
  | some (k, d0), e1 =>
    have e1 : some (fz d0) = some (.bl b) := e1
    exact fun e F σ H L Q r ie hs q => m.snd e2 a cls dd e F σ H L Q r ie hs fun v F' H' x' y => q v F' H' x' (by
      have := rK_view x'.s y
      rwa [Option.some.inj e1] at this)
def toQ (o : Option (Kd × D)) : Option D := match o with
  | some (.fr, d) => if isSh d = true then some d else none
  | some (.pl, d) => if isSh d = true then some d else none
  | some (.vw, d) => if isFlat d = true then some d else none
  | none => none
def XQ.evF (m : XQ W i) (x : Exn) (env : Py.Env) : Option D := toQ (m.ev x env)
theorem XQ.sF (m : XQ W i) {x : Exn} (h : m.evF x env = some d) (a : Addr) (cls : Value) (dd : Option Addr) : AQ W i x a cls dd (m.t a cls dd) env (rF W d) := by
  unfold XQ.evF toQ at h
  intro e F σ H L Q r ie hs q
  split at h
  · rename_i d0 e2
    obtain ⟨h1, rfl⟩ := ite_some h
    exact m.snd e2 a cls dd e F σ H L Q r ie hs fun v F' H' x' ⟨M, o, _, _⟩ => q v F' H' x' (o.shr h1)
  · rename_i d0 e2
    obtain ⟨h1, rfl⟩ := ite_some h
    exact m.snd e2 a cls dd e F σ H L Q r ie hs fun v F' H' x' ⟨M, o⟩ => q v F' H' x' (o.shr h1)
  · rename_i d0 e2
    obtain ⟨h1, rfl⟩ := ite_some h
    exact m.snd e2 a cls dd e F σ H L Q r ie hs fun v F' H' x' y => q v F' H' x' (Shr.flat y h1)
  · cases h
structure XQs {T : Tbl} (W : Wd T) (i : Nat) where
  t : Addr -> Value -> Option Addr -> TA
  ev : Exn -> Py.Env -> Option (List D)
  snd : ∀ {x env ds}, ev x env = some ds -> ∀ a cls dd (e : Ent) (F : Hp) (σ : St) (H : Hp) (L : List Addr) (Q : List V -> Hp -> Prop), Rel W e env F σ H L -> IsExn W F x cls dd -> σ[i]? = some (some (.ref a)) -> (∀ vs F' H', Ext F H F' H' -> Shrs W F' ds vs -> Q vs H') -> t a cls dd σ H Q
def xqsNil (W : Wd T) (i : Nat) : XQs W i where
  t _ _ _ := tNil
  ev _ _ := some []
  snd := fun h a cls dd e F σ H L Q r _ _ q => by cases h; exact q [] F H (.refl r.sF) .nil
def xqsCons (m : XQ W i) (n : XQs W i) : XQs W i where
  t a cls dd := tCons (m.t a cls dd) (n.t a cls dd)
  ev x env := (m.evF x env).bind fun y => (n.ev x env).map (y :: ·)
  snd := fun {x env ds} h a cls dd e F σ H L Q r ie hs q => by
    obtain ⟨y, e1, h⟩ := Option.bind_eq_some_iff.mp h
    obtain ⟨ys, e2, rfl⟩ := Option.map_eq_some_iff.mp h
    exact m.sF e1 a cls dd e F σ H L _ r ie hs fun v F1 H1 x1 y1 => n.snd e2 a cls dd e F1 σ H1 L _ (r.ext x1) (ie.mono x1.f) hs fun vs F2 H2 x2 y2 => q _ F2 H2 (x1.trans x2) (.cons (Shr.mono x2.f y1) y2)
def xqLst (n : XQs W i) : XQ W i where
  t a cls dd := tLst (n.t a cls dd)
  ev x env := (n.ev x env).bind fun ds => if ds.length <= 1000000 then some (.fr, .olst ds) else none
  snd := fun {x env k d} h a cls dd e F σ H L Q r ie hs q => by
    obtain ⟨ds, e1, h⟩ := Option.bind_eq_some_iff.mp h
    obtain ⟨hl, h⟩ := ite_some h
    cases h
    refine n.snd e1 a cls dd e F σ H L _ r ie hs fun vs F1 H1 x1 y1 => ⟨by rw [<- y1.length]; exact Nat.le_trans hl (by decide), fun p hp => q _ F1 _ (x1.trans (.newH x1.s hp)) ⟨[p], .olst upd_same y1.owns, by simp, fun b m => ?_⟩⟩
    obtain rfl := List.mem_singleton.mp m
    exact ⟨x1.h.free hp, x1.s.free hp⟩
structure XH {T : Tbl} (W : Wd T) (i : Nat) where
  t : Addr -> Value -> Option Addr -> TS
  ev : Exn -> List Nat -> Py.Env -> RS
  snd : ∀ {x P env} (a : Addr) (cls : Value) (dd : Option Addr), ev x P env ≠ .no -> ∀ (e : Ent) (F : Hp) (σ : St) (H : Hp) (L : List Addr) (E : WX) (Dn : Ends), P = e.pins.map (·.1) -> Rel W e env F σ H L -> IsExn W F x cls dd -> σ[i]? = some (some (.ref a)) -> Sat W e E (ends (ev x P env)) Dn -> t a cls dd Dn σ H
def XQ.evO (m : XQ W i) (x : Exn) (env : Py.Env) : Option D := toO (m.ev x env)
theorem XQ.sO (m : XQ W i) {x : Exn} (h : m.evO x env = some d) (a : Addr) (cls : Value) (dd : Option Addr) : AQ W i x a cls dd (m.t a cls dd) env (rO W d) := by
  unfold XQ.evO at h
  intro e F σ H L Q r ie hs q
  match e2 : m.ev x env, h with
  | some (.fr, d0), h => cases h; exact m.snd e2 a cls dd e F σ H L Q r ie hs q
  | some (.pl, d0), h =>
    obtain ⟨h1, rfl⟩ := ite_some h
    exact m.snd e2 a cls dd e F σ H L Q r ie hs fun v F' H' x' ⟨M, o⟩ => q v F' H' x' (rO_sh (o.shr h1))
  | some (.vw, d0), h =>
    obtain ⟨h1, rfl⟩ := ite_some h
    exact m.snd e2 a cls dd e F σ H L Q r ie hs fun v F' H' x' y => q v F' H' x' (rO_sh (Shr.flat y h1))
def xhAsgK (P : List Nat) (j : Nat) (env : Py.Env) : Option D -> RS
  | some d => RS.ofO (setS P j d env)
  | none => .no
def xhAsg (j : Nat) (m : XQ W i) : XH W i where
  t a cls dd := tAsg (m.t a cls dd) (gName j)
  ev x P env := xhAsgK P j env (m.evO x env)
  snd := fun {x P env} a cls dd hn e F σ H L E Dn hP r ie hs s => by
    match h : m.evO x env, hn, s with
    | none, hn, _ => exact absurd rfl hn
    | some d, hn, s =>
      have hn : RS.ofO (setS P j d env) ≠ .no := hn
      have s : Sat W e E (ends (RS.ofO (setS P j d env))) Dn := s
      cases h2 : setS P j d env with
      | none => rw [h2] at hn; exact absurd rfl hn
      | some e2 =>
        rw [h2] at s
        obtain ⟨⟨h3, h4⟩, rfl⟩ := ite_some h2
        refine m.sO h a cls dd e F σ H L _ r ie hs fun v F' H' x1 ⟨M, o, nd, k⟩ => ?_
        obtain ⟨L2, r2⟩ := (r.ext x1).set (i := j) o (nodup_new (H := H) r.nd nd r.slots.lives fun b m => (k b m).1) (fun b m => ⟨(k b m).2, r.h0 (k b m).1⟩) h3 fun p hm z => h4 (by rw [hP]; exact List.mem_map.mpr ⟨p, hm, z⟩)
        exact s.nx _ _ _ _ _ rfl r2
theorem Slots.junk {F H : Hp} : ∀ {env : Py.Env} {σ : St} {L : List Addr}, Slots W F H env σ L -> ∀ (i : Nat) (o : Option V), ∃ L', Slots W F H (env.set i none) (σ.set i o) L' /\ (∀ a ∈ L', a ∈ L) /\ (L.Nodup -> L'.Nodup)
  | _, _, _, .nil, i, o => ⟨[], .nil, fun _ h => h, id⟩
  | _, _, _, .so (L := L1) (M := M1) h t, 0, o => ⟨M1, .no t, fun a m => List.mem_append_right _ m, fun n => (List.nodup_append.mp n).2.1⟩
  | _, _, _, .so (L := L1) (M := M1) h t, i + 1, o => by
    obtain ⟨L', s, m, n⟩ := t.junk i o
    refine ⟨L1 ++ L', .so h s, fun a ha => ?_, fun nd => ?_⟩
    · rcases List.mem_append.mp ha with z | z
      · exact List.mem_append_left _ z
      · exact List.mem_append_right _ (m a z)
    · rw [List.nodup_append] at nd ⊢
      exact ⟨nd.1, n nd.2.1, fun a ha b hb => nd.2.2 a ha b (m b hb)⟩
  | _, _, _, .no t, 0, o => ⟨_, .no t, fun _ h => h, id⟩
  | _, _, _, .no t, i + 1, o => by
    obtain ⟨L', s, m, n⟩ := t.junk i o
    exact ⟨L', .no s, m, n⟩
theorem Rel.junk {e : Ent} {F H : Hp} {σ : St} {L : List Addr} (r : Rel W e env F σ H L) (i : Nat) (o : Option V) (hp : ∀ p ∈ e.pins, p.1 ≠ i) : ∃ L', Rel W e (env.set i none) F (σ.set i o) H L' := by
  obtain ⟨L', s, m, n⟩ := r.slots.junk i o
  refine ⟨L', r.sF, s, n r.nd, fun a ha => r.dj a (m a ha), r.s0, r.nw, r.fr, fun a ha => r.ln a (m a ha), fun p hm => ?_⟩
  rw [List.getElem?_set_ne (fun z => hp p hm z.symm)]
  exact r.pin p hm
def RS.clr (i : Nat) : RS -> RS
  | .nx e => .nx (e.set i none)
  | .bk e => .bk (e.set i none)
  | .ct e => .ct (e.set i none)
  | .rt d e => .rt d e
  | _ => .no
def tryK (T : Tbl) {W : Wd T} (i : Nat) (c : String) (s : XH W i) (P : List Nat) : RS -> RS
  | .ex x env1 => if T.xsub x.c c = true then (if i ∈ P \/ env1.length <= i then .no else (s.ev x P (env1.set i none)).clr i) else .ex x env1
  | r => r
theorem Slots.len {F H : Hp} {env : Py.Env} {σ : St} {L : List Addr} (h : Slots W F H env σ L) : env.length = σ.length := h.length
def xsTryAs (i : Nat) (c : String) (b : XS W) (s : XH W i) : XS W where
  t E := fun Dn σ H => W.hasX c -> b.t (wAs W.K (.ref (W.cA c)) i s.t E Dn) Dn σ H
  ev P env := tryK T i c s P (b.ev P env)
  snd := fun P E env hn e F σ H L Dn hP r sat hc => by
    have hb : b.ev P env ≠ .no := fun z => hn (by rw [z]; rfl)
    refine b.snd P _ env hb e F σ H L Dn hP r ⟨fun env' F' σ' H' L' h r' => ?_, fun d env' F' σ' H' L' v M h r' => ?_, fun env' F' σ' H' L' h r' => ?_, fun env' F' σ' H' L' h r' => ?_, fun x env1 F1 σ1 H1 L1 C dd h r1 ie => ?_⟩
    · exact sat.nx _ _ _ _ _ (show tryK T i c s P (b.ev P env) = .nx env' by rw [show b.ev P env = .nx env' from h]; rfl) r'
    · exact sat.rt _ _ _ _ _ _ _ _ (show tryK T i c s P (b.ev P env) = .rt d env' by rw [show b.ev P env = .rt d env' from h]; rfl) r'
    · exact sat.bk _ _ _ _ _ (show tryK T i c s P (b.ev P env) = .bk env' by rw [show b.ev P env = .bk env' from h]; rfl) r'
    · exact sat.ct _ _ _ _ _ (show tryK T i c s P (b.ev P env) = .ct env' by rw [show b.ev P env = .ct env' from h]; rfl) r'
    · have h : b.ev P env = .ex x env1 := h
      rw [h] at hn sat
      unfold tryK at hn sat
      refine ⟨T.xsub x.c c, by rw [ie.1]; exact W.xm _ _ ie.2.1 hc, fun ht a ha => ?_, fun hf => ?_⟩
      · dsimp only at hn sat
        rw [if_pos ht] at hn sat
        by_cases hi : i ∈ P \/ env1.length <= i
        · rw [if_pos hi] at hn; exact absurd rfl hn
        · rw [if_neg hi] at hn sat
          rw [not_or] at hi
          have hp : ∀ p ∈ e.pins, p.1 ≠ i := fun p hm z => hi.1 (by rw [hP]; exact List.mem_map.mpr ⟨p, hm, z⟩)
          obtain ⟨L2, r2⟩ := r1.junk i (some (.ref a)) hp
          have hs : (σ1.set i (some (.ref a)))[i]? = some (some (.ref a)) := List.getElem?_set_self (by rw [<- r1.slots.length]; omega)
          have hn2 : s.ev x P (env1.set i none) ≠ .no := fun z => hn (by rw [z]; rfl)
          refine s.snd a C dd hn2 e F1 _ H1 L2 E _ hP r2 ie hs ⟨fun env' F' σ' H' L' h' r' => ?_, fun d env' F' σ' H' L' v M h' r' => ?_, fun env' F' σ' H' L' h' r' => ?_, fun env' F' σ' H' L' h' r' => ?_, fun x' env' F' σ' H' L' C' dd' h' r' ie' => ?_⟩
          · have h' : s.ev x P (env1.set i none) = .nx env' := h'
            obtain ⟨L3, r3⟩ := r'.junk i none hp
            exact sat.nx _ _ _ _ _ (show (s.ev x P (env1.set i none)).clr i = _ by rw [h']; rfl) r3
          · have h' : s.ev x P (env1.set i none) = .rt d env' := h'
            exact sat.rt _ _ _ _ _ _ _ _ (show (s.ev x P (env1.set i none)).clr i = _ by rw [h']; rfl) r'
          · have h' : s.ev x P (env1.set i none) = .bk env' := h'
            obtain ⟨L3, r3⟩ := r'.junk i none hp
            exact sat.bk _ _ _ _ _ (show (s.ev x P (env1.set i none)).clr i = _ by rw [h']; rfl) r3
          · have h' : s.ev x P (env1.set i none) = .ct env' := h'
            obtain ⟨L3, r3⟩ := r'.junk i none hp
            exact sat.ct _ _ _ _ _ (show (s.ev x P (env1.set i none)).clr i = _ by rw [h']; rfl) r3
          · have h' : s.ev x P (env1.set i none) = .ex x' env' := h'
            rw [h'] at hn
            exact absurd rfl hn
      · dsimp only at sat
        rw [if_neg (by rw [hf]; exact Bool.false_ne_true)] at sat
        exact sat.ex x env1 F1 σ1 H1 L1 C dd rfl r1 ie
def callOM (T : Tbl) (φ : Sem) (n : Nat) (f : Option D) (fs : Option (List D)) (env : Py.Env) : RM := match f, fs with
  | some d, some ds => rm0 (callO1 T φ n (d :: ds)) env
  | _, _ => .no
def xmCallO (φ : Sem) (n : Nat) (a : XP W) (as : XA W) : XM W where
  t E := fun σ H Q => tCallO W φ n none (WE E σ) a.t as.t σ H Q
  ev P env := callOM T φ n (a.evF env) (as.evF env) env
  snd := fun P E env hn e F σ H L Q hP r c cx => by
    match e1 : a.evF env, e2 : as.evF env, hn, c, cx with
    | none, _, hn, _, _ => exact absurd rfl hn
    | some _, none, hn, _, _ => exact absurd rfl hn
    | some d0, some ds, hn, c, cx =>
      have hn : rm0 (callO1 T φ n (d0 :: ds)) env ≠ .no := hn
      have hm : callO1 T φ n (d0 :: ds) ≠ .no := fun z => hn (by rw [z]; rfl)
      obtain ⟨cn, ns, xs, nm, rfl, h1, h3, h4⟩ := callO1_ok hm
      have c : ∀ d env' v F' H' L' M, rm0 (callO1 T φ n (.ins cn ns xs :: ds)) env = .ok d env' -> _ := c
      have cx : ∀ x env' F' H' L' C dd, rm0 (callO1 T φ n (.ins cn ns xs :: ds)) env = .exn x env' -> _ := cx
      rw [h4] at hm c cx
      refine a.sF e1 e F σ H L _ r fun v F1 H1 x1 y1 => ?_
      obtain ⟨p, dx, vs, rfl, hp, hc⟩ := shr_ins y1
      refine ⟨p, rfl, as.sF e2 e F1 σ H1 L _ (r.ext x1) fun ws F2 H2 x2 y2 => ?_⟩
      obtain ⟨p', dx', vs', hv, hp', hc'⟩ := shr_ins (y1.mono x2.f)
      cases hv
      have r2 := (r.ext x1).ext x2
      refine ⟨cn, nm, dx', _, x2.s _ _ hp', hc, h1, ?_⟩
      refine callX x2.s (.cons (y1.mono x2.f) y2) h3 hm (fun d b v F3 H3 eq x3 ⟨M, o, nd, kk⟩ => ?_) fun x b F3 H3 C dd eq x3 ie => ?_
      · rw [eq] at c
        exact c d env v F3 H3 L M rfl (r2.ext x3) o (nodup_new (H := H2) r2.nd nd r2.slots.lives fun a m => (kk a m).1) fun a m => ⟨(kk a m).2, r2.h0 (kk a m).1⟩
      · rw [eq] at cx
        exact cx x env F3 H3 L C dd rfl (r2.ext x3) ie
end
theorem ps_imp {X : Cx} {s : Stmt} {t : TS} {c : Prop} (hc : c) (h : PS X s t) : PS X s (fun Dn σ H => c -> t Dn σ H) := ⟨fun pins s σ H Dn I q => h.run pins s σ H Dn I (q hc)⟩
section
variable {X : Cx} {T : Tbl} {W : Wd T} {E : WX}
theorem px_raise {c : String} {fs : List String} {a : Expr} {es : List Expr} {ta : TA} {x : Str} {p pos pos2 : Pos} {k : Nat} (D : ExcD X.prog X.K X.mg x (W.cA c) (fs.map so)) (hx : W.hasX c) (tk : Takes X E) (hc : X.calm = true) (hr : Room k X.A) (ha : PA X (a :: es) ta) (hg : Gl X x)
    (hd : (x == ("__debug__" : Str)) = false := by decide) (he : starEach (a :: es) X.env = (false, eval a X.env) :: starEach es X.env := by rfl) (hpl : (backTo pos (starEach es X.env)).any (·.1) = false := by rfl) :
    PS X (.Raise (some (.Call (.Name x p) (a :: es) [] pos)) none pos2) (fun _ σ H => W.hasX c -> tMkX (W.cA c) (fs.map so) ta σ H fun cls d H' => E cls d σ H') :=
  ps_imp hx (ps_raise hc tk (pmk_x D hr ha hg hd he hpl))
theorem exd_no {P : Program} {K : PySem.W.Frag} {mg : Str -> Option Value} {x : Str} {C : Addr} {fs : List Str} (D : ExcD P K mg x C fs) {f : Str} (h : f ∈ fs) : PySem.W.findIn K (.ref C) f = some none := by
  obtain ⟨_, _, _, _, _, T, _⟩ := D.ex
  exact T.noN f h
theorem px_xf {c f : String} {fs : List String} {x : Str} {a : Addr} {oe : Obj} {cls : Value} {dd : Option Addr} {pn : List (Addr × Obj)} {e : Expr} {te : TE} {pos : Pos} (D : ExcD X.prog X.K X.mg x (W.cA c) (fs.map so)) (hx : W.hasX c) (hK : W.K = X.K) (hm : f ∈ fs)
    (hz : Zc cls dd oe) (hf : ∃ vs, oe.data = .fields vs) (he : PE (X.suite a ((a, oe) :: pn)) e te) (hb : attributeBase e (so f) X.env (eval e X.env) = eval e X.env := by rfl) :
    PE (X.suite a ((a, oe) :: pn)) (.Attribute e (so f) pos) (tXf a cls dd (W.cA c) (so f) te) := by
  have q := W.xc c hx
  rw [hK] at q
  exact pe_xf ⟨q.hg, q.hk, q.hs, q.hd⟩ (exd_no D (List.mem_map_of_mem hm)) hz hf he hb
theorem cx_tk {P : Program} {w : World} {K : PySem.W.Frag} {mg : Str -> Option Value} {base : Heap} {N : List Str} {qual : Str} {sc : Scope} {f : Addr} {cdv : Value} {A : Around} {outer : List PySem.Env} {s : Shared} {H : Hp} {E : XK} :
    Takes (cxOf (L2.CX P w) P w K mg base N qual sc f cdv A outer s H E) (fun c d _ H => E c d H) := takes_of rfl rfl rfl rfl
theorem cx_po {P : Program} {w : World} {K : PySem.W.Frag} {mg : Str -> Option Value} {base : Heap} {N : List Str} {qual : Str} {sc : Scope} {f : Addr} {cdv : Value} {A : Around} {outer : List PySem.Env} {s : Shared} {H : Hp} {E : XK} :
    PassesOwn (model P w) (cxOf (L2.CX P w) P w K mg base N qual sc f cdv A outer s H E).A (cxOf (L2.CX P w) P w K mg base N qual sc f cdv A outer s H E).env (cxOf (L2.CX P w) P w K mg base N qual sc f cdv A outer s H E).xe := passes_of (X := cxOf (L2.CX P w) P w K mg base N qual sc f cdv A outer s H E) rfl
theorem pw_of {P : Program} {w : World} {K : PySem.W.Frag} {mg : Str -> Option Value} {base : Heap} {x qual : Str} {st : Stmt} {N ps : List Str} {k : Nat} {sp : Sp} {f : Addr} {fd : FuncData} (F : FunD K x qual (defArgs st) (defBody st) (defScope st) [] [] f fd) (S : FnScope N ps (defScope st)) (len : ∀ vs H Q E, sp vs H Q E -> vs.length = ps.length)
    (hbody : ∀ (f : Addr) (cdv : Value) (A : Around) (outer : List PySem.Env) (s : Shared) (H : Hp) (vs : List V) (Q : VK) (E : XK), Room k (A.deeper (PyProof.Rows.envOfC qual (defScope st) s.heap.objs.size f cdv)) -> sp vs H Q E ->
      ∃ t, PSs (cxOf (L2.CX P w) P w K mg base N qual (defScope st) f cdv A outer s H E) (defBody st) t /\ t { nx := fun _ H' => Q .non H', rt := Q } (L2.start N vs) H) : FnOk P w K mg base (L2.CX P w) (k + 1) f fd ps sp :=
  F.ok S len fun cdv A outer s H vs Q E hr h => hbody f cdv A outer s H vs Q E hr h
theorem spL_len {K : PySem.W.Frag} : ∀ vs H Q E, spL K vs H Q E -> vs.length = 1 := fun vs H Q E h => by
  obtain ⟨_, _, rfl, _⟩ := h
  rfl
end
end Py
namespace Py
open PySem L2
section
variable {T : Tbl} {W : Wd T}
end
end Py
namespace Py
open PySem L2
section
variable {T : Tbl} {W : Wd T}
end
end Py
namespace Py
open PySem L2
section
variable {T : Tbl} {W : Wd T}
end
end Py
namespace Py
open PySem L2 PyProof.Rows
def rMkSet (K : PySem.W.Frag) (w : World) : List V -> Hp -> VK -> Prop := fun vs H Q => ∃ (l : Addr) (ns : List Int), vs = [.ref l] /\ SqL K H l (ns.map V.int) /\ ns.length < 64 /\
  ∀ (a : Addr) (n : Nat), H a = none -> n <= ns.length -> Q (.ref a) (upd H a (SetO w a (fun j => decide (j ∈ ns)) n))
def insU (i : Int) : List Int -> List Int
  | [] => [i]
  | x :: xs => if i < x then i :: x :: xs else if i = x then x :: xs else x :: insU i xs
def ssI : List Int -> List Int
  | [] => []
  | x :: xs => insU x (ssI xs)
theorem insU_mem {i : Int} : ∀ {xs : List Int} {k : Int}, k ∈ insU i xs ↔ k = i \/ k ∈ xs
  | [], k => by simp [insU]
  | x :: xs, k => by
    unfold insU
    split
    · simp
    · split
      · rename_i h; subst h; simp
      · rw [List.mem_cons, insU_mem, List.mem_cons]
        constructor
        · rintro (h | h | h) <;> simp [h]
        · rintro (h | h | h) <;> simp [h]
theorem insU_sorted {i : Int} : ∀ {xs : List Int}, xs.Pairwise (· < ·) -> (insU i xs).Pairwise (· < ·)
  | [], _ => by simp [insU]
  | x :: xs, h => by
    have h1 := List.pairwise_cons.mp h
    unfold insU
    split
    · rename_i hi
      refine List.pairwise_cons.mpr ⟨fun k hk => ?_, h⟩
      rcases List.mem_cons.mp hk with rfl | hk
      · exact hi
      · have := h1.1 k hk; omega
    · split
      · exact h
      · refine List.pairwise_cons.mpr ⟨fun k hk => ?_, insU_sorted h1.2⟩
        rcases insU_mem.mp hk with rfl | hk
        · omega
        · exact h1.1 k hk
theorem ssI_mem : ∀ {xs : List Int} {k : Int}, k ∈ ssI xs ↔ k ∈ xs
  | [], k => by simp [ssI]
  | x :: xs, k => by rw [ssI, insU_mem, ssI_mem, List.mem_cons]
theorem ssI_sorted : ∀ xs : List Int, (ssI xs).Pairwise (· < ·)
  | [] => .nil
  | x :: xs => insU_sorted (ssI_sorted xs)
theorem sorted_uniq : ∀ {xs ys : List Int}, xs.Pairwise (· < ·) -> ys.Pairwise (· < ·) -> (∀ k, k ∈ xs ↔ k ∈ ys) -> xs = ys
  | [], [], _, _, _ => rfl
  | [], y :: ys, _, _, h => by have := (h y).mpr (by simp); simp at this
  | x :: xs, [], _, _, h => by have := (h x).mp (by simp); simp at this
  | x :: xs, y :: ys, hx, hy, h => by
    have hx1 := List.pairwise_cons.mp hx
    have hy1 := List.pairwise_cons.mp hy
    have e : x = y := by
      rcases List.mem_cons.mp ((h x).mp (by simp)) with e | m
      · exact e
      · rcases List.mem_cons.mp ((h y).mpr (by simp)) with e | m2
        · exact e.symm
        · have a := hy1.1 x m
          have b := hx1.1 y m2
          omega
    subst e
    rw [sorted_uniq hx1.2 hy1.2 fun k => ?_]
    constructor
    · intro m
      rcases List.mem_cons.mp ((h k).mp (List.mem_cons_of_mem _ m)) with e | m2
      · have := hx1.1 k m; omega
      · exact m2
    · intro m
      rcases List.mem_cons.mp ((h k).mpr (List.mem_cons_of_mem _ m)) with e | m2
      · have := hy1.1 k m; omega
      · exact m2
section
variable {T : Tbl} {W : Wd T}
end
end Py
namespace Py
open PySem L2 PyProof.Rows
section
variable {T : Tbl} {W : Wd T}
end
end Py
namespace Py
open PySem L2
section
variable {T : Tbl} {W : Wd T}
def onL (As : List Addr) (H F : Hp) : Hp := fun b => if b ∈ As then H b else F b
theorem onL_in {As : List Addr} {H F : Hp} {b : Addr} (h : b ∈ As) : onL As H F b = H b := if_pos h
theorem onL_out {As : List Addr} {H F : Hp} {b : Addr} (h : b ∉ As) : onL As H F b = F b := if_neg h
theorem onL_same {As : List Addr} {F H : Hp} (s : Same F H) : Same F (onL As H F) /\ Same (onL As H F) H := by
  constructor
  · intro b o h
    by_cases e : b ∈ As
    · rw [onL_in e]; exact s _ _ h
    · rw [onL_out e]; exact h
  · intro b o h
    by_cases e : b ∈ As
    · rw [onL_in e] at h; exact h
    · rw [onL_out e] at h; exact s _ _ h
inductive Lents {T : Tbl} (W : Wd T) (F H : Hp) : List D -> List V -> List Addr -> Prop
  | nil : Lents W F H [] [] []
  | sh {d v ds vs As} : Shr W F d v -> Lents W F H ds vs As -> Lents W F H (d :: ds) (v :: vs) As
  | le {a xs ws ds vs As} : H a = some (.lst ws) -> Shrs W F xs ws -> Lents W F H ds vs As -> Lents W F H (.lst xs :: ds) (.ref a :: vs) (a :: As)
theorem Lents.ext {F H F' H' : Hp} (x : Ext F H F' H') : ∀ {ds : List D} {vs : List V} {As : List Addr}, Lents W F H ds vs As -> Lents W F' H' ds vs As
  | _, _, _, .nil => .nil
  | _, _, _, .sh h t => .sh (h.mono x.f) (t.ext x)
  | _, _, _, .le h s t => .le (x.h _ _ h) (s.mono x.f) (t.ext x)
theorem Lents.lists {F H : Hp} : ∀ {ds : List D} {vs : List V} {As : List Addr}, Lents W F H ds vs As -> ∀ b ∈ As, ∃ ws, H b = some (.lst ws)
  | _, _, _, .nil, b, m => nomatch m
  | _, _, _, .sh h t, b, m => t.lists b m
  | _, _, _, .le h s t, b, m => by
    rcases List.mem_cons.mp m with rfl | m
    · exact ⟨_, h⟩
    · exact t.lists b m
theorem Lents.shrs {F H : Hp} {Bs : List Addr} (s : Same F H) : ∀ {ds : List D} {vs : List V} {As : List Addr}, Lents W F H ds vs As -> (∀ b ∈ As, b ∈ Bs) -> Shrs W (onL Bs H F) ds vs
  | _, _, _, .nil, _ => .nil
  | _, _, _, .sh h t, k => .cons (h.mono (onL_same s).1) (t.shrs s k)
  | _, _, _, .le h u t, k => .cons (.lst (by rw [onL_in (k _ (List.mem_cons_self ..))]; exact h) (u.mono (onL_same s).1)) (t.shrs s fun b m => k b (List.mem_cons_of_mem _ m))
structure XB {T : Tbl} (W : Wd T) where
  t : TA
  ev : Py.Env -> Option (List D)
  snd : ∀ {env ds}, ev env = some ds -> ∀ (e : Ent) (F : Hp) (σ : St) (H : Hp) (L : List Addr) (Q : List V -> Hp -> Prop), Rel W e env F σ H L -> (∀ vs F' H' As, Ext F H F' H' -> Lents W F' H' ds vs As -> Q vs H') -> t σ H Q
end
end Py
namespace Py
open PySem L2
section
variable {T : Tbl} {W : Wd T} {P : Program} {w : World}
def DKeys (P : Program) (w : World) (H : Hp) (ks : List NestedKey) (kas : List Addr) : Prop := ∀ h, HOk P w H h -> ∀ (i : Nat) (k : NestedKey) (ka : Addr), ks[i]? = some k -> kas[i]? = some ka -> (nestedKind P w).is h k ka
def GD (P : Program) (w : World) (H : Hp) (a : Addr) (ks : List NestedKey) (kas : List Addr) (vs : List V) : Prop := H a = some (.ext (digP P w a ks kas vs)) /\ DKeys P w H ks kas
theorem zip3_get {α β γ : Type} {as : List α} {bs : List β} {cs : List γ} {i : Nat} {x : α × β × γ} (h : (as.zip (bs.zip cs))[i]? = some x) : as[i]? = some x.1 /\ bs[i]? = some x.2.1 /\ cs[i]? = some x.2.2 := by
  rw [List.getElem?_zip_eq_some, List.getElem?_zip_eq_some] at h
  exact ⟨h.1, h.2.1, h.2.2⟩
theorem zip3_fst {α β γ : Type} {as : List α} {bs : List β} {cs : List γ} (h1 : as.length = bs.length) (h2 : as.length = cs.length) : (as.zip (bs.zip cs)).map (·.1) = as := by
  rw [List.map_fst_zip]
  rw [List.length_zip]; omega
structure GOk (P : Program) (w : World) (h : Heap) (a : Addr) (ks : List NestedKey) (kas : List Addr) (vs : List V) (us : List Value) : Prop where
  ns : (a == sysModules) = false
  rv : Vals vs us
  l1 : ks.length = kas.length
  l2 : ks.length = us.length
  sz : us.length <= sizeLine
  at' : h.DictOfH (nestedKind P w) a (ks.zip (kas.zip us))
  nd : ks.Nodup
theorem GD.ok {H : Hp} {h : Heap} {a : Addr} {ks : List NestedKey} {kas : List Addr} {vs : List V} (g : GD P w H a ks kas vs) (ok : HOk P w H h) : ∃ us, GOk P w h a ks kas vs us := by
  obtain ⟨⟨ns, us, rv, l1, l2, sz, o, es, ep, ho, hx, hd, he, hn⟩, _⟩ := ok _ _ g.1
  refine ⟨us, ns, rv, l1, l2, sz, ⟨o, es, ep, ho, hx, hd, he, fun x hx => ?_, ?_⟩, hn⟩
  · obtain ⟨i, hi⟩ := List.mem_iff_getElem?.mp hx
    obtain ⟨h1, h2, _⟩ := zip3_get hi
    exact g.2 h ok i _ _ h1 h2
  · rw [zip3_fst l1 l2]; exact hn
theorem GOk.dig {h : Heap} {a : Addr} {ks : List NestedKey} {kas : List Addr} {vs : List V} {us : List Value} (g : GOk P w h a ks kas vs us) : digP P w a ks kas vs h := by
  obtain ⟨o, es, ep, ho, hx, hd, he, _, _⟩ := g.at'
  exact ⟨g.ns, us, g.rv, g.l1, g.l2, g.sz, o, es, ep, ho, hx, hd, he, g.nd⟩
theorem GOk.new {H : Hp} {h : Heap} {a : Addr} {ks : List NestedKey} {kas : List Addr} {vs : List V} {us : List Value} (g : GOk P w h a ks kas vs us) : ObjOk P w H h a (.ext (digP P w a ks kas vs)) := by
  have ⟨o, _, _, ho, _⟩ := g.at'
  refine ⟨g.dig, ⟨o, ho⟩, fun h1 h2 p k => ?_⟩
  obtain ⟨ns, us, rv, l1, l2, sz, o, es, ep, ho, r⟩ := p
  exact ⟨ns, us, rv, l1, l2, sz, o, es, ep, k o ho, r⟩
section
variable {X : Cx} {pins : List (Addr × Obj)} {σ : St} {H : Hp} {s : Shared} {A : Around} {E : Value -> Shared -> Prop} {a : Addr} {ks : List NestedKey} {kas : List Addr} {vs : List V} {k : NestedKey} {ka : Addr} {y v : V} {u r : Value}
end
section
variable {X : Cx} {o e f i : Expr} {apos cpos pos' : Pos} {td ty tx : TE}
end
end
end Py
namespace Py
open PySem L2
section
variable {X : Cx} {o e f i : Expr} {apos cpos pos' : Pos} {td ty tx : TE}
end
section
variable {T : Tbl} {W : Wd T} {env : Py.Env} {d : D}
theorem GD.mono {P : Program} {w : World} {H H' : Hp} {a : Addr} {ks : List NestedKey} {kas : List Addr} {vs : List V} (g : GD P w H a ks kas vs) (e : Same H H') (k : DKeys P w H' ks kas) : GD P w H' a ks kas vs := ⟨e _ _ g.1, k⟩
end
end Py
namespace Py
open PySem L2
section
variable {T : Tbl} {W : Wd T} {env : Py.Env} {d : D}
end
end Py
namespace Py
open PySem L2
section
variable {T : Tbl} {W : Wd T} {env : Py.Env} {d : D}
end
end Py
namespace Py
open PySem L2
def spEn : Sp := fun vs H Q _ => ∃ x, vs = [x] /\ Q x H
def spEx (P : Program) (w : World) (K : PySem.W.Frag) (f : String) : Sp := fun vs H Q _ => ∃ a C dx fs d ks kas ws, vs = [.ref a, .non, .non, .non] /\ H a = some (.ins C dx fs) /\ Cls K C /\ NoAttr K C (so f) /\ fs.lookup (so f) = some (.ref d) /\ GD P w H d ks kas ws /\ Q .non (upd H d (.ext (digP P w d [] [] [])))
structure WiOk (P : Program) (w : World) (K : PySem.W.Frag) (mg : Str -> Option Value) (base : Heap) (k : Nat) (C : Addr) (f : String) : Prop where
  en : MdOk P w K mg base k C "__enter__" 1 spEn
  ex : MdOk P w K mg base k C "__exit__" 4 (spEx P w K f)
section
variable {T : Tbl} {W : Wd T} {env : Py.Env} {d : D}
theorem Rel.back {e : Ent} {F H : Hp} {σ : St} {L : List Addr} {i j : Nat} {v : V} (r : Rel W e env F σ H L) (h : env[i]? = some (some d)) (hv : σ[i]? = some (some v)) (hj : j < env.length) (hw : σ[j]? = some (some v)) :
    ∃ L', Rel W e ((env.set i none).set j (some d)) F σ H L' := by
  obtain ⟨v', Li, Lr, e1, o, sl, nd, m⟩ := r.slots.take r.nd h
  rw [hv] at e1
  cases e1
  obtain ⟨L', s, nd', m'⟩ := sl.put (i := j) o nd (by simpa using hj)
  have hσ : σ.set j (some v) = σ := by
    apply List.ext_getElem?
    intro k
    by_cases hk : j = k
    · subst hk
      obtain ⟨hlt, _⟩ := List.getElem?_eq_some_iff.mp hw
      rw [List.getElem?_set_self hlt, hw]
    · rw [List.getElem?_set_ne hk]
  rw [hσ] at s
  have inL : ∀ a ∈ L', a ∈ L := fun a ha => (m a).mp (m' a ha)
  exact ⟨L', r.sF, s, nd', fun a ha => r.dj a (inL a ha), r.s0, r.nw, r.fr, fun a ha => r.ln a (inL a ha), r.pin⟩
theorem Rel.pinned {e : Ent} {F H : Hp} {σ : St} {L : List Addr} {j : Nat} {v : V} (r : Rel W e env F σ H L) (h : σ[j]? = some (some v)) : Rel W { e with pins := (j, v) :: e.pins } env F σ H L :=
  ⟨r.sF, r.slots, r.nd, r.dj, r.s0, r.nw, r.fr, r.ln, fun p hp => by
    rcases List.mem_cons.mp hp with rfl | hp
    · exact h
    · exact r.pin p hp⟩
theorem Rel.unpinned {e : Ent} {F H : Hp} {σ : St} {L : List Addr} {j : Nat} {v : V} (r : Rel W { e with pins := (j, v) :: e.pins } env F σ H L) : Rel W e env F σ H L :=
  ⟨r.sF, r.slots, r.nd, r.dj, r.s0, r.nw, r.fr, r.ln, fun p hp => r.pin p (List.mem_cons_of_mem _ hp)⟩
end
end Py
namespace Py
open PySem L2 PyProof.Rows GenW
section
variable {M : Model} {A : Around} {R : GenEnd} {Y : Protocol} {n : Nat} {s₀ : Shared} {c : Code} {fs : List Frame} {s : Shared} {env : PySem.Env} {K : Flow -> PySem.Sem PySem.Fin} {H : Value -> PySem.Sem PySem.Fin} {gd : Bool -> Bool} {lv : List Value -> List Value}
end
section
variable {prog : Program} {w : World} {A : Around} {R : GenEnd} {Y : Protocol} {n : Nat} {s₀ : Shared} {fs : List Frame} {s : Shared} {env : PySem.Env}
end
section
variable {X : Cx}
end
end Py
namespace Py
open PySem L2 PyProof.Rows GenW
inductive RY where
  | nx (ys : List D) (env : Py.Env) | bk (ys : List D) (env : Py.Env) | ct (ys : List D) (env : Py.Env) | ex (x : Exn) (env : Py.Env) | no
structure YEnds where
  nx : List D -> Py.Env -> Prop
  bk : List D -> Py.Env -> Prop := fun _ _ => False
  ct : List D -> Py.Env -> Prop := fun _ _ => False
  ex : Exn -> Py.Env -> Prop := fun _ _ => False
def endsY (r : RY) : YEnds where
  nx ys e := r = .nx ys e
  bk ys e := r = .bk ys e
  ct ys e := r = .ct ys e
  ex x e := r = .ex x e
section
variable {T : Tbl} {W : Wd T} {env : Py.Env} {P : List Nat} {E : WX} {A : YEnds} {ys : List D}
structure SatY {T : Tbl} (W : Wd T) (e : Ent) (E : WX) (A : YEnds) (Dn : GEnds) : Prop where
  nx : ∀ ys env F σ H L vs, A.nx ys env -> Rel W e env F σ H L -> Shrs W F ys vs -> Dn.nx vs σ H
  bk : ∀ ys env F σ H L vs, A.bk ys env -> Rel W e env F σ H L -> Shrs W F ys vs -> Dn.bk vs σ H
  ct : ∀ ys env F σ H L vs, A.ct ys env -> Rel W e env F σ H L -> Shrs W F ys vs -> Dn.ct vs σ H
  ex : ∀ x env F σ H L C d, A.ex x env -> Rel W e env F σ H L -> IsExn W F x C d -> E C d σ H
def AY {T : Tbl} (W : Wd T) (P : List Nat) (E : WX) (t : TGn) (ys : List D) (env : Py.Env) (A : YEnds) : Prop :=
  ∀ (e : Ent) (F : Hp) (σ : L2.St) (H : Hp) (L : List Addr) (vs : List V) (Dn : GEnds), P = e.pins.map (·.1) -> Rel W e env F σ H L -> Shrs W F ys vs -> SatY W e E A Dn -> t Dn vs σ H
theorem SatY.weaken {A' : YEnds} {e : Ent} {Dn : GEnds} (s : SatY W e E A Dn) (nx : ∀ ys e, A'.nx ys e -> A.nx ys e) (bk : ∀ ys e, A'.bk ys e -> A.bk ys e) (ct : ∀ ys e, A'.ct ys e -> A.ct ys e) (ex : ∀ x e, A'.ex x e -> A.ex x e) : SatY W e E A' Dn :=
  ⟨fun _ _ _ _ _ _ _ a => s.nx _ _ _ _ _ _ _ (nx _ _ a), fun _ _ _ _ _ _ _ a => s.bk _ _ _ _ _ _ _ (bk _ _ a), fun _ _ _ _ _ _ _ a => s.ct _ _ _ _ _ _ _ (ct _ _ a), fun _ _ _ _ _ _ _ _ a => s.ex _ _ _ _ _ _ _ _ (ex _ _ a)⟩
theorem AY.weaken {t : TGn} {A' : YEnds} (h : AY W P E t ys env A') (nx : ∀ ys e, A'.nx ys e -> A.nx ys e) (bk : ∀ ys e, A'.bk ys e -> A.bk ys e) (ct : ∀ ys e, A'.ct ys e -> A.ct ys e) (ex : ∀ x e, A'.ex x e -> A.ex x e) : AY W P E t ys env A :=
  fun e F σ H L vs Dn hP r sh s => h e F σ H L vs Dn hP r sh (s.weaken nx bk ct ex)
structure XY {T : Tbl} (W : Wd T) where
  t : WX -> TGn
  ev : List Nat -> List D -> Py.Env -> RY
  snd : ∀ P E ys env, ev P ys env ≠ .no -> AY W P E (t E) ys env (endsY (ev P ys env))
def RY.then (r : RY) (f : List D -> Py.Env -> RY) : RY := match r with
  | .nx ys e => f ys e
  | r => r
end
end Py
namespace Py
open PySem L2 PyProof.Rows GenW
section
variable {T : Tbl} {W : Wd T}
end
structure MgOk (P : Program) (w : World) (K : PySem.W.Frag) (mg : Str -> Option Value) (base : Heap) (k : Nat) (C : Addr) (m : String) (n : Nat) (sp : SpG) : Prop where
  ex : ∃ g fd ps, Meth K C (so m) g /\ GFn P w K mg base k g fd ps sp /\ Binds K fd ps [] /\ ps.length = n
section
variable {P : Program} {w : World} {K : PySem.W.Frag} {mg : Str -> Option Value} {base : Heap}
end
section
variable {T : Tbl} {W : Wd T} {X : Cx}
end
end Py
namespace Py
open PySem L2
section
variable {T : Tbl} {W : Wd T}
end
end Py
namespace Py
open PySem L2
section
variable {T : Tbl} {W : Wd T}
end
end Py
namespace Py
open PySem L2
section
variable {T : Tbl} {W : Wd T}
end
end Py
namespace Py
open PySem L2
section
variable {T : Tbl} {W : Wd T}
end
end Py
namespace Py
open PySem L2 PyProof.Rows GenW
end Py
namespace Py
open PySem L2
theorem atI_at {α : Type} {xs : List α} {j : Nat} {x : α} (h : xs[j]? = some x) : atI xs (j : Int) = some x := by
  have hl := (List.getElem?_eq_some_iff.mp h).1
  have e : ixN xs.length (j : Int) = some j := by
    unfold ixN
    rw [if_pos (by omega), if_pos (by omega), Int.toNat_natCast]
  unfold atI
  rw [e]
  exact h
section
variable {T : Tbl} {W : Wd T} {env : Py.Env}
def tIxV (W : Wd T) (i j : Nat) : TE := (xIx (xVar W i) (xInt W (j : Int))).t
def Lk2 (i j : Nat) (σ : St) (H : Hp) : Prop := ∃ p vs a od kvs, σ[i]? = some (some (V.ref p)) /\ H p = some (.tup vs) /\ vs[j]? = some (V.ref a) /\ H a = some (.frz od (.dK kvs))
def itemD (o : Option D) (j : Nat) : Option D := match o with
  | some (.tup xs) => xs[j]?
  | _ => none
theorem itemD_ok {o : Option D} {j : Nat} {d : D} (h : itemD o j = some d) : ∃ xs, o = some (.tup xs) /\ xs[j]? = some d := by
  match o, h with
  | some (.tup xs), h => exact ⟨xs, rfl, h⟩
theorem ait_keysI {i j : Nat} {ds : List D} (h : dsK (itemD (getS env i) j) = some ds) : AIt W (fun σ H R => Lk2 i j σ H -> iKeys (tIxV W i j) σ H R) env ds := fun e F σ H L R r q => by
  rintro ⟨p, vs, a, od, kvs, h1, h2, h3, h4⟩
  obtain ⟨ks, ys, e1, e2⟩ := dsK_ok h
  obtain ⟨xs, e3, e4⟩ := itemD_ok e1
  obtain ⟨v, M, e5, o, _⟩ := slot_get r (getS_some e3)
  rw [h1] at e5
  cases e5
  have sh := o.shr rfl
  cases sh with
  | tup ha hs =>
    have hp := r.sF _ _ ha
    rw [h2] at hp
    cases hp
    obtain ⟨u, hu, su⟩ := hs.get e4
    rw [h3] at hu
    cases hu
    cases su with
    | dic hd hl hn hss =>
      rcases hd with hd | ⟨od', hd⟩
      · rw [r.sF _ _ hd] at h4; cases h4
      · have h5 := r.sF _ _ hd
        show tOp (rIxU W.K) (tVar i) (tC (.int (j : Int))) σ H _
        refine ⟨_, h1, ?_⟩
        show rIxU W.K (.ref p) (.int (j : Int)) H _
        refine .inr ⟨p, vs, (j : Int), .ref a, rfl, rfl, .of h2, atI_at h3, ?_⟩
        refine ⟨a, od', rfl, .inl ⟨_, h5, ?_⟩⟩
        exact q _ F H (.refl r.sF) (seq_keys hd hl e2)
def xiKeysI (i j : Nat) : XI W where
  t := fun σ H R => Lk2 i j σ H -> iKeys (tIxV W i j) σ H R
  evF env := dsK (itemD (getS env i) j)
  evP env := dsK (itemD (getS env i) j)
  sF := fun e => ait_keysI e
  sP := fun e => (ait_keysI e).p
end
end Py
namespace Py
open PySem L2
section
variable {T : Tbl} {W : Wd T}
end
end Py
namespace Py
open PySem L2
section
variable {T : Tbl} {W : Wd T}
end
end Py
namespace Py
open PySem L2
structure CmAt (K : PySem.W.Frag) (C : Addr) (m : String) (x qual : Str) (st : Stmt) : Prop where
  ex : ∃ p g fd mc, FunD K x qual (defArgs st) (defBody st) (defScope st) [] [] g fd /\ ClX.CRead K C mc /\ ClX.CMet K C mc (so m) p g
structure CmOk (P : Program) (w : World) (K : PySem.W.Frag) (mg : Str -> Option Value) (base : Heap) (k : Nat) (C : Addr) (m : String) (n : Nat) (sp : Sp) : Prop where
  ex : ∃ p g fd ps mc, ClX.CRead K C mc /\ ClX.CMet K C mc (so m) p g /\ FnOk P w K mg base (L2.CX P w) k g fd ps sp /\ Binds K fd ps [] /\ ps.length = n
section
variable {P : Program} {w : World} {K : PySem.W.Frag} {mg : Str -> Option Value} {base : Heap}
end
section
variable {X : Cx} {T : Tbl} {W : Wd T}
end
end Py
namespace Py
open PySem L2
section
variable {T : Tbl} {W : Wd T}
end
end Py
namespace Py
open PySem L2 NdefX
structure SupT (P : Program) (K : PySem.W.Frag) (D g : Addr) (fd : FuncData) (cda cc : Addr) : Prop where
  look : ∃ oc od osl, K.lookup g = some ⟨oc, od, .func fd, osl⟩
  head : ∃ ar : Arg, (fd.params.posonlyargs ++ fd.params.args).head? = some ar /\ ar.arg = ("self" : Str)
  code : ∃ ccl cdd vs ccs file tf, K.lookup cda = some ⟨ccl, cdd, .fields vs, ccs⟩ /\ vs[2]? = some (.str file tf) /\ ((P.main.file : Str) == file) = true
  cell : ∃ cl cld csl, K.lookup cc = some ⟨cl, cld, .cell (some (.ref D)), csl⟩
  dcl : ∃ cd, PySem.W.clsIn K D = some cd
  top : (P.main.scope.names.lookup ("super" : Str)).isSome = false
section
variable {M : Model} {A : Around} {E : Value -> Shared -> Prop} {s : Shared} {env : PySem.Env} {c0 : Code}
end
structure SupM (P : Program) (w : World) (K : PySem.W.Frag) (mg : Str -> Option Value) (base : Heap) {T : Tbl} (W : Wd T) (k : Nat) (φ : Sem) (D : Addr) (m : Str) (r : String -> Option String) : Prop where
  at_ : ∀ c nm, W.has c -> r c = some nm -> ∃ g2 fd2 ps2, PySem.W.ks_superIn K (W.cA c) D m = some (some (.ref g2)) /\ PySem.W.typeIn K (.ref g2) = some (.type "function") /\ PySem.W.mroIn K (W.cA c) (.ref D) = some true /\ PySem.W.fnIn K g2 = true /\
    FnOk P w K mg base (L2.CX P w) k g2 fd2 ps2 (spR W 2 (φ nm) none) /\ Binds K fd2 ps2 []
end Py
namespace Py
open PySem L2
structure Mk0 (K : PySem.W.Frag) (C : Addr) : Prop where
  makes : PySem.W.makesIn K C = true
  init : PySem.W.findIn K (.ref C) "__init__" = some (some (.builtin "object.__init__"))
  top : PySem.W.mroIn K C (.type "object") = some true
  kp : PySem.W.keepIn K (.ref C) = true
section
variable {X : Cx} {C : Addr} {pins : List (Addr × Obj)} {σ : L2.St} {H : Hp} {s : Shared} {Q : VK}
end
section
variable {T : Tbl} {W : Wd T}
end
end Py
namespace Py
open PySem L2 NdefX
section
variable {T : Tbl} {W : Wd T}
end
open PySem.W in
structure SupAt (P : Program) (K : Frag) (C : Addr) (m : String) (qual : Str) (st : Stmt) (D : Addr) : Prop where
  ex : ∃ (g cda cc : Addr) (doc pm ct : Value) (an : Option Addr), Meth K C (so m) g /\ codeIn K (.ref cda) qual = true /\ SupT P K D g (ksFn (so m) qual (defArgs st) (defBody st) (defScope st) .none .none doc pm an (.ref cda) ct cc) cda cc
open PySem.W in
structure SupC (K : Frag) (C D : Addr) (m : String) (E : Addr) : Prop where
  ex : ∃ g2, ks_superIn K C D (so m) = some (some (.ref g2)) /\ findIn K (.ref E) (so m) = some (some (.ref g2)) /\ typeIn K (.ref g2) = some (.type "function") /\ mroIn K C (.ref D) = some true /\ fnIn K g2 = true
section
variable {P : Program} {w : World} {K : PySem.W.Frag} {mg : Str -> Option Value} {base : Heap} {T : Tbl} {W : Wd T}
end
end Py
namespace Py
open PySem L2 PyProof.Rows
end Py
namespace Py
open PySem L2 PyProof.Rows
section
variable {P : Program} {w : World} {A : Around} {E : Value -> Shared -> Prop} {s : Shared} {a b : Addr}
end
end Py
namespace Py
open PySem L2 PyProof.Rows
section
variable {P : Program} {w : World} {A : Around} {E : Value -> Shared -> Prop} {s : Shared} {a b : Addr}
end
end Py
namespace Py
open PySem L2 PyProof.Rows
def rOrSet (w : World) : R2 := fun x y H Q => ∃ (a b : Addr) (S1 S2 : Int -> Bool) (n1 n2 : Nat), x = V.ref a /\ y = V.ref b /\ a ≠ b /\ H a = some (SetO w a S1 n1) /\ H b = some (SetO w b S2 n2) /\ n1 < 64 /\ n2 < 64 /\
  ∀ (c : Addr) (n : Nat), H c = none -> n <= n1 + n2 -> Q (.ref c) (upd H c (SetO w c (fun k => S1 k || S2 k) n))
section
variable {T : Tbl} {W : Wd T}
def sorD (xs ys : List D) : Option (Kd × D) := (intsOf xs).bind fun ns => (intsOf ys).bind fun ms => if ns.length + ms.length < 64 then some (.fr, .olst ((ssI (ns ++ ms)).map .int)) else none
def xSortOr (a b : XP W) : XP W where
  t := tCB (rSortedSet W.w) (tCons (tOp (rOrSet W.w) (tCB (rMkSet W.K W.w) (tCons a.t tNil)) (tCB (rMkSet W.K W.w) (tCons b.t tNil))) tNil)
  ev env := ((a.evK env).bind lstOf).bind fun xs => ((b.evK env).bind lstOf).bind fun ys => sorD xs ys
  snd := fun {env k d} e => by
    obtain ⟨xs, e0, e⟩ := Option.bind_eq_some_iff.mp e
    obtain ⟨ys, e0', e⟩ := Option.bind_eq_some_iff.mp e
    obtain ⟨d1, e1, e2⟩ := Option.bind_eq_some_iff.mp e0
    obtain ⟨d1', e1', e2'⟩ := Option.bind_eq_some_iff.mp e0'
    obtain ⟨ns, e3, e⟩ := Option.bind_eq_some_iff.mp e
    obtain ⟨ms, e3', e⟩ := Option.bind_eq_some_iff.mp e
    obtain ⟨hl, e⟩ := ite_some e
    cases e
    have := intsOf_ok e3
    subst this
    have := intsOf_ok e3'
    subst this
    intro e' F σ H L Q r q
    refine a.sK e1 e' F σ H L _ r fun v F1 H1 x1 ⟨L1, o⟩ => ?_
    obtain ⟨p1, vs, rfl, sh, hb⟩ := lstOf_ok x1.s o e2
    have := shrs_int sh
    subst this
    refine ⟨p1, ns, rfl, .of hb, by omega, fun S n hS hn => ?_⟩
    have x2 : Ext F1 H1 F1 (upd H1 S (SetO W.w S (fun j => decide (j ∈ ns)) n)) := .newH x1.s hS
    have r2 := r.ext (x1.trans x2)
    refine b.sK e1' e' F1 σ _ L _ r2 fun v2 F2 H2 x3 ⟨L2, o2⟩ => ?_
    obtain ⟨p2, vs2, rfl, sh2, hb2⟩ := lstOf_ok x3.s o2 e2'
    have := shrs_int sh2
    subst this
    refine ⟨p2, ms, rfl, .of hb2, by omega, fun S' n' hS' hn' => ?_⟩
    have x4 : Ext F2 H2 F2 (upd H2 S' (SetO W.w S' (fun j => decide (j ∈ ms)) n')) := .newH x3.s hS'
    have hSk : H2 S = some (SetO W.w S (fun j => decide (j ∈ ns)) n) := x3.h _ _ upd_same
    have hne : S ≠ S' := fun z => by rw [z, hS'] at hSk; cases hSk
    refine ⟨S, S', _, _, n, n', rfl, rfl, hne, (upd_ne hne).trans hSk, upd_same, by omega, by omega, fun C m hC hm => ⟨C, _, m, rfl, upd_same, by omega, fun ks p hpw hmem hlen hp => ?_⟩⟩
    have e4 : ks = ssI (ns ++ ms) := sorted_uniq hpw (ssI_sorted _) fun k => by rw [hmem, ssI_mem]; simp
    subst e4
    have x5 : Ext F2 _ F2 (upd _ C (SetO W.w C (fun k => decide (k ∈ ns) || decide (k ∈ ms)) m)) := .newH x4.s hC
    have xa := (((x1.trans x2).trans x3).trans x4).trans x5
    refine q _ F2 _ (xa.trans (.newH x5.s hp)) ⟨[p], .olst upd_same (shrs_ints (ssI (ns ++ ms))).owns, by simp, fun x m => ?_⟩
    rw [List.mem_singleton.mp m]
    exact ⟨xa.h.free hp, x5.s.free hp⟩
theorem e_xSortOr {a b : XP W} {env : Py.Env} : (xSortOr a b).ev env = ((a.evK env).bind lstOf).bind fun xs => ((b.evK env).bind lstOf).bind fun ys => sorD xs ys := rfl
end
end Py
namespace Py
open PySem L2
def getM (p : Kd) (z : Kd × D) : Option D -> Kd × D
  | some x => p.of x
  | none => z
def lockR (b : Bool) (r : RS) : RS := match b with
  | true => noEx r
  | false => .no
def frE (o : Option (Kd × D)) : Option (Kd × D) := match o with
  | some (.fr, d) => some (.fr, d)
  | _ => none
def dcJ {T : Tbl} {W : Wd T} (k x : XP W) (b : Option Bool) (e : Py.Env) : Option (Option (Key × D)) := b.bind fun b => if b = true then ((k.evF e).bind keyD).bind fun y => (x.evF e).map fun z => some (y, z) else some none
def dcK {T : Tbl} {W : Wd T} (c : XT W) (k x : XP W) (o : Option Py.Env) : Option (Option (Key × D)) := o.bind fun e => dcJ k x (c.ev e) e
theorem nr {α : Type} {a b : α} (h : a = b) : a = b := h
theorem atI_litN {α : Type} {xs : List α} (n : Nat) : atI xs (n : Int) = xs[n]? := by
  unfold atI ixN
  rw [if_pos (by omega)]
  by_cases h : (n : Int) < xs.length
  · rw [if_pos h]; rfl
  · rw [if_neg h, List.getElem?_eq_none (by omega)]; rfl
theorem atI_last {α : Type} {xs : List α} : atI xs (-1) = xs.getLast? := by
  unfold atI ixN
  rw [if_neg (by omega)]
  cases xs with
  | nil => rfl
  | cons x xs =>
    rw [if_pos (by simp; omega), List.getLast?_eq_getElem?]
    show (x :: xs)[_]? = _
    congr 1
    simp
    omega
def callE (φ : List D -> Option Nat -> Rz) (n : Nat) (dds : List D) (f v : Option (List D)) : Option (Kd × D) := match f with
  | some ds => if (ds ++ dds).length = n then (φ (ds ++ dds) none).toF else none
  | none => match v with
    | some ds => if (ds ++ dds).length = n then (φ (ds ++ dds) none).toV else none
    | none => none
def turnE (o : Option Py.Env) (f : Py.Env -> RS) : RS := match o with
  | some e => f e
  | none => .no
def forE (f : D -> Py.Env -> RS) (o : Option (List D)) (env : Py.Env) : RS := match o with
  | some ds => forL f ds env
  | none => .no
def frzO (env : Py.Env) (i : Nat) : Option D -> Py.Env
  | some d => env.set i (some (fz d))
  | none => env
def resE (o : Option String) (f : String -> Rz) : Rz := match o with
  | some nm => f nm
  | none => .no
def lenQ (o : Option String) (f : String -> Option D) : Option D := match o with
  | some nm => f nm
  | none => none
def lenR : Rz -> Option D
  | .ok (.int i) _ => if 0 <= i /\ i <= 1000000 then some (.int i) else none
  | _ => none
def itQ (o : Option (List D)) (f : List D -> Option (Kd × D)) : Option (Kd × D) := match o with
  | some zs => f zs
  | none => none
def setO (xs : List D) (o : Option Nat) (y : D) : List D := match o with
  | some j => xs.set j y
  | none => xs
def putE (d : D) (s : Pst) (st : List Pst) (n : D) (o : Option D) : D := match o with
  | some x => d.put s (x.putAt st n)
  | none => d
def retZ (o : Option (Option D)) (d : D) : Rz := match o with
  | some x => .ok d x
  | none => .no
def retX (o : Option (Option D)) (x : Exn) : Rz := match o with
  | some y => .exn x y
  | none => .no
def tryJ {T : Tbl} {W : Wd T} (b : Bool) (x : Exn) (i : Nat) (s : XH W i) (P : List Nat) (e : Py.Env) : RS := match b with
  | true => if i ∈ P \/ e.length <= i then .no else (s.ev x P (e.set i none)).clr i
  | false => .ex x e
def forT (f : D -> Py.Env -> RS) (ds : List D) : RS -> RS
  | .nx e => forL f ds e
  | .ct e => forL f ds e
  | .bk e => .nx e
  | r => r
def asgK (P : List Nat) (i : Nat) (d : D) (e : Py.Env) : RS := RS.ofO (setS P i d e)
def iteF (b : Option Bool) (s u : Py.Env -> RS) (e : Py.Env) : RS := match b with
  | some true => s e
  | some false => u e
  | none => .no
def andF (b : Option Bool) (f : Py.Env -> Option Bool) (e : Py.Env) : Option Bool := match b with
  | some true => f e
  | some false => some false
  | none => none
def orF (b : Option Bool) (f : Py.Env -> Option Bool) (e : Py.Env) : Option Bool := match b with
  | some false => f e
  | some true => some true
  | none => none
def forK {T : Tbl} {W : Wd T} (g : XG W) (b : XS W) (P : List Nat) (d : D) (e : Py.Env) : RS := turnE (g.ev P d e) (b.ev P)
def lcJ {T : Tbl} {W : Wd T} (x : XP W) (b : Option Bool) (e : Py.Env) : Option (List D) := b.bind fun k => if k = true then (x.evO e).map fun y => [y] else some []
def lcK {T : Tbl} {W : Wd T} (c : XT W) (x : XP W) (o : Option Py.Env) : Option (List D) := o.bind fun e => lcJ x (c.ev e) e
theorem e_xsSeq {T : Tbl} {W : Wd T} {s u : XS W} {P env} : (xsSeq s u).ev P env = (s.ev P env).then (u.ev P) := nr rfl
theorem e_xsNext {T : Tbl} {W : Wd T} {P env} : (xsNext W).ev P env = .nx env := nr rfl
theorem e_xsAsg {T : Tbl} {W : Wd T} {i} {m : XM W} {P env} : (xsAsg i m).ev P env = (m.ev P env).thenS (asgK P i) := nr rfl
theorem e_xsExpr {T : Tbl} {W : Wd T} {m : XM W} {P env} : (xsExpr m).ev P env = (m.ev P env).thenS fun _ => RS.nx := nr rfl
theorem e_xsRet {T : Tbl} {W : Wd T} {m : XM W} {P env} : (xsRet m).ev P env = (m.ev P env).thenS RS.rt := nr rfl
theorem e_xsIf {T : Tbl} {W : Wd T} {c : XT W} {s u : XS W} {P env} : (xsIf c s u).ev P env = iteF (c.ev env) (s.ev P) (u.ev P) env := nr rfl
theorem e_xsFrz {T : Tbl} {W : Wd T} {is} {s : XS W} {P env} : (xsFrz is s).ev P env = s.ev P (is.foldl frzS env) := nr rfl
theorem e_xmP {T : Tbl} {W : Wd T} {p : XP W} {P env} : (xmP p).ev P env = RM.of (p.evO env) env := nr rfl
theorem e_xVar_V {T : Tbl} {W : Wd T} {i env} : (xVar W i).evV env = (getS env i).map fz := by show toV ((getS env i).map _) = _; cases getS env i <;> rfl
theorem e_xtV {T : Tbl} {W : Wd T} {a : XP W} {env} : (xtV a).ev env = (a.evV env).bind blD := nr rfl
theorem e_xtTru {T : Tbl} {W : Wd T} {a : XP W} {env} : (xtTru a).ev env = (a.evV env).bind truD := nr rfl
theorem e_xtAnd {T : Tbl} {W : Wd T} {a b : XT W} {env} : (xtAnd a b).ev env = andF (a.ev env) b.ev env := nr rfl
theorem e_xtOr {T : Tbl} {W : Wd T} {a b : XT W} {env} : (xtOr a b).ev env = orF (a.ev env) b.ev env := nr rfl
theorem e_xtNot {T : Tbl} {W : Wd T} {a : XT W} {env} : (xtNot a).ev env = (a.ev env).map (!·) := nr rfl
theorem e_xtYes {T : Tbl} {W : Wd T} {env} : (xtYes W).ev env = some true := nr rfl
theorem e_xVar {T : Tbl} {W : Wd T} {i env} : (xVar W i).ev env = (getS env i).map (Prod.mk .pl) := nr rfl
theorem e_xInt {T : Tbl} {W : Wd T} {i env} : (xInt W i).ev env = some (.fr, .int i) := nr rfl
theorem e_xBl {T : Tbl} {W : Wd T} {b env} : (xBl W b).ev env = some (.fr, .bl b) := nr rfl
theorem e_xNon {T : Tbl} {W : Wd T} {env} : (xNon W).ev env = some (.fr, .non) := nr rfl
theorem e_xStr {T : Tbl} {W : Wd T} {x env} : (xStr W x).ev env = some (.fr, .str x) := nr rfl
theorem e_xSub {T : Tbl} {W : Wd T} {a b : XP W} {env} : (xSub a b).ev env = (a.evV env).bind fun x => (b.evV env).bind fun y => (subD x y).map (Prod.mk .fr) := nr rfl
theorem e_xMul {T : Tbl} {W : Wd T} {a b : XP W} {env} : (xMul a b).ev env = (a.evV env).bind fun x => (b.evV env).bind fun y => (mulD x y).map (Prod.mk .fr) := nr rfl
theorem e_xDiv {T : Tbl} {W : Wd T} {a b : XP W} {env} : (xDiv a b).ev env = (a.evV env).bind fun x => (b.evV env).bind fun y => (divD x y).map (Prod.mk .fr) := nr rfl
theorem e_xMod {T : Tbl} {W : Wd T} {a b : XP W} {env} : (xMod a b).ev env = (a.evV env).bind fun x => (b.evV env).bind fun y => (modD x y).map (Prod.mk .fr) := nr rfl
theorem e_xPow {T : Tbl} {W : Wd T} {a b : XP W} {env} : (xPow a b).ev env = (a.evV env).bind fun x => (b.evV env).bind fun y => (powD x y).map (Prod.mk .fr) := nr rfl
theorem e_xNeg {T : Tbl} {W : Wd T} {a : XP W} {env} : (xNeg a).ev env = (a.evV env).bind fun x => (negD x).map (Prod.mk .fr) := by show (match a.evV env with | some x => _ | none => _) = _; cases a.evV env <;> rfl
theorem e_xAdd {T : Tbl} {W : Wd T} {a b : XP W} {env} : (xAdd a b).ev env = (a.evK env).bind fun x => (b.evK env).bind fun y => (addD x y).map (Prod.mk .fr) := nr rfl
theorem e_xEq {T : Tbl} {W : Wd T} {a b : XP W} {env} : (xEq a b).ev env = (a.evV env).bind fun x => (b.evV env).bind fun y => (eqD x y).map (Prod.mk .fr) := nr rfl
theorem e_xNe {T : Tbl} {W : Wd T} {a b : XP W} {env} : (xNe a b).ev env = (a.evV env).bind fun x => (b.evV env).bind fun y => (neD x y).map (Prod.mk .fr) := nr rfl
theorem e_xLt {T : Tbl} {W : Wd T} {a b : XP W} {env} : (xLt a b).ev env = (a.evV env).bind fun x => (b.evV env).bind fun y => (ltD x y).map (Prod.mk .fr) := nr rfl
theorem e_xGt {T : Tbl} {W : Wd T} {a b : XP W} {env} : (xGt a b).ev env = (a.evV env).bind fun x => (b.evV env).bind fun y => (cmpD (fun i j => decide (j < i)) x y).map (Prod.mk .fr) := nr rfl
theorem e_xGe {T : Tbl} {W : Wd T} {a b : XP W} {env} : (xGe a b).ev env = (a.evV env).bind fun x => (b.evV env).bind fun y => (cmpD (fun i j => decide (j <= i)) x y).map (Prod.mk .fr) := nr rfl
theorem e_xIsN {T : Tbl} {W : Wd T} {a : XP W} {env} : (xIsN a).ev env = (a.evV env).map fun x => (.fr, .bl (isNon x)) := nr rfl
theorem e_xAnd {T : Tbl} {W : Wd T} {a b : XP W} {env} : (xAnd a b).ev env = (andF (a.evB env) b.evB env).map fun c => (.fr, .bl c) := nr rfl
theorem e_xOr {T : Tbl} {W : Wd T} {a b : XP W} {env} : (xOr a b).ev env = (orF (a.evB env) b.evB env).map fun c => (.fr, .bl c) := nr rfl
theorem e_xNot {T : Tbl} {W : Wd T} {a : XP W} {env} : (xNot a).ev env = (a.evB env).map fun c => (.fr, .bl (!c)) := nr rfl
theorem e_xTup {T : Tbl} {W : Wd T} {as : XA W} {env} : (xTup as).ev env = (as.evF env).bind fun ds => if ds.length <= 1000000 then some (.fr, .tup ds) else none := nr rfl
theorem e_xLst {T : Tbl} {W : Wd T} {as : XA W} {env} : (xLst as).ev env = (as.evF env).bind fun ds => if ds.length <= 1000000 then some (.fr, .olst ds) else none := nr rfl
theorem e_xInt1 {T : Tbl} {W : Wd T} {as : XA W} {env} : (xInt1 as).ev env = (as.evV env).bind fun ds => (intD ds).map (Prod.mk .fr) := nr rfl
theorem e_xAbs {T : Tbl} {W : Wd T} {as : XA W} {env} : (xAbs as).ev env = (as.evV env).bind fun ds => (absD ds).map (Prod.mk .fr) := nr rfl
theorem e_xIx {T : Tbl} {W : Wd T} {a b : XP W} {env} : (xIx a b).ev env = (a.ev env).bind fun p => (b.evV env).bind fun y => (ixD p.2 y).map p.1.of := nr rfl
theorem e_xFld {T : Tbl} {W : Wd T} {a : XP W} {f env} : (xFld a f).ev env = (a.ev env).bind fun p => (fldD T f p.2).map p.1.of := nr rfl
theorem e_xList {T : Tbl} {W : Wd T} {a : XP W} {env} : (xList a).ev env = (a.evK env).bind fun d => (seqOf d).map fun p => (.fr, .olst p.2) := nr rfl
theorem e_xTuple {T : Tbl} {W : Wd T} {a : XP W} {env} : (xTuple a).ev env = (a.evK env).bind fun d => (seqOf d).map fun p => (.fr, .tup p.2) := nr rfl
theorem e_xIsi {T : Tbl} {W : Wd T} {c} {a : XP W} {env} : (xIsi c a).ev env = (a.evV env).bind fun x => (tyD x).map fun t => (.fr, .bl (isi1 T t c)) := nr rfl
theorem e_xCall {T : Tbl} {W : Wd T} {φ n} {as : XA W} {dds dvs hd env} : (xCall φ n as dds dvs hd).ev env = callE φ n dds (as.evF env) (as.evV env) := by show (match as.evF env with | some ds => _ | none => _) = _; unfold callE; cases as.evF env <;> first | rfl | (cases as.evV env <;> rfl)
theorem e_xLc {T : Tbl} {W : Wd T} {it : XI W} {g : XG W} {c x env} : (xLc it g c x).ev env = (it.evP env).bind fun ds => if ds.length < 1000000 then (lcL (lc1 g c x (wipeE env g.own)) ds).map fun ys => (.fr, .olst ys) else none := nr rfl
theorem e_xmVar {T : Tbl} {W : Wd T} {i P env} : (xmVar W i).ev P env = RM.ofO ((getS env i).map fun d => (fz d, if isSh d = true then env else env.set i (some (fz d)))) := by show (match getS env i with | some d => _ | none => _) = _; cases getS env i <;> rfl
theorem e_xmMove {T : Tbl} {W : Wd T} {i P env} : (xmMove W i).ev P env = RM.ofO ((getS env i).map fun d => (d, env.set i none)) := by show (match getS env i with | some d => _ | none => _) = _; cases getS env i <;> rfl
theorem e_xmAppend {T : Tbl} {W : Wd T} {p : XPl W} {a : XP W} {P env} : (xmAppend p a).ev P env = RM.ofO ((p.ev env).bind fun q => ((xoCons a (xoNil W)).ev env).bind fun ds => (appendD q.2 ds).bind fun z => (getS env p.root).map fun d0 => (z.2, env.set p.root (some (d0.putAt q.1 z.1)))) := nr rfl
theorem e_xoNil {T : Tbl} {W : Wd T} {env} : (xoNil W).ev env = some [] := nr rfl
theorem e_xoCons {T : Tbl} {W : Wd T} {a : XP W} {as : XO W} {env} : (xoCons a as).ev env = (a.evO env).bind fun x => (as.ev env).map (x :: ·) := nr rfl
theorem e_plVar {T : Tbl} {W : Wd T} {i env} : (plVar W i).ev env = (getS env i).map fun d => ([], d) := nr rfl
theorem r_plVar {T : Tbl} {W : Wd T} {i} : (plVar W i).root = i := nr rfl
theorem e_xaNilV {T : Tbl} {W : Wd T} {env} : (xaNil W).evV env = some [] := nr rfl
theorem e_xaNilF {T : Tbl} {W : Wd T} {env} : (xaNil W).evF env = some [] := nr rfl
theorem e_xaConsV {T : Tbl} {W : Wd T} {a : XP W} {as : XA W} {env} : (xaCons a as).evV env = (a.evV env).bind fun x => (as.evV env).map (x :: ·) := nr rfl
theorem e_xaConsF {T : Tbl} {W : Wd T} {a : XP W} {as : XA W} {env} : (xaCons a as).evF env = (a.evF env).bind fun x => (as.evF env).map (x :: ·) := nr rfl
theorem e_xgN {T : Tbl} {W : Wd T} {i P d env} : (xgN W i).ev P d env = setS P i d env := nr rfl
theorem e_xgT {T : Tbl} {W : Wd T} {n} {gs : XGs W} {P ds env} : (xgT n gs).ev P (.tup ds) env = if ds.length = n then gs.ev P ds env else none := nr rfl
theorem o_xgN {T : Tbl} {W : Wd T} {i} : (xgN W i).own = [i] := nr rfl
theorem o_xgT {T : Tbl} {W : Wd T} {n} {gs : XGs W} : (xgT n gs).own = gs.own := nr rfl
theorem e_xiSeqF {T : Tbl} {W : Wd T} {a : XP W} {env} : (xiSeq a).evF env = (a.evF env).bind seqF := nr rfl
theorem e_xiSeqP {T : Tbl} {W : Wd T} {a : XP W} {env} : (xiSeq a).evP env = (a.evK env).bind fun d => (seqOf d).map (·.2) := nr rfl
theorem e_xiR1F {T : Tbl} {W : Wd T} {as : XA W} {env} : (xiR1 as).evF env = (as.evV env).bind rng1D := nr rfl
theorem e_xiR1P {T : Tbl} {W : Wd T} {as : XA W} {env} : (xiR1 as).evP env = (as.evV env).bind rng1D := nr rfl
theorem e_xiR2F {T : Tbl} {W : Wd T} {as : XA W} {env} : (xiR2 as).evF env = (as.evV env).bind rng2D := nr rfl
theorem e_xiR2P {T : Tbl} {W : Wd T} {as : XA W} {env} : (xiR2 as).evP env = (as.evV env).bind rng2D := nr rfl
theorem e_xsFor {T : Tbl} {W : Wd T} {it : XI W} {g : XG W} {b : XS W} {P env} : (xsFor it g b).ev P env = forE (forK g b P) (it.evF env) env := by show (match it.evF env with | some ds => _ | none => _) = _; unfold forE forK turnE; cases it.evF env <;> rfl
theorem e_evV {T : Tbl} {W : Wd T} {x : XP W} {env} : x.evV env = toV (x.ev env) := nr rfl
theorem e_evK {T : Tbl} {W : Wd T} {x : XP W} {env} : x.evK env = toK (x.ev env) := nr rfl
theorem e_evF {T : Tbl} {W : Wd T} {x : XP W} {env} : x.evF env = toF (x.ev env) := nr rfl
theorem e_evO {T : Tbl} {W : Wd T} {x : XP W} {env} : x.evO env = toO (x.ev env) := nr rfl
theorem e_evB {T : Tbl} {W : Wd T} {x : XP W} {env} : x.evB env = (x.evV env).bind blD := nr rfl
theorem h_getS0 {d e} : getS (some d :: e) 0 = some d := nr rfl
theorem h_getS0n {e} : getS (none :: e) 0 = none := nr rfl
theorem h_getSs {x e} {n : Nat} : getS (x :: e) (n + 1) = getS e n := nr rfl
theorem h_toV {k d} : toV (some (k, d)) = some (fz d) := nr rfl
theorem h_toVn  : toV none = none := nr rfl
theorem h_toKf {d} : toK (some (.fr, d)) = some d := nr rfl
theorem h_toKp {d} : toK (some (.pl, d)) = some d := nr rfl
theorem h_toKv {d} : toK (some (.vw, d)) = if isFlat d = true then some d else none := nr rfl
theorem h_toKn  : toK none = none := nr rfl
theorem h_toFf {d} : toF (some (.fr, d)) = some (fz d) := nr rfl
theorem h_toFp {d} : toF (some (.pl, d)) = if isSh d = true then some d else none := nr rfl
theorem h_toFv {d} : toF (some (.vw, d)) = if isFlat d = true then some d else none := nr rfl
theorem h_toFn  : toF none = none := nr rfl
theorem h_toOf {d} : toO (some (.fr, d)) = some d := nr rfl
theorem h_toOp {d} : toO (some (.pl, d)) = if isSh d = true then some d else none := nr rfl
theorem h_toOv {d} : toO (some (.vw, d)) = if isFlat d = true then some d else none := nr rfl
theorem h_toOn  : toO none = none := nr rfl
theorem h_of_f {d} : Kd.of .fr d = (.pl, d) := nr rfl
theorem h_of_p {d} : Kd.of .pl d = (.pl, d) := nr rfl
theorem h_of_v {d} : Kd.of .vw d = (.vw, fz d) := nr rfl
theorem h_then_nx {e f} : RS.then (.nx e) f = f e := nr rfl
theorem h_then_rt {d e f} : RS.then (.rt d e) f = .rt d e := nr rfl
theorem h_then_bk {e f} : RS.then (.bk e) f = .bk e := nr rfl
theorem h_then_ct {e f} : RS.then (.ct e) f = .ct e := nr rfl
theorem h_then_ex {x e f} : RS.then (.ex x e) f = .ex x e := nr rfl
theorem h_then_no {f} : RS.then .no f = .no := nr rfl
theorem h_thenS_ok {d e f} : RM.thenS (.ok d e) f = f d e := nr rfl
theorem h_thenS_exn {x e f} : RM.thenS (.exn x e) f = .ex x e := nr rfl
theorem h_thenS_no {f} : RM.thenS .no f = .no := nr rfl
theorem h_ofO {e} : RS.ofO (some e) = .nx e := nr rfl
theorem h_ofOn  : RS.ofO none = .no := nr rfl
theorem h_of {d e} : RM.of (some d) e = .ok d e := nr rfl
theorem h_ofn {e} : RM.of none e = .no := nr rfl
theorem h_mofO {d e} : RM.ofO (some (d, e)) = .ok d e := nr rfl
theorem h_mofOn  : RM.ofO none = .no := nr rfl
theorem h_iteF1 {s u e} : iteF (some true) s u e = s e := nr rfl
theorem h_iteF0 {s u e} : iteF (some false) s u e = u e := nr rfl
theorem h_iteFn {s u e} : iteF none s u e = .no := nr rfl
theorem h_asgK {P i d e} : asgK P i d e = RS.ofO (setS P i d e) := nr rfl
theorem h_forK {T : Tbl} {W : Wd T} {g : XG W} {b : XS W} {P d e} : forK g b P d e = turnE (g.ev P d e) (b.ev P) := nr rfl
theorem h_andF1 {f e} : andF (some true) f e = f e := nr rfl
theorem h_andF0 {f e} : andF (some false) f e = some false := nr rfl
theorem h_orF1 {f e} : orF (some true) f e = some true := nr rfl
theorem h_orF0 {f e} : orF (some false) f e = f e := nr rfl
theorem h_blD {b} : blD (.bl b) = some b := nr rfl
theorem h_turn {e f} : turnE (some e) f = f e := nr rfl
theorem h_turnn {f} : turnE none f = .no := nr rfl
theorem h_forE {f ds env} : forE f (some ds) env = forL f ds env := nr rfl
theorem h_forEn {f env} : forE f none env = .no := nr rfl
theorem h_callF {φ : List D -> Option Nat -> Rz} {n dds ds v} : callE φ n dds (some ds) v = if (ds ++ dds).length = n then (φ (ds ++ dds) none).toF else none := nr rfl
theorem h_callV {φ : List D -> Option Nat -> Rz} {n dds ds} : callE φ n dds none (some ds) = if (ds ++ dds).length = n then (φ (ds ++ dds) none).toV else none := nr rfl
theorem h_rzF {d b} : (Rz.ok d b).toF = some (.fr, d) := nr rfl
theorem h_rzV {d b} : (Rz.ok d b).toV = some (if isFlat d = true then (.fr, d) else (.vw, fz d)) := nr rfl
theorem h_fz_non  : fz (.non) = .non := by simp [fz]
theorem h_sh_non  : isSh (.non) = true := nr rfl
theorem h_fl_non  : isFlat (.non) = true := nr rfl
theorem h_isN_non  : isNon (.non) = true := nr rfl
theorem h_fz_bl {b} : fz (.bl b) = .bl b := by simp [fz]
theorem h_sh_bl {b} : isSh (.bl b) = true := nr rfl
theorem h_fl_bl {b} : isFlat (.bl b) = true := nr rfl
theorem h_fz_int {i} : fz (.int i) = .int i := by simp [fz]
theorem h_sh_int {i} : isSh (.int i) = true := nr rfl
theorem h_fl_int {i} : isFlat (.int i) = true := nr rfl
theorem h_isN_int {i} : isNon (.int i) = false := nr rfl
theorem h_fz_str {x} : fz (.str x) = .str x := by simp [fz]
theorem h_sh_str {x} : isSh (.str x) = true := nr rfl
theorem h_fl_str {x} : isFlat (.str x) = true := nr rfl
theorem h_isN_str {x} : isNon (.str x) = false := nr rfl
theorem h_fz_cls {c} : fz (.cls c) = .cls c := by simp [fz]
theorem h_sh_cls {c} : isSh (.cls c) = true := nr rfl
theorem h_fl_cls {c} : isFlat (.cls c) = true := nr rfl
theorem h_isN_cls {c} : isNon (.cls c) = false := nr rfl
theorem h_fz_sei {xs} : fz (.sei xs) = .sei xs := by simp [fz]
theorem h_sh_sei {xs} : isSh (.sei xs) = true := nr rfl
theorem h_fl_sei {xs} : isFlat (.sei xs) = false := nr rfl
theorem h_isN_sei {xs} : isNon (.sei xs) = false := nr rfl
theorem h_fz_scr {ns} : fz (.scr ns) = .scr ns := by simp [fz]
theorem h_sh_scr {ns} : isSh (.scr ns) = true := nr rfl
theorem h_fl_scr {ns} : isFlat (.scr ns) = false := nr rfl
theorem h_isN_scr {ns} : isNon (.scr ns) = false := nr rfl
theorem h_fz_tup {xs} : fz (.tup xs) = .tup xs := by simp [fz]
theorem h_sh_tup {xs} : isSh (.tup xs) = true := nr rfl
theorem h_fl_tup {xs} : isFlat (.tup xs) = false := nr rfl
theorem h_isN_tup {xs} : isNon (.tup xs) = false := nr rfl
theorem h_fz_lst {xs} : fz (.lst xs) = .lst xs := by simp [fz]
theorem h_sh_lst {xs} : isSh (.lst xs) = true := nr rfl
theorem h_fl_lst {xs} : isFlat (.lst xs) = false := nr rfl
theorem h_isN_lst {xs} : isNon (.lst xs) = false := nr rfl
theorem h_fz_dic {ks xs} : fz (.dic ks xs) = .dic ks xs := by simp [fz]
theorem h_sh_dic {ks xs} : isSh (.dic ks xs) = true := nr rfl
theorem h_fl_dic {ks xs} : isFlat (.dic ks xs) = false := nr rfl
theorem h_isN_dic {ks xs} : isNon (.dic ks xs) = false := nr rfl
theorem h_fz_dit {ks xs} : fz (.dit ks xs) = .dit ks xs := by simp [fz]
theorem h_sh_dit {ks xs} : isSh (.dit ks xs) = true := nr rfl
theorem h_fl_dit {ks xs} : isFlat (.dit ks xs) = false := nr rfl
theorem h_isN_dit {ks xs} : isNon (.dit ks xs) = false := nr rfl
theorem h_fz_dig {ks xs} : fz (.dig ks xs) = .dig ks xs := by simp [fz]
theorem h_sh_dig {ks xs} : isSh (.dig ks xs) = true := nr rfl
theorem h_fl_dig {ks xs} : isFlat (.dig ks xs) = false := nr rfl
theorem h_isN_dig {ks xs} : isNon (.dig ks xs) = false := nr rfl
theorem h_fz_ins {c ns xs} : fz (.ins c ns xs) = .ins c ns xs := by simp [fz]
theorem h_sh_ins {c ns xs} : isSh (.ins c ns xs) = true := nr rfl
theorem h_fl_ins {c ns xs} : isFlat (.ins c ns xs) = false := nr rfl
theorem h_isN_ins {c ns xs} : isNon (.ins c ns xs) = false := nr rfl
theorem h_isN_bl {b} : isNon (.bl b) = false := nr rfl
theorem h_fz_olst {xs} : fz (.olst xs) = .lst (fzs xs) := by rw [fz]
theorem h_sh_olst {xs} : isSh (.olst xs) = false := nr rfl
theorem h_fl_olst {xs} : isFlat (.olst xs) = false := nr rfl
theorem h_fz_odic {ks xs} : fz (.odic ks xs) = .dic ks (fzs xs) := by rw [fz]
theorem h_sh_odic {ks xs} : isSh (.odic ks xs) = false := nr rfl
theorem h_fl_odic {ks xs} : isFlat (.odic ks xs) = false := nr rfl
theorem h_fz_odit {ks xs} : fz (.odit ks xs) = .dit ks (fzs xs) := by rw [fz]
theorem h_sh_odit {ks xs} : isSh (.odit ks xs) = false := nr rfl
theorem h_fl_odit {ks xs} : isFlat (.odit ks xs) = false := nr rfl
theorem h_fz_odig {ks xs} : fz (.odig ks xs) = .dig ks (fzs xs) := by rw [fz]
theorem h_sh_odig {ks xs} : isSh (.odig ks xs) = false := nr rfl
theorem h_fl_odig {ks xs} : isFlat (.odig ks xs) = false := nr rfl
theorem h_fz_oins {c ns xs} : fz (.oins c ns xs) = .ins c ns (fzs xs) := by rw [fz]
theorem h_sh_oins {c ns xs} : isSh (.oins c ns xs) = false := nr rfl
theorem h_fl_oins {c ns xs} : isFlat (.oins c ns xs) = false := nr rfl
theorem h_fzs_nil  : fzs [] = [] := by rw [fzs]
theorem h_fzs_cons {x xs} : fzs (x :: xs) = fz x :: fzs xs := by rw [fzs]
theorem h_fzs_app {xs ys} : fzs (xs ++ ys) = fzs xs ++ fzs ys := by rw [fzs_eq, fzs_eq, fzs_eq, List.map_append]
theorem h_tru_bl {b} : truD (.bl b) = some b := nr rfl
theorem h_tru_non  : truD .non = some false := nr rfl
theorem h_tru_int {i} : truD (.int i) = some (decide (i ≠ 0)) := nr rfl
theorem h_tru_lst {ds} : truD (.lst ds) = some (!ds.isEmpty) := nr rfl
theorem h_tru_tup {ds} : truD (.tup ds) = some (!ds.isEmpty) := nr rfl
theorem h_sub {i j} : subD (.int i) (.int j) = some (.int (i - j)) := nr rfl
theorem h_neg {i} : negD (.int i) = some (.int (-i)) := nr rfl
theorem h_addI {i j} : addD (.int i) (.int j) = some (.int (i + j)) := nr rfl
theorem h_addT {xs ys} : addD (.tup xs) (.tup ys) = if xs ≠ [] /\ xs.length + ys.length <= 1000000 then some (.tup (xs ++ ys)) else none := nr rfl
theorem h_addL {xs ys} : addD (.lst xs) (.lst ys) = if xs.length + ys.length <= 1000000 then some (.olst (xs ++ ys)) else none := nr rfl
theorem h_addLo {xs ys} : addD (.lst xs) (.olst ys) = if ys.all isSh = true then (if xs.length + ys.length <= 1000000 then some (.olst (xs ++ ys)) else none) else none := by by_cases h1 : xs.all isSh = true <;> by_cases h2 : ys.all isSh = true <;> simp only [addD, lstOf, h1, h2, if_true, if_false, and_self, and_true, true_and, and_false, false_and, Bool.false_eq_true]
theorem h_addoL {xs ys} : addD (.olst xs) (.lst ys) = if xs.all isSh = true then (if xs.length + ys.length <= 1000000 then some (.olst (xs ++ ys)) else none) else none := by by_cases h1 : xs.all isSh = true <;> by_cases h2 : ys.all isSh = true <;> simp only [addD, lstOf, h1, h2, if_true, if_false, and_self, and_true, true_and, and_false, false_and, Bool.false_eq_true]
theorem h_addoo {xs ys} : addD (.olst xs) (.olst ys) = if xs.all isSh = true /\ ys.all isSh = true then (if xs.length + ys.length <= 1000000 then some (.olst (xs ++ ys)) else none) else none := by by_cases h1 : xs.all isSh = true <;> by_cases h2 : ys.all isSh = true <;> simp only [addD, lstOf, h1, h2, if_true, if_false, and_self, and_true, true_and, and_false, false_and, Bool.false_eq_true]
theorem h_mulL {i j} (h1 : -18446744073709551616 < i) (h2 : i < 18446744073709551616) : mulD (.int i) (.int j) = some (.int (i * j)) := if_pos (.inl ⟨h1, h2⟩)
theorem h_mulR {i j} (h1 : -18446744073709551616 < j) (h2 : j < 18446744073709551616) : mulD (.int i) (.int j) = some (.int (i * j)) := if_pos (.inr (.inl ⟨h1, h2⟩))
theorem h_div {i j} (h1 : 0 < j) (h2 : j < 1073741824) : divD (.int i) (.int j) = some (.int (i / j)) := if_pos ⟨h1, .inl h2⟩
theorem h_mod {i j} (h1 : 0 < j) : modD (.int i) (.int j) = some (.int (i % j)) := if_pos h1
theorem h_eqD {x y} : eqD x y = if okD 60 x = true /\ okD 60 y = true then some (.bl (eqB x y)) else none := nr rfl
theorem h_neD {x y} : neD x y = if okD 60 x = true /\ okD 60 y = true then some (.bl (!eqB x y)) else none := nr rfl
theorem h_ok_non {n} : okD n (.non) = true := by cases n <;> simp [okD]
theorem h_ok_bl {n}{b} : okD n (.bl b) = true := by cases n <;> simp [okD]
theorem h_ok_int {n}{i} : okD n (.int i) = true := by cases n <;> simp [okD]
theorem h_ok_str {n}{x} : okD n (.str x) = true := by cases n <;> simp [okD]
theorem h_ok_tup {n xs} : okD (n + 1) (.tup xs) = okDs n xs := by rw [okD]
theorem h_ok_lst {n xs} : okD (n + 1) (.lst xs) = okDs n xs := by rw [okD]
theorem h_oks_nil {n} : okDs n [] = true := by rw [okDs]
theorem h_oks_cons {n x xs} : okDs n (x :: xs) = (okD n x && okDs n xs) := by rw [okDs]
theorem h_eqB_ii {i j} : eqB (.int i) (.int j) = decide (i = j) := by rw [eqB]
theorem h_eqB_ss {x y} : eqB (.str x) (.str y) = decide (x = y) := by rw [eqB]
theorem h_eqB_bb {a b} : eqB (.bl a) (.bl b) = decide (a = b) := by rw [eqB]
theorem h_eqB_nn  : eqB .non .non = true := by rw [eqB]
theorem h_eqB_ni {i} : eqB .non (.int i) = false := by simp [eqB]
theorem h_eqB_in {i} : eqB (.int i) .non = false := by simp [eqB]
theorem h_eqB_nt {xs} : eqB .non (.tup xs) = false := by simp [eqB]
theorem h_eqB_tn {xs} : eqB (.tup xs) .non = false := by simp [eqB]
theorem h_eqB_tt {xs ys} : eqB (.tup xs) (.tup ys) = eqBs xs ys := by rw [eqB]
theorem h_eqB_ll {xs ys} : eqB (.lst xs) (.lst ys) = eqBs xs ys := by rw [eqB]
theorem h_eqBs_nn  : eqBs [] [] = true := by rw [eqBs]
theorem h_eqBs_cc {x xs y ys} : eqBs (x :: xs) (y :: ys) = (eqB x y && eqBs xs ys) := by rw [eqBs]
theorem h_eqBs_nc {y ys} : eqBs [] (y :: ys) = false := by simp [eqBs]
theorem h_eqBs_cn {y ys} : eqBs (y :: ys) [] = false := by simp [eqBs]
theorem h_cmp {f i j} : cmpD f (.int i) (.int j) = some (.bl (f i j)) := nr rfl
theorem h_ltI {i j} : ltD (.int i) (.int j) = some (.bl (decide (i < j))) := nr rfl
theorem h_ltT {xs ys} : ltD (.tup xs) (.tup ys) = (intsOf xs).bind fun ns => (intsOf ys).map fun ms => .bl (HT.lexLt ns ms) := nr rfl
theorem h_ints_nil  : intsOf [] = some [] := nr rfl
theorem h_ints_cons {i ds} : intsOf (.int i :: ds) = (intsOf ds).map (i :: ·) := nr rfl
theorem h_intI {i} : intD [.int i] = some (.int i) := nr rfl
theorem h_intB {b} : intD [.bl b] = some (.int (if b = true then 1 else 0)) := nr rfl
theorem h_abs {i} : absD [.int i] = some (.int (if i < 0 then -i else i)) := nr rfl
theorem h_lenL {ds} : lenD [.lst ds] = some (.int ds.length) := nr rfl
theorem h_lenT {ds} : lenD [.tup ds] = some (.int ds.length) := nr rfl
theorem h_lenS {ns} : lenD [.scr ns] = some (.int ns.length) := nr rfl
theorem h_ix {d i} : ixD d (.int i) = (itemsD d).bind fun xs => atI xs i := nr rfl
theorem h_it_lst {xs} : itemsD (.lst xs) = some xs := nr rfl
theorem h_it_olst {xs} : itemsD (.olst xs) = some xs := nr rfl
theorem h_it_tup {xs} : itemsD (.tup xs) = some xs := nr rfl
theorem h_it_scr {ns} : itemsD (.scr ns) = some (ns.map .int) := nr rfl
theorem h_at0 {α : Type} {x : α} {xs} : atI (x :: xs) 0 = some x := by simp [atI, ixN]
theorem h_at1 {α : Type} {xs : List α} : atI xs 1 = xs[1]? := atI_litN 1
theorem h_at2 {α : Type} {xs : List α} : atI xs 2 = xs[2]? := atI_litN 2
theorem h_at3 {α : Type} {xs : List α} : atI xs 3 = xs[3]? := atI_litN 3
theorem h_at4 {α : Type} {xs : List α} : atI xs 4 = xs[4]? := atI_litN 4
theorem h_at5 {α : Type} {xs : List α} : atI xs 5 = xs[5]? := atI_litN 5
theorem h_at6 {α : Type} {xs : List α} : atI xs 6 = xs[6]? := atI_litN 6
theorem h_at7 {α : Type} {xs : List α} : atI xs 7 = xs[7]? := atI_litN 7
theorem h_at8 {α : Type} {xs : List α} : atI xs 8 = xs[8]? := atI_litN 8
theorem h_at9 {α : Type} {xs : List α} : atI xs 9 = xs[9]? := atI_litN 9
theorem h_at10 {α : Type} {xs : List α} : atI xs 10 = xs[10]? := atI_litN 10
theorem h_at11 {α : Type} {xs : List α} : atI xs 11 = xs[11]? := atI_litN 11
theorem h_at12 {α : Type} {xs : List α} : atI xs 12 = xs[12]? := atI_litN 12
theorem h_atm1 {α : Type} {xs : List α} : atI xs (-1) = xs.getLast? := atI_last
theorem h_seq_lst {xs} : seqOf (.lst xs) = some (false, xs) := nr rfl
theorem h_seq_tup {xs} : seqOf (.tup xs) = some (true, xs) := nr rfl
theorem h_seq_olst {xs} : seqOf (.olst xs) = if xs.all isSh = true then some (false, xs) else none := nr rfl
theorem h_seq_scr {ns} : seqOf (.scr ns) = some (false, ns.map .int) := nr rfl
theorem h_sF_lst {xs} : seqF (.lst xs) = some xs := nr rfl
theorem h_sF_tup {xs} : seqF (.tup xs) = some xs := nr rfl
theorem h_sF_scr {ns} : seqF (.scr ns) = some (ns.map .int) := nr rfl
theorem h_ty_non  : tyD (.non) = some (false, "NoneType") := nr rfl
theorem h_ty_bl {b} : tyD (.bl b) = some (false, "bool") := nr rfl
theorem h_ty_int {i} : tyD (.int i) = some (false, "int") := nr rfl
theorem h_ty_str {x} : tyD (.str x) = some (false, "str") := nr rfl
theorem h_ty_lst {xs} : tyD (.lst xs) = some (false, "list") := nr rfl
theorem h_ty_tup {xs} : tyD (.tup xs) = some (false, "tuple") := nr rfl
theorem h_ty_ins {c ns xs} : tyD (.ins c ns xs) = some (true, c) := nr rfl
theorem h_isi_bb {T : Tbl} {a b} : isi1 T (false, a) (false, b) = isiB a b := nr rfl
theorem h_isi_bo {T : Tbl} {a b} : isi1 T (false, a) (true, b) = false := nr rfl
theorem h_isi_ob {T : Tbl} {a b} : isi1 T (true, a) (false, b) = false := nr rfl
theorem h_isi_oo {T : Tbl} {a b} : isi1 T (true, a) (true, b) = T.sub a b := nr rfl
theorem h_isiB_NoneType_bool  : isiB "NoneType" "bool" = false := by decide
theorem h_isiB_NoneType_int  : isiB "NoneType" "int" = false := by decide
theorem h_isiB_NoneType_str  : isiB "NoneType" "str" = false := by decide
theorem h_isiB_NoneType_list  : isiB "NoneType" "list" = false := by decide
theorem h_isiB_NoneType_tuple  : isiB "NoneType" "tuple" = false := by decide
theorem h_isiB_NoneType_dict  : isiB "NoneType" "dict" = false := by decide
theorem h_isiB_bool_bool  : isiB "bool" "bool" = true := by decide
theorem h_isiB_bool_int  : isiB "bool" "int" = true := by decide
theorem h_isiB_bool_str  : isiB "bool" "str" = false := by decide
theorem h_isiB_bool_list  : isiB "bool" "list" = false := by decide
theorem h_isiB_bool_tuple  : isiB "bool" "tuple" = false := by decide
theorem h_isiB_bool_dict  : isiB "bool" "dict" = false := by decide
theorem h_isiB_int_bool  : isiB "int" "bool" = false := by decide
theorem h_isiB_int_int  : isiB "int" "int" = true := by decide
theorem h_isiB_int_str  : isiB "int" "str" = false := by decide
theorem h_isiB_int_list  : isiB "int" "list" = false := by decide
theorem h_isiB_int_tuple  : isiB "int" "tuple" = false := by decide
theorem h_isiB_int_dict  : isiB "int" "dict" = false := by decide
theorem h_isiB_str_bool  : isiB "str" "bool" = false := by decide
theorem h_isiB_str_int  : isiB "str" "int" = false := by decide
theorem h_isiB_str_str  : isiB "str" "str" = true := by decide
theorem h_isiB_str_list  : isiB "str" "list" = false := by decide
theorem h_isiB_str_tuple  : isiB "str" "tuple" = false := by decide
theorem h_isiB_str_dict  : isiB "str" "dict" = false := by decide
theorem h_isiB_list_bool  : isiB "list" "bool" = false := by decide
theorem h_isiB_list_int  : isiB "list" "int" = false := by decide
theorem h_isiB_list_str  : isiB "list" "str" = false := by decide
theorem h_isiB_list_list  : isiB "list" "list" = true := by decide
theorem h_isiB_list_tuple  : isiB "list" "tuple" = false := by decide
theorem h_isiB_list_dict  : isiB "list" "dict" = false := by decide
theorem h_isiB_tuple_bool  : isiB "tuple" "bool" = false := by decide
theorem h_isiB_tuple_int  : isiB "tuple" "int" = false := by decide
theorem h_isiB_tuple_str  : isiB "tuple" "str" = false := by decide
theorem h_isiB_tuple_list  : isiB "tuple" "list" = false := by decide
theorem h_isiB_tuple_tuple  : isiB "tuple" "tuple" = true := by decide
theorem h_isiB_tuple_dict  : isiB "tuple" "dict" = false := by decide
theorem h_isiB_dict_bool  : isiB "dict" "bool" = false := by decide
theorem h_isiB_dict_int  : isiB "dict" "int" = false := by decide
theorem h_isiB_dict_str  : isiB "dict" "str" = false := by decide
theorem h_isiB_dict_list  : isiB "dict" "list" = false := by decide
theorem h_isiB_dict_tuple  : isiB "dict" "tuple" = false := by decide
theorem h_isiB_dict_dict  : isiB "dict" "dict" = true := by decide
theorem h_append {xs d} : appendD (.olst xs) [d] = if xs.length < 1000000 then some (.olst (xs ++ [d]), .non) else none := nr rfl
theorem h_put0 {d n : D} : D.putAt d [] n = n := nr rfl
theorem h_rng1 {n} : rng1D [.int n] = guardB (rngOk n) (some (rangeD 0 n.toNat)) := nr rfl
theorem h_rng2 {m n} : rng2D [.int m, .int n] = guardB (rngOk m && rngOk n) (some (rangeD m (n - m).toNat)) := nr rfl
theorem h_guard1 {α : Type} {x : Option α} : guardB true x = x := nr rfl
theorem h_guard0 {α : Type} {x : Option α} : guardB false x = none := nr rfl
theorem h_rngOk {i : Int} (h1 : -1000000000000000000 <= i) (h2 : i <= 1000000000000000000) : rngOk i = true := Nat.ble_eq_true_of_le (by omega)
theorem h_forLn {f env} : forL f [] env = .nx env := nr rfl
theorem h_forLc {f d ds env} : forL f (d :: ds) env = forT f ds (f d env) := by show (match f d env with | .nx e => _ | .ct e => _ | .bk e => _ | r => r) = _; cases f d env <;> rfl
theorem h_forT_nx {f ds e} : forT f ds (.nx e) = forL f ds e := nr rfl
theorem h_forT_ct {f ds e} : forT f ds (.ct e) = forL f ds e := nr rfl
theorem h_forT_bk {f ds e} : forT f ds (.bk e) = .nx e := nr rfl
theorem h_forT_rt {f ds d e} : forT f ds (.rt d e) = .rt d e := nr rfl
theorem h_forT_ex {f ds x e} : forT f ds (.ex x e) = .ex x e := nr rfl
theorem h_lc1 {T : Tbl} {W : Wd T} {g : XG W} {c : XT W} {x : XP W} {env d} : lc1 g c x env d = lcK c x (g.ev [] d env) := by show (g.ev [] d env).bind _ = _; cases g.ev [] d env <;> rfl
theorem h_lcK {T : Tbl} {W : Wd T} {c : XT W} {x : XP W} {e} : lcK c x (some e) = lcJ x (c.ev e) e := nr rfl
theorem h_lcJ1 {T : Tbl} {W : Wd T} {x : XP W} {e} : lcJ x (some true) e = (x.evO e).map fun y => [y] := nr rfl
theorem h_lcJ0 {T : Tbl} {W : Wd T} {x : XP W} {e} : lcJ x (some false) e = some [] := nr rfl
theorem h_wipe0 {env} : wipeE env [] = env := nr rfl
theorem h_wipes {env v vs} : wipeE env (v :: vs) = (wipeE env vs).set v none := nr rfl
theorem h_frz {env i} : frzS env i = frzO env i (getS env i) := by unfold frzS frzO; cases getS env i <;> rfl
theorem h_frzO {env i d} : frzO env i (some d) = env.set i (some (fz d)) := nr rfl
theorem h_frzOn {env i} : frzO env i none = env := nr rfl
theorem h_runR_rt {b d env} : runR b (.rt d env) = retZ (bGet b env) d := by cases hb : bGet b env <;> simp [runR, retZ, hb]
theorem h_runR_nx {b env} : runR b (.nx env) = retZ (bGet b env) .non := by cases hb : bGet b env <;> simp [runR, retZ, hb]
theorem h_retZ {x d} : retZ (some x) d = .ok d x := nr rfl
theorem h_bGetn {env} : bGet none env = some none := nr rfl
theorem h_bGets {i env} : bGet (some i) env = (getS env i).map some := nr rfl
theorem h_setS {P i d env} : setS P i d env = if i < env.length /\ i ∉ P then some (env.set i (some d)) else none := nr rfl
theorem h_fldI {T : Tbl} {f c ns xs} : fldD T f (.ins c ns xs) = if T.fOk c f = true then (pos f ns).bind fun j => xs[j]? else none := nr rfl
theorem h_fldO {T : Tbl} {f c ns xs} : fldD T f (.oins c ns xs) = if T.fOk c f = true then (pos f ns).bind fun j => xs[j]? else none := nr rfl
theorem h_iteFd1 {p : Prop} [Decidable p] {s u e} (h : p) : iteF (some (decide p)) s u e = s e := by rw [decide_eq_true h]; rfl
theorem h_iteFd0 {p : Prop} [Decidable p] {s u e} (h : ¬ p) : iteF (some (decide p)) s u e = u e := by rw [decide_eq_false h]; rfl
theorem h_iteFe1 {p : Prop} [Decidable p] {s u e} (h : ¬ p) : iteF (some (!decide p)) s u e = s e := by rw [decide_eq_false h]; rfl
theorem h_iteFe0 {p : Prop} [Decidable p] {s u e} (h : p) : iteF (some (!decide p)) s u e = u e := by rw [decide_eq_true h]; rfl
theorem h_andFd1 {p : Prop} [Decidable p] {s e} (h : p) : andF (some (decide p)) s e = s e := by rw [decide_eq_true h]; rfl
theorem h_andFd0 {p : Prop} [Decidable p] {s e} (h : ¬ p) : andF (some (decide p)) s e = some false := by rw [decide_eq_false h]; rfl
theorem h_andFe1 {p : Prop} [Decidable p] {s e} (h : ¬ p) : andF (some (!decide p)) s e = s e := by rw [decide_eq_false h]; rfl
theorem h_andFe0 {p : Prop} [Decidable p] {s e} (h : p) : andF (some (!decide p)) s e = some false := by rw [decide_eq_true h]; rfl
theorem h_orFd1 {p : Prop} [Decidable p] {s e} (h : p) : orF (some (decide p)) s e = some true := by rw [decide_eq_true h]; rfl
theorem h_orFd0 {p : Prop} [Decidable p] {s e} (h : ¬ p) : orF (some (decide p)) s e = s e := by rw [decide_eq_false h]; rfl
theorem h_orFe1 {p : Prop} [Decidable p] {s e} (h : ¬ p) : orF (some (!decide p)) s e = some true := by rw [decide_eq_false h]; rfl
theorem h_orFe0 {p : Prop} [Decidable p] {s e} (h : p) : orF (some (!decide p)) s e = s e := by rw [decide_eq_true h]; rfl
theorem h_lcJd1 {T : Tbl} {W : Wd T} {x : XP W} {e} {p : Prop} [Decidable p] (h : p) : lcJ x (some (decide p)) e = (x.evO e).map fun y => [y] := by rw [decide_eq_true h]; rfl
theorem h_lcJd0 {T : Tbl} {W : Wd T} {x : XP W} {e} {p : Prop} [Decidable p] (h : ¬ p) : lcJ x (some (decide p)) e = some [] := by rw [decide_eq_false h]; rfl
theorem h_lcJe1 {T : Tbl} {W : Wd T} {x : XP W} {e} {p : Prop} [Decidable p] (h : ¬ p) : lcJ x (some (!decide p)) e = (x.evO e).map fun y => [y] := by rw [decide_eq_false h]; rfl
theorem h_lcJe0 {T : Tbl} {W : Wd T} {x : XP W} {e} {p : Prop} [Decidable p] (h : p) : lcJ x (some (!decide p)) e = some [] := by rw [decide_eq_true h]; rfl
theorem h_callO1 {T : Tbl} {φ : Sem} {n c ns xs ds} : callO1 T φ n (.ins c ns xs :: ds) = resE (T.res c "__call__") fun nm => if ds.length + 1 = n then φ nm (.ins c ns xs :: ds) none else .no := by show (match T.res c "__call__" with | some nm => _ | none => _) = _; cases T.res c "__call__" <;> rfl
theorem h_meth1 {T : Tbl} {φ : Sem} {m n c ns xs ds} : meth1 T φ m n (.ins c ns xs :: ds) = resE (T.res c m) fun nm => if pos m ns = none /\ ds.length + 1 = n then φ nm (.ins c ns xs :: ds) none else .no := by show (match T.res c m with | some nm => _ | none => _) = _; cases T.res c m <;> rfl
theorem h_meth2 {T : Tbl} {φ : Sem} {m n c ns xs ds} : meth2 T φ m n (.oins c ns xs :: ds) = resE (T.res c m) fun nm => if pos m ns = none /\ ds.length + 1 = n then φ nm (.oins c ns xs :: ds) (some 0) else .no := by show (match T.res c m with | some nm => _ | none => _) = _; cases T.res c m <;> rfl
theorem h_resE {nm f} : resE (some nm) f = f nm := nr rfl
theorem h_resEn {f} : resE none f = .no := nr rfl
theorem h_posn {m : String} : pos m [] = none := nr rfl
theorem h_posc {m n : String} {ns} : pos m (n :: ns) = if n = m then some 0 else (pos m ns).map (· + 1) := nr rfl
theorem h_eMmeth {T : Tbl} {W : Wd T} {φ : Sem} {m n} {p : XPl W} {as : XA W} {P env} : (xmMeth φ m n p as).ev P env = methM T φ m n p.root (p.ev env) (as.evF env) env := nr rfl
theorem h_methM1 {T : Tbl} {φ : Sem} {m n i st c ns xs ds env} : methM T φ m n i (some (st, .oins c ns xs)) (some ds) env = rm1 (meth2 T φ m n (.oins c ns xs :: ds)) (getS env i) i st env := nr rfl
theorem h_methM0 {T : Tbl} {φ : Sem} {m n i st c ns xs ds env} : methM T φ m n i (some (st, .ins c ns xs)) (some ds) env = rm0 (meth1 T φ m n (.ins c ns xs :: ds)) env := nr rfl
theorem h_rm0o {d b e} : rm0 (.ok d b) e = .ok d e := nr rfl
theorem h_rm0x {x b e} : rm0 (.exn x b) e = .exn x e := nr rfl
theorem h_rm0n {e} : rm0 .no e = .no := nr rfl
theorem h_rm1o {d n d0 i st e} : rm1 (.ok d (some n)) (some d0) i st e = .ok d (e.set i (some (d0.putAt st n))) := nr rfl
theorem h_rm1x {x n d0 i st e} : rm1 (.exn x (some n)) (some d0) i st e = .exn x (e.set i (some (d0.putAt st n))) := nr rfl
theorem h_putc {d : D} {s st n} : D.putAt d (s :: st) n = putE d s st n (d.sub s) := by show (match d.sub s with | some x => _ | none => _) = _; cases d.sub s <;> rfl
theorem h_putE {d : D} {s st n x} : putE d s st n (some x) = d.put s (x.putAt st n) := nr rfl
theorem h_subF {c ns xs f} : D.sub (.oins c ns xs) (.fld f) = (pos f ns).bind fun j => xs[j]? := nr rfl
theorem h_subI {xs k} : D.sub (.olst xs) (.idx k) = xs[k]? := nr rfl
theorem h_putF {c ns xs f y} : D.put (.oins c ns xs) (.fld f) y = .oins c ns (setO xs (pos f ns) y) := by show (match pos f ns with | some j => _ | none => _) = _; cases pos f ns <;> rfl
theorem h_putI {xs k y} : D.put (.olst xs) (.idx k) y = .olst (xs.set k y) := nr rfl
theorem h_setOs {xs : List D} {j y} : setO xs (some j) y = xs.set j y := nr rfl
theorem h_eSfld {T : Tbl} {W : Wd T} {p : XPl W} {f} {m : XM W} {P env} : (xsFld p f m).ev P env = (m.ev P env).thenS (fldK T p f) := nr rfl
theorem h_fldK {T : Tbl} {W : Wd T} {p : XPl W} {f d e} : fldK T p f d e = RS.ofO ((p.ev e).bind fun q => (setFD T f q.2 [d]).bind fun z => (getS e p.root).map fun d0 => e.set p.root (some (d0.putAt q.1 z.1))) := nr rfl
theorem h_setFD {T : Tbl} {f c ns xs d} : setFD T f (.oins c ns xs) [d] = if T.fOk c f = true /\ ns.length < 1000 then some (.oins c (setF f d ns xs).1 (setF f d ns xs).2, .non) else none := nr rfl
theorem h_setFn {f d} : setF f d [] [] = ([f], [d]) := nr rfl
theorem h_setFc {f d n ns x xs} : setF f d (n :: ns) (x :: xs) = if n = f then (n :: ns, d :: xs) else ((n :: (setF f d ns xs).1), x :: (setF f d ns xs).2) := nr rfl
theorem h_eMake {T : Tbl} {W : Wd T} {φ : Sem} {c ini n} {as : XA W} {dds dvs hd env} : (xMake φ c ini n as dds dvs hd).ev env = makeE φ c ini n dds (as.evF env) (as.evV env) := nr rfl
theorem h_makeF {φ : Sem} {c ini n dds ds v} : makeE φ c ini n dds (some ds) v = (mk1 φ c ini n (ds ++ dds)).map (Prod.mk .fr) := nr rfl
theorem h_makeV {φ : Sem} {c ini n dds ds} : makeE φ c ini n dds none (some ds) = (mk1 φ c ini n (ds ++ dds)).map fun d => (.vw, fz d) := nr rfl
theorem h_mk1 {φ : Sem} {c ini n ds} : mk1 φ c ini n ds = if ds.length + 1 = n then mkR (φ ini (.oins c [] [] :: ds) (some 0)) else none := nr rfl
theorem h_mkR {d} : mkR (.ok .non (some d)) = some d := nr rfl
theorem h_eProp {T : Tbl} {W : Wd T} {φ : Sem} {m} {a : XP W} {env} : (xProp φ m a).ev env = propE T φ m (a.evF env) (a.evV env) := nr rfl
theorem h_propF {T : Tbl} {φ : Sem} {m d v} : propE T φ m (some d) v = (prop1 T φ m d).toF := nr rfl
theorem h_propV {T : Tbl} {φ : Sem} {m d} : propE T φ m none (some d) = (prop1 T φ m d).toV := nr rfl
theorem h_prop1 {T : Tbl} {φ : Sem} {m c ns xs} : prop1 T φ m (.ins c ns xs) = resE (T.res c m) fun nm => φ nm [.ins c ns xs] none := by show (match T.res c m with | some nm => _ | none => _) = _; cases T.res c m <;> rfl
theorem h_eLenU {T : Tbl} {W : Wd T} {φ : Sem} {as : XA W} {env} : (xLenU φ as).ev env = (as.evV env).bind fun ds => (lenI1 T φ ds).map (Prod.mk .fr) := nr rfl
theorem h_lenI_lst {T : Tbl} {φ : Sem} {xs} : lenI1 T φ [.lst xs] = lenD [.lst xs] := nr rfl
theorem h_lenI_tup {T : Tbl} {φ : Sem} {xs} : lenI1 T φ [.tup xs] = lenD [.tup xs] := nr rfl
theorem h_lenI_scr {T : Tbl} {φ : Sem} {xs} : lenI1 T φ [.scr xs] = lenD [.scr xs] := nr rfl
theorem h_lenI_ins {T : Tbl} {φ : Sem} {c ns xs} : lenI1 T φ [.ins c ns xs] = lenQ (T.res c "__len__") fun nm => lenR (φ nm [.ins c ns xs] none) := by show (match T.res c "__len__" with | some nm => _ | none => _) = _; cases T.res c "__len__" <;> rfl
theorem h_lenQ {nm f} : lenQ (some nm) f = f nm := nr rfl
theorem h_lenR {i b} : lenR (.ok (.int i) b) = if 0 <= i /\ i <= 1000000 then some (.int i) else none := nr rfl
theorem h_eSl {T : Tbl} {W : Wd T} {a : XP W} {lo hi env} : (xSl a lo hi).ev env = slE (a.evK env) (evI lo env) (evI hi env) := nr rfl
theorem h_slE {d l u} : slE (some d) (some l) (some u) = (seqOf d).bind fun p => if p.1 = false then some (.fr, .olst (cutL p.2 l u)) else none := nr rfl
theorem h_evI0 {T : Tbl} {W : Wd T} {env} : evI (W := W) none env = some none := nr rfl
theorem h_evI1 {T : Tbl} {W : Wd T} {p : XP W} {env} : evI (some p) env = (p.evV env).bind intO := nr rfl
theorem h_intO {i} : intO (.int i) = some (some i) := nr rfl
theorem h_eMs0 {T : Tbl} {W : Wd T} {P env} : (xmsNil W).ev P env = .ok [] env := nr rfl
theorem h_eMs1 {T : Tbl} {W : Wd T} {m : XM W} {ms : XMs W} {P env} : (xmsCons m ms).ev P env = (m.ev P env).thenL (consK ms P) := nr rfl
theorem h_RMthenL_ok {d e f} : RM.thenL (.ok d e) f = f d e := nr rfl
theorem h_RLthenL_ok {d e f} : RL.thenL (.ok d e) f = f d e := nr rfl
theorem h_RLthenM_ok {d e f} : RL.thenM (.ok d e) f = f d e := nr rfl
theorem h_RMthenM_ok {d e f} : RM.thenM (.ok d e) f = f d e := nr rfl
theorem h_RTthen_ok {d e f} : RT.then (.ok d e) f = f d e := nr rfl
theorem h_RTthenS_ok {d e f} : RT.thenS (.ok d e) f = f d e := nr rfl
theorem h_RMthenL_exn {x e f} : RM.thenL (.exn x e) f = .exn x e := nr rfl
theorem h_RLthenL_exn {x e f} : RL.thenL (.exn x e) f = .exn x e := nr rfl
theorem h_RLthenM_exn {x e f} : RL.thenM (.exn x e) f = .exn x e := nr rfl
theorem h_RMthenM_exn {x e f} : RM.thenM (.exn x e) f = .exn x e := nr rfl
theorem h_RTthen_exn {x e f} : RT.then (.exn x e) f = .exn x e := nr rfl
theorem h_RTthenS_exn {x e f} : RT.thenS (.exn x e) f = .ex x e := nr rfl
theorem h_consK {T : Tbl} {W : Wd T} {ms : XMs W} {P d e} : consK ms P d e = (ms.ev P e).thenL (consL (fz d)) := nr rfl
theorem h_consL {d ds e} : consL d ds e = .ok (d :: ds) e := nr rfl
theorem h_RTof {b e} : RT.of (some b) e = .ok b e := nr rfl
theorem h_eListU {T : Tbl} {W : Wd T} {φ : Sem} {a : XP W} {env} : (xListU φ a).ev env = (a.evK env).bind (lstE T φ) := nr rfl
theorem h_lstE_lst {T : Tbl} {φ : Sem} {xs} : lstE T φ (.lst xs) = some (.fr, .olst xs) := nr rfl
theorem h_lstE_tup {T : Tbl} {φ : Sem} {xs} : lstE T φ (.tup xs) = some (.fr, .olst xs) := nr rfl
theorem h_lstE_scr {T : Tbl} {φ : Sem} {ns} : lstE T φ (.scr ns) = some (.fr, .olst (ns.map .int)) := nr rfl
theorem h_lstE_olst {T : Tbl} {φ : Sem} {xs} : lstE T φ (.olst xs) = if xs.all isSh = true then some (.fr, .olst xs) else none := by by_cases h : xs.all isSh = true <;> simp only [lstE, seqOf, itOf, h, if_true, if_false, Option.bind_none, Bool.false_eq_true]
theorem h_lstE_ins {T : Tbl} {φ : Sem} {c ns xs} : lstE T φ (.ins c ns xs) = itQ (itOf T (.ins c ns xs)) fun zs => (lenI1 T φ [.ins c ns xs]).bind fun _ => if zs.length <= 1000000 then some (.fr, .olst zs) else none := by unfold lstE; show (itOf T (.ins c ns xs)).bind _ = _; rw [fz_isSh rfl]; cases itOf T (.ins c ns xs) <;> rfl
theorem h_itQ {zs f} : itQ (some zs) f = f zs := nr rfl
theorem h_it_ins {T : Tbl} {c ns xs} : itOf T (.ins c ns xs) = (T.it c).bind fun f => (pos f ns).bind fun j => (xs[j]?).bind lstOf := nr rfl
theorem h_lo_lst {xs} : lstOf (.lst xs) = some xs := nr rfl
theorem h_lo_olst {xs} : lstOf (.olst xs) = if xs.all isSh = true then some xs else none := nr rfl
theorem h_eiSeqUF {T : Tbl} {W : Wd T} {a : XP W} {env} : (xiSeqU a).evF env = (a.evF env).bind (seqFI T) := nr rfl
theorem h_eiSeqUP {T : Tbl} {W : Wd T} {a : XP W} {env} : (xiSeqU a).evP env = (a.evK env).bind (seqKI T) := nr rfl
theorem h_seqFI_lst {T : Tbl} {xs} : seqFI T (.lst xs) = some xs := nr rfl
theorem h_seqFI_tup {T : Tbl} {xs} : seqFI T (.tup xs) = some xs := nr rfl
theorem h_seqFI_scr {T : Tbl} {ns} : seqFI T (.scr ns) = some (ns.map .int) := nr rfl
theorem h_seqFI_ins {T : Tbl} {c ns xs} : seqFI T (.ins c ns xs) = itOf T (.ins c ns xs) := nr rfl
theorem h_seqKI_lst {T : Tbl} {xs} : seqKI T (.lst xs) = some xs := nr rfl
theorem h_seqKI_tup {T : Tbl} {xs} : seqKI T (.tup xs) = some xs := nr rfl
theorem h_seqKI_scr {T : Tbl} {ns} : seqKI T (.scr ns) = some (ns.map .int) := nr rfl
theorem h_seqKI_ins {T : Tbl} {c ns xs} : seqKI T (.ins c ns xs) = itOf T (.ins c ns xs) := nr rfl
theorem h_seqKI_olst {T : Tbl} {xs} : seqKI T (.olst xs) = if xs.all isSh = true then some xs else none := by by_cases h : xs.all isSh = true <;> simp only [seqKI, seqOf, itOf, h, if_true, if_false, Bool.false_eq_true]
theorem h_ixD_ins {c ns xs i} : ixD (.ins c ns xs) (.int i) = none := nr rfl
theorem h_okD_ins {n c ns xs} : okD n (.ins c ns xs) = false := by cases n <;> simp [okD]
theorem h_eqD_ins {c ns xs y} : eqD (.ins c ns xs) y = none := by show (if okD 60 (.ins c ns xs) = true /\ okD 60 y = true then _ else _) = _; rw [if_neg (fun z => nomatch z.1)]
theorem h_addD_ins {c ns xs y} : addD (.ins c ns xs) y = none := nr rfl
theorem h_addD_oins {c ns xs y} : addD (.oins c ns xs) y = none := nr rfl
theorem h_ownE {T : Tbl} {φ : Sem} {m ok c ns xs y} : ownE T φ m ok (.ins c ns xs) y = if ok c y = true then some (meth1 T φ m 2 [.ins c ns xs, y]) else none := nr rfl
theorem h_okSame {c c' ns xs} : okSame c (.ins c' ns xs) = decide (c' = c) := nr rfl
theorem h_eMakeN {T : Tbl} {W : Wd T} {φ c ini n m N bs dd hd} {as ks : XA W} {env} : (xMakeN φ c ini n m N bs dd hd as ks).ev env = makeNE φ c ini n m N bs dd (as.evF env) (ks.evF env) (as.evV env) (ks.evV env) := nr rfl
theorem h_makeNE_F {φ c ini n m N bs dd ds zs v w} : makeNE φ c ini n m N bs dd (some ds) (some zs) v w = (mkN φ c ini n m N bs dd ds zs).map (Prod.mk .fr) := nr rfl
theorem h_makeNE_V {φ c ini n m N bs dd g ds zs} : makeNE φ c ini n m N bs dd none g (some ds) (some zs) = (mkN φ c ini n m N bs dd ds zs).map fun d => (.vw, fz d) := nr rfl
theorem h_makeNE_W {φ c ini n m N bs dd f ds zs} : makeNE φ c ini n m N bs dd (some f) none (some ds) (some zs) = (mkN φ c ini n m N bs dd ds zs).map fun d => (.vw, fz d) := nr rfl
theorem h_mkN {φ c ini n m N bs dd ds zs} : mkN φ c ini n m N bs dd ds zs = if ds.length = n /\ zs.length = m then mk1 φ c ini N (ds ++ mgM bs dd zs) else none := nr rfl
theorem h_mgM_t {bs m} {ms ws : List D} : mgM (true :: bs) (m :: ms) ws = m :: mgM bs ms ws := nr rfl
theorem h_mgM_f {bs w} {ms ws : List D} : mgM (false :: bs) ms (w :: ws) = w :: mgM bs ms ws := by cases ms <;> rfl
theorem h_mgM_n {ms ws : List D} : mgM [] ms ws = [] := by cases ms <;> rfl
theorem h_eDnew {T : Tbl} {W : Wd T} {env} : (xDnew W).ev env = some (.fr, .odic [] []) := nr rfl
theorem h_eDget2 {T : Tbl} {W : Wd T} {a b c : XP W} {env} : (xDget2 a b c).ev env = (a.ev env).bind fun p => (dicOf p.2).bind fun q => (b.evV env).bind fun y => (c.ev env).bind fun z => getE q.1 q.2 p.1 y z := nr rfl
theorem h_getE_non {ks xs p z} : getE ks xs p .non z = some z := nr rfl
theorem h_getE_int {ks xs p i z} : getE ks xs p (.int i) z = some (getM p z (dg ks xs (.inl i))) := by simp only [getE, keyD, Option.map_some]; cases dg ks xs (Sum.inl i) <;> rfl
theorem h_getE_str {ks xs p x z} : getE ks xs p (.str x) z = some (getM p z (dg ks xs (.inr (so x)))) := by simp only [getE, keyD, Option.map_some]; cases dg ks xs (Sum.inr (so x)) <;> rfl
theorem h_getM_s {p : Kd} {z x} : getM p z (some x) = p.of x := nr rfl
theorem h_getM_n {p : Kd} {z} : getM p z none = z := nr rfl
theorem h_eDix {T : Tbl} {W : Wd T} {a b : XP W} {env} : (xDix a b).ev env = (a.ev env).bind fun p => (dicOf p.2).bind fun q => (b.evV env).bind fun y => dgE q.1 q.2 p.1 y := nr rfl
theorem h_dgE_int {ks xs p i} : dgE ks xs p (.int i) = (dg ks xs (.inl i)).map p.of := nr rfl
theorem h_dgE_str {ks xs p x} : dgE ks xs p (.str x) = (dg ks xs (.inr (so x))).map p.of := nr rfl
theorem h_inK_non {neg ks} : inK neg ks .non = some (.bl neg) := nr rfl
theorem h_inK_int {neg ks i} : inK neg ks (.int i) = some (.bl (if neg = true then !hasK ks (.inl i) else hasK ks (.inl i))) := nr rfl
theorem h_inK_str {neg ks x} : inK neg ks (.str x) = some (.bl (if neg = true then !hasK ks (.inr (so x)) else hasK ks (.inr (so x)))) := nr rfl
theorem h_eDict {T : Tbl} {W : Wd T} {a : XP W} {env} : (xDict a).ev env = (a.evK env).bind fun d => (dicF d).map fun q => (.fr, .odic q.1 q.2) := nr rfl
theorem h_dicOf_d {ks xs} : dicOf (.dic ks xs) = some (ks, xs) := nr rfl
theorem h_dicOf_o {ks xs} : dicOf (.odic ks xs) = some (ks, xs) := nr rfl
theorem h_dicF_d {ks xs} : dicF (.dic ks xs) = some (ks, xs) := nr rfl
theorem h_dicF_o {ks xs} : dicF (.odic ks xs) = if xs.all isSh = true then some (ks, xs) else none := nr rfl
theorem h_eDput {T : Tbl} {W : Wd T} {p : XPl W} {k : XP W} {m : XM W} {P env} : (xsDput p k m).ev P env = (m.ev P env).thenS (dputK p k) := nr rfl
theorem h_dputK {T : Tbl} {W : Wd T} {p : XPl W} {k : XP W} {d e} : dputK p k d e = RS.ofO ((p.ev e).bind fun q => (k.evF e).bind fun i => (dputD q.2 [i, d]).bind fun z => (getS e p.root).map fun d0 => e.set p.root (some (d0.putAt q.1 z.1))) := nr rfl
theorem h_dputI {ks xs i d} : dputD (.odic ks xs) [.int i, d] = if xs.length < 1000000 then (putP ks xs (.inl i) d).map fun q => (.odic q.1 q.2, .non) else none := nr rfl
theorem h_dputS {ks xs x d} : dputD (.odic ks xs) [.str x, d] = if xs.length < 1000000 then (putP ks xs (.inr (so x)) d).map fun q => (.odic q.1 q.2, .non) else none := nr rfl
theorem h_eForD {T : Tbl} {W : Wd T} {i} {g : XG W} {b : XS W} {P env} : (xsForD i g b).ev P env = lockR (isDic (getS env i)) (forE (forK g b P) (dsK (getS env i)) env) := by show (match isDic (getS env i) with | true => noEx ((xsFor (xiKeysL i) g b).ev P env) | false => RS.no) = _; rw [e_xsFor]; cases isDic (getS env i) <;> rfl
theorem h_itemD0 {x xs} : itemD (some (.tup (x :: xs))) 0 = some x := nr rfl
theorem h_itemD1 {x y xs} : itemD (some (.tup (x :: y :: xs))) 1 = some y := nr rfl
theorem h_lockR {r} : lockR true r = noEx r := nr rfl
theorem h_noEx_nx {e} : noEx (.nx e) = .nx e := nr rfl
theorem h_noEx_rt {d e} : noEx (.rt d e) = .rt d e := nr rfl
theorem h_isDic {ks xs} : isDic (some (.dic ks xs)) = true := nr rfl
theorem h_dsK {ks xs} : dsK (some (.dic ks xs)) = kDs ks := nr rfl
theorem h_eDc {T : Tbl} {W : Wd T} {it : XI W} {g : XG W} {c : XT W} {k x : XP W} {env} : (xDc it g c k x).ev env = (it.evP env).bind fun ds => if ds.length < 1000000 then (dcL (dc1 g c k x (wipeE env g.own)) ds ([], [])).map fun q => (.fr, .odic q.1 q.2) else none := nr rfl
theorem h_eDcD {T : Tbl} {W : Wd T} {i} {g : XG W} {c : XT W} {k x : XP W} {env} : (xDcD i g c k x).ev env = guardB (isDic (getS env i)) (frE ((dsK (getS env i)).bind fun ds => if ds.length < 1000000 then (dcL (dc1 g c k x (wipeE env g.own)) ds ([], [])).map fun q => (.fr, .odic q.1 q.2) else none)) := by rfl
theorem h_frE_s {d} : frE (some (.fr, d)) = some (.fr, d) := nr rfl
theorem h_frE_n  : frE none = none := nr rfl
theorem h_guardB_t {α : Type} {x : Option α} : guardB true x = x := nr rfl
theorem h_dc1 {T : Tbl} {W : Wd T} {g : XG W} {c : XT W} {k x : XP W} {env d} : dc1 g c k x env d = dcK c k x (g.ev [] d env) := nr rfl
theorem h_dcK {T : Tbl} {W : Wd T} {c : XT W} {k x : XP W} {e} : dcK c k x (some e) = dcJ k x (c.ev e) e := nr rfl
theorem h_dcJ1 {T : Tbl} {W : Wd T} {k x : XP W} {e} : dcJ k x (some true) e = ((k.evF e).bind keyD).bind fun y => (x.evF e).map fun z => some (y, z) := nr rfl
theorem h_dcJ0 {T : Tbl} {W : Wd T} {k x : XP W} {e} : dcJ k x (some false) e = some none := nr rfl
theorem h_keyD_i {i} : keyD (.int i) = some (.inl i) := nr rfl
theorem h_keyD_s {x} : keyD (.str x) = some (.inr (so x)) := nr rfl
theorem h_kDs_n  : kDs [] = some [] := nr rfl
theorem h_kDs_c {i ks} : kDs (.inl i :: ks) = (kDs ks).map (.int i :: ·) := nr rfl
theorem h_dcL_n {f acc} : dcL f [] acc = some acc := nr rfl
theorem h_putP_n {k y} : putP [] [] k y = some ([k], [y]) := nr rfl
theorem h_eRaise {T : Tbl} {W : Wd T} {c fs} {as : XA W} {P env} : (xsRaise c fs as).ev P env = exOf c fs (as.evF env) env := nr rfl
theorem h_exOf {c fs ds env} : exOf c fs (some ds) env = if ds.length = fs.length then .ex ⟨c, fs.zip ds⟩ env else .no := nr rfl
theorem h_exOfn {c fs env} : exOf c fs none env = .no := nr rfl
theorem h_eTryAs {T : Tbl} {W : Wd T} {i c} {b : XS W} {s : XH W i} {P env} : (xsTryAs i c b s).ev P env = tryK T i c s P (b.ev P env) := nr rfl
theorem h_tryK_nx {T : Tbl} {W : Wd T} {i c} {s : XH W i} {P e} : tryK T i c s P (.nx e) = .nx e := nr rfl
theorem h_tryK_rt {T : Tbl} {W : Wd T} {i c} {s : XH W i} {P d e} : tryK T i c s P (.rt d e) = .rt d e := nr rfl
theorem h_tryK_bk {T : Tbl} {W : Wd T} {i c} {s : XH W i} {P e} : tryK T i c s P (.bk e) = .bk e := nr rfl
theorem h_tryK_ct {T : Tbl} {W : Wd T} {i c} {s : XH W i} {P e} : tryK T i c s P (.ct e) = .ct e := nr rfl
theorem h_tryK_no {T : Tbl} {W : Wd T} {i c} {s : XH W i} {P} : tryK T i c s P .no = .no := nr rfl
theorem h_tryK_ex {T : Tbl} {W : Wd T} {i c} {s : XH W i} {P n fs e} : tryK T i c s P (.ex ⟨n, fs⟩ e) = tryJ (T.xsub n c) ⟨n, fs⟩ i s P e := by show (if T.xsub n c = true then _ else _) = _; cases T.xsub n c <;> rfl
theorem h_tryJ1 {T : Tbl} {W : Wd T} {i} {s : XH W i} {x P e} : tryJ true x i s P e = if i ∈ P \/ e.length <= i then .no else (s.ev x P (e.set i none)).clr i := nr rfl
theorem h_tryJ0 {T : Tbl} {W : Wd T} {i} {s : XH W i} {x P e} : tryJ false x i s P e = .ex x e := nr rfl
theorem h_clr_nx {i e} : RS.clr i (.nx e) = .nx (e.set i none) := nr rfl
theorem h_clr_rt {i d e} : RS.clr i (.rt d e) = .rt d e := nr rfl
theorem h_clr_bk {i e} : RS.clr i (.bk e) = .bk (e.set i none) := nr rfl
theorem h_clr_ct {i e} : RS.clr i (.ct e) = .ct (e.set i none) := nr rfl
theorem h_clr_no {i} : RS.clr i .no = .no := nr rfl
theorem h_ehAsg {T : Tbl} {W : Wd T} {i j} {m : XQ W i} {x P env} : (xhAsg j m).ev x P env = xhAsgK P j env (m.evO x env) := nr rfl
theorem h_hAsgK {P j env d} : xhAsgK P j env (some d) = RS.ofO (setS P j d env) := nr rfl
theorem h_hAsgKn {P j env} : xhAsgK P j env none = .no := nr rfl
theorem h_qevO {T : Tbl} {W : Wd T} {i} {m : XQ W i} {x env} : m.evO x env = toO (m.ev x env) := nr rfl
theorem h_qevB {T : Tbl} {W : Wd T} {i} {m : XQ W i} {x env} : m.evB x env = (toV (m.ev x env)).bind blD := nr rfl
theorem h_qevF {T : Tbl} {W : Wd T} {i} {m : XQ W i} {x env} : m.evF x env = toQ (m.ev x env) := nr rfl
theorem h_toQf {d} : toQ (some (.fr, d)) = if isSh d = true then some d else none := nr rfl
theorem h_toQp {d} : toQ (some (.pl, d)) = if isSh d = true then some d else none := nr rfl
theorem h_toQv {d} : toQ (some (.vw, d)) = if isFlat d = true then some d else none := nr rfl
theorem h_toQn  : toQ none = none := nr rfl
theorem h_eqP {T : Tbl} {W : Wd T} {i} {p : XP W} {x env} : (xqP (i := i) p).ev x env = p.ev env := nr rfl
theorem h_eqFld {T : Tbl} {W : Wd T} {i c f n fs env} : (xqFld W i c f).ev ⟨n, fs⟩ env = if n = c then (fs.lookup f).map (Prod.mk .fr) else none := nr rfl
theorem h_eqLst {T : Tbl} {W : Wd T} {i} {n : XQs W i} {x env} : (xqLst n).ev x env = (n.ev x env).bind fun ds => if ds.length <= 1000000 then some (.fr, .olst ds) else none := nr rfl
theorem h_eqs0 {T : Tbl} {W : Wd T} {i x env} : (xqsNil W i).ev x env = some [] := nr rfl
theorem h_eqs1 {T : Tbl} {W : Wd T} {i} {m : XQ W i} {n : XQs W i} {x env} : (xqsCons m n).ev x env = (m.evF x env).bind fun y => (n.ev x env).map (y :: ·) := nr rfl
theorem h_eCallOM {T : Tbl} {W : Wd T} {φ : Sem} {n} {a : XP W} {as : XA W} {P env} : (xmCallO φ n a as).ev P env = callOM T φ n (a.evF env) (as.evF env) env := nr rfl
theorem h_callOMs {T : Tbl} {φ : Sem} {n d ds env} : callOM T φ n (some d) (some ds) env = rm0 (callO1 T φ n (d :: ds)) env := nr rfl
theorem h_runR_ex {b x env} : runR b (.ex x env) = retX (bGet b env) x := by cases hb : bGet b env <;> simp [runR, retX, hb]
theorem h_retX {o x} : retX (some o) x = .exn x o := nr rfl
theorem h_thenY1 {ys e f} : (RY.nx ys e).then f = f ys e := nr rfl
theorem h_thenY2 {ys e f} : (RY.ct ys e).then f = .ct ys e := nr rfl
theorem h_thenY3 {ys e f} : (RY.bk ys e).then f = .bk ys e := nr rfl
theorem h_look1 {k : String} {d : D} {r} : List.lookup k ((k, d) :: r) = some d := by simp
theorem h_look2 {k f : String} {d : D} {r} (h : ¬ f = k) : List.lookup f ((k, d) :: r) = List.lookup f r := by rw [List.lookup_cons, beq_eq_false_iff_ne.mpr h]
end Py
namespace Py
open PySem L2
section
variable {T : Tbl} {W : Wd T} {env : Py.Env}
def xpLock2 (i j : Nat) (x : XP W) (t : TE) (ht : ∀ σ H Q, Lk2 i j σ H -> x.t σ H Q -> t σ H Q) : XP W where
  t := fun σ H Q => tLockE t σ H Q \/ t σ H Q
  ev env := guardB (isDic (itemD (getS env i) j)) (match x.ev env with
    | some (.fr, d) => some (.fr, d)
    | _ => none)
  snd := fun {env k d} e => by
    obtain ⟨h1, e⟩ := guardB_some e
    obtain ⟨ks, xs, e1⟩ := isDic_ok h1
    match e2 : x.ev env, e with
    | some (.fr, d'), e =>
      cases e
      intro e' F σ H L Q r q
      obtain ⟨xs0, e02, e04⟩ := itemD_ok e1
      obtain ⟨v, M, e3, o, _⟩ := slot_get r (getS_some e02)
      have sh0 := o.shr rfl
      cases sh0 with
      | @tup p _ us hp hs0 =>
      obtain ⟨u0, hu0, sh⟩ := hs0.get e04
      have hHp := r.sF _ _ hp
      cases sh with
      | @dic a _ _ vs hd hl hn hs =>
        rcases hd with hd | ⟨od', hd⟩
        · refine .inl ⟨a, _, r.sF _ _ hd, trivial, fun od => ht _ _ _ ⟨p, _, a, od, _, e3, by rw [upd_ne (fun z => by rw [z, hd] at hp; cases hp)]; exact hHp, hu0, upd_same⟩ (x.snd e2 _ _ σ _ L _ (r.lock (od := od) hd) fun v F' H' x1 ⟨M, o, nd, kk⟩ => ?_)⟩
          have hF' : F' a = some (.frz od (.dK (ks.zip vs))) := x1.f _ _ upd_same
          have hH' := x1.s _ _ hF'
          have na : ∀ b ∈ M, b ≠ a := fun b m z => by have := (kk b m).2; rw [z, hF'] at this; cases this
          refine ⟨hH', q v (upd F' a (.dK (ks.zip vs))) _ ⟨fun b o q => ?_, fun b o q => ?_, fun b o q => ?_, fun b o q => ?_⟩ ⟨M, o.lock (sameL_unlock hF') fun b m o q => by rw [upd_ne (na b m)]; exact q, nd, fun b m => ⟨?_, by rw [upd_ne (na b m)]; exact (kk b m).2⟩⟩⟩
          · by_cases z : b = a
            · subst z; rw [hd] at q; cases q; exact upd_same
            · rw [upd_ne z]; exact x1.f _ _ (by rw [upd_ne z]; exact q)
          · by_cases z : b = a
            · subst z; rw [upd_same] at q ⊢; exact q
            · rw [upd_ne z] at q ⊢; exact x1.s _ _ q
          · by_cases z : b = a
            · subst z; rw [r.sF _ _ hd] at q; cases q; exact upd_same
            · rw [upd_ne z]; exact x1.h _ _ (by rw [upd_ne z]; exact q)
          · by_cases z : b = a
            · subst z; rw [upd_same] at q; cases q; exact .inl hd
            · rw [upd_ne z] at q
              rcases x1.n b o q with y | y
              · rw [upd_ne z] at y; exact .inl y
              · rw [upd_ne z] at y; exact .inr y
          · have := (kk b m).1
            rw [upd_ne (na b m)] at this
            exact this
        · exact .inr (ht _ _ _ ⟨p, _, a, od', _, e3, hHp, hu0, r.sF _ _ hd⟩ (x.snd e2 e' F σ H L Q r q))
def xLcI (i j : Nat) (g : XG W) (c : XT W) (x : XP W) : XP W := xpLock2 i j (xLc (xiKeysI i j) g c x) (tLc (iKeys (tIxV W i j)) g.t c.t x.t g.own) (fun _ _ _ h q => q h)
theorem e_xLcI {i j : Nat} {g : XG W} {c : XT W} {x : XP W} {env : Py.Env} : (xLcI i j g c x).ev env = guardB (isDic (itemD (getS env i) j)) (frE ((dsK (itemD (getS env i) j)).bind fun ds => if ds.length < 1000000 then (lcL (lc1 g c x (wipeE env g.own)) ds).map fun ys => (.fr, .olst ys) else none)) := rfl
end
end Py
namespace Py
open PySem L2
section
variable {T : Tbl} {W : Wd T} {env : Py.Env} {P : List Nat} {E : WX}
end
end Py
namespace Py
open PySem L2
section
variable {T : Tbl} {W : Wd T}
end
end Py
namespace Py
open PySem L2
section
variable {T : Tbl} {W : Wd T}
end
end Py
namespace Py
open PySem L2
section
variable {X : Cx} {T : Tbl} {W : Wd T} {E : WX}
end
end Py
namespace Py
open PySem L2
section
variable {T : Tbl} {W : Wd T} {env : Py.Env} {P : List Nat} {E : WX}
end
end Py
namespace Py
open PySem L2
section
variable {T : Tbl} {W : Wd T} {env : Py.Env} {P : List Nat} {E : WX}
end
end Py
namespace Py
open PySem L2
section
variable {T : Tbl} {W : Wd T} {env : Py.Env} {ds : List D}
structure Acc2 {T : Tbl} (W : Wd T) (F H F1 H1 : Hp) (Dl : Addr) (acc : List D) (F' H' : Hp) : Prop where
  x : Ext F H F' H'
  s1 : Same F1 F'
  s2 : Same H1 H'
  nl : F' Dl = none
  at_ : ∃ ws M, H' Dl = some (.lst ws) /\ Owns W F' H' acc ws M /\ (Dl :: M).Nodup /\ ∀ a ∈ M, H a = none /\ F' a = none
theorem Acc2.ext {F H F1 H1 F' H' F2 H2 : Hp} {Dl : Addr} {acc : List D} (c : Acc2 W F H F1 H1 Dl acc F' H') (x3 : Ext F' H' F2 H2) : Acc2 W F H F1 H1 Dl acc F2 H2 := by
  obtain ⟨ws, M, hl, os, nd, hM⟩ := c.at_
  have nn : ∀ a, (∃ o, H' a = some o) -> F' a = none -> F2 a = none := fun a ⟨o, ho⟩ hf => by
    cases z : F2 a with
    | none => rfl
    | some u =>
      rcases x3.n a u z with w | w
      · rw [hf] at w; cases w
      · rw [ho] at w; cases w
  exact ⟨c.x.trans x3, c.s1.trans x3.f, c.s2.trans x3.h, nn Dl ⟨_, hl⟩ c.nl, ws, M, x3.h _ _ hl, os.frame x3.f fun a _ o ho => x3.h _ _ ho, nd, fun a ha => ⟨(hM a ha).1, nn a (os.lives a ha) (hM a ha).2⟩⟩
theorem Acc2.push {F H F1 H1 F3 H3 F4 H4 : Hp} {Dl : Addr} {acc : List D} {y : D} {w : V} {My : List Addr} (c : Acc2 W F H F1 H1 Dl acc F3 H3) (x4 : Ext F3 H3 F4 H4) (hD : H1 Dl = none) (hH : H Dl = none) (oy : Own W F4 H4 y w My) (ndy : My.Nodup) (ky : ∀ a ∈ My, H3 a = none /\ F4 a = none) :
    ∃ ws, H4 Dl = some (.lst ws) /\ ws.length = acc.length /\ Acc2 W F H F1 H1 Dl (acc ++ [y]) F4 (upd H4 Dl (.lst (ws ++ [w]))) := by
  have c4 := c.ext x4
  obtain ⟨ws3, M3, hl3, os3, nd3, hM3⟩ := c.at_
  obtain ⟨ws, M, hl, os, nd, hM⟩ := c4.at_
  have e3 : ws = ws3 := by
    have := x4.h _ _ hl3
    rw [hl] at this
    cases this; rfl
  subst e3
  have nD : ∀ b ∈ My, b ≠ Dl := fun b hb z => by rw [<- z, (ky b hb).1] at hl3; cases hl3
  have os3' : Owns W F4 H4 acc ws M3 := os3.frame x4.f fun a _ o ho => x4.h _ _ ho
  refine ⟨ws, hl, os.length.symm, ⟨?_, c4.s1, fun b u hb => by rw [upd_ne (fun z => by rw [z, hD] at hb; cases hb)]; exact c4.s2 _ _ hb, c4.nl, ws ++ [w], M3 ++ My, upd_same, ?_, ?_, ?_⟩⟩
  · exact ⟨c4.x.f, fun b u hb => by rw [upd_ne (fun z => by rw [z, c4.nl] at hb; cases hb)]; exact c4.x.s _ _ hb, fun b u hb => by rw [upd_ne (fun z => by rw [z, hH] at hb; cases hb)]; exact c4.x.h _ _ hb, c4.x.n⟩
  · refine Owns.snoc (os3'.frame (Same.refl _) fun b hb u hu => ?_) (oy.frame (Same.refl _) fun b hb u hu => ?_)
    · rw [upd_ne (fun z => (List.nodup_cons.mp nd3).1 (by rw [<- z]; exact hb))]; exact hu
    · rw [upd_ne (nD b hb)]; exact hu
  · have fr : ∀ b ∈ My, b ∉ Dl :: M3 := fun b hb z => by
      have : ∃ o, H3 b = some o := by
        rcases List.mem_cons.mp z with z | z
        · exact ⟨_, by rw [z]; exact hl3⟩
        · exact os3.lives b z
      obtain ⟨o, ho⟩ := this
      rw [(ky b hb).1] at ho; cases ho
    have : ((Dl :: M3) ++ My).Nodup := by
      rw [List.nodup_append]
      exact ⟨nd3, ndy, fun b hb c hc z => fr c hc (by rw [<- z]; exact hb)⟩
    exact this
  · intro b hb
    rcases List.mem_append.mp hb with z | z
    · refine ⟨(hM3 b z).1, ?_⟩
      cases q : F4 b with
      | none => rfl
      | some u =>
        obtain ⟨o, ho⟩ := os3.lives b z
        rcases x4.n b u q with v | v
        · rw [(hM3 b z).2] at v; cases v
        · rw [ho] at v; cases v
    · exact ⟨c.x.h.free (ky b z).1, (ky b z).2⟩
end
end Py
namespace Py
open PySem PySem.Spec PyProof.Rows L2
structure ZAp (z TI TO i1 i2 : Addr) (f1 f2 : List Addr) : Prop where
  TIz : TI ≠ z
  TOz : TO ≠ z
  i1z : i1 ≠ z
  i2z : i2 ≠ z
  TITO : TI ≠ TO
  TIi1 : TI ≠ i1
  TIi2 : TI ≠ i2
  TOi1 : TO ≠ i1
  TOi2 : TO ≠ i2
  i12 : i1 ≠ i2
  zf1 : z ∉ f1
  TOf1 : TO ∉ f1
  i2f1 : i2 ∉ f1
  zf2 : z ∉ f2
  TOf2 : TO ∉ f2
  i1f2 : i1 ∉ f2
section
variable {prog : Program} {w : World} {A : Around} {E : Value -> Shared -> Prop} {s : Shared} {z TI TO i1 i2 : Addr} {f1 f2 : List Addr} {n1 n2 k1 k2 : Nat} {P1 P2 : Nat -> Value -> Prop} {S1 S2 : Nat -> Heap -> Prop} {a b : Value}
end
section
variable {prog : Program} {w : World} {A : Around} {E : Value -> Shared -> Prop} {s : Shared}
end
theorem ZAp.of {z TI TO i1 i2 a b : Addr} (D : ZipApart z TI TO i1 i2 a b) : ZAp z TI TO i1 i2 [i1, a] [i2, b] where
  TIz := D.TIz
  TOz := D.TOz
  i1z := D.i1z
  i2z := D.i2z
  TITO := D.TITO
  TIi1 := D.TIi1
  TIi2 := D.TIi2
  TOi1 := D.TOi1
  TOi2 := D.TOi2
  i12 := D.i12
  zf1 := by simp [D.i1z.symm, D.l1z.symm]
  TOf1 := by simp [D.TOi1, D.l1TO.symm]
  i2f1 := by simp [D.i12.symm, D.l1i2.symm]
  zf2 := by simp [D.i2z.symm, D.l2z.symm]
  TOf2 := by simp [D.TOi2, D.l2TO.symm]
  i1f2 := by simp [D.i12, D.l2i1.symm]
section
variable {T : Tbl} {W : Wd T} {env : Py.Env} {ta tb : TE} {ds es : List D}
end
end Py
namespace Py
open PySem L2
section
variable {T : Tbl} {W : Wd T} {X : Cx} {pins : List (Addr × Obj)} {σ : St} {H : Hp} {s : Shared}
end
section
variable {T : Tbl} {W : Wd T}
end
end Py
namespace Py
open PySem L2
section
variable {T : Tbl} {W : Wd T}
end
end Py
namespace L2
open PySem PySem.Spec PyProof.Rows
inductive HdsA (X : Cx) (n : Str) : List ExceptHandler -> List (Value × (Addr -> Value -> Option Addr -> TS)) -> Prop
  | nil : HdsA X n [] []
  | cons {x : Str} {c : Value} {ts : Addr -> Value -> Option Addr -> TS} {b₀ : Stmt} {suite : List Stmt} {np pos' : Pos} {hds : List ExceptHandler} {l : List (Value × (Addr -> Value -> Option Addr -> TS))} (hc : Names X x c)
      (hsu : ∀ (a : Addr) (oe : Obj) (cls : Value) (d : Option Addr) (pn : List (Addr × Obj)), Zc cls d oe -> (∃ vs, oe.data = .fields vs) -> PSs (X.suite a ((a, oe) :: pn)) (b₀ :: suite) (ts a cls d)) (r : HdsA X n hds l) :
      HdsA X n (.ExceptHandler (some (.Name x np)) (some n) (b₀ :: suite) pos' :: hds) ((c, ts) :: l)
section
variable {X : Cx} {n : Str} {i : Nat} {body : List Stmt} {h₀ : ExceptHandler} {hds : List ExceptHandler} {l : List (Value × (Addr -> Value -> Option Addr -> TS))} {pos : Pos} {tb : WX -> TS} {Wout : WX}
end
end L2
namespace Py
open PySem L2
section
variable {T : Tbl} {W : Wd T}
def rOwnX (W : Wd T) (φ : Sem) (m : String) (g : String -> V -> Hp -> Prop) (E : XK) : R2 := fun x y H Q => ∃ a c nm dx fs, x = .ref a /\ H a = some (.ins (W.cA c) dx fs) /\ W.has c /\ T.res c m = some nm /\ g c y H /\ spR W 2 (φ nm) none [x, y] H Q E
section
variable {X : Cx} {pins : List (Addr × Obj)} {σ : St} {H : Hp} {s : Shared}
end
def andOM (T : Tbl) (φ : Sem) (f g : Option D) (env : Py.Env) : RM := match f, g with
  | some x, some y => match ownE T φ "__and__" okSame x y with
    | some r => rm0 r env
    | none => .no
  | _, _ => .no
def xmAndR (φ : Sem) (a b : XP W) : XM W where
  t E := fun σ H Q => tOp (rOwnX W φ "__and__" (gSame W) (WE E σ)) a.t b.t σ H Q
  ev P env := andOM T φ (a.evF env) (b.evF env) env
  snd := fun P E env hn e F σ H L Q hP r c cx => by
    match e1 : a.evF env, e2 : b.evF env, hn, c, cx with
    | none, _, hn, _, _ => exact absurd rfl hn
    | some _, none, hn, _, _ => exact absurd rfl hn
    | some d0, some d1, hn, c, cx =>
      cases e3 : ownE T φ "__and__" okSame d0 d1 with
      | none => exact absurd (show andOM T φ (some d0) (some d1) env = .no by unfold andOM; simp only [e3]) hn
      | some rz =>
        have er : andOM T φ (some d0) (some d1) env = rm0 rz env := by unfold andOM; simp only [e3]
        rw [er] at hn
        have c : ∀ d env' v F' H' L' M, rm0 rz env = .ok d env' -> _ := fun d env' v F' H' L' M z => c d env' v F' H' L' M (er.trans z)
        have cx : ∀ x env' F' H' L' C dd, rm0 rz env = .exn x env' -> _ := fun x env' F' H' L' C dd z => cx x env' F' H' L' C dd (er.trans z)
        have hm : rz ≠ .no := fun z => hn (by rw [z]; rfl)
        obtain ⟨cn, ns, xs, nm, rfl, h1, h3, h4⟩ := ownE_ok e3 hm
        refine a.sF e1 e F σ H L _ r fun v F1 H1 x1 y1 => b.sF e2 e F1 σ H1 L _ (r.ext x1) fun u F2 H2 x2 y2 => ?_
        have y1 := y1.mono x2.f
        obtain ⟨p, dx, vs, rfl, hp, hc⟩ := shr_ins y1
        have r2 := (r.ext x1).ext x2
        refine ⟨p, cn, nm, dx, _, rfl, x2.s _ _ hp, hc, h3, okG_same _ _ _ _ h1 (y2.mono x2.s), ?_⟩
        subst h4
        refine callX x2.s (.cons y1 (.cons y2 .nil)) rfl hm (fun d b v F3 H3 eq x3 ⟨M, o, nd, kk⟩ => ?_) fun x b F3 H3 C dd eq x3 ie => ?_
        · rw [eq] at c
          exact c d env v F3 H3 L M rfl (r2.ext x3) o (nodup_new (H := H2) r2.nd nd r2.slots.lives fun a m => (kk a m).1) fun a m => ⟨(kk a m).2, r2.h0 (kk a m).1⟩
        · rw [eq] at cx
          exact cx x env F3 H3 L C dd rfl (r2.ext x3) ie
def opMK (f : D -> D -> Option D) (ds : List D) (e : Py.Env) : RM := match ds with
  | [x, y] => RM.of (f x y) e
  | _ => .no
def q2 (r : R2) (Q : VK) : List V -> Hp -> Prop := fun vs H => match vs with
  | [x, y] => r x y H Q
  | _ => False
def xmOpM (r : R2) (f : D -> D -> Option D) (h : ∀ {x y d}, f x y = some d -> Op2 W r x y d) (m n : XM W) : XM W where
  t E := tOp r (m.t E) (n.t E)
  ev P env := ((xmsCons m (xmsCons n (xmsNil W))).ev P env).thenM (opMK f)
  snd := fun P E env hn e F σ H L Q hP rl c cx => by
    have hm : (xmsCons m (xmsCons n (xmsNil W))).ev P env ≠ .no := fun z => hn (by rw [z]; rfl)
    refine (xmsCons m (xmsCons n (xmsNil W))).snd P E env hm e F σ H L (q2 r Q) hP rl (fun ds env1 vs F1 H1 L1 hd r1 sh => ?_) fun x env1 F1 H1 L1 C dd h r1 ie => cx x env1 F1 H1 L1 C dd (by rw [h]; rfl) r1 ie
    rw [hd] at hn c
    have hn : opMK f ds env1 ≠ .no := hn
    have c : ∀ d' env' v F' H' L' M, opMK f ds env1 = .ok d' env' -> _ := c
    match ds, hn, c, sh with
    | [], hn, _, _ => exact absurd rfl hn
    | [_], hn, _, _ => exact absurd rfl hn
    | _ :: _ :: _ :: _, hn, _, _ => exact absurd rfl hn
    | [x, y], hn, c, .cons y1 (.cons y2 .nil) =>
      have hn : RM.of (f x y) env1 ≠ .no := hn
      obtain ⟨z, e1, e2⟩ := RM.of_ok hn
      show r _ _ H1 Q
      refine h e1 F1 H1 _ _ Q r1.sF (y1.mono r1.sF) (y2.mono r1.sF) fun u F4 H4 x4 ⟨M4, o4, nd4, k4⟩ => ?_
      exact c z env1 u F4 H4 L1 M4 e2 (r1.ext x4) o4 (nodup_new (H := H1) r1.nd nd4 r1.slots.lives fun a m => (k4 a m).1) fun a m => ⟨(k4 a m).2, r1.h0 (k4 a m).1⟩
def addID : D -> D -> Option D
  | .int i, .int j => some (.int (i + j))
  | _, _ => none
def xmAddM (m n : XM W) : XM W := xmOpM (fun x y H Q => rI0 (fun i j => .int (i + j)) x y H Q \/ (fun x y H Q => rCat x y H Q \/ rCatT W.K x y H Q) x y H Q) addID (fun {x y d} e => by
  cases x <;> cases y <;> first | (cases e; done) | (cases e; exact fun F H v u Q s sx sy q => .inl (o2_i (fun _ => .int) F H v u Q s sx sy q))) m n
def xmMulM (m n : XM W) : XM W := xmOpM (rI CMulU fun i j => .int (i * j)) mulD (fun {x y d} e => by
  cases x <;> first | (cases e; done) | skip
  cases y <;> first | (cases e; done) | skip
  obtain ⟨hc, rfl⟩ := ite_some e
  exact o2_ic (mulOk_u hc) fun _ => .int) m n
theorem e_xmAndR {T : Tbl} {W : Wd T} {φ : Sem} {a b : XP W} {P env} : (xmAndR φ a b).ev P env = andOM T φ (a.evF env) (b.evF env) env := rfl
def opM3 (d d2 : D) (e : Py.Env) : RL := .ok [fz d, fz d2] e
def opM2 {T : Tbl} {W : Wd T} (n : XM W) (P : List Nat) (d : D) (e : Py.Env) : RL := (n.ev P e).thenL (opM3 d)
theorem e_opM3 {d d2 : D} {e : Py.Env} : opM3 d d2 e = .ok [fz d, fz d2] e := rfl
theorem e_opM2 {T : Tbl} {W : Wd T} {n : XM W} {P : List Nat} {d : D} {e : Py.Env} : opM2 n P d e = (n.ev P e).thenL (opM3 d) := rfl
theorem e_xmAddM {T : Tbl} {W : Wd T} {m n : XM W} {P env} : (xmAddM m n).ev P env = ((m.ev P env).thenL (opM2 n P)).thenM (opMK addID) := by
  cases h : m.ev P env with
  | ok d e =>
    cases h2 : n.ev P e <;> simp [xmAddM, xmMulM, xmOpM, xmsCons, xmsNil, h, consK, RM.thenL, RL.thenL, RL.thenM, opM2, opM3, h2, consL]
  | exn x e => simp [xmAddM, xmMulM, xmOpM, xmsCons, xmsNil, h, consK, opM2, opM3, RM.thenL, RL.thenL, RL.thenM, consL]
  | no => simp [xmAddM, xmMulM, xmOpM, xmsCons, xmsNil, h, consK, opM2, opM3, RM.thenL, RL.thenL, RL.thenM, consL]
theorem e_xmMulM {T : Tbl} {W : Wd T} {m n : XM W} {P env} : (xmMulM m n).ev P env = ((m.ev P env).thenL (opM2 n P)).thenM (opMK mulD) := by
  cases h : m.ev P env with
  | ok d e =>
    cases h2 : n.ev P e <;> simp [xmAddM, xmMulM, xmOpM, xmsCons, xmsNil, h, consK, RM.thenL, RL.thenL, RL.thenM, opM2, opM3, h2, consL]
  | exn x e => simp [xmAddM, xmMulM, xmOpM, xmsCons, xmsNil, h, consK, opM2, opM3, RM.thenL, RL.thenL, RL.thenM, consL]
  | no => simp [xmAddM, xmMulM, xmOpM, xmsCons, xmsNil, h, consK, opM2, opM3, RM.thenL, RL.thenL, RL.thenM, consL]
theorem opMK_add {i j : Int} {e : Py.Env} : opMK addID [.int i, .int j] e = .ok (.int (i + j)) e := rfl
theorem opMK_mul {i j : Int} {e : Py.Env} (h : mulOk i j) : opMK mulD [.int i, .int j] e = .ok (.int (i * j)) e := by
  show RM.of (if mulOk i j then _ else _) e = _
  rw [if_pos h]; rfl
end
end Py
namespace L2
open PySem PySem.Spec PyProof.Rows
abbrev blkE (X : Cx) (s : Shared) (H : Hp) (scope : Scope) (cenv : Env) (fp : List Addr) (xe : Value -> Shared -> Prop) : Cx :=
  { X with s_0 := s, H_0 := H, env := cenv, outer := X.stack, ex := fp, fn := fun x => scope.names.lookup x == some .cell, pn := [], xe := xe }
theorem inv_xe {X : Cx} {xe : Value -> Shared -> Prop} {pins : List (Addr × Obj)} {σ : St} {H : Hp} {s : Shared} (I : Inv X pins σ H s) : Inv { X with xe := xe } pins σ H s :=
  ⟨⟨I.ok.mod, I.ok.kind, I.ok.glob, I.ok.blt, I.ok.above, I.ok.inj, I.ok.has, I.ok.cab, I.ok.hd, I.ok.frames, I.ok.stk, I.ok.exf, I.ok.bs, I.ok.bsz, I.ok.noex, I.ok.exfs, I.ok.funs, I.ok.frf⟩,
    I.os, I.bare, I.base, I.loc, I.cell, I.free, I.freeC, I.pin, I.hok, I.len⟩
section
variable {M : Model} {A : Around} {E : Value -> Shared -> Prop} {s : Shared} {Z : Obj -> Prop} {base : Heap} {env : Env} {outer l : List Env} {L e : Addr}
open HandSPX in
theorem looks_anyZ {fl : Value} {Q : Unit -> Shared -> Prop} (hZ : Steady Z) (hfr : A.frames = some (env :: outer)) (hf : env.frame = some L)
    (hkb : base.StaysIn s.heap) (hen : base.get? e = none) (hl : s.heap.FunFrames base (env :: outer)) (ht : TracedZ s.heap base e Z fl) (hne : (fl == rawInt L) = false)
    (hQ : ∀ h', HeldZ base (env :: outer) e Z L h' -> s.heap.UpToSlots h' -> Q () { s with heap := h' }) : wpAny M A (noteFrame (.ref e) env) Q E s := by
  obtain ⟨oe, vs, T, oT, ts, he, hz, hd, h1, hnT, hTe, hT, hdT, h3⟩ := ht
  unfold noteFrame
  simp only [hf]
  refine wpAny_bind (wpAny_field he hd h1 ?_)
  rw [if_pos (show (Value.ref T != Value.none) = true from by simp)]
  refine wpAny_bind (wpAny_field hT hdT h3 ?_)
  rw [if_neg (show ¬ ((fl == rawInt L) = true) from by rw [hne]; simp)]
  refine wpAny_bind (wpAny_setField hT hdT (Array.getElem?_eq_some_iff.mp h3).1 ?_)
  have other : ∀ b, b ≠ T -> (s.heap.update T (Obj.mapFields (·.setIfInBounds 3 Value.none))).get? b = s.heap.get? b := fun b hb => Heap.get?_update_other _ _ (Ne.symm hb)
  have noRecord : ∀ b o, s.heap.get? b = some o -> (∀ vs, o.data ≠ .fields vs) -> b ≠ T := fun b o hb hnf q => by
    rw [q, hT] at hb; injection hb with hb; subst hb; exact hnf ts hdT
  refine wpAny_entryZ hZ hfr (hl.of_keeps fun b o hb hnf => ⟨o, (other b (noRecord b o hb hnf)).trans hb, rfl⟩) hf ((other e (Ne.symm hTe)).trans he)
    (fun b o hbo => (other b fun q => by rw [q, hnT] at hbo; cases hbo).trans (hkb b o hbo)) hen hd (Array.getElem?_eq_some_iff.mp h1).1 hz fun h' hN => ?_
  obtain ⟨x1, x2, x3, x4⟩ := hN
  exact hQ h' ⟨x1, hen, x2, x3⟩ fun b o hb hnf => x4 b o ((other b (noRecord b o hb hnf)).trans hb) hnf
end
theorem rawInt_ne {a b : Addr} (h : a ≠ b) : (rawInt a == rawInt b) = false := by
  rw [beq_eq_false_iff_ne]
  intro e
  unfold rawInt at e
  injection e with e1
  exact h (Int.ofNat.inj e1)
theorem funFrames_less {h B B' : Heap} (k : ∀ b, B.get? b = none -> B'.get? b = none) : ∀ {l : List Env}, h.FunFrames B l -> h.FunFrames B' l
  | [], _ => trivial
  | _ :: _, ⟨hk, ⟨L, o, hf, hb, ho, hd⟩, hr⟩ => ⟨hk, ⟨L, o, hf, k L hb, ho, hd⟩, funFrames_less k hr⟩
open HandSPX in
theorem tracedZ_but {h h' B B' : Heap} {e C : Addr} {Z : Obj -> Prop} {fl : Value} {m : Str -> Option Value} (k : ∀ b, B.get? b = none -> B'.get? b = none) (x : TracedZ h B e Z fl) (hn : h.Ns C m) (hs : Heap.SameBut C h h') : TracedZ h' B' e Z fl := by
  obtain ⟨oe, vs, T, oT, ts, he, hz, hd, h1, hnT, hTe, hT, hdT, h3⟩ := x
  obtain ⟨oL, es, ep, hoL, hdL, _⟩ := hn
  have neE : e ≠ C := fun q => by
    rw [q, hoL] at he
    have z := Option.some.inj he
    rw [<- z, hdL] at hd
    cases hd
  have neT : T ≠ C := fun q => by
    rw [q, hoL] at hT
    have z := Option.some.inj hT
    rw [<- z, hdL] at hdT
    cases hdT
  exact ⟨oe, vs, T, oT, ts, (hs.2 e neE).trans he, hz, hd, h1, k T hnT, hTe, (hs.2 T neT).trans hT, hdT, h3⟩
theorem blk_takes {X : Cx} {W : WX} {pins : List (Addr × Obj)} {σ : St} {H3 : Hp} {s3 : Shared} {scope : Scope} {ce : Env} {fp : List Addr} (tk : Takes X W) (hs : X.stack = X.env :: X.outer) (hf : X.env.frame = some X.env.locals)
    (I3 : Inv X pins σ H3 s3) (f3 : ∀ b ∈ fp, FpOk X pins H3 b /\ b < s3.heap.objs.size) (cL : ce.locals = s3.heap.objs.size) (cF : ce.frame = X.env.frame) :
    Takes (blkE X s3 H3 scope ce fp (notedBy (model X.prog X.w) X.A ce (CompFails (model X.prog X.w) X.A X.xe ce))) (fun cls d _ H => W cls d σ H) := by
  rintro u s' ⟨a, B, sI, pins', σ', H', cls, d, rfl, J, nb, up, sky, na, os, ag, w⟩
  have hfr : X.A.frames = some (X.env :: X.outer) := by rw [I3.ok.frames, hs]
  have nL : ce.locals ≠ X.env.locals := by rw [cL]; exact Nat.ne_of_gt I3.lt
  have nC : H' s3.heap.objs.size = none := by
    have z : H' ce.locals = none := J.free
    rw [cL] at z
    exact z
  have sky : Sky B X.stack a (Zc cls d) ce.locals s'.heap := sky
  rw [hs] at sky
  show wpAny (model X.prog X.w) X.A (noteFrame (.ref a) ce) _ _ s'
  rw [noteFrame_env _ cF]
  have fin : ∀ h1, HandSPX.HeldZ B (X.env :: X.outer) a (Zc cls d) X.env.locals h1 -> s'.heap.UpToSlots h1 -> CompFails (model X.prog X.w) X.A X.xe ce (.ref a) { s' with heap := h1 } := by
    intro h1 hh up1
    obtain ⟨m, hn, _⟩ := J.loc
    have hn : sI.heap.Ns ce.locals m := hn
    have n1 : h1.Ns ce.locals m := (hn.upToSlots up).upToSlots up1
    refine ⟨m, n1, fun h' m' hn' sb => ?_⟩
    obtain ⟨G, g1, g2⟩ := restrict sI.heap fun b => !decide (b = ce.locals)
    obtain ⟨B', b1, b2⟩ := restrict B fun b => !decide (b = ce.locals)
    have gk : ∀ b, b ≠ ce.locals -> G.get? b = sI.heap.get? b := fun b hb => g1 b (by simp [hb])
    have bk : ∀ b, b ≠ ce.locals -> B'.get? b = B.get? b := fun b hb => b1 b (by simp [hb])
    have gn : G.get? ce.locals = none := g2 _ (by simp)
    have bn : B'.get? ce.locals = none := b2 _ (by simp)
    have less : ∀ b, B.get? b = none -> B'.get? b = none := fun b e => by
      by_cases hb : b = ce.locals
      · rw [hb]; exact bn
      · rw [bk b hb]; exact e
    obtain ⟨k1, k2, k3, k4⟩ := hh
    have st : B'.StaysIn h' := fun b o e => by
      by_cases hb : b = ce.locals
      · rw [hb, bn] at e; cases e
      · rw [bk b hb] at e
        exact (sb.2 b hb).trans (k1 b o e)
    have hh' : HandSPX.HeldZ B' (X.env :: X.outer) a (Zc cls d) X.env.locals h' := ⟨st, less a k2, funFrames_less less (Heap.FunFrames.sameBut sb hn' k3), tracedZ_but less k4 n1 sb⟩
    obtain ⟨q1, q2, q3, oe, vs, T, oT, ts, he, hz, hd, h1', hr⟩ := id hh'
    unfold PySem.passOn
    refine wpAny_bind (wpAny_field he hd h1' ?_)
    rw [if_neg (show ¬ ((Value.ref T == Value.none) = true) from by simp)]
    have fin2 : wpAny (model X.prog X.w) X.A (setFlight (.ref a) ce.frame) (fun _ s4 => wpAny (model X.prog X.w) X.A (throw (.ref a) : Sem Value) (fun _ _ => False) X.xe s4) X.xe { s' with heap := h' } := by
      rw [cF, hf]
      refine HandSPX.setFlight_onZ hh' fun h4 hh4 up4 => wpAny_throw (tk _ _ ?_)
      have I7 : Inv X pins σ H' sI := I3.call' (ch := fp) J.os J.base J.hok J.bare fun b hb => ⟨(f3 b hb).1.2.2.2.1, (f3 b hb).1.2.1, (f3 b hb).1.2.2.2.2.1, (f3 b hb).1.2.2.2.2.2⟩
      obtain ⟨f0, f1, f2, f4, f5, f6⟩ := I3.fpOk (Nat.le_refl _) nC
      rw [<- cL] at f0 f1 f2 f4 f5 f6
      have I8 : Inv X pins σ H' { sI with heap := G, toks := sI.toks } := I7.turned (t' := sI.toks) (fun b o hb e => (gk b hb).trans e) f0 f1 f4 f5 f6
      refine ⟨a, B', _, pins, σ, H', cls, d, rfl, I8, fun b o e hb => ?_, fun b o e hnf => ?_, .inr (.inr (by rw [hs]; exact hh4)), na, os, ag, w⟩
      · have e : G.get? b = some o := e
        by_cases hbc : b = ce.locals
        · rw [hbc, gn] at e; cases e
        · rw [gk b hbc] at e
          rw [bk b hbc]
          exact nb b o e hb
      · have e : G.get? b = some o := e
        by_cases hbc : b = ce.locals
        · rw [hbc, gn] at e; cases e
        · rw [gk b hbc] at e
          obtain ⟨sl, e1⟩ := up b o e hnf
          obtain ⟨sl2, e2⟩ := up1 b _ e1 hnf
          have e3 : h'.get? b = some _ := (sb.2 b hbc).trans e2
          obtain ⟨sl4, e4⟩ := up4 b _ e3 hnf
          exact ⟨sl4, e4⟩
    first
      | exact wpAny_bind (wpAny_pure (wpAny_bind fin2))
      | exact wpAny_bind fin2
  rcases sky with ⟨hB, hn, hl, oe, vs, he, hz, hd, h1⟩ | fl | hh
  · exact HandSPX.look_newZ Zc.steady hfr hl hf he hB hn hd h1 hz fin
  · exact HandSPX.looks_onZ Zc.steady hfr hf fl fin
  · exact looks_anyZ Zc.steady hfr hf hh.1 hh.2.1 hh.2.2.1 hh.2.2.2 (rawInt_ne nL) fin
section
variable {X : Cx}
def tLcX (wi : TI) (g : TG) (te : WX -> TE) (vs : List Nat) (W : WX) : TE := fun σ H Q => wi σ H fun J H1 => ∀ D, H1 D = none -> ∃ Wt : Nat -> Nat -> Hp -> Prop, (∃ m, Wt 0 m (upd H1 D (.lst []))) /\ ∀ i m H, Wt i m H ->
  (J.stop i H /\ Q (.ref D) H) \/ (J.go i H /\ ∃ Nx : Hp -> Prop, (∀ H', Nx H' -> ∃ m', m' < m /\ Wt (i + 1) m' H') /\ ∀ x H', J.yld i H x H' -> g x (wipe σ vs) H' fun σ2 H2 => wipe σ2 vs = wipe σ vs /\
    te (fun cls d _ H => W cls d σ H) σ2 H2 fun y H4 => ∃ acc, H4 D = some (.lst acc) /\ acc.length < sizeLine /\ Nx (upd H4 D (.lst (acc ++ [y]))))
theorem lcx_core {pins : List (Addr × Obj)} {s : Shared} {σ : St} {H : Hp} {Q : VK} {elt tg iter : Expr} {scope : Scope} {own : List (Str × Nat)} {pos pos' : Pos} {wi : TI} {g : TG} {te : WX -> TE} {W : WX} {use : Option (Value -> Sem Unit)} {Qf : Value -> Shared -> Prop}
    (hc : X.calm = true) (hN : X.N.Nodup) (hst : X.stack = X.env :: X.outer) (hfl : X.env.frame = some X.env.locals) (tk : Takes X W) (I : Inv X pins σ H s) (hi : PI X tg iter wi) (ok : BlkOk X.N X.env.scope scope own)
    (hg : ∀ (s : Shared) (H : Hp) (C : Addr) (cl : List (Str × Addr)) (fp : List Addr) (xe : Value -> Shared -> Prop), PG (blkE X s H scope (compEnvC scope cl C X.env) fp xe) tg g)
    (he : ∀ (s : Shared) (H : Hp) (C : Addr) (cl : List (Str × Addr)) (fp : List Addr) (xe : Value -> Shared -> Prop) (Wb : WX), Takes (blkE X s H scope (compEnvC scope cl C X.env) fp xe) Wb -> PE (blkE X s H scope (compEnvC scope cl C X.env) fp xe) elt (te Wb)) (hs : ∀ x, foldedSetIterable iter X.env x = pure x)
    (h : tLcX wi g te (own.map (·.2)) W σ H Q)
    (hRR : ∀ D (C : Env) s' m H', Inv X pins σ H' s' -> Q (.ref D) H' -> s'.heap.Ns C.locals m -> FpOk X pins H' C.locals -> compEnds (model X.prog X.w) X.A X.xe use Qf (.ref D) C (.ok .next) s') :
    wpAny (model X.prog X.w) X.A (comprehension (.ListComp elt [⟨tg, iter, [], 0⟩] scope pos) scope X.env pos' (newList []) false (eval iter X.env) use) Qf X.xe s := by
  have hfree : ∀ y ∈ scope.names, y.2 = .free -> ∃ c, X.env.cells.lookup y.1 = some c := fun y hy e => by
    rcases ok.free y hy e with k | k
    · exact I.ok.has _ (.inl k)
    · exact I.ok.has _ (.inr k)
  refine comprehension_at (use := use) rfl hs (closure_ok hfree) ok.kind (fun y hy e => by rw [ok.uniq y hy, e])
    (thn (hi.run pins s σ H _ I h) fun xv s1 hx => thn hx fun itv s2 h2 => ?_)
  obtain ⟨it, fp, tn, J, H2, e, I2, T, st2, f2, q⟩ := h2
  subst e
  refine wpAny_newObj_type (newEnv_comp ?_) (by show 0 <= sizeLine; decide)
  generalize hD : s2.heap.objs.size = D
  have hDn : H2 D = none := I2.hok.fresh (Nat.le_of_eq hD)
  obtain ⟨Wt, ⟨m0, w0⟩, turn⟩ := q D hDn
  generalize hs3 : ({ s2 with heap := s2.heap.push { cls := .type "list", data := .seq ([] : List Value).toArray } } : Shared) = s3
  have I3 : Inv X pins σ (upd H2 D (.lst [])) s3 := by
    rw [<- hs3]
    refine I2.laid (t' := s2.toks) (fun b o e => Heap.get?_push_of_some _ e) (Nat.le_of_eq hD) ⟨Nat.zero_le _, [], 0, .nil, ?_⟩
    rw [<- hD]
    exact Heap.get?_push_size _ rfl
  have h3 : s3.heap = s2.heap.push { cls := .type "list", data := .seq ([] : List Value).toArray } := by rw [<- hs3]
  have sz : ∀ b ∈ fp, b < s2.heap.objs.size := fun b hb => by
    obtain ⟨o, e, _⟩ := T.obj _ _ st2 b hb
    exact Heap.lt_size e
  have f3 : ∀ b ∈ fp, FpOk X pins (upd H2 D (.lst [])) b /\ b < s3.heap.objs.size := fun b hb => by
    have hlt := sz b hb
    refine ⟨⟨?_, (f2 b hb).2⟩, by rw [h3, Heap.size_push]; exact Nat.lt_succ_of_lt hlt⟩
    rw [upd_ne (by rw [<- hD]; exact Nat.ne_of_lt hlt)]
    exact (f2 b hb).1
  have st3 : tn 0 s3.heap := T.keep _ _ _ st2 fun b _ o e => by rw [h3]; exact Heap.get?_push_of_some _ e
  have I4' := block_start I3 ok hN f3
  have pg := hg s3 (upd H2 D (.lst [])) s3.heap.objs.size (cellsFrom (s3.heap.objs.size + 1) scope.names (cloFrom X.env.cells scope.names [])) fp
  have pe := he s3 (upd H2 D (.lst [])) s3.heap.objs.size (cellsFrom (s3.heap.objs.size + 1) scope.names (cloFrom X.env.cells scope.names [])) fp
  show codeAny _ _ (.compStart (.ListComp elt [⟨tg, iter, [], 0⟩] scope pos) 0 (.ref it) (.ref D) (compEnvC scope (cellsFrom (s3.heap.objs.size + 1) scope.names (cloFrom X.env.cells scope.names [])) s3.heap.objs.size X.env)) (compEnds (model X.prog X.w) X.A X.xe use Qf (.ref D) (compEnvC scope (cellsFrom (s3.heap.objs.size + 1) scope.names (cloFrom X.env.cells scope.names [])) s3.heap.objs.size X.env)) { s3 with heap := pushCells (s3.heap.push { cls := .type "dict", data := .dict #[] }) scope.names }
  have nfp : ∀ b ∈ fp, (upd H2 D (.lst [])) b = none := fun b hb => (f3 b hb).1.1
  have cF : (compEnvC scope (cellsFrom (s3.heap.objs.size + 1) scope.names (cloFrom X.env.cells scope.names [])) s3.heap.objs.size X.env).frame = X.env.frame := rfl
  generalize hce : compEnvC scope (cellsFrom (s3.heap.objs.size + 1) scope.names (cloFrom X.env.cells scope.names [])) s3.heap.objs.size X.env = ce at I4' pg pe cF ⊢
  have cL : ce.locals = s3.heap.objs.size := by subst hce; rfl
  generalize hH3 : upd H2 D (.lst []) = H3 at I3 I4' pg pe w0 nfp f3
  generalize hs4 : ({ s3 with heap := pushCells (s3.heap.push { cls := .type "dict", data := .dict #[] }) scope.names } : Shared) = s4 at I4' ⊢
  have st4 : tn 0 s4.heap := T.keep _ _ _ st3 fun b _ o e => by rw [<- hs4]; exact pushCells_keeps _ _ _ _ (Heap.get?_push_of_some _ e)
  have btk := blk_takes (scope := scope) tk hst hfl I3 f3 cL cF
  generalize hxe : notedBy (model X.prog X.w) X.A ce (CompFails (model X.prog X.w) X.A X.xe ce) = xe at btk
  have I4 : Inv (blkE X s3 H3 scope ce fp xe) [] (wipe σ (own.map (·.2))) H3 s4 := inv_xe I4'
  have pe := pe xe _ btk
  have pg := pg xe
  have stat : ∀ {σ' : St} {H' : Hp} {s' : Shared}, Inv (blkE X s3 H3 scope ce fp xe) [] σ' H' s' -> (∀ b ∈ fp, H' b = none) -> ∀ b ∈ fp, FpOk (blkE X s3 H3 scope ce fp xe) [] H' b := fun {σ' H' s'} I' hn b hb =>
    ⟨hn b hb, (I'.ok.exf b hb).1, I'.ok.exfs b hb, .inl hb, fun x c e => (I'.ok.exf b hb).2 x c e, fun p hp => absurd (show p ∈ ([] : List (Addr × Obj)) ++ [] from hp) (by simp)⟩
  have hE : (notedBy (model X.prog X.w) X.A ce fun e s' => compEnds (model X.prog X.w) X.A X.xe use Qf (.ref D) ce (.error e) s') = xe := by
    rw [<- hxe]
    cases use <;> rfl
  have loop : codeAny (model X.prog X.w) X.A (.compLoop (.ListComp elt [⟨tg, iter, [], 0⟩] scope pos) 0 (.ref it) (.ref D) ce) (compEnds (model X.prog X.w) X.A X.xe use Qf (.ref D) ce) s4 := by
    refine compLoop_any (fun n s' => ∃ i H', Inv (blkE X s3 H3 scope ce fp xe) [] (wipe σ (own.map (·.2))) H' s' /\ tn i s'.heap /\ (∀ b ∈ fp, H' b = none) /\ Wt i n H') ?_ m0 ⟨0, H3, I4, st4, nfp, w0⟩
    rintro n s5 ⟨i, H5, I5, st5, n5, w5⟩
    rw [hE]
    rcases turn i n H5 w5 with ⟨stop, qq⟩ | ⟨go, Nx, hNx, step⟩
    · have td := T.done (blkE X s3 H3 scope ce fp xe) rfl rfl rfl hc i [] s5 _ H5 (fun _ _ => False) I5 (stat I5 n5) st5 stop
      refine thnF td fun r s6 ⟨hr, I6⟩ => ?_
      subst hr
      have I7 : Inv X pins σ H5 s6 := I3.call' (ch := fp) I6.os I6.base I6.hok I6.bare fun b hb => ⟨(f3 b hb).1.2.2.2.1, (f3 b hb).1.2.1, (f3 b hb).1.2.2.2.2.1, (f3 b hb).1.2.2.2.2.2⟩
      have nC : H5 s3.heap.objs.size = none := by
        have z : H5 ce.locals = none := I6.free
        rw [cL] at z
        exact z
      obtain ⟨m, hn, _⟩ := I6.loc
      have hn : s6.heap.Ns ce.locals m := hn
      exact hRR D ce s6 m H5 I7 qq hn (by rw [cL]; exact I3.fpOk (Nat.le_refl _) nC)
    · have ti := T.item (blkE X s3 H3 scope ce fp xe) rfl rfl rfl hc i [] s5 _ H5 (fun _ _ => False) I5 (stat I5 n5) st5 go
      refine thnF ti fun r s6 ⟨u, hr, h6⟩ => ?_
      subst hr
      refine thnF h6 fun _ s7 ⟨x, H7, I7, r7, y7, st7, n7⟩ => ?_
      have I7' := I7.pinned (stat I7 n7) (T.obj _ _ st7)
      refine thn (pg.run _ s7 _ H7 x u _ I7' r7 (step x H7 y7)) fun _ s8 ⟨σ8, H8, I8, hw8, q8⟩ => ?_
      refine wpAny_tests_nil ?_
      have fin : ∀ {s' : Shared} {H' : Hp}, Inv (blkE X s3 H3 scope ce fp xe) ([] ++ pinsAt fp s7.heap) σ8 H' s' -> Nx H' -> ∃ m, m < n /\ ∃ i H', Inv (blkE X s3 H3 scope ce fp xe) [] (wipe σ (own.map (·.2))) H' s' /\ tn i s'.heap /\ (∀ b ∈ fp, H' b = none) /\ Wt i m H' := fun {s' H'} I' nx => by
        obtain ⟨m', hm, w'⟩ := hNx H' nx
        have pin' : ∀ b ∈ fp, ∀ o, s7.heap.get? b = some o -> s'.heap.get? b = some o /\ H' b = none := fun b hb o e =>
          let z := I'.pin (b, o) (List.mem_append_right _ (List.mem_append_right _ (mem_pinsAt hb e)))
          ⟨z.1, z.2.1⟩
        have hl : (wipe σ (own.map (·.2))).length = σ8.length := by rw [<- hw8, wipe_length]
        refine ⟨m', hm, i + 1, H', (I'.unpinned (pins := [])).weak hl (fun j v e => ?_), T.keep _ _ _ st7 fun b hb o e => (pin' b hb o e).1, fun b hb => ?_, w'⟩
        · rw [<- hw8] at e
          exact (wipe_some e).1
        · obtain ⟨o, e, _⟩ := T.obj _ _ st7 b hb
          exact (pin' b hb o e).2
      rw [if_pos rfl]
      refine thn (pe.run _ s8 σ8 H8 _ I8 q8) fun z s10 ⟨yv, H10, I10, r10, acc, hD10, hz10, nx⟩ => ?_
      exact app_ok (X := blkE X s3 H3 scope ce fp xe) I10 hD10 hz10 r10 fun s11 I11 => fin I11 nx
  exact codeAny_compStart_list loop (T.self X.A 0 _ _ _ st4 loop)
theorem pe_lcX {elt tg iter : Expr} {scope : Scope} {own : List (Str × Nat)} {pos : Pos} {wi : TI} {g : TG} {te : WX -> TE} {W : WX} (hc : X.calm = true) (hN : X.N.Nodup) (hst : X.stack = X.env :: X.outer) (hfl : X.env.frame = some X.env.locals) (tk : Takes X W) (hi : PI X tg iter wi) (ok : BlkOk X.N X.env.scope scope own)
    (hg : ∀ (s : Shared) (H : Hp) (C : Addr) (cl : List (Str × Addr)) (fp : List Addr) (xe : Value -> Shared -> Prop), PG (blkE X s H scope (compEnvC scope cl C X.env) fp xe) tg g)
    (he : ∀ (s : Shared) (H : Hp) (C : Addr) (cl : List (Str × Addr)) (fp : List Addr) (xe : Value -> Shared -> Prop) (Wb : WX), Takes (blkE X s H scope (compEnvC scope cl C X.env) fp xe) Wb -> PE (blkE X s H scope (compEnvC scope cl C X.env) fp xe) elt (te Wb)) (hs : ∀ x, foldedSetIterable iter X.env x = pure x := by intro _; rfl) :
    PE X (.ListComp elt [⟨tg, iter, [], 0⟩] scope pos) (tLcX wi g te (own.map (·.2)) W) := by
  refine ⟨fun pins s σ H Q I h => ?_⟩
  rw [eval_ListComp]
  refine lcx_core hc hN hst hfl tk I hi ok hg he hs h fun D C s' m H' I' q hn f => ⟨m, hn, fun h'' sb => ?_⟩
  obtain ⟨f0, f1, f2, f3, f4, f5⟩ := f
  exact ⟨.ref D, H', I'.turned (t' := s'.toks) (fun b o hb e => (sb.2 b hb).trans e) f0 f1 f3 f4 f5, rfl, q⟩
end
end L2
namespace Py
open PySem L2
structure XEl {T : Tbl} (W : Wd T) where
  t : WX -> TE
  ev : Py.Env -> Rz
  snd : ∀ (E : WX) (env : Py.Env) (e : Ent) (F : Hp) (σ : St) (H : Hp) (L : List Addr) (Q : VK), ev env ≠ .no -> Rel W e env F σ H L ->
    (∀ d b v F' H', ev env = .ok d b -> Ext F H F' H' -> rO W d F' H' H v -> Q v H') -> (∀ x b F' H' C dd, ev env = .exn x b -> Ext F H F' H' -> IsExn W F' x C dd -> E C dd σ H') -> t E σ H Q
section
variable {T : Tbl} {W : Wd T} {env : Py.Env} {E : WX}
def xeMeth (φ : Sem) (m : String) (n : Nat) (o : XP W) (as : XA W) : XEl W where
  t E := fun σ H Q => tMethD W φ m n none (WE E σ) o.t as.t σ H Q
  ev env := match o.evF env, as.evF env with
    | some nd, some ds => meth1 T φ m n (nd :: ds)
    | _, _ => .no
  snd := fun E env e F σ H L Q hn r q qx => by
    match e1 : o.evF env, e2 : as.evF env, hn, q, qx with
    | none, _, hn, _, _ => exact absurd rfl hn
    | some _, none, hn, _, _ => exact absurd rfl hn
    | some nd, some ds, hn, q, qx =>
      have hm : meth1 T φ m n (nd :: ds) ≠ .no := hn
      dsimp only at q qx
      obtain ⟨cn, ns, xs, nm, rfl, h2, h3, h4, h5⟩ := meth1_ok hm
      rw [h5] at q qx hm
      refine o.sF e1 e F σ H L _ r fun v F1 H1 x1 sh => ?_
      have r1 := r.ext x1
      obtain ⟨a, dx, vs, rfl, ha, hc⟩ := shr_ins sh
      refine ⟨a, cn, nm, dx, _, rfl, r1.sF _ _ ha, hc, h2, lookup_zip_none h3, as.sF e2 e F1 σ H1 L _ r1 fun ws F2 H2 x2 y2 => ?_⟩
      refine callX x2.s (.cons (sh.mono x2.f) y2) h4 hm (fun d b v F3 H3 eq x3 ⟨M, o3, nd3, k3⟩ => ?_) fun x b F3 H3 C dd eq x3 ie => ?_
      · exact q d b v F3 H3 eq ((x1.trans x2).trans x3) ⟨M, o3, nd3, fun a m => ⟨(x1.trans x2).h.free (k3 a m).1, (k3 a m).2⟩⟩
      · exact qx x b F3 H3 C dd eq ((x1.trans x2).trans x3) ie
def xmEl (a : XEl W) : XM W where
  t E := a.t E
  ev P env := match a.ev env with | .ok d _ => .ok d env | .exn x _ => .exn x env | .no => .no
  snd := fun P E env hn e F σ H L Q hP r c cx => by
    refine a.snd E env e F σ H L Q (fun z => hn (by rw [z])) r (fun d b v F' H' h x ⟨M, o, nd, k⟩ => ?_) fun x b F' H' C dd h xx ie => ?_
    · exact c d env v F' H' L M (by rw [h]) (r.ext x) o (nodup_new (H := H) r.nd nd r.slots.lives fun a m => (k a m).1) fun a m => ⟨(k a m).2, r.h0 (k a m).1⟩
    · exact cx x env F' H' L C dd (by rw [h]) (r.ext xx) ie
def tupZ : Rz -> Rz
  | .ok d _ => match seqOf d with | some p => .ok (.tup p.2) none | none => .no
  | r => r
def xeTup (a : XEl W) : XEl W where
  t E := tCB (fun xs H Q => ∃ p ys, xs = [.ref p] /\ ((SqL W.K H p ys /\ ∀ l, H l = none -> Q (.ref l) (upd H l (.tup ys))) \/ (SqT W.K H p ys /\ Q (.ref p) H))) (tCons (a.t E) tNil)
  ev env := tupZ (a.ev env)
  snd := fun E env e' F σ H L Q hn r q qx => by
    refine a.snd E env e' F σ H L _ (fun z => hn (by rw [z]; rfl)) r (fun d1 b0 v F1 H1 h x1 ⟨L1, o, nd1, k1⟩ => ?_) fun x b F' H' C dd h xx ie => ?_
    · rw [h] at hn q
      cases e3 : seqOf d1 with
      | none => exact absurd (show (match seqOf d1 with | some p => Rz.ok (.tup p.2) none | none => .no) = .no by rw [e3]) hn
      | some p =>
        obtain ⟨b, xs⟩ := p
        have q1 := fun v F' H' => q (.tup xs) none v F' H' (show (match seqOf d1 with | some p => Rz.ok (.tup p.2) none | none => .no) = _ by rw [e3])
        cases b with
        | true =>
          have o1 : ∃ a vs, d1 = .tup xs /\ v = .ref a /\ F1 a = some (.tup vs) /\ Shrs W F1 xs vs := by
            unfold seqOf at e3
            split at e3 <;> first | (cases e3; done) | skip
            · split at e3 <;> cases e3
            · cases e3
              cases o.shr rfl with
              | tup ha hs => exact ⟨_, _, rfl, rfl, ha, hs⟩
          obtain ⟨a, vs, rfl, rfl, ha, hs⟩ := o1
          exact ⟨a, vs, rfl, .inr ⟨.of (x1.s _ _ ha), q1 _ F1 H1 x1 (rO_sh (.tup ha hs))⟩⟩
        | false =>
          obtain ⟨a, vs, rfl, sh, sq⟩ := seqOf_ok x1.s o e3
          exact ⟨a, vs, rfl, .inl ⟨sq, fun p hp => q1 _ (upd F1 p (.tup vs)) _ (x1.trans (.new x1.s hp)) (rO_sh (.tup upd_same (sh.mono (same_new (x1.s.free hp)))))⟩⟩
    · exact qx x b F' H' C dd (by rw [h]; rfl) xx ie
def lst1Z : Rz -> Rz
  | .ok d _ => .ok (.olst [fz d]) none
  | r => r
def xeLst1 (a : XEl W) : XEl W where
  t E := tLst (tCons (a.t E) tNil)
  ev env := lst1Z (a.ev env)
  snd := fun E env e' F σ H L Q hn r q qx => by
    refine a.snd E env e' F σ H L _ (fun z => hn (by rw [z]; rfl)) r (fun d1 b0 v F1 H1 h x1 ⟨M, o, nd, k⟩ => ?_) fun x b F' H' C dd h xx ie => ?_
    · rw [h] at q
      obtain ⟨G, s1, s2, nw, y⟩ := freeze x1.s o fun a m => (k a m).2
      have x2 : Ext F H G H1 := ⟨x1.f.trans s1, s2, x1.h, fun a o z => by
        rcases nw a o z with z | z
        · exact x1.n a o z
        · exact .inr (k a z).1⟩
      refine ⟨by show 1 <= sizeLine; decide, fun p hp => ?_⟩
      exact q (.olst [fz d1]) none _ G _ rfl (x2.trans (.newH x2.s hp)) ⟨[p], .olst upd_same (Shrs.owns (.cons y .nil)), by simp, fun a m => by
        rw [List.mem_singleton.mp m]; exact ⟨x2.h.free hp, x2.s.free hp⟩⟩
    · exact qx x b F' H' C dd (by rw [h]; rfl) xx ie
theorem ex_lc {wi : TI} {g : TG} {te : WX -> TE} {vs : List Nat} {ds : List D} {x : Exn} (h : AIp W wi env ds) (hg : GW g vs) (el : Py.Env -> Rz)
    (hel : ∀ (E : WX) (env : Py.Env) (e : Ent) (F : Hp) (σ : St) (H : Hp) (L : List Addr) (Q : VK), el env ≠ .no -> Rel W e env F σ H L ->
      (∀ d b v F' H', el env = .ok d b -> Ext F H F' H' -> rO W d F' H' H v -> Q v H') -> (∀ x b F' H' C dd, el env = .exn x b -> Ext F H F' H' -> IsExn W F' x C dd -> E C dd σ H') -> te E σ H Q)
    (rs : Nat -> List D) (h0 : rs 0 = []) (n : Nat) (hn : n <= ds.length)
    (hs : ∀ (i : Nat) (d : D), i < n -> ds[i]? = some d -> AG W [] g d (wipeE env vs) fun e2 => ∃ y b, el e2 = .ok y b /\ rs (i + 1) = rs i ++ [y])
    (hx : n < ds.length -> ∀ d, ds[n]? = some d -> AG W [] g d (wipeE env vs) fun e2 => ∃ b, el e2 = .exn x b)
    (hz : ∀ i, i <= n -> (rs i).length < 1000000) (e : Ent) (F : Hp) (σ : St) (H : Hp) (L : List Addr) (Q : VK) (r : Rel W e env F σ H L)
    (q : n = ds.length -> ∀ v F' H', Ext F H F' H' -> rO W (.olst (rs n)) F' H' H v -> Q v H') (qx : n < ds.length -> ∀ F' H' C dd, Ext F H F' H' -> IsExn W F' x C dd -> E C dd σ H') : tLcX wi g te vs E σ H Q :=
  h e F σ H L _ r fun J F1 H1 x1 sq => by
    intro Dl hD
    have r1 := (r.ext x1).nopin
    obtain ⟨Lw, rw', mw⟩ := r1.wipe rfl vs
    have hF1 : F1 Dl = none := x1.s.free hD
    have hH : H Dl = none := x1.h.free hD
    refine ⟨fun i m H' => m = n - i /\ i <= n /\ ∃ F' ws M, Ext F H F' H' /\ (Same F1 F' /\ Same H1 H') /\ Rel W { e with pins := [] } (wipeE env vs) F' (wipe σ vs) H' Lw /\ H' Dl = some (.lst ws) /\ F' Dl = none /\ Owns W F' H' (rs i) ws M /\ (Dl :: M).Nodup /\ ∀ a ∈ M, H a = none /\ F' a = none,
      ⟨n, rfl, Nat.zero_le _, F1, [], [], ?_, ⟨Same.refl _, same_new hD⟩, ?_, upd_same, hF1, by rw [h0]; exact .nil, by simp, fun a h => nomatch h⟩, ?_⟩
    · exact x1.trans (.newH x1.s hD)
    · exact rw'.ext (.newH x1.s hD)
    rintro i m H' ⟨rfl, hi, F', ws, M, xE, s1, rr, hl, hFD, os, nd, hM⟩
    have hDL : Dl ∉ Lw := fun z => by
      obtain ⟨o, ho⟩ := rw'.slots.lives Dl z
      rw [hD] at ho; cases ho
    by_cases hlt : i < n
    · have hd' : ds[i]? = some ds[i] := List.getElem?_eq_getElem (by omega)
      obtain ⟨g1, g2⟩ := sq.go i _ F' H' s1.1 s1.2 rr.sF hd'
      refine .inr ⟨g1, fun H'' => ∃ F' ws M, Ext F H F' H'' /\ (Same F1 F' /\ Same H1 H'') /\ Rel W { e with pins := [] } (wipeE env vs) F' (wipe σ vs) H'' Lw /\ H'' Dl = some (.lst ws) /\ F' Dl = none /\ Owns W F' H'' (rs (i + 1)) ws M /\ (Dl :: M).Nodup /\ ∀ a ∈ M, H a = none /\ F' a = none,
        fun H'' p' => ⟨n - (i + 1), by omega, rfl, hlt, p'⟩, fun x H2 y => ?_⟩
      obtain ⟨F2, x2, sx⟩ := g2 x H2 y
      have rr2 := rr.ext x2
      have fin : ∀ {Fa Ha}, Ext F2 H2 Fa Ha -> Ext F H Fa Ha /\ (Same F1 Fa /\ Same H1 Ha) /\ Rel W { e with pins := [] } (wipeE env vs) Fa (wipe σ vs) Ha Lw /\ Ha Dl = some (.lst ws) /\ Fa Dl = none /\ Owns W Fa Ha (rs i) ws M /\ ∀ a ∈ M, H a = none /\ Fa a = none := fun {Fa Ha} xa => by
        have x3 := x2.trans xa
        have nn : ∀ a, (∃ o, H' a = some o) -> F' a = none -> Fa a = none := fun a ⟨o, ho⟩ hf => by
          cases z : Fa a with
          | none => rfl
          | some u =>
            rcases x3.n a u z with w | w
            · rw [hf] at w; cases w
            · rw [ho] at w; cases w
        exact ⟨xE.trans x3, ⟨s1.1.trans x3.f, s1.2.trans x3.h⟩, rr.ext x3, x3.h _ _ hl, nn Dl ⟨_, hl⟩ hFD, os.frame x3.f fun a _ o ho => x3.h _ _ ho, fun a ha => ⟨(hM a ha).1, nn a (os.lives a ha) (hM a ha).2⟩⟩
      have step := hg x (wipe σ vs) H2 _ (hs i _ hlt hd' { e with pins := [] } F2 (wipe σ vs) H2 Lw x (fun σ2 H2 => te (fun cls d _ H => E cls d σ H) σ2 H2 fun y H4 => ∃ acc, H4 Dl = some (.lst acc) /\ acc.length < sizeLine /\
          (fun H'' => ∃ F' ws M, Ext F H F' H'' /\ (Same F1 F' /\ Same H1 H'') /\ Rel W { e with pins := [] } (wipeE env vs) F' (wipe σ vs) H'' Lw /\ H'' Dl = some (.lst ws) /\ F' Dl = none /\ Owns W F' H'' (rs (i + 1)) ws M /\ (Dl :: M).Nodup /\ ∀ a ∈ M, H a = none /\ F' a = none) (upd H4 Dl (.lst (acc ++ [y])))) rfl rr2 sx fun env2 σ2 L2 k2 q2 => ?_)
      · rw [wipe_wipe] at step
        exact step
      obtain ⟨y, b, hel', hacc⟩ := k2
      refine hel _ env2 _ F2 σ2 H2 L2 _ (fun z => by rw [hel'] at z; cases z) q2 (fun d' b' w F4 H4 eq x4 ⟨My, oy, ndy, ky⟩ => ?_) fun x' b' F4 H4 C dd eq _ _ => by rw [hel'] at eq; cases eq
      rw [hel'] at eq
      cases eq
      obtain ⟨a1, a2, a3, a4, a5, a6, a7⟩ := fin x4
      have hlen : (rs i).length < 1000000 := hz i hi
      refine ⟨ws, a4, by rw [<- a6.length]; exact Nat.lt_of_lt_of_le hlen (by decide), F4, ws ++ [w], M ++ My, ?_, ⟨a2.1, fun b u hb => by rw [upd_ne (fun z => by rw [z, hD] at hb; cases hb)]; exact a2.2 _ _ hb⟩, a3.free hDL a5 (rw'.h0 hD), upd_same, a5, ?_, ?_, ?_⟩
      · exact ⟨a1.f, fun b u hb => by rw [upd_ne (fun z => by rw [z, a5] at hb; cases hb)]; exact a1.s _ _ hb, fun b u hb => by rw [upd_ne (fun z => by rw [z, hH] at hb; cases hb)]; exact a1.h _ _ hb, a1.n⟩
      · have nD : ∀ b ∈ My, b ≠ Dl := fun b hb z => by
          have := x2.h _ _ hl
          rw [<- z, (ky b hb).1] at this; cases this
        rw [hacc]
        refine Owns.snoc (a6.frame (Same.refl _) fun b hb u hu => ?_) (oy.frame (Same.refl _) fun b hb u hu => ?_)
        · rw [upd_ne (fun z => (List.nodup_cons.mp nd).1 (by rw [<- z]; exact hb))]; exact hu
        · rw [upd_ne (nD b hb)]; exact hu
      · have fr : ∀ b ∈ My, b ∉ Dl :: M := fun b hb z => by
          have : ∃ o, H2 b = some o := by
            rcases List.mem_cons.mp z with z | z
            · exact ⟨_, by rw [z]; exact x2.h _ _ hl⟩
            · obtain ⟨o, ho⟩ := os.lives b z
              exact ⟨o, x2.h _ _ ho⟩
          obtain ⟨o, ho⟩ := this
          rw [(ky b hb).1] at ho; cases ho
        have : ((Dl :: M) ++ My).Nodup := by
          rw [List.nodup_append]
          exact ⟨nd, ndy, fun b hb c hc z => fr c hc (by rw [<- z]; exact hb)⟩
        exact this
      · intro b hb
        rcases List.mem_append.mp hb with z | z
        · exact a7 b z
        · exact ⟨(xE.trans x2).h.free (ky b z).1, (ky b z).2⟩
    · have e0 : i = n := by omega
      subst e0
      by_cases he : i = ds.length
      · refine .inl ⟨by have := sq.stop F' H' s1.1 s1.2 rr.sF; rw [he]; exact this, q he _ F' H' xE ⟨Dl :: M, .olst hl os, nd, fun a ha => ?_⟩⟩
        rcases List.mem_cons.mp ha with z | z
        · subst z; exact ⟨hH, hFD⟩
        · exact hM a z
      · have hlt2 : i < ds.length := by omega
        have hd' : ds[i]? = some ds[i] := List.getElem?_eq_getElem hlt2
        obtain ⟨g1, g2⟩ := sq.go i _ F' H' s1.1 s1.2 rr.sF hd'
        refine .inr ⟨g1, fun _ => False, fun _ z => False.elim z, fun x' H2 y => ?_⟩
        obtain ⟨F2, x2, sx⟩ := g2 x' H2 y
        have step := hg x' (wipe σ vs) H2 _ (hx hlt2 _ hd' { e with pins := [] } F2 (wipe σ vs) H2 Lw x' (fun σ2 H2 => te (fun cls d _ H => E cls d σ H) σ2 H2 fun y H4 => ∃ acc, H4 Dl = some (.lst acc) /\ acc.length < sizeLine /\ (fun _ => False) (upd H4 Dl (.lst (acc ++ [y])))) rfl (rr.ext x2) sx fun env2 σ2 L2 k2 q2 => ?_)
        · rw [wipe_wipe] at step
          exact step
        obtain ⟨b, hel'⟩ := k2
        refine hel _ env2 _ F2 σ2 H2 L2 _ (fun z => by rw [hel'] at z; cases z) q2 (fun d' b' w F4 H4 eq _ _ => by rw [hel'] at eq; cases eq) fun x2' b' F4 H4 C dd eq x4 ie => ?_
        rw [hel'] at eq
        cases eq
        exact qx hlt2 F4 H4 C dd ((xE.trans x2).trans x4) ie
def lcZ (g : XG W) (x : XEl W) (e0 : Py.Env) (d : D) : Rz := match g.ev [] d e0 with
  | some e2 => x.ev e2
  | none => .no
def lcGo (g : XG W) (x : XEl W) (e0 : Py.Env) : List D -> List D -> Rz
  | [], acc => .ok (.olst acc) none
  | d :: ds, acc => match lcZ g x e0 d with
    | .ok y _ => lcGo g x e0 ds (acc ++ [y])
    | .exn z _ => .exn z none
    | .no => .no
theorem lcGo_take {g : XG W} {x : XEl W} {e0 : Py.Env} : ∀ {ds acc : List D}, lcGo g x e0 ds acc ≠ .no -> ∃ (rs : Nat -> List D) (n : Nat) (z : Exn), rs 0 = acc /\ n <= ds.length /\ (∀ i, i <= n -> (rs i).length = acc.length + i) /\
    (∀ i d, i < n -> ds[i]? = some d -> ∃ y b, lcZ g x e0 d = .ok y b /\ rs (i + 1) = rs i ++ [y]) /\ (n < ds.length -> ∀ d, ds[n]? = some d -> ∃ b, lcZ g x e0 d = .exn z b) /\
    lcGo g x e0 ds acc = (if n = ds.length then .ok (.olst (rs n)) none else .exn z none)
  | [], acc, _ => ⟨fun _ => acc, 0, ⟨"", []⟩, rfl, Nat.le_refl _, fun i hi => by (show acc.length = acc.length + i); omega, (fun i d hi => absurd hi (Nat.not_lt_zero i)), fun h => absurd h (Nat.not_lt_zero 0), (if_pos rfl).symm⟩
  | d :: ds, acc, hn => by
    match h : lcZ g x e0 d with
    | .ok y b =>
      have e : lcGo g x e0 (d :: ds) acc = lcGo g x e0 ds (acc ++ [y]) := by
        show (match lcZ g x e0 d with | .ok y _ => lcGo g x e0 ds (acc ++ [y]) | .exn z _ => .exn z none | .no => .no) = _
        rw [h]
      rw [e] at hn ⊢
      obtain ⟨rs, n, z, r0, r1, r2, r3, r4, r5⟩ := lcGo_take hn
      refine ⟨fun i => match i with | 0 => acc | i + 1 => rs i, n + 1, z, rfl, by rw [List.length_cons]; omega, fun i hi => ?_, fun i d' hi hd => ?_, fun hlt d' hd => ?_, ?_⟩
      · cases i with
        | zero => rfl
        | succ i =>
          have := r2 i (by omega)
          rw [List.length_append, List.length_singleton] at this
          show (rs i).length = _
          omega
      · cases i with
        | zero =>
          rw [List.getElem?_cons_zero] at hd
          cases hd
          exact ⟨y, b, h, r0⟩
        | succ i =>
          rw [List.getElem?_cons_succ] at hd
          exact r3 i d' (by omega) hd
      · rw [List.getElem?_cons_succ] at hd
        exact r4 (by rw [List.length_cons] at hlt; omega) d' hd
      · rw [r5, List.length_cons]
        by_cases hh : n = ds.length
        · rw [if_pos hh, if_pos (by omega)]
        · rw [if_neg hh, if_neg (by omega)]
    | .exn z b =>
      have e : lcGo g x e0 (d :: ds) acc = .exn z none := by
        show (match lcZ g x e0 d with | .ok y _ => lcGo g x e0 ds (acc ++ [y]) | .exn z _ => .exn z none | .no => .no) = _
        rw [h]
      refine ⟨fun _ => acc, 0, z, rfl, Nat.zero_le _, fun i hi => by (show acc.length = acc.length + i); omega, (fun i d hi => absurd hi (Nat.not_lt_zero i)), fun _ d' hd => ?_, ?_⟩
      · rw [List.getElem?_cons_zero] at hd
        cases hd
        exact ⟨b, h⟩
      · rw [e, if_neg (by rw [List.length_cons]; omega)]
    | .no =>
      refine absurd ?_ hn
      show (match lcZ g x e0 d with | .ok y _ => lcGo g x e0 ds (acc ++ [y]) | .exn z _ => .exn z none | .no => .no) = _
      rw [h]
theorem lcZ_ag {g : XG W} {x : XEl W} {e0 : Py.Env} {d : D} {k : Rz -> Prop} (h : lcZ g x e0 d ≠ .no) (hk : k (lcZ g x e0 d)) : AG W [] g.t d e0 fun e2 => k (x.ev e2) := by
  unfold lcZ at h hk
  match h1 : g.ev [] d e0, h, hk with
  | none, h, _ => exact absurd rfl h
  | some e2, h, hk =>
    intro e F σ H L v Q hP r sh q
    exact g.snd h1 e F σ H L v Q hP r sh fun env' σ' L' z r' => q env' σ' L' (by subst z; exact hk) r'
def lcE (g : XG W) (x : XEl W) (e0 : Py.Env) : Option (List D) -> Rz
  | some ds => if ds.length < 1000000 then lcGo g x e0 ds [] else .no
  | none => .no
def xeLcX (it : XI W) (g : XG W) (x : XEl W) : XEl W where
  t E := tLcX it.t g.t x.t g.own E
  ev env := lcE g x (wipeE env g.own) (it.evP env)
  snd := fun E env e F σ H L Q hn r q qx => by
    match e1 : it.evP env, hn, q, qx with
    | none, hn, _, _ => exact absurd rfl hn
    | some ds, hn, q, qx =>
      unfold lcE at hn q qx
      dsimp only at hn q qx
      by_cases hl : ds.length < 1000000
      · rw [if_pos hl] at hn q qx
        obtain ⟨rs, n, z, r0, r1, r2, r3, r4, r5⟩ := lcGo_take hn
        rw [r5] at q qx
        refine ex_lc (it.sP e1) (g.gw fun _ m => m) x.ev x.snd rs r0 n r1 (x := z) (fun i d hi hd => ?_) (fun hlt d hd => ?_) (fun i hi => ?_) e F σ H L Q r (fun hh v F' H' x1 y1 => ?_) fun hlt F' H' C dd x1 ie => ?_
        · obtain ⟨y, b, h1, h2⟩ := r3 i d hi hd
          exact lcZ_ag (k := fun rz => ∃ y b, rz = .ok y b /\ rs (i + 1) = rs i ++ [y]) (by rw [h1]; intro q; cases q) ⟨y, b, h1, h2⟩
        · obtain ⟨b, h1⟩ := r4 hlt d hd
          exact lcZ_ag (k := fun rz => ∃ b, rz = .exn z b) (by rw [h1]; intro q; cases q) ⟨b, h1⟩
        · have := r2 i hi
          rw [this, List.length_nil]
          omega
        · exact q (.olst (rs n)) none v F' H' (by rw [if_pos hh]) x1 y1
        · exact qx z none F' H' C dd (by rw [if_neg (by omega)]) x1 ie
      · rw [if_neg hl] at hn; exact absurd rfl hn
theorem e_xeLst1 {a : XEl W} {env} : (xeLst1 a).ev env = lst1Z (a.ev env) := rfl
theorem h_lst1Zo {d b} : lst1Z (.ok d b) = .ok (.olst [fz d]) none := rfl
theorem h_lst1Zx {x b} : lst1Z (.exn x b) = .exn x b := rfl
def elM (r : Rz) (env : Py.Env) : RM := match r with | .ok d _ => .ok d env | .exn x _ => .exn x env | .no => .no
theorem e_xmEl {a : XEl W} {P env} : (xmEl a).ev P env = elM (a.ev env) env := rfl
theorem h_elMo {d b env} : elM (.ok d b) env = .ok d env := rfl
theorem h_elMx {x b env} : elM (.exn x b) env = .exn x env := rfl
theorem e_xeTup {a : XEl W} {env} : (xeTup a).ev env = tupZ (a.ev env) := rfl
theorem h_tupZx {x b} : tupZ (.exn x b) = .exn x b := rfl
theorem h_tupZo {ys b} (h : ys.all isSh = true) : tupZ (.ok (.olst ys) b) = .ok (.tup ys) none := by
  unfold tupZ
  dsimp only
  rw [show seqOf (.olst ys) = if ys.all isSh = true then some (false, ys) else none from rfl, if_pos h]
def elMe (T : Tbl) (φ : Sem) (m : String) (n : Nat) : Option D -> Option (List D) -> Rz
  | some nd, some ds => meth1 T φ m n (nd :: ds)
  | _, _ => .no
theorem e_xeMeth {φ : Sem} {m : String} {n : Nat} {o : XP W} {as : XA W} {env} : (xeMeth φ m n o as).ev env = elMe T φ m n (o.evF env) (as.evF env) := by
  show (match o.evF env, as.evF env with | some nd, some ds => meth1 T φ m n (nd :: ds) | _, _ => Rz.no) = _
  cases o.evF env <;> cases as.evF env <;> rfl
theorem h_elMe {φ : Sem} {m : String} {n : Nat} {nd : D} {ds : List D} : elMe T φ m n (some nd) (some ds) = meth1 T φ m n (nd :: ds) := rfl
theorem e_xeLcX {it : XI W} {g : XG W} {x : XEl W} {env} : (xeLcX it g x).ev env = lcE g x (wipeE env g.own) (it.evP env) := rfl
theorem h_lcE {g : XG W} {x : XEl W} {e0 : Py.Env} {ds : List D} (h : ds.length < 1000000) : lcE g x e0 (some ds) = lcGo g x e0 ds [] := if_pos h
theorem lcGo_enc {α : Type} {g : XG W} {x : XEl W} {e0 : Py.Env} {c : α -> D} {vl : α -> D} {st : α -> Option Exn} : ∀ (xs : List α) (acc : List D),
    (∀ a ∈ xs, ∃ b, lcZ g x e0 (c a) = match st a with | some z => .exn z b | none => .ok (vl a) b) ->
    lcGo g x e0 (xs.map c) acc = match xs.findSome? st with | some z => .exn z none | none => .ok (.olst (acc ++ xs.map vl)) none
  | [], acc, _ => by simp [lcGo]
  | a :: xs, acc, h => by
    obtain ⟨b, h1⟩ := h a (List.mem_cons_self ..)
    show (match lcZ g x e0 (c a) with | .ok y _ => lcGo g x e0 (xs.map c) (acc ++ [y]) | .exn z _ => .exn z none | .no => .no) = _
    rw [h1, List.findSome?_cons]
    cases hs : st a with
    | some z => rfl
    | none =>
      dsimp only
      rw [lcGo_enc xs (acc ++ [vl a]) fun a' m => h a' (List.mem_cons_of_mem _ m)]
      cases xs.findSome? st with
      | some z => rfl
      | none => dsimp only; rw [List.map_cons, List.append_assoc]; rfl
end
end Py
namespace Py
open PySem L2
theorem forL_gen {f : D -> Py.Env -> RS} {r : RS} : ∀ {ds : List D} {env : Py.Env} (I : Nat -> Py.Env -> Prop), forL f ds env = r -> I 0 env -> (∀ i d e, ds[i]? = some d -> I i e -> ∃ e', (f d e = .nx e' \/ f d e = .ct e') /\ I (i + 1) e') -> ∃ e', r = .nx e' /\ I ds.length e'
  | [], env, I, h, h0, _ => ⟨env, h.symm, h0⟩
  | d :: ds, env, I, h, h0, hs => by
    obtain ⟨e', h1, h2⟩ := hs 0 d env rfl h0
    have h : (match f d env with | .nx e => forL f ds e | .ct e => forL f ds e | .bk e => .nx e | r => r) = r := h
    have h3 : forL f ds e' = r := by rcases h1 with h1 | h1 <;> (rw [h1] at h; exact h)
    exact forL_gen (fun i e => I (i + 1) e) h3 h2 fun i d e hd hi => hs (i + 1) d e (by simpa using hd) hi
theorem atI_map {α β : Type} (f : α -> β) (xs : List α) (i : Int) : atI (xs.map f) i = (atI xs i).map f := by
  unfold atI
  rw [List.length_map]
  cases ixN xs.length i with
  | none => rfl
  | some j => show (xs.map f)[j]? = _; rw [List.getElem?_map]; rfl
theorem atI_of {α : Type} {xs : List α} {j : Nat} {x : α} (h : xs[j]? = some x) : atI xs (j : Int) = some x := by rw [atI_litN, h]
theorem atI_get {α : Type} {xs : List α} {i : Int} (h0 : 0 <= i) (h : i < xs.length) : ∃ x, atI xs i = some x /\ xs[i.toNat]? = some x := by
  obtain ⟨j, rfl⟩ := Int.eq_ofNat_of_zero_le h0
  have : xs[j]? = some (xs[j]'(by omega)) := List.getElem?_eq_getElem (by omega)
  exact ⟨_, atI_of this, this⟩
theorem sh_map {α : Type} {enc : α -> D} (h : ∀ a, isSh (enc a) = true) (xs : List α) : (xs.map enc).all isSh = true := by
  rw [List.all_eq_true]
  intro d hd
  obtain ⟨a, _, rfl⟩ := List.mem_map.mp hd
  exact h a
theorem fzs_map {α : Type} {enc : α -> D} (h : ∀ a, isSh (enc a) = true) (xs : List α) : fzs (xs.map enc) = xs.map enc := by
  rw [fzs_eq, List.map_map]
  exact List.map_congr_left fun a _ => fz_isSh (h a)
theorem okDs_map {α : Type} {enc : α -> D} {n : Nat} (h : ∀ a, okD n (enc a) = true) (xs : List α) : okDs n (xs.map enc) = true := by
  rw [okDs_all, List.all_eq_true]
  intro d hd
  obtain ⟨a, _, rfl⟩ := List.mem_map.mp hd
  exact h a
theorem eqBs_map {α : Type} [DecidableEq α] {enc : α -> D} (h : ∀ a b, eqB (enc a) (enc b) = decide (a = b)) : ∀ xs ys : List α, eqBs (xs.map enc) (ys.map enc) = decide (xs = ys)
  | [], [] => by rw [List.map_nil, eqBs]; rfl
  | [], y :: ys => by rw [List.map_nil, List.map_cons, h_eqBs_nc]; rfl
  | x :: xs, [] => by rw [List.map_nil, List.map_cons, h_eqBs_cn]; rfl
  | x :: xs, y :: ys => by
    rw [List.map_cons, List.map_cons, eqBs, h, eqBs_map h xs ys]
    by_cases h1 : x = y <;> by_cases h2 : xs = ys <;> simp [h1, h2]
theorem lcL_map {α : Type} {enc : α -> D} {f : D -> Option (List D)} {g : α -> List D} (xs : List α) (h : ∀ a ∈ xs, f (enc a) = some (g a)) : lcL f (xs.map enc) = some (xs.flatMap g) := by
  induction xs with
  | nil => rfl
  | cons x xs ih =>
    show (f (enc x)).bind _ = _
    rw [h x (List.mem_cons_self ..), Option.bind_some, ih fun a m => h a (List.mem_cons_of_mem _ m)]
    rfl
theorem flatMap_one {α β : Type} (f : α -> β) (xs : List α) : (xs.flatMap fun a => [f a]) = xs.map f := by
  induction xs with
  | nil => rfl
  | cons x xs ih => rw [List.flatMap_cons, ih]; rfl
theorem lcL_mapE {α β : Type} {enc : α -> D} {enc2 : β -> D} {f : D -> Option (List D)} (g : α -> β) (xs : List α) (h : ∀ a ∈ xs, f (enc a) = some [enc2 (g a)]) : lcL f (xs.map enc) = some ((xs.map g).map enc2) := by
  rw [lcL_map (g := fun a => [enc2 (g a)]) xs h, flatMap_one, List.map_map]; rfl
end Py
namespace Py
open PySem L2
local macro_rules | `(tactic| walk_at "ev") => `(tactic| try simp (maxSteps := 1000000) (disch := first | omega | decide) only [e_xsSeq, e_xsNext, e_xsAsg, e_xsExpr, e_xsRet, e_xsIf, e_xsFrz, e_xmP, e_xVar_V, e_xtV, e_xtTru, e_xtAnd, e_xtOr, e_xtNot, e_xtYes, e_xVar, e_xInt, e_xBl, e_xNon, e_xStr, e_xSub, e_xMul, e_xDiv, e_xMod, e_xPow, e_xNeg, e_xAdd, e_xEq, e_xNe, e_xLt, e_xGt, e_xGe, e_xIsN, e_xAnd, e_xOr, e_xNot, e_xTup, e_xLst, e_xInt1, e_xAbs, e_xIx, e_xFld, e_xList, e_xTuple, e_xIsi, e_xCall, e_xLc, e_xmVar, e_xmMove, e_xmAppend, e_xoNil, e_xoCons, e_plVar, r_plVar, e_xaNilV, e_xaNilF, e_xaConsV, e_xaConsF, e_xgN, e_xgT, o_xgN, o_xgT, e_xiSeqF, e_xiSeqP, e_xiR1F, e_xiR1P, e_xiR2F, e_xiR2P, e_xsFor, e_evV, e_evK, e_evF, e_evO, e_evB, h_getS0, h_getS0n, h_getSs, h_toV, h_toVn, h_toKf, h_toKp, h_toKv, h_toKn, h_toFf, h_toFp, h_toFv, h_toFn, h_toOf, h_toOp, h_toOv, h_toOn, h_of_f, h_of_p, h_of_v, h_then_nx, h_then_rt, h_then_bk, h_then_ct, h_then_ex, h_then_no, h_thenS_ok, h_thenS_exn, h_thenS_no, h_ofO, h_ofOn, h_of, h_ofn, h_mofO, h_mofOn, h_iteF1, h_iteF0, h_iteFn, h_asgK, h_forK, h_andF1, h_andF0, h_orF1, h_orF0, h_blD, h_turn, h_turnn, h_forE, h_forEn, h_callF, h_callV, h_rzF, h_rzV, h_fz_non, h_sh_non, h_fl_non, h_isN_non, h_fz_bl, h_sh_bl, h_fl_bl, h_fz_int, h_sh_int, h_fl_int, h_isN_int, h_fz_str, h_sh_str, h_fl_str, h_isN_str, h_fz_cls, h_sh_cls, h_fl_cls, h_isN_cls, h_fz_sei, h_sh_sei, h_fl_sei, h_isN_sei, h_fz_scr, h_sh_scr, h_fl_scr, h_isN_scr, h_fz_tup, h_sh_tup, h_fl_tup, h_isN_tup, h_fz_lst, h_sh_lst, h_fl_lst, h_isN_lst, h_fz_dic, h_sh_dic, h_fl_dic, h_isN_dic, h_fz_dit, h_sh_dit, h_fl_dit, h_isN_dit, h_fz_dig, h_sh_dig, h_fl_dig, h_isN_dig, h_fz_ins, h_sh_ins, h_fl_ins, h_isN_ins, h_isN_bl, h_fz_olst, h_sh_olst, h_fl_olst, h_fz_odic, h_sh_odic, h_fl_odic, h_fz_odit, h_sh_odit, h_fl_odit, h_fz_odig, h_sh_odig, h_fl_odig, h_fz_oins, h_sh_oins, h_fl_oins, h_fzs_nil, h_fzs_cons, h_fzs_app, h_tru_bl, h_tru_non, h_tru_int, h_tru_lst, h_tru_tup, h_sub, h_neg, h_addI, h_addT, h_addL, h_addLo, h_addoL, h_addoo, h_eqD, h_neD, h_ok_non, h_ok_bl, h_ok_int, h_ok_str, h_ok_tup, h_ok_lst, h_oks_nil, h_oks_cons, h_eqB_ii, h_eqB_ss, h_eqB_bb, h_eqB_nn, h_eqB_ni, h_eqB_in, h_eqB_nt, h_eqB_tn, h_eqB_tt, h_eqB_ll, h_eqBs_nn, h_eqBs_cc, h_eqBs_nc, h_eqBs_cn, h_cmp, h_ltI, h_ltT, h_ints_nil, h_ints_cons, h_intI, h_intB, h_abs, h_lenL, h_lenT, h_lenS, h_ix, h_it_lst, h_it_olst, h_it_tup, h_it_scr, h_at0, h_at1, h_at2, h_at3, h_at4, h_at5, h_at6, h_at7, h_at8, h_at9, h_at10, h_at11, h_at12, h_atm1, h_seq_lst, h_seq_tup, h_seq_olst, h_seq_scr, h_sF_lst, h_sF_tup, h_sF_scr, h_ty_non, h_ty_bl, h_ty_int, h_ty_str, h_ty_lst, h_ty_tup, h_ty_ins, h_isi_bb, h_isi_bo, h_isi_ob, h_isi_oo, h_isiB_NoneType_bool, h_isiB_NoneType_int, h_isiB_NoneType_str, h_isiB_NoneType_list, h_isiB_NoneType_tuple, h_isiB_NoneType_dict, h_isiB_bool_bool, h_isiB_bool_int, h_isiB_bool_str, h_isiB_bool_list, h_isiB_bool_tuple, h_isiB_bool_dict, h_isiB_int_bool, h_isiB_int_int, h_isiB_int_str, h_isiB_int_list, h_isiB_int_tuple, h_isiB_int_dict, h_isiB_str_bool, h_isiB_str_int, h_isiB_str_str, h_isiB_str_list, h_isiB_str_tuple, h_isiB_str_dict, h_isiB_list_bool, h_isiB_list_int, h_isiB_list_str, h_isiB_list_list, h_isiB_list_tuple, h_isiB_list_dict, h_isiB_tuple_bool, h_isiB_tuple_int, h_isiB_tuple_str, h_isiB_tuple_list, h_isiB_tuple_tuple, h_isiB_tuple_dict, h_isiB_dict_bool, h_isiB_dict_int, h_isiB_dict_str, h_isiB_dict_list, h_isiB_dict_tuple, h_isiB_dict_dict, h_append, h_put0, h_rng1, h_rng2, h_guard1, h_guard0, h_forLn, h_forLc, h_forT_nx, h_forT_ct, h_forT_bk, h_forT_rt, h_forT_ex, h_lc1, h_lcK, h_lcJ1, h_lcJ0, h_wipe0, h_wipes, h_frz, h_frzO, h_frzOn, h_runR_rt, h_runR_nx, h_retZ, h_bGetn, h_bGets, h_setS, h_fldI, h_fldO, h_iteFd1, h_iteFd0, h_iteFe1, h_iteFe0, h_andFd1, h_andFd0, h_andFe1, h_andFe0, h_orFd1, h_orFd0, h_orFe1, h_orFe0, h_lcJd1, h_lcJd0, h_lcJe1, h_lcJe0, h_callO1, h_meth1, h_meth2, h_resE, h_resEn, h_posn, h_posc, h_eMmeth, h_methM1, h_methM0, h_rm0o, h_rm0x, h_rm0n, h_rm1o, h_rm1x, h_putc, h_putE, h_subF, h_subI, h_putF, h_putI, h_setOs, h_eSfld, h_fldK, h_setFD, h_setFn, h_setFc, h_eMake, h_makeF, h_makeV, h_mk1, h_mkR, h_eProp, h_propF, h_propV, h_prop1, h_eLenU, h_lenI_lst, h_lenI_tup, h_lenI_scr, h_lenI_ins, h_lenQ, h_lenR, h_eSl, h_slE, h_evI0, h_evI1, h_intO, h_eMs0, h_eMs1, h_RMthenL_ok, h_RLthenL_ok, h_RLthenM_ok, h_RMthenM_ok, h_RTthen_ok, h_RTthenS_ok, h_RMthenL_exn, h_RLthenL_exn, h_RLthenM_exn, h_RMthenM_exn, h_RTthen_exn, h_RTthenS_exn, h_consK, h_consL, h_RTof, h_eListU, h_lstE_lst, h_lstE_tup, h_lstE_scr, h_lstE_olst, h_lstE_ins, h_itQ, h_it_ins, h_lo_lst, h_lo_olst, h_eiSeqUF, h_eiSeqUP, h_seqFI_lst, h_seqFI_tup, h_seqFI_scr, h_seqFI_ins, h_seqKI_lst, h_seqKI_tup, h_seqKI_scr, h_seqKI_ins, h_seqKI_olst, h_ixD_ins, h_okD_ins, h_eqD_ins, h_addD_ins, h_addD_oins, h_ownE, h_okSame, h_eMakeN, h_makeNE_F, h_makeNE_V, h_makeNE_W, h_mkN, h_mgM_t, h_mgM_f, h_mgM_n, h_eDnew, h_eDget2, h_getE_non, h_getE_int, h_getE_str, h_getM_s, h_getM_n, h_eDix, h_dgE_int, h_dgE_str, h_inK_non, h_inK_int, h_inK_str, h_eDict, h_dicOf_d, h_dicOf_o, h_dicF_d, h_dicF_o, h_eDput, h_dputK, h_dputI, h_dputS, h_eForD, h_itemD0, h_itemD1, h_lockR, h_noEx_nx, h_noEx_rt, h_isDic, h_dsK, h_eDc, h_eDcD, h_frE_s, h_frE_n, h_guardB_t, h_dc1, h_dcK, h_dcJ1, h_dcJ0, h_keyD_i, h_keyD_s, h_kDs_n, h_kDs_c, h_dcL_n, h_putP_n, h_eRaise, h_exOf, h_exOfn, h_eTryAs, h_tryK_nx, h_tryK_rt, h_tryK_bk, h_tryK_ct, h_tryK_no, h_tryK_ex, h_tryJ1, h_tryJ0, h_clr_nx, h_clr_rt, h_clr_bk, h_clr_ct, h_clr_no, h_ehAsg, h_hAsgK, h_hAsgKn, h_qevO, h_qevB, h_qevF, h_toQf, h_toQp, h_toQv, h_toQn, h_eqP, h_eqFld, h_eqLst, h_eqs0, h_eqs1, h_eCallOM, h_callOMs, h_runR_ex, h_retX, h_thenY1, h_thenY2, h_thenY3, h_look1, h_look2, h_div, h_mod, h_mulL, h_mulR, h_rngOk, List.zip_cons_cons, List.zip_nil_left, if_pos, if_neg, List.getElem?_cons_zero, List.getElem?_cons_succ, List.getElem?_nil, List.getLast?_append, List.getLast?_singleton, List.getLast?_cons_cons, runFn, env0, Option.toList, List.map_cons, List.map_nil, List.length_cons, List.length_nil, List.length_append, List.length_map, List.length_set, List.replicate, List.cons_append, List.nil_append, List.append_nil, Nat.reduceSub, Nat.reduceAdd, Nat.reduceLT, Nat.reduceLeDiff, Nat.reduceEqDiff, Nat.zero_add, Nat.add_zero, List.set_cons_zero, List.set_cons_succ, List.set_nil, Option.bind_some, Option.bind_none, Option.map_some, Option.map_none, List.foldl_cons, List.foldl_nil, not_false_eq_true, not_true_eq_false, and_true, true_and, and_self, and_false, false_and, if_true, if_false, ite_true, ite_false, reduceIte, List.not_mem_nil, reduceCtorEq, List.mem_cons, or_false, false_or, or_self, ne_eq, Bool.not_true, Bool.not_false, Bool.and_true, Bool.and_false, Bool.true_and, Bool.false_and, Bool.or_true, Bool.or_false, Bool.true_or, Bool.false_or, Bool.and_self, Bool.or_self, List.all_cons, List.all_nil, decide_true, decide_false, decide_not, decide_eq_true_eq, decide_eq_false_iff_not, Bool.not_not, Int.reduceLT, Int.reduceLE, Int.reduceEq, Int.reduceNe, Int.reduceAdd, Int.reduceMul, Int.reduceSub, Int.reduceNeg, List.isEmpty_cons, List.isEmpty_nil, Bool.false_eq_true, Bool.true_eq_false, String.reduceEq, Function.comp_apply, Option.isNone_none, Option.some_or, Option.isNone_some, List.getLast?_concat, List.dropLast_concat, List.all_append])
abbrev Pr := Int × Int
def eR (p : Pr) : D := .tup [.int p.1, .int p.2]
def oR : Option Pr -> D
  | none => .non
  | some p => eR p
def ltR (p q : Pr) : Bool := HT.lexLt [p.1, p.2] [q.1, q.2]
def dR (p : Pr) : PyData := .tuple [.int p.1, .int p.2]
theorem sh_eR (p : Pr) : isSh (eR p) = true := rfl
theorem fz_eR (p : Pr) : fz (eR p) = eR p := fz_isSh rfl
theorem fl_eR (p : Pr) : isFlat (eR p) = false := rfl
theorem sh_oR (o : Option Pr) : isSh (oR o) = true := by cases o <;> rfl
theorem fz_oR (o : Option Pr) : fz (oR o) = oR o := fz_isSh (sh_oR o)
theorem ok_eR (n : Nat) (p : Pr) : okD (n + 1) (eR p) = true := by unfold eR; walk_at "ev"
theorem ok_oR (n : Nat) (o : Option Pr) : okD (n + 1) (oR o) = true := by cases o with
  | none => unfold oR; walk_at "ev"
  | some p => exact ok_eR n p
theorem eq_eR (p q : Pr) : eqB (eR p) (eR q) = decide (p = q) := by
  unfold eR; walk_at "ev"; rw [Bool.eq_iff_iff]; simp [Prod.ext_iff]
theorem eq_eRn (p : Pr) : eqB (eR p) .non = false := by unfold eR; walk_at "ev"
theorem eq_neR (p : Pr) : eqB .non (eR p) = false := by unfold eR; walk_at "ev"
theorem eq_oR (p q : Option Pr) : eqB (oR p) (oR q) = decide (p = q) := by
  cases p <;> cases q <;> (unfold oR)
  · walk_at "ev"
  · rw [eq_neR]; simp
  · rw [eq_eRn]; simp
  · rw [eq_eR]; simp
theorem isN_eR (p : Pr) : isNon (eR p) = false := rfl
theorem isN_oR (o : Option Pr) : isNon (oR o) = o.isNone := by cases o <;> rfl
theorem ty_eR (p : Pr) : tyD (eR p) = some (false, "tuple") := rfl
theorem len_eR (p : Pr) : lenD [eR p] = some (.int 2) := rfl
theorem sF_eR (p : Pr) : seqF (eR p) = some [.int p.1, .int p.2] := rfl
theorem it_eR (p : Pr) : itemsD (eR p) = some [.int p.1, .int p.2] := rfl
theorem lt_eR (p q : Pr) : ltD (eR p) (eR q) = some (.bl (ltR p q)) := by unfold eR ltR; walk_at "ev"
theorem okl_eR (n : Nat) (ps : List Pr) : okDs (n + 1) (ps.map eR) = true := okDs_map (ok_eR n) ps
theorem eql_eR (ps qs : List Pr) : eqBs (ps.map eR) (qs.map eR) = decide (ps = qs) := eqBs_map eq_eR ps qs
theorem shl_eR (ps : List Pr) : (ps.map eR).all isSh = true := sh_map sh_eR ps
theorem fzl_eR (ps : List Pr) : fzs (ps.map eR) = ps.map eR := fzs_map sh_eR ps
theorem pd_eR (p : Pr) : pd (eR p) = some (dR p) := by unfold eR dR; simp [pd, pds]
theorem sortOk_dR (ps : List Pr) : sortOk (ps.map dR) = true := by
  unfold sortOk
  simp only [Bool.and_eq_true, List.all_eq_true, Bool.or_eq_true]
  refine ⟨⟨?_, .inl ?_⟩, ?_⟩
  · intro a ha b hb
    obtain ⟨x, _, rfl⟩ := List.mem_map.mp ha
    obtain ⟨y, _, rfl⟩ := List.mem_map.mp hb
    simp [dR, PySem.W.alike, PySem.W.alikeAll]
  · intro a ha
    obtain ⟨x, _, rfl⟩ := List.mem_map.mp ha
    rfl
  · intro a ha
    obtain ⟨x, _, rfl⟩ := List.mem_map.mp ha
    simp [dR, PyData.depth, PyData.depthAll]
theorem ltR_iff (p q : Pr) : ltR p q = true ↔ p.1 < q.1 \/ p.1 = q.1 /\ p.2 < q.2 := by
  unfold ltR
  rw [HT.lexLt_cons, HT.lexLt_cons, HT.lexLt_nil_nil]
  by_cases h : p.1 = q.1 <;> by_cases h2 : p.2 = q.2 <;> simp [h, h2]
def leR (p q : Pr) : Bool := !ltR q p
theorem le_dR : PySem.W.dataLe false dR = leR := by
  funext p q
  rw [PySem.W.dataLe_eq]
  show (!PySem.W.dataLt (dR q) (dR p)) = _
  unfold dR leR
  rw [PySem.W.dataLt_ii, Bool.eq_iff_iff]
  simp [<- ltR_iff]
def srtR (ps : List Pr) : List Pr := ps.mergeSort leR
theorem srt_eR (ps : List Pr) : sortD (ps.map eR) = some ((srtR ps).map eR) := by
  rw [sortD_map pd_eR ps (sortOk_dR ps), le_dR]; rfl
end Py
namespace Py
open PySem L2
local macro_rules | `(tactic| walk_at "ev") => `(tactic| try simp (maxSteps := 1000000) (disch := first | omega | decide) only [e_xsSeq, e_xsNext, e_xsAsg, e_xsExpr, e_xsRet, e_xsIf, e_xsFrz, e_xmP, e_xVar_V, e_xtV, e_xtTru, e_xtAnd, e_xtOr, e_xtNot, e_xtYes, e_xVar, e_xInt, e_xBl, e_xNon, e_xStr, e_xSub, e_xMul, e_xDiv, e_xMod, e_xPow, e_xNeg, e_xAdd, e_xEq, e_xNe, e_xLt, e_xGt, e_xGe, e_xIsN, e_xAnd, e_xOr, e_xNot, e_xTup, e_xLst, e_xInt1, e_xAbs, e_xIx, e_xFld, e_xList, e_xTuple, e_xIsi, e_xCall, e_xLc, e_xmVar, e_xmMove, e_xmAppend, e_xoNil, e_xoCons, e_plVar, r_plVar, e_xaNilV, e_xaNilF, e_xaConsV, e_xaConsF, e_xgN, e_xgT, o_xgN, o_xgT, e_xiSeqF, e_xiSeqP, e_xiR1F, e_xiR1P, e_xiR2F, e_xiR2P, e_xsFor, e_evV, e_evK, e_evF, e_evO, e_evB, h_getS0, h_getS0n, h_getSs, h_toV, h_toVn, h_toKf, h_toKp, h_toKv, h_toKn, h_toFf, h_toFp, h_toFv, h_toFn, h_toOf, h_toOp, h_toOv, h_toOn, h_of_f, h_of_p, h_of_v, h_then_nx, h_then_rt, h_then_bk, h_then_ct, h_then_ex, h_then_no, h_thenS_ok, h_thenS_exn, h_thenS_no, h_ofO, h_ofOn, h_of, h_ofn, h_mofO, h_mofOn, h_iteF1, h_iteF0, h_iteFn, h_asgK, h_forK, h_andF1, h_andF0, h_orF1, h_orF0, h_blD, h_turn, h_turnn, h_forE, h_forEn, h_callF, h_callV, h_rzF, h_rzV, h_fz_non, h_sh_non, h_fl_non, h_isN_non, h_fz_bl, h_sh_bl, h_fl_bl, h_fz_int, h_sh_int, h_fl_int, h_isN_int, h_fz_str, h_sh_str, h_fl_str, h_isN_str, h_fz_cls, h_sh_cls, h_fl_cls, h_isN_cls, h_fz_sei, h_sh_sei, h_fl_sei, h_isN_sei, h_fz_scr, h_sh_scr, h_fl_scr, h_isN_scr, h_fz_tup, h_sh_tup, h_fl_tup, h_isN_tup, h_fz_lst, h_sh_lst, h_fl_lst, h_isN_lst, h_fz_dic, h_sh_dic, h_fl_dic, h_isN_dic, h_fz_dit, h_sh_dit, h_fl_dit, h_isN_dit, h_fz_dig, h_sh_dig, h_fl_dig, h_isN_dig, h_fz_ins, h_sh_ins, h_fl_ins, h_isN_ins, h_isN_bl, h_fz_olst, h_sh_olst, h_fl_olst, h_fz_odic, h_sh_odic, h_fl_odic, h_fz_odit, h_sh_odit, h_fl_odit, h_fz_odig, h_sh_odig, h_fl_odig, h_fz_oins, h_sh_oins, h_fl_oins, h_fzs_nil, h_fzs_cons, h_fzs_app, h_tru_bl, h_tru_non, h_tru_int, h_tru_lst, h_tru_tup, h_sub, h_neg, h_addI, h_addT, h_addL, h_addLo, h_addoL, h_addoo, h_eqD, h_neD, h_ok_non, h_ok_bl, h_ok_int, h_ok_str, h_ok_tup, h_ok_lst, h_oks_nil, h_oks_cons, h_eqB_ii, h_eqB_ss, h_eqB_bb, h_eqB_nn, h_eqB_ni, h_eqB_in, h_eqB_nt, h_eqB_tn, h_eqB_tt, h_eqB_ll, h_eqBs_nn, h_eqBs_cc, h_eqBs_nc, h_eqBs_cn, h_cmp, h_ltI, h_ltT, h_ints_nil, h_ints_cons, h_intI, h_intB, h_abs, h_lenL, h_lenT, h_lenS, h_ix, h_it_lst, h_it_olst, h_it_tup, h_it_scr, h_at0, h_at1, h_at2, h_at3, h_at4, h_at5, h_at6, h_at7, h_at8, h_at9, h_at10, h_at11, h_at12, h_atm1, h_seq_lst, h_seq_tup, h_seq_olst, h_seq_scr, h_sF_lst, h_sF_tup, h_sF_scr, h_ty_non, h_ty_bl, h_ty_int, h_ty_str, h_ty_lst, h_ty_tup, h_ty_ins, h_isi_bb, h_isi_bo, h_isi_ob, h_isi_oo, h_isiB_NoneType_bool, h_isiB_NoneType_int, h_isiB_NoneType_str, h_isiB_NoneType_list, h_isiB_NoneType_tuple, h_isiB_NoneType_dict, h_isiB_bool_bool, h_isiB_bool_int, h_isiB_bool_str, h_isiB_bool_list, h_isiB_bool_tuple, h_isiB_bool_dict, h_isiB_int_bool, h_isiB_int_int, h_isiB_int_str, h_isiB_int_list, h_isiB_int_tuple, h_isiB_int_dict, h_isiB_str_bool, h_isiB_str_int, h_isiB_str_str, h_isiB_str_list, h_isiB_str_tuple, h_isiB_str_dict, h_isiB_list_bool, h_isiB_list_int, h_isiB_list_str, h_isiB_list_list, h_isiB_list_tuple, h_isiB_list_dict, h_isiB_tuple_bool, h_isiB_tuple_int, h_isiB_tuple_str, h_isiB_tuple_list, h_isiB_tuple_tuple, h_isiB_tuple_dict, h_isiB_dict_bool, h_isiB_dict_int, h_isiB_dict_str, h_isiB_dict_list, h_isiB_dict_tuple, h_isiB_dict_dict, h_append, h_put0, h_rng1, h_rng2, h_guard1, h_guard0, h_forLn, h_forLc, h_forT_nx, h_forT_ct, h_forT_bk, h_forT_rt, h_forT_ex, h_lc1, h_lcK, h_lcJ1, h_lcJ0, h_wipe0, h_wipes, h_frz, h_frzO, h_frzOn, h_runR_rt, h_runR_nx, h_retZ, h_bGetn, h_bGets, h_setS, h_fldI, h_fldO, h_iteFd1, h_iteFd0, h_iteFe1, h_iteFe0, h_andFd1, h_andFd0, h_andFe1, h_andFe0, h_orFd1, h_orFd0, h_orFe1, h_orFe0, h_lcJd1, h_lcJd0, h_lcJe1, h_lcJe0, h_callO1, h_meth1, h_meth2, h_resE, h_resEn, h_posn, h_posc, h_eMmeth, h_methM1, h_methM0, h_rm0o, h_rm0x, h_rm0n, h_rm1o, h_rm1x, h_putc, h_putE, h_subF, h_subI, h_putF, h_putI, h_setOs, h_eSfld, h_fldK, h_setFD, h_setFn, h_setFc, h_eMake, h_makeF, h_makeV, h_mk1, h_mkR, h_eProp, h_propF, h_propV, h_prop1, h_eLenU, h_lenI_lst, h_lenI_tup, h_lenI_scr, h_lenI_ins, h_lenQ, h_lenR, h_eSl, h_slE, h_evI0, h_evI1, h_intO, h_eMs0, h_eMs1, h_RMthenL_ok, h_RLthenL_ok, h_RLthenM_ok, h_RMthenM_ok, h_RTthen_ok, h_RTthenS_ok, h_RMthenL_exn, h_RLthenL_exn, h_RLthenM_exn, h_RMthenM_exn, h_RTthen_exn, h_RTthenS_exn, h_consK, h_consL, h_RTof, h_eListU, h_lstE_lst, h_lstE_tup, h_lstE_scr, h_lstE_olst, h_lstE_ins, h_itQ, h_it_ins, h_lo_lst, h_lo_olst, h_eiSeqUF, h_eiSeqUP, h_seqFI_lst, h_seqFI_tup, h_seqFI_scr, h_seqFI_ins, h_seqKI_lst, h_seqKI_tup, h_seqKI_scr, h_seqKI_ins, h_seqKI_olst, h_ixD_ins, h_okD_ins, h_eqD_ins, h_addD_ins, h_addD_oins, h_ownE, h_okSame, h_eMakeN, h_makeNE_F, h_makeNE_V, h_makeNE_W, h_mkN, h_mgM_t, h_mgM_f, h_mgM_n, h_eDnew, h_eDget2, h_getE_non, h_getE_int, h_getE_str, h_getM_s, h_getM_n, h_eDix, h_dgE_int, h_dgE_str, h_inK_non, h_inK_int, h_inK_str, h_eDict, h_dicOf_d, h_dicOf_o, h_dicF_d, h_dicF_o, h_eDput, h_dputK, h_dputI, h_dputS, h_eForD, h_itemD0, h_itemD1, h_lockR, h_noEx_nx, h_noEx_rt, h_isDic, h_dsK, h_eDc, h_eDcD, h_frE_s, h_frE_n, h_guardB_t, h_dc1, h_dcK, h_dcJ1, h_dcJ0, h_keyD_i, h_keyD_s, h_kDs_n, h_kDs_c, h_dcL_n, h_putP_n, h_eRaise, h_exOf, h_exOfn, h_eTryAs, h_tryK_nx, h_tryK_rt, h_tryK_bk, h_tryK_ct, h_tryK_no, h_tryK_ex, h_tryJ1, h_tryJ0, h_clr_nx, h_clr_rt, h_clr_bk, h_clr_ct, h_clr_no, h_ehAsg, h_hAsgK, h_hAsgKn, h_qevO, h_qevB, h_qevF, h_toQf, h_toQp, h_toQv, h_toQn, h_eqP, h_eqFld, h_eqLst, h_eqs0, h_eqs1, h_eCallOM, h_callOMs, h_runR_ex, h_retX, h_thenY1, h_thenY2, h_thenY3, h_look1, h_look2, h_div, h_mod, h_mulL, h_mulR, h_rngOk, List.zip_cons_cons, List.zip_nil_left, if_pos, if_neg, List.getElem?_cons_zero, List.getElem?_cons_succ, List.getElem?_nil, List.getLast?_append, List.getLast?_singleton, List.getLast?_cons_cons, runFn, env0, Option.toList, List.map_cons, List.map_nil, List.length_cons, List.length_nil, List.length_append, List.length_map, List.length_set, List.replicate, List.cons_append, List.nil_append, List.append_nil, Nat.reduceSub, Nat.reduceAdd, Nat.reduceLT, Nat.reduceLeDiff, Nat.reduceEqDiff, Nat.zero_add, Nat.add_zero, List.set_cons_zero, List.set_cons_succ, List.set_nil, Option.bind_some, Option.bind_none, Option.map_some, Option.map_none, List.foldl_cons, List.foldl_nil, not_false_eq_true, not_true_eq_false, and_true, true_and, and_self, and_false, false_and, if_true, if_false, ite_true, ite_false, reduceIte, List.not_mem_nil, reduceCtorEq, List.mem_cons, or_false, false_or, or_self, ne_eq, Bool.not_true, Bool.not_false, Bool.and_true, Bool.and_false, Bool.true_and, Bool.false_and, Bool.or_true, Bool.or_false, Bool.true_or, Bool.false_or, Bool.and_self, Bool.or_self, List.all_cons, List.all_nil, decide_true, decide_false, decide_not, decide_eq_true_eq, decide_eq_false_iff_not, Bool.not_not, Int.reduceLT, Int.reduceLE, Int.reduceEq, Int.reduceNe, Int.reduceAdd, Int.reduceMul, Int.reduceSub, Int.reduceNeg, List.isEmpty_cons, List.isEmpty_nil, Bool.false_eq_true, Bool.true_eq_false, String.reduceEq, Function.comp_apply, Option.isNone_none, Option.some_or, Option.isNone_some, List.getLast?_concat, List.dropLast_concat, List.all_append])
class Enc (α : Type) [DecidableEq α] where
  enc : α -> D
  sh : ∀ a, isSh (enc a) = true
  dp : Nat
  ok : ∀ n a, okD (n + dp) (enc a) = true
  eq : ∀ a b, eqB (enc a) (enc b) = decide (a = b)
open Enc (enc)
class EncN (α : Type) [DecidableEq α] [Enc α] : Prop where
  nn : ∀ a : α, isNon (enc a) = false
  en : ∀ a : α, eqB (enc a) .non = false
  ne : ∀ a : α, eqB .non (enc a) = false
class EncF (α : Type) [DecidableEq α] [Enc α] : Prop where
  fl : ∀ a : α, isFlat (enc a) = true
section
variable {α β γ : Type} [DecidableEq α] [DecidableEq β] [DecidableEq γ] [Enc α] [Enc β] [Enc γ]
theorem sh_enc (a : α) : isSh (enc a) = true := Enc.sh a
theorem fz_enc (a : α) : fz (enc a) = enc a := fz_isSh (Enc.sh a)
theorem shl_enc (xs : List α) : (xs.map enc).all isSh = true := sh_map Enc.sh xs
theorem fzl_enc (xs : List α) : fzs (xs.map enc) = xs.map enc := fzs_map Enc.sh xs
theorem fl_enc [EncF α] (a : α) : isFlat (enc a) = true := EncF.fl a
theorem nn_enc [EncN α] (a : α) : isNon (enc a) = false := EncN.nn a
theorem ok_enc {n : Nat} (a : α) (h : Enc.dp α <= n) : okD n (enc a) = true := by
  have := Enc.ok (n - Enc.dp α) a
  rwa [show n - Enc.dp α + Enc.dp α = n by omega] at this
theorem okl_enc {n : Nat} (xs : List α) (h : Enc.dp α <= n) : okDs n (xs.map enc) = true := okDs_map (fun a => ok_enc a h) xs
theorem eq_enc (a b : α) : eqB (enc a) (enc b) = decide (a = b) := Enc.eq a b
theorem eql_enc (xs ys : List α) : eqBs (xs.map enc) (ys.map enc) = decide (xs = ys) := eqBs_map Enc.eq xs ys
theorem en_enc [EncN α] (a : α) : eqB (enc a) .non = false := EncN.en a
theorem ne_enc [EncN α] (a : α) : eqB .non (enc a) = false := EncN.ne a
end
instance : Enc Int := ⟨.int, fun _ => rfl, 0, fun n a => by walk_at "ev", fun a b => by walk_at "ev"⟩
instance : EncN Int := ⟨fun _ => rfl, fun a => by show eqB (.int a) .non = _; walk_at "ev", fun a => by show eqB .non (.int a) = _; walk_at "ev"⟩
instance : EncF Int := ⟨fun _ => rfl⟩
theorem enc_int (i : Int) : enc i = .int i := rfl
instance : Enc Bool := ⟨.bl, fun _ => rfl, 0, fun n a => by walk_at "ev", fun a b => by walk_at "ev"⟩
instance : EncN Bool := ⟨fun _ => rfl, fun a => by show eqB (.bl a) .non = _; simp [eqB], fun a => by show eqB .non (.bl a) = _; simp [eqB]⟩
instance : EncF Bool := ⟨fun _ => rfl⟩
theorem enc_bool (i : Bool) : enc i = .bl i := rfl
instance : Enc String := ⟨.str, fun _ => rfl, 0, fun n a => by walk_at "ev", fun a b => by walk_at "ev"⟩
instance : EncN String := ⟨fun _ => rfl, fun a => by show eqB (.str a) .non = _; simp [eqB], fun a => by show eqB .non (.str a) = _; simp [eqB]⟩
instance : EncF String := ⟨fun _ => rfl⟩
section
variable {α β γ : Type} [DecidableEq α] [DecidableEq β] [DecidableEq γ] [Enc α] [Enc β] [Enc γ]
def encO : Option α -> D
  | none => .non
  | some a => enc a
instance [EncN α] : Enc (Option α) where
  enc := encO
  sh a := by cases a; rfl; exact Enc.sh _
  dp := Enc.dp α
  ok n a := by
    cases a with
    | none => show okD _ .non = true; walk_at "ev"
    | some a => exact Enc.ok n a
  eq a b := by
    cases a <;> cases b
    · show eqB .non .non = _; walk_at "ev"
    · rename_i b; show eqB .non (enc b) = _; rw [ne_enc]; simp
    · rename_i b; show eqB (enc b) .non = _; rw [en_enc]; simp
    · rename_i a b; show eqB (enc a) (enc b) = _; rw [eq_enc]; simp
instance [EncN α] [EncF α] : EncF (Option α) := ⟨fun a => by cases a; rfl; exact EncF.fl (α := α) _⟩
theorem isN_opt [EncN α] (o : Option α) : isNon (enc o) = o.isNone := by
  cases o with
  | none => rfl
  | some a => exact nn_enc a
def enc2 (p : α × β) : D := .tup [enc p.1, enc p.2]
instance : Enc (α × β) where
  enc := enc2
  sh _ := rfl
  dp := max (Enc.dp α) (Enc.dp β) + 1
  ok n a := by
    show okD (n + (max (Enc.dp α) (Enc.dp β) + 1)) (.tup [enc a.1, enc a.2]) = true
    rw [<- Nat.add_assoc, h_ok_tup, h_oks_cons, h_oks_cons, h_oks_nil, ok_enc _ (by omega), ok_enc _ (by omega)]; rfl
  eq a b := by
    show eqB (.tup [enc a.1, enc a.2]) (.tup [enc b.1, enc b.2]) = _
    rw [h_eqB_tt, h_eqBs_cc, h_eqBs_cc, h_eqBs_nn, eq_enc, eq_enc, Bool.eq_iff_iff]
    simp [Prod.ext_iff]
instance : EncN (α × β) := ⟨fun _ => rfl, fun a => by show eqB (.tup _) .non = _; walk_at "ev", fun a => by show eqB .non (.tup _) = _; walk_at "ev"⟩
theorem it_pair (p : α × β) : itemsD (enc p) = some [enc p.1, enc p.2] := rfl
theorem sF_pair (p : α × β) : seqF (enc p) = some [enc p.1, enc p.2] := rfl
theorem so_pair (p : α × β) : seqOf (enc p) = some (true, [enc p.1, enc p.2]) := rfl
theorem ty_pair (p : α × β) : tyD (enc p) = some (false, "tuple") := rfl
theorem len_pair (p : α × β) : lenD [enc p] = some (.int 2) := rfl
theorem lenI_pair {T : Tbl} {φ : Sem} (p : α × β) : lenI1 T φ [enc p] = some (.int 2) := rfl
theorem fl_pair (p : α × β) : isFlat (enc p) = false := rfl
theorem xg_pair {W : Wd T} {gs : XGs W} {P : List Nat} {env : Py.Env} (p : α × β) : (xgT 2 gs).ev P (enc p) env = gs.ev P [enc p.1, enc p.2] env := by show (xgT 2 gs).ev P (.tup [enc p.1, enc p.2]) env = _; rw [e_xgT]; exact if_pos rfl
structure T3 (α β γ : Type) where
  a : α
  b : β
  c : γ
deriving DecidableEq
instance : Enc (T3 α β γ) where
  enc p := .tup [enc p.a, enc p.b, enc p.c]
  sh _ := rfl
  dp := max (Enc.dp α) (max (Enc.dp β) (Enc.dp γ)) + 1
  ok n a := by
    show okD (n + (max (Enc.dp α) (max (Enc.dp β) (Enc.dp γ)) + 1)) (.tup [enc a.a, enc a.b, enc a.c]) = true
    rw [<- Nat.add_assoc, h_ok_tup, h_oks_cons, h_oks_cons, h_oks_cons, h_oks_nil, ok_enc _ (by omega), ok_enc _ (by omega), ok_enc _ (by omega)]; rfl
  eq a b := by
    show eqB (.tup [enc a.a, enc a.b, enc a.c]) (.tup [enc b.a, enc b.b, enc b.c]) = _
    rw [h_eqB_tt, h_eqBs_cc, h_eqBs_cc, h_eqBs_cc, h_eqBs_nn, eq_enc, eq_enc, eq_enc, Bool.eq_iff_iff]
    cases a; cases b
    simp
instance : EncN (T3 α β γ) := ⟨fun _ => rfl, fun a => by show eqB (.tup _) .non = _; walk_at "ev", fun a => by show eqB .non (.tup _) = _; walk_at "ev"⟩
theorem it_t3 (p : T3 α β γ) : itemsD (enc p) = some [enc p.a, enc p.b, enc p.c] := rfl
theorem sF_t3 (p : T3 α β γ) : seqF (enc p) = some [enc p.a, enc p.b, enc p.c] := rfl
theorem sFI_t3 {T : Tbl} (p : T3 α β γ) : seqFI T (enc p) = some [enc p.a, enc p.b, enc p.c] := rfl
theorem ty_t3 (p : T3 α β γ) : tyD (enc p) = some (false, "tuple") := rfl
theorem len_t3 (p : T3 α β γ) : lenD [enc p] = some (.int 3) := rfl
theorem lenI_t3 {T : Tbl} {φ : Sem} (p : T3 α β γ) : lenI1 T φ [enc p] = some (.int 3) := rfl
theorem fl_t3 (p : T3 α β γ) : isFlat (enc p) = false := rfl
theorem xg_t3 {W : Wd T} {gs : XGs W} {P : List Nat} {env : Py.Env} (p : T3 α β γ) : (xgT 3 gs).ev P (enc p) env = gs.ev P [enc p.a, enc p.b, enc p.c] env := by show (xgT 3 gs).ev P (.tup [enc p.a, enc p.b, enc p.c]) env = _; rw [e_xgT]; exact if_pos rfl
instance : Enc (List α) where
  enc xs := .lst (xs.map enc)
  sh _ := rfl
  dp := Enc.dp α + 1
  ok n a := by
    show okD (n + (Enc.dp α + 1)) (.lst _) = true
    rw [<- Nat.add_assoc, h_ok_lst]; exact okl_enc a (by omega)
  eq a b := by
    show eqB (.lst _) (.lst _) = _
    rw [h_eqB_ll, eql_enc]
instance : EncN (List α) := ⟨fun _ => rfl, fun a => by show eqB (.lst _) .non = _; simp [eqB], fun a => by show eqB .non (.lst _) = _; simp [eqB]⟩
structure Tp (α : Type) where
  l : List α
deriving DecidableEq
instance : Enc (Tp α) where
  enc xs := .tup (xs.l.map enc)
  sh _ := rfl
  dp := Enc.dp α + 1
  ok n a := by
    show okD (n + (Enc.dp α + 1)) (.tup _) = true
    rw [<- Nat.add_assoc, h_ok_tup]; exact okl_enc a.l (by omega)
  eq a b := by
    show eqB (.tup _) (.tup _) = _
    rw [h_eqB_tt, eql_enc]
    cases a; cases b; simp
instance : EncN (Tp α) := ⟨fun _ => rfl, fun a => by show eqB (.tup _) .non = _; simp [eqB], fun a => by show eqB .non (.tup _) = _; simp [eqB]⟩
end
theorem cutL_map {α β : Type} (f : α -> β) (xs : List α) (lo hi : Option Int) : cutL (xs.map f) lo hi = (cutL xs lo hi).map f := by
  unfold cutL
  rw [List.length_map, List.map_take, List.map_drop]
theorem cutL_take {α : Type} (xs : List α) (n : Nat) : cutL xs none (some (n : Int)) = xs.take n := by
  unfold cutL
  rw [HT.sIx_nat, HT.sIx_none, Nat.sub_zero, List.drop_zero]
  by_cases h : n <= xs.length
  · rw [Nat.min_eq_left h]
  · rw [Nat.min_eq_right (by omega), List.take_of_length_le (Nat.le_refl _), List.take_of_length_le (by omega)]
theorem cutL_drop {α : Type} (xs : List α) (n : Nat) : cutL xs (some (n : Int)) none = xs.drop n := by
  unfold cutL
  rw [HT.sIx_nat, HT.sIx_none]
  by_cases h : n <= xs.length
  · rw [Nat.min_eq_left h, List.take_of_length_le (by simp)]
  · rw [Nat.min_eq_right (by omega), List.drop_of_length_le (by omega)]; simp; omega
def withIx {α : Type} : Nat -> List α -> List (Int × α)
  | _, [] => []
  | k, x :: xs => ((k : Int), x) :: withIx (k + 1) xs
theorem withIx_get {α : Type} : ∀ (k : Nat) (xs : List α) (i : Nat), (withIx k xs)[i]? = (xs[i]?).map fun x => (((k + i : Nat) : Int), x)
  | _, [], _ => by simp [withIx]
  | k, x :: xs, 0 => by simp [withIx]
  | k, x :: xs, i + 1 => by
    show (withIx (k + 1) xs)[i]? = _
    rw [withIx_get (k + 1) xs i, List.getElem?_cons_succ, show k + 1 + i = k + (i + 1) by omega]
theorem enumD_enc {α : Type} [DecidableEq α] [Enc α] (xs : List α) : enumD (xs.map enc) = (withIx 0 xs).map enc := by
  apply List.ext_getElem?
  intro i
  unfold enumD
  rw [List.getElem?_mapIdx, List.getElem?_map, List.getElem?_map, withIx_get]
  cases xs[i]? with
  | none => rfl
  | some x => simp only [Option.map_some, Nat.zero_add]; rfl
theorem forL_enc {α : Type} {g : α -> D} {f : D -> Py.Env -> RS} {r : RS} : ∀ {xs : List α} {env : Py.Env} (I : List α -> Py.Env -> Prop), forL f (xs.map g) env = r -> I [] env ->
    (∀ ys x zs e, xs = ys ++ x :: zs -> I ys e -> ∃ e', (f (g x) e = .nx e' \/ f (g x) e = .ct e') /\ I (ys ++ [x]) e') -> ∃ e', r = .nx e' /\ I xs e'
  | [], env, I, h, h0, _ => ⟨env, h.symm, h0⟩
  | x :: xs, env, I, h, h0, hs => by
    obtain ⟨e', h1, h2⟩ := hs [] x xs env rfl h0
    have h : (match f (g x) env with | .nx e => forL f (xs.map g) e | .ct e => forL f (xs.map g) e | .bk e => .nx e | r => r) = r := h
    have h3 : forL f (xs.map g) e' = r := by rcases h1 with h1 | h1 <;> (rw [h1] at h; exact h)
    exact forL_enc (fun ys e => I (x :: ys) e) h3 h2 fun ys y zs e hy hi => hs (x :: ys) y zs e (by rw [hy]; rfl) hi
theorem forL_range {f : D -> Py.Env -> RS} {r : RS} {n : Nat} {env : Py.Env} (I : Nat -> Py.Env -> Prop) (h : forL f (rangeD 0 n) env = r) (h0 : I 0 env)
    (hs : ∀ j e, j < n -> I j e -> ∃ e', (f (.int (j : Int)) e = .nx e' \/ f (.int (j : Int)) e = .ct e') /\ I (j + 1) e') : ∃ e', r = .nx e' /\ I n e' := by
  obtain ⟨e', h1, h2⟩ := forL_gen I h h0 fun i d e hd hi => by
    obtain ⟨hi2, rfl⟩ := rangeD_get hd
    rw [Int.zero_add]
    exact hs i e hi2 hi
  rw [rangeD_length] at h2
  exact ⟨e', h1, h2⟩
theorem pre_le {α : Type} {xs ys zs : List α} {x : α} (h : xs = ys ++ x :: zs) : ys.length < xs.length := by rw [h]; simp
end Py
namespace Py
open PySem L2
open Enc (enc)
section
variable {α β : Type} [DecidableEq α] [Enc α]
def kI (m : List (Int × β)) : List Key := m.map fun p => Sum.inl p.1
def vE (g : β -> D) (m : List (Int × β)) : List D := m.map fun p => g p.2
def alG (m : List (Int × β)) (k : Int) : Option β := (m.find? fun p => decide (p.1 = k)).map (·.2)
def alP (m : List (Int × β)) (k : Int) (a : β) : List (Int × β) := if (m.any fun p => decide (p.1 = k)) = true then m.map (fun p => if p.1 = k then (k, a) else p) else m ++ [(k, a)]
theorem kI_length (m : List (Int × β)) : (kI m).length = m.length := by simp [kI]
theorem vE_length (g : β -> D) (m : List (Int × β)) : (vE g m).length = m.length := by simp [vE]
theorem vE_sh {g : β -> D} (h : ∀ b, isSh (g b) = true) (m : List (Int × β)) : (vE g m).all isSh = true := by
  unfold vE
  rw [List.all_map]
  exact List.all_eq_true.mpr fun p _ => h p.2
theorem inl_eq (i j : Int) : ((Sum.inl i : Key) = Sum.inl j) = (i = j) := by
  apply propext; exact ⟨fun h => Sum.inl.inj h, fun h => by rw [h]⟩
theorem dg_al (g : β -> D) (k : Int) : ∀ m : List (Int × β), dg (kI m) (vE g m) (.inl k) = (alG m k).map g
  | [] => rfl
  | p :: m => by
    show dg (Sum.inl p.1 :: kI m) (g p.2 :: vE g m) (.inl k) = _
    unfold dg
    by_cases h : p.1 = k
    · rw [if_pos (by rw [h])]
      unfold alG
      rw [List.find?_cons_of_pos (by simpa using h)]
      rfl
    · rw [if_neg (by rw [inl_eq]; exact h), dg_al g k m]
      unfold alG
      rw [List.find?_cons_of_neg (by simpa using h)]
theorem pos_al (k : Int) : ∀ m : List (Int × β), (pos (Sum.inl k : Key) (kI m) = none /\ (m.any fun p => decide (p.1 = k)) = false) \/ ∃ j p, pos (Sum.inl k : Key) (kI m) = some j /\ m[j]? = some p /\ p.1 = k /\ (m.any fun p => decide (p.1 = k)) = true /\ m.find? (fun p => decide (p.1 = k)) = some p
  | [] => .inl ⟨rfl, rfl⟩
  | p :: m => by
    show ((if (Sum.inl p.1 : Key) = Sum.inl k then some 0 else (pos (Sum.inl k : Key) (kI m)).map (· + 1)) = none /\ _) \/ ∃ j q, (if (Sum.inl p.1 : Key) = Sum.inl k then some 0 else (pos (Sum.inl k : Key) (kI m)).map (· + 1)) = some j /\ _
    by_cases h : p.1 = k
    · rw [if_pos (by rw [h])]
      exact .inr ⟨0, p, rfl, rfl, h, by rw [List.any_cons, decide_eq_true h]; rfl, List.find?_cons_of_pos (by simpa using h)⟩
    · rw [if_neg (by rw [inl_eq]; exact h)]
      rcases pos_al k m with ⟨h1, h2⟩ | ⟨j, q, h1, h2, h3, h4, h5⟩
      · exact .inl ⟨by rw [h1]; rfl, by rw [List.any_cons, h2, decide_eq_false h]; rfl⟩
      · exact .inr ⟨j + 1, q, by rw [h1]; rfl, by simpa using h2, h3, by rw [List.any_cons, h4, Bool.or_true], by rw [List.find?_cons_of_neg (by simpa using h)]; exact h5⟩
def Nk (m : List (Int × β)) : Prop := (m.map (·.1)).Nodup
theorem alP_map {k : Int} {a : β} : ∀ {m : List (Int × β)} {j : Nat}, Nk m -> pos (Sum.inl k : Key) (kI m) = some j -> m.map (fun p => if p.1 = k then (k, a) else p) = m.set j (k, a)
  | [], _, _, h => by cases h
  | p :: m, j, hn, h => by
    have h : (if (Sum.inl p.1 : Key) = Sum.inl k then some 0 else (pos (Sum.inl k : Key) (kI m)).map (· + 1)) = some j := h
    unfold Nk at hn
    rw [List.map_cons, List.nodup_cons] at hn
    rw [List.map_cons]
    by_cases e : p.1 = k
    · rw [if_pos (by rw [e])] at h
      cases h
      rw [if_pos e, List.set_cons_zero]
      congr 1
      have : ∀ q ∈ m, (if q.1 = k then (k, a) else q) = q := fun q hq => by
        rw [if_neg]
        intro z
        exact hn.1 (by rw [e, <- z]; exact List.mem_map.mpr ⟨q, hq, rfl⟩)
      exact (List.map_congr_left this).trans (List.map_id _)
    · rw [if_neg (by rw [inl_eq]; exact e)] at h
      obtain ⟨i, h1, rfl⟩ := Option.map_eq_some_iff.mp h
      rw [if_neg e, List.set_cons_succ, alP_map hn.2 h1]
theorem putP_al {g : β -> D} (hg : ∀ b, isSh (g b) = true) {k : Int} {a : β} {m : List (Int × β)} (hn : Nk m) : putP (kI m) (vE g m) (.inl k) (g a) = some (kI (alP m k a), vE g (alP m k a)) := by
  unfold putP alP
  rcases pos_al k m with ⟨h1, h2⟩ | ⟨j, q, h1, h2, h3, h4, _⟩
  · rw [h1, if_neg (by rw [h2]; decide)]
    simp [kI, vE]
  · rw [h1, if_pos h4, alP_map hn h1]
    dsimp only
    rw [if_pos (vE_sh hg m)]
    have hj := (List.getElem?_eq_some_iff.mp h2).1
    congr 2
    · unfold kI
      rw [List.map_set]
      apply List.ext_getElem?
      intro i
      by_cases e : j = i
      · subst e
        rw [List.getElem?_set_self (by simpa using hj), List.getElem?_map, h2]
        simp [h3]
      · rw [List.getElem?_set_ne e]
    · unfold vE
      rw [List.map_set]
theorem Nk.put {k : Int} {a : β} {m : List (Int × β)} (hn : Nk m) : Nk (alP m k a) := by
  unfold Nk
  unfold alP
  rcases pos_al k m with ⟨h1, h2⟩ | ⟨j, q, h1, h2, h3, h4, _⟩
  · rw [if_neg (by rw [h2]; decide), List.map_append, List.nodup_append]
    refine ⟨hn, by simp, fun x hx y hy z => ?_⟩
    have hy : y = k := by simpa using hy
    subst z hy
    obtain ⟨p, hp, e⟩ := List.mem_map.mp hx
    have : (m.any fun p => decide (p.1 = x)) = true := List.any_eq_true.mpr ⟨p, hp, decide_eq_true e⟩
    rw [h2] at this; cases this
  · rw [if_pos h4, alP_map hn h1, List.map_set]
    have hj := (List.getElem?_eq_some_iff.mp h2).1
    have : (m.map (·.1)).set j k = m.map (·.1) := by
      apply List.ext_getElem?
      intro i
      by_cases e : j = i
      · subst e
        rw [List.getElem?_set_self (by simpa using hj), List.getElem?_map, h2, Option.map_some, h3]
      · rw [List.getElem?_set_ne e]
    show ((m.map (·.1)).set j k).Nodup
    rw [this]
    exact hn
theorem alP_length {k : Int} {a : β} {m : List (Int × β)} : (alP m k a).length <= m.length + 1 := by
  unfold alP
  split <;> simp
theorem kDs_al : ∀ m : List (Int × β), kDs (kI m) = some (m.map fun p => .int p.1)
  | [] => rfl
  | p :: m => by
    show (kDs (kI m)).map _ = _
    rw [kDs_al m]; rfl
theorem fzs_vE {g h : β -> D} (e : ∀ b, fz (g b) = h b) (m : List (Int × β)) : fzs (vE g m) = vE h m := by
  unfold vE
  rw [fzs_eq, List.map_map]
  exact List.map_congr_left fun p _ => e p.2
theorem dcL_al {γ : Type} {c : γ -> D} {g : β -> D} (hg : ∀ b, isSh (g b) = true) {f : D -> Option (Option (Key × D))} {ky : γ -> Int} {vl : γ -> β} : ∀ {xs : List γ} {m : List (Int × β)}, Nk m -> (∀ x ∈ xs, f (c x) = some (some (.inl (ky x), g (vl x)))) ->
    dcL f (xs.map c) (kI m, vE g m) = some (kI (xs.foldl (fun m x => alP m (ky x) (vl x)) m), vE g (xs.foldl (fun m x => alP m (ky x) (vl x)) m))
  | [], m, _, _ => rfl
  | x :: xs, m, hn, h => by
    show (f (c x)).bind (fun o => (putO (kI m, vE g m) o).bind (dcL f (xs.map c))) = _
    rw [h x (List.mem_cons_self ..), Option.bind_some]
    show (putP (kI m) (vE g m) (.inl (ky x)) (g (vl x))).bind _ = _
    rw [putP_al hg hn, Option.bind_some, dcL_al hg hn.put fun y hy => h y (List.mem_cons_of_mem _ hy)]
    rfl
def dcM {γ : Type} (ky : γ -> Int) (vl : γ -> β) (xs : List γ) : List (Int × β) := xs.foldl (fun m x => alP m (ky x) (vl x)) []
theorem dcL_al0 {γ : Type} {c : γ -> D} {g : β -> D} (hg : ∀ b, isSh (g b) = true) {f : D -> Option (Option (Key × D))} (ky : γ -> Int) (vl : γ -> β) (xs : List γ) (h : ∀ x ∈ xs, f (c x) = some (some (.inl (ky x), g (vl x)))) :
    dcL f (xs.map c) ([], []) = some (kI (dcM ky vl xs), vE g (dcM ky vl xs)) := dcL_al (m := []) hg .nil h
end
end Py
namespace Py
open PySem L2
abbrev FB := PySem.W.Frag -> Bool
abbrev ga (K : PySem.W.Frag) (c : String) : Addr := He.ga K (so c)
abbrev ma (K : PySem.W.Frag) (c m : String) : Addr := He.ma K (ga K c) (so m)
def pa (K : PySem.W.Frag) (c f : String) : Addr := match PySem.W.findIn K (.ref (ga K c)) (so f) with
  | some (some (.ref p)) => (match PySem.W.recIn K p "property" with
    | some (.ref g :: _) => g
    | _ => 0)
  | _ => 0
def pr (K : PySem.W.Frag) (c f : String) : Addr := match PySem.W.findIn K (.ref (ga K c)) (so f) with
  | some (some (.ref p)) => p
  | _ => 0
structure DefX where
  ad : PySem.W.Frag -> Addr
  name : Str
  qual : Str
  st : Stmt
  dfl : List He.Dv := []
  kwd : List (Str × He.Dv) := []
  /-- an __init__ that says super() -/
  cl : Bool := false
def fnX (K : PySem.W.Frag) (a : Addr) : He.FnW := match K.lookup a with
  | some ⟨_, _, .func fd, _⟩ => some (fd.name, fd.qualname, fd.params, fd.body, fd.scope, fd.globals, fd.closure, fd.builtins)
  | _ => none
def fnXc (K : PySem.W.Frag) (a : Addr) : He.FnW := match K.lookup a with
  | some ⟨_, _, .func fd, _⟩ => some (fd.name, fd.qualname, fd.params, fd.body, fd.scope, fd.globals, fd.closure.map fun p => (p.1, 0), fd.builtins)
  | _ => none
def fnXd (K : PySem.W.Frag) (d : DefX) : He.FnW := match d.cl with
  | true => fnXc K (d.ad K)
  | false => fnX K (d.ad K)
def DefX.val (d : DefX) : He.FnW := some (d.name, d.qual, defArgs d.st, .stmts (defBody d.st), defScope d.st, mainGlobals, (match d.cl with | true => [(("__class__" : Str), 0)] | false => []), builtinsNs)
def DefX.dvs (K : PySem.W.Frag) (d : DefX) : List V := d.dfl.map (He.Dv.v K)
def DefX.kws (K : PySem.W.Frag) (d : DefX) : List (Str × V) := d.kwd.map fun q => (q.1, q.2.v K)
def DefX.ok (K : PySem.W.Frag) (d : DefX) : Bool := PySem.W.keepIn K (.ref (d.ad K)) && (match K.lookup (d.ad K) with
  | some ⟨_, _, .func fd, _⟩ => PySem.W.codeIn K fd.code d.qual && (He.dflB K fd.defaults (d.dvs K) && He.kwdB K fd.kwdefaults (d.kws K))
  | _ => false)
theorem DefX.funD {K : PySem.W.Frag} {d : DefX} (hcl : d.cl = false) (e : fnXd K d = d.val) (c : d.ok K = true) : ∃ fd, FunD K d.name d.qual (defArgs d.st) (defBody d.st) (defScope d.st) (d.dvs K) (d.kws K) (d.ad K) fd := by
  obtain ⟨kp, c2⟩ := He.ba c
  unfold fnXd DefX.val at e
  rw [hcl] at e
  dsimp only at e
  unfold fnX at e
  cases q : K.lookup (d.ad K) with
  | none =>
    rw [q] at c2
    cases c2
  | some o =>
    obtain ⟨oc, od, dt, osl⟩ := o
    rw [q] at c2 e
    cases dt with
    | func fd =>
      obtain ⟨n1, n2, n3, n4, n5, n6, n7, n8, n9, n10, n11, n12, n13, n14, n15⟩ := fd
      have e2 : (some (n1, n2, n3, n4, n5, n6, n7, n15) : He.FnW) = some (d.name, d.qual, defArgs d.st, .stmts (defBody d.st), defScope d.st, mainGlobals, [], builtinsNs) := e
      simp only [Option.some.injEq, Prod.mk.injEq] at e2
      obtain ⟨h1, h2, h3, h4, h5, h6, h7, h8⟩ := e2
      subst h1 h2 h6 h7 h8
      have c3 : (PySem.W.codeIn K n13 d.qual && (He.dflB K n8 (d.dvs K) && He.kwdB K n9 (d.kws K))) = true := c2
      obtain ⟨k1, k2⟩ := He.ba c3
      obtain ⟨k3, k4⟩ := He.ba k2
      rw [h3, h4, h5] at q
      exact ⟨_, ⟨oc, od, n8, n9, n10, n11, n12, n13, n14, osl, rfl, q, k1, He.dflB_ok k3, He.kwdB_ok k4⟩, kp⟩
    | _ => cases c2
def obsX (fa : List FB) (fn : List DefX) (K : PySem.W.Frag) : He.AlD := ((fa.all fun f => f K) && fn.all fun d => d.ok K, fn.map fun d => fnXd K d)
def valX (fn : List DefX) : He.AlD := (true, fn.map DefX.val)
def SaysX (fa : List FB) (fn : List DefX) (K : PySem.W.Frag) : Prop := obsX fa fn K = valX fn
def refsN (o : Obj) : List Addr := match o.data with
  | .cls cd => [cd.ns]
  | .func fd => He.refV fd.code ++ (He.refV fd.kwdefaults ++ fd.closure.map (·.2))
  | .dict es _ => es.toList.flatMap fun e => He.refV e.val
  | _ => []
def refsP (o : Obj) : List Addr := match o.data with
  | .fields vs => vs.toList.flatMap He.refV
  | _ => []
def isFnO (o : Obj) : Bool := match o.data with
  | .func _ => true
  | _ => false
def isClsO (o : Obj) : Bool := match o.data with
  | .cls _ => true
  | _ => false
def isFldO (o : Obj) : Bool := match o.data with
  | .fields _ => true
  | _ => false
def outG (g : Addr -> Option Obj) (p : Obj -> Bool) (f : Obj -> List Addr) (as : List Addr) : List Addr := as.flatMap fun a => match g a with
  | some o => (match p o with
    | true => f o
    | false => [])
  | none => []
def asN (g : Addr -> Option Obj) : List Addr :=
  let l1 := outG g (fun _ => true) refsN [mainGlobals]
  let c := outG g isClsO refsN l1
  let m := outG g (fun _ => true) refsN c
  let p := outG g isFldO refsP m
  mainGlobals :: (c ++ (l1 ++ (m ++ (outG g isFnO refsN m ++ (outG g isFnO refsN l1 ++ (p ++ outG g isFnO refsN p))))))
def obsXG (n : Nat) (fa : List FB) (fn : List DefX) (g : Addr -> Option Obj) : He.AlD := obsX fa fn (He.frG g (match n with
  | 0 => PySem.cStatics :: asN g
  | n => PySem.cStatics :: He.asD g n))
def hookX (n : Nat) (fa : List FB) (fn : List DefX) : PySem.W.Hook where
  α := He.AlD
  obs := fun s => obsXG n fa fn s.heap.get?
  val := fun _ => valX fn
  says := fun _ h => ∃ K : PySem.W.Frag, K.In h /\ SaysX fa fn K
  of := fun _ _ e => ⟨_, He.frG_in, e⟩
  keeps := fun _ _ _ ⟨K, hK, c⟩ k => ⟨K, PySem.W.Frag.In.keeps hK k, c⟩
theorem obsXG_eq {n : Nat} {fa : List FB} {fn : List DefX} {g : Addr -> Option Obj} {s : Shared} (h : ∀ a, g a = s.heap.get? a) : obsXG n fa fn g = (hookX n fa fn).obs s := by
  have e : g = s.heap.get? := funext h
  rw [e] <;> rfl
section
variable {fa : List FB} {fn : List DefX} {K : PySem.W.Frag}
theorem SaysX.fact (c : SaysX fa fn K) (i : Nat) {f : FB} (h : fa[i]? = some f := by rfl) : f K = true := by
  have c1 := (He.ba (show ((fa.all fun f => f K) && fn.all fun d => d.ok K) = true from congrArg (fun z : He.AlD => z.1) c)).1
  exact List.all_eq_true.mp c1 f (List.mem_of_getElem? h)
theorem SaysX.def_ (c : SaysX fa fn K) (i : Nat) {d : DefX} (h : fn[i]? = some d := by rfl) (hcl : d.cl = false := by rfl) : ∃ fd, FunD K d.name d.qual (defArgs d.st) (defBody d.st) (defScope d.st) (d.dvs K) (d.kws K) (d.ad K) fd := by
  have c2 := (He.ba (show ((fa.all fun f => f K) && fn.all fun d => d.ok K) = true from congrArg (fun z : He.AlD => z.1) c)).2
  have e : fn.map (fun d => fnXd K d) = fn.map DefX.val := congrArg (fun z : He.AlD => z.2) c
  have e2 : (fn.map fun d => fnXd K d)[i]? = (fn.map DefX.val)[i]? := by rw [e]
  rw [List.getElem?_map, List.getElem?_map, h] at e2
  exact DefX.funD hcl (Option.some.inj e2) (List.all_eq_true.mp c2 d (List.mem_of_getElem? h))
theorem SaysX.cld (c : SaysX fa fn K) (i : Nat) {d : DefX} (h : fn[i]? = some d := by rfl) (hcl : d.cl = true := by rfl) : fnXc K (d.ad K) = some (d.name, d.qual, defArgs d.st, .stmts (defBody d.st), defScope d.st, mainGlobals, [(("__class__" : Str), 0)], builtinsNs) := by
  have e : fn.map (fun d => fnXd K d) = fn.map DefX.val := congrArg (fun z : He.AlD => z.2) c
  have e2 : (fn.map fun d => fnXd K d)[i]? = (fn.map DefX.val)[i]? := by rw [e]
  rw [List.getElem?_map, List.getElem?_map, h] at e2
  have e3 : fnXd K d = d.val := Option.some.inj e2
  obtain ⟨q1, q2, q3, q4, q5, q6, q7⟩ := d
  have hcl : q7 = true := hcl
  subst hcl
  exact e3
end
def fnExB (K : PySem.W.Frag) (C : Addr) (qual file : Str) (fI : Addr) : Bool := match K.lookup fI with
  | some ⟨_, _, .func fd, _⟩ => (match fd.closure with
    | [(_, cc)] => (match K.lookup cc with
      | some ⟨_, _, .cell (some (.ref D)), _⟩ => decide (D = C)
      | _ => false)
    | _ => false) && ((match fd.code with
    | .ref cda => PySem.W.codeIn K (.ref cda) qual && (match K.lookup cda with
      | some ⟨_, _, .fields vs, _⟩ => (match (vs[2]? : Option Value) with
        | some (.str f _) => decide (f = file)
        | _ => false)
      | _ => false)
    | _ => false) && ((match fd.defaults with
    | .none => true
    | _ => false) && (match fd.kwdefaults with
    | .none => true
    | _ => false)))
  | _ => false
def fExc (c qual : String) (fs : List String) (file : Str) : FB := fun K => PySem.W.excInitIn K (ga K c) PySem.HandSPX.veTail "ValueError.__new__" && ((match PySem.W.clsIn K (ga K c) with
    | some cd => PySem.HandSPX.refsVE cd.mro && cd.hasDict
    | none => false) && (decide (PySem.W.findIn K (.ref (ga K c)) "__setattr__" = some (some (.builtin "object.__setattr__"))) && ((fs.all fun f => decide (PySem.W.findIn K (.ref (ga K c)) (so f) = some none)) &&
  (decide (PySem.W.findIn K (.ref (ga K c)) "__init__" = some (some (.ref (ma K c "__init__")))) && (decide (PySem.W.typeIn K (.ref (ma K c "__init__")) = some (.type "function")) && (decide (PySem.W.subIn K (.ref (ga K c)) (.type "BaseException") = some true) &&
  (decide (PySem.W.subIn K (.ref (ga K c)) (.type "ValueError") = some true) && (decide (PySem.W.typeIn K (.ref (ga K c)) = some (.type "type")) && (decide (PySem.W.nsIn K PySem.cStatics "thirdparty.any" = some none) &&
  (decide (PySem.W.ks_superIn K (ga K c) (ga K c) "__init__" = some (some (.builtin "ValueError.__init__"))) && (decide (PySem.W.mroIn K (ga K c) (.ref (ga K c)) = some true) && (fnExB K (ga K c) (so qual) file (ma K c "__init__") && PySem.W.keepIn K (.ref (ga K c))))))))))))))
theorem fExc_ok {P : Program} {K : PySem.W.Frag} {c qual : String} {fs : List String} {file : Str} {params : Arguments} {body : List Stmt} {scope : Scope} (h : fExc c qual fs file K = true)
    (e : fnXc K (ma K c "__init__") = some (("__init__" : Str), so qual, params, .stmts body, scope, mainGlobals, [(("__class__" : Str), 0)], builtinsNs)) (hP : ((P.main.file : Str) == file) = true) :
    PySem.PxE.ExTxt P K (ga K c) (ma K c "__init__") (so qual) params body scope (fs.map so) /\ PySem.W.keepIn K (.ref (ga K c)) = true := by
  obtain ⟨h1, h⟩ := He.ba h
  obtain ⟨h2, h⟩ := He.ba h
  obtain ⟨h3, h⟩ := He.ba h
  obtain ⟨h4, h⟩ := He.ba h
  obtain ⟨h5, h⟩ := He.ba h
  obtain ⟨h6, h⟩ := He.ba h
  obtain ⟨h7, h⟩ := He.ba h
  obtain ⟨h8, h⟩ := He.ba h
  obtain ⟨h9, h⟩ := He.ba h
  obtain ⟨h10, h⟩ := He.ba h
  obtain ⟨h11, h⟩ := He.ba h
  obtain ⟨h12, h⟩ := He.ba h
  obtain ⟨h13, h14⟩ := He.ba h
  refine ⟨⟨h1, ?_, of_decide_eq_true h3, fun f hf => ?_, of_decide_eq_true h5, of_decide_eq_true h6, of_decide_eq_true h7, of_decide_eq_true h8, of_decide_eq_true h9, of_decide_eq_true h10, of_decide_eq_true h11, of_decide_eq_true h12, ?_⟩, h14⟩
  · split at h2
    · rename_i cd q
      obtain ⟨a, b⟩ := He.ba h2
      exact ⟨cd, q, a, b⟩
    · cases h2
  · obtain ⟨f', hf', rfl⟩ := List.mem_map.mp hf
    exact of_decide_eq_true (List.all_eq_true.mp h4 f' hf')
  · unfold fnExB at h13
    unfold fnXc at e
    cases q : K.lookup (ma K c "__init__") with
    | none => rw [q] at h13; cases h13
    | some o =>
      obtain ⟨oc, od, dt, osl⟩ := o
      rw [q] at h13 e
      cases dt with
      | func fd =>
        obtain ⟨n1, n2, n3, n4, n5, n6, n7, n8, n9, n10, n11, n12, n13, n14, n15⟩ := fd
        have e2 : (some (n1, n2, n3, n4, n5, n6, n7.map fun p => (p.1, 0), n15) : He.FnW) = some (("__init__" : Str), so qual, params, .stmts body, scope, mainGlobals, [(("__class__" : Str), 0)], builtinsNs) := e
        simp only [Option.some.injEq, Prod.mk.injEq] at e2
        obtain ⟨z1, z2, z3, z4, z5, z6, z7, z8⟩ := e2
        subst z1 z2 z3 z4 z5 z6 z8
        dsimp only at h13
        obtain ⟨k1, k2⟩ := He.ba h13
        obtain ⟨k2, k3⟩ := He.ba k2
        obtain ⟨k3, k4⟩ := He.ba k3
        match n7, z7, k1 with
        | [(nm, cc)], z7, k1 =>
          have z9 : nm = "__class__" := by
            simp only [List.map_cons, List.map_nil, List.cons.injEq, Prod.mk.injEq, and_true] at z7
            exact z7
          subst z9
          dsimp only at k1
          cases q2 : K.lookup cc with
          | none => rw [q2] at k1; cases k1
          | some o2 =>
            obtain ⟨oc2, od2, dt2, osl2⟩ := o2
            rw [q2] at k1
            cases dt2 with
            | cell v =>
              cases v with
              | none => cases k1
              | some v =>
                cases v with
                | ref Dd =>
                  have k1 : Dd = ga K c := of_decide_eq_true k1
                  subst k1
                  cases n13 with
                  | ref cda =>
                    dsimp only at k2
                    obtain ⟨k5, k6⟩ := He.ba k2
                    cases q3 : K.lookup cda with
                    | none => rw [q3] at k6; cases k6
                    | some o3 =>
                      obtain ⟨oc3, od3, dt3, osl3⟩ := o3
                      rw [q3] at k6
                      cases dt3 with
                      | fields vs =>
                        dsimp only at k6
                        cases q4 : vs[2]? with
                        | none => rw [q4] at k6; cases k6
                        | some v4 =>
                          rw [q4] at k6
                          cases v4 with
                          | str f tf =>
                            have k6 : f = file := of_decide_eq_true k6
                            subst k6
                            have k7 : n8 = .none := by cases n8 <;> first | rfl | cases k3
                            have k8 : n9 = .none := by cases n9 <;> first | rfl | cases k4
                            subst k7 k8
                            exact ⟨oc, od, n10, n11, n12, n14, osl, cda, cc, oc3, od3, vs, osl3, f, tf, oc2, od2, osl2, by first | exact q | rfl, k5, by first | exact q3 | rfl, by first | exact q4 | rfl, hP, by first | exact q2 | rfl⟩
                          | _ => cases k6
                      | _ => cases k6
                  | _ => cases k2
                | _ => cases k1
            | _ => cases k1
      | _ => cases h13
def fXm (cs : List String) (sub : String -> String -> Bool) : FB := fun K => cs.all fun c => cs.all fun d => decide (PySem.W.exmOne K (.ref (ga K c)) (.ref (ga K d)) = some (sub c d)) && decide (PySem.W.kitOne K (.ref (ga K c)) (.ref (ga K d)) = some (sub c d))
def fXc (cs : List String) : FB := fun K => cs.all fun c => decide (PySem.W.findIn K (.ref (ga K c)) "__getattribute__" = some (some (.builtin "BaseException.__getattribute__"))) && (decide (PySem.W.findIn K (.ref (ga K c)) "__getattr__" = some none) && (decide (PySem.W.subIn K (.ref (ga K c)) (.type "BaseException") = some true) &&
  (PySem.W.hasDictIn K (ga K c) && (decide (PySem.W.findIn K (.ref (ga K c)) "__class__" = some (some (.builtin "object.__class__"))) && (decide (PySem.W.specialIn K (.builtin "object.__class__") "__get__" = some (some (.builtin "getset_descriptor.__get__"))) &&
  (decide (PySem.W.takesIn K (.builtin "object.__class__") = some true) && decide (PySem.W.mroIn K (ga K c) (.type "object") = some true)))))))
def fXv (cs : List String) : FB := fun K => cs.all fun c => decide (PySem.W.kitOne K (.ref (ga K c)) (.type "ValueError") = some true)
def fGlo (x : String) : FB := fun K => (He.Fa.glo (so x)).ok K
def fInt (x : String) (i : Int) : FB := fun K => (He.Fa.int (so x) i).ok K
def fFree (x : String) : FB := fun K => (He.Fa.free (so x)).ok K
def fCls (cs : List String) : FB := fun K => cs.all fun c => (He.Fa.cls (so c)).ok K
def fNoat (cs : List String) (fl : String -> List String) : FB := fun K => cs.all fun c => (fl c).all fun f => (He.Fa.noat (so c) (so f)).ok K
def fIsT (cs : List String) : FB := fun K => cs.all fun c => decide (PySem.W.findIn K (.ref (ga K c)) "__class__" = some (some (.builtin "object.__class__"))) && (decide (PySem.W.specialIn K (.builtin "object.__class__") "__get__" = some (some (.builtin "getset_descriptor.__get__"))) &&
  (decide (PySem.W.takesIn K (.builtin "object.__class__") = some true) && decide (PySem.W.mroIn K (ga K c) (.type "object") = some true)))
def tyTO : List String := ["NoneType", "bool", "int", "str", "list", "tuple", "dict"]
def tyOT : List String := ["int", "bool", "str", "list", "tuple", "dict"]
def fTO (cs : List String) : FB := fun K => tyTO.all fun t => cs.all fun c => decide (PySem.W.kitOne K (.type t) (.ref (ga K c)) = some false)
def fOT (cs : List String) : FB := fun K => cs.all fun c => tyOT.all fun t => decide (PySem.W.kitOne K (.ref (ga K c)) (.type t) = some false)
def fOO (cs : List String) (sub : String -> String -> Bool) : FB := fun K => cs.all fun c => cs.all fun d => decide (PySem.W.kitOne K (.ref (ga K c)) (.ref (ga K d)) = some (sub c d))
def fMeth (c m : String) : FB := fun K => (He.Fa.meth (so c) (so m)).ok K
def fMkr (c : String) : FB := fun K => (He.Fa.mkr (so c)).ok K
def fPr (c f : String) : FB := fun K => decide (PySem.W.findIn K (.ref (ga K c)) (so f) = some (some (.ref (pr K c f)))) && (decide (PySem.W.specialIn K (.ref (pr K c f)) "__get__" = some (some (.builtin "property.__get__"))) && (decide (PySem.W.takesIn K (.ref (pr K c f)) = some true) &&
  (match PySem.W.recIn K (pr K c f) "property" with
    | some (.ref g :: _) => decide (g = pa K c f)
    | _ => false)))
def fLaw (T : Tbl) (P : Program) (w : World) (K : PySem.W.Frag) (cs : List String) (fl : String -> List String) (hT : ∀ c f, c ∈ cs -> T.fOk c f = true -> f ∈ fl c) (sub : String -> String -> Bool) (hs : ∀ c d, T.sub c d = sub c d)
    (xs : List String) (xsub : String -> String -> Bool) (hx : ∀ c d, T.xsub c d = xsub c d) (x1 : fXm xs xsub K = true) (x2 : fXv xs K = true) (x3 : fXc xs K = true)
    (h1 : fCls cs K = true) (h2 : fNoat cs fl K = true) (h3 : fIsT cs K = true) (h4 : fTO cs K = true) (h5 : fOT cs K = true) (h6 : fOO cs sub K = true) : Wd T where
  K := K
  P := P
  w := w
  cA := ga K
  has c := c ∈ cs
  cl c hc := by
    obtain ⟨a, b, c', d⟩ := He.cls_ok (List.all_eq_true.mp h1 c hc)
    exact ⟨a, b, c', d⟩
  na c f hc hf := He.noat_ok (List.all_eq_true.mp (List.all_eq_true.mp h2 c hc) f (hT c f hc hf))
  isT c hc := by
    obtain ⟨a, b⟩ := He.ba (List.all_eq_true.mp h3 c hc)
    obtain ⟨b, d⟩ := He.ba b
    obtain ⟨d, e⟩ := He.ba d
    exact ⟨of_decide_eq_true a, of_decide_eq_true b, of_decide_eq_true d, of_decide_eq_true e⟩
  isTO t c ht hc := of_decide_eq_true (List.all_eq_true.mp (List.all_eq_true.mp h4 t ht) c hc)
  isOT c t hc ht := of_decide_eq_true (List.all_eq_true.mp (List.all_eq_true.mp h5 c hc) t ht)
  hasX c := c ∈ xs
  xm c d hc hd := by
    rw [hx]
    exact of_decide_eq_true (He.ba (List.all_eq_true.mp (List.all_eq_true.mp x1 c hc) d hd)).1
  xk c d hc hd := by
    rw [hx]
    exact of_decide_eq_true (He.ba (List.all_eq_true.mp (List.all_eq_true.mp x1 c hc) d hd)).2
  xv c hc := of_decide_eq_true (List.all_eq_true.mp x2 c hc)
  xc c hc := by
    obtain ⟨h1, h⟩ := He.ba (List.all_eq_true.mp x3 c hc)
    obtain ⟨h2, h⟩ := He.ba h
    obtain ⟨h3, h⟩ := He.ba h
    obtain ⟨h4, h⟩ := He.ba h
    obtain ⟨h5, h⟩ := He.ba h
    obtain ⟨h6, h⟩ := He.ba h
    obtain ⟨h7, h8⟩ := He.ba h
    exact ⟨of_decide_eq_true h1, of_decide_eq_true h2, of_decide_eq_true h3, h4, of_decide_eq_true h5, of_decide_eq_true h6, of_decide_eq_true h7, of_decide_eq_true h8⟩
  isOO c d hc hd := by rw [hs]; exact of_decide_eq_true (List.all_eq_true.mp (List.all_eq_true.mp h6 c hc) d hd)
def fDun (cs : List String) : FB := fun K => cs.all fun c => PySem.W.selfFirst K (ga K c) && ((["NoneType", "bool", "int", "str", "list", "tuple", "dict"].all fun t => PySem.W.notFirst K (ga K c) (.type t)) && (match PySem.W.findIn K (.ref (ga K c)) (so "__getitem__") with
  | some (some (.ref f)) => PySem.W.fnIn K f
  | _ => true))
theorem fDun_ok {T : Tbl} {W : Wd T} {cs : List String} (hh : ∀ c, W.has c -> c ∈ cs) (hc : ∀ c, W.cA c = ga W.K c) (h : fDun cs W.K = true) : Dun W := by
  have g := fun c hc' => He.ba (List.all_eq_true.mp h c (hh c hc'))
  refine ⟨fun c z => hc c ▸ (g c z).1, fun c t z m => hc c ▸ List.all_eq_true.mp (He.ba (g c z).2).1 t m, fun c f z m => ?_⟩
  have := (He.ba (g c z).2).2
  rw [hc c] at m
  rw [m] at this
  exact this
theorem fPr_ok {K : PySem.W.Frag} {c f : String} (h : fPr c f K = true) : PropOf K (ga K c) (so f) (pr K c f) (pa K c f) := by
  obtain ⟨a, b⟩ := He.ba h
  obtain ⟨b, d⟩ := He.ba b
  obtain ⟨d, e⟩ := He.ba d
  refine ⟨of_decide_eq_true a, of_decide_eq_true b, of_decide_eq_true d, ?_⟩
  split at e
  · rename_i g rest q
    exact ⟨rest, by rw [q, of_decide_eq_true e]⟩
  · cases e
end Py
namespace Py
open PySem L2 NdefX
end Py
namespace Py
open PySem L2
end Py
namespace Py
open PySem L2
def b_is_integer {T : Tbl} (W : Wd T) (φ : Sem) : XS W :=
  (xsRet (xmP (xAnd (xIsi (false, "int") (xVar W 0)) (xNot (xIsi (false, "bool") (xVar W 0))))))
def l1_HashFunction___init__ {T : Tbl} (W : Wd T) (φ : Sem) : XS W :=
  (xsIf (xtNot (xtTru (xCall (φ "is_integer") 1 (xaCons (xVar W 4) (xaNil W)) [] [] (fun _ => .nil)))) (xsRaise "BadFunction" ["field"] (xaCons (xStr W "table") (xaNil W))) (xsNext W))
def b_HashFunction___init__ {T : Tbl} (W : Wd T) (φ : Sem) : XS W :=
  (xsSeq (xsIf (xtOr (xtNot (xtTru (xCall (φ "is_integer") 1 (xaCons (xVar W 1) (xaNil W)) [] [] (fun _ => .nil)))) (xtOr (xtV (xLt (xVar W 1) (xInt W 1))) (xtV (xGt (xVar W 1) (xInt W 64))))) (xsRaise "BadFunction" ["field"] (xaCons (xStr W "fan_out") (xaNil W))) (xsNext W))
  (xsSeq (xsFrz [2] (xsForD 2 (xgN W 4) (l1_HashFunction___init__ W φ)))
  (xsSeq (xsFld (plVar W 0) "fan_out" (xmVar W 1))
  (xsSeq (xsFld (plVar W 0) "other" (xmVar W 3))
  (xsFrz [2] (xsFld (plVar W 0) "_parts" (xmP (xDcD 2 (xgN W 4) (xtYes W) (xVar W 4) (xDix (xVar W 2) (xVar W 4))))))))))
def b_HashFunction___call__ {T : Tbl} (W : Wd T) (φ : Sem) : XS W :=
  (xsFrz [1, 0] (xsRet (xmMeth φ "part_of" 2 (plVar W 0) (xaCons (xVar W 1) (xaNil W)))))
def b_HashFunction_part_of {T : Tbl} (W : Wd T) (φ : Sem) : XS W :=
  (xsSeq (xsAsg 2 (xmP (xDget2 (xFld (xVar W 0) "_parts") (xVar W 1) (xFld (xVar W 0) "other"))))
  (xsSeq (xsIf (xtOr (xtNot (xtTru (xCall (φ "is_integer") 1 (xaCons (xVar W 2) (xaNil W)) [] [] (fun _ => .nil)))) (xtOr (xtV (xLt (xVar W 2) (xInt W 0))) (xtV (xGe (xVar W 2) (xFld (xVar W 0) "fan_out"))))) (xsRaise "BadPart" ["key", "part"] (xaCons (xVar W 1) (xaCons (xVar W 2) (xaNil W)))) (xsNext W))
  (xsRet (xmMove W 2))))
def b_Family___init__ {T : Tbl} (W : Wd T) (φ : Sem) : XS W :=
  (xsSeq (xsIf (xtV (xGt (xLenU φ (xaCons (xVar W 1) (xaNil W))) (xInt W 4))) (xsRaise "TooMany" ["count"] (xaCons (xLenU φ (xaCons (xVar W 1) (xaNil W))) (xaNil W))) (xsNext W))
  (xsFld (plVar W 0) "_functions" (xmP (xListU φ (xVar W 1)))))
def b_Family___len__ {T : Tbl} (W : Wd T) (φ : Sem) : XS W :=
  (xsRet (xmP (xLenU φ (xaCons (xFld (xVar W 0) "_functions") (xaNil W)))))
def b_Family_fan_outs {T : Tbl} (W : Wd T) (φ : Sem) : XS W :=
  (xsRet (xmP (xTuple (xLc (xiSeqU (xFld (xVar W 0) "_functions")) (xgN W 1) (xtYes W) (xFld (xVar W 1) "fan_out")))))
def b_Family_part_at {T : Tbl} (W : Wd T) (φ : Sem) : XS W :=
  (xsSeq (xsIf (xtV (xGt (xVar W 2) (xLenU φ (xaCons (xFld (xVar W 0) "_functions") (xaNil W))))) (xsRet (xmP (xInt W 0))) (xsNext W))
  (xsSeq (xsAsg 3 (xmP (xIx (xFld (xVar W 0) "_functions") (xSub (xVar W 2) (xInt W 1)))))
  (xsRet (xmCallO φ 2 (xVar W 3) (xaCons (xVar W 1) (xaNil W))))))
def b_Family_path_of {T : Tbl} (W : Wd T) (φ : Sem) : XS W :=
  (xsRet (xmEl (xeTup (xeLcX (xiR2 (xaCons (xInt W 1) (xaCons (xAdd (xVar W 2) (xInt W 1)) (xaNil W)))) (xgN W 3) (xeMeth φ "part_at" 3 (xVar W 0) (xaCons (xVar W 1) (xaCons (xVar W 3) (xaNil W))))))))
def l1_law_draws {T : Tbl} (W : Wd T) (φ : Sem) : XS W :=
  (xsSeq (xsAsg 7 (xmP (xInt W 0)))
  (xsSeq (xsIf (xtTru (xVar W 4)) (xsSeq (xsAsg 7 (xmP (xMod (xInt1 (xaCons (xVar W 3) (xaNil W))) (xInt W 1000))))
  (xsAsg 3 (xmP (xDiv (xVar W 3) (xInt W 1000))))) (xsIf (xtV (xGt (xVar W 3) (xInt W 0))) (xsSeq (xsAsg 8 (xmP (xMod (xInt1 (xaCons (xAdd (xMul (xVar W 3) (xAdd (xInt W 48271) (xMul (xInt W 6) (xVar W 6)))) (xMul (xInt W 69621) (xVar W 6))) (xaNil W))) (xInt W 2147483647))))
  (xsSeq (xsAsg 8 (xmP (xMod (xInt1 (xaCons (xAdd (xAdd (xMul (xVar W 8) (xVar W 8)) (xMul (xInt W 40692) (xVar W 6))) (xInt W 1)) (xaNil W))) (xInt W 2147483629))))
  (xsAsg 7 (xmP (xMod (xInt1 (xaCons (xVar W 8) (xaNil W))) (xInt W 1000)))))) (xsNext W)))
  (xsExpr (xmAppend (plVar W 5) (xVar W 7)))))
def b_law_draws {T : Tbl} (W : Wd T) (φ : Sem) : XS W :=
  (xsSeq (xsAsg 3 (xmP (xInt W 0)))
  (xsSeq (xsIf (xtV (xLt (xVar W 1) (xLenU φ (xaCons (xVar W 0) (xaNil W))))) (xsAsg 3 (xmP (xAbs (xaCons (xIx (xVar W 0) (xVar W 1)) (xaNil W))))) (xsNext W))
  (xsSeq (xsAsg 4 (xmP (xGe (xVar W 3) (xPow (xInt W 10) (xInt W 18)))))
  (xsSeq (xsAsg 5 (xmP (xLst (xaNil W))))
  (xsSeq (xsFor (xiR1 (xaCons (xVar W 2) (xaNil W))) (xgN W 6) (l1_law_draws W φ))
  (xsRet (xmMove W 5)))))))
def l2_law_specs {T : Tbl} (W : Wd T) (φ : Sem) : XS W :=
  (xsDput (plVar W 9) (xIx (xVar W 3) (xVar W 10)) (xmP (xMod (xInt1 (xaCons (xIx (xVar W 7) (xAdd (xInt W 2) (xVar W 10))) (xaNil W))) (xVar W 8))))
def l1_law_specs {T : Tbl} (W : Wd T) (φ : Sem) : XS W :=
  (xsSeq (xsFrz [0] (xsAsg 7 (xmP (xCall (φ "_law_draws") 3 (xaCons (xVar W 0) (xaCons (xAdd (xVar W 1) (xVar W 6)) (xaCons (xAdd (xInt W 2) (xLenU φ (xaCons (xVar W 3) (xaNil W)))) (xaNil W)))) [] [] (fun _ => .nil)))))
  (xsSeq (xsAsg 8 (xmP (xAdd (xInt W 1) (xMod (xInt1 (xaCons (xIx (xVar W 7) (xInt W 0)) (xaNil W))) (xVar W 4)))))
  (xsSeq (xsAsg 9 (xmP (xDnew W)))
  (xsSeq (xsFor (xiR1 (xaCons (xLenU φ (xaCons (xVar W 3) (xaNil W))) (xaNil W))) (xgN W 10) (l2_law_specs W φ))
  (xsFrz [9] (xsExpr (xmAppend (plVar W 5) (xTup (xaCons (xVar W 8) (xaCons (xVar W 9) (xaCons (xMod (xInt1 (xaCons (xIx (xVar W 7) (xInt W 1)) (xaNil W))) (xVar W 8)) (xaNil W))))))))))))
def b_law_specs {T : Tbl} (W : Wd T) (φ : Sem) : XS W :=
  (xsSeq (xsAsg 5 (xmP (xLst (xaNil W))))
  (xsSeq (xsFor (xiR1 (xaCons (xVar W 2) (xaNil W))) (xgN W 6) (l1_law_specs W φ))
  (xsRet (xmMove W 5))))
def b_law_is_wrong {T : Tbl} (W : Wd T) (φ : Sem) : XS W :=
  (xsSeq (xsIf (xtOr (xtNot (xtTru (xIsi (false, "int") (xVar W 0)))) (xtTru (xIsi (false, "bool") (xVar W 0)))) (xsRet (xmP (xBl W true))) (xsNext W))
  (xsRet (xmP (xOr (xLt (xVar W 0) (xInt W 0)) (xGe (xVar W 0) (xVar W 1))))))
def b_law_spoilt {T : Tbl} (W : Wd T) (φ : Sem) : XS W :=
  (xsSeq (xsAsg 4 (xmP (xMod (xInt1 (xaCons (xVar W 1) (xaNil W))) (xLenU φ (xaCons (xVar W 0) (xaNil W))))))
  (xsSeq (xsAsg 5 (xmP (xIx (xVar W 0) (xVar W 4))))
  (xsSeq (xsAsg 6 (xmP (xIx (xLst (xaCons (xIx (xVar W 5) (xInt W 0)) (xaCons (xNeg (xInt W 1)) (xaCons (xPow (xInt W 10) (xInt W 20)) (xaCons (xBl W true) (xaCons (xBl W false) (xaCons (xNon W) (xaCons (xStr W "0") (xaCons (xLst (xaCons (xInt W 0) (xaNil W))) (xaNil W)))))))))) (xMod (xInt1 (xaCons (xVar W 3) (xaNil W))) (xInt W 8)))))
  (xsSeq (xsAsg 7 (xmP (xDict (xIx (xVar W 5) (xInt W 1)))))
  (xsSeq (xsAsg 8 (xmP (xIx (xVar W 5) (xInt W 2))))
  (xsSeq (xsIf (xtV (xIsN (xVar W 2))) (xsAsg 8 (xmVar W 6)) (xsDput (plVar W 7) (xVar W 2) (xmVar W 6)))
  (xsFrz [7] (xsRet (xmP (xAdd (xAdd (xSl (xVar W 0) none (some (xVar W 4))) (xLst (xaCons (xTup (xaCons (xIx (xVar W 5) (xInt W 0)) (xaCons (xVar W 7) (xaCons (xVar W 8) (xaNil W))))) (xaNil W)))) (xSl (xVar W 0) (some (xAdd (xVar W 4) (xInt W 1))) none)))))))))))
def b_law_part {T : Tbl} (W : Wd T) (φ : Sem) : XS W :=
  (xsSeq (xsIf (xtV (xGt (xVar W 2) (xLenU φ (xaCons (xVar W 0) (xaNil W))))) (xsRet (xmP (xLst (xaCons (xInt W 0) (xaNil W))))) (xsNext W))
  (xsSeq (xsAsg 3 (xmP (xIx (xVar W 0) (xSub (xVar W 2) (xInt W 1)))))
  (xsSeq (xsAsg 4 (xmP (xDget2 (xIx (xVar W 3) (xInt W 1)) (xVar W 1) (xIx (xVar W 3) (xInt W 2)))))
  (xsSeq (xsIf (xtTru (xCall (φ "_law_is_wrong") 2 (xaCons (xVar W 4) (xaCons (xIx (xVar W 3) (xInt W 0)) (xaNil W))) [] [] (fun _ => .nil))) (xsFrz [1, 4] (xsRet (xmP (xLst (xaCons (xStr W "wrong") (xaCons (xVar W 1) (xaCons (xVar W 4) (xaNil W)))))))) (xsNext W))
  (xsFrz [4] (xsRet (xmP (xLst (xaCons (xVar W 4) (xaNil W))))))))))
def l1_law_path {T : Tbl} (W : Wd T) (φ : Sem) : XS W :=
  (xsSeq (xsFrz [0, 1, 4] (xsAsg 5 (xmP (xCall (φ "_law_part") 3 (xaCons (xVar W 0) (xaCons (xVar W 1) (xaCons (xVar W 4) (xaNil W)))) [] [] (fun _ => .nil)))))
  (xsSeq (xsIf (xtV (xEq (xLenU φ (xaCons (xVar W 5) (xaNil W))) (xInt W 3))) (xsRet (xmMove W 5)) (xsNext W))
  (xsExpr (xmAppend (plVar W 3) (xIx (xVar W 5) (xInt W 0))))))
def b_law_path {T : Tbl} (W : Wd T) (φ : Sem) : XS W :=
  (xsSeq (xsAsg 3 (xmP (xLst (xaNil W))))
  (xsSeq (xsFor (xiR2 (xaCons (xInt W 1) (xaCons (xAdd (xVar W 2) (xInt W 1)) (xaNil W)))) (xgN W 4) (l1_law_path W φ))
  (xsRet (xmP (xLst (xaCons (xTuple (xVar W 3)) (xaNil W)))))))
def b_law_told {T : Tbl} (W : Wd T) (φ : Sem) : XS W :=
  (xsSeq (xsAsg 4 (xmP (xLst (xaNil W))))
  (xsSeq (xsTryAs 5 "BadPart" (xsIf (xtTru (xVar W 3)) (xsFrz [1, 2, 0] (xsAsg 4 (xmEl (xeLst1 (xeMeth φ "path_of" 3 (xVar W 0) (xaCons (xVar W 1) (xaCons (xVar W 2) (xaNil W)))))))) (xsFrz [1, 2, 0] (xsAsg 4 (xmEl (xeLst1 (xeMeth φ "part_at" 3 (xVar W 0) (xaCons (xVar W 1) (xaCons (xVar W 2) (xaNil W))))))))) (xhAsg 4 (xqLst (xqsCons (xqP (xStr W "wrong")) (xqsCons (xqFld W 5 "BadPart" "key") (xqsCons (xqFld W 5 "BadPart" "part") (xqsNil W 5)))))))
  (xsRet (xmMove W 4))))
def l1_law_same {T : Tbl} (W : Wd T) (φ : Sem) : XS W :=
  (xsIf (xtOr (xtV (xNe (xIsi (false, "bool") (xIx (xVar W 0) (xVar W 2))) (xIsi (false, "bool") (xIx (xVar W 1) (xVar W 2))))) (xtV (xNe (xIsi (false, "tuple") (xIx (xVar W 0) (xVar W 2))) (xIsi (false, "tuple") (xIx (xVar W 1) (xVar W 2)))))) (xsRet (xmP (xBl W false))) (xsNext W))
def b_law_same {T : Tbl} (W : Wd T) (φ : Sem) : XS W :=
  (xsSeq (xsIf (xtV (xNe (xVar W 0) (xVar W 1))) (xsRet (xmP (xBl W false))) (xsNext W))
  (xsSeq (xsFor (xiR1 (xaCons (xLenU φ (xaCons (xVar W 1) (xaNil W))) (xaNil W))) (xgN W 2) (l1_law_same W φ))
  (xsRet (xmP (xBl W true)))))
def l1_law {T : Tbl} (W : Wd T) (φ : Sem) : XS W :=
  (xsSeq (xsAsg 5 (xmP (xIx (xLst (xaCons (xNon W) (xaCons (xNeg (xInt W 4)) (xaCons (xInt W 1) (xaCons (xInt W 6) (xaCons (xPow (xInt W 10) (xInt W 15)) (xaCons (xInt W 44) (xaNil W)))))))) (xMod (xInt1 (xaCons (xIx (xVar W 1) (xAdd (xInt W 3) (xMul (xInt W 3) (xVar W 4)))) (xaNil W))) (xInt W 6)))))
  (xsFrz [3, 5] (xsAsg 3 (xmP (xCall (φ "_law_spoilt") 4 (xaCons (xVar W 3) (xaCons (xIx (xVar W 1) (xAdd (xInt W 2) (xMul (xInt W 3) (xVar W 4)))) (xaCons (xVar W 5) (xaCons (xIx (xVar W 1) (xAdd (xInt W 4) (xMul (xInt W 3) (xVar W 4)))) (xaNil W))))) [] [] (fun _ => .nil))))))
def l2_law {T : Tbl} (W : Wd T) (φ : Sem) : XS W :=
  (xsExpr (xmAppend (plVar W 6) (xMakeN φ "HashFunction" "HashFunction.__init__" 2 1 4 [false] [] (by decide) (xaCons (xIx (xVar W 7) (xInt W 0)) (xaCons (xDict (xIx (xVar W 7) (xInt W 1))) (xaNil W))) (xaCons (xIx (xVar W 7) (xInt W 2)) (xaNil W)))))
def l5_law {T : Tbl} (W : Wd T) (φ : Sem) : XS W :=
  (xsSeq (xsIf (xtNot (xtTru (xCall (φ "_law_same") 2 (xaCons (xCall (φ "_law_told") 4 (xaCons (xVar W 8) (xaCons (xVar W 5) (xaCons (xVar W 10) (xaCons (xBl W true) (xaNil W))))) [] [] (fun _ => .nil)) (xaCons (xCall (φ "_law_path") 3 (xaCons (xVar W 3) (xaCons (xVar W 5) (xaCons (xVar W 10) (xaNil W)))) [] [] (fun _ => .nil)) (xaNil W))) [] [] (fun _ => .nil)))) (xsRet (xmP (xBl W false))) (xsNext W))
  (xsIf (xtAnd (xtV (xGt (xVar W 10) (xInt W 0))) (xtNot (xtTru (xCall (φ "_law_same") 2 (xaCons (xCall (φ "_law_told") 4 (xaCons (xVar W 8) (xaCons (xVar W 5) (xaCons (xVar W 10) (xaCons (xBl W false) (xaNil W))))) [] [] (fun _ => .nil)) (xaCons (xCall (φ "_law_part") 3 (xaCons (xVar W 3) (xaCons (xVar W 5) (xaCons (xVar W 10) (xaNil W)))) [] [] (fun _ => .nil)) (xaNil W))) [] [] (fun _ => .nil))))) (xsRet (xmP (xBl W false))) (xsNext W)))
def l4_law {T : Tbl} (W : Wd T) (φ : Sem) : XS W :=
  (xsFor (xiR1 (xaCons (xInt W 7) (xaNil W))) (xgN W 10) (l5_law W φ))
def l3_law {T : Tbl} (W : Wd T) (φ : Sem) : XS W :=
  (xsFor (xiSeqU (xAdd (xVar W 2) (xLst (xaCons (xInt W 44) (xaCons (xNeg (xInt W 100)) (xaNil W)))))) (xgN W 5) (l4_law W φ))
def b_law {T : Tbl} (W : Wd T) (φ : Sem) : XS W :=
  (xsSeq (xsFrz [0] (xsAsg 1 (xmP (xCall (φ "_law_draws") 3 (xaCons (xVar W 0) (xaCons (xInt W 0) (xaCons (xInt W 11) (xaNil W)))) [] [] (fun _ => .nil)))))
  (xsSeq (xsAsg 2 (xmP (xLst (xaCons (xNeg (xInt W 4)) (xaCons (xInt W 0) (xaCons (xInt W 1) (xaCons (xInt W 6) (xaCons (xPow (xInt W 10) (xInt W 15)) (xaNil W)))))))))
  (xsSeq (xsFrz [2] (xsFrz [0, 2] (xsAsg 3 (xmP (xCall (φ "_law_specs") 5 (xaCons (xVar W 0) (xaCons (xInt W 1) (xaCons (xAdd (xInt W 1) (xMod (xInt1 (xaCons (xIx (xVar W 1) (xInt W 0)) (xaNil W))) (xInt W 4))) (xaCons (xVar W 2) (xaCons (xInt W 9) (xaNil W)))))) [] [] (fun _ => .nil))))))
  (xsSeq (xsFor (xiR1 (xaCons (xMod (xInt1 (xaCons (xIx (xVar W 1) (xInt W 1)) (xaNil W))) (xInt W 4)) (xaNil W))) (xgN W 4) (l1_law W φ))
  (xsSeq (xsAsg 6 (xmP (xLst (xaNil W))))
  (xsSeq (xsFrz [3] (xsFor (xiSeqU (xVar W 3)) (xgN W 7) (l2_law W φ)))
  (xsSeq (xsFrz [6] (xsAsg 8 (xmP (xMake φ "Family" "Family.__init__" 2 (xaCons (xVar W 6) (xaNil W)) [] [] (fun _ => .nil)))))
  (xsSeq (xsFrz [8] (xsFor (xiR1 (xaCons (xInt W 2) (xaNil W))) (xgN W 9) (l3_law W φ)))
  (xsRet (xmP (xEq (xProp φ "fan_outs" (xVar W 8)) (xTuple (xLc (xiSeqU (xVar W 3)) (xgN W 7) (xtYes W) (xIx (xVar W 7) (xInt W 0)))))))))))))))
def clsL : List String := ["HashFunction", "Family"]
def fldL (c : String) : List String := if c = "HashFunction" then ["fan_out", "other", "_parts"] else if c = "Family" then ["_functions"] else []
def resT (c m : String) : Option String := if c = "HashFunction" then (if m = "__call__" then some "HashFunction.__call__" else if m = "part_of" then some "HashFunction.part_of" else none) else if c = "Family" then (if m = "__len__" then some "Family.__len__" else if m = "fan_outs" then some "Family.fan_outs" else if m = "part_at" then some "Family.part_at" else if m = "path_of" then some "Family.path_of" else none) else none
def subT (c d : String) : Bool := if c = "HashFunction" then (["HashFunction"]).contains d else if c = "Family" then (["Family"]).contains d else false
def itT (c : String) : Option String := if c = "Family" then some "_functions" else none
def xL : List String := ["JoinError", "BadFunction", "BadPart", "TooMany"]
def xsubT (c d : String) : Bool := if c = "JoinError" then (["JoinError"]).contains d else if c = "BadFunction" then (["BadFunction", "JoinError"]).contains d else if c = "BadPart" then (["BadPart", "JoinError"]).contains d else if c = "TooMany" then (["TooMany", "JoinError"]).contains d else false
def TT : Tbl := ⟨fun c f => (fldL c).contains f, fun _ _ => none, subT, resT, itT, xsubT⟩
theorem xs_JoinError_JoinError : TT.xsub "JoinError" "JoinError" = true := by simp [TT, xsubT]
theorem xs_JoinError_BadFunction : TT.xsub "JoinError" "BadFunction" = false := by simp [TT, xsubT]
theorem xs_JoinError_BadPart : TT.xsub "JoinError" "BadPart" = false := by simp [TT, xsubT]
theorem xs_JoinError_TooMany : TT.xsub "JoinError" "TooMany" = false := by simp [TT, xsubT]
theorem xs_BadFunction_JoinError : TT.xsub "BadFunction" "JoinError" = true := by simp [TT, xsubT]
theorem xs_BadFunction_BadFunction : TT.xsub "BadFunction" "BadFunction" = true := by simp [TT, xsubT]
theorem xs_BadFunction_BadPart : TT.xsub "BadFunction" "BadPart" = false := by simp [TT, xsubT]
theorem xs_BadFunction_TooMany : TT.xsub "BadFunction" "TooMany" = false := by simp [TT, xsubT]
theorem xs_BadPart_JoinError : TT.xsub "BadPart" "JoinError" = true := by simp [TT, xsubT]
theorem xs_BadPart_BadFunction : TT.xsub "BadPart" "BadFunction" = false := by simp [TT, xsubT]
theorem xs_BadPart_BadPart : TT.xsub "BadPart" "BadPart" = true := by simp [TT, xsubT]
theorem xs_BadPart_TooMany : TT.xsub "BadPart" "TooMany" = false := by simp [TT, xsubT]
theorem xs_TooMany_JoinError : TT.xsub "TooMany" "JoinError" = true := by simp [TT, xsubT]
theorem xs_TooMany_BadFunction : TT.xsub "TooMany" "BadFunction" = false := by simp [TT, xsubT]
theorem xs_TooMany_BadPart : TT.xsub "TooMany" "BadPart" = false := by simp [TT, xsubT]
theorem xs_TooMany_TooMany : TT.xsub "TooMany" "TooMany" = true := by simp [TT, xsubT]
theorem ik_HashFunction : TT.it "HashFunction" = none := by simp [TT, itT]
theorem fk_HashFunction_fan_out : TT.fOk "HashFunction" "fan_out" = true := by simp [TT, fldL]
theorem fk_HashFunction_other : TT.fOk "HashFunction" "other" = true := by simp [TT, fldL]
theorem fk_HashFunction__parts : TT.fOk "HashFunction" "_parts" = true := by simp [TT, fldL]
theorem rs_HashFunction___call__ : TT.res "HashFunction" "__call__" = some "HashFunction.__call__" := by simp [TT, resT]
theorem rs_HashFunction___len__ : TT.res "HashFunction" "__len__" = none := by simp [TT, resT]
theorem rs_HashFunction_part_at : TT.res "HashFunction" "part_at" = none := by simp [TT, resT]
theorem rs_HashFunction_part_of : TT.res "HashFunction" "part_of" = some "HashFunction.part_of" := by simp [TT, resT]
theorem rs_HashFunction_path_of : TT.res "HashFunction" "path_of" = none := by simp [TT, resT]
theorem rs_HashFunction_fan_outs : TT.res "HashFunction" "fan_outs" = none := by simp [TT, resT]
theorem sb_HashFunction_HashFunction : TT.sub "HashFunction" "HashFunction" = true := by simp [TT, subT]
theorem sb_HashFunction_Family : TT.sub "HashFunction" "Family" = false := by simp [TT, subT]
theorem ik_Family : TT.it "Family" = some "_functions" := by simp [TT, itT]
theorem fk_Family__functions : TT.fOk "Family" "_functions" = true := by simp [TT, fldL]
theorem rs_Family___call__ : TT.res "Family" "__call__" = none := by simp [TT, resT]
theorem rs_Family___len__ : TT.res "Family" "__len__" = some "Family.__len__" := by simp [TT, resT]
theorem rs_Family_part_at : TT.res "Family" "part_at" = some "Family.part_at" := by simp [TT, resT]
theorem rs_Family_part_of : TT.res "Family" "part_of" = none := by simp [TT, resT]
theorem rs_Family_path_of : TT.res "Family" "path_of" = some "Family.path_of" := by simp [TT, resT]
theorem rs_Family_fan_outs : TT.res "Family" "fan_outs" = some "Family.fan_outs" := by simp [TT, resT]
theorem sb_Family_HashFunction : TT.sub "Family" "HashFunction" = false := by simp [TT, subT]
theorem sb_Family_Family : TT.sub "Family" "Family" = true := by simp [TT, subT]
def tbl {T : Tbl} (W : Wd T) : String -> Option (Sem -> List D -> Option Nat -> Rz)
  | "is_integer" => some fun φ => runFn 1 (b_is_integer W φ)
  | "HashFunction.__init__" => some fun φ => runFn 5 (b_HashFunction___init__ W φ)
  | "HashFunction.__call__" => some fun φ => runFn 2 (b_HashFunction___call__ W φ)
  | "HashFunction.part_of" => some fun φ => runFn 3 (b_HashFunction_part_of W φ)
  | "Family.__init__" => some fun φ => runFn 2 (b_Family___init__ W φ)
  | "Family.__len__" => some fun φ => runFn 1 (b_Family___len__ W φ)
  | "Family.fan_outs" => some fun φ => runFn 2 (b_Family_fan_outs W φ)
  | "Family.part_at" => some fun φ => runFn 4 (b_Family_part_at W φ)
  | "Family.path_of" => some fun φ => runFn 4 (b_Family_path_of W φ)
  | "_law_draws" => some fun φ => runFn 9 (b_law_draws W φ)
  | "_law_specs" => some fun φ => runFn 11 (b_law_specs W φ)
  | "_law_is_wrong" => some fun φ => runFn 2 (b_law_is_wrong W φ)
  | "_law_spoilt" => some fun φ => runFn 9 (b_law_spoilt W φ)
  | "_law_part" => some fun φ => runFn 5 (b_law_part W φ)
  | "_law_path" => some fun φ => runFn 6 (b_law_path W φ)
  | "_law_told" => some fun φ => runFn 6 (b_law_told W φ)
  | "_law_same" => some fun φ => runFn 3 (b_law_same W φ)
  | _ => none
theorem sem_is_integer {T : Tbl} (W : Wd T) (k : Nat) (args : List D) (b : Option Nat) : semT (tbl W) (k + 1) "is_integer" args b = runFn 1 (b_is_integer W (semT (tbl W) k)) args b := rfl
theorem sem_HashFunction___init__ {T : Tbl} (W : Wd T) (k : Nat) (args : List D) (b : Option Nat) : semT (tbl W) (k + 1) "HashFunction.__init__" args b = runFn 5 (b_HashFunction___init__ W (semT (tbl W) k)) args b := rfl
theorem sem_HashFunction___call__ {T : Tbl} (W : Wd T) (k : Nat) (args : List D) (b : Option Nat) : semT (tbl W) (k + 1) "HashFunction.__call__" args b = runFn 2 (b_HashFunction___call__ W (semT (tbl W) k)) args b := rfl
theorem sem_HashFunction_part_of {T : Tbl} (W : Wd T) (k : Nat) (args : List D) (b : Option Nat) : semT (tbl W) (k + 1) "HashFunction.part_of" args b = runFn 3 (b_HashFunction_part_of W (semT (tbl W) k)) args b := rfl
theorem sem_Family___init__ {T : Tbl} (W : Wd T) (k : Nat) (args : List D) (b : Option Nat) : semT (tbl W) (k + 1) "Family.__init__" args b = runFn 2 (b_Family___init__ W (semT (tbl W) k)) args b := rfl
theorem sem_Family_fan_outs {T : Tbl} (W : Wd T) (k : Nat) (args : List D) (b : Option Nat) : semT (tbl W) (k + 1) "Family.fan_outs" args b = runFn 2 (b_Family_fan_outs W (semT (tbl W) k)) args b := rfl
theorem sem_Family_part_at {T : Tbl} (W : Wd T) (k : Nat) (args : List D) (b : Option Nat) : semT (tbl W) (k + 1) "Family.part_at" args b = runFn 4 (b_Family_part_at W (semT (tbl W) k)) args b := rfl
theorem sem_Family_path_of {T : Tbl} (W : Wd T) (k : Nat) (args : List D) (b : Option Nat) : semT (tbl W) (k + 1) "Family.path_of" args b = runFn 4 (b_Family_path_of W (semT (tbl W) k)) args b := rfl
theorem sem_law_draws {T : Tbl} (W : Wd T) (k : Nat) (args : List D) (b : Option Nat) : semT (tbl W) (k + 1) "_law_draws" args b = runFn 9 (b_law_draws W (semT (tbl W) k)) args b := rfl
theorem sem_law_specs {T : Tbl} (W : Wd T) (k : Nat) (args : List D) (b : Option Nat) : semT (tbl W) (k + 1) "_law_specs" args b = runFn 11 (b_law_specs W (semT (tbl W) k)) args b := rfl
theorem sem_law_is_wrong {T : Tbl} (W : Wd T) (k : Nat) (args : List D) (b : Option Nat) : semT (tbl W) (k + 1) "_law_is_wrong" args b = runFn 2 (b_law_is_wrong W (semT (tbl W) k)) args b := rfl
theorem sem_law_spoilt {T : Tbl} (W : Wd T) (k : Nat) (args : List D) (b : Option Nat) : semT (tbl W) (k + 1) "_law_spoilt" args b = runFn 9 (b_law_spoilt W (semT (tbl W) k)) args b := rfl
theorem sem_law_part {T : Tbl} (W : Wd T) (k : Nat) (args : List D) (b : Option Nat) : semT (tbl W) (k + 1) "_law_part" args b = runFn 5 (b_law_part W (semT (tbl W) k)) args b := rfl
theorem sem_law_path {T : Tbl} (W : Wd T) (k : Nat) (args : List D) (b : Option Nat) : semT (tbl W) (k + 1) "_law_path" args b = runFn 6 (b_law_path W (semT (tbl W) k)) args b := rfl
theorem sem_law_told {T : Tbl} (W : Wd T) (k : Nat) (args : List D) (b : Option Nat) : semT (tbl W) (k + 1) "_law_told" args b = runFn 6 (b_law_told W (semT (tbl W) k)) args b := rfl
theorem sem_law_same {T : Tbl} (W : Wd T) (k : Nat) (args : List D) (b : Option Nat) : semT (tbl W) (k + 1) "_law_same" args b = runFn 3 (b_law_same W (semT (tbl W) k)) args b := rfl
end Py
namespace Py
open PySem L2
open Enc (enc)
local macro_rules | `(tactic| simp? only [$xs,*]) => `(tactic| try simp (maxSteps := 1000000) (disch := first | omega | decide) only [e_xsSeq, e_xsNext, e_xsAsg, e_xsExpr, e_xsRet, e_xsIf, e_xsFrz, e_xmP, e_xVar_V, e_xtV, e_xtTru, e_xtAnd, e_xtOr, e_xtNot, e_xtYes, e_xVar, e_xInt, e_xBl, e_xNon, e_xStr, e_xSub, e_xMul, e_xDiv, e_xMod, e_xPow, e_xNeg, e_xAdd, e_xEq, e_xNe, e_xLt, e_xGt, e_xGe, e_xIsN, e_xAnd, e_xOr, e_xNot, e_xTup, e_xLst, e_xInt1, e_xAbs, e_xIx, e_xFld, e_xList, e_xTuple, e_xIsi, e_xCall, e_xLc, e_xmVar, e_xmMove, e_xmAppend, e_xoNil, e_xoCons, e_plVar, r_plVar, e_xaNilV, e_xaNilF, e_xaConsV, e_xaConsF, e_xgN, e_xgT, o_xgN, o_xgT, e_xiSeqF, e_xiSeqP, e_xiR1F, e_xiR1P, e_xiR2F, e_xiR2P, e_xsFor, e_evV, e_evK, e_evF, e_evO, e_evB, h_getS0, h_getS0n, h_getSs, h_toV, h_toVn, h_toKf, h_toKp, h_toKv, h_toKn, h_toFf, h_toFp, h_toFv, h_toFn, h_toOf, h_toOp, h_toOv, h_toOn, h_of_f, h_of_p, h_of_v, h_then_nx, h_then_rt, h_then_bk, h_then_ct, h_then_ex, h_then_no, h_thenS_ok, h_thenS_exn, h_thenS_no, h_ofO, h_ofOn, h_of, h_ofn, h_mofO, h_mofOn, h_iteF1, h_iteF0, h_iteFn, h_asgK, h_forK, h_andF1, h_andF0, h_orF1, h_orF0, h_blD, h_turn, h_turnn, h_forE, h_forEn, h_callF, h_callV, h_rzF, h_rzV, h_fz_non, h_sh_non, h_fl_non, h_isN_non, h_fz_bl, h_sh_bl, h_fl_bl, h_fz_int, h_sh_int, h_fl_int, h_isN_int, h_fz_str, h_sh_str, h_fl_str, h_isN_str, h_fz_cls, h_sh_cls, h_fl_cls, h_isN_cls, h_fz_sei, h_sh_sei, h_fl_sei, h_isN_sei, h_fz_scr, h_sh_scr, h_fl_scr, h_isN_scr, h_fz_tup, h_sh_tup, h_fl_tup, h_isN_tup, h_fz_lst, h_sh_lst, h_fl_lst, h_isN_lst, h_fz_dic, h_sh_dic, h_fl_dic, h_isN_dic, h_fz_dit, h_sh_dit, h_fl_dit, h_isN_dit, h_fz_dig, h_sh_dig, h_fl_dig, h_isN_dig, h_fz_ins, h_sh_ins, h_fl_ins, h_isN_ins, h_isN_bl, h_fz_olst, h_sh_olst, h_fl_olst, h_fz_odic, h_sh_odic, h_fl_odic, h_fz_odit, h_sh_odit, h_fl_odit, h_fz_odig, h_sh_odig, h_fl_odig, h_fz_oins, h_sh_oins, h_fl_oins, h_fzs_nil, h_fzs_cons, h_fzs_app, h_tru_bl, h_tru_non, h_tru_int, h_tru_lst, h_tru_tup, h_sub, h_neg, h_addI, h_addT, h_addL, h_addLo, h_addoL, h_addoo, h_eqD, h_neD, h_ok_non, h_ok_bl, h_ok_int, h_ok_str, h_ok_tup, h_ok_lst, h_oks_nil, h_oks_cons, h_eqB_ii, h_eqB_ss, h_eqB_bb, h_eqB_nn, h_eqB_ni, h_eqB_in, h_eqB_nt, h_eqB_tn, h_eqB_tt, h_eqB_ll, h_eqBs_nn, h_eqBs_cc, h_eqBs_nc, h_eqBs_cn, h_cmp, h_ltI, h_ltT, h_ints_nil, h_ints_cons, h_intI, h_intB, h_abs, h_lenL, h_lenT, h_lenS, h_ix, h_it_lst, h_it_olst, h_it_tup, h_it_scr, h_at0, h_at1, h_at2, h_at3, h_at4, h_at5, h_at6, h_at7, h_at8, h_at9, h_at10, h_at11, h_at12, h_atm1, h_seq_lst, h_seq_tup, h_seq_olst, h_seq_scr, h_sF_lst, h_sF_tup, h_sF_scr, h_ty_non, h_ty_bl, h_ty_int, h_ty_str, h_ty_lst, h_ty_tup, h_ty_ins, h_isi_bb, h_isi_bo, h_isi_ob, h_isi_oo, h_isiB_NoneType_bool, h_isiB_NoneType_int, h_isiB_NoneType_str, h_isiB_NoneType_list, h_isiB_NoneType_tuple, h_isiB_NoneType_dict, h_isiB_bool_bool, h_isiB_bool_int, h_isiB_bool_str, h_isiB_bool_list, h_isiB_bool_tuple, h_isiB_bool_dict, h_isiB_int_bool, h_isiB_int_int, h_isiB_int_str, h_isiB_int_list, h_isiB_int_tuple, h_isiB_int_dict, h_isiB_str_bool, h_isiB_str_int, h_isiB_str_str, h_isiB_str_list, h_isiB_str_tuple, h_isiB_str_dict, h_isiB_list_bool, h_isiB_list_int, h_isiB_list_str, h_isiB_list_list, h_isiB_list_tuple, h_isiB_list_dict, h_isiB_tuple_bool, h_isiB_tuple_int, h_isiB_tuple_str, h_isiB_tuple_list, h_isiB_tuple_tuple, h_isiB_tuple_dict, h_isiB_dict_bool, h_isiB_dict_int, h_isiB_dict_str, h_isiB_dict_list, h_isiB_dict_tuple, h_isiB_dict_dict, h_append, h_put0, h_rng1, h_rng2, h_guard1, h_guard0, h_forLn, h_forLc, h_forT_nx, h_forT_ct, h_forT_bk, h_forT_rt, h_forT_ex, h_lc1, h_lcK, h_lcJ1, h_lcJ0, h_wipe0, h_wipes, h_frz, h_frzO, h_frzOn, h_runR_rt, h_runR_nx, h_retZ, h_bGetn, h_bGets, h_setS, h_fldI, h_fldO, h_iteFd1, h_iteFd0, h_iteFe1, h_iteFe0, h_andFd1, h_andFd0, h_andFe1, h_andFe0, h_orFd1, h_orFd0, h_orFe1, h_orFe0, h_lcJd1, h_lcJd0, h_lcJe1, h_lcJe0, h_callO1, h_meth1, h_meth2, h_resE, h_resEn, h_posn, h_posc, h_eMmeth, h_methM1, h_methM0, h_rm0o, h_rm0x, h_rm0n, h_rm1o, h_rm1x, h_putc, h_putE, h_subF, h_subI, h_putF, h_putI, h_setOs, h_eSfld, h_fldK, h_setFD, h_setFn, h_setFc, h_eMake, h_makeF, h_makeV, h_mk1, h_mkR, h_eProp, h_propF, h_propV, h_prop1, h_eLenU, h_lenI_lst, h_lenI_tup, h_lenI_scr, h_lenI_ins, h_lenQ, h_lenR, h_eSl, h_slE, h_evI0, h_evI1, h_intO, h_eMs0, h_eMs1, h_RMthenL_ok, h_RLthenL_ok, h_RLthenM_ok, h_RMthenM_ok, h_RTthen_ok, h_RTthenS_ok, h_RMthenL_exn, h_RLthenL_exn, h_RLthenM_exn, h_RMthenM_exn, h_RTthen_exn, h_RTthenS_exn, h_consK, h_consL, h_RTof, h_eListU, h_lstE_lst, h_lstE_tup, h_lstE_scr, h_lstE_olst, h_lstE_ins, h_itQ, h_it_ins, h_lo_lst, h_lo_olst, h_eiSeqUF, h_eiSeqUP, h_seqFI_lst, h_seqFI_tup, h_seqFI_scr, h_seqFI_ins, h_seqKI_lst, h_seqKI_tup, h_seqKI_scr, h_seqKI_ins, h_seqKI_olst, h_ixD_ins, h_okD_ins, h_eqD_ins, h_addD_ins, h_addD_oins, h_ownE, h_okSame, h_eMakeN, h_makeNE_F, h_makeNE_V, h_makeNE_W, h_mkN, h_mgM_t, h_mgM_f, h_mgM_n, h_eDnew, h_eDget2, h_getE_non, h_getE_int, h_getE_str, h_getM_s, h_getM_n, h_eDix, h_dgE_int, h_dgE_str, h_inK_non, h_inK_int, h_inK_str, h_eDict, h_dicOf_d, h_dicOf_o, h_dicF_d, h_dicF_o, h_eDput, h_dputK, h_dputI, h_dputS, h_eForD, h_itemD0, h_itemD1, h_lockR, h_noEx_nx, h_noEx_rt, h_isDic, h_dsK, h_eDc, h_eDcD, h_frE_s, h_frE_n, h_guardB_t, h_dc1, h_dcK, h_dcJ1, h_dcJ0, h_keyD_i, h_keyD_s, h_kDs_n, h_kDs_c, h_dcL_n, h_putP_n, h_eRaise, h_exOf, h_exOfn, h_eTryAs, h_tryK_nx, h_tryK_rt, h_tryK_bk, h_tryK_ct, h_tryK_no, h_tryK_ex, h_tryJ1, h_tryJ0, h_clr_nx, h_clr_rt, h_clr_bk, h_clr_ct, h_clr_no, h_ehAsg, h_hAsgK, h_hAsgKn, h_qevO, h_qevB, h_qevF, h_toQf, h_toQp, h_toQv, h_toQn, h_eqP, h_eqFld, h_eqLst, h_eqs0, h_eqs1, h_eCallOM, h_callOMs, h_runR_ex, h_retX, h_thenY1, h_thenY2, h_thenY3, h_look1, h_look2, h_div, h_mod, h_mulL, h_mulR, h_rngOk, List.zip_cons_cons, List.zip_nil_left, if_pos, if_neg, List.getElem?_cons_zero, List.getElem?_cons_succ, List.getElem?_nil, List.getLast?_append, List.getLast?_singleton, List.getLast?_cons_cons, runFn, env0, Option.toList, List.map_cons, List.map_nil, List.length_cons, List.length_nil, List.length_append, List.length_map, List.length_set, List.replicate, List.cons_append, List.nil_append, List.append_nil, Nat.reduceSub, Nat.reduceAdd, Nat.reduceLT, Nat.reduceLeDiff, Nat.reduceEqDiff, Nat.zero_add, Nat.add_zero, List.set_cons_zero, List.set_cons_succ, List.set_nil, Option.bind_some, Option.bind_none, Option.map_some, Option.map_none, List.foldl_cons, List.foldl_nil, not_false_eq_true, not_true_eq_false, and_true, true_and, and_self, and_false, false_and, if_true, if_false, ite_true, ite_false, reduceIte, List.not_mem_nil, reduceCtorEq, List.mem_cons, or_false, false_or, or_self, ne_eq, Bool.not_true, Bool.not_false, Bool.and_true, Bool.and_false, Bool.true_and, Bool.false_and, Bool.or_true, Bool.or_false, Bool.true_or, Bool.false_or, Bool.and_self, Bool.or_self, List.all_cons, List.all_nil, decide_true, decide_false, decide_not, decide_eq_true_eq, decide_eq_false_iff_not, Bool.not_not, Int.reduceLT, Int.reduceLE, Int.reduceEq, Int.reduceNe, Int.reduceAdd, Int.reduceMul, Int.reduceSub, Int.reduceNeg, List.isEmpty_cons, List.isEmpty_nil, Bool.false_eq_true, Bool.true_eq_false, String.reduceEq, Function.comp_apply, Option.isNone_none, Option.some_or, Option.isNone_some, List.getLast?_concat, List.dropLast_concat, List.all_append, $xs,*])
local macro_rules | `(tactic| dsimp? only [$xs,*]) => `(tactic| simp? only [xs_JoinError_JoinError, xs_JoinError_BadFunction, xs_JoinError_BadPart, xs_JoinError_TooMany, xs_BadFunction_JoinError, xs_BadFunction_BadFunction, xs_BadFunction_BadPart, xs_BadFunction_TooMany, xs_BadPart_JoinError, xs_BadPart_BadFunction, xs_BadPart_BadPart, xs_BadPart_TooMany, xs_TooMany_JoinError, xs_TooMany_BadFunction, xs_TooMany_BadPart, xs_TooMany_TooMany, ik_HashFunction, fk_HashFunction_fan_out, fk_HashFunction_other, fk_HashFunction__parts, rs_HashFunction___call__, rs_HashFunction___len__, rs_HashFunction_part_at, rs_HashFunction_part_of, rs_HashFunction_path_of, rs_HashFunction_fan_outs, sb_HashFunction_HashFunction, sb_HashFunction_Family, ik_Family, fk_Family__functions, rs_Family___call__, rs_Family___len__, rs_Family_part_at, rs_Family_part_of, rs_Family_path_of, rs_Family_fan_outs, sb_Family_HashFunction, sb_Family_Family, $xs,*])
section
section
section
section
section
local macro_rules | `(tactic| walk_at "ev") => `(tactic| dsimp? only [])
section
variable {W : Wd TT}
def drawStep (big : Bool) (k : Int) (n : Int) : Int × Int :=
  if big = true then (n % 1000, n / 1000)
  else if 0 < n then
    ((((n * (48271 + 6 * k) + 69621 * k) % 2147483647 * ((n * (48271 + 6 * k) + 69621 * k) % 2147483647) + 40692 * k + 1) % 2147483629) % 1000, n)
  else (0, n)
def drawsGo (big : Bool) (n : Int) : Nat -> List Int × Int
  | 0 => ([], n)
  | i + 1 => ((drawsGo big n i).1 ++ [(drawStep big (0 + i) (drawsGo big n i).2).1], (drawStep big (0 + i) (drawsGo big n i).2).2)
def drawNum (ns : List Int) (at' : Int) : Int := if h : 0 <= at' /\ at' < ns.length then (if ns[at'.toNat]'(by omega) < 0 then -(ns[at'.toNat]'(by omega)) else ns[at'.toNat]'(by omega)) else 0
def draws (ns : List Int) (at' many : Int) : List Int := (drawsGo (decide (10 ^ 18 <= drawNum ns at')) (drawNum ns at') many.toNat).1
theorem drawStep_ok {big : Bool} {k n : Int} (h : 0 <= n) : 0 <= (drawStep big k n).1 /\ (drawStep big k n).1 < 1000 /\ 0 <= (drawStep big k n).2 /\ (drawStep big k n).2 <= n := by
  unfold drawStep
  split
  · simp only; omega
  · split
    · simp only; omega
    · simp only; omega
theorem drawsGo_ok {big : Bool} {n : Int} (h : 0 <= n) : ∀ i, (drawsGo big n i).1.length = i /\ (∀ d ∈ (drawsGo big n i).1, 0 <= d /\ d < 1000) /\ 0 <= (drawsGo big n i).2 /\ (drawsGo big n i).2 <= n
  | 0 => ⟨rfl, (fun _ m => nomatch m), h, Int.le_refl _⟩
  | i + 1 => by
    obtain ⟨h1, h2, h3, h4⟩ := drawsGo_ok (big := big) h i
    obtain ⟨q1, q2, q3, q4⟩ := drawStep_ok (big := big) (k := 0 + i) h3
    refine ⟨by rw [drawsGo]; simp [h1], fun d m => ?_, q3, Int.le_trans q4 h4⟩
    rw [drawsGo] at m
    rcases List.mem_append.mp m with m | m
    · exact h2 d m
    · rw [List.mem_singleton.mp m]; exact ⟨q1, q2⟩
theorem drawNum_nn (ns : List Int) (at' : Int) : 0 <= drawNum ns at' := by
  unfold drawNum
  split
  · split <;> omega
  · omega
theorem draws_length (ns : List Int) (at' many : Int) : (draws ns at' many).length = many.toNat := (drawsGo_ok (drawNum_nn ns at') _).1
theorem draws_ok (ns : List Int) (at' many : Int) : ∀ d ∈ draws ns at' many, 0 <= d /\ d < 1000 := (drawsGo_ok (drawNum_nn ns at') _).2.1
theorem f_law_draws (k : Nat) {ns : List Int} {i n : Int} (h0 : 0 <= i) (h1 : 0 <= n) (h2 : n <= 1000) : semT (tbl W) (k + 1) "_law_draws" [.scr ns, .int i, .int n] none = .ok (.olst ((draws ns i n).map .int)) none := by
  rw [sem_law_draws]
  unfold b_law_draws
  have loop : ∀ (b : Bool) (m : Int), 0 <= m -> ∀ e0, e0 = [some (.scr ns), some (.int i), some (.int n), some (.int m), some (.bl b), some (.olst []), none, none, none] -> ∀ r, forL (forK (xgN W 6) (l1_law_draws W (semT (tbl W) k)) []) (rangeD 0 n.toNat) e0 = r ->
      ∃ e', r = .nx e' /\ getS e' 5 = some (.olst ((drawsGo b m n.toNat).1.map .int)) /\ e'.length = 9 := by
    intro b m hm e0 he r hF
    obtain ⟨e', rfl, o6, o7, o8, h⟩ := forL_gen (fun j e => ∃ o6 o7 o8, e = [some (.scr ns), some (.int i), some (.int n), some (.int (drawsGo b m j).2), some (.bl b), some (.olst ((drawsGo b m j).1.map .int)), o6, o7, o8]) hF ⟨none, none, none, he⟩ (by
      rintro j d _ hd ⟨o6, o7, o8, rfl⟩
      obtain ⟨hj, rfl⟩ := rangeD_get hd
      obtain ⟨q1, q2, q3, q4⟩ := drawsGo_ok (big := b) hm j
      generalize hg : drawsGo b m j = g at q1 q2 q3 q4
      have hs : drawsGo b m (j + 1) = (g.1 ++ [(drawStep b (0 + j) g.2).1], (drawStep b (0 + j) g.2).2) := by rw [drawsGo, hg]
      rw [hs]
      have hj2 : (0 : Int) + (j : Int) < 1000 := by omega
      generalize hx : (0 : Int) + (j : Int) = x at hj2
      have hx0 : 0 <= x := by omega
      have hl : g.1.length < 1000000 := by omega
      clear hx hj hd hs hg q4 hF q2
      unfold drawStep l1_law_draws
      cases b with
      | true =>
        refine ⟨_, .inl (by walk_at "ev"; rfl), ?_⟩
        rw [List.map_append]
        exact ⟨_, _, _, rfl⟩
      | false =>
        by_cases hp : 0 < g.2
        · generalize hy : g.2 * (48271 + 6 * x) + 69621 * x = y
          have e1 : 0 <= y % 2147483647 := by omega
          have e2 : y % 2147483647 < 2147483647 := by omega
          generalize hz : y % 2147483647 = z at e1 e2
          refine ⟨_, .inl (by walk_at "ev"; rw [hy, hz]), ?_⟩
          rw [if_neg (by decide), if_pos hp, List.map_append]
          exact ⟨_, _, _, rfl⟩
        · refine ⟨_, .inl (by walk_at "ev"; rfl), ?_⟩
          rw [if_neg (by decide), if_neg hp, List.map_append]
          exact ⟨_, _, _, rfl⟩)
    rw [rangeD_length] at h
    exact ⟨e', rfl, by rw [h]; rfl, by rw [h]; rfl⟩
  have fin : ∀ e' : Py.Env, getS e' 5 = some (.olst ((draws ns i n).map .int)) -> runR none (RS.then (.nx e') ((xsRet (xmMove W 5)).ev [])) = .ok (.olst ((draws ns i n).map .int)) none := fun e' he => by
    walk_at "ev"
    rw [he]
    walk_at "ev"
  have hp : powD (.int 10) (.int 18) = some (.int 1000000000000000000) := rfl
  by_cases hi : i < ns.length
  · obtain ⟨x, hx1, hx2⟩ := atI_get h0 hi
    have en : drawNum ns i = if x < 0 then -x else x := by
      have : x = ns[i.toNat]'(by omega) := by rw [List.getElem?_eq_getElem (by omega)] at hx2; exact (Option.some.inj hx2).symm
      unfold drawNum
      rw [dif_pos ⟨h0, hi⟩, this]
    walk_at "ev"
    rw [atI_map, hx1]
    walk_at "ev"
    rw [hp]
    walk_at "ev"
    rw [<- en]
    have hn := drawNum_nn ns i
    have e0 : drawsGo (decide (1000000000000000000 <= drawNum ns i)) (drawNum ns i) n.toNat = drawsGo (decide (10 ^ 18 <= drawNum ns i)) (drawNum ns i) n.toNat := rfl
    generalize hF : forL _ _ _ = r
    obtain ⟨e', rfl, h5, _⟩ := loop _ _ hn _ rfl _ hF
    exact fin e' (by rw [h5, e0]; rfl)
  · have en : drawNum ns i = 0 := by
      unfold drawNum
      rw [dif_neg (by omega)]
    walk_at "ev"
    rw [hp]
    walk_at "ev"
    generalize hF : forL _ _ _ = r
    obtain ⟨e', rfl, h5, _⟩ := loop false 0 (Int.le_refl _) _ rfl _ hF
    exact fin e' (by rw [h5]; unfold draws; rw [en]; rfl)
local macro_rules | `(tactic| walk_at "evr") => `(tactic| dsimp? only [enc_int])
theorem u_is_integer (k : Nat) (i : Int) : semT (tbl W) (k + 1) "is_integer" [.int i] none = .ok (.bl true) none := by
  rw [sem_is_integer]; unfold b_is_integer; walk_at "ev"
local macro_rules | `(tactic| walk_at "evt") => `(tactic| dsimp? only [u_is_integer, it_pair, sF_pair, so_pair, ty_pair, len_pair, lenI_pair, fl_pair, xg_pair, enc_int, isN_opt, sh_enc, fz_enc, shl_enc, fzl_enc, fl_enc, ok_enc, okl_enc, eq_enc, eql_enc, en_enc, ne_enc, nn_enc, enumD_enc])
local macro_rules | `(tactic| walk_at "ev2") => `(tactic| dsimp? only [])
local macro_rules | `(tactic| walk_at "ev3") => `(tactic| dsimp? only [])
theorem q_sl {xs y} : eqB (.str y) (.lst xs) = false := by simp [eqB]
theorem q_st {xs y} : eqB (.str y) (.tup xs) = false := by simp [eqB]
theorem q_si {xs y} : eqB (.str y) (.int xs) = false := by simp [eqB]
theorem q_sb {xs y} : eqB (.str y) (.bl xs) = false := by simp [eqB]
theorem q_sn {y} : eqB (.str y) .non = false := by simp [eqB]
local macro_rules | `(tactic| walk_at "evkn") => `(tactic| dsimp? only [q_sl, q_st, q_si, q_sb, q_sn])
end
end
section
local macro_rules | `(tactic| walk_at "ev") => `(tactic| dsimp? only [])
section
variable {W : Wd TT}
local macro_rules | `(tactic| walk_at "evk") => `(tactic| dsimp? only [sh_eR, fz_eR, fl_eR, sh_oR, fz_oR, ok_eR, ok_oR, eq_eR, eq_oR, eq_eRn, eq_neR, isN_eR, isN_oR, ty_eR, len_eR, sF_eR, it_eR, lt_eR, okl_eR, eql_eR, shl_eR, fzl_eR])
local macro_rules | `(tactic| walk_at "evh") => `(tactic| dsimp? only [List.map_append, sh_eR, fz_eR, fl_eR, sh_oR, fz_oR, ok_eR, ok_oR, eq_eR, eq_oR, eq_eRn, eq_neR, isN_eR, isN_oR, ty_eR, len_eR, sF_eR, it_eR, lt_eR, okl_eR, eql_eR, shl_eR, fzl_eR])
local macro_rules | `(tactic| walk_at "evc") => `(tactic| dsimp? only [])
abbrev Rec := T3 Int Int Bool
def dT (r : Rec) : PyData := .tuple [.int r.a, .int r.b, .bool r.c]
theorem pd_Rec (r : Rec) : pd (enc r) = some (dT r) := by
  show pd (.tup [.int r.a, .int r.b, .bl r.c]) = _
  unfold dT; simp [pd, pds]
theorem sortOk_dT (rs : List Rec) : sortOk (rs.map dT) = true := by
  unfold sortOk
  simp only [Bool.and_eq_true, List.all_eq_true, Bool.or_eq_true]
  refine ⟨⟨?_, .inl ?_⟩, ?_⟩
  · intro a ha b hb
    obtain ⟨x, _, rfl⟩ := List.mem_map.mp ha
    obtain ⟨y, _, rfl⟩ := List.mem_map.mp hb
    simp [dT, PySem.W.alike, PySem.W.alikeAll]
  · intro a ha
    obtain ⟨x, _, rfl⟩ := List.mem_map.mp ha
    rfl
  · intro a ha
    obtain ⟨x, _, rfl⟩ := List.mem_map.mp ha
    simp [dT, PyData.depth, PyData.depthAll]
def srtT (rs : List Rec) : List Rec := rs.mergeSort (PySem.W.dataLe false dT)
theorem srt_Rec (rs : List Rec) : sortD (rs.map enc) = some ((srtT rs).map enc) := sortD_map pd_Rec rs (sortOk_dT rs)
theorem xg_eR {T : Tbl} {W : Wd T} {gs : XGs W} {P : List Nat} {env : Py.Env} (p : Pr) : (xgT 2 gs).ev P (eR p) env = gs.ev P [.int p.1, .int p.2] env := by show (xgT 2 gs).ev P (.tup _) env = _; rw [e_xgT]; exact if_pos rfl
local macro_rules | `(tactic| walk_at "evp") => `(tactic| dsimp? only [xg_eR, rangeD_length, sh_eR, fz_eR, fl_eR, sh_oR, fz_oR, ok_eR, ok_oR, eq_eR, eq_oR, eq_eRn, eq_neR, isN_eR, isN_oR, ty_eR, len_eR, sF_eR, it_eR, lt_eR, okl_eR, eql_eR, shl_eR, fzl_eR, srt_eR, srt_Rec, it_t3, sF_t3, sFI_t3, ty_t3, len_t3, lenI_t3, fl_t3, xg_t3, enc_int, enc_bool, isN_opt, sh_enc, fz_enc, shl_enc, fzl_enc, fl_enc, ok_enc, okl_enc, eq_enc, eql_enc, en_enc, ne_enc, nn_enc, vE_length, kI_length])
end
end
section
local macro_rules | `(tactic| walk_at "ev") => `(tactic| dsimp? only [])
section
variable {W : Wd TT}
def leI (a b : Int) : Bool := decide (a <= b)
def srtI (xs : List Int) : List Int := xs.mergeSort leI
theorem srt_int (xs : List Int) : sortD (xs.map (enc : Int -> D)) = some ((srtI xs).map enc) := by
  have h := sortD_map (enc := (enc : Int -> D)) (dat := fun i : Int => PyData.int i) (fun b => rfl) xs (by
    unfold sortOk
    simp only [Bool.and_eq_true, List.all_eq_true, Bool.or_eq_true]
    refine ⟨⟨?_, .inr ?_⟩, ?_⟩
    · intro a ha b hb
      obtain ⟨x, _, rfl⟩ := List.mem_map.mp ha
      obtain ⟨y, _, rfl⟩ := List.mem_map.mp hb
      simp [PySem.W.alike]
    · intro a ha
      obtain ⟨x, _, rfl⟩ := List.mem_map.mp ha
      rfl
    · intro a ha
      obtain ⟨x, _, rfl⟩ := List.mem_map.mp ha
      simp [PyData.depth])
  rw [h]
  have : PySem.W.dataLe false (fun i : Int => PyData.int i) = leI := by rw [PySem.W.dataLe_int]; rfl
  rw [this]; rfl
abbrev Tab := List (Int × Int)
abbrev mS (m : Tab) : D := .dic (kI m) (vE enc m)
local macro_rules | `(tactic| walk_at "evh") => `(tactic| dsimp? only [srt_int, enc_int, sh_enc, fz_enc, shl_enc, fzl_enc, fl_enc, ok_enc, okl_enc, eq_enc, eql_enc, vE_length, kI_length])
theorem alP_new {m : Tab} {k v : Int} (h : k ∉ m.map (·.1)) : alP m k v = m ++ [(k, v)] := by
  unfold alP
  rw [if_neg]
  rw [List.any_eq_true]
  rintro ⟨p, hp, e⟩
  exact h (List.mem_map.mpr ⟨p, hp, of_decide_eq_true e⟩)
abbrev HF := Int × Int × Tab
local macro_rules | `(tactic| walk_at "evf0") => `(tactic| dsimp? only [])
local macro_rules | `(tactic| walk_at "evi") => `(tactic| dsimp? only [srt_int, enc_int, enc_bool, sh_enc, fz_enc, shl_enc, fzl_enc, fl_enc, ok_enc, okl_enc, eq_enc, eql_enc, vE_length, kI_length])
theorem sh_mS (m : Tab) : isSh (mS m) = true := rfl
theorem shl_mS (ms : List Tab) : (ms.map fun m => mS m).all isSh = true := sh_map sh_mS ms
theorem fzl_mS (ms : List Tab) : fzs (ms.map fun m => mS m) = ms.map fun m => mS m := fzs_map sh_mS ms
def sD (h : HF) : D := .tup [.int h.1, mS h.2.2, .int h.2.1]
theorem sh_sD (h : HF) : isSh (sD h) = true := rfl
theorem fz_sD (h : HF) : fz (sD h) = sD h := fz_isSh rfl
theorem shl_sD (hs : List HF) : (hs.map sD).all isSh = true := sh_map sh_sD hs
theorem fzl_sD (hs : List HF) : fzs (hs.map sD) = hs.map sD := fzs_map sh_sD hs
theorem fzv_tab (m : Tab) : fzs (vE (enc : Int -> D) m) = vE enc m := fzs_vE (fun b => fz_enc b) m
theorem shv_tab (m : Tab) : (vE (enc : Int -> D) m).all isSh = true := vE_sh (fun b => sh_enc b) m
local macro_rules | `(tactic| walk_at "evj") => `(tactic| dsimp? only [fzv_tab, shv_tab, sh_sD, fz_sD, shl_sD, fzl_sD, shl_mS, fzl_mS, srt_int, enc_int, enc_bool, sh_enc, fz_enc, shl_enc, fzl_enc, fl_enc, ok_enc, okl_enc, eq_enc, eql_enc, vE_length, kI_length])
structure OkH (h : HF) : Prop where
  f1 : 1 <= h.1
  f2 : h.1 <= 64
  o1 : 0 <= h.2.1
  o2 : h.2.1 < h.1
  nk : Nk h.2.2
  len : h.2.2.length <= 1000
  p : ∀ q ∈ h.2.2, 0 <= q.2 /\ q.2 < h.1
def part (h : HF) (k : Int) : Int := (alG h.2.2 k).getD h.2.1
end
end
section
local macro_rules | `(tactic| walk_at "ev") => `(tactic| dsimp? only [])
section
variable {W : Wd TT}
structure Nd where
  path : List Int
  ls : List Rec
  rs : List Rec
def Nd.n (x : Nd) : Nat := x.ls.length + x.rs.length
end
end
end
end
end
section
local macro_rules | `(tactic| walk_at "ev") => `(tactic| dsimp? only [])
section
variable {W : Wd TT}
local macro_rules | `(tactic| walk_at "evl") => `(tactic| dsimp? only [e_xSortOr, e_xLcI, e_xSortOr, srt_int, sh_sD, fz_sD, shl_sD, fzl_sD, it_t3, sF_t3, sFI_t3, ty_t3, len_t3, lenI_t3, fl_t3, xg_t3, enumD_enc, fzv_tab, shv_tab, rangeD_length, shl_mS, fzl_mS, vE_length, kI_length, it_pair, sF_pair, so_pair, ty_pair, len_pair, lenI_pair, fl_pair, xg_pair, enc_int, enc_bool, isN_opt, sh_enc, fz_enc, shl_enc, fzl_enc, fl_enc, ok_enc, okl_enc, eq_enc, eql_enc, en_enc, ne_enc, nn_enc])
local macro_rules | `(tactic| walk_at "evj") => `(tactic| dsimp? only [fzv_tab, shv_tab, sh_sD, fz_sD, shl_sD, fzl_sD, shl_mS, fzl_mS, srt_int, enc_int, enc_bool, sh_enc, fz_enc, shl_enc, fzl_enc, fl_enc, ok_enc, okl_enc, eq_enc, eql_enc, vE_length, kI_length])
theorem specs_in (k : Nat) (v0 v1 v2 v4 v5 v6 : D) (keys ds : List Int) (hn : keys.Nodup) (hkl : keys.length <= 100) (hd : ds.length = 2 + keys.length) (f : Int) (hf : 1 <= f) (o10 : Option D) : ∃ (m : Tab) (o10' : Option D), m.map (·.1) = keys /\ (∀ q ∈ m, 0 <= q.2 /\ q.2 < f) /\
    forL (forK (xgN W 10) (l2_law_specs W (semT (tbl W) k)) []) (rangeD 0 keys.length) [some v0, some v1, some v2, some (.lst (keys.map enc)), some v4, some v5, some v6, some (.olst (ds.map D.int)), some (.int f), some (.odic [] []), o10] =
    .nx [some v0, some v1, some v2, some (.lst (keys.map enc)), some v4, some v5, some v6, some (.olst (ds.map D.int)), some (.int f), some (.odic (kI m) (vE enc m)), o10'] := by
  generalize hF : forL _ _ _ = rz
  obtain ⟨e', rfl, m, o10', h1, h2, rfl⟩ := forL_range (fun j e => ∃ (m : Tab) (o10' : Option D), m.map (·.1) = keys.take j /\ (∀ q ∈ m, 0 <= q.2 /\ q.2 < f) /\ e = [some v0, some v1, some v2, some (.lst (keys.map enc)), some v4, some v5, some v6, some (.olst (ds.map D.int)), some (.int f), some (.odic (kI m) (vE enc m)), o10']) hF ⟨[], o10, by simp, fun q h => (nomatch h), rfl⟩ (by
    rintro j _ hj ⟨m, o10', h1, h2, rfl⟩
    have hk : keys[j]? = some keys[j] := List.getElem?_eq_getElem hj
    have hg : ds[2 + j]? = some ds[2 + j] := List.getElem?_eq_getElem (by omega)
    have ha : atI (ds.map D.int) (2 + (j : Int)) = some (.int ds[2 + j]) := by
      rw [show (2 : Int) + (j : Int) = ((2 + j : Nat) : Int) by push_cast; rfl]
      exact atI_of (by rw [List.getElem?_map, hg]; rfl)
    have hb : atI (keys.map enc) (j : Int) = some (D.int keys[j]) := atI_of (by rw [List.getElem?_map, hk]; rfl)
    have hnew : keys[j] ∉ m.map (·.1) := by
      rw [h1]
      intro hm
      obtain ⟨i, hi, e⟩ := List.getElem_of_mem hm
      rw [List.length_take] at hi
      rw [List.getElem_take] at e
      exact (List.pairwise_iff_getElem.mp hn) i j (by omega) hj (by omega) e
    have hml : m.length < 1000000 := by
      have := congrArg List.length h1
      rw [List.length_map, List.length_take] at this
      omega
    have ht : keys.take (j + 1) = keys.take j ++ [keys[j]] := by rw [List.take_succ, hk]; rfl
    generalize keys[j] = q at *
    generalize ds[2 + j] = x at *
    have hnk : Nk m := by unfold Nk; rw [h1]; exact hn.sublist (List.take_sublist ..)
    have hput : putP (kI m) (vE enc m) (.inl q) (.int (x % f)) = some (kI (alP m q (x % f)), vE enc (alP m q (x % f))) := putP_al (g := (enc : Int -> D)) (a := x % f) (fun b => sh_enc b) hnk
    rw [alP_new hnew] at hput
    refine ⟨[some v0, some v1, some v2, some (.lst (keys.map enc)), some v4, some v5, some v6, some (.olst (ds.map D.int)), some (.int f), some (.odic (kI (m ++ [(q, x % f)])) (vE enc (m ++ [(q, x % f)]))), some (.int (j : Int))], .inl ?_, m ++ [(q, x % f)], _, ?_, ?_, rfl⟩
    · unfold l2_law_specs
      walk_at "evj"
      rw [ha]
      walk_at "evj"
      rw [hb]
      walk_at "evj"
      rw [hput]
      walk_at "evj"
    · rw [List.map_append, h1, ht]; rfl
    · intro p hp
      rcases List.mem_append.mp hp with hp | hp
      · exact h2 p hp
      · rw [List.mem_singleton.mp hp]
        exact ⟨Int.emod_nonneg _ (by omega), Int.emod_lt_of_pos _ (by omega)⟩)
  exact ⟨m, o10', by rw [h1, List.take_length], h2, rfl⟩
structure OkS (hs : List HF) (keys : List Int) (n : Nat) (wd : Int) : Prop where
  len : hs.length = n
  ok : ∀ h ∈ hs, OkH h /\ h.1 <= wd /\ h.2.2.map (·.1) = keys
theorem f_law_specs (k : Nat) {ns keys : List Int} {i wd : Int} {n : Nat} (h0 : 0 <= i) (hn : n <= 1000) (hk : keys.Nodup) (hl : keys.length <= 100) (h1 : 1 <= wd) (h2 : wd <= 64) :
    ∃ hs : List HF, OkS hs keys n wd /\ semT (tbl W) (k + 2) "_law_specs" [.scr ns, .int i, .int (n : Int), .lst (keys.map enc), .int wd] none = .ok (.olst (hs.map sD)) none := by
  rw [sem_law_specs]
  unfold b_law_specs
  walk_at "evj"
  try rw [Int.toNat_natCast]
  generalize hF : forL _ _ _ = rz
  obtain ⟨e', rfl, hs, hm, o6, o7, o8, o9, o10, rfl⟩ := forL_range (fun j e => ∃ hs : List HF, OkS hs keys j wd /\ ∃ o6 o7 o8 o9 o10, e = [some (.scr ns), some (.int i), some (.int (n : Int)), some (.lst (keys.map enc)), some (.int wd), some (.olst (hs.map sD)), o6, o7, o8, o9, o10]) hF ⟨[], ⟨rfl, fun m h => nomatch h⟩, none, none, none, none, none, rfl⟩ (by
    rintro j _ hj ⟨hs, hm, o6, o7, o8, o9, o10, rfl⟩
    have h := f_law_draws (W := W) k (ns := ns) (i := i + (j : Int)) (n := 2 + (keys.length : Int)) (by omega) (by omega) (by omega)
    have hlen := draws_length ns (i + (j : Int)) (2 + (keys.length : Int))
    have ho := draws_ok ns (i + (j : Int)) (2 + (keys.length : Int))
    generalize draws ns (i + (j : Int)) (2 + (keys.length : Int)) = ds at *
    have hmc := hm.len
    have hlen2 : ds.length = 2 + keys.length := by omega
    have g0 : ds[0]? = some ds[0] := List.getElem?_eq_getElem (by omega)
    have g1 : ds[1]? = some ds[1] := List.getElem?_eq_getElem (by omega)
    have a0 : atI (ds.map D.int) 0 = some (.int ds[0]) := atI_of (j := 0) (by rw [List.getElem?_map, g0]; rfl)
    have a1 : atI (ds.map D.int) 1 = some (.int ds[1]) := atI_of (j := 1) (by rw [List.getElem?_map, g1]; rfl)
    have b0 := ho ds[0] (List.getElem_mem _)
    have b1 := ho ds[1] (List.getElem_mem _)
    generalize ds[0] = x0 at *
    generalize ds[1] = x1 at *
    have hf1 : 1 <= 1 + x0 % wd := by have := Int.emod_nonneg x0 (show wd ≠ 0 by omega); omega
    have hf2 : 1 + x0 % wd <= wd := by have := Int.emod_lt_of_pos x0 (show 0 < wd by omega); omega
    obtain ⟨m, o10', m1, m2, hin⟩ := specs_in (W := W) (k + 1) (.scr ns) (.int i) (.int (n : Int)) (.int wd) (.olst (hs.map sD)) (.int (j : Int)) keys ds hk hl hlen2 (1 + x0 % wd) hf1 o10
    refine ⟨[some (.scr ns), some (.int i), some (.int (n : Int)), some (.lst (keys.map enc)), some (.int wd), some (.olst ((hs ++ [(1 + x0 % wd, x1 % (1 + x0 % wd), m)]).map sD)), some (.int (j : Int)), some (.olst (ds.map D.int)), some (.int (1 + x0 % wd)), some (mS m), o10'], .inl ?_, hs ++ [(1 + x0 % wd, x1 % (1 + x0 % wd), m)], ⟨by rw [List.length_append, hmc]; rfl, fun z hz => ?_⟩, _, _, _, _, _, rfl⟩
    · rw [List.map_append]
      unfold l1_law_specs
      walk_at "evj"
      rw [h]
      walk_at "evj"
      rw [a0]
      walk_at "evj"
      try rw [Int.toNat_natCast]
      rw [hin]
      walk_at "evj"
      first | rw [a1] | rw [List.getElem?_map, g1]
      have hsl : hs.length < 1000000 := by omega
      walk_at "evj"
      try rfl
    · rcases List.mem_append.mp hz with hz | hz
      · exact hm.ok z hz
      · rw [List.mem_singleton.mp hz]
        have l2 : m.length = keys.length := by rw [<- m1, List.length_map]
        exact ⟨⟨hf1, by omega, Int.emod_nonneg _ (by omega), Int.emod_lt_of_pos _ (by omega), by unfold Nk; rw [m1]; exact hk, (show m.length <= 1000 by omega), m2⟩, hf2, m1⟩)
  exact ⟨hs, hm, by walk_at "evj"⟩
end
end
end
section
local macro_rules | `(tactic| walk_at "ev") => `(tactic| dsimp? only [])
section
variable {W : Wd TT}
inductive V7 where
  | i (n : Int) | b (c : Bool) | n | s | l
def eV : V7 -> D
  | .i n => .int n
  | .b c => .bl c
  | .n => .non
  | .s => .str "0"
  | .l => .lst [.int 0]
theorem sh_eV (v : V7) : isSh (eV v) = true := by cases v <;> rfl
theorem fz_eV (v : V7) : fz (eV v) = eV v := fz_isSh (sh_eV v)
abbrev TX := List (Int × V7)
abbrev HX := Int × V7 × TX
abbrev mX (m : TX) : D := .dic (kI m) (vE eV m)
def xS (h : HX) : D := .ins "HashFunction" ["fan_out", "other", "_parts"] [.int h.1, eV h.2.1, mX h.2.2]
def xO (h : HX) : D := .oins "HashFunction" ["fan_out", "other", "_parts"] [.int h.1, eV h.2.1, .odic (kI h.2.2) (vE eV h.2.2)]
def sX (h : HX) : D := .tup [.int h.1, mX h.2.2, eV h.2.1]
def FX (hs : List HX) : D := .ins "Family" ["_functions"] [.lst (hs.map xS)]
theorem fzv_V (m : TX) : fzs (vE eV m) = vE eV m := fzs_vE fz_eV m
theorem shv_V (m : TX) : (vE eV m).all isSh = true := vE_sh sh_eV m
theorem sh_xS (h : HX) : isSh (xS h) = true := rfl
theorem fz_xS (h : HX) : fz (xS h) = xS h := fz_isSh rfl
theorem shl_xS (hs : List HX) : (hs.map xS).all isSh = true := sh_map sh_xS hs
theorem fzl_xS (hs : List HX) : fzs (hs.map xS) = hs.map xS := fzs_map sh_xS hs
theorem sh_sX (h : HX) : isSh (sX h) = true := rfl
theorem fz_sX (h : HX) : fz (sX h) = sX h := fz_isSh rfl
theorem shl_sX (hs : List HX) : (hs.map sX).all isSh = true := sh_map sh_sX hs
theorem fzl_sX (hs : List HX) : fzs (hs.map sX) = hs.map sX := fzs_map sh_sX hs
def partX (h : HX) : Option Int -> V7
  | some k => (alG h.2.2 k).getD h.2.1
  | none => h.2.1
def goodV : V7 -> Int -> Bool
  | .i n, f => decide (0 <= n /\ n < f)
  | _, _ => false
def isI : V7 -> Bool
  | .i _ => true
  | _ => false
inductive E22 where
  | part (k : Option Int) (v : V7) | fan
def oK : Option Int -> D
  | some k => .int k
  | none => .non
def exE : E22 -> Exn
  | .part k v => ⟨"BadPart", [("key", oK k), ("part", eV v)]⟩
  | .fan => ⟨"BadFunction", [("field", .str "fan_out")]⟩
structure OkX (h : HX) : Prop where
  f1 : 1 <= h.1
  f2 : h.1 <= 64
  nk : Nk h.2.2
  len : h.2.2.length <= 20
theorem u_isI (k : Nat) (v : V7) : semT (tbl W) (k + 1) "is_integer" [eV v] none = .ok (.bl (isI v)) none := by
  rw [sem_is_integer]; unfold b_is_integer eV isI; cases v <;> walk_at "ev"
theorem alX_mem : ∀ {m : TX} {p : Int × V7}, Nk m -> p ∈ m -> alG m p.1 = some p.2
  | q :: m, p, hn, h => by
    have hn2 : q.1 ∉ m.map (·.1) /\ Nk m := List.nodup_cons.mp hn
    unfold alG
    by_cases e : q.1 = p.1
    · rw [List.find?_cons_of_pos (by simpa using e)]
      rcases List.mem_cons.mp h with e2 | h2
      · rw [e2]; rfl
      · exact absurd (List.mem_map.mpr ⟨p, h2, e.symm⟩) hn2.1
    · rw [List.find?_cons_of_neg (by simpa using e)]
      rcases List.mem_cons.mp h with e2 | h2
      · exact absurd (congrArg Prod.fst e2).symm e
      · exact alX_mem hn2.2 h2
theorem alX_new {m : TX} {k : Int} {v : V7} (h : k ∉ m.map (·.1)) : alP m k v = m ++ [(k, v)] := by
  unfold alP
  rw [if_neg]
  rw [List.any_eq_true]
  rintro ⟨p, hp, e⟩
  exact h (List.mem_map.mpr ⟨p, hp, of_decide_eq_true e⟩)
theorem selfX_go (vl : Int -> V7) : ∀ (s p : TX), Nk (p ++ s) -> (∀ q ∈ s, vl q.1 = q.2) -> (s.map (·.1)).foldl (fun m k => alP m k (vl k)) p = p ++ s
  | [], p, _, _ => by simp
  | q :: s, p, hn, hv => by
    have h1 : q.1 ∉ p.map (·.1) := by
      intro m
      unfold Nk at hn
      rw [List.map_append, List.nodup_append] at hn
      exact hn.2.2 q.1 m q.1 (by simp) rfl
    rw [List.map_cons, List.foldl_cons, alX_new h1, hv q (by simp)]
    have e : p ++ q :: s = (p ++ [(q.1, q.2)]) ++ s := by simp
    rw [e] at hn ⊢
    exact selfX_go vl s _ hn fun x m => hv x (List.mem_cons_of_mem _ m)
theorem dcX_self {m : TX} (hn : Nk m) : dcM (fun k : Int => k) (fun k => (alG m k).getD .n) (m.map (·.1)) = m :=
  selfX_go _ m [] hn fun q h => by rw [alX_mem hn h]; rfl
local macro_rules | `(tactic| walk_at "evl") => `(tactic| dsimp? only [fzv_V, shv_V, sh_eV, fz_eV, sh_xS, fz_xS, shl_xS, fzl_xS, sh_sX, fz_sX, shl_sX, fzl_sX, e_xmAndR, e_xmAddM, e_xmMulM, opMK_add, e_opM2, e_opM3, e_xSortOr, e_xLcI, e_xSortOr, srt_int, sh_sD, fz_sD, shl_sD, fzl_sD, it_t3, sF_t3, sFI_t3, ty_t3, len_t3, lenI_t3, fl_t3, xg_t3, enumD_enc, fzv_tab, shv_tab, rangeD_length, shl_mS, fzl_mS, vE_length, kI_length, it_pair, sF_pair, so_pair, ty_pair, len_pair, lenI_pair, fl_pair, xg_pair, enc_int, enc_bool, isN_opt, sh_enc, fz_enc, shl_enc, fzl_enc, fl_enc, ok_enc, okl_enc, eq_enc, eql_enc, en_enc, ne_enc, nn_enc])
local macro_rules | `(tactic| walk_at "evj") => `(tactic| dsimp? only [fzv_V, shv_V, sh_eV, fz_eV, sh_xS, fz_xS, shl_xS, fzl_xS, sh_sX, fz_sX, shl_sX, fzl_sX, e_xmAndR, e_xmAddM, e_xmMulM, opMK_add, opMK_mul, e_opM2, e_opM3, fzv_tab, shv_tab, sh_sD, fz_sD, shl_sD, fzl_sD, shl_mS, fzl_mS, srt_int, enc_int, enc_bool, sh_enc, fz_enc, shl_enc, fzl_enc, fl_enc, ok_enc, okl_enc, eq_enc, eql_enc, vE_length, kI_length])
theorem x_hash_init (k : Nat) (h : HX) (ok : OkX h) : semT (tbl W) (k + 2) "HashFunction.__init__" [.oins "HashFunction" [] [], .int h.1, mX h.2.2, eV h.2.1] (some 0) = .ok .non (some (xO h)) := by
  obtain ⟨f, o, m⟩ := h
  have h1 : 1 <= f := ok.f1
  have h2 : f <= 64 := ok.f2
  have hm : Nk m := ok.nk
  have hl : m.length <= 20 := ok.len
  have u := fun i => u_is_integer (W := W) k i
  unfold xO
  rw [sem_HashFunction___init__]
  unfold b_HashFunction___init__
  walk_at "evj"
  rw [u]
  walk_at "evj"
  have hkd : kDs (kI m) = some ((m.map (·.1)).map (enc : Int -> D)) := by rw [kDs_al, List.map_map]; rfl
  rw [hkd]
  walk_at "evj"
  generalize hF : forL _ _ _ = rz
  obtain ⟨e', rfl, o4, rfl⟩ := forL_enc (fun (ys : List Int) e => ∃ o4, e = [some (.oins "HashFunction" [] []), some (.int f), some (mX m), some (eV o), o4]) hF ⟨none, rfl⟩ (by
    rintro ys t zs _ hx ⟨o4, rfl⟩
    refine ⟨_, .inl (by unfold l1_HashFunction___init__; walk_at "evj"; rw [u]; walk_at "evj"; rfl), _, rfl⟩)
  walk_at "evj"
  rw [hkd]
  walk_at "evj"
  rw [dcL_al0 (c := (enc : Int -> D)) (g := eV) sh_eV (fun k : Int => k) (fun k => (alG m k).getD .n) (m.map (·.1)) (fun p hp => by
    obtain ⟨q, hq, rfl⟩ := List.mem_map.mp hp
    have hdg := dg_al eV q.1 m
    rw [alX_mem hm hq] at hdg ⊢
    walk_at "evj"
    rw [hdg]
    walk_at "evj"
    try rfl), dcX_self hm]
  walk_at "evj"
  try rfl
theorem x_part_of (k : Nat) {h : HX} (ok : OkX h) (q : Option Int) : semT (tbl W) (k + 2) "HashFunction.part_of" [xS h, oK q] none = if goodV (partX h q) h.1 = true then .ok (eV (partX h q)) none else .exn (exE (.part q (partX h q))) none := by
  have u := fun i => u_isI (W := W) k i
  have f1 := ok.f1
  have f2 := ok.f2
  obtain ⟨f, o, m⟩ := h
  dsimp only at f1 f2
  obtain ⟨v, hv⟩ : ∃ v, v = partX (f, o, m) q := ⟨_, rfl⟩
  rw [<- hv]
  rw [sem_HashFunction_part_of]
  unfold b_HashFunction_part_of xS
  cases q with
  | none =>
    have hv : v = o := hv
    subst hv
    have u := u v
    unfold oK
    cases v with
    | i n =>
      unfold eV isI goodV at *
      walk_at "evj"
      rw [u]
      walk_at "evj"
      by_cases h1 : n < 0
      · rw [if_neg (by first | omega | (simp; omega))]
        walk_at "evj"
        rfl
      · by_cases h2 : n < f
        · rw [if_pos (by first | omega | (simp; omega))]
          walk_at "evj"
        · rw [if_neg (by first | omega | (simp; omega))]
          walk_at "evj"
          rfl
    | b c => unfold eV isI goodV at *; walk_at "evj"; rw [u]; walk_at "evj"; rfl
    | n => unfold eV isI goodV at *; walk_at "evj"; rw [u]; walk_at "evj"; rfl
    | s => unfold eV isI goodV at *; walk_at "evj"; rw [u]; walk_at "evj"; rfl
    | l => unfold eV isI goodV at *; walk_at "evj"; rw [u]; walk_at "evj"; rfl
  | some k =>
    have hd := dg_al eV k m
    have hv : v = (alG m k).getD o := hv
    unfold oK
    cases ha : alG m k with
    | none =>
      rw [ha] at hd hv
      have hv : v = o := hv
      subst hv
      have u := u v
      walk_at "evj"
      rw [hd]
      walk_at "evj"
      cases v with
      | i n =>
        unfold eV isI goodV at *
        rw [u]
        walk_at "evj"
        by_cases h1 : n < 0
        · rw [if_neg (by first | omega | (simp; omega))]
          walk_at "evj"
          rfl
        · by_cases h2 : n < f
          · rw [if_pos (by first | omega | (simp; omega))]
            walk_at "evj"
          · rw [if_neg (by first | omega | (simp; omega))]
            walk_at "evj"
            rfl
      | b c => unfold eV isI goodV at *; rw [u]; walk_at "evj"; rfl
      | n => unfold eV isI goodV at *; rw [u]; walk_at "evj"; rfl
      | s => unfold eV isI goodV at *; rw [u]; walk_at "evj"; rfl
      | l => unfold eV isI goodV at *; rw [u]; walk_at "evj"; rfl
    | some z =>
      rw [ha] at hd hv
      have hv : v = z := hv
      subst hv
      have u := u v
      walk_at "evj"
      rw [hd]
      walk_at "evj"
      cases v with
      | i n =>
        unfold eV isI goodV at *
        rw [u]
        walk_at "evj"
        by_cases h1 : n < 0
        · rw [if_neg (by first | omega | (simp; omega))]
          walk_at "evj"
          rfl
        · by_cases h2 : n < f
          · rw [if_pos (by first | omega | (simp; omega))]
            walk_at "evj"
          · rw [if_neg (by first | omega | (simp; omega))]
            walk_at "evj"
            rfl
      | b c => unfold eV isI goodV at *; rw [u]; walk_at "evj"; rfl
      | n => unfold eV isI goodV at *; rw [u]; walk_at "evj"; rfl
      | s => unfold eV isI goodV at *; rw [u]; walk_at "evj"; rfl
      | l => unfold eV isI goodV at *; rw [u]; walk_at "evj"; rfl
def xAt (hs : List HX) (l : Nat) : HX := match hs[l - 1]? with
  | some h => h
  | none => (1, .i 0, [])
end
end
section
local macro_rules | `(tactic| walk_at "ev") => `(tactic| dsimp? only [])
section
variable {W : Wd TT}
local macro_rules | `(tactic| walk_at "evl") => `(tactic| dsimp? only [fzv_V, shv_V, sh_eV, fz_eV, sh_xS, fz_xS, shl_xS, fzl_xS, sh_sX, fz_sX, shl_sX, fzl_sX, e_xmAndR, e_xmAddM, e_xmMulM, opMK_add, e_opM2, e_opM3, e_xSortOr, e_xLcI, e_xSortOr, srt_int, sh_sD, fz_sD, shl_sD, fzl_sD, it_t3, sF_t3, sFI_t3, ty_t3, len_t3, lenI_t3, fl_t3, xg_t3, enumD_enc, fzv_tab, shv_tab, rangeD_length, shl_mS, fzl_mS, vE_length, kI_length, it_pair, sF_pair, so_pair, ty_pair, len_pair, lenI_pair, fl_pair, xg_pair, enc_int, enc_bool, isN_opt, sh_enc, fz_enc, shl_enc, fzl_enc, fl_enc, ok_enc, okl_enc, eq_enc, eql_enc, en_enc, ne_enc, nn_enc])
local macro_rules | `(tactic| walk_at "evj") => `(tactic| dsimp? only [fzv_V, shv_V, sh_eV, fz_eV, sh_xS, fz_xS, shl_xS, fzl_xS, sh_sX, fz_sX, shl_sX, fzl_sX, e_xmAndR, e_xmAddM, e_xmMulM, opMK_add, opMK_mul, e_opM2, e_opM3, fzv_tab, shv_tab, sh_sD, fz_sD, shl_sD, fzl_sD, shl_mS, fzl_mS, srt_int, enc_int, enc_bool, sh_enc, fz_enc, shl_enc, fzl_enc, fl_enc, ok_enc, okl_enc, eq_enc, eql_enc, vE_length, kI_length])
theorem forL_find {α ε : Type} {g : α -> D} {f : D -> Py.Env -> RS} (p : α -> Option ε) (J : ε -> RS -> Prop) (hJ : ∀ z r, J z r -> (∃ x e, r = .rt x e) \/ ∃ x e, r = .ex x e) (I : List α -> Py.Env -> Prop) :
    ∀ (xs pre : List α) (env : Py.Env), I pre env -> (∀ ys q zs e, pre ++ xs = ys ++ q :: zs -> I ys e -> (p q = none /\ ∃ e', (f (g q) e = .nx e' \/ f (g q) e = .ct e') /\ I (ys ++ [q]) e') \/ ∃ z, p q = some z /\ J z (f (g q) e)) ->
    (xs.findSome? p = none /\ ∃ e', forL f (xs.map g) env = .nx e' /\ I (pre ++ xs) e') \/ ∃ z, xs.findSome? p = some z /\ J z (forL f (xs.map g) env)
  | [], pre, env, h0, _ => .inl ⟨rfl, env, rfl, by rw [List.append_nil]; exact h0⟩
  | x :: xs, pre, env, h0, hs => by
    rw [List.map_cons, h_forLc, List.findSome?_cons]
    rcases hs pre x xs env rfl h0 with ⟨h1, e', h2, h3⟩ | ⟨z, h1, h2⟩
    · rw [h1]
      have ih := forL_find p J hJ I xs (pre ++ [x]) e' h3 (fun ys q zs e h => hs ys q zs e (by rw [<- h]; simp))
      have e : pre ++ [x] ++ xs = pre ++ x :: xs := by simp
      rw [e] at ih
      rcases h2 with h2 | h2
      · rw [h2, h_forT_nx]; exact ih
      · rw [h2, h_forT_ct]; exact ih
    · rw [h1]
      refine .inr ⟨z, rfl, ?_⟩
      rcases hJ z _ h2 with ⟨x2, e2, h3⟩ | ⟨x2, e2, h3⟩
      · rw [h3] at h2 ⊢; exact h2
      · rw [h3] at h2 ⊢; exact h2
theorem xAt_far {hs : List HX} {l : Nat} (h1 : 1 <= l) (h : hs.length < l) : xAt hs l = (1, .i 0, []) := by
  unfold xAt; rw [List.getElem?_eq_none (by omega)]
theorem fz_xO (h : HX) : fz (xO h) = xS h := by
  have h1 := fz_eV h.2.1
  have h2 := fzv_V h.2.2
  unfold xO xS
  walk_at "evj"
theorem get_xS {hs : List HX} {l : Nat} {h : HX} (e : hs[l]? = some h) : atI (hs.map xS) (l : Int) = some (xS h) := atI_of (by rw [List.getElem?_map, e]; rfl)
end
end
section
local macro_rules | `(tactic| walk_at "ev") => `(tactic| dsimp? only [])
section
variable {W : Wd TT}
local macro_rules | `(tactic| walk_at "evl") => `(tactic| dsimp? only [fzv_V, shv_V, sh_eV, fz_eV, sh_xS, fz_xS, shl_xS, fzl_xS, sh_sX, fz_sX, shl_sX, fzl_sX, e_xmAndR, e_xmAddM, e_xmMulM, opMK_add, e_opM2, e_opM3, e_xSortOr, e_xLcI, e_xSortOr, srt_int, sh_sD, fz_sD, shl_sD, fzl_sD, it_t3, sF_t3, sFI_t3, ty_t3, len_t3, lenI_t3, fl_t3, xg_t3, enumD_enc, fzv_tab, shv_tab, rangeD_length, shl_mS, fzl_mS, vE_length, kI_length, it_pair, sF_pair, so_pair, ty_pair, len_pair, lenI_pair, fl_pair, xg_pair, enc_int, enc_bool, isN_opt, sh_enc, fz_enc, shl_enc, fzl_enc, fl_enc, ok_enc, okl_enc, eq_enc, eql_enc, en_enc, ne_enc, nn_enc])
local macro_rules | `(tactic| walk_at "evj") => `(tactic| dsimp? only [fzv_V, shv_V, sh_eV, fz_eV, sh_xS, fz_xS, shl_xS, fzl_xS, sh_sX, fz_sX, shl_sX, fzl_sX, e_xmAndR, e_xmAddM, e_xmMulM, opMK_add, opMK_mul, e_opM2, e_opM3, fzv_tab, shv_tab, sh_sD, fz_sD, shl_sD, fzl_sD, shl_mS, fzl_mS, srt_int, enc_int, enc_bool, sh_enc, fz_enc, shl_enc, fzl_enc, fl_enc, ok_enc, okl_enc, eq_enc, eql_enc, vE_length, kI_length])
structure OkFX (hs : List HX) : Prop where
  len : hs.length <= 4
  ok : ∀ h ∈ hs, OkX h
  sm : ∀ h ∈ hs, h.2.2.length <= 10
theorem fzl_xO (hs : List HX) : fzs (hs.map xO) = hs.map xS := by
  induction hs with
  | nil => rfl
  | cons h hs ih => show fz (xO h) :: fzs (hs.map xO) = _; rw [ih, fz_xO]; rfl
theorem x_family_init (k : Nat) (hs : List HX) (hl : hs.length <= 4) : semT (tbl W) (k + 1) "Family.__init__" [.oins "Family" [] [], .lst (hs.map xS)] (some 0) = .ok .non (some (.oins "Family" ["_functions"] [.olst (hs.map xS)])) := by
  rw [sem_Family___init__]
  unfold b_Family___init__
  walk_at "evl"
  try rfl
end
end
section
local macro_rules | `(tactic| walk_at "ev") => `(tactic| dsimp? only [])
section
variable {W : Wd TT}
local macro_rules | `(tactic| walk_at "evl") => `(tactic| dsimp? only [fzv_V, shv_V, sh_eV, fz_eV, sh_xS, fz_xS, shl_xS, fzl_xS, sh_sX, fz_sX, shl_sX, fzl_sX, e_xmAndR, e_xmAddM, e_xmMulM, opMK_add, e_opM2, e_opM3, e_xSortOr, e_xLcI, e_xSortOr, srt_int, sh_sD, fz_sD, shl_sD, fzl_sD, it_t3, sF_t3, sFI_t3, ty_t3, len_t3, lenI_t3, fl_t3, xg_t3, enumD_enc, fzv_tab, shv_tab, rangeD_length, shl_mS, fzl_mS, vE_length, kI_length, it_pair, sF_pair, so_pair, ty_pair, len_pair, lenI_pair, fl_pair, xg_pair, enc_int, enc_bool, isN_opt, sh_enc, fz_enc, shl_enc, fzl_enc, fl_enc, ok_enc, okl_enc, eq_enc, eql_enc, en_enc, ne_enc, nn_enc])
local macro_rules | `(tactic| walk_at "evj") => `(tactic| dsimp? only [fzv_V, shv_V, sh_eV, fz_eV, sh_xS, fz_xS, shl_xS, fzl_xS, sh_sX, fz_sX, shl_sX, fzl_sX, e_xmAndR, e_xmAddM, e_xmMulM, opMK_add, opMK_mul, e_opM2, e_opM3, fzv_tab, shv_tab, sh_sD, fz_sD, shl_sD, fzl_sD, shl_mS, fzl_mS, srt_int, enc_int, enc_bool, sh_enc, fz_enc, shl_enc, fzl_enc, fl_enc, ok_enc, okl_enc, eq_enc, eql_enc, vE_length, kI_length])
theorem x_is_wrong (k : Nat) (v : V7) (f : Int) : semT (tbl W) (k + 1) "_law_is_wrong" [eV v, .int f] none = .ok (.bl (!goodV v f)) none := by
  rw [sem_law_is_wrong]
  unfold b_law_is_wrong
  cases v with
  | i n =>
    unfold eV goodV
    walk_at "evj"
    by_cases h1 : n < 0
    · have e : decide (0 <= n /\ n < f) = false := decide_eq_false (by omega)
      rw [e]
      walk_at "evj"
      try simp [h1]
    · have e : decide (0 <= n /\ n < f) = decide (n < f) := by simp; omega
      rw [e]
      walk_at "evj"
      by_cases h2 : n < f
      · simp [h2, h1]
      · have h3 : f <= n := by omega
        simp [h2, h1, h3]
  | b c => unfold eV goodV; walk_at "evj"; try rfl
  | n => unfold eV goodV; walk_at "evj"; try rfl
  | s => unfold eV goodV; walk_at "evj"; try rfl
  | l => unfold eV goodV; walk_at "evj"; try rfl
end
end
section
local macro_rules | `(tactic| walk_at "ev") => `(tactic| dsimp? only [])
section
variable {W : Wd TT}
local macro_rules | `(tactic| walk_at "evl") => `(tactic| dsimp? only [fzv_V, shv_V, sh_eV, fz_eV, sh_xS, fz_xS, shl_xS, fzl_xS, sh_sX, fz_sX, shl_sX, fzl_sX, e_xmAndR, e_xmAddM, e_xmMulM, opMK_add, e_opM2, e_opM3, e_xSortOr, e_xLcI, e_xSortOr, srt_int, sh_sD, fz_sD, shl_sD, fzl_sD, it_t3, sF_t3, sFI_t3, ty_t3, len_t3, lenI_t3, fl_t3, xg_t3, enumD_enc, fzv_tab, shv_tab, rangeD_length, shl_mS, fzl_mS, vE_length, kI_length, it_pair, sF_pair, so_pair, ty_pair, len_pair, lenI_pair, fl_pair, xg_pair, enc_int, enc_bool, isN_opt, sh_enc, fz_enc, shl_enc, fzl_enc, fl_enc, ok_enc, okl_enc, eq_enc, eql_enc, en_enc, ne_enc, nn_enc])
local macro_rules | `(tactic| walk_at "evj") => `(tactic| dsimp? only [fzv_V, shv_V, sh_eV, fz_eV, sh_xS, fz_xS, shl_xS, fzl_xS, sh_sX, fz_sX, shl_sX, fzl_sX, e_xmAndR, e_xmAddM, e_xmMulM, opMK_add, opMK_mul, e_opM2, e_opM3, fzv_tab, shv_tab, sh_sD, fz_sD, shl_sD, fzl_sD, shl_mS, fzl_mS, srt_int, enc_int, enc_bool, sh_enc, fz_enc, shl_enc, fzl_enc, fl_enc, ok_enc, okl_enc, eq_enc, eql_enc, vE_length, kI_length])
def emb (h : HF) : HX := (h.1, .i h.2.1, h.2.2.map fun p => (p.1, .i p.2))
theorem sX_emb (h : HF) : sX (emb h) = sD h := by
  unfold sX emb sD mX mS kI vE
  dsimp only
  rw [List.map_map, List.map_map]
  rfl
theorem sXl_emb (hs : List HF) : (hs.map emb).map sX = hs.map sD := by
  rw [List.map_map]
  exact List.map_congr_left fun h _ => sX_emb h
theorem okX_emb {h : HF} (ok : OkH h) (hl : h.2.2.length <= 20) : OkX (emb h) := by
  refine ⟨ok.f1, ok.f2, ?_, ?_⟩
  · have := ok.nk
    unfold Nk at this ⊢
    unfold emb
    dsimp only
    rw [List.map_map]
    exact this
  · unfold emb
    dsimp only
    rw [List.length_map]
    exact hl
structure SmX (hs : List HX) (n : Nat) : Prop where
  len : hs.length <= 4
  ok : ∀ h ∈ hs, OkX h /\ h.2.2.length <= n
def badL (f : Int) : List V7 := [.i f, .i (-1), .i 100000000000000000000, .b true, .b false, .n, .s, .l]
def putX (h : HX) (q : Option Int) (v : V7) : HX := match q with
  | none => (h.1, v, h.2.2)
  | some k => (h.1, h.2.1, alP h.2.2 k v)
theorem okX_put {h : HX} (ok : OkX h) (q : Option Int) (v : V7) {n : Nat} (hl : h.2.2.length <= n) (hn : n <= 19) : OkX (putX h q v) /\ (putX h q v).2.2.length <= n + 1 := by
  cases q with
  | none => exact ⟨⟨ok.f1, ok.f2, ok.nk, ok.len⟩, by show h.2.2.length <= n + 1; omega⟩
  | some k =>
    have l := alP_length (k := k) (a := v) (m := h.2.2)
    exact ⟨⟨ok.f1, ok.f2, ok.nk.put, by show (alP h.2.2 k v).length <= 20; omega⟩, by show (alP h.2.2 k v).length <= n + 1; omega⟩
end
end
section
local macro_rules | `(tactic| walk_at "ev") => `(tactic| dsimp? only [])
section
variable {W : Wd TT}
local macro_rules | `(tactic| walk_at "evl") => `(tactic| dsimp? only [fzv_V, shv_V, sh_eV, fz_eV, sh_xS, fz_xS, shl_xS, fzl_xS, sh_sX, fz_sX, shl_sX, fzl_sX, e_xmAndR, e_xmAddM, e_xmMulM, opMK_add, e_opM2, e_opM3, e_xSortOr, e_xLcI, e_xSortOr, srt_int, sh_sD, fz_sD, shl_sD, fzl_sD, it_t3, sF_t3, sFI_t3, ty_t3, len_t3, lenI_t3, fl_t3, xg_t3, enumD_enc, fzv_tab, shv_tab, rangeD_length, shl_mS, fzl_mS, vE_length, kI_length, it_pair, sF_pair, so_pair, ty_pair, len_pair, lenI_pair, fl_pair, xg_pair, enc_int, enc_bool, isN_opt, sh_enc, fz_enc, shl_enc, fzl_enc, fl_enc, ok_enc, okl_enc, eq_enc, eql_enc, en_enc, ne_enc, nn_enc])
local macro_rules | `(tactic| walk_at "evj") => `(tactic| dsimp? only [fzv_V, shv_V, sh_eV, fz_eV, sh_xS, fz_xS, shl_xS, fzl_xS, sh_sX, fz_sX, shl_sX, fzl_sX, e_xmAndR, e_xmAddM, e_xmMulM, opMK_add, opMK_mul, e_opM2, e_opM3, fzv_tab, shv_tab, sh_sD, fz_sD, shl_sD, fzl_sD, shl_mS, fzl_mS, srt_int, enc_int, enc_bool, sh_enc, fz_enc, shl_enc, fzl_enc, fl_enc, ok_enc, okl_enc, eq_enc, eql_enc, vE_length, kI_length])
theorem sum_at {N : Nat} {T : Int} {ds : List Int} (hd : ds.length = N) (h0 : ∀ d ∈ ds, 0 <= d) (i : Nat) (hi : i < N) (hT : T = (i : Int)) : ∃ v : Int, 0 <= v /\ ds.getD i 0 = v /\ atI (ds.map D.int) T = some (.int v) /\ (ds.map D.int)[i]? = some (.int v) := by
  subst hT
  have hx : ds[i]? = some ds[i] := List.getElem?_eq_getElem (by omega)
  have hm : (ds.map D.int)[i]? = some (.int ds[i]) := by rw [List.getElem?_map, hx]; rfl
  refine ⟨ds[i], h0 _ (List.getElem_mem _), ?_, atI_of hm, hm⟩
  rw [List.getD_eq_getElem?_getD, hx]; rfl
theorem fzl_emb (hs : List HF) : (hs.map sD) = (hs.map emb).map sX := (sXl_emb hs).symm
theorem sm_emb {hs : List HF} {keys : List Int} {n : Nat} {wd : Int} (s : OkS hs keys n wd) (hn : n <= 4) {m : Nat} (hk : keys.length <= m) (hm : m <= 20) : SmX (hs.map emb) m := by
  refine ⟨by rw [List.length_map, s.len]; exact hn, fun h hh => ?_⟩
  obtain ⟨z, hz, rfl⟩ := List.mem_map.mp hh
  have w := s.ok z hz
  have hl : z.2.2.length <= m := by
    have := congrArg List.length w.2.2
    rw [List.length_map] at this
    omega
  exact ⟨okX_emb w.1 (by omega), by unfold emb; dsimp only; rw [List.length_map]; exact hl⟩
end
end
section
local macro_rules | `(tactic| walk_at "ev") => `(tactic| dsimp? only [])
section
variable {W : Wd TT}
local macro_rules | `(tactic| walk_at "evl") => `(tactic| dsimp? only [fzv_V, shv_V, sh_eV, fz_eV, sh_xS, fz_xS, shl_xS, fzl_xS, sh_sX, fz_sX, shl_sX, fzl_sX, e_xmAndR, e_xmAddM, e_xmMulM, opMK_add, e_opM2, e_opM3, e_xSortOr, e_xLcI, e_xSortOr, srt_int, sh_sD, fz_sD, shl_sD, fzl_sD, it_t3, sF_t3, sFI_t3, ty_t3, len_t3, lenI_t3, fl_t3, xg_t3, enumD_enc, fzv_tab, shv_tab, rangeD_length, shl_mS, fzl_mS, vE_length, kI_length, it_pair, sF_pair, so_pair, ty_pair, len_pair, lenI_pair, fl_pair, xg_pair, enc_int, enc_bool, isN_opt, sh_enc, fz_enc, shl_enc, fzl_enc, fl_enc, ok_enc, okl_enc, eq_enc, eql_enc, en_enc, ne_enc, nn_enc])
local macro_rules | `(tactic| walk_at "evj") => `(tactic| dsimp? only [fzv_V, shv_V, sh_eV, fz_eV, sh_xS, fz_xS, shl_xS, fzl_xS, sh_sX, fz_sX, shl_sX, fzl_sX, e_xmAndR, e_xmAddM, e_xmMulM, opMK_add, opMK_mul, e_opM2, e_opM3, fzv_tab, shv_tab, sh_sD, fz_sD, shl_sD, fzl_sD, shl_mS, fzl_mS, srt_int, enc_int, enc_bool, sh_enc, fz_enc, shl_enc, fzl_enc, fl_enc, ok_enc, okl_enc, eq_enc, eql_enc, vE_length, kI_length])
mutual
theorem eqB_self : ∀ (d : D) (n : Nat), okD n d = true -> eqB d d = true
  | .non, _, _ => rfl
  | .bl a, _, _ => by simp [eqB]
  | .int i, _, _ => by simp [eqB]
  | .str x, _, _ => by simp [eqB]
  | .tup xs, n, h => by
    cases n with
    | zero => simp [okD] at h
    | succ n => rw [eqB]; exact eqBs_self xs n (by simpa [okD] using h)
  | .lst xs, n, h => by
    cases n with
    | zero => simp [okD] at h
    | succ n => rw [eqB]; exact eqBs_self xs n (by simpa [okD] using h)
  | .cls _, n, h => by cases n <;> simp [okD] at h
  | .sei _, n, h => by cases n <;> simp [okD] at h
  | .scr _, n, h => by cases n <;> simp [okD] at h
  | .olst _, n, h => by cases n <;> simp [okD] at h
  | .dic _ _, n, h => by cases n <;> simp [okD] at h
  | .odic _ _, n, h => by cases n <;> simp [okD] at h
  | .dit _ _, n, h => by cases n <;> simp [okD] at h
  | .odit _ _, n, h => by cases n <;> simp [okD] at h
  | .dig _ _, n, h => by cases n <;> simp [okD] at h
  | .odig _ _, n, h => by cases n <;> simp [okD] at h
  | .ins _ _ _, n, h => by cases n <;> simp [okD] at h
  | .oins _ _ _, n, h => by cases n <;> simp [okD] at h
theorem eqBs_self : ∀ (ds : List D) (n : Nat), okDs n ds = true -> eqBs ds ds = true
  | [], _, _ => by rw [eqBs]
  | d :: ds, n, h => by
    rw [okDs, Bool.and_eq_true] at h
    rw [eqBs, eqB_self d n h.1, eqBs_self ds n h.2]
    rfl
end
end
end
local macro_rules | `(tactic| walk_at "ev") => `(tactic| simp? only [])
section
variable {W : Wd TT}
local macro_rules | `(tactic| walk_at "evl") => `(tactic| dsimp? only [fzv_V, shv_V, sh_eV, fz_eV, sh_xS, fz_xS, shl_xS, fzl_xS, sh_sX, fz_sX, shl_sX, fzl_sX, e_xmEl, h_elMo, h_elMx, e_xeTup, h_tupZx, h_tupZo, e_xeLst1, h_lst1Zo, h_lst1Zx, e_xeMeth, h_elMe, e_xeLcX, h_lcE, srt_int, sh_sD, fz_sD, shl_sD, fzl_sD, it_t3, sF_t3, sFI_t3, ty_t3, len_t3, lenI_t3, fl_t3, xg_t3, enumD_enc, fzv_tab, shv_tab, rangeD_length, shl_mS, fzl_mS, vE_length, kI_length, it_pair, sF_pair, so_pair, ty_pair, len_pair, lenI_pair, fl_pair, xg_pair, enc_int, enc_bool, isN_opt, sh_enc, fz_enc, shl_enc, fzl_enc, fl_enc, ok_enc, okl_enc, eq_enc, eql_enc, en_enc, ne_enc, nn_enc, decide_true])
abbrev paX (hs : List HX) (q : Int) (l : Nat) : V7 := partX (xAt hs l) (some q)
abbrev gdX (hs : List HX) (q : Int) (l : Nat) : Bool := goodV (paX hs q l) (xAt hs l).1
def pE (q : Int) (v : V7) : Exn := exE (.part (some q) v)
theorem x_call (k : Nat) {h : HX} (ok : OkX h) (q : Int) : semT (tbl W) (k + 3) "HashFunction.__call__" [xS h, .int q] none = if goodV (partX h (some q)) h.1 = true then .ok (eV (partX h (some q))) none else .exn (pE q (partX h (some q))) none := by
  have p := x_part_of (W := W) k ok (some q)
  have p : semT (tbl W) (k + 2) "HashFunction.part_of" [xS h, .int q] none = _ := p
  rw [sem_HashFunction___call__]
  unfold b_HashFunction___call__
  by_cases g : goodV (partX h (some q)) h.1 = true
  · rw [if_pos g] at p ⊢
    unfold xS at *
    walk_at "evl"
    rw [p]
    walk_at "evl"
    try rfl
  · rw [if_neg g] at p ⊢
    unfold xS at *
    walk_at "evl"
    rw [p]
    walk_at "evl"
    try rfl
theorem x_part_at (k : Nat) {hs : List HX} (ok : OkFX hs) (q : Int) (l : Nat) (h1 : 1 <= l) : semT (tbl W) (k + 4) "Family.part_at" [FX hs, .int q, .int (l : Int)] none = if gdX hs q l = true then .ok (eV (paX hs q l)) none else .exn (pE q (paX hs q l)) none := by
  have hl := ok.len
  by_cases h : hs.length < l
  · have e : xAt hs l = (1, .i 0, []) := xAt_far h1 h
    have g : gdX hs q l = true := by unfold gdX paX; rw [e]; rfl
    have v : paX hs q l = .i 0 := by unfold paX; rw [e]; rfl
    rw [if_pos g, v]
    have h2 : (hs.length : Int) < (l : Int) := by omega
    rw [sem_Family_part_at]
    unfold b_Family_part_at FX
    walk_at "evl"
    try rw [decide_eq_true h2]
    try walk_at "evl"
    try rfl
  · have hg : hs[l - 1]? = some hs[l - 1] := List.getElem?_eq_getElem (by omega)
    have e : xAt hs l = hs[l - 1] := by unfold xAt; rw [hg]
    have hat := get_xS hg
    rw [show ((l - 1 : Nat) : Int) = (l : Int) - 1 by omega] at hat
    have h2 : ¬ (hs.length : Int) < (l : Int) := by omega
    have okh := ok.ok _ (List.getElem_mem (by omega : l - 1 < hs.length))
    have c := x_call (W := W) k okh q
    unfold gdX paX
    rw [e]
    generalize hs[l - 1] = hh at *
    rw [sem_Family_part_at]
    unfold b_Family_part_at FX
    by_cases g : goodV (partX hh (some q)) hh.1 = true
    · rw [if_pos g] at c ⊢
      walk_at "evl"
      try rw [decide_eq_false h2]
      try walk_at "evl"
      rw [hat]
      unfold xS at *
      walk_at "evl"
      rw [c]
      walk_at "evl"
      try rfl
    · rw [if_neg g] at c ⊢
      walk_at "evl"
      try rw [decide_eq_false h2]
      try walk_at "evl"
      rw [hat]
      unfold xS at *
      walk_at "evl"
      rw [c]
      walk_at "evl"
      try rfl
def badX (hs : List HX) (q : Int) (d : Nat) : Option V7 := (List.range d).findSome? fun i => if gdX hs q (i + 1) = true then none else some (paX hs q (i + 1))
def pthX (hs : List HX) (q : Int) (d : Nat) : List D := (List.range d).map fun i => eV (paX hs q (i + 1))
theorem shl_pth (hs : List HX) (q : Int) (d : Nat) : (pthX hs q d).all isSh = true := by
  unfold pthX
  rw [List.all_eq_true]
  intro x hx
  obtain ⟨i, _, rfl⟩ := List.mem_map.mp hx
  exact sh_eV _
theorem x_path_of (k : Nat) {hs : List HX} (ok : OkFX hs) (q : Int) (d : Nat) (hd : d <= 1000) : semT (tbl W) (k + 5) "Family.path_of" [FX hs, .int q, .int (d : Int)] none = match badX hs q d with | some v => .exn (pE q v) none | none => .ok (.tup (pthX hs q d)) none := by
  rw [sem_Family_path_of]
  unfold b_Family_path_of
  have go := fun (e0 : Py.Env) (acc : List D) (x : XEl W) (hx : ∀ i : Nat, i < d -> ∃ b, lcZ (xgN W 3) x e0 (.int (1 + (i : Int))) = match (if gdX hs q (i + 1) = true then none else some (pE q (paX hs q (i + 1)))) with | some z => .exn z b | none => .ok (eV (paX hs q (i + 1))) b) =>
    lcGo_enc (g := xgN W 3) (x := x) (e0 := e0) (c := fun i : Nat => D.int (1 + (i : Int))) (vl := fun i => eV (paX hs q (i + 1))) (st := fun i => if gdX hs q (i + 1) = true then none else some (pE q (paX hs q (i + 1)))) (List.range d) acc fun i m => hx i (List.mem_range.mp m)
  have hfs : (List.range d).findSome? (fun i => if gdX hs q (i + 1) = true then none else some (pE q (paX hs q (i + 1)))) = (badX hs q d).map (pE q) := by
    unfold badX
    generalize List.range d = ls
    induction ls with
    | nil => rfl
    | cons a ls ih =>
      rw [List.findSome?_cons, List.findSome?_cons]
      by_cases g : gdX hs q (a + 1) = true
      · rw [if_pos g, if_pos g]; exact ih
      · rw [if_neg g, if_neg g]; rfl
  rw [hfs] at go
  have hr : (List.range d).map (fun i : Nat => D.int (1 + (i : Int))) = rangeD 1 d := rfl
  rw [hr] at go
  unfold FX
  walk_at "evl"
  rw [show ((d : Int) + 1 - 1).toNat = d by omega, h_lcE (by rw [rangeD_length]; omega)]
  rw [go _ [] _ (fun i hi => by
    have c := x_part_at (W := W) k ok q (i + 1) (by omega)
    rw [show ((i + 1 : Nat) : Int) = 1 + (i : Int) by push_cast; omega] at c
    unfold FX at c
    refine ⟨none, ?_⟩
    by_cases g : gdX hs q (i + 1) = true
    · rw [if_pos g] at c ⊢
      unfold lcZ
      walk_at "evl"
      rw [c]
    · rw [if_neg g] at c ⊢
      unfold lcZ
      walk_at "evl"
      rw [c])]
  have hsh := shl_pth hs q d
  cases hb : badX hs q d with
  | some v =>
    rw [Option.map_some]
    walk_at "evl"
    try rfl
  | none =>
    rw [Option.map_none]
    dsimp only
    rw [List.nil_append, show ((List.range d).map fun i : Nat => eV (paX hs q (i + 1))) = pthX hs q d from rfl]
    generalize pthX hs q d = pt at *
    walk_at "evl"
    try rfl
end
local macro_rules | `(tactic| walk_at "ev") => `(tactic| simp? only [])
section
variable {W : Wd TT}
local macro_rules | `(tactic| walk_at "evl") => `(tactic| dsimp? only [fzv_V, shv_V, sh_eV, fz_eV, sh_xS, fz_xS, shl_xS, fzl_xS, sh_sX, fz_sX, shl_sX, fzl_sX, e_xmEl, h_elMo, h_elMx, e_xeTup, h_tupZx, h_tupZo, e_xeLst1, h_lst1Zo, h_lst1Zx, e_xeMeth, h_elMe, e_xeLcX, h_lcE, srt_int, sh_sD, fz_sD, shl_sD, fzl_sD, it_t3, sF_t3, sFI_t3, ty_t3, len_t3, lenI_t3, fl_t3, xg_t3, enumD_enc, fzv_tab, shv_tab, rangeD_length, shl_mS, fzl_mS, vE_length, kI_length, it_pair, sF_pair, so_pair, ty_pair, len_pair, lenI_pair, fl_pair, xg_pair, enc_int, enc_bool, isN_opt, sh_enc, fz_enc, shl_enc, fzl_enc, fl_enc, ok_enc, okl_enc, eq_enc, eql_enc, en_enc, ne_enc, nn_enc, decide_true])
theorem get_sX' {hs : List HX} {l : Nat} (h1 : 1 <= l) (h : l <= hs.length) : atI (hs.map sX) ((l : Int) - 1) = some (sX (xAt hs l)) := by
  have hg : hs[l - 1]? = some hs[l - 1] := List.getElem?_eq_getElem (by omega)
  have e : xAt hs l = hs[l - 1] := by unfold xAt; rw [hg]
  have : atI (hs.map sX) ((l - 1 : Nat) : Int) = some (sX (xAt hs l)) := atI_of (by rw [List.getElem?_map, hg, e]; rfl)
  rw [show ((l - 1 : Nat) : Int) = (l : Int) - 1 by omega] at this
  exact this
def prX (g : Bool) (q : Int) (v : V7) : D := if g = true then .olst [eV v] else .olst [.str "wrong", .int q, eV v]
theorem f_law_part (k : Nat) {hs : List HX} (ok : OkFX hs) (q : Int) (l : Nat) (h1 : 1 <= l) : semT (tbl W) (k + 2) "_law_part" [.lst (hs.map sX), .int q, .int (l : Int)] none = .ok (prX (gdX hs q l) q (paX hs q l)) none := by
  have hl := ok.len
  by_cases h : hs.length < l
  · have e : xAt hs l = (1, .i 0, []) := xAt_far h1 h
    have g : gdX hs q l = true := by unfold gdX paX; rw [e]; rfl
    have v : paX hs q l = .i 0 := by unfold paX; rw [e]; rfl
    rw [g, v]
    have h2 : (hs.length : Int) < (l : Int) := by omega
    rw [sem_law_part]
    unfold b_law_part prX
    walk_at "evl"
    try rw [decide_eq_true h2]
    try walk_at "evl"
    try rfl
  · have hat := get_sX' h1 (show l <= hs.length by omega)
    have h2 : ¬ (hs.length : Int) < (l : Int) := by omega
    have w := x_is_wrong (W := W) k (paX hs q l) (xAt hs l).1
    unfold gdX
    have hp : paX hs q l = (alG (xAt hs l).2.2 q).getD (xAt hs l).2.1 := rfl
    have hd := dg_al eV q (xAt hs l).2.2
    generalize paX hs q l = v at *
    generalize xAt hs l = h at *
    rw [sem_law_part]
    unfold b_law_part
    cases ha : alG h.2.2 q with
    | none =>
      rw [ha] at hp hd
      have hp : v = h.2.1 := hp
      subst hp
      cases g : goodV h.2.1 h.1 <;> rw [g] at w <;> unfold prX
      · walk_at "evl"
        try rw [decide_eq_false h2]
        try walk_at "evl"
        rw [hat, show sX h = .tup [.int h.1, mX h.2.2, eV h.2.1] from rfl]
        walk_at "evl"
        rw [hd]
        walk_at "evl"
        rw [w]
        walk_at "evl"
        try rfl
      · walk_at "evl"
        try rw [decide_eq_false h2]
        try walk_at "evl"
        rw [hat, show sX h = .tup [.int h.1, mX h.2.2, eV h.2.1] from rfl]
        walk_at "evl"
        rw [hd]
        walk_at "evl"
        rw [w]
        walk_at "evl"
        try rfl
    | some z =>
      rw [ha] at hp hd
      have hp : v = z := hp
      subst hp
      cases g : goodV v h.1 <;> rw [g] at w <;> unfold prX
      · walk_at "evl"
        try rw [decide_eq_false h2]
        try walk_at "evl"
        rw [hat, show sX h = .tup [.int h.1, mX h.2.2, eV h.2.1] from rfl]
        walk_at "evl"
        rw [hd]
        walk_at "evl"
        rw [w]
        walk_at "evl"
        try rfl
      · walk_at "evl"
        try rw [decide_eq_false h2]
        try walk_at "evl"
        rw [hat, show sX h = .tup [.int h.1, mX h.2.2, eV h.2.1] from rfl]
        walk_at "evl"
        rw [hd]
        walk_at "evl"
        rw [w]
        walk_at "evl"
        try rfl
def paD (hs : List HX) (q : Int) (d : Nat) : D := match badX hs q d with
  | some v => .olst [.str "wrong", .int q, eV v]
  | none => .olst [.tup (pthX hs q d)]
theorem f_law_path (k : Nat) {hs : List HX} (ok : OkFX hs) (q : Int) (d : Nat) (hd : d <= 1000) : semT (tbl W) (k + 3) "_law_path" [.lst (hs.map sX), .int q, .int (d : Int)] none = .ok (paD hs q d) none := by
  have hloop := forL_find (g := fun i : Nat => D.int (1 + (i : Int))) (f := forK (xgN W 4) (l1_law_path W (semT (tbl W) (k + 2))) []) (fun i => if gdX hs q (i + 1) = true then none else some (paX hs q (i + 1))) (fun v r => ∃ e', r = .rt (.olst [.str "wrong", .int q, eV v]) e') (fun v r h => by obtain ⟨e', h⟩ := h; exact .inl ⟨_, _, h⟩)
    (fun ys e => ys.length <= 1000 /\ ∃ o4 o5, e = [some (.lst (hs.map sX)), some (.int q), some (.int (d : Int)), some (.olst (ys.map fun i : Nat => eV (paX hs q (i + 1)))), o4, o5]) (List.range d) [] [some (.lst (hs.map sX)), some (.int q), some (.int (d : Int)), some (.olst []), none, none] ⟨by simp, none, none, rfl⟩ (by
      rintro ys i zs _ hx ⟨hy, o4, o5, rfl⟩
      have c := f_law_part (W := W) k ok q (i + 1) (by omega)
      rw [show ((i + 1 : Nat) : Int) = 1 + (i : Int) by push_cast; omega] at c
      have hyl : ys.length < 1000 := by
        have := congrArg List.length hx
        rw [List.nil_append, List.length_range, List.length_append, List.length_cons] at this
        omega
      by_cases g : gdX hs q (i + 1) = true
      · rw [g] at c
        have c : semT (tbl W) (k + 2) "_law_part" _ none = .ok (.olst [eV (paX hs q (i + 1))]) none := c
        refine .inl ⟨if_pos g, [some (.lst (hs.map sX)), some (.int q), some (.int (d : Int)), some (.olst ((ys ++ [i]).map fun i : Nat => eV (paX hs q (i + 1)))), some (.int (1 + (i : Int))), some (.olst [eV (paX hs q (i + 1))])], .inl ?_, by rw [List.length_append, List.length_singleton]; omega, _, _, rfl⟩
        rw [List.map_append, List.map_cons, List.map_nil]
        have hw := sh_eV (paX hs q (i + 1))
        generalize eV (paX hs q (i + 1)) = w at *
        generalize hac : (ys.map fun i : Nat => eV (paX hs q (i + 1))) = acc
        have hal : acc.length < 1000000 := by rw [<- hac, List.length_map]; omega
        unfold l1_law_path
        walk_at "evl"
        rw [c]
        walk_at "evl"
        (try rw [if_pos hw])
        (try walk_at "evl")
      · rw [show gdX hs q (i + 1) = false by simpa using g] at c
        have c : semT (tbl W) (k + 2) "_law_part" _ none = .ok (.olst [.str "wrong", .int q, eV (paX hs q (i + 1))]) none := c
        refine .inr ⟨paX hs q (i + 1), if_neg g, [some (.lst (hs.map sX)), some (.int q), some (.int (d : Int)), some (.olst (ys.map fun i : Nat => eV (paX hs q (i + 1)))), some (.int (1 + (i : Int))), none], ?_⟩
        generalize eV (paX hs q (i + 1)) = w at *
        generalize (ys.map fun i : Nat => eV (paX hs q (i + 1))) = acc
        unfold l1_law_path
        walk_at "evl"
        rw [c]
        walk_at "evl"
        try rfl)
  have hr : (List.range d).map (fun i : Nat => D.int (1 + (i : Int))) = rangeD 1 d := rfl
  rw [hr] at hloop
  rw [sem_law_path]
  unfold b_law_path paD
  have hsh := shl_pth hs q d
  walk_at "evl"
  rw [show ((d : Int) + 1 - 1).toNat = d by omega]
  rcases hloop with ⟨h1, e', h2, _, o4, o5, rfl⟩ | ⟨v, h1, e', h2⟩
  · rw [show badX hs q d = none from h1, h2]
    dsimp only
    rw [List.nil_append, show ((List.range d).map fun i : Nat => eV (paX hs q (i + 1))) = pthX hs q d from rfl]
    generalize pthX hs q d = pt at *
    walk_at "evl"
    try rfl
  · rw [show badX hs q d = some v from h1, h2]
    dsimp only
    walk_at "evl"
    try rfl
end
local macro_rules | `(tactic| walk_at "ev") => `(tactic| simp? only [])
section
variable {W : Wd TT}
local macro_rules | `(tactic| walk_at "evl") => `(tactic| dsimp? only [fzv_V, shv_V, sh_eV, fz_eV, sh_xS, fz_xS, shl_xS, fzl_xS, sh_sX, fz_sX, shl_sX, fzl_sX, e_xmEl, h_elMo, h_elMx, e_xeTup, h_tupZx, h_tupZo, e_xeLst1, h_lst1Zo, h_lst1Zx, e_xeMeth, h_elMe, e_xeLcX, h_lcE, srt_int, sh_sD, fz_sD, shl_sD, fzl_sD, it_t3, sF_t3, sFI_t3, ty_t3, len_t3, lenI_t3, fl_t3, xg_t3, enumD_enc, fzv_tab, shv_tab, rangeD_length, shl_mS, fzl_mS, vE_length, kI_length, it_pair, sF_pair, so_pair, ty_pair, len_pair, lenI_pair, fl_pair, xg_pair, enc_int, enc_bool, isN_opt, sh_enc, fz_enc, shl_enc, fzl_enc, fl_enc, ok_enc, okl_enc, eq_enc, eql_enc, en_enc, ne_enc, nn_enc, decide_true])
theorem f_told_part (k : Nat) {hs : List HX} (ok : OkFX hs) (q : Int) (l : Nat) (h1 : 1 <= l) : semT (tbl W) (k + 5) "_law_told" [FX hs, .int q, .int (l : Int), .bl false] none = .ok (prX (gdX hs q l) q (paX hs q l)) none := by
  have c := x_part_at (W := W) k ok q l h1
  rw [sem_law_told]
  unfold b_law_told prX
  unfold FX at *
  by_cases g : gdX hs q l = true
  · rw [if_pos g] at c ⊢
    walk_at "evl"
    rw [c]
    walk_at "evl"
    try rfl
  · rw [if_neg g] at c ⊢
    unfold pE exE at c
    walk_at "evl"
    rw [c]
    walk_at "evl"
    try rfl
theorem f_told_path (k : Nat) {hs : List HX} (ok : OkFX hs) (q : Int) (d : Nat) (hd : d <= 1000) : semT (tbl W) (k + 6) "_law_told" [FX hs, .int q, .int (d : Int), .bl true] none = .ok (paD hs q d) none := by
  have c := x_path_of (W := W) k ok q d hd
  have hsh := shl_pth hs q d
  rw [sem_law_told]
  unfold b_law_told paD
  unfold FX at *
  cases hb : badX hs q d with
  | none =>
    rw [hb] at c
    have c : semT (tbl W) (k + 5) "Family.path_of" _ none = .ok (.tup (pthX hs q d)) none := c
    generalize pthX hs q d = pt at *
    walk_at "evl"
    rw [c]
    walk_at "evl"
    try rfl
  | some v =>
    rw [hb] at c
    have c : semT (tbl W) (k + 5) "Family.path_of" _ none = .exn (pE q v) none := c
    unfold pE exE at c
    walk_at "evl"
    rw [c]
    walk_at "evl"
    try rfl
theorem f_same_part (k : Nat) (g : Bool) (q : Int) (v : V7) : semT (tbl W) (k + 1) "_law_same" [fz (prX g q v), fz (prX g q v)] none = .ok (.bl true) none := by
  rw [sem_law_same]
  unfold b_law_same
  cases g <;> cases v <;> unfold prX eV <;> walk_at "evl" <;> (try unfold l1_law_same) <;> (try rw [show rangeD 0 ((3 : Nat) : Int).toNat = [.int 0, .int 1, .int 2] from rfl]) <;> (try rw [show rangeD 0 ((1 : Nat) : Int).toNat = [.int 0] from rfl]) <;> walk_at "evl"
theorem f_same_path (k : Nat) (hs : List HX) (q : Int) (d : Nat) : semT (tbl W) (k + 1) "_law_same" [fz (paD hs q d), fz (paD hs q d)] none = .ok (.bl true) none := by
  rw [sem_law_same]
  unfold b_law_same
  unfold paD
  have hsh := shl_pth hs q d
  have hok : ∀ n, okDs (n + 5) (pthX hs q d) = true := fun n => by
    unfold pthX
    generalize List.range d = ls
    induction ls with
    | nil => simp [okDs]
    | cons a ls ih =>
      rw [List.map_cons, okDs, ih]
      cases paX hs q (a + 1) <;> simp [eV, okD, okDs]
  have heq : eqB (.tup (pthX hs q d)) (.tup (pthX hs q d)) = true := eqB_self _ 10 (by rw [show 10 = 9 + 1 from rfl, okD]; exact hok 4)
  cases hb : badX hs q d with
  | none =>
    dsimp only
    have e58 : okDs 58 (pthX hs q d) = true := hok 53
    rw [h_eqB_tt] at heq
    generalize pthX hs q d = pt at *
    walk_at "evl"
    rw [heq]
    walk_at "evl"
    rw [show rangeD 0 ((1 : Nat) : Int).toNat = [.int 0] from rfl]
    unfold l1_law_same
    walk_at "evl"
  | some v =>
    dsimp only
    cases v <;> unfold eV <;> walk_at "evl" <;> (try unfold l1_law_same) <;> (try rw [show rangeD 0 ((3 : Nat) : Int).toNat = [.int 0, .int 1, .int 2] from rfl]) <;> (try rw [show rangeD 0 ((1 : Nat) : Int).toNat = [.int 0] from rfl]) <;> walk_at "evl"
end
local macro_rules | `(tactic| walk_at "ev") => `(tactic| simp? only [])
section
variable {W : Wd TT}
local macro_rules | `(tactic| walk_at "evl") => `(tactic| dsimp? only [fzv_V, shv_V, sh_eV, fz_eV, sh_xS, fz_xS, shl_xS, fzl_xS, sh_sX, fz_sX, shl_sX, fzl_sX, e_xmEl, h_elMo, h_elMx, e_xeTup, h_tupZx, h_tupZo, e_xeLst1, h_lst1Zo, h_lst1Zx, e_xeMeth, h_elMe, e_xeLcX, h_lcE, srt_int, sh_sD, fz_sD, shl_sD, fzl_sD, it_t3, sF_t3, sFI_t3, ty_t3, len_t3, lenI_t3, fl_t3, xg_t3, enumD_enc, fzv_tab, shv_tab, rangeD_length, shl_mS, fzl_mS, vE_length, kI_length, it_pair, sF_pair, so_pair, ty_pair, len_pair, lenI_pair, fl_pair, xg_pair, enc_int, enc_bool, isN_opt, sh_enc, fz_enc, shl_enc, fzl_enc, fl_enc, ok_enc, okl_enc, eq_enc, eql_enc, en_enc, ne_enc, nn_enc, decide_true])
theorem f_spoilt (k : Nat) {hs : List HX} {n : Nat} (s : SmX hs n) (hn : n <= 19) (d w : Int) (hd : 0 <= d) (hw : 0 <= w) (q : Option Int) (h0 : hs.length ≠ 0) :
    ∃ hs' d', fz d' = .lst (hs'.map sX) /\ SmX hs' (n + 1) /\ hs'.length = hs.length /\ semT (tbl W) (k + 1) "_law_spoilt" [.lst (hs.map sX), .int d, oK q, .int w] none = .ok d' none := by
  have hl := s.len
  obtain ⟨l, hl2⟩ : ∃ l : Nat, d % (hs.length : Int) = (l : Int) := ⟨(d % (hs.length : Int)).toNat, by have := Int.emod_nonneg d (show (hs.length : Int) ≠ 0 by omega); omega⟩
  have hlt : l < hs.length := by have := Int.emod_lt_of_pos d (show (0 : Int) < (hs.length : Int) by omega); omega
  have hg : hs[l]? = some hs[l] := List.getElem?_eq_getElem hlt
  have hm : hs[l] ∈ hs := List.getElem_mem _
  have hok := s.ok _ hm
  have hat : atI (hs.map sX) (l : Int) = some (sX hs[l]) := atI_of (by rw [List.getElem?_map, hg]; rfl)
  generalize hs[l] = h at *
  obtain ⟨v, hv, hvb⟩ : ∃ v : V7, atI [D.int h.1, .int (-1), .int 100000000000000000000, .bl true, .bl false, .non, .str "0", .lst [.int 0]] (w % 8) = some (eV v) /\ v ∈ badL h.1 := by
    obtain ⟨j, hj⟩ : ∃ j : Nat, w % 8 = (j : Int) := ⟨(w % 8).toNat, by omega⟩
    have hj8 : j < (badL h.1).length := by show j < 8; omega
    refine ⟨(badL h.1)[j], ?_, List.getElem_mem _⟩
    rw [hj]
    exact atI_of (by
      rw [show [D.int h.1, .int (-1), .int 100000000000000000000, .bl true, .bl false, .non, .str "0", .lst [.int 0]] = (badL h.1).map eV from rfl, List.getElem?_map, List.getElem?_eq_getElem hj8]
      rfl)
  have hpw : powD (.int 10) (.int 20) = some (.int 100000000000000000000) := rfl
  have hput : ∀ k : Int, putP (kI h.2.2) (vE eV h.2.2) (.inl k) (eV v) = some (kI (alP h.2.2 k v), vE eV (alP h.2.2 k v)) := fun k => putP_al sh_eV hok.1.nk
  have hcut1 : (hs.map sX).take l = (hs.take l).map sX := by rw [List.map_take]
  have hcut2 : (hs.map sX).drop (l + 1) = (hs.drop (l + 1)).map sX := by rw [List.map_drop]
  refine ⟨hs.take l ++ [putX h q v] ++ hs.drop (l + 1), .olst ((hs.take l ++ [putX h q v] ++ hs.drop (l + 1)).map sX), ?_, ?_, ?_, ?_⟩
  · walk_at "evl"
  · refine ⟨?_, fun x hx => ?_⟩
    · rw [List.length_append, List.length_append, List.length_take, List.length_drop, List.length_singleton]; omega
    · rcases List.mem_append.mp hx with hx | hx
      · rcases List.mem_append.mp hx with hx | hx
        · have := s.ok x (List.mem_of_mem_take hx); exact ⟨this.1, by omega⟩
        · rw [List.mem_singleton.mp hx]; exact okX_put hok.1 q v hok.2 hn
      · have := s.ok x (List.mem_of_mem_drop hx); exact ⟨this.1, by omega⟩
  · rw [List.length_append, List.length_append, List.length_take, List.length_drop, List.length_singleton]; omega
  · have hlh := hok.2
    rw [sem_law_spoilt]
    unfold b_law_spoilt
    rw [List.map_append, List.map_append]
    cases q with
    | none =>
      unfold oK
      walk_at "evl"
      rw [hl2]
      walk_at "evl"
      rw [hat, show sX h = .tup [.int h.1, mX h.2.2, eV h.2.1] from rfl]
      walk_at "evl"
      rw [hpw]
      walk_at "evl"
      rw [hv]
      walk_at "evl"
      have hc1 : cutL (hs.map sX) none (some (l : Int)) = (hs.take l).map sX := by rw [cutL_map, cutL_take]
      have hc2 : cutL (hs.map sX) (some ((l : Int) + 1)) none = (hs.drop (l + 1)).map sX := by rw [cutL_map, show (l : Int) + 1 = ((l + 1 : Nat) : Int) by push_cast; rfl, cutL_drop]
      have l1 : (hs.take l).length <= 4 := by rw [List.length_take]; omega
      have l2 : (hs.drop (l + 1)).length <= 4 := by rw [List.length_drop]; omega
      (try rw [hc1])
      (try rw [hc2])
      walk_at "evl"
      rfl
    | some p =>
      unfold oK
      walk_at "evl"
      rw [hl2]
      walk_at "evl"
      rw [hat, show sX h = .tup [.int h.1, mX h.2.2, eV h.2.1] from rfl]
      walk_at "evl"
      rw [hpw]
      walk_at "evl"
      rw [hv]
      walk_at "evl"
      rw [hput]
      walk_at "evl"
      have hc1 : cutL (hs.map sX) none (some (l : Int)) = (hs.take l).map sX := by rw [cutL_map, cutL_take]
      have hc2 : cutL (hs.map sX) (some ((l : Int) + 1)) none = (hs.drop (l + 1)).map sX := by rw [cutL_map, show (l : Int) + 1 = ((l + 1 : Nat) : Int) by push_cast; rfl, cutL_drop]
      have l1 : (hs.take l).length <= 4 := by rw [List.length_take]; omega
      have l2 : (hs.drop (l + 1)).length <= 4 := by rw [List.length_drop]; omega
      (try rw [hc1])
      (try rw [hc2])
      walk_at "evl"
      rfl
def key81 : List (Option Int) := [none, some (-4), some 1, some 6, some 1000000000000000, some 44]
theorem l1_turn (k : Nat) {ds : List Int} (hd : ds.length = 11) (h0 : ∀ d ∈ ds, 0 <= d) (j : Nat) (hj : j < 3) {ha : List HX} (sa : SmX ha (5 + j)) (hne : ha.length ≠ 0) (dA : D) (eA : fz dA = .lst (ha.map sX)) (v0 v2 o4 o5 v6 v7 v8 v9 v10 : Option D) (φ : Sem) (hφ : φ = semT (tbl W) (k + 1)) :
    ∃ (ha' : List HX) (dA' : D) (p5 : Option D), SmX ha' (5 + (j + 1)) /\ ha'.length ≠ 0 /\ fz dA' = .lst (ha'.map sX) /\ forK (xgN W 4) (l1_law W φ) [] (.int (j : Int)) [v0, some (.olst (ds.map D.int)), v2, some dA, o4, o5, v6, v7, v8, v9, v10] =
      .nx [v0, some (.olst (ds.map D.int)), v2, some dA', some (.int (j : Int)), p5, v6, v7, v8, v9, v10] := by
  obtain ⟨d6, q6, p6, a6, b6⟩ := sum_at (T := 3 + 3 * (j : Int)) hd h0 (3 + 3 * j) (by omega) (by push_cast; rfl)
  obtain ⟨d7, q7, p7, a7, b7⟩ := sum_at (T := 2 + 3 * (j : Int)) hd h0 (2 + 3 * j) (by omega) (by push_cast; rfl)
  obtain ⟨d8, q8, p8, a8, b8⟩ := sum_at (T := 4 + 3 * (j : Int)) hd h0 (4 + 3 * j) (by omega) (by push_cast; rfl)
  obtain ⟨q, hq, _⟩ : ∃ q : Option Int, atI [D.non, .int (-4), .int 1, .int 6, .int 1000000000000000, .int 44] (d6 % 6) = some (oK q) /\ True := by
    obtain ⟨i, hi⟩ : ∃ i : Nat, d6 % 6 = (i : Int) := ⟨(d6 % 6).toNat, by omega⟩
    have hi6 : i < key81.length := by show i < 6; omega
    refine ⟨key81[i], ?_, trivial⟩
    rw [hi]
    exact atI_of (by
      rw [show [D.non, .int (-4), .int 1, .int 6, .int 1000000000000000, .int 44] = key81.map oK from rfl, List.getElem?_map, List.getElem?_eq_getElem hi6]
      rfl)
  have hpw : powD (.int 10) (.int 15) = some (.int 1000000000000000) := rfl
  have sq : isSh (oK q) = true := by cases q <;> rfl
  have fq : fz (oK q) = oK q := fz_isSh sq
  have flq : isFlat (oK q) = true := by cases q <;> rfl
  obtain ⟨hs', d', e1, e2, e3, c⟩ := f_spoilt (W := W) k sa (by omega) d7 d8 q7 q8 q hne
  refine ⟨hs', d', some (oK q), e2, by omega, e1, ?_⟩
  subst hφ
  unfold l1_law
  walk_at "evl"
  rw [hpw]
  walk_at "evl"
  rw [a6]
  walk_at "evl"
  rw [hq]
  walk_at "evl"
  (try rw [eA])
  (try walk_at "evl")
  (try rw [a7])
  (try walk_at "evl")
  (try rw [a8])
  (try walk_at "evl")
  (try simp only [fq, sq, flq])
  (try walk_at "evl")
  rw [c]
  walk_at "evl"
  done
end
local macro_rules | `(tactic| walk_at "ev") => `(tactic| simp? only [])
section
variable {W : Wd TT}
local macro_rules | `(tactic| walk_at "evl") => `(tactic| dsimp? only [fzv_V, shv_V, sh_eV, fz_eV, sh_xS, fz_xS, shl_xS, fzl_xS, sh_sX, fz_sX, shl_sX, fzl_sX, e_xmEl, h_elMo, h_elMx, e_xeTup, h_tupZx, h_tupZo, e_xeLst1, h_lst1Zo, h_lst1Zx, e_xeMeth, h_elMe, e_xeLcX, h_lcE, srt_int, sh_sD, fz_sD, shl_sD, fzl_sD, it_t3, sF_t3, sFI_t3, ty_t3, len_t3, lenI_t3, fl_t3, xg_t3, enumD_enc, fzv_tab, shv_tab, rangeD_length, shl_mS, fzl_mS, vE_length, kI_length, it_pair, sF_pair, so_pair, ty_pair, len_pair, lenI_pair, fl_pair, xg_pair, enc_int, enc_bool, isN_opt, sh_enc, fz_enc, shl_enc, fzl_enc, fl_enc, ok_enc, okl_enc, eq_enc, eql_enc, en_enc, ne_enc, nn_enc, decide_true])
theorem x_fan_outs (k : Nat) (hs : List HX) (hl : hs.length <= 1000) : semT (tbl W) (k + 1) "Family.fan_outs" [FX hs] none = .ok (.tup ((hs.map (·.1)).map enc)) none := by
  rw [sem_Family_fan_outs]
  unfold b_Family_fan_outs FX
  walk_at "evl"
  rw [lcL_mapE (enc := xS) (enc2 := (enc : Int -> D)) (fun h : HX => h.1) hs (fun h _ => by
    unfold xS
    walk_at "evl"
    try rfl)]
  walk_at "evl"
theorem l5_turn (k : Nat) {hs : List HX} (ok : OkFX hs) (q : Int) (l : Nat) (hl : l < 7) (v0 v1 v2 v4 v6 v7 v9 o10 : Option D) (φ : Sem) (hφ : φ = semT (tbl W) (k + 6)) :
    forK (xgN W 10) (l5_law W φ) [] (.int (l : Int)) [v0, v1, v2, some (.lst (hs.map sX)), v4, some (.int q), v6, v7, some (FX hs), v9, o10] =
      .nx [v0, v1, v2, some (.lst (hs.map sX)), v4, some (.int q), v6, v7, some (FX hs), v9, some (.int (l : Int))] := by
  have t1 := f_told_path (W := W) k ok q l (by omega)
  have c1 := f_law_path (W := W) (k + 3) ok q l (by omega)
  have s1 := f_same_path (W := W) (k + 5) hs q l
  subst hφ
  unfold l5_law
  unfold FX at *
  by_cases h0 : l = 0
  · subst h0
    generalize paD hs q 0 = pd at *
    walk_at "evl"
    rw [t1]
    walk_at "evl"
    rw [c1]
    walk_at "evl"
    rw [s1]
    walk_at "evl"
    try rfl
  · have t2 := f_told_part (W := W) (k + 1) ok q l (by omega)
    have c2 := f_law_part (W := W) (k + 4) ok q l (by omega)
    have s2 := f_same_part (W := W) (k + 5) (gdX hs q l) q (paX hs q l)
    have hp : (0 : Int) < (l : Int) := by omega
    unfold FX at *
    generalize paD hs q l = pd at *
    generalize prX (gdX hs q l) q (paX hs q l) = pr at *
    walk_at "evl"
    rw [t1]
    walk_at "evl"
    rw [c1]
    walk_at "evl"
    rw [s1]
    walk_at "evl"
    (try rw [decide_eq_true hp])
    (try walk_at "evl")
    rw [t2]
    walk_at "evl"
    rw [c2]
    walk_at "evl"
    rw [s2]
    walk_at "evl"
    try rfl
theorem l4_turn (k : Nat) {hs : List HX} (ok : OkFX hs) (q : Int) (v0 v1 v2 v4 v6 v7 v9 o5 o10 : Option D) (φ : Sem) (hφ : φ = semT (tbl W) (k + 6)) :
    ∃ p10, forK (xgN W 5) (l4_law W φ) [] (enc q) [v0, v1, v2, some (.lst (hs.map sX)), v4, o5, v6, v7, some (FX hs), v9, o10] =
      .nx [v0, v1, v2, some (.lst (hs.map sX)), v4, some (.int q), v6, v7, some (FX hs), v9, p10] := by
  have ht := fun l hl o10 => l5_turn (W := W) k ok q l hl v0 v1 v2 v4 v6 v7 v9 o10 φ hφ
  obtain ⟨p10, hlp⟩ : ∃ p10, forL (forK (xgN W 10) (l5_law W φ) []) (rangeD 0 7) [v0, v1, v2, some (.lst (hs.map sX)), v4, some (.int q), v6, v7, some (FX hs), v9, o10] = .nx [v0, v1, v2, some (.lst (hs.map sX)), v4, some (.int q), v6, v7, some (FX hs), v9, p10] := by
    generalize hF : forL _ _ _ = rz
    obtain ⟨e', rfl, p10, rfl⟩ := forL_range (fun j e => ∃ p10, e = [v0, v1, v2, some (.lst (hs.map sX)), v4, some (.int q), v6, v7, some (FX hs), v9, p10]) hF ⟨o10, rfl⟩ (by
      rintro j _ hj ⟨p10, rfl⟩
      exact ⟨_, .inl (ht j (by omega) p10), _, rfl⟩)
    exact ⟨p10, rfl⟩
  refine ⟨p10, ?_⟩
  unfold l4_law
  unfold FX at *
  walk_at "evl"
  rw [show rangeD 0 (Int.toNat 7) = rangeD 0 7 from rfl, hlp]
theorem l3_turn (k : Nat) {hs : List HX} (ok : OkFX hs) (j : Nat) (v0 v1 v4 v6 v7 o5 o9 o10 : Option D) (φ : Sem) (hφ : φ = semT (tbl W) (k + 6)) :
    ∃ p5 p10, forK (xgN W 9) (l3_law W φ) [] (.int (j : Int)) [v0, v1, some (.lst [.int (-4), .int 0, .int 1, .int 6, .int 1000000000000000]), some (.lst (hs.map sX)), v4, o5, v6, v7, some (FX hs), o9, o10] =
      .nx [v0, v1, some (.lst [.int (-4), .int 0, .int 1, .int 6, .int 1000000000000000]), some (.lst (hs.map sX)), v4, p5, v6, v7, some (FX hs), some (.int (j : Int)), p10] := by
  have ht := fun q o5 o10 => l4_turn (W := W) k ok q v0 v1 (some (.lst [.int (-4), .int 0, .int 1, .int 6, .int 1000000000000000])) v4 v6 v7 (some (.int (j : Int))) o5 o10 φ hφ
  have hlp : ∀ qs : List Int, ∃ p5 p10, forL (forK (xgN W 5) (l4_law W φ) []) (qs.map enc) [v0, v1, some (.lst [.int (-4), .int 0, .int 1, .int 6, .int 1000000000000000]), some (.lst (hs.map sX)), v4, o5, v6, v7, some (FX hs), some (.int (j : Int)), o10] = .nx [v0, v1, some (.lst [.int (-4), .int 0, .int 1, .int 6, .int 1000000000000000]), some (.lst (hs.map sX)), v4, p5, v6, v7, some (FX hs), some (.int (j : Int)), p10] := by
    intro qs
    generalize hF : forL _ _ _ = rz
    obtain ⟨e', rfl, p5, p10, rfl⟩ := forL_enc (fun (ys : List Int) e => ∃ p5 p10, e = [v0, v1, some (.lst [.int (-4), .int 0, .int 1, .int 6, .int 1000000000000000]), some (.lst (hs.map sX)), v4, p5, v6, v7, some (FX hs), some (.int (j : Int)), p10]) hF ⟨o5, o10, rfl⟩ (by
      rintro ys q zs _ _ ⟨p5, p10, rfl⟩
      obtain ⟨p, hp⟩ := ht q p5 p10
      exact ⟨_, .inl hp, _, _, rfl⟩)
    exact ⟨p5, p10, rfl⟩
  obtain ⟨p5, p10, hl1⟩ := hlp [-4, 0, 1, 6, 1000000000000000, 44, -100]
  have hl1 : forT (forK (xgN W 5) (l4_law W φ) []) [.int 0, .int 1, .int 6, .int 1000000000000000, .int 44, .int (-100)] ((l4_law W φ).ev [] [v0, v1, some (.lst [.int (-4), .int 0, .int 1, .int 6, .int 1000000000000000]), some (.lst (hs.map sX)), v4, some (.int (-4)), v6, v7, some (FX hs), some (.int (j : Int)), o10]) = _ := hl1
  refine ⟨p5, p10, ?_⟩
  unfold l3_law
  unfold FX at *
  walk_at "evl"
  rw [hl1]
end
end Py
namespace Py
open PySem L2
local macro_rules | `(tactic| dsimp? only [$xs,*]) => `(tactic| dsimp only [$xs,*, xmEl, xeTup, xeLst1, xeLcX, xeMeth, xsSeq, xsNext, xsAsg, xsExpr, xsRet, xsIf, xsFrz, xsFor, xmP, xmVar, xmMove, xmBM, xmAppend, plVar, xoNil, xoCons, xVar, xC, xInt, xBl, xNon, xStr, xOp, xSub, xMul, xDiv, xMod, xPow, xNeg, xAdd, xEq, xNe, xLt, xCmp, xGt, xGe, xIsN, xAnd, xOr, xNot, xtV, xtTru, xtAnd, xtOr, xtNot, xtYes, xaNil, xaCons, xTup, xLst, xCb, xInt1, xAbs, xIx, xFld, xList, xTuple, xIsi, xCall, xgN, xgT, xiSeq, xiR1, xiR2, xLc, xmMeth, xMake, xProp, xLenU, xmsNil, xmsCons, xsFld, xSl, tO, xListU, xiSeqU, xMakeN, xDnew, xDget2, xDix, xDict, xsDput, xsForD, xsLock, xiKeysL, xpLock, xDc, xDcD, xiSeq, xVar, List.map_cons, List.map_nil, xsRaise, xsTryAs, xhAsg, xqP, xqFld, xqLst, xqsNil, xqsCons, xmCallO])
def top (i : Nat) : Stmt := PySem.Challenge.pw_anyhashes_k81_paths_with_wrong_parts.main.body.getD i (.Pass ⟨0, 0, 0, 0⟩)
def inClass (s : Stmt) (j : Nat) : Stmt := match s with
  | .ClassDef _ _ _ body _ _ _ _ _ _ _ => body.getD j (.Pass ⟨0, 0, 0, 0⟩)
  | s => s
abbrev s_is_integer : Stmt := top 7
abbrev N_is_integer : List Str := ["thing"]
abbrev A_is_integer : List Str := ["thing"]
theorem sc_is_integer : FnScope N_is_integer A_is_integer (defScope s_is_integer) := ⟨rfl, rfl, rfl, by decide +kernel, rfl, by decide +kernel, by decide +kernel⟩
theorem bp_is_integer : BindsP "is_integer" "is_integer" s_is_integer A_is_integer := fun _ _ _ _ _ _ us hl => match us, hl with | [_], _ => rfl
abbrev s_law_draws : Stmt := top 16
abbrev N_law_draws : List Str := ["_law_script", "_law_at", "_law_many", "_law_number", "_law_big", "_law_found", "_law_k", "_law_draw", "_law_mixed"]
abbrev A_law_draws : List Str := ["_law_script", "_law_at", "_law_many"]
theorem sc_law_draws : FnScope N_law_draws A_law_draws (defScope s_law_draws) := ⟨rfl, rfl, rfl, by decide +kernel, rfl, by decide +kernel, by decide +kernel⟩
theorem bp_law_draws : BindsP "_law_draws" "_law_draws" s_law_draws A_law_draws := fun _ _ _ _ _ _ us hl => match us, hl with | [_, _, _], _ => rfl
abbrev s_law_specs : Stmt := top 17
abbrev N_law_specs : List Str := ["_law_script", "_law_first", "_law_levels", "_law_keys", "_law_widest", "_law_specs_here", "_law_level", "_law_draws_here", "_law_fan_out", "_law_table", "_law_place"]
abbrev A_law_specs : List Str := ["_law_script", "_law_first", "_law_levels", "_law_keys", "_law_widest"]
theorem sc_law_specs : FnScope N_law_specs A_law_specs (defScope s_law_specs) := ⟨rfl, rfl, rfl, by decide +kernel, rfl, by decide +kernel, by decide +kernel⟩
theorem bp_law_specs : BindsP "_law_specs" "_law_specs" s_law_specs A_law_specs := fun _ _ _ _ _ _ us hl => match us, hl with | [_, _, _, _, _], _ => rfl
abbrev s_law_is_wrong : Stmt := top 18
abbrev N_law_is_wrong : List Str := ["_law_part_here", "_law_fan_out"]
abbrev A_law_is_wrong : List Str := ["_law_part_here", "_law_fan_out"]
theorem sc_law_is_wrong : FnScope N_law_is_wrong A_law_is_wrong (defScope s_law_is_wrong) := ⟨rfl, rfl, rfl, by decide +kernel, rfl, by decide +kernel, by decide +kernel⟩
theorem bp_law_is_wrong : BindsP "_law_is_wrong" "_law_is_wrong" s_law_is_wrong A_law_is_wrong := fun _ _ _ _ _ _ us hl => match us, hl with | [_, _], _ => rfl
abbrev s_law_spoilt : Stmt := top 19
abbrev N_law_spoilt : List Str := ["_law_specs_here", "_law_draw", "_law_key", "_law_wrong", "_law_level", "_law_spec", "_law_part_here", "_law_table", "_law_other"]
abbrev A_law_spoilt : List Str := ["_law_specs_here", "_law_draw", "_law_key", "_law_wrong"]
theorem sc_law_spoilt : FnScope N_law_spoilt A_law_spoilt (defScope s_law_spoilt) := ⟨rfl, rfl, rfl, by decide +kernel, rfl, by decide +kernel, by decide +kernel⟩
theorem bp_law_spoilt : BindsP "_law_spoilt" "_law_spoilt" s_law_spoilt A_law_spoilt := fun _ _ _ _ _ _ us hl => match us, hl with | [_, _, _, _], _ => rfl
abbrev s_law_part : Stmt := top 20
abbrev N_law_part : List Str := ["_law_specs_here", "_law_key", "_law_level", "_law_spec", "_law_part_here"]
abbrev A_law_part : List Str := ["_law_specs_here", "_law_key", "_law_level"]
theorem sc_law_part : FnScope N_law_part A_law_part (defScope s_law_part) := ⟨rfl, rfl, rfl, by decide +kernel, rfl, by decide +kernel, by decide +kernel⟩
theorem bp_law_part : BindsP "_law_part" "_law_part" s_law_part A_law_part := fun _ _ _ _ _ _ us hl => match us, hl with | [_, _, _], _ => rfl
abbrev s_law_path : Stmt := top 21
abbrev N_law_path : List Str := ["_law_specs_here", "_law_key", "_law_depth", "_law_path_here", "_law_level", "_law_found"]
abbrev A_law_path : List Str := ["_law_specs_here", "_law_key", "_law_depth"]
theorem sc_law_path : FnScope N_law_path A_law_path (defScope s_law_path) := ⟨rfl, rfl, rfl, by decide +kernel, rfl, by decide +kernel, by decide +kernel⟩
theorem bp_law_path : BindsP "_law_path" "_law_path" s_law_path A_law_path := fun _ _ _ _ _ _ us hl => match us, hl with | [_, _, _], _ => rfl
abbrev s_law_told : Stmt := top 22
abbrev N_law_told : List Str := ["_law_family", "_law_key", "_law_level", "_law_whole", "_law_found", "e"]
abbrev A_law_told : List Str := ["_law_family", "_law_key", "_law_level", "_law_whole"]
theorem sc_law_told : FnScope N_law_told A_law_told (defScope s_law_told) := ⟨rfl, rfl, rfl, by decide +kernel, rfl, by decide +kernel, by decide +kernel⟩
theorem bp_law_told : BindsP "_law_told" "_law_told" s_law_told A_law_told := fun _ _ _ _ _ _ us hl => match us, hl with | [_, _, _, _], _ => rfl
abbrev s_law_same : Stmt := top 23
abbrev N_law_same : List Str := ["_law_told_here", "_law_due", "_law_k"]
abbrev A_law_same : List Str := ["_law_told_here", "_law_due"]
theorem sc_law_same : FnScope N_law_same A_law_same (defScope s_law_same) := ⟨rfl, rfl, rfl, by decide +kernel, rfl, by decide +kernel, by decide +kernel⟩
theorem bp_law_same : BindsP "_law_same" "_law_same" s_law_same A_law_same := fun _ _ _ _ _ _ us hl => match us, hl with | [_, _], _ => rfl
abbrev s_HashFunction___init__ : Stmt := inClass (top 10) 0
abbrev N_HashFunction___init__ : List Str := ["self", "fan_out", "table", "other", "key"]
abbrev A_HashFunction___init__ : List Str := ["self", "fan_out", "table", "other"]
theorem sc_HashFunction___init__ : FnScope N_HashFunction___init__ A_HashFunction___init__ (defScope s_HashFunction___init__) := ⟨rfl, rfl, rfl, by decide +kernel, rfl, by decide +kernel, by decide +kernel⟩
abbrev s_HashFunction___call__ : Stmt := inClass (top 10) 1
abbrev N_HashFunction___call__ : List Str := ["self", "key"]
abbrev A_HashFunction___call__ : List Str := ["self", "key"]
theorem sc_HashFunction___call__ : FnScope N_HashFunction___call__ A_HashFunction___call__ (defScope s_HashFunction___call__) := ⟨rfl, rfl, rfl, by decide +kernel, rfl, by decide +kernel, by decide +kernel⟩
theorem bp_HashFunction___call__ : BindsP "__call__" "HashFunction.__call__" s_HashFunction___call__ A_HashFunction___call__ := fun _ _ _ _ _ _ us hl => match us, hl with | [_, _], _ => rfl
abbrev s_HashFunction_part_of : Stmt := inClass (top 10) 2
abbrev N_HashFunction_part_of : List Str := ["self", "key", "part"]
abbrev A_HashFunction_part_of : List Str := ["self", "key"]
theorem sc_HashFunction_part_of : FnScope N_HashFunction_part_of A_HashFunction_part_of (defScope s_HashFunction_part_of) := ⟨rfl, rfl, rfl, by decide +kernel, rfl, by decide +kernel, by decide +kernel⟩
theorem bp_HashFunction_part_of : BindsP "part_of" "HashFunction.part_of" s_HashFunction_part_of A_HashFunction_part_of := fun _ _ _ _ _ _ us hl => match us, hl with | [_, _], _ => rfl
abbrev s_Family___init__ : Stmt := inClass (top 13) 0
abbrev N_Family___init__ : List Str := ["self", "functions"]
abbrev A_Family___init__ : List Str := ["self", "functions"]
theorem sc_Family___init__ : FnScope N_Family___init__ A_Family___init__ (defScope s_Family___init__) := ⟨rfl, rfl, rfl, by decide +kernel, rfl, by decide +kernel, by decide +kernel⟩
theorem bp_Family___init__ : BindsP "__init__" "Family.__init__" s_Family___init__ A_Family___init__ := fun _ _ _ _ _ _ us hl => match us, hl with | [_, _], _ => rfl
abbrev s_Family___len__ : Stmt := inClass (top 13) 1
abbrev N_Family___len__ : List Str := ["self"]
abbrev A_Family___len__ : List Str := ["self"]
theorem sc_Family___len__ : FnScope N_Family___len__ A_Family___len__ (defScope s_Family___len__) := ⟨rfl, rfl, rfl, by decide +kernel, rfl, by decide +kernel, by decide +kernel⟩
theorem bp_Family___len__ : BindsP "__len__" "Family.__len__" s_Family___len__ A_Family___len__ := fun _ _ _ _ _ _ us hl => match us, hl with | [_], _ => rfl
abbrev s_Family_fan_outs : Stmt := inClass (top 13) 4
abbrev N_Family_fan_outs : List Str := ["self", "function"]
abbrev A_Family_fan_outs : List Str := ["self"]
theorem sc_Family_fan_outs : FnScope N_Family_fan_outs A_Family_fan_outs (defScope s_Family_fan_outs) := ⟨rfl, rfl, rfl, by decide +kernel, rfl, by decide +kernel, by decide +kernel⟩
theorem bp_Family_fan_outs : BindsP "fan_outs" "Family.fan_outs" s_Family_fan_outs A_Family_fan_outs := fun _ _ _ _ _ _ us hl => match us, hl with | [_], _ => rfl
abbrev s_Family_part_at : Stmt := inClass (top 13) 6
abbrev N_Family_part_at : List Str := ["self", "key", "level", "function"]
abbrev A_Family_part_at : List Str := ["self", "key", "level"]
theorem sc_Family_part_at : FnScope N_Family_part_at A_Family_part_at (defScope s_Family_part_at) := ⟨rfl, rfl, rfl, by decide +kernel, rfl, by decide +kernel, by decide +kernel⟩
theorem bp_Family_part_at : BindsP "part_at" "Family.part_at" s_Family_part_at A_Family_part_at := fun _ _ _ _ _ _ us hl => match us, hl with | [_, _, _], _ => rfl
abbrev s_Family_path_of : Stmt := inClass (top 13) 7
abbrev N_Family_path_of : List Str := ["self", "key", "depth", "level"]
abbrev A_Family_path_of : List Str := ["self", "key", "depth"]
theorem sc_Family_path_of : FnScope N_Family_path_of A_Family_path_of (defScope s_Family_path_of) := ⟨rfl, rfl, rfl, by decide +kernel, rfl, by decide +kernel, by decide +kernel⟩
theorem bp_Family_path_of : BindsP "path_of" "Family.path_of" s_Family_path_of A_Family_path_of := fun _ _ _ _ _ _ us hl => match us, hl with | [_, _, _], _ => rfl
abbrev s_Family___iter__ : Stmt := inClass (top 13) 2
abbrev N_Family___iter__ : List Str := ["self"]
abbrev A_Family___iter__ : List Str := ["self"]
theorem sc_Family___iter__ : FnScope N_Family___iter__ A_Family___iter__ (defScope s_Family___iter__) := ⟨rfl, rfl, rfl, by decide +kernel, rfl, by decide +kernel, by decide +kernel⟩
theorem bp_Family___iter__ : BindsP "__iter__" "Family.__iter__" s_Family___iter__ A_Family___iter__ := fun _ _ _ _ _ _ us hl => match us, hl with | [_], _ => rfl
abbrev s_law : Stmt := top 24
abbrev N_law : List Str := ["_law_script", "_law_shape", "_law_keys", "_law_specs_here", "_law_k", "_law_key", "_law_functions", "_law_spec", "_law_family", "_law_turn", "_law_level"]
abbrev A_law : List Str := ["_law_script"]
theorem sc_law : FnScope N_law A_law (defScope s_law) := ⟨rfl, rfl, rfl, by decide +kernel, rfl, by decide +kernel, by decide +kernel⟩
theorem bp_law : BindsP "law" "law" s_law A_law := fun _ _ _ _ _ _ us hl => match us, hl with | [_], _ => rfl
section
variable {W : Wd TT} {mg : Str -> Option Value} {base : Heap}
structure Cs (W : Wd TT) (mg : Str -> Option Value) : Prop where
  hasL : ∀ c, W.has c -> c ∈ clsL
  dun : Dun W
  has_HashFunction : W.has "HashFunction"
  g_HashFunction : mg "HashFunction" = some (.ref (W.cA "HashFunction"))
  a_HashFunction___init__ : MethAt W.K (W.cA "HashFunction") "__init__" "__init__" "HashFunction.__init__" s_HashFunction___init__ [] [("other", .int 0)]
  a_HashFunction___call__ : MethAt W.K (W.cA "HashFunction") "__call__" "__call__" "HashFunction.__call__" s_HashFunction___call__ [] []
  a_HashFunction_part_of : MethAt W.K (W.cA "HashFunction") "part_of" "part_of" "HashFunction.part_of" s_HashFunction_part_of [] []
  k_HashFunction : ∃ f, Mk W.K (W.cA "HashFunction") f
  has_Family : W.has "Family"
  g_Family : mg "Family" = some (.ref (W.cA "Family"))
  a_Family___init__ : MethAt W.K (W.cA "Family") "__init__" "__init__" "Family.__init__" s_Family___init__ [] []
  a_Family___len__ : MethAt W.K (W.cA "Family") "__len__" "__len__" "Family.__len__" s_Family___len__ [] []
  a_Family___iter__ : MethAt W.K (W.cA "Family") "__iter__" "__iter__" "Family.__iter__" s_Family___iter__ [] []
  p_Family_fan_outs : ∃ p g fd, PropOf W.K (W.cA "Family") "fan_outs" p g /\ FunD W.K "fan_outs" "Family.fan_outs" (defArgs s_Family_fan_outs) (defBody s_Family_fan_outs) (defScope s_Family_fan_outs) [] [] g fd
  a_Family_part_at : MethAt W.K (W.cA "Family") "part_at" "part_at" "Family.part_at" s_Family_part_at [] []
  a_Family_path_of : MethAt W.K (W.cA "Family") "path_of" "path_of" "Family.path_of" s_Family_path_of [] []
  k_Family : ∃ f, Mk W.K (W.cA "Family") f
  noVE : mg "ValueError" = none
  hx_JoinError : W.hasX "JoinError"
  gx_JoinError : mg "JoinError" = some (.ref (W.cA "JoinError"))
  hx_BadFunction : W.hasX "BadFunction"
  gx_BadFunction : mg "BadFunction" = some (.ref (W.cA "BadFunction"))
  x_BadFunction : ExcD W.P W.K mg "BadFunction" (W.cA "BadFunction") (["field"].map so)
  hx_BadPart : W.hasX "BadPart"
  gx_BadPart : mg "BadPart" = some (.ref (W.cA "BadPart"))
  x_BadPart : ExcD W.P W.K mg "BadPart" (W.cA "BadPart") (["key", "part"].map so)
  hx_TooMany : W.hasX "TooMany"
  gx_TooMany : mg "TooMany" = some (.ref (W.cA "TooMany"))
  x_TooMany : ExcD W.P W.K mg "TooMany" (W.cA "TooMany") (["count"].map so)
  v_WIDEST : ∃ t, mg "WIDEST" = some (.int 64 t)
  v_MOST_LEVELS : ∃ t, mg "MOST_LEVELS" = some (.int 4 t)
structure Ds (W : Wd TT) (mg : Str -> Option Value) (base : Heap) (φ : Sem) (k : Nat) : Prop where
  its : Its W.P W.w W.K mg base W
  d_is_integer : ∀ b, (∀ i, b = some i -> i < 1) -> Df W.P W.w W.K mg base (L2.CX W.P W.w) k "is_integer" A_is_integer (spR W 1 (φ "is_integer") b)
  d_law_draws : ∀ b, (∀ i, b = some i -> i < 3) -> Df W.P W.w W.K mg base (L2.CX W.P W.w) k "_law_draws" A_law_draws (spR W 3 (φ "_law_draws") b)
  d_law_specs : ∀ b, (∀ i, b = some i -> i < 5) -> Df W.P W.w W.K mg base (L2.CX W.P W.w) k "_law_specs" A_law_specs (spR W 5 (φ "_law_specs") b)
  d_law_is_wrong : ∀ b, (∀ i, b = some i -> i < 2) -> Df W.P W.w W.K mg base (L2.CX W.P W.w) k "_law_is_wrong" A_law_is_wrong (spR W 2 (φ "_law_is_wrong") b)
  d_law_spoilt : ∀ b, (∀ i, b = some i -> i < 4) -> Df W.P W.w W.K mg base (L2.CX W.P W.w) k "_law_spoilt" A_law_spoilt (spR W 4 (φ "_law_spoilt") b)
  d_law_part : ∀ b, (∀ i, b = some i -> i < 3) -> Df W.P W.w W.K mg base (L2.CX W.P W.w) k "_law_part" A_law_part (spR W 3 (φ "_law_part") b)
  d_law_path : ∀ b, (∀ i, b = some i -> i < 3) -> Df W.P W.w W.K mg base (L2.CX W.P W.w) k "_law_path" A_law_path (spR W 3 (φ "_law_path") b)
  d_law_told : ∀ b, (∀ i, b = some i -> i < 4) -> Df W.P W.w W.K mg base (L2.CX W.P W.w) k "_law_told" A_law_told (spR W 4 (φ "_law_told") b)
  d_law_same : ∀ b, (∀ i, b = some i -> i < 2) -> Df W.P W.w W.K mg base (L2.CX W.P W.w) k "_law_same" A_law_same (spR W 2 (φ "_law_same") b)
  m___call__ : ∀ b, (∀ i, b = some i -> i < 2) -> Mt W.P W.w W.K mg base W k "__call__" 2 φ b
  m___len__ : ∀ b, (∀ i, b = some i -> i < 1) -> Mt W.P W.w W.K mg base W k "__len__" 1 φ b
  m_part_at : ∀ b, (∀ i, b = some i -> i < 3) -> Mt W.P W.w W.K mg base W k "part_at" 3 φ b
  m_part_of : ∀ b, (∀ i, b = some i -> i < 2) -> Mt W.P W.w W.K mg base W k "part_of" 2 φ b
  m_path_of : ∀ b, (∀ i, b = some i -> i < 3) -> Mt W.P W.w W.K mg base W k "path_of" 3 φ b
  p_fan_outs : Pp W.P W.w W.K mg base W k "fan_outs" φ
  mk_HashFunction : MkD W.P W.w W.K mg base k "HashFunction" (W.cA "HashFunction") "HashFunction.__init__" s_HashFunction___init__ [("other", .int 0)] A_HashFunction___init__ (spR W 4 (φ "HashFunction.__init__") (some 0))
  mk_Family : MkAt W.P W.w W.K mg base k "Family" (W.cA "Family") 2 (spR W 2 (φ "Family.__init__") (some 0))
theorem it_all (C : Cs W mg) (B : Blt mg) : Its W.P W.w W.K mg base W := by
  refine ⟨fun c f hc hf => ?_⟩
  have hm := C.hasL c hc
  simp only [clsL, List.mem_cons, List.not_mem_nil, or_false] at hm
  rcases hm with rfl | rfl
  · rw [ik_HashFunction] at hf; cases hf
  · rw [ik_Family] at hf; cases hf
    exact it_of C.a_Family___iter__.ex sc_Family___iter__ bp_Family___iter__ rfl (by decide) (W.cl _ hc) (W.na _ _ hc fk_Family__functions) fun g cdv A out s H => pss_one (ps_ret (pe_callB ItX.call_iterN (by rfl) B.iter (by decide +kernel) (pa_cons (pe_fld (pv 0) rfl) pa_nil)))
theorem callF_all (C : Cs W mg) : CallFn W W.K := by
  refine callFn_of fun c nm hc hr => ?_
  have hm := C.hasL c hc
  simp only [clsL, List.mem_cons, List.not_mem_nil, or_false] at hm
  rcases hm with rfl | rfl
  · rw [rs_HashFunction___call__] at hr; cases hr; exact ⟨_, _, _, _, _, C.a_HashFunction___call__⟩
  · rw [rs_Family___call__] at hr; cases hr
theorem ks_HashFunction___init___0 {K : PySem.W.Frag} : KShape K "__init__" "HashFunction.__init__" s_HashFunction___init__ [("other", .int 0)] A_HashFunction___init__ 3 ["other"] [false] [] := kshape1 [] (by simp) (by simp) fun _ _ _ _ _ _ us mv ws h1 h2 h3 => match us, mv, ws, h1, h2, h3 with | [_, _, _], [], [_], _, _, _ => rfl
theorem ok_is_integer {φ : Sem} {k : Nat} (D : Ds W mg base φ k) (C : Cs W mg) (D' : DefAt W.K mg "is_integer" "is_integer" s_is_integer [] []) (B : Blt mg) : ∀ b, (∀ i, b = some i -> i < 1) -> Df W.P W.w W.K mg base (L2.CX W.P W.w) (k + 4) "is_integer" A_is_integer (spR W 1 (runFn 1 (b_is_integer W φ)) b) := by
  intro b hb
  refine df_of D' sc_is_integer bp_is_integer spR_len fun f cdv A outer s H vs Q E hr hsp => ⟨(b_is_integer W φ).t (fun c d _ H => E c d H), ?_, fn_run (N := N_is_integer) hb hsp⟩
  dsimp? only [b_is_integer]
  exact (pss_one (ps_ret (pe_and (px_isi (n := "int") B.isinstance B.int (pv 0)) (pe_one (pe_not (px_isi (n := "bool") B.isinstance B.bool (pv 0)))))))
theorem ok_law_draws {φ : Sem} {k : Nat} (D : Ds W mg base φ k) (C : Cs W mg) (D' : DefAt W.K mg "_law_draws" "_law_draws" s_law_draws [] []) (B : Blt mg) : ∀ b, (∀ i, b = some i -> i < 3) -> Df W.P W.w W.K mg base (L2.CX W.P W.w) (k + 4) "_law_draws" A_law_draws (spR W 3 (runFn 9 (b_law_draws W φ)) b) := by
  intro b hb
  refine df_of D' sc_law_draws bp_law_draws spR_len fun f cdv A outer s H vs Q E hr hsp => ⟨(b_law_draws W φ).t (fun c d _ H => E c d H), ?_, fn_run (N := N_law_draws) hb hsp⟩
  dsimp? only [b_law_draws, l1_law_draws]
  exact (pss_cons (ps_set (i := 3) sc_law_draws.nd rfl (Or.inl rfl) pe_int)
      (pss_cons (ps_if (pt_cmpR (opLt hr.units0) (pv 1) (pe_callB (CallR.or call_lenA (call_lenI (D.m___len__ none (by nofun)) (ro1 hr) rfl)) (by rfl) B.len (by decide +kernel) (pa_cons (pv 0) pa_nil)) (nomark _)) (pss_one (ps_set (i := 3) sc_law_draws.nd rfl (Or.inl rfl) (pe_callB call_absU (by rfl) B.abs (by decide +kernel) (pa_cons (pe_ix ixU (pv 0) (pv 1) (fun _ _ => rfl)) pa_nil)))) pss_nil)
      (pss_cons (ps_set (i := 4) sc_law_draws.nd rfl (Or.inl rfl) (pe_cmpR op_ge (pv 3) (pe_op op_pow pe_int pe_int) (nomark _)))
      (pss_cons (ps_set (i := 5) sc_law_draws.nd rfl (Or.inl rfl) (pe_lst pa_nil))
      (pss_cons (ps_for cx_po rfl (pi_range1 rfl B.range (pa_cons (pv 2) pa_nil)) (pg_name (i := 6) sc_law_draws.nd rfl (Or.inl rfl)) (pss_cons (ps_set (i := 7) sc_law_draws.nd rfl (Or.inl rfl) pe_int)
      (pss_cons (ps_if (pt_truU (pv 4)) (pss_cons (ps_set (i := 7) sc_law_draws.nd rfl (Or.inl rfl) (pe_op op_mod (pe_callTy call_intU (by rfl) B.int (by decide +kernel) (pa_cons (pv 3) pa_nil)) pe_int))
      (pss_one (ps_set (i := 3) sc_law_draws.nd rfl (Or.inl rfl) (pe_op opDiv (pv 3) pe_int)))) (pss_one (ps_if (pt_cmpR op_gt (pv 3) pe_int (nomark _)) (pss_cons (ps_set (i := 8) sc_law_draws.nd rfl (Or.inl rfl) (pe_op op_mod (pe_callTy call_intU (by rfl) B.int (by decide +kernel) (pa_cons (pe_op opAdd (pe_op opMul (pv 3) (pe_op opAdd pe_int (pe_op opMul pe_int (pv 6)))) (pe_op opMul pe_int (pv 6))) pa_nil)) pe_int))
      (pss_cons (ps_set (i := 8) sc_law_draws.nd rfl (Or.inl rfl) (pe_op op_mod (pe_callTy call_intU (by rfl) B.int (by decide +kernel) (pa_cons (pe_op opAdd (pe_op opAdd (pe_op opMul (pv 8) (pv 8)) (pe_op opMul pe_int (pv 6))) pe_int) pa_nil)) pe_int))
      (pss_one (ps_set (i := 7) sc_law_draws.nd rfl (Or.inl rfl) (pe_op op_mod (pe_callTy call_intU (by rfl) B.int (by decide +kernel) (pa_cons (pv 8) pa_nil)) pe_int))))) pss_nil)))
      (pss_one (ps_expr (pe_bm PySem.F.plainAttrs_list PySem.F.slot_list_append PySem.F.type_list_append mt_append (pv 5) (pa_cons (pv 7) pa_nil)))))))
      (pss_one (ps_ret (pv 5))))))))
theorem ok_law_specs {φ : Sem} {k : Nat} (D : Ds W mg base φ k) (C : Cs W mg) (D' : DefAt W.K mg "_law_specs" "_law_specs" s_law_specs [] []) (B : Blt mg) : ∀ b, (∀ i, b = some i -> i < 5) -> Df W.P W.w W.K mg base (L2.CX W.P W.w) (k + 4) "_law_specs" A_law_specs (spR W 5 (runFn 11 (b_law_specs W φ)) b) := by
  intro b hb
  refine df_of D' sc_law_specs bp_law_specs spR_len fun f cdv A outer s H vs Q E hr hsp => ⟨(b_law_specs W φ).t (fun c d _ H => E c d H), ?_, fn_run (N := N_law_specs) hb hsp⟩
  dsimp? only [b_law_specs, l1_law_specs, l2_law_specs]
  exact (pss_cons (ps_set (i := 5) sc_law_specs.nd rfl (Or.inl rfl) (pe_lst pa_nil))
      (pss_cons (ps_for cx_po rfl (pi_range1 rfl B.range (pa_cons (pv 2) pa_nil)) (pg_name (i := 6) sc_law_specs.nd rfl (Or.inl rfl)) (pss_cons (ps_set (i := 7) sc_law_specs.nd rfl (Or.inl rfl) (px_call (D.d_law_draws none (by nofun)) (ro0 hr) rfl (pa_cons (pv 0) (pa_cons (pe_op opAdd (pv 1) (pv 6)) (pa_cons (pe_op opAdd pe_int (pe_callB (CallR.or call_lenA (call_lenI (D.m___len__ none (by nofun)) (ro1 hr) rfl)) (by rfl) B.len (by decide +kernel) (pa_cons (pv 3) pa_nil))) pa_nil)))))
      (pss_cons (ps_set (i := 8) sc_law_specs.nd rfl (Or.inl rfl) (pe_op opAdd pe_int (pe_op op_mod (pe_callTy call_intU (by rfl) B.int (by decide +kernel) (pa_cons (pe_ix ixU (pv 7) pe_int (fun _ _ => rfl)) pa_nil)) (pv 4))))
      (pss_cons (ps_set (i := 9) sc_law_specs.nd rfl (Or.inl rfl) pe_dnewK)
      (pss_cons (ps_for cx_po rfl (pi_range1 rfl B.range (pa_cons (pe_callB (CallR.or call_lenA (call_lenI (D.m___len__ none (by nofun)) (ro1 hr) rfl)) (by rfl) B.len (by decide +kernel) (pa_cons (pv 3) pa_nil)) pa_nil)) (pg_name (i := 10) sc_law_specs.nd rfl (Or.inl rfl)) (pss_one (ps_asg (pe_op op_mod (pe_callTy call_intU (by rfl) B.int (by decide +kernel) (pa_cons (pe_ix ixU (pv 7) (pe_op opAdd pe_int (pv 10)) (fun _ _ => rfl)) pa_nil)) (pv 8)) (pg_sub (pv 9) (pe_ix ixU (pv 3) (pv 10) (fun _ _ => rfl)) (set_dict (hu1 hr))))))
      (pss_one (ps_expr (pe_bm PySem.F.plainAttrs_list PySem.F.slot_list_append PySem.F.type_list_append mt_append (pv 5) (pa_cons (pe_tup (pa_cons (pv 8) (pa_cons (pv 9) (pa_cons (pe_op op_mod (pe_callTy call_intU (by rfl) B.int (by decide +kernel) (pa_cons (pe_ix ixU (pv 7) pe_int (fun _ _ => rfl)) pa_nil)) (pv 8)) pa_nil)))) pa_nil)))))))))
      (pss_one (ps_ret (pv 5)))))
theorem ok_law_is_wrong {φ : Sem} {k : Nat} (D : Ds W mg base φ k) (C : Cs W mg) (D' : DefAt W.K mg "_law_is_wrong" "_law_is_wrong" s_law_is_wrong [] []) (B : Blt mg) : ∀ b, (∀ i, b = some i -> i < 2) -> Df W.P W.w W.K mg base (L2.CX W.P W.w) (k + 4) "_law_is_wrong" A_law_is_wrong (spR W 2 (runFn 2 (b_law_is_wrong W φ)) b) := by
  intro b hb
  refine df_of D' sc_law_is_wrong bp_law_is_wrong spR_len fun f cdv A outer s H vs Q E hr hsp => ⟨(b_law_is_wrong W φ).t (fun c d _ H => E c d H), ?_, fn_run (N := N_law_is_wrong) hb hsp⟩
  dsimp? only [b_law_is_wrong]
  exact (pss_cons (ps_if (PW.pt (pw_or (pt_not (pt_truU (px_isi (n := "int") B.isinstance B.int (pv 0)))) (pw_or1 (pt_truU (px_isi (n := "bool") B.isinstance B.bool (pv 0)))))) (pss_one (ps_ret pe_bl)) pss_nil)
      (pss_one (ps_ret (pe_or (pe_cmpR (opLt hr.units0) (pv 0) pe_int (nomark _)) (pe_one (pe_cmpR op_ge (pv 0) (pv 1) (nomark _)))))))
theorem ok_law_spoilt {φ : Sem} {k : Nat} (D : Ds W mg base φ k) (C : Cs W mg) (D' : DefAt W.K mg "_law_spoilt" "_law_spoilt" s_law_spoilt [] []) (B : Blt mg) : ∀ b, (∀ i, b = some i -> i < 4) -> Df W.P W.w W.K mg base (L2.CX W.P W.w) (k + 4) "_law_spoilt" A_law_spoilt (spR W 4 (runFn 9 (b_law_spoilt W φ)) b) := by
  intro b hb
  refine df_of D' sc_law_spoilt bp_law_spoilt spR_len fun f cdv A outer s H vs Q E hr hsp => ⟨(b_law_spoilt W φ).t (fun c d _ H => E c d H), ?_, fn_run (N := N_law_spoilt) hb hsp⟩
  dsimp? only [b_law_spoilt]
  exact (pss_cons (ps_set (i := 4) sc_law_spoilt.nd rfl (Or.inl rfl) (pe_op op_mod (pe_callTy call_intU (by rfl) B.int (by decide +kernel) (pa_cons (pv 1) pa_nil)) (pe_callB (CallR.or call_lenA (call_lenI (D.m___len__ none (by nofun)) (ro1 hr) rfl)) (by rfl) B.len (by decide +kernel) (pa_cons (pv 0) pa_nil))))
      (pss_cons (ps_set (i := 5) sc_law_spoilt.nd rfl (Or.inl rfl) (pe_ix ixU (pv 0) (pv 4) (fun _ _ => rfl)))
      (pss_cons (ps_set (i := 6) sc_law_spoilt.nd rfl (Or.inl rfl) (pe_ix ixU (pe_lst (pa_cons (pe_ix ixU (pv 5) pe_int (fun _ _ => rfl)) (pa_cons (pe_un un_neg pe_int) (pa_cons (pe_op op_pow pe_int pe_int) (pa_cons pe_bl (pa_cons pe_bl (pa_cons pe_non (pa_cons pe_str (pa_cons (pe_lst (pa_cons pe_int pa_nil)) pa_nil))))))))) (pe_op op_mod (pe_callTy call_intU (by rfl) B.int (by decide +kernel) (pa_cons (pv 3) pa_nil)) pe_int) (fun _ _ => rfl)))
      (pss_cons (ps_set (i := 7) sc_law_spoilt.nd rfl (Or.inl rfl) (pe_callTy call_dictD (by rfl) B.dict (by decide +kernel) (pa_cons (pe_ix ixU (pv 5) pe_int (fun _ _ => rfl)) pa_nil)))
      (pss_cons (ps_set (i := 8) sc_law_spoilt.nd rfl (Or.inl rfl) (pe_ix ixU (pv 5) pe_int (fun _ _ => rfl)))
      (pss_cons (ps_if (pt_cmpR op_isN (pv 2) pe_non (nomark _)) (pss_one (ps_set (i := 8) sc_law_spoilt.nd rfl (Or.inl rfl) (pv 6))) (pss_one (ps_asg (pv 6) (pg_sub (pv 7) (pv 2) (set_dict (hu1 hr))))))
      (pss_one (ps_ret (pe_op opAdd (pe_op opAdd (pe_slice sl_list (pv 0) po_none (po_some (pv 4))) (pe_lst (pa_cons (pe_tup (pa_cons (pe_ix ixU (pv 5) pe_int (fun _ _ => rfl)) (pa_cons (pv 7) (pa_cons (pv 8) pa_nil)))) pa_nil))) (pe_slice sl_list (pv 0) (po_some (pe_op opAdd (pv 4) pe_int)) po_none))))))))))
theorem ok_law_part {φ : Sem} {k : Nat} (D : Ds W mg base φ k) (C : Cs W mg) (D' : DefAt W.K mg "_law_part" "_law_part" s_law_part [] []) (B : Blt mg) : ∀ b, (∀ i, b = some i -> i < 3) -> Df W.P W.w W.K mg base (L2.CX W.P W.w) (k + 4) "_law_part" A_law_part (spR W 3 (runFn 5 (b_law_part W φ)) b) := by
  intro b hb
  refine df_of D' sc_law_part bp_law_part spR_len fun f cdv A outer s H vs Q E hr hsp => ⟨(b_law_part W φ).t (fun c d _ H => E c d H), ?_, fn_run (N := N_law_part) hb hsp⟩
  dsimp? only [b_law_part]
  exact (pss_cons (ps_if (pt_cmpR op_gt (pv 2) (pe_callB (CallR.or call_lenA (call_lenI (D.m___len__ none (by nofun)) (ro1 hr) rfl)) (by rfl) B.len (by decide +kernel) (pa_cons (pv 0) pa_nil)) (nomark _)) (pss_one (ps_ret (pe_lst (pa_cons pe_int pa_nil)))) pss_nil)
      (pss_cons (ps_set (i := 3) sc_law_part.nd rfl (Or.inl rfl) (pe_ix ixU (pv 0) (pe_op op_sub (pv 2) pe_int) (fun _ _ => rfl)))
      (pss_cons (ps_set (i := 4) sc_law_part.nd rfl (Or.inl rfl) (pe_dget2N (hu1 hr) (pe_ix ixU (pv 3) pe_int (fun _ _ => rfl)) (pv 1) (pe_ix ixU (pv 3) pe_int (fun _ _ => rfl)) ⟨rfl, rfl, rfl, rfl⟩))
      (pss_cons (ps_if (pt_truU (px_call (D.d_law_is_wrong none (by nofun)) (ro0 hr) rfl (pa_cons (pv 4) (pa_cons (pe_ix ixU (pv 3) pe_int (fun _ _ => rfl)) pa_nil)))) (pss_one (ps_ret (pe_lst (pa_cons pe_str (pa_cons (pv 1) (pa_cons (pv 4) pa_nil)))))) pss_nil)
      (pss_one (ps_ret (pe_lst (pa_cons (pv 4) pa_nil))))))))
theorem ok_law_path {φ : Sem} {k : Nat} (D : Ds W mg base φ k) (C : Cs W mg) (D' : DefAt W.K mg "_law_path" "_law_path" s_law_path [] []) (B : Blt mg) : ∀ b, (∀ i, b = some i -> i < 3) -> Df W.P W.w W.K mg base (L2.CX W.P W.w) (k + 4) "_law_path" A_law_path (spR W 3 (runFn 6 (b_law_path W φ)) b) := by
  intro b hb
  refine df_of D' sc_law_path bp_law_path spR_len fun f cdv A outer s H vs Q E hr hsp => ⟨(b_law_path W φ).t (fun c d _ H => E c d H), ?_, fn_run (N := N_law_path) hb hsp⟩
  dsimp? only [b_law_path, l1_law_path]
  exact (pss_cons (ps_set (i := 3) sc_law_path.nd rfl (Or.inl rfl) (pe_lst pa_nil))
      (pss_cons (ps_for cx_po rfl (pi_range2 rfl B.range (pa_cons pe_int (pa_cons (pe_op opAdd (pv 2) pe_int) pa_nil))) (pg_name (i := 4) sc_law_path.nd rfl (Or.inl rfl)) (pss_cons (ps_set (i := 5) sc_law_path.nd rfl (Or.inl rfl) (px_call (D.d_law_part none (by nofun)) (ro0 hr) rfl (pa_cons (pv 0) (pa_cons (pv 1) (pa_cons (pv 4) pa_nil)))))
      (pss_cons (ps_if (pt_cmpR (opEq hr.units) (pe_callB (CallR.or call_lenA (call_lenI (D.m___len__ none (by nofun)) (ro1 hr) rfl)) (by rfl) B.len (by decide +kernel) (pa_cons (pv 5) pa_nil)) pe_int (nomark _)) (pss_one (ps_ret (pv 5))) pss_nil)
      (pss_one (ps_expr (pe_bm PySem.F.plainAttrs_list PySem.F.slot_list_append PySem.F.type_list_append mt_append (pv 3) (pa_cons (pe_ix ixU (pv 5) pe_int (fun _ _ => rfl)) pa_nil)))))))
      (pss_one (ps_ret (pe_lst (pa_cons (pe_callTy call_tupleU (by rfl) B.tuple (by decide +kernel) (pa_cons (pv 3) pa_nil)) pa_nil))))))
theorem ok_law_told {φ : Sem} {k : Nat} (D : Ds W mg base φ k) (C : Cs W mg) (D' : DefAt W.K mg "_law_told" "_law_told" s_law_told [] []) (B : Blt mg) : ∀ b, (∀ i, b = some i -> i < 4) -> Df W.P W.w W.K mg base (L2.CX W.P W.w) (k + 4) "_law_told" A_law_told (spR W 4 (runFn 6 (b_law_told W φ)) b) := by
  intro b hb
  refine df_of D' sc_law_told bp_law_told spR_len fun f cdv A outer s H vs Q E hr hsp => ⟨(b_law_told W φ).t (fun c d _ H => E c d H), ?_, fn_run (N := N_law_told) hb hsp⟩
  dsimp? only [b_law_told]
  exact (pss_cons (ps_set (i := 4) sc_law_told.nd rfl (Or.inl rfl) (pe_lst pa_nil))
      (pss_cons (ps_imp C.hx_BadPart (ps_try_as (i := 5) (tb := fun W1 => ((xsIf (xtTru (xVar W 3)) (xsFrz [1, 2, 0] (xsAsg 4 (xmEl (xeLst1 (xeMeth φ "path_of" 3 (xVar W 0) (xaCons (xVar W 1) (xaCons (xVar W 2) (xaNil W)))))))) (xsFrz [1, 2, 0] (xsAsg 4 (xmEl (xeLst1 (xeMeth φ "part_at" 3 (xVar W 0) (xaCons (xVar W 1) (xaCons (xVar W 2) (xaNil W)))))))))).t W1) (ts := ((xhAsg 4 (xqLst (xqsCons (xqP (xStr W "wrong")) (xqsCons (xqFld W 5 "BadPart" "key") (xqsCons (xqFld W 5 "BadPart" "part") (xqsNil W 5)))))) : XH W 5).t) rfl rfl sc_law_told.nd rfl rfl ⟨rfl, by decide, .inl C.gx_BadPart⟩ cx_tk (fun W1 pn xe tk po => (pss_one (ps_if (pt_truU (pv 3)) (pss_one (ps_set (i := 4) sc_law_told.nd rfl (Or.inl rfl) (pe_lst (pa_cons (px_methX (D.m_path_of none (by nofun)) tk (ro0 hr) rfl (pv 0) (pa_cons (pv 1) (pa_cons (pv 2) pa_nil))) pa_nil)))) (pss_one (ps_set (i := 4) sc_law_told.nd rfl (Or.inl rfl) (pe_lst (pa_cons (px_methX (D.m_part_at none (by nofun)) tk (ro0 hr) rfl (pv 0) (pa_cons (pv 1) (pa_cons (pv 2) pa_nil))) pa_nil))))))) (fun a0 oe0 cls0 d0 pn0 hz hf => (pss_one (ps_set (i := 4) sc_law_told.nd rfl (Or.inl rfl) (pe_lst (pa_cons pe_str (pa_cons (px_xf C.x_BadPart C.hx_BadPart rfl (by simp) hz hf (pv 5)) (pa_cons (px_xf C.x_BadPart C.hx_BadPart rfl (by simp) hz hf (pv 5)) pa_nil)))))))))
      (pss_one (ps_ret (pv 4)))))
theorem ok_law_same {φ : Sem} {k : Nat} (D : Ds W mg base φ k) (C : Cs W mg) (D' : DefAt W.K mg "_law_same" "_law_same" s_law_same [] []) (B : Blt mg) : ∀ b, (∀ i, b = some i -> i < 2) -> Df W.P W.w W.K mg base (L2.CX W.P W.w) (k + 4) "_law_same" A_law_same (spR W 2 (runFn 3 (b_law_same W φ)) b) := by
  intro b hb
  refine df_of D' sc_law_same bp_law_same spR_len fun f cdv A outer s H vs Q E hr hsp => ⟨(b_law_same W φ).t (fun c d _ H => E c d H), ?_, fn_run (N := N_law_same) hb hsp⟩
  dsimp? only [b_law_same, l1_law_same]
  exact (pss_cons (ps_if (pt_cmpR (opNe hr.units) (pv 0) (pv 1) (nomark _)) (pss_one (ps_ret pe_bl)) pss_nil)
      (pss_cons (ps_for cx_po rfl (pi_range1 rfl B.range (pa_cons (pe_callB (CallR.or call_lenA (call_lenI (D.m___len__ none (by nofun)) (ro1 hr) rfl)) (by rfl) B.len (by decide +kernel) (pa_cons (pv 1) pa_nil)) pa_nil)) (pg_name (i := 2) sc_law_same.nd rfl (Or.inl rfl)) (pss_one (ps_if (PW.pt (pw_or (pt_cmpR (opNe hr.units) (px_isi (n := "bool") B.isinstance B.bool (pe_ix ixU (pv 0) (pv 2) (fun _ _ => rfl))) (px_isi (n := "bool") B.isinstance B.bool (pe_ix ixU (pv 1) (pv 2) (fun _ _ => rfl))) (nomark _)) (pw_or1 (pt_cmpR (opNe hr.units) (px_isi (n := "tuple") B.isinstance B.tuple (pe_ix ixU (pv 0) (pv 2) (fun _ _ => rfl))) (px_isi (n := "tuple") B.isinstance B.tuple (pe_ix ixU (pv 1) (pv 2) (fun _ _ => rfl))) (nomark _))))) (pss_one (ps_ret pe_bl)) pss_nil)))
      (pss_one (ps_ret pe_bl))))
theorem ok_HashFunction___init__ {φ : Sem} {k : Nat} (D : Ds W mg base φ k) (C : Cs W mg) {C0 : Addr} {x0 : Str} {f00 : Addr} (M0 : Mk W.K C0 f00) (hm0 : mg x0 = some (.ref C0)) (D' : MethAt W.K C0 "__init__" "__init__" "HashFunction.__init__" s_HashFunction___init__ [] [("other", .int 0)]) (B : Blt mg) : MkD W.P W.w W.K mg base (k + 4) x0 C0 "HashFunction.__init__" s_HashFunction___init__ [("other", .int 0)] A_HashFunction___init__ (spR W 4 (runFn 5 (b_HashFunction___init__ W φ)) (some 0)) := by
  refine mkD_of M0 hm0 D' sc_HashFunction___init__ spR_len fun f cdv A outer s H vs Q E hr hsp => ⟨(b_HashFunction___init__ W φ).t (fun c d _ H => E c d H), ?_, fn_run (N := N_HashFunction___init__) (fun i h => by cases h; decide) hsp⟩
  dsimp? only [b_HashFunction___init__, l1_HashFunction___init__]
  exact (pss_cons (ps_if (PW.pt (pw_or (pt_not (pt_truU (px_call (D.d_is_integer none (by nofun)) (ro0 hr) rfl (pa_cons (pv 1) pa_nil)))) (pw_or (pt_cmpR (opLt hr.units0) (pv 1) pe_int (nomark _)) (pw_or1 (pt_cmpR op_gt (pv 1) (px_glI C.v_WIDEST) (nomark _)))))) (pss_one (px_raise C.x_BadFunction C.hx_BadFunction cx_tk rfl hr (pa_cons pe_str pa_nil) rfl)) pss_nil)
      (pss_cons (ps_forD (ps_for cx_po rfl (pi_keys (pv 2)) (pg_name (i := 4) sc_HashFunction___init__.nd rfl (Or.inl rfl)) (pss_one (ps_if (pt_not (pt_truU (px_call (D.d_is_integer none (by nofun)) (ro0 hr) rfl (pa_cons (pv 4) pa_nil)))) (pss_one (px_raise C.x_BadFunction C.hx_BadFunction cx_tk rfl hr (pa_cons pe_str pa_nil) rfl)) pss_nil))))
      (pss_cons (ps_fld (pv 0) (pv 1) rfl)
      (pss_cons (ps_fld (pv 0) (pv 3) rfl)
      (pss_one (ps_fld (pv 0) (pe_lockU (pe_dc (own := [("key", 4)]) rfl sc_HashFunction___init__.nd (pi_keys (pv 2)) (blkOk_by (own := [("key", 4)]) (N := N_HashFunction___init__) (sc := defScope s_HashFunction___init__) (by decide +kernel)) (fun _ _ _ _ _ => (pg_name (i := 4) sc_HashFunction___init__.nd rfl (Or.inl rfl))) (fun _ _ _ _ _ => pts_nil) (fun _ _ _ _ _ => (pv 4)) (fun _ _ _ _ _ => (pe_dget (hu1 hr) (pv 2) (pv 4) (fun _ _ => rfl))))) rfl))))))
theorem ok_HashFunction___call__ {φ : Sem} {k : Nat} (D : Ds W mg base φ k) (C : Cs W mg) {C0 : Addr} (D' : MethAt W.K C0 "__call__" "__call__" "HashFunction.__call__" s_HashFunction___call__ [] []) (B : Blt mg) : ∀ b, (∀ i, b = some i -> i < 2) -> MdOk W.P W.w W.K mg base (k + 4) C0 "__call__" 2 (spR W 2 (runFn 2 (b_HashFunction___call__ W φ)) b) := by
  intro b hb
  refine md_of D' sc_HashFunction___call__ bp_HashFunction___call__ rfl spR_len fun f cdv A outer s H vs Q E hr hsp => ⟨(b_HashFunction___call__ W φ).t (fun c d _ H => E c d H), ?_, fn_run (N := N_HashFunction___call__) hb hsp⟩
  dsimp? only [b_HashFunction___call__]
  exact (pss_one (ps_ret (pe_alt (px_methX (D.m_part_of none (by nofun)) cx_tk (ro0 hr) rfl (pv 0) (pa_cons (pv 1) pa_nil)) (px_methX (D.m_part_of (some 0) (fun i h => by cases h; decide)) cx_tk (ro0 hr) rfl (pv 0) (pa_cons (pv 1) pa_nil)))))
theorem ok_HashFunction_part_of {φ : Sem} {k : Nat} (D : Ds W mg base φ k) (C : Cs W mg) {C0 : Addr} (D' : MethAt W.K C0 "part_of" "part_of" "HashFunction.part_of" s_HashFunction_part_of [] []) (B : Blt mg) : ∀ b, (∀ i, b = some i -> i < 2) -> MdOk W.P W.w W.K mg base (k + 4) C0 "part_of" 2 (spR W 2 (runFn 3 (b_HashFunction_part_of W φ)) b) := by
  intro b hb
  refine md_of D' sc_HashFunction_part_of bp_HashFunction_part_of rfl spR_len fun f cdv A outer s H vs Q E hr hsp => ⟨(b_HashFunction_part_of W φ).t (fun c d _ H => E c d H), ?_, fn_run (N := N_HashFunction_part_of) hb hsp⟩
  dsimp? only [b_HashFunction_part_of]
  exact (pss_cons (ps_set (i := 2) sc_HashFunction_part_of.nd rfl (Or.inl rfl) (pe_dget2N (hu1 hr) (pe_fld (pv 0) rfl) (pv 1) (pe_fld (pv 0) rfl) ⟨rfl, rfl, rfl, rfl⟩))
      (pss_cons (ps_if (PW.pt (pw_or (pt_not (pt_truU (px_call (D.d_is_integer none (by nofun)) (ro0 hr) rfl (pa_cons (pv 2) pa_nil)))) (pw_or (pt_cmpR (opLt hr.units0) (pv 2) pe_int (nomark _)) (pw_or1 (pt_cmpR op_ge (pv 2) (pe_fld (pv 0) rfl) (nomark _)))))) (pss_one (px_raise C.x_BadPart C.hx_BadPart cx_tk rfl hr (pa_cons (pv 1) (pa_cons (pv 2) pa_nil)) rfl)) pss_nil)
      (pss_one (ps_ret (pv 2)))))
theorem ok_Family___init__ {φ : Sem} {k : Nat} (D : Ds W mg base φ k) (C : Cs W mg) {C0 : Addr} (D' : MethAt W.K C0 "__init__" "__init__" "Family.__init__" s_Family___init__ [] []) (B : Blt mg) : ∀ b, (∀ i, b = some i -> i < 2) -> MdOk W.P W.w W.K mg base (k + 4) C0 "__init__" 2 (spR W 2 (runFn 2 (b_Family___init__ W φ)) b) := by
  intro b hb
  refine md_of D' sc_Family___init__ bp_Family___init__ rfl spR_len fun f cdv A outer s H vs Q E hr hsp => ⟨(b_Family___init__ W φ).t (fun c d _ H => E c d H), ?_, fn_run (N := N_Family___init__) hb hsp⟩
  dsimp? only [b_Family___init__]
  exact (pss_cons (ps_if (pt_cmpR op_gt (pe_callB (CallR.or call_lenA (call_lenI (D.m___len__ none (by nofun)) (ro1 hr) rfl)) (by rfl) B.len (by decide +kernel) (pa_cons (pv 1) pa_nil)) (px_glI C.v_MOST_LEVELS) (nomark _)) (pss_one (px_raise C.x_TooMany C.hx_TooMany cx_tk rfl hr (pa_cons (pe_callB (CallR.or call_lenA (call_lenI (D.m___len__ none (by nofun)) (ro1 hr) rfl)) (by rfl) B.len (by decide +kernel) (pa_cons (pv 1) pa_nil)) pa_nil) rfl)) pss_nil)
      (pss_one (ps_fld (pv 0) (pe_callTy (CallR.or call_listU (call_listI (D.m___len__ none (by nofun)) D.its hr rfl)) (by rfl) B.list (by decide +kernel) (pa_cons (pv 1) pa_nil)) rfl)))
theorem ok_Family___len__ {φ : Sem} {k : Nat} (D : Ds W mg base φ k) (C : Cs W mg) {C0 : Addr} (D' : MethAt W.K C0 "__len__" "__len__" "Family.__len__" s_Family___len__ [] []) (B : Blt mg) : ∀ b, (∀ i, b = some i -> i < 1) -> MdOk W.P W.w W.K mg base (k + 4) C0 "__len__" 1 (spR W 1 (runFn 1 (b_Family___len__ W φ)) b) := by
  intro b hb
  refine md_of D' sc_Family___len__ bp_Family___len__ rfl spR_len fun f cdv A outer s H vs Q E hr hsp => ⟨(b_Family___len__ W φ).t (fun c d _ H => E c d H), ?_, fn_run (N := N_Family___len__) hb hsp⟩
  dsimp? only [b_Family___len__]
  exact (pss_one (ps_ret (pe_callB (CallR.or call_lenA (call_lenI (D.m___len__ none (by nofun)) (ro1 hr) rfl)) (by rfl) B.len (by decide +kernel) (pa_cons (pe_fld (pv 0) rfl) pa_nil))))
theorem ok_Family_fan_outs {φ : Sem} {k : Nat} (D : Ds W mg base φ k) (C : Cs W mg) {g0 : Addr} {fd0 : FuncData} (F0 : FunD W.K "fan_outs" "Family.fan_outs" (defArgs s_Family_fan_outs) (defBody s_Family_fan_outs) (defScope s_Family_fan_outs) [] [] g0 fd0) (B : Blt mg) : FnOk W.P W.w W.K mg base (L2.CX W.P W.w) (k + 4) g0 fd0 A_Family_fan_outs (spR W 1 (runFn 2 (b_Family_fan_outs W φ)) none) := by
  refine pw_of F0 sc_Family_fan_outs spR_len fun f cdv A outer s H vs Q E hr hsp => ⟨(b_Family_fan_outs W φ).t (fun c d _ H => E c d H), ?_, fn_run (N := N_Family_fan_outs) (by intro i h; cases h) hsp⟩
  dsimp? only [b_Family_fan_outs]
  exact (pss_one (ps_ret (pe_callTy call_tupleU (by rfl) B.tuple (by decide +kernel) (pa_cons (pe_lc (own := [("function", 1)]) rfl sc_Family_fan_outs.nd (pi_or (pi_seqU (pe_fld (pv 0) rfl)) (pi_own D.its (hr.mono (by omega)) rfl (pe_fld (pv 0) rfl))) (blkOk_by (own := [("function", 1)]) (N := N_Family_fan_outs) (sc := defScope s_Family_fan_outs) (by decide +kernel)) (fun _ _ _ _ _ => (pg_name (i := 1) sc_Family_fan_outs.nd rfl (Or.inl rfl))) (fun _ _ _ _ _ => pts_nil) (fun _ _ _ _ _ => (pe_fld (pv 1) rfl))) pa_nil))))
theorem ok_Family_part_at {φ : Sem} {k : Nat} (D : Ds W mg base φ k) (C : Cs W mg) {C0 : Addr} (D' : MethAt W.K C0 "part_at" "part_at" "Family.part_at" s_Family_part_at [] []) (B : Blt mg) : ∀ b, (∀ i, b = some i -> i < 3) -> MdOk W.P W.w W.K mg base (k + 4) C0 "part_at" 3 (spR W 3 (runFn 4 (b_Family_part_at W φ)) b) := by
  intro b hb
  refine md_of D' sc_Family_part_at bp_Family_part_at rfl spR_len fun f cdv A outer s H vs Q E hr hsp => ⟨(b_Family_part_at W φ).t (fun c d _ H => E c d H), ?_, fn_run (N := N_Family_part_at) hb hsp⟩
  dsimp? only [b_Family_part_at]
  exact (pss_cons (ps_if (pt_cmpR op_gt (pv 2) (pe_callB (CallR.or call_lenA (call_lenI (D.m___len__ none (by nofun)) (ro1 hr) rfl)) (by rfl) B.len (by decide +kernel) (pa_cons (pe_fld (pv 0) rfl) pa_nil)) (nomark _)) (pss_one (ps_ret pe_int)) pss_nil)
      (pss_cons (ps_set (i := 3) sc_Family_part_at.nd rfl (Or.inl rfl) (pe_ix ixU (pe_fld (pv 0) rfl) (pe_op op_sub (pv 2) pe_int) (fun _ _ => rfl)))
      (pss_one (ps_ret (px_callOX (D.m___call__ none (by nofun)) (callF_all C) cx_tk (ro0 hr) rfl (pv 3) (pa_cons (pv 1) pa_nil))))))
theorem ok_Family_path_of {φ : Sem} {k : Nat} (D : Ds W mg base φ k) (C : Cs W mg) {C0 : Addr} (D' : MethAt W.K C0 "path_of" "path_of" "Family.path_of" s_Family_path_of [] []) (B : Blt mg) : ∀ b, (∀ i, b = some i -> i < 3) -> MdOk W.P W.w W.K mg base (k + 4) C0 "path_of" 3 (spR W 3 (runFn 4 (b_Family_path_of W φ)) b) := by
  intro b hb
  refine md_of D' sc_Family_path_of bp_Family_path_of rfl spR_len fun f cdv A outer s H vs Q E hr hsp => ⟨(b_Family_path_of W φ).t (fun c d _ H => E c d H), ?_, fn_run (N := N_Family_path_of) hb hsp⟩
  dsimp? only [b_Family_path_of]
  exact (pss_one (ps_ret (pe_callTy call_tupleU (by rfl) B.tuple (by decide +kernel) (pa_cons (pe_lcX (own := [("level", 3)]) rfl sc_Family_path_of.nd rfl rfl cx_tk (pi_range2 rfl B.range (pa_cons pe_int (pa_cons (pe_op opAdd (pv 2) pe_int) pa_nil))) (blkOk_by (own := [("level", 3)]) (N := N_Family_path_of) (sc := defScope s_Family_path_of) (by decide +kernel)) (fun _ _ _ _ _ _ => (pg_name (i := 3) sc_Family_path_of.nd rfl (Or.inl rfl))) (fun _ _ _ _ _ _ Wb tkb => (px_methX (D.m_part_at none (by nofun)) tkb (ro0 hr) rfl (pv 0) (pa_cons (pv 1) (pa_cons (pv 3) pa_nil))))) pa_nil))))
theorem ok_law {φ : Sem} {k : Nat} (D : Ds W mg base φ k) (C : Cs W mg) {f0 : Addr} {fd0 : FuncData} (F0 : FunD W.K "law" "law" (defArgs s_law) (defBody s_law) (defScope s_law) [] [] f0 fd0) (B : Blt mg) (hL : ∀ vs H Q E, spL W.K vs H Q E -> spR W 1 (runFn 11 (b_law W φ)) none vs H Q E) : FnOk W.P W.w W.K mg base CX0 (k + 4) f0 fd0 A_law (spL W.K) := by
  refine lw_of F0 sc_law spL_len fun f cdv A outer s H vs Q E hr hsp => ⟨(b_law W φ).t (fun c d _ H => E0 c d H), ?_, fn_run (N := N_law) (by intro i h; cases h) (hL vs H Q E0 hsp)⟩
  dsimp? only [b_law, l1_law, l2_law, l3_law, l4_law, l5_law]
  exact (pss_cons (ps_set (i := 1) sc_law.nd rfl (Or.inl rfl) (px_call (D.d_law_draws none (by nofun)) (ro0 hr) rfl (pa_cons (pv 0) (pa_cons pe_int (pa_cons pe_int pa_nil)))))
      (pss_cons (ps_set (i := 2) sc_law.nd rfl (Or.inl rfl) (pe_lst (pa_cons (pe_un un_neg pe_int) (pa_cons pe_int (pa_cons pe_int (pa_cons pe_int (pa_cons (pe_op op_pow pe_int pe_int) pa_nil)))))))
      (pss_cons (ps_set (i := 3) sc_law.nd rfl (Or.inl rfl) (px_call (D.d_law_specs none (by nofun)) (ro0 hr) rfl (pa_cons (pv 0) (pa_cons pe_int (pa_cons (pe_op opAdd pe_int (pe_op op_mod (pe_callTy call_intU (by rfl) B.int (by decide +kernel) (pa_cons (pe_ix ixU (pv 1) pe_int (fun _ _ => rfl)) pa_nil)) pe_int)) (pa_cons (pv 2) (pa_cons pe_int pa_nil)))))))
      (pss_cons (ps_for PassesOwn.never rfl (pi_range1 rfl B.range (pa_cons (pe_op op_mod (pe_callTy call_intU (by rfl) B.int (by decide +kernel) (pa_cons (pe_ix ixU (pv 1) pe_int (fun _ _ => rfl)) pa_nil)) pe_int) pa_nil)) (pg_name (i := 4) sc_law.nd rfl (Or.inl rfl)) (pss_cons (ps_set (i := 5) sc_law.nd rfl (Or.inl rfl) (pe_ix ixU (pe_lst (pa_cons pe_non (pa_cons (pe_un un_neg pe_int) (pa_cons pe_int (pa_cons pe_int (pa_cons (pe_op op_pow pe_int pe_int) (pa_cons pe_int pa_nil))))))) (pe_op op_mod (pe_callTy call_intU (by rfl) B.int (by decide +kernel) (pa_cons (pe_ix ixU (pv 1) (pe_op opAdd pe_int (pe_op opMul pe_int (pv 4))) (fun _ _ => rfl)) pa_nil)) pe_int) (fun _ _ => rfl)))
      (pss_one (ps_set (i := 3) sc_law.nd rfl (Or.inl rfl) (px_call (D.d_law_spoilt none (by nofun)) (ro0 hr) rfl (pa_cons (pv 3) (pa_cons (pe_ix ixU (pv 1) (pe_op opAdd pe_int (pe_op opMul pe_int (pv 4))) (fun _ _ => rfl)) (pa_cons (pv 5) (pa_cons (pe_ix ixU (pv 1) (pe_op opAdd pe_int (pe_op opMul pe_int (pv 4))) (fun _ _ => rfl)) pa_nil)))))))))
      (pss_cons (ps_set (i := 6) sc_law.nd rfl (Or.inl rfl) (pe_lst pa_nil))
      (pss_cons (ps_for PassesOwn.never rfl (pi_or (pi_seqU (pv 3)) (pi_own D.its (hr.mono (by omega)) rfl (pv 3))) (pg_name (i := 7) sc_law.nd rfl (Or.inl rfl)) (pss_one (ps_expr (pe_bm PySem.F.plainAttrs_list PySem.F.slot_list_append PySem.F.type_list_append mt_append (pv 6) (pa_cons (px_makeN D.mk_HashFunction ks_HashFunction___init___0 C.has_HashFunction (ro1 hr) rfl (pa_cons (pe_ix ixU (pv 7) pe_int (fun _ _ => rfl)) (pa_cons (pe_callTy call_dictD (by rfl) B.dict (by decide +kernel) (pa_cons (pe_ix ixU (pv 7) pe_int (fun _ _ => rfl)) pa_nil)) pa_nil)) (pk_cons (pe_ix ixU (pv 7) pe_int (fun _ _ => rfl)) pk_nil)) pa_nil)))))
      (pss_cons (ps_set (i := 8) sc_law.nd rfl (Or.inl rfl) (px_make D.mk_Family C.has_Family (ro1 hr) rfl (pa_cons (pv 6) pa_nil)))
      (pss_cons (ps_for PassesOwn.never rfl (pi_range1 rfl B.range (pa_cons pe_int pa_nil)) (pg_name (i := 9) sc_law.nd rfl (Or.inl rfl)) (pss_one (ps_for PassesOwn.never rfl (pi_or (pi_seqU (pe_op opAdd (pv 2) (pe_lst (pa_cons pe_int (pa_cons (pe_un un_neg pe_int) pa_nil))))) (pi_own D.its (hr.mono (by omega)) rfl (pe_op opAdd (pv 2) (pe_lst (pa_cons pe_int (pa_cons (pe_un un_neg pe_int) pa_nil)))))) (pg_name (i := 5) sc_law.nd rfl (Or.inl rfl)) (pss_one (ps_for PassesOwn.never rfl (pi_range1 rfl B.range (pa_cons pe_int pa_nil)) (pg_name (i := 10) sc_law.nd rfl (Or.inl rfl)) (pss_cons (ps_if (pt_not (pt_truU (px_call (D.d_law_same none (by nofun)) (ro0 hr) rfl (pa_cons (px_call (D.d_law_told none (by nofun)) (ro0 hr) rfl (pa_cons (pv 8) (pa_cons (pv 5) (pa_cons (pv 10) (pa_cons pe_bl pa_nil))))) (pa_cons (px_call (D.d_law_path none (by nofun)) (ro0 hr) rfl (pa_cons (pv 3) (pa_cons (pv 5) (pa_cons (pv 10) pa_nil)))) pa_nil))))) (pss_one (ps_ret pe_bl)) pss_nil)
      (pss_one (ps_if (PW.pt (pw_and (pt_cmpR op_gt (pv 10) pe_int (nomark _)) (pw_and1 (pt_not (pt_truU (px_call (D.d_law_same none (by nofun)) (ro0 hr) rfl (pa_cons (px_call (D.d_law_told none (by nofun)) (ro0 hr) rfl (pa_cons (pv 8) (pa_cons (pv 5) (pa_cons (pv 10) (pa_cons pe_bl pa_nil))))) (pa_cons (px_call (D.d_law_part none (by nofun)) (ro0 hr) rfl (pa_cons (pv 3) (pa_cons (pv 5) (pa_cons (pv 10) pa_nil)))) pa_nil)))))))) (pss_one (ps_ret pe_bl)) pss_nil))))))))
      (pss_one (ps_ret (pe_cmpR (opEq hr.units) (px_prop D.p_fan_outs (ro1 hr) rfl (pv 8) rfl) (pe_callTy call_tupleU (by rfl) B.tuple (by decide +kernel) (pa_cons (pe_lc (own := [("_law_spec", 7)]) rfl sc_law.nd (pi_or (pi_seqU (pv 3)) (pi_own D.its (hr.mono (by omega)) rfl (pv 3))) (blkOk_by (own := [("_law_spec", 7)]) (N := N_law) (sc := defScope s_law) (by decide +kernel)) (fun _ _ _ _ _ => (pg_name (i := 7) sc_law.nd rfl (Or.inl rfl))) (fun _ _ _ _ _ => pts_nil) (fun _ _ _ _ _ => (pe_ix ixU (pv 7) pe_int (fun _ _ => rfl)))) pa_nil)) (nomark _))))))))))))
theorem mt___call__ {φ : Sem} {k : Nat} {b : Option Nat} (C : Cs W mg) (h_HashFunction : MdOk W.P W.w W.K mg base k (W.cA "HashFunction") "__call__" 2 (spR W 2 (φ "HashFunction.__call__") b)) : Mt W.P W.w W.K mg base W k "__call__" 2 φ b := by
  refine ⟨fun c nm hc hr => ?_⟩
  have hm := C.hasL c hc
  simp only [clsL, List.mem_cons, List.not_mem_nil, or_false] at hm
  rcases hm with rfl | rfl
  · rw [rs_HashFunction___call__] at hr; cases hr; obtain ⟨g, fd, ps, x1, x2, x3, _⟩ := h_HashFunction.ex; exact ⟨g, fd, ps, x1, x2, x3⟩
  · rw [rs_Family___call__] at hr; cases hr
theorem mt___len__ {φ : Sem} {k : Nat} {b : Option Nat} (C : Cs W mg) (h_Family : MdOk W.P W.w W.K mg base k (W.cA "Family") "__len__" 1 (spR W 1 (φ "Family.__len__") b)) : Mt W.P W.w W.K mg base W k "__len__" 1 φ b := by
  refine ⟨fun c nm hc hr => ?_⟩
  have hm := C.hasL c hc
  simp only [clsL, List.mem_cons, List.not_mem_nil, or_false] at hm
  rcases hm with rfl | rfl
  · rw [rs_HashFunction___len__] at hr; cases hr
  · rw [rs_Family___len__] at hr; cases hr; obtain ⟨g, fd, ps, x1, x2, x3, _⟩ := h_Family.ex; exact ⟨g, fd, ps, x1, x2, x3⟩
theorem mt_part_at {φ : Sem} {k : Nat} {b : Option Nat} (C : Cs W mg) (h_Family : MdOk W.P W.w W.K mg base k (W.cA "Family") "part_at" 3 (spR W 3 (φ "Family.part_at") b)) : Mt W.P W.w W.K mg base W k "part_at" 3 φ b := by
  refine ⟨fun c nm hc hr => ?_⟩
  have hm := C.hasL c hc
  simp only [clsL, List.mem_cons, List.not_mem_nil, or_false] at hm
  rcases hm with rfl | rfl
  · rw [rs_HashFunction_part_at] at hr; cases hr
  · rw [rs_Family_part_at] at hr; cases hr; obtain ⟨g, fd, ps, x1, x2, x3, _⟩ := h_Family.ex; exact ⟨g, fd, ps, x1, x2, x3⟩
theorem mt_part_of {φ : Sem} {k : Nat} {b : Option Nat} (C : Cs W mg) (h_HashFunction : MdOk W.P W.w W.K mg base k (W.cA "HashFunction") "part_of" 2 (spR W 2 (φ "HashFunction.part_of") b)) : Mt W.P W.w W.K mg base W k "part_of" 2 φ b := by
  refine ⟨fun c nm hc hr => ?_⟩
  have hm := C.hasL c hc
  simp only [clsL, List.mem_cons, List.not_mem_nil, or_false] at hm
  rcases hm with rfl | rfl
  · rw [rs_HashFunction_part_of] at hr; cases hr; obtain ⟨g, fd, ps, x1, x2, x3, _⟩ := h_HashFunction.ex; exact ⟨g, fd, ps, x1, x2, x3⟩
  · rw [rs_Family_part_of] at hr; cases hr
theorem mt_path_of {φ : Sem} {k : Nat} {b : Option Nat} (C : Cs W mg) (h_Family : MdOk W.P W.w W.K mg base k (W.cA "Family") "path_of" 3 (spR W 3 (φ "Family.path_of") b)) : Mt W.P W.w W.K mg base W k "path_of" 3 φ b := by
  refine ⟨fun c nm hc hr => ?_⟩
  have hm := C.hasL c hc
  simp only [clsL, List.mem_cons, List.not_mem_nil, or_false] at hm
  rcases hm with rfl | rfl
  · rw [rs_HashFunction_path_of] at hr; cases hr
  · rw [rs_Family_path_of] at hr; cases hr; obtain ⟨g, fd, ps, x1, x2, x3, _⟩ := h_Family.ex; exact ⟨g, fd, ps, x1, x2, x3⟩
theorem pp_fan_outs {φ : Sem} {k : Nat} (C : Cs W mg) (h_Family : ∀ g fd, FunD W.K "fan_outs" "Family.fan_outs" (defArgs s_Family_fan_outs) (defBody s_Family_fan_outs) (defScope s_Family_fan_outs) [] [] g fd -> FnOk W.P W.w W.K mg base (L2.CX W.P W.w) k g fd A_Family_fan_outs (spR W 1 (φ "Family.fan_outs") none)) : Pp W.P W.w W.K mg base W k "fan_outs" φ := by
  refine ⟨fun c nm hc hr => ?_⟩
  have hm := C.hasL c hc
  simp only [clsL, List.mem_cons, List.not_mem_nil, or_false] at hm
  rcases hm with rfl | rfl
  · rw [rs_HashFunction_fan_outs] at hr; cases hr
  · rw [rs_Family_fan_outs] at hr; cases hr; obtain ⟨p, g, fd, hp, F⟩ := C.p_Family_fan_outs; exact ⟨p, g, fd, A_Family_fan_outs, hp, h_Family g fd F, F.bindsN bp_Family_fan_outs⟩
theorem ds_all (D0 : DefAt W.K mg "is_integer" "is_integer" s_is_integer [] []) (D1 : DefAt W.K mg "_law_draws" "_law_draws" s_law_draws [] []) (D2 : DefAt W.K mg "_law_specs" "_law_specs" s_law_specs [] []) (D3 : DefAt W.K mg "_law_is_wrong" "_law_is_wrong" s_law_is_wrong [] []) (D4 : DefAt W.K mg "_law_spoilt" "_law_spoilt" s_law_spoilt [] []) (D5 : DefAt W.K mg "_law_part" "_law_part" s_law_part [] []) (D6 : DefAt W.K mg "_law_path" "_law_path" s_law_path [] []) (D7 : DefAt W.K mg "_law_told" "_law_told" s_law_told [] []) (D8 : DefAt W.K mg "_law_same" "_law_same" s_law_same [] []) (C : Cs W mg) (B : Blt mg) : ∀ n, Ds W mg base (semT (tbl W) n) (4 * n)
  | 0 => ⟨it_all C B,
    fun b _ => df_no D0 bp_is_integer spR_no,
    fun b _ => df_no D1 bp_law_draws spR_no,
    fun b _ => df_no D2 bp_law_specs spR_no,
    fun b _ => df_no D3 bp_law_is_wrong spR_no,
    fun b _ => df_no D4 bp_law_spoilt spR_no,
    fun b _ => df_no D5 bp_law_part spR_no,
    fun b _ => df_no D6 bp_law_path spR_no,
    fun b _ => df_no D7 bp_law_told spR_no,
    fun b _ => df_no D8 bp_law_same spR_no,
    fun b _ => mt___call__ C (md_no C.a_HashFunction___call__ bp_HashFunction___call__ rfl spR_no),
    fun b _ => mt___len__ C (md_no C.a_Family___len__ bp_Family___len__ rfl spR_no),
    fun b _ => mt_part_at C (md_no C.a_Family_part_at bp_Family_part_at rfl spR_no),
    fun b _ => mt_part_of C (md_no C.a_HashFunction_part_of bp_HashFunction_part_of rfl spR_no),
    fun b _ => mt_path_of C (md_no C.a_Family_path_of bp_Family_path_of rfl spR_no),
    pp_fan_outs C (fun g fd _ => fn_no spR_no),
    (let ⟨_, M⟩ := C.k_HashFunction; mkD_no M C.g_HashFunction C.a_HashFunction___init__ spR_no),
    (let ⟨_, M⟩ := C.k_Family; mk_of M (md_no C.a_Family___init__ bp_Family___init__ rfl spR_no) C.g_Family)⟩
  | n + 1 => ⟨it_all C B,
    ok_is_integer (ds_all D0 D1 D2 D3 D4 D5 D6 D7 D8 C B n) C D0 B,
    ok_law_draws (ds_all D0 D1 D2 D3 D4 D5 D6 D7 D8 C B n) C D1 B,
    ok_law_specs (ds_all D0 D1 D2 D3 D4 D5 D6 D7 D8 C B n) C D2 B,
    ok_law_is_wrong (ds_all D0 D1 D2 D3 D4 D5 D6 D7 D8 C B n) C D3 B,
    ok_law_spoilt (ds_all D0 D1 D2 D3 D4 D5 D6 D7 D8 C B n) C D4 B,
    ok_law_part (ds_all D0 D1 D2 D3 D4 D5 D6 D7 D8 C B n) C D5 B,
    ok_law_path (ds_all D0 D1 D2 D3 D4 D5 D6 D7 D8 C B n) C D6 B,
    ok_law_told (ds_all D0 D1 D2 D3 D4 D5 D6 D7 D8 C B n) C D7 B,
    ok_law_same (ds_all D0 D1 D2 D3 D4 D5 D6 D7 D8 C B n) C D8 B,
    fun b hb => mt___call__ C (ok_HashFunction___call__ (ds_all D0 D1 D2 D3 D4 D5 D6 D7 D8 C B n) C C.a_HashFunction___call__ B b hb),
    fun b hb => mt___len__ C (ok_Family___len__ (ds_all D0 D1 D2 D3 D4 D5 D6 D7 D8 C B n) C C.a_Family___len__ B b hb),
    fun b hb => mt_part_at C (ok_Family_part_at (ds_all D0 D1 D2 D3 D4 D5 D6 D7 D8 C B n) C C.a_Family_part_at B b hb),
    fun b hb => mt_part_of C (ok_HashFunction_part_of (ds_all D0 D1 D2 D3 D4 D5 D6 D7 D8 C B n) C C.a_HashFunction_part_of B b hb),
    fun b hb => mt_path_of C (ok_Family_path_of (ds_all D0 D1 D2 D3 D4 D5 D6 D7 D8 C B n) C C.a_Family_path_of B b hb),
    pp_fan_outs C (fun g fd F => ok_Family_fan_outs (ds_all D0 D1 D2 D3 D4 D5 D6 D7 D8 C B n) C F B),
    (let ⟨_, M⟩ := C.k_HashFunction; ok_HashFunction___init__ (ds_all D0 D1 D2 D3 D4 D5 D6 D7 D8 C B n) C M C.g_HashFunction C.a_HashFunction___init__ B),
    (let ⟨_, M⟩ := C.k_Family; mk_of M (ok_Family___init__ (ds_all D0 D1 D2 D3 D4 D5 D6 D7 D8 C B n) C C.a_Family___init__ B (some 0) (fun i h => by cases h; decide)) C.g_Family)⟩
end
end Py
namespace Py
open PySem L2
open Enc (enc)
local macro_rules | `(tactic| simp? only [$xs,*]) => `(tactic| try simp (maxSteps := 1000000) (disch := first | omega | decide) only [e_xsSeq, e_xsNext, e_xsAsg, e_xsExpr, e_xsRet, e_xsIf, e_xsFrz, e_xmP, e_xVar_V, e_xtV, e_xtTru, e_xtAnd, e_xtOr, e_xtNot, e_xtYes, e_xVar, e_xInt, e_xBl, e_xNon, e_xStr, e_xSub, e_xMul, e_xDiv, e_xMod, e_xPow, e_xNeg, e_xAdd, e_xEq, e_xNe, e_xLt, e_xGt, e_xGe, e_xIsN, e_xAnd, e_xOr, e_xNot, e_xTup, e_xLst, e_xInt1, e_xAbs, e_xIx, e_xFld, e_xList, e_xTuple, e_xIsi, e_xCall, e_xLc, e_xmVar, e_xmMove, e_xmAppend, e_xoNil, e_xoCons, e_plVar, r_plVar, e_xaNilV, e_xaNilF, e_xaConsV, e_xaConsF, e_xgN, e_xgT, o_xgN, o_xgT, e_xiSeqF, e_xiSeqP, e_xiR1F, e_xiR1P, e_xiR2F, e_xiR2P, e_xsFor, e_evV, e_evK, e_evF, e_evO, e_evB, h_getS0, h_getS0n, h_getSs, h_toV, h_toVn, h_toKf, h_toKp, h_toKv, h_toKn, h_toFf, h_toFp, h_toFv, h_toFn, h_toOf, h_toOp, h_toOv, h_toOn, h_of_f, h_of_p, h_of_v, h_then_nx, h_then_rt, h_then_bk, h_then_ct, h_then_ex, h_then_no, h_thenS_ok, h_thenS_exn, h_thenS_no, h_ofO, h_ofOn, h_of, h_ofn, h_mofO, h_mofOn, h_iteF1, h_iteF0, h_iteFn, h_asgK, h_forK, h_andF1, h_andF0, h_orF1, h_orF0, h_blD, h_turn, h_turnn, h_forE, h_forEn, h_callF, h_callV, h_rzF, h_rzV, h_fz_non, h_sh_non, h_fl_non, h_isN_non, h_fz_bl, h_sh_bl, h_fl_bl, h_fz_int, h_sh_int, h_fl_int, h_isN_int, h_fz_str, h_sh_str, h_fl_str, h_isN_str, h_fz_cls, h_sh_cls, h_fl_cls, h_isN_cls, h_fz_sei, h_sh_sei, h_fl_sei, h_isN_sei, h_fz_scr, h_sh_scr, h_fl_scr, h_isN_scr, h_fz_tup, h_sh_tup, h_fl_tup, h_isN_tup, h_fz_lst, h_sh_lst, h_fl_lst, h_isN_lst, h_fz_dic, h_sh_dic, h_fl_dic, h_isN_dic, h_fz_dit, h_sh_dit, h_fl_dit, h_isN_dit, h_fz_dig, h_sh_dig, h_fl_dig, h_isN_dig, h_fz_ins, h_sh_ins, h_fl_ins, h_isN_ins, h_isN_bl, h_fz_olst, h_sh_olst, h_fl_olst, h_fz_odic, h_sh_odic, h_fl_odic, h_fz_odit, h_sh_odit, h_fl_odit, h_fz_odig, h_sh_odig, h_fl_odig, h_fz_oins, h_sh_oins, h_fl_oins, h_fzs_nil, h_fzs_cons, h_fzs_app, h_tru_bl, h_tru_non, h_tru_int, h_tru_lst, h_tru_tup, h_sub, h_neg, h_addI, h_addT, h_addL, h_addLo, h_addoL, h_addoo, h_eqD, h_neD, h_ok_non, h_ok_bl, h_ok_int, h_ok_str, h_ok_tup, h_ok_lst, h_oks_nil, h_oks_cons, h_eqB_ii, h_eqB_ss, h_eqB_bb, h_eqB_nn, h_eqB_ni, h_eqB_in, h_eqB_nt, h_eqB_tn, h_eqB_tt, h_eqB_ll, h_eqBs_nn, h_eqBs_cc, h_eqBs_nc, h_eqBs_cn, h_cmp, h_ltI, h_ltT, h_ints_nil, h_ints_cons, h_intI, h_intB, h_abs, h_lenL, h_lenT, h_lenS, h_ix, h_it_lst, h_it_olst, h_it_tup, h_it_scr, h_at0, h_at1, h_at2, h_at3, h_at4, h_at5, h_at6, h_at7, h_at8, h_at9, h_at10, h_at11, h_at12, h_atm1, h_seq_lst, h_seq_tup, h_seq_olst, h_seq_scr, h_sF_lst, h_sF_tup, h_sF_scr, h_ty_non, h_ty_bl, h_ty_int, h_ty_str, h_ty_lst, h_ty_tup, h_ty_ins, h_isi_bb, h_isi_bo, h_isi_ob, h_isi_oo, h_isiB_NoneType_bool, h_isiB_NoneType_int, h_isiB_NoneType_str, h_isiB_NoneType_list, h_isiB_NoneType_tuple, h_isiB_NoneType_dict, h_isiB_bool_bool, h_isiB_bool_int, h_isiB_bool_str, h_isiB_bool_list, h_isiB_bool_tuple, h_isiB_bool_dict, h_isiB_int_bool, h_isiB_int_int, h_isiB_int_str, h_isiB_int_list, h_isiB_int_tuple, h_isiB_int_dict, h_isiB_str_bool, h_isiB_str_int, h_isiB_str_str, h_isiB_str_list, h_isiB_str_tuple, h_isiB_str_dict, h_isiB_list_bool, h_isiB_list_int, h_isiB_list_str, h_isiB_list_list, h_isiB_list_tuple, h_isiB_list_dict, h_isiB_tuple_bool, h_isiB_tuple_int, h_isiB_tuple_str, h_isiB_tuple_list, h_isiB_tuple_tuple, h_isiB_tuple_dict, h_isiB_dict_bool, h_isiB_dict_int, h_isiB_dict_str, h_isiB_dict_list, h_isiB_dict_tuple, h_isiB_dict_dict, h_append, h_put0, h_rng1, h_rng2, h_guard1, h_guard0, h_forLn, h_forLc, h_forT_nx, h_forT_ct, h_forT_bk, h_forT_rt, h_forT_ex, h_lc1, h_lcK, h_lcJ1, h_lcJ0, h_wipe0, h_wipes, h_frz, h_frzO, h_frzOn, h_runR_rt, h_runR_nx, h_retZ, h_bGetn, h_bGets, h_setS, h_fldI, h_fldO, h_iteFd1, h_iteFd0, h_iteFe1, h_iteFe0, h_andFd1, h_andFd0, h_andFe1, h_andFe0, h_orFd1, h_orFd0, h_orFe1, h_orFe0, h_lcJd1, h_lcJd0, h_lcJe1, h_lcJe0, h_callO1, h_meth1, h_meth2, h_resE, h_resEn, h_posn, h_posc, h_eMmeth, h_methM1, h_methM0, h_rm0o, h_rm0x, h_rm0n, h_rm1o, h_rm1x, h_putc, h_putE, h_subF, h_subI, h_putF, h_putI, h_setOs, h_eSfld, h_fldK, h_setFD, h_setFn, h_setFc, h_eMake, h_makeF, h_makeV, h_mk1, h_mkR, h_eProp, h_propF, h_propV, h_prop1, h_eLenU, h_lenI_lst, h_lenI_tup, h_lenI_scr, h_lenI_ins, h_lenQ, h_lenR, h_eSl, h_slE, h_evI0, h_evI1, h_intO, h_eMs0, h_eMs1, h_RMthenL_ok, h_RLthenL_ok, h_RLthenM_ok, h_RMthenM_ok, h_RTthen_ok, h_RTthenS_ok, h_RMthenL_exn, h_RLthenL_exn, h_RLthenM_exn, h_RMthenM_exn, h_RTthen_exn, h_RTthenS_exn, h_consK, h_consL, h_RTof, h_eListU, h_lstE_lst, h_lstE_tup, h_lstE_scr, h_lstE_olst, h_lstE_ins, h_itQ, h_it_ins, h_lo_lst, h_lo_olst, h_eiSeqUF, h_eiSeqUP, h_seqFI_lst, h_seqFI_tup, h_seqFI_scr, h_seqFI_ins, h_seqKI_lst, h_seqKI_tup, h_seqKI_scr, h_seqKI_ins, h_seqKI_olst, h_ixD_ins, h_okD_ins, h_eqD_ins, h_addD_ins, h_addD_oins, h_ownE, h_okSame, h_eMakeN, h_makeNE_F, h_makeNE_V, h_makeNE_W, h_mkN, h_mgM_t, h_mgM_f, h_mgM_n, h_eDnew, h_eDget2, h_getE_non, h_getE_int, h_getE_str, h_getM_s, h_getM_n, h_eDix, h_dgE_int, h_dgE_str, h_inK_non, h_inK_int, h_inK_str, h_eDict, h_dicOf_d, h_dicOf_o, h_dicF_d, h_dicF_o, h_eDput, h_dputK, h_dputI, h_dputS, h_eForD, h_itemD0, h_itemD1, h_lockR, h_noEx_nx, h_noEx_rt, h_isDic, h_dsK, h_eDc, h_eDcD, h_frE_s, h_frE_n, h_guardB_t, h_dc1, h_dcK, h_dcJ1, h_dcJ0, h_keyD_i, h_keyD_s, h_kDs_n, h_kDs_c, h_dcL_n, h_putP_n, h_eRaise, h_exOf, h_exOfn, h_eTryAs, h_tryK_nx, h_tryK_rt, h_tryK_bk, h_tryK_ct, h_tryK_no, h_tryK_ex, h_tryJ1, h_tryJ0, h_clr_nx, h_clr_rt, h_clr_bk, h_clr_ct, h_clr_no, h_ehAsg, h_hAsgK, h_hAsgKn, h_qevO, h_qevB, h_qevF, h_toQf, h_toQp, h_toQv, h_toQn, h_eqP, h_eqFld, h_eqLst, h_eqs0, h_eqs1, h_eCallOM, h_callOMs, h_runR_ex, h_retX, h_thenY1, h_thenY2, h_thenY3, h_look1, h_look2, h_div, h_mod, h_mulL, h_mulR, h_rngOk, List.zip_cons_cons, List.zip_nil_left, if_pos, if_neg, List.getElem?_cons_zero, List.getElem?_cons_succ, List.getElem?_nil, List.getLast?_append, List.getLast?_singleton, List.getLast?_cons_cons, runFn, env0, Option.toList, List.map_cons, List.map_nil, List.length_cons, List.length_nil, List.length_append, List.length_map, List.length_set, List.replicate, List.cons_append, List.nil_append, List.append_nil, Nat.reduceSub, Nat.reduceAdd, Nat.reduceLT, Nat.reduceLeDiff, Nat.reduceEqDiff, Nat.zero_add, Nat.add_zero, List.set_cons_zero, List.set_cons_succ, List.set_nil, Option.bind_some, Option.bind_none, Option.map_some, Option.map_none, List.foldl_cons, List.foldl_nil, not_false_eq_true, not_true_eq_false, and_true, true_and, and_self, and_false, false_and, if_true, if_false, ite_true, ite_false, reduceIte, List.not_mem_nil, reduceCtorEq, List.mem_cons, or_false, false_or, or_self, ne_eq, Bool.not_true, Bool.not_false, Bool.and_true, Bool.and_false, Bool.true_and, Bool.false_and, Bool.or_true, Bool.or_false, Bool.true_or, Bool.false_or, Bool.and_self, Bool.or_self, List.all_cons, List.all_nil, decide_true, decide_false, decide_not, decide_eq_true_eq, decide_eq_false_iff_not, Bool.not_not, Int.reduceLT, Int.reduceLE, Int.reduceEq, Int.reduceNe, Int.reduceAdd, Int.reduceMul, Int.reduceSub, Int.reduceNeg, List.isEmpty_cons, List.isEmpty_nil, Bool.false_eq_true, Bool.true_eq_false, String.reduceEq, Function.comp_apply, Option.isNone_none, Option.some_or, Option.isNone_some, List.getLast?_concat, List.dropLast_concat, List.all_append, $xs,*])
local macro_rules | `(tactic| dsimp? only [$xs,*]) => `(tactic| simp? only [xs_JoinError_JoinError, xs_JoinError_BadFunction, xs_JoinError_BadPart, xs_JoinError_TooMany, xs_BadFunction_JoinError, xs_BadFunction_BadFunction, xs_BadFunction_BadPart, xs_BadFunction_TooMany, xs_BadPart_JoinError, xs_BadPart_BadFunction, xs_BadPart_BadPart, xs_BadPart_TooMany, xs_TooMany_JoinError, xs_TooMany_BadFunction, xs_TooMany_BadPart, xs_TooMany_TooMany, ik_HashFunction, fk_HashFunction_fan_out, fk_HashFunction_other, fk_HashFunction__parts, rs_HashFunction___call__, rs_HashFunction___len__, rs_HashFunction_part_at, rs_HashFunction_part_of, rs_HashFunction_path_of, rs_HashFunction_fan_outs, sb_HashFunction_HashFunction, sb_HashFunction_Family, ik_Family, fk_Family__functions, rs_Family___call__, rs_Family___len__, rs_Family_part_at, rs_Family_part_of, rs_Family_path_of, rs_Family_fan_outs, sb_Family_HashFunction, sb_Family_Family, $xs,*])
local macro_rules | `(tactic| walk_at "ev") => `(tactic| simp? only [])
section
variable {W : Wd TT}
local macro_rules | `(tactic| walk_at "evl") => `(tactic| dsimp? only [fzv_V, shv_V, sh_eV, fz_eV, sh_xS, fz_xS, shl_xS, fzl_xS, sh_sX, fz_sX, shl_sX, fzl_sX, e_xmEl, h_elMo, h_elMx, e_xeTup, h_tupZx, h_tupZo, e_xeLst1, h_lst1Zo, h_lst1Zx, e_xeMeth, h_elMe, e_xeLcX, h_lcE, srt_int, sh_sD, fz_sD, shl_sD, fzl_sD, it_t3, sF_t3, sFI_t3, ty_t3, len_t3, lenI_t3, fl_t3, xg_t3, enumD_enc, fzv_tab, shv_tab, rangeD_length, shl_mS, fzl_mS, vE_length, kI_length, it_pair, sF_pair, so_pair, ty_pair, len_pair, lenI_pair, fl_pair, xg_pair, enc_int, enc_bool, isN_opt, sh_enc, fz_enc, shl_enc, fzl_enc, fl_enc, ok_enc, okl_enc, eq_enc, eql_enc, en_enc, ne_enc, nn_enc, decide_true])
theorem law_true (W : Wd TT) (ns : List Int) (hns : ns.length <= 63) : runFn 11 (b_law W (semT (tbl W) 8)) [.scr ns] none = .ok (.bl true) none := by
  unfold b_law
  walk_at "evl"
  rw [f_law_draws 7 (by decide) (by decide) (by decide)]
  have hl := draws_length ns 0 11
  have ho := draws_ok ns 0 11
  generalize hds : draws ns 0 11 = ds at *
  have hd : ds.length = 11 := hl
  have h0 : ∀ d ∈ ds, 0 <= d := fun d hd => (ho d hd).1
  obtain ⟨d0, _, p0, a0, b0⟩ := sum_at (T := 0) hd h0 0 (by omega) rfl
  obtain ⟨d1, _, p1, a1, b1⟩ := sum_at (T := 1) hd h0 1 (by omega) rfl
  have hpw : powD (.int 10) (.int 15) = some (.int 1000000000000000) := rfl
  have n1 : ([-4, 0, 1, 6, 1000000000000000] : List Int).Nodup := by decide
  obtain ⟨n, hn⟩ : ∃ n : Nat, 1 + d0 % 4 = (n : Int) := ⟨(1 + d0 % 4).toNat, by omega⟩
  obtain ⟨m, hm⟩ : ∃ n : Nat, d1 % 4 = (n : Int) := ⟨(d1 % 4).toNat, by omega⟩
  obtain ⟨hx, s1, cs⟩ := f_law_specs (W := W) 6 (ns := ns) (keys := [-4, 0, 1, 6, 1000000000000000]) (i := 1) (wd := 9) (n := n) (by decide) (by omega) n1 (by decide) (by decide) (by decide)
  have cs : semT (tbl W) 8 "_law_specs" [.scr ns, .int 1, .int (n : Int), .lst [.int (-4), .int 0, .int 1, .int 6, .int 1000000000000000], .int 9] none = .ok (.olst (hx.map sD)) none := cs
  have sx := sm_emb s1 (by omega) (m := 5) (by decide) (by decide)
  have lx : (hx.map emb).length ≠ 0 := by rw [List.length_map, s1.len]; omega
  walk_at "evl"
  rw [hpw]
  walk_at "evl"
  (first | rw [a0] | rw [b0])
  walk_at "evl"
  rw [hn, cs]
  walk_at "evl"
  rw [fzl_emb hx]
  (first | rw [a1] | rw [b1])
  walk_at "evl"
  rw [hm]
  walk_at "evl"
  try rw [Int.toNat_natCast]
  generalize hx.map emb = gx at *
  generalize hF : forL _ _ _ = rz
  obtain ⟨e', rfl, hi, ha, dA, p4, p5, sa, hne, eA, rfl⟩ := forL_range (fun j e => j <= m /\ ∃ (ha : List HX) (dA : D) (p4 p5 : Option D), SmX ha (5 + j) /\ ha.length ≠ 0 /\ fz dA = .lst (ha.map sX) /\ e = [some (.scr ns), some (.olst (ds.map .int)), some (.lst [.int (-4), .int 0, .int 1, .int 6, .int 1000000000000000]), some dA, p4, p5, none, none, none, none, none]) hF ⟨Nat.zero_le _, gx, .olst (gx.map sX), none, none, sx, lx, by walk_at "evl", rfl⟩ (by
    rintro j _ hj ⟨_, ha, dA, p4, p5, sa, hne, eA, rfl⟩
    obtain ⟨ha', dA', q5, sa', hne', eA', ht⟩ := l1_turn (W := W) 7 hd h0 j (by omega) sa hne dA eA (some (.scr ns)) (some (.lst [.int (-4), .int 0, .int 1, .int 6, .int 1000000000000000])) p4 p5 none none none none none _ rfl
    exact ⟨_, .inl ht, hj, ha', dA', _, _, sa', hne', eA', rfl⟩)
  have oka : OkFX ha := ⟨sa.len, fun h m => (sa.ok h m).1, fun h m' => by have := (sa.ok h m').2; omega⟩
  have la := oka.len
  walk_at "evl"
  (try rw [eA])
  (try walk_at "evl")
  generalize hG : forL _ _ _ = rz2
  obtain ⟨e2, rfl, p7, rfl⟩ := forL_enc (fun (ys : List HX) e => ∃ p7, e = [some (.scr ns), some (.olst (ds.map .int)), some (.lst [.int (-4), .int 0, .int 1, .int 6, .int 1000000000000000]), some (.lst (ha.map sX)), p4, p5, some (.olst (ys.map xO)), p7, none, none, none]) hG ⟨none, rfl⟩ (by
    rintro ys t zs _ hx2 ⟨p7, rfl⟩
    have hp := pre_le hx2
    have oh := oka.ok t (by rw [hx2]; simp)
    have hi := x_hash_init (W := W) 6 t oh
    rw [List.map_append]
    refine ⟨[some (.scr ns), some (.olst (ds.map .int)), some (.lst [.int (-4), .int 0, .int 1, .int 6, .int 1000000000000000]), some (.lst (ha.map sX)), p4, p5, some (.olst (ys.map xO ++ [xO t])), some (sX t), none, none, none], .inl ?_, _, rfl⟩
    unfold l2_law sX
    walk_at "evl"
    rw [hi]
    walk_at "evl"
    try rfl)
  have fi := x_family_init (W := W) 7 ha la
  walk_at "evl"
  (try rw [fzl_xO])
  (try walk_at "evl")
  rw [fi]
  walk_at "evl"
  have hlp : ∀ (o5 o9 o10 : Option D), ∃ q5 q9 q10, forL (forK (xgN W 9) (l3_law W (semT (tbl W) 8)) []) (rangeD 0 2) [some (.scr ns), some (.olst (ds.map .int)), some (.lst [.int (-4), .int 0, .int 1, .int 6, .int 1000000000000000]), some (.lst (ha.map sX)), p4, o5, some (.lst (ha.map xS)), p7, some (FX ha), o9, o10] = .nx [some (.scr ns), some (.olst (ds.map .int)), some (.lst [.int (-4), .int 0, .int 1, .int 6, .int 1000000000000000]), some (.lst (ha.map sX)), p4, q5, some (.lst (ha.map xS)), p7, some (FX ha), q9, q10] := by
    intro o5 o9 o10
    generalize hF : forL _ _ _ = rz
    obtain ⟨e', rfl, q5, q9, q10, rfl⟩ := forL_range (fun j e => ∃ q5 q9 q10, e = [some (.scr ns), some (.olst (ds.map .int)), some (.lst [.int (-4), .int 0, .int 1, .int 6, .int 1000000000000000]), some (.lst (ha.map sX)), p4, q5, some (.lst (ha.map xS)), p7, some (FX ha), q9, q10]) hF ⟨o5, o9, o10, rfl⟩ (by
      rintro j _ _ ⟨q5, q9, q10, rfl⟩
      obtain ⟨r5, r10, ht⟩ := l3_turn (W := W) 2 oka j (some (.scr ns)) (some (.olst (ds.map .int))) p4 (some (.lst (ha.map xS))) p7 q5 q9 q10 _ rfl
      exact ⟨_, .inl ht, _, _, _, rfl⟩)
    exact ⟨q5, q9, q10, rfl⟩
  obtain ⟨q5, q9, q10, hl3⟩ := hlp p5 none none
  have fo := x_fan_outs (W := W) 7 ha (by omega)
  unfold FX at *
  (try rw [show rangeD 0 (Int.toNat 2) = rangeD 0 2 from rfl])
  rw [hl3]
  walk_at "evl"
  rw [fo]
  walk_at "evl"
  have hal : (ha.map sX).length < 1000000 := by rw [List.length_map]; omega
  (try rw [if_pos hal])
  rw [lcL_mapE (enc := sX) (enc2 := (enc : Int -> D)) (fun h : HX => h.1) ha (fun h _ => by
    unfold sX
    walk_at "evl"
    try rfl)]
  walk_at "evl"
  done
end
end Py
namespace Py
open PySem L2
def dd_is_integer : DefX := ⟨fun K => ga K "is_integer", "is_integer", "is_integer", s_is_integer, [], [], false⟩
def dd_law_draws : DefX := ⟨fun K => ga K "_law_draws", "_law_draws", "_law_draws", s_law_draws, [], [], false⟩
def dd_law_specs : DefX := ⟨fun K => ga K "_law_specs", "_law_specs", "_law_specs", s_law_specs, [], [], false⟩
def dd_law_is_wrong : DefX := ⟨fun K => ga K "_law_is_wrong", "_law_is_wrong", "_law_is_wrong", s_law_is_wrong, [], [], false⟩
def dd_law_spoilt : DefX := ⟨fun K => ga K "_law_spoilt", "_law_spoilt", "_law_spoilt", s_law_spoilt, [], [], false⟩
def dd_law_part : DefX := ⟨fun K => ga K "_law_part", "_law_part", "_law_part", s_law_part, [], [], false⟩
def dd_law_path : DefX := ⟨fun K => ga K "_law_path", "_law_path", "_law_path", s_law_path, [], [], false⟩
def dd_law_told : DefX := ⟨fun K => ga K "_law_told", "_law_told", "_law_told", s_law_told, [], [], false⟩
def dd_law_same : DefX := ⟨fun K => ga K "_law_same", "_law_same", "_law_same", s_law_same, [], [], false⟩
def dd_law : DefX := ⟨fun K => ga K "law", "law", "law", s_law, [], [], false⟩
def de_HashFunction___init__ : DefX := ⟨fun K => ma K "HashFunction" "__init__", "__init__", "HashFunction.__init__", s_HashFunction___init__, [], [("other", .int 0)], false⟩
def de_HashFunction___call__ : DefX := ⟨fun K => ma K "HashFunction" "__call__", "__call__", "HashFunction.__call__", s_HashFunction___call__, [], [], false⟩
def de_HashFunction_part_of : DefX := ⟨fun K => ma K "HashFunction" "part_of", "part_of", "HashFunction.part_of", s_HashFunction_part_of, [], [], false⟩
def de_Family___init__ : DefX := ⟨fun K => ma K "Family" "__init__", "__init__", "Family.__init__", s_Family___init__, [], [], false⟩
def de_Family___len__ : DefX := ⟨fun K => ma K "Family" "__len__", "__len__", "Family.__len__", s_Family___len__, [], [], false⟩
def de_Family___iter__ : DefX := ⟨fun K => ma K "Family" "__iter__", "__iter__", "Family.__iter__", s_Family___iter__, [], [], false⟩
def de_Family_fan_outs : DefX := ⟨fun K => pa K "Family" "fan_outs", "fan_outs", "Family.fan_outs", s_Family_fan_outs, [], [], false⟩
def de_Family_part_at : DefX := ⟨fun K => ma K "Family" "part_at", "part_at", "Family.part_at", s_Family_part_at, [], [], false⟩
def de_Family_path_of : DefX := ⟨fun K => ma K "Family" "path_of", "path_of", "Family.path_of", s_Family_path_of, [], [], false⟩
abbrev s_BadFunction___init__ : Stmt := inClass (top 3) 0
def dx_BadFunction : DefX := ⟨fun K => ma K "BadFunction" "__init__", "__init__", "BadFunction.__init__", s_BadFunction___init__, [], [], true⟩
theorem exd_BadFunction {P : Program} {K : PySem.W.Frag} {mg : Str -> Option Value} (T : PySem.PxE.ExTxt P K (ga K "BadFunction") (ma K "BadFunction" "__init__") (so "BadFunction.__init__") (defArgs s_BadFunction___init__) (defBody s_BadFunction___init__) (defScope s_BadFunction___init__) (["field"].map so)) (top : (P.main.scope.names.lookup ("super" : Str)).isSome = false) (gC : mg "BadFunction" = some (.ref (ga K "BadFunction"))) (gs : mg "super" = none) (kC : PySem.W.keepIn K (.ref (ga K "BadFunction")) = true) : ExcD P K mg "BadFunction" (ga K "BadFunction") (["field"].map so) :=
  ⟨⟨_, _, _, _, _, T, ⟨_, _, _, rfl, ⟨_, _, _, _, _, _, _, rfl, fun _ _ _ _ => ⟨_, rfl⟩⟩, .cons (.nil)⟩, ⟨_, rfl, rfl⟩, by decide +kernel, rfl, rfl, by decide +kernel, rfl, rfl, rfl, fun us hl x doc pm an cdv ct cc => match us, hl with | [_], _ => rfl⟩, ⟨by simp, by decide +kernel, by decide, by decide +kernel⟩, top, gC, gs, kC⟩
abbrev s_BadPart___init__ : Stmt := inClass (top 4) 0
def dx_BadPart : DefX := ⟨fun K => ma K "BadPart" "__init__", "__init__", "BadPart.__init__", s_BadPart___init__, [], [], true⟩
theorem exd_BadPart {P : Program} {K : PySem.W.Frag} {mg : Str -> Option Value} (T : PySem.PxE.ExTxt P K (ga K "BadPart") (ma K "BadPart" "__init__") (so "BadPart.__init__") (defArgs s_BadPart___init__) (defBody s_BadPart___init__) (defScope s_BadPart___init__) (["key", "part"].map so)) (top : (P.main.scope.names.lookup ("super" : Str)).isSome = false) (gC : mg "BadPart" = some (.ref (ga K "BadPart"))) (gs : mg "super" = none) (kC : PySem.W.keepIn K (.ref (ga K "BadPart")) = true) : ExcD P K mg "BadPart" (ga K "BadPart") (["key", "part"].map so) :=
  ⟨⟨_, _, _, _, _, T, ⟨_, _, _, rfl, ⟨_, _, _, _, _, _, _, rfl, fun _ _ _ _ => ⟨_, rfl⟩⟩, .cons (.cons (.nil))⟩, ⟨_, rfl, rfl⟩, by decide +kernel, rfl, rfl, by decide +kernel, rfl, rfl, rfl, fun us hl x doc pm an cdv ct cc => match us, hl with | [_, _], _ => rfl⟩, ⟨by simp, by decide +kernel, by decide, by decide +kernel⟩, top, gC, gs, kC⟩
abbrev s_TooMany___init__ : Stmt := inClass (top 5) 0
def dx_TooMany : DefX := ⟨fun K => ma K "TooMany" "__init__", "__init__", "TooMany.__init__", s_TooMany___init__, [], [], true⟩
theorem exd_TooMany {P : Program} {K : PySem.W.Frag} {mg : Str -> Option Value} (T : PySem.PxE.ExTxt P K (ga K "TooMany") (ma K "TooMany" "__init__") (so "TooMany.__init__") (defArgs s_TooMany___init__) (defBody s_TooMany___init__) (defScope s_TooMany___init__) (["count"].map so)) (top : (P.main.scope.names.lookup ("super" : Str)).isSome = false) (gC : mg "TooMany" = some (.ref (ga K "TooMany"))) (gs : mg "super" = none) (kC : PySem.W.keepIn K (.ref (ga K "TooMany")) = true) : ExcD P K mg "TooMany" (ga K "TooMany") (["count"].map so) :=
  ⟨⟨_, _, _, _, _, T, ⟨_, _, _, rfl, ⟨_, _, _, _, _, _, _, rfl, fun _ _ _ _ => ⟨_, rfl⟩⟩, .cons (.nil)⟩, ⟨_, rfl, rfl⟩, by decide +kernel, rfl, rfl, by decide +kernel, rfl, rfl, rfl, fun us hl x doc pm an cdv ct cc => match us, hl with | [_], _ => rfl⟩, ⟨by simp, by decide +kernel, by decide, by decide +kernel⟩, top, gC, gs, kC⟩
def fnL : List DefX := [dd_is_integer, dd_law_draws, dd_law_specs, dd_law_is_wrong, dd_law_spoilt, dd_law_part, dd_law_path, dd_law_told, dd_law_same, dd_law, de_HashFunction___init__, de_HashFunction___call__, de_HashFunction_part_of, de_Family___init__, de_Family___len__, de_Family___iter__, de_Family_fan_outs, de_Family_part_at, de_Family_path_of, dx_BadFunction, dx_BadPart, dx_TooMany]
def fileL : Str := PySem.Challenge.pw_anyhashes_k81_paths_with_wrong_parts.main.file
def faL : List FB := [fGlo "is_integer", fGlo "_law_draws", fGlo "_law_specs", fGlo "_law_is_wrong", fGlo "_law_spoilt", fGlo "_law_part", fGlo "_law_path", fGlo "_law_told", fGlo "_law_same", fGlo "law", fFree "len", fFree "range", fFree "abs", fFree "int", fFree "bool", fFree "str", fFree "list", fFree "tuple", fFree "isinstance", fFree "sorted", fFree "enumerate", fFree "zip", fFree "sum", fFree "any", fFree "all", fFree "max", fFree "min", fFree "dict", fFree "set", fFree "type", fFree "iter", fFree "super", fCls clsL, fNoat clsL fldL, fIsT clsL, fTO clsL, fOT clsL, fOO clsL subT, fDun clsL, fXm xL xsubT, fXv xL, fXc xL, fFree "ValueError", fGlo "JoinError", fGlo "BadFunction", fExc "BadFunction" "BadFunction.__init__" ["field"] fileL, fGlo "BadPart", fExc "BadPart" "BadPart.__init__" ["key", "part"] fileL, fGlo "TooMany", fExc "TooMany" "TooMany.__init__" ["count"] fileL, fGlo "HashFunction", fMeth "HashFunction" "__init__", fMeth "HashFunction" "__call__", fMeth "HashFunction" "part_of", fMkr "HashFunction", fGlo "Family", fMeth "Family" "__init__", fMeth "Family" "__len__", fMeth "Family" "__iter__", fPr "Family" "fan_outs", fMeth "Family" "part_at", fMeth "Family" "path_of", fMkr "Family", fInt "WIDEST" 64, fInt "MOST_LEVELS" 4]
def nmL : List Str := (["_wall", "JoinError", "BadFunction", "BadPart", "TooMany", "is_integer", "WIDEST", "HashFunction", "MOST_LEVELS", "Family", "side_by_side", "_law_draws", "_law_specs", "_law_is_wrong", "_law_spoilt", "_law_part", "_law_path", "_law_told", "_law_same"] : List Str)
abbrev lawAt : Nat := 24
theorem fldL_ok (c f : String) (_ : c ∈ clsL) (h : TT.fOk c f = true) : f ∈ fldL c := List.contains_iff_mem.mp h
theorem factsL {P : Program} {w : World} {K : PySem.W.Frag} {h : Heap} {mg : Str -> Option Value} {f : Addr} (X : K.In h) (G : h.Ns mainGlobals mg) (hfa : mg ("law" : Str) = some (.ref f)) (c : SaysX faL fnL K) (hPf : ((P.main.file : Str) == fileL) = true) (hPs : (P.main.scope.names.lookup ("super" : Str)).isSome = false) :
    ∃ fd : FuncData, (∀ (s : Shared) (v : Value), BindsTo s fd ⟨[v], []⟩ [("_law_script", v)]) /\ ∀ base : Heap, K.In base -> base.Ns mainGlobals mg -> FnOk P w K mg base CX0 36 f fd A_law (spL K) := by
  let W : Wd TT := fLaw TT P w K clsL fldL fldL_ok subT (fun _ _ => rfl) xL xsubT (fun _ _ => rfl) (c.fact 39 (f := fXm xL xsubT) rfl) (c.fact 40 (f := fXv xL) rfl) (c.fact 41 (f := fXc xL) rfl) (c.fact 32 (f := fCls clsL) rfl) (c.fact 33 (f := fNoat clsL fldL) rfl) (c.fact 34 (f := fIsT clsL) rfl) (c.fact 35 (f := fTO clsL) rfl) (c.fact 36 (f := fOT clsL) rfl) (c.fact 37 (f := fOO clsL subT) rfl)
  have D_is_integer : DefAt K mg "is_integer" "is_integer" s_is_integer [] [] := by
    obtain ⟨fd, F⟩ := c.def_ 0 (d := dd_is_integer) rfl
    exact ⟨_, fd, F, He.glo_ok X G (c.fact 0 (f := fGlo "is_integer") rfl)⟩
  have D_law_draws : DefAt K mg "_law_draws" "_law_draws" s_law_draws [] [] := by
    obtain ⟨fd, F⟩ := c.def_ 1 (d := dd_law_draws) rfl
    exact ⟨_, fd, F, He.glo_ok X G (c.fact 1 (f := fGlo "_law_draws") rfl)⟩
  have D_law_specs : DefAt K mg "_law_specs" "_law_specs" s_law_specs [] [] := by
    obtain ⟨fd, F⟩ := c.def_ 2 (d := dd_law_specs) rfl
    exact ⟨_, fd, F, He.glo_ok X G (c.fact 2 (f := fGlo "_law_specs") rfl)⟩
  have D_law_is_wrong : DefAt K mg "_law_is_wrong" "_law_is_wrong" s_law_is_wrong [] [] := by
    obtain ⟨fd, F⟩ := c.def_ 3 (d := dd_law_is_wrong) rfl
    exact ⟨_, fd, F, He.glo_ok X G (c.fact 3 (f := fGlo "_law_is_wrong") rfl)⟩
  have D_law_spoilt : DefAt K mg "_law_spoilt" "_law_spoilt" s_law_spoilt [] [] := by
    obtain ⟨fd, F⟩ := c.def_ 4 (d := dd_law_spoilt) rfl
    exact ⟨_, fd, F, He.glo_ok X G (c.fact 4 (f := fGlo "_law_spoilt") rfl)⟩
  have D_law_part : DefAt K mg "_law_part" "_law_part" s_law_part [] [] := by
    obtain ⟨fd, F⟩ := c.def_ 5 (d := dd_law_part) rfl
    exact ⟨_, fd, F, He.glo_ok X G (c.fact 5 (f := fGlo "_law_part") rfl)⟩
  have D_law_path : DefAt K mg "_law_path" "_law_path" s_law_path [] [] := by
    obtain ⟨fd, F⟩ := c.def_ 6 (d := dd_law_path) rfl
    exact ⟨_, fd, F, He.glo_ok X G (c.fact 6 (f := fGlo "_law_path") rfl)⟩
  have D_law_told : DefAt K mg "_law_told" "_law_told" s_law_told [] [] := by
    obtain ⟨fd, F⟩ := c.def_ 7 (d := dd_law_told) rfl
    exact ⟨_, fd, F, He.glo_ok X G (c.fact 7 (f := fGlo "_law_told") rfl)⟩
  have D_law_same : DefAt K mg "_law_same" "_law_same" s_law_same [] [] := by
    obtain ⟨fd, F⟩ := c.def_ 8 (d := dd_law_same) rfl
    exact ⟨_, fd, F, He.glo_ok X G (c.fact 8 (f := fGlo "_law_same") rfl)⟩
  have B : Blt mg := ⟨He.free_ok X G (c.fact 10 (f := fFree "len") rfl), He.free_ok X G (c.fact 11 (f := fFree "range") rfl), He.free_ok X G (c.fact 12 (f := fFree "abs") rfl), He.free_ok X G (c.fact 13 (f := fFree "int") rfl), He.free_ok X G (c.fact 14 (f := fFree "bool") rfl), He.free_ok X G (c.fact 15 (f := fFree "str") rfl), He.free_ok X G (c.fact 16 (f := fFree "list") rfl), He.free_ok X G (c.fact 17 (f := fFree "tuple") rfl), He.free_ok X G (c.fact 18 (f := fFree "isinstance") rfl), He.free_ok X G (c.fact 19 (f := fFree "sorted") rfl), He.free_ok X G (c.fact 20 (f := fFree "enumerate") rfl), He.free_ok X G (c.fact 21 (f := fFree "zip") rfl), He.free_ok X G (c.fact 22 (f := fFree "sum") rfl), He.free_ok X G (c.fact 23 (f := fFree "any") rfl), He.free_ok X G (c.fact 24 (f := fFree "all") rfl), He.free_ok X G (c.fact 25 (f := fFree "max") rfl), He.free_ok X G (c.fact 26 (f := fFree "min") rfl), He.free_ok X G (c.fact 27 (f := fFree "dict") rfl), He.free_ok X G (c.fact 28 (f := fFree "set") rfl), He.free_ok X G (c.fact 29 (f := fFree "type") rfl), He.free_ok X G (c.fact 30 (f := fFree "iter") rfl), He.free_ok X G (c.fact 31 (f := fFree "super") rfl)⟩
  have C : Cs W mg := ⟨fun c h => h,
    fDun_ok (fun c h => h) (fun c => rfl) (c.fact 38 (f := fDun clsL) rfl),
    (by simp [W, fLaw, clsL]),
    He.glo_ok X G (c.fact 50 (f := fGlo "HashFunction") rfl),
    (let ⟨fd, F⟩ := c.def_ 10 (d := de_HashFunction___init__) rfl; ⟨_, fd, F, He.meth_ok (c.fact 51 (f := fMeth "HashFunction" "__init__") rfl)⟩),
    (let ⟨fd, F⟩ := c.def_ 11 (d := de_HashFunction___call__) rfl; ⟨_, fd, F, He.meth_ok (c.fact 52 (f := fMeth "HashFunction" "__call__") rfl)⟩),
    (let ⟨fd, F⟩ := c.def_ 12 (d := de_HashFunction_part_of) rfl; ⟨_, fd, F, He.meth_ok (c.fact 53 (f := fMeth "HashFunction" "part_of") rfl)⟩),
    ⟨_, He.mkr_ok (c.fact 54 (f := fMkr "HashFunction") rfl)⟩,
    (by simp [W, fLaw, clsL]),
    He.glo_ok X G (c.fact 55 (f := fGlo "Family") rfl),
    (let ⟨fd, F⟩ := c.def_ 13 (d := de_Family___init__) rfl; ⟨_, fd, F, He.meth_ok (c.fact 56 (f := fMeth "Family" "__init__") rfl)⟩),
    (let ⟨fd, F⟩ := c.def_ 14 (d := de_Family___len__) rfl; ⟨_, fd, F, He.meth_ok (c.fact 57 (f := fMeth "Family" "__len__") rfl)⟩),
    (let ⟨fd, F⟩ := c.def_ 15 (d := de_Family___iter__) rfl; ⟨_, fd, F, He.meth_ok (c.fact 58 (f := fMeth "Family" "__iter__") rfl)⟩),
    (let ⟨fd, F⟩ := c.def_ 16 (d := de_Family_fan_outs) rfl; ⟨_, _, fd, fPr_ok (c.fact 59 (f := fPr "Family" "fan_outs") rfl), F⟩),
    (let ⟨fd, F⟩ := c.def_ 17 (d := de_Family_part_at) rfl; ⟨_, fd, F, He.meth_ok (c.fact 60 (f := fMeth "Family" "part_at") rfl)⟩),
    (let ⟨fd, F⟩ := c.def_ 18 (d := de_Family_path_of) rfl; ⟨_, fd, F, He.meth_ok (c.fact 61 (f := fMeth "Family" "path_of") rfl)⟩),
    ⟨_, He.mkr_ok (c.fact 62 (f := fMkr "Family") rfl)⟩,
    He.free_ok X G (c.fact 42 (f := fFree "ValueError") rfl),
    (by simp [W, fLaw, xL]),
    He.glo_ok X G (c.fact 43 (f := fGlo "JoinError") rfl),
    (by simp [W, fLaw, xL]),
    He.glo_ok X G (c.fact 44 (f := fGlo "BadFunction") rfl),
    (let z := fExc_ok (c.fact 45 (f := fExc "BadFunction" "BadFunction.__init__" ["field"] fileL) rfl) (c.cld 19 (d := dx_BadFunction) rfl) hPf; exd_BadFunction z.1 hPs (He.glo_ok X G (c.fact 44 (f := fGlo "BadFunction") rfl)) B.super z.2),
    (by simp [W, fLaw, xL]),
    He.glo_ok X G (c.fact 46 (f := fGlo "BadPart") rfl),
    (let z := fExc_ok (c.fact 47 (f := fExc "BadPart" "BadPart.__init__" ["key", "part"] fileL) rfl) (c.cld 20 (d := dx_BadPart) rfl) hPf; exd_BadPart z.1 hPs (He.glo_ok X G (c.fact 46 (f := fGlo "BadPart") rfl)) B.super z.2),
    (by simp [W, fLaw, xL]),
    He.glo_ok X G (c.fact 48 (f := fGlo "TooMany") rfl),
    (let z := fExc_ok (c.fact 49 (f := fExc "TooMany" "TooMany.__init__" ["count"] fileL) rfl) (c.cld 21 (d := dx_TooMany) rfl) hPf; exd_TooMany z.1 hPs (He.glo_ok X G (c.fact 48 (f := fGlo "TooMany") rfl)) B.super z.2),
    He.int_ok X G (c.fact 63 (f := fInt "WIDEST" 64) rfl),
    He.int_ok X G (c.fact 64 (f := fInt "MOST_LEVELS" 4) rfl)⟩
  obtain ⟨fdL, FL⟩ := c.def_ 9 (d := dd_law) rfl
  have e := hfa.symm.trans (He.glo_ok X G (c.fact 9 (f := fGlo "law") rfl))
  cases e
  have b := FunD.bindsA (ps := A_law) FL bp_law
  refine ⟨fdL, fun s v => b s [v] rfl, fun base _ _ => ?_⟩
  exact ok_law (W := W) (ds_all (W := W) (base := base) D_is_integer D_law_draws D_law_specs D_law_is_wrong D_law_spoilt D_law_part D_law_path D_law_told D_law_same C B 8) C FL B (spL_spR (W := W) (law_true W))
abbrev RowL : PySem.W.OpenRow := PySem.W.OpenLaw.row PySem.Challenge.rw_anyhashes_k81_paths_with_wrong_parts
abbrev hkL : PySem.W.Hook := hookX 0 faL fnL
def obL (s : PySem.W.SharedT) : He.AlD := obsXG 0 faL fnL (HandSHeadRun.getT s)
theorem obL_eq (s : PySem.W.SharedT) : obL s = hkL.obs s.abs := obsXG_eq (HandSHeadRun.getT_eq s)
theorem runL (w : World) : HandSHeadRun.RunEq RowL (PySem.W.view RowL.prog [lawAt]) hkL obL 12000 nmL w := by
  intro os
  kernel_rfl
end Py
open PySem PySem.W PySem.Calls PyProof.Rows
theorem PySem.Challenge.cw_anyhashes_k81_paths_with_wrong_parts_holds : PySem.Challenge.rw_anyhashes_k81_paths_with_wrong_parts.Holds := by
  w_on; o_law
  refine HandSHeadRun.head_any (r := OpenLaw.row PySem.Challenge.rw_anyhashes_k81_paths_with_wrong_parts) (q := view (OpenLaw.row PySem.Challenge.rw_anyhashes_k81_paths_with_wrong_parts).prog [Py.lawAt]) (H := Py.hkL) (ob := Py.obL) (M := 12000) (loose := Py.nmL) (d := HandSHeadRun.topDef (OpenLaw.row PySem.Challenge.rw_anyhashes_k81_paths_with_wrong_parts).prog Py.lawAt) (kwd := []) Py.obL_eq
    (by kernel_rfl) (fun s => by kernel_rfl) Py.runL (by kernel_rfl) (by kernel_rfl) (by kernel_rfl) (by rfl) (by first | assumption | decide +kernel) (by decide +kernel) ⟨rfl, rfl, rfl, rfl, rfl, by decide +kernel⟩ ?hw ?hc
  case hw => w_witness2
  case hc =>
    refine L2.walk_ofE (l := PySem.Challenge.rw_anyhashes_k81_paths_with_wrong_parts) (n := 63) (k := 36) (x := "_law_script") (CX := L2.CX0) rfl (by decide) (by kernel_rfl) ⟨rfl, by decide, by decide⟩ ?F (fun _ _ _ _ z => z)
    intro w mg fa h Y G hmg0
    obtain ⟨K, KX, c⟩ := Y
    have hmg : mg ("law" : PySem.Str) = some (.ref fa) := by
      have e : (HandSHeadRun.topDef (OpenLaw.row PySem.Challenge.rw_anyhashes_k81_paths_with_wrong_parts).prog Py.lawAt).name = ("law" : PySem.Str) := by kernel_rfl
      rw [<- e]
      exact hmg0
    obtain ⟨fd, hb, hF⟩ := Py.factsL (P := (PySem.Challenge.rw_anyhashes_k81_paths_with_wrong_parts).prog) (w := w) KX G hmg c (by kernel_rfl) (by kernel_rfl)
    exact ⟨K, fd, Py.spL K, KX, hb, fun H a ns hl _ hS => Py.spL_in hl hS, hF⟩
