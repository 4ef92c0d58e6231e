import PyProof.Rows.All
import Wide.All
import OpenK.AllK
import Wide.FinOn
import HandS.ForMost
import HandS.IsInst
import HandS.Wide
import HandS.Defaults
import HandS.Zip
import HandS.Head0
import HandS.Head1
import HandS.Head2
import HandS.HeadEnd
import HandS.HeadHook1
import HandS.HeadHook2
import PySem.Challenge.RW_anyhashes_k61_capacity_of_depths
set_option Elab.async false
set_option linter.all false
set_option maxRecDepth 100000
set_option maxHeartbeats 8000000
namespace Py
open PySem L2

/-- data: shared things; o..: owned ones (lists, dicts, instances that nobody else knows) -/
inductive D where
  | non | bl (b : Bool) | int (i : Int) | str (x : Str) | ref (a : Addr) | ty (n : String)
  | scr (ns : List Int) | tup (xs : List D) | lst (xs : List D) | dic (ks : List Key) (xs : List D) | dit (ks : List (List Key)) (xs : List D) | ins (C : Addr) (ns : List Str) (xs : List D)
  | olst (xs : List D) | odic (ks : List Key) (xs : List D) | odit (ks : List (List Key)) (xs : List D) | oins (C : Addr) (ns : List Str) (xs : List D)

section
variable (K : PySem.W.Frag)
mutual
inductive Shr : Hp → D → V → Prop
  | non {F} : Shr F .non .non
  | bl {F b} : Shr F (.bl b) (.bl b)
  | int {F i} : Shr F (.int i) (.int i)
  | str {F x} : Shr F (.str x) (.str x)
  | ref {F a} : Shr F (.ref a) (.ref a)
  | ty {F n} : Shr F (.ty n) (.ty n)
  | scr {F a ns} : SqL K F a (ns.map V.int) → Shr F (.scr ns) (.ref a)
  | tup {F a xs vs} : F a = some (.tup vs) → Shrs F xs vs → Shr F (.tup xs) (.ref a)
  | lst {F a xs vs} : F a = some (.lst vs) → Shrs F xs vs → Shr F (.lst xs) (.ref a)
  | dic {F a ks xs vs} : F a = some (.dK (ks.zip vs)) → ks.length = vs.length → Shrs F xs vs → Shr F (.dic ks xs) (.ref a)
  | dit {F a ks xs vs} : F a = some (.dT (ks.zip vs)) → ks.length = vs.length → Shrs F xs vs → Shr F (.dit ks xs) (.ref a)
  | ins {F a C dx ns xs vs} : F a = some (.ins C dx (ns.zip vs)) → ns.length = vs.length → Shrs F xs vs → Shr F (.ins C ns xs) (.ref a)
inductive Shrs : Hp → List D → List V → Prop
  | nil {F} : Shrs F [] []
  | cons {F d v ds vs} : Shr F d v → Shrs F ds vs → Shrs F (d :: ds) (v :: vs)
end
mutual
/-- owned in H (over the shared F), with the addresses that are owned -/
inductive Own : Hp → Hp → D → V → List Addr → Prop
  | sh {F H d v} : Shr K F d v → Own F H d v []
  | olst {F H a xs vs L} : H a = some (.lst vs) → Owns F H xs vs L → Own F H (.olst xs) (.ref a) (a :: L)
  | odic {F H a ks xs vs L} : H a = some (.dK (ks.zip vs)) → ks.length = vs.length → Owns F H xs vs L → Own F H (.odic ks xs) (.ref a) (a :: L)
  | odit {F H a ks xs vs L} : H a = some (.dT (ks.zip vs)) → ks.length = vs.length → Owns F H xs vs L → Own F H (.odit ks xs) (.ref a) (a :: L)
  | oins {F H a C dx ns xs vs L} : H a = some (.ins C dx (ns.zip vs)) → ns.length = vs.length → Owns F H xs vs L → Own F H (.oins C ns xs) (.ref a) (a :: L)
inductive Owns : Hp → Hp → List D → List V → List Addr → Prop
  | nil {F H} : Owns F H [] [] []
  | cons {F H d v ds vs L M} : Own F H d v L → Owns F H ds vs M → Owns F H (d :: ds) (v :: vs) (L ++ M)
end
end
section
variable {K : PySem.W.Frag} {F F' H H' : Hp}
theorem same_seqT {F F' : Hp} {a : Addr} {xs : List V} (e : Same F F') (h : SqT K F a xs) : SqT K F' a xs := by
  rcases h with (h | ⟨o, h⟩) | h
  · exact .inl (.inl (e _ _ h))
  · exact .inl (.inr ⟨o, e _ _ h⟩)
  · exact .inr h
mutual
theorem Shr.mono {F F' : Hp} (e : Same F F') : ∀ {d : D} {v : V}, Shr K F d v → Shr K F' d v
  | _, _, .non => .non
  | _, _, .bl => .bl
  | _, _, .int => .int
  | _, _, .str => .str
  | _, _, .ref => .ref
  | _, _, .ty => .ty
  | _, _, .scr h => .scr (e.seq h)
  | _, _, .tup h hs => .tup (e _ _ h) (Shrs.mono e hs)
  | _, _, .lst h hs => .lst (e _ _ h) (Shrs.mono e hs)
  | _, _, .dic h l hs => .dic (e _ _ h) l (Shrs.mono e hs)
  | _, _, .dit h l hs => .dit (e _ _ h) l (Shrs.mono e hs)
  | _, _, .ins h l hs => .ins (e _ _ h) l (Shrs.mono e hs)
theorem Shrs.mono {F F' : Hp} (e : Same F F') : ∀ {d : List D} {v : List V}, Shrs K F d v → Shrs K F' d v
  | _, _, .nil => .nil
  | _, _, .cons h t => .cons (Shr.mono e h) (Shrs.mono e t)
end
theorem Shrs.length {F : Hp} : ∀ {ds : List D} {vs : List V}, Shrs K F ds vs → ds.length = vs.length
  | _, _, .nil => rfl
  | _, _, .cons _ t => congrArg (· + 1) (Shrs.length t)
theorem Shrs.get {F : Hp} : ∀ {ds : List D} {vs : List V} {i : Nat} {d : D}, Shrs K F ds vs → ds[i]? = some d → ∃ v, vs[i]? = some v ∧ Shr K F d v
  | _, _, _, _, .nil, e => by simp at e
  | _, _, 0, _, .cons h _, e => by simp at e; subst e; exact ⟨_, rfl, h⟩
  | _, _, i + 1, _, .cons _ t, e => Shrs.get (i := i) t (by simpa using e)
theorem Shrs.getV {F : Hp} : ∀ {ds : List D} {vs : List V} {i : Nat} {v : V}, Shrs K F ds vs → vs[i]? = some v → ∃ d, ds[i]? = some d ∧ Shr K F d v
  | _, _, _, _, .nil, e => by simp at e
  | _, _, 0, _, .cons h _, e => by simp at e; subst e; exact ⟨_, rfl, h⟩
  | _, _, i + 1, _, .cons _ t, e => Shrs.getV (i := i) t (by simpa using e)
theorem Shrs.append {F : Hp} : ∀ {ds es : List D} {vs ws : List V}, Shrs K F ds vs → Shrs K F es ws → Shrs K F (ds ++ es) (vs ++ ws)
  | _, _, _, _, .nil, h => h
  | _, _, _, _, .cons h t, q => .cons h (Shrs.append t q)
mutual
/-- the same where all owned addresses bear the same, and the shared part grew -/
theorem Own.frame {F F' H H' : Hp} (e : Same F F') : ∀ {d : D} {v : V} {L : List Addr}, (∀ a ∈ L, ∀ o, H a = some o → H' a = some o) → Own K F H d v L → Own K F' H' d v L
  | _, _, _, _, .sh h => .sh (h.mono e)
  | _, _, _, k, .olst h t => .olst (k _ (List.mem_cons_self ..) _ h) (Owns.frame e (fun a m => k a (List.mem_cons_of_mem _ m)) t)
  | _, _, _, k, .odic h l t => .odic (k _ (List.mem_cons_self ..) _ h) l (Owns.frame e (fun a m => k a (List.mem_cons_of_mem _ m)) t)
  | _, _, _, k, .odit h l t => .odit (k _ (List.mem_cons_self ..) _ h) l (Owns.frame e (fun a m => k a (List.mem_cons_of_mem _ m)) t)
  | _, _, _, k, .oins h l t => .oins (k _ (List.mem_cons_self ..) _ h) l (Owns.frame e (fun a m => k a (List.mem_cons_of_mem _ m)) t)
theorem Owns.frame {F F' H H' : Hp} (e : Same F F') : ∀ {d : List D} {v : List V} {L : List Addr}, (∀ a ∈ L, ∀ o, H a = some o → H' a = some o) → Owns K F H d v L → Owns K F' H' d v L
  | _, _, _, _, .nil => .nil
  | _, _, _, k, .cons h t => .cons (Own.frame e (fun a m => k a (List.mem_append_left _ m)) h) (Owns.frame e (fun a m => k a (List.mem_append_right _ m)) t)
end
mutual
theorem Own.lives {F H : Hp} : ∀ {d : D} {v : V} {L : List Addr}, Own K F H d v L → ∀ a ∈ L, ∃ o, H a = some o
  | _, _, _, .sh _, a, m => nomatch m
  | _, _, _, .olst h t, a, m => by
    rcases List.mem_cons.mp m with rfl | m
    · exact ⟨_, h⟩
    · exact Owns.lives t a m
  | _, _, _, .odic h _ t, a, m => by
    rcases List.mem_cons.mp m with rfl | m
    · exact ⟨_, h⟩
    · exact Owns.lives t a m
  | _, _, _, .odit h _ t, a, m => by
    rcases List.mem_cons.mp m with rfl | m
    · exact ⟨_, h⟩
    · exact Owns.lives t a m
  | _, _, _, .oins h _ t, a, m => by
    rcases List.mem_cons.mp m with rfl | m
    · exact ⟨_, h⟩
    · exact Owns.lives t a m
theorem Owns.lives {F H : Hp} : ∀ {d : List D} {v : List V} {L : List Addr}, Owns K F H d v L → ∀ a ∈ L, ∃ o, H a = some o
  | _, _, _, .nil, a, m => nomatch m
  | _, _, _, .cons h t, a, m => (List.mem_append.mp m).elim (fun m => Own.lives h a m) fun m => Owns.lives t a m
end
theorem Owns.length {F H : Hp} : ∀ {ds : List D} {vs : List V} {L : List Addr}, Owns K F H ds vs L → ds.length = vs.length
  | _, _, _, .nil => rfl
  | _, _, _, .cons _ t => congrArg (· + 1) (Owns.length t)

mutual
/-- as shared data -/
def fz : D → D
  | .tup xs => .tup xs
  | .olst xs => .lst (fzs xs)
  | .odic ks xs => .dic ks (fzs xs)
  | .odit ks xs => .dit ks (fzs xs)
  | .oins C ns xs => .ins C ns (fzs xs)
  | d => d
def fzs : List D → List D
  | [] => []
  | d :: ds => fz d :: fzs ds
end
theorem fzs_eq : ∀ ds : List D, fzs ds = ds.map fz
  | [] => by rw [fzs]; rfl
  | d :: ds => by rw [fzs, fzs_eq ds]; rfl
theorem fz_shr {F : Hp} {d : D} {v : V} (h : Shr K F d v) : fz d = d := by
  cases h <;> (first | rfl | (rw [fz]; rfl) | (simp only [fz]))
theorem fzs_shr {F : Hp} : ∀ {d : List D} {v : List V}, Shrs K F d v → fzs d = d
  | _, _, .nil => by rw [fzs]
  | _, _, .cons h t => by rw [fzs, fz_shr h, fzs_shr t]
mutual
/-- what is owned may be read as shared -/
theorem Own.view {F H G : Hp} (e : Same F G) : ∀ {d : D} {v : V} {L : List Addr}, (∀ a ∈ L, ∀ o, H a = some o → G a = some o) → Own K F H d v L → Shr K G (fz d) v
  | _, _, _, _, .sh h => by rw [fz_shr h]; exact h.mono e
  | _, _, _, k, .olst h t => by rw [fz]; exact .lst (k _ (List.mem_cons_self ..) _ h) (Owns.view e (fun a m => k a (List.mem_cons_of_mem _ m)) t)
  | _, _, _, k, .odic h l t => by rw [fz]; exact .dic (k _ (List.mem_cons_self ..) _ h) l (Owns.view e (fun a m => k a (List.mem_cons_of_mem _ m)) t)
  | _, _, _, k, .odit h l t => by rw [fz]; exact .dit (k _ (List.mem_cons_self ..) _ h) l (Owns.view e (fun a m => k a (List.mem_cons_of_mem _ m)) t)
  | _, _, _, k, .oins h l t => by rw [fz]; exact .ins (k _ (List.mem_cons_self ..) _ h) l (Owns.view e (fun a m => k a (List.mem_cons_of_mem _ m)) t)
theorem Owns.view {F H G : Hp} (e : Same F G) : ∀ {d : List D} {v : List V} {L : List Addr}, (∀ a ∈ L, ∀ o, H a = some o → G a = some o) → Owns K F H d v L → Shrs K G (fzs d) v
  | _, _, _, _, .nil => by rw [fzs]; exact .nil
  | _, _, _, k, .cons h t => by rw [fzs]; exact .cons (Own.view e (fun a m => k a (List.mem_append_left _ m)) h) (Owns.view e (fun a m => k a (List.mem_append_right _ m)) t)
end
/-- shared things as a list of owned ones -/
theorem Shrs.owns {F H : Hp} : ∀ {ds : List D} {vs : List V}, Shrs K F ds vs → Owns K F H ds vs []
  | _, _, .nil => .nil
  | _, _, .cons h t => Owns.cons (L := []) (M := []) (.sh h) (Shrs.owns t)
end
end Py

namespace Py
open PySem L2

abbrev Env := List (Option D)
inductive Slots (K : PySem.W.Frag) : Hp → Hp → Py.Env → St → List Addr → Prop
  | nil {F H} : Slots K F H [] [] []
  | so {F H d v env σ L M} : Own K F H d v L → Slots K F H env σ M → Slots K F H (some d :: env) (some v :: σ) (L ++ M)
  | no {F H o env σ M} : Slots K F H env σ M → Slots K F H (none :: env) (o :: σ) M
section
variable {K : PySem.W.Frag} {F F' H H' : Hp}
theorem Slots.frame (e : Same F F') : ∀ {env : Py.Env} {σ : St} {L : List Addr}, (∀ a ∈ L, ∀ o, H a = some o → H' a = some o) → Slots K F H env σ L → Slots K F' H' env σ L
  | _, _, _, _, .nil => .nil
  | _, _, _, k, .so h t => .so (h.frame e fun a m => k a (List.mem_append_left _ m)) (t.frame e fun a m => k a (List.mem_append_right _ m))
  | _, _, _, k, .no t => .no (t.frame e k)
theorem Slots.lives : ∀ {env : Py.Env} {σ : St} {L : List Addr}, Slots K F H env σ L → ∀ a ∈ L, ∃ o, H a = some o
  | _, _, _, .nil, _, m => nomatch m
  | _, _, _, .so h t, a, m => (List.mem_append.mp m).elim (fun m => h.lives a m) fun m => t.lives a m
  | _, _, _, .no t, a, m => t.lives a m
theorem Slots.length : ∀ {env : Py.Env} {σ : St} {L : List Addr}, Slots K F H env σ L → env.length = σ.length
  | _, _, _, .nil => rfl
  | _, _, _, .so _ t => congrArg (· + 1) t.length
  | _, _, _, .no t => congrArg (· + 1) t.length
/-- a slot is taken out -/
theorem Slots.take : ∀ {env : Py.Env} {σ : St} {L : List Addr} {i : Nat} {d : D}, Slots K F H env σ L → L.Nodup → env[i]? = some (some d) →
    ∃ v Li Lr, σ[i]? = some (some v) ∧ Own K F H d v Li ∧ Slots K F H (env.set i none) σ Lr ∧ (Li ++ Lr).Nodup ∧ (∀ a, a ∈ Li ∨ a ∈ Lr ↔ a ∈ L)
  | _, _, _, _, _, .nil, _, e => by simp at e
  | _, _, _, 0, _, .so (L := L1) (M := M1) h t, nd, e => by
    simp at e; subst e
    exact ⟨_, L1, M1, rfl, h, .no t, nd, fun a => List.mem_append.symm⟩
  | _, _, _, i + 1, _, .so (L := L1) (M := M1) h t, nd, e => by
    rw [List.nodup_append] at nd
    obtain ⟨n1, n2, n3⟩ := nd
    obtain ⟨v, Li, Lr, e1, o, s, nd', m⟩ := t.take (i := i) n2 (by simpa using e)
    refine ⟨v, Li, L1 ++ Lr, by simpa using e1, o, .so h s, ?_, fun a => ?_⟩
    · rw [List.nodup_append] at nd' ⊢
      obtain ⟨p1, p2, p3⟩ := nd'
      refine ⟨p1, ?_, ?_⟩
      · rw [List.nodup_append]
        exact ⟨n1, p2, fun a ha b hb => n3 a ha b ((m b).mp (.inr hb))⟩
      · intro a ha b hb
        rcases List.mem_append.mp hb with hb | hb
        · exact fun q => n3 b hb a ((m a).mp (.inl ha)) q.symm
        · exact p3 a ha b hb
    · simp only [List.mem_append, ← m a]
      constructor
      · rintro (h | h | h)
        · exact .inr (.inl h)
        · exact .inl h
        · exact .inr (.inr h)
      · rintro (h | h | h)
        · exact .inr (.inl h)
        · exact .inl h
        · exact .inr (.inr h)
  | _, _, _, 0, _, .no t, nd, e => by simp at e
  | _, _, _, i + 1, _, .no (o := o1) (M := M1) t, nd, e => by
    obtain ⟨v, Li, Lr, e1, o, s, nd', m⟩ := t.take (i := i) nd (by simpa using e)
    exact ⟨v, Li, Lr, by simpa using e1, o, .no s, nd', m⟩
/-- a slot is filled (what it held is let go) -/
theorem Slots.put : ∀ {env : Py.Env} {σ : St} {L : List Addr} {i : Nat} {d : D} {v : V} {Ld : List Addr}, Slots K F H env σ L → Own K F H d v Ld → (Ld ++ L).Nodup → i < env.length →
    ∃ L', Slots K F H (env.set i (some d)) (σ.set i (some v)) L' ∧ L'.Nodup ∧ (∀ a ∈ L', a ∈ Ld ∨ a ∈ L)
  | _, _, _, _, _, _, _, .nil, _, _, hi => by simp at hi
  | _, _, _, 0, d, v, Ld, .so (L := L1) (M := M1) h t, o, nd, _ => by
    refine ⟨Ld ++ M1, .so o t, ?_, fun a m => ?_⟩
    · rw [List.nodup_append] at nd ⊢
      obtain ⟨n1, n2, n3⟩ := nd
      rw [List.nodup_append] at n2
      exact ⟨n1, n2.2.1, fun a ha b hb => n3 a ha b (List.mem_append_right _ hb)⟩
    · rcases List.mem_append.mp m with m | m
      · exact .inl m
      · exact .inr (List.mem_append_right _ m)
  | _, _, _, 0, d, v, Ld, .no (M := M1) t, o, nd, _ => by
    exact ⟨Ld ++ M1, .so o t, nd, fun a m => List.mem_append.mp m⟩
  | _, _, _, i + 1, d, v, Ld, .so (L := L1) (M := M1) h t, o, nd, hi => by
    rw [List.nodup_append] at nd
    obtain ⟨n1, n2, n3⟩ := nd
    rw [List.nodup_append] at n2
    obtain ⟨p1, p2, p3⟩ := n2
    obtain ⟨L', s, nd', m⟩ := t.put (i := i) o (by
      rw [List.nodup_append]
      exact ⟨n1, p2, fun a ha b hb => n3 a ha b (List.mem_append_right _ hb)⟩) (by simpa using hi)
    refine ⟨L1 ++ L', .so h s, ?_, fun a ha => ?_⟩
    · rw [List.nodup_append]
      refine ⟨p1, nd', fun a ha b hb => ?_⟩
      rcases m b hb with q | q
      · exact fun z => n3 b q a (List.mem_append_left _ ha) z.symm
      · exact p3 a ha b q
    · rcases List.mem_append.mp ha with q | q
      · exact .inr (List.mem_append_left _ q)
      · rcases m a q with q | q
        · exact .inl q
        · exact .inr (List.mem_append_right _ q)
  | _, _, _, i + 1, d, v, Ld, .no (M := M1) t, o, nd, hi => by
    obtain ⟨L', s, nd', m⟩ := t.put (i := i) o nd (by simpa using hi)
    exact ⟨L', .no s, nd', m⟩

/-- how a state began: shared part, heap, owned addresses, slots that stay -/
structure Ent where
  F0 : Hp
  H0 : Hp
  L0 : List Addr
  pins : List (Nat × V)
structure Rel (K : PySem.W.Frag) (e : Ent) (env : Py.Env) (F : Hp) (σ : St) (H : Hp) (L : List Addr) : Prop where
  sF : Same F H
  slots : Slots K F H env σ L
  nd : L.Nodup
  dj : ∀ a ∈ L, F a = none
  s0 : Same e.F0 F
  nw : ∀ a o, F a = some o → e.F0 a = some o ∨ e.H0 a = none ∨ a ∈ e.L0
  fr : ∀ a o, a ∉ e.L0 → e.H0 a = some o → H a = some o
  ln : ∀ a ∈ L, a ∈ e.L0 ∨ e.H0 a = none
  pin : ∀ p ∈ e.pins, σ[p.1]? = some (some p.2)
/-- shared part and heap grow -/
structure Ext (F H F' H' : Hp) : Prop where
  f : Same F F'
  s : Same F' H'
  h : Same H H'
  n : ∀ a o, F' a = some o → F a = some o ∨ H a = none
theorem Ext.refl (s : Same F H) : Ext F H F H := ⟨Same.refl _, s, Same.refl _, fun _ _ h => .inl h⟩
theorem Ext.trans {F1 H1 F2 H2 : Hp} (a : Ext F H F1 H1) (b : Ext F1 H1 F2 H2) : Ext F H F2 H2 :=
  ⟨a.f.trans b.f, b.s, a.h.trans b.h, fun x o h => by
    rcases b.n x o h with q | q
    · exact a.n x o q
    · exact .inr (a.h.free q)⟩
/-- a new shared object -/
theorem same_new {H : Hp} {p : Addr} {o : HO} (h : H p = none) : Same H (upd H p o) := fun b u e => by
  rw [upd_ne (ne_of_none e h)]; exact e
theorem Ext.new (s : Same F H) {p : Addr} {o : HO} (h : H p = none) : Ext F H (upd F p o) (upd H p o) where
  f := same_new (s.free h)
  s := fun b u e => by
    by_cases q : b = p
    · subst q; rw [upd_same] at e ⊢; exact e
    · rw [upd_ne q] at e ⊢; exact s _ _ e
  h := same_new h
  n := fun b u e => by
    by_cases q : b = p
    · subst q; exact .inr h
    · rw [upd_ne q] at e; exact .inl e
/-- a new object that is not shared (yet) -/
theorem Ext.newH (s : Same F H) {p : Addr} {o : HO} (h : H p = none) : Ext F H F (upd H p o) where
  f := Same.refl _
  s := s.trans (same_new h)
  h := same_new h
  n := fun _ _ e => .inl e
theorem Rel.ext {e : Ent} {env : Py.Env} {σ : St} {L : List Addr} (R : Rel K e env F σ H L) (x : Ext F H F' H') : Rel K e env F' σ H' L where
  sF := x.s
  slots := R.slots.frame x.f fun a _ o q => x.h _ _ q
  nd := R.nd
  dj := fun a m => by
    obtain ⟨o, ho⟩ := R.slots.lives a m
    cases q : F' a with
    | none => rfl
    | some u =>
      rcases x.n a u q with z | z
      · rw [R.dj a m] at z; cases z
      · rw [ho] at z; cases z
  s0 := R.s0.trans x.f
  nw := fun a o q => by
    rcases x.n a o q with z | z
    · exact R.nw a o z
    · by_cases m : a ∈ e.L0
      · exact .inr (.inr m)
      · refine .inr (.inl ?_)
        cases y : e.H0 a with
        | none => rfl
        | some u => rw [R.fr a u m y] at z; cases z
  fr := fun a o m q => x.h _ _ (R.fr a o m q)
  ln := R.ln
  pin := R.pin

abbrev Res := Hp → Hp → Hp → V → Prop
/-- shared data -/
def rF (K : PySem.W.Frag) (d : D) : Res := fun F _ _ v => Shr K F d v
/-- readable as data -/
def rV (K : PySem.W.Frag) (d : D) : Res := fun _ H _ v => Shr K H d v
/-- new, owned (or shared) -/
def rO (K : PySem.W.Frag) (d : D) : Res := fun F H H0 v => ∃ L, Own K F H d v L ∧ L.Nodup ∧ ∀ a ∈ L, H0 a = none ∧ F a = none
/-- a list to be read, of shared data -/
def rL (K : PySem.W.Frag) (ds : List D) : Res := fun F H _ v => ∃ a vs, v = .ref a ∧ SqL K H a vs ∧ Shrs K F ds vs
def AE (K : PySem.W.Frag) (t : TE) (env : Py.Env) (R : Res) : Prop :=
  ∀ (e : Ent) (F : Hp) (σ : St) (H : Hp) (L : List Addr) (Q : VK), Rel K e env F σ H L → (∀ v F' H', Ext F H F' H' → R F' H' H v → Q v H') → t σ H Q
/-- tests -/
def AT (K : PySem.W.Frag) (t : TT) (env : Py.Env) (b : Bool) : Prop :=
  ∀ (e : Ent) (F : Hp) (σ : St) (H : Hp) (L : List Addr) (Q : Bool → Hp → Prop), Rel K e env F σ H L → (∀ F' H', Ext F H F' H' → Q b H') → t σ H Q
abbrev ResL := Hp → Hp → Hp → List V → Prop
def rFs (K : PySem.W.Frag) (ds : List D) : ResL := fun F _ _ vs => Shrs K F ds vs
def rVs (K : PySem.W.Frag) (ds : List D) : ResL := fun _ H _ vs => Shrs K H ds vs
def AA (K : PySem.W.Frag) (t : TA) (env : Py.Env) (R : ResL) : Prop :=
  ∀ (e : Ent) (F : Hp) (σ : St) (H : Hp) (L : List Addr) (Q : List V → Hp → Prop), Rel K e env F σ H L → (∀ v F' H', Ext F H F' H' → R F' H' H v → Q v H') → t σ H Q

variable {env : Py.Env} {t ta tb : TE}
theorem AE.imp {R R' : Res} (h : AE K t env R) (k : ∀ F H H0 v, Same F H → R F H H0 v → R' F H H0 v) : AE K t env R' := fun e F σ H L Q r q =>
  h e F σ H L Q r fun v F' H' x y => q v F' H' x (k _ _ _ _ x.s y)
theorem AE.view {d : D} (h : AE K t env (rF K d)) : AE K t env (rV K d) := h.imp fun _ _ _ _ s y => Shr.mono s y
theorem AE.own {d : D} (h : AE K t env (rF K d)) : AE K t env (rO K d) := h.imp fun _ _ _ _ s y => ⟨[], .sh y, .nil, fun _ m => nomatch m⟩
theorem AE.viewO {d : D} (h : AE K t env (rO K d)) : AE K t env (rV K (fz d)) := h.imp fun _ _ _ _ s ⟨L, o, _, _⟩ => o.view s fun _ _ _ q => q
theorem AE.list {ds : List D} (h : AE K t env (rF K (.lst ds))) : AE K t env (rL K ds) := h.imp fun _ _ _ _ s y => by
  cases y with
  | lst a b => exact ⟨_, _, rfl, .of (s _ _ a), b⟩
/-- the owned addresses become shared -/
theorem freeze {F H : Hp} {d : D} {v : V} {L : List Addr} (s : Same F H) (o : Own K F H d v L) (k : ∀ a ∈ L, F a = none) :
    ∃ F', Same F F' ∧ Same F' H ∧ (∀ a o, F' a = some o → F a = some o ∨ a ∈ L) ∧ Shr K F' (fz d) v := by
  refine ⟨fun a => if a ∈ L then H a else F a, fun a u q => ?_, fun a u q => ?_, fun a u q => ?_, o.view (fun a u q => ?_) fun a m u q => ?_⟩
  · show (if a ∈ L then H a else F a) = some u
    split
    · rename_i m; rw [k a m] at q; cases q
    · exact q
  · have q : (if a ∈ L then H a else F a) = some u := q
    split at q
    · exact q
    · exact s _ _ q
  · have q : (if a ∈ L then H a else F a) = some u := q
    split at q
    · exact .inr (by assumption)
    · exact .inl q
  · show (if a ∈ L then H a else F a) = some u
    split
    · rename_i m; rw [k a m] at q; cases q
    · exact q
  · show (if a ∈ L then H a else F a) = some u
    rw [if_pos m]; exact q
theorem AE.frz {d : D} (h : AE K t env (rO K d)) : AE K t env (rF K (fz d)) := fun e F σ H L Q r q =>
  h e F σ H L Q r fun v F' H' x ⟨M, o, nd, k⟩ => by
    obtain ⟨G, s1, s2, nw, y⟩ := freeze x.s o fun a m => (k a m).2
    refine q v G H' ⟨x.f.trans s1, s2, x.h, fun a o z => ?_⟩ y
    rcases nw a o z with z | z
    · exact x.n a o z
    · exact .inr (k a z).1

structure Exn where
  C : Addr
  fs : List (Str × D)
structure AEnds where
  nx : Py.Env → Prop
  rt : D → Py.Env → Prop
  bk : Py.Env → Prop := fun _ => False
  ct : Py.Env → Prop := fun _ => False
  ex : Exn → Py.Env → Prop := fun _ _ => False
/-- an exception that has left: its class, its own dict -/
def IsExn (K : PySem.W.Frag) (F H : Hp) (ex : Exn) (C : Value) (d : Option Addr) : Prop :=
  C = .ref ex.C ∧ (ex.fs = [] ∨ ∃ a vs, d = some a ∧ H a = some (.xd ((ex.fs.map (·.1)).zip vs)) ∧ Shrs K F (ex.fs.map (·.2)) vs)
structure Sat (K : PySem.W.Frag) (e : Ent) (E : XK) (A : AEnds) (Dn : Ends) : Prop where
  nx : ∀ env F σ H L, A.nx env → Rel K e env F σ H L → Dn.nx σ H
  rt : ∀ d env F σ H L v M, A.rt d env → Rel K e env F σ H L → Own K F H d v M → (M ++ L).Nodup → (∀ a ∈ M, F a = none ∧ (a ∈ e.L0 ∨ e.H0 a = none)) → Dn.rt v H
  bk : ∀ env F σ H L, A.bk env → Rel K e env F σ H L → Dn.bk σ H
  ct : ∀ env F σ H L, A.ct env → Rel K e env F σ H L → Dn.ct σ H
  ex : ∀ x env F σ H L C d, A.ex x env → Rel K e env F σ H L → IsExn K F H x C d → E C d H
def AS (K : PySem.W.Frag) (P : List Nat) (E : XK) (t : TS) (env : Py.Env) (A : AEnds) : Prop :=
  ∀ (e : Ent) (F : Hp) (σ : St) (H : Hp) (L : List Addr) (Dn : Ends), P = e.pins.map (·.1) → Rel K e env F σ H L → Sat K e E A Dn → t Dn σ H
variable {P : List Nat} {E : XK} {A : AEnds}
theorem as_seq {t u : TS} (h : AS K P E t env { A with nx := fun env' => AS K P E u env' A }) : AS K P E (tSeq t u) env A := fun e F σ H L Dn hp r s =>
  h e F σ H L _ hp r ⟨fun env' F' σ' H' L' a r' => a e F' σ' H' L' Dn hp r' s, s.rt, s.bk, s.ct, s.ex⟩
theorem as_next (h : A.nx env) : AS K P E tNext env A := fun e F σ H L Dn hp r s => s.nx _ _ _ _ _ h r
theorem as_break (h : A.bk env) : AS K P E tBreak env A := fun e F σ H L Dn hp r s => s.bk _ _ _ _ _ h r
theorem as_cont (h : A.ct env) : AS K P E tCont env A := fun e F σ H L Dn hp r s => s.ct _ _ _ _ _ h r
theorem Rel.set {e : Ent} {σ : St} {L M : List Addr} {d : D} {v : V} {i : Nat} (r : Rel K e env F σ H L) (o : Own K F H d v M) (nd : (M ++ L).Nodup) (k : ∀ a ∈ M, F a = none ∧ (a ∈ e.L0 ∨ e.H0 a = none)) (hi : i < env.length)
    (hp : ∀ p ∈ e.pins, p.1 ≠ i) : ∃ L', Rel K e (env.set i (some d)) F (σ.set i (some v)) H L' := by
  obtain ⟨L', s, nd', m⟩ := r.slots.put o nd hi
  refine ⟨L', r.sF, s, nd', fun a ha => ?_, r.s0, r.nw, r.fr, fun a ha => ?_, fun p hm => ?_⟩
  · rcases m a ha with q | q
    · exact (k a q).1
    · exact r.dj a q
  · rcases m a ha with q | q
    · exact (k a q).2
    · exact r.ln a q
  · rw [List.getElem?_set_ne (fun z => hp p hm z.symm)]
    exact r.pin p hm
theorem Rel.h0 {e : Ent} {σ : St} {L : List Addr} (r : Rel K e env F σ H L) {a : Addr} (h : H a = none) : a ∈ e.L0 ∨ e.H0 a = none := by
  by_cases m : a ∈ e.L0
  · exact .inl m
  · refine .inr ?_
    cases y : e.H0 a with
    | none => rfl
    | some u => rw [r.fr a u m y] at h; cases h
theorem nodup_new {L M : List Addr} {H : Hp} (h1 : L.Nodup) (h2 : M.Nodup) (hl : ∀ a ∈ L, ∃ o, H a = some o) (hm : ∀ a ∈ M, H a = none) : (M ++ L).Nodup := by
  rw [List.nodup_append]
  refine ⟨h2, h1, fun a ha b hb q => ?_⟩
  subst q
  obtain ⟨o, z⟩ := hl a hb
  rw [hm a ha] at z
  cases z
theorem as_set {i : Nat} {d : D} {o' : Option D} (h : AE K t env (rO K d)) (hi' : env[i]? = some o') (hp : i ∉ P) (q : A.nx (env.set i (some d))) : AS K P E (tAsg t (gName i)) env A := fun e F σ H L Dn hP r s =>
  h e F σ H L _ r fun v F' H' x ⟨M, o, nd, k⟩ => by
    have hi := (List.getElem?_eq_some_iff.mp hi').1
    have r' := r.ext x
    have hk : ∀ a ∈ M, F' a = none ∧ (a ∈ e.L0 ∨ e.H0 a = none) := fun a m => ⟨(k a m).2, r.h0 (k a m).1⟩
    obtain ⟨L', r2⟩ := r'.set (i := i) o (nodup_new (H := H) r.nd nd (r.slots.lives) fun a m => (k a m).1) hk hi fun p hm z => hp (by rw [hP]; exact List.mem_map.mpr ⟨p, hm, z⟩)
    exact s.nx _ _ _ _ _ q r2
theorem as_if {tc : TT} {t u : TS} {b : Bool} (h : AT K tc env b) (h1 : b = true → AS K P E t env A) (h2 : b = false → AS K P E u env A) : AS K P E (tIfS tc t u) env A := fun e F σ H L Dn hP r s =>
  h e F σ H L _ r fun F' H' x => by
    have r' := r.ext x
    cases b with
    | true => exact h1 rfl e F' σ H' L Dn hP r' s
    | false => exact h2 rfl e F' σ H' L Dn hP r' s
theorem as_ret {d : D} (h : AE K t env (rO K d)) (q : A.rt d env) : AS K P E (tRet t) env A := fun e F σ H L Dn hP r s =>
  h e F σ H L _ r fun v F' H' x ⟨M, o, nd, k⟩ => s.rt d env F' σ H' L v M q (r.ext x) o (nodup_new (H := H) r.nd nd (r.slots.lives) fun a m => (k a m).1) fun a m => ⟨(k a m).2, r.h0 (k a m).1⟩
theorem as_retN (q : A.rt .non env) : AS K P E tRetN env A := fun e F σ H L Dn hP r s => s.rt .non env F σ H L .non [] q r (.sh .non) (by simpa using r.nd) fun a m => nomatch m
/-- what stands in a slot is given back -/
theorem as_retv {i : Nat} {d : D} (h : env[i]? = some (some d)) (q : A.rt d (env.set i none)) : AS K P E (tRet (tVar i)) env A := fun e F σ H L Dn hP r s => by
  obtain ⟨v, Li, Lr, e1, o, sl, nd, m⟩ := r.slots.take r.nd h
  refine ⟨v, e1, ?_⟩
  refine s.rt d (env.set i none) F σ H Lr v Li q ⟨r.sF, sl, (List.nodup_append.mp nd).2.1, fun a ha => r.dj a ((m a).mp (.inr ha)), r.s0, r.nw, r.fr, fun a ha => r.ln a ((m a).mp (.inr ha)), r.pin⟩ o nd fun a ha => ⟨r.dj a ((m a).mp (.inl ha)), r.ln a ((m a).mp (.inl ha))⟩
theorem as_drop {d : D} (h : AE K t env (rV K d)) (q : A.nx env) : AS K P E (tDrop t) env A := fun e F σ H L Dn hP r s =>
  h e F σ H L _ r fun v F' H' x _ => s.nx _ _ _ _ _ q (r.ext x)
end
end Py

namespace Py
open PySem L2
section
variable {K : PySem.W.Frag} {env : Py.Env} {t ta tb tc : TE} {d d1 d2 d3 : D} {i j : Int} {n m : Nat}

def isSh : D → Bool
  | .olst _ => false
  | .odic _ _ => false
  | .odit _ _ => false
  | .oins _ _ _ => false
  | _ => true
theorem Own.shr {F H : Hp} {v : V} {L : List Addr} (o : Own K F H d v L) (h : isSh d = true) : Shr K F d v := by
  cases o with
  | sh y => exact y
  | olst => cases h
  | odic => cases h
  | odit => cases h
  | oins => cases h
theorem Owns.shrs {F H : Hp} : ∀ {ds : List D} {vs : List V} {L : List Addr}, Owns K F H ds vs L → ds.all isSh = true → Shrs K F ds vs
  | _, _, _, .nil, _ => .nil
  | _, _, _, .cons o t, h => by
    rw [List.all_cons, Bool.and_eq_true] at h
    exact .cons (o.shr h.1) (t.shrs h.2)
theorem slot_get {e : Ent} {F H : Hp} {σ : St} {L : List Addr} (r : Rel K e env F σ H L) (h : env[n]? = some (some d)) : ∃ v M, σ[n]? = some (some v) ∧ Own K F H d v M ∧ ∀ a ∈ M, a ∈ L := by
  obtain ⟨v, Li, Lr, e1, o, _, _, m⟩ := r.slots.take r.nd h
  exact ⟨v, Li, e1, o, fun a ha => (m a).mp (.inl ha)⟩
theorem ae_var (h : env[n]? = some (some d)) (s : isSh d = true) : AE K (tVar n) env (rF K d) := fun e F σ H L Q r q => by
  obtain ⟨v, M, e1, o, _⟩ := slot_get r h
  exact ⟨v, e1, q v F H (.refl r.sF) (o.shr s)⟩
theorem ae_varV (h : env[n]? = some (some d)) : AE K (tVar n) env (rV K (fz d)) := fun e F σ H L Q r q => by
  obtain ⟨v, M, e1, o, _⟩ := slot_get r h
  exact ⟨v, e1, q v F H (.refl r.sF) (o.view r.sF fun _ _ _ z => z)⟩
theorem ae_varL {ds : List D} (h : env[n]? = some (some (.olst ds))) (s : ds.all isSh = true) : AE K (tVar n) env (rL K ds) := fun e F σ H L Q r q => by
  obtain ⟨v, M, e1, o, _⟩ := slot_get r h
  cases o with
  | olst ha hs => exact ⟨_, e1, q _ F H (.refl r.sF) ⟨_, _, rfl, .of ha, hs.shrs s⟩⟩
  | sh y => cases y
theorem ae_c {v : V} (h : ∀ F, Shr K F d v) : AE K (tC v) env (rF K d) := fun e F σ H L Q r q => q v F H (.refl r.sF) (h F)
theorem ae_int : AE K (tC (.int i)) env (rF K (.int i)) := ae_c fun _ => .int
theorem ae_bl {b : Bool} : AE K (tC (.bl b)) env (rF K (.bl b)) := ae_c fun _ => .bl
theorem ae_non : AE K (tC .non) env (rF K .non) := ae_c fun _ => .non
theorem ae_str {x : Str} : AE K (tC (.str x)) env (rF K (.str x)) := ae_c fun _ => .str

theorem AE.shr (h : AE K t env (rO K d)) (s : isSh d = true) : AE K t env (rF K d) := h.imp fun _ _ _ _ _ ⟨_, o, _⟩ => o.shr s
theorem rO_sh {F H H0 : Hp} {v : V} (h : Shr K F d v) : rO K d F H H0 v := ⟨[], .sh h, .nil, fun _ m => nomatch m⟩
theorem rO_back {F H H0 H1 : Hp} {v : V} (e : Same H0 H1) (h : rO K d F H H1 v) : rO K d F H H0 v := by
  obtain ⟨L, o, nd, k⟩ := h
  exact ⟨L, o, nd, fun a m => ⟨e.free (k a m).1, (k a m).2⟩⟩
/-- an operation on two values; on two lists of shared data -/
def Op2 (K : PySem.W.Frag) (r : R2) (d1 d2 d : D) : Prop := ∀ (F H : Hp) (v1 v2 : V) (Q : VK), Same F H → Shr K H d1 v1 → Shr K H d2 v2 → (∀ v F' H', Ext F H F' H' → rO K d F' H' H v → Q v H') → r v1 v2 H Q
def Op2L (K : PySem.W.Frag) (r : R2) (ds es : List D) (d : D) : Prop := ∀ (F H : Hp) (a b : Addr) (vs ws : List V) (Q : VK), Same F H → H a = some (.lst vs) → Shrs K F ds vs → H b = some (.lst ws) → Shrs K F es ws → (∀ v F' H', Ext F H F' H' → rO K d F' H' H v → Q v H') → r (.ref a) (.ref b) H Q
theorem ae_op2 {r : R2} (ha : AE K ta env (rV K d1)) (hb : AE K tb env (rV K d2)) (h : Op2 K r d1 d2 d) : AE K (tOp r ta tb) env (rO K d) := fun e F σ H L Q rl q =>
  ha e F σ H L _ rl fun v F1 H1 x1 y1 => hb e F1 σ H1 L _ (rl.ext x1) fun u F2 H2 x2 y2 => h F2 H2 v u Q x2.s (y1.mono x2.h) y2 fun w F3 H3 x3 y3 => q w F3 H3 ((x1.trans x2).trans x3) (rO_back (x1.h.trans x2.h) y3)
/-- a tracked list of shared data -/
def rL' (K : PySem.W.Frag) (ds : List D) : Res := fun F H _ v => ∃ a vs, v = .ref a ∧ H a = some (.lst vs) ∧ Shrs K F ds vs
theorem AE.listT {ds : List D} (h : AE K t env (rF K (.lst ds))) : AE K t env (rL' K ds) := h.imp fun _ _ _ _ s y => by
  cases y with
  | lst a b => exact ⟨_, _, rfl, s _ _ a, b⟩
theorem AE.listO {ds : List D} (h : AE K t env (rO K (.olst ds))) (k : ds.all isSh = true) : AE K t env (rL' K ds) := h.imp fun _ _ _ _ s ⟨L, o, _⟩ => by
  cases o with
  | olst a b => exact ⟨_, _, rfl, a, b.shrs k⟩
  | sh y => cases y
theorem ae_varT {ds : List D} (h : env[n]? = some (some (.olst ds))) (s : ds.all isSh = true) : AE K (tVar n) env (rL' K ds) := fun e F σ H L Q r q => by
  obtain ⟨v, M, e1, o, _⟩ := slot_get r h
  cases o with
  | olst ha hs => exact ⟨_, e1, q _ F H (.refl r.sF) ⟨_, _, rfl, ha, hs.shrs s⟩⟩
  | sh y => cases y
theorem ae_op2L {r : R2} {ds es : List D} (ha : AE K ta env (rL' K ds)) (hb : AE K tb env (rL' K es)) (h : Op2L K r ds es d) : AE K (tOp r ta tb) env (rO K d) := fun e F σ H L Q rl q =>
  ha e F σ H L _ rl fun v F1 H1 x1 y1 => hb e F1 σ H1 L _ (rl.ext x1) fun u F2 H2 x2 y2 => by
    obtain ⟨a, vs, rfl, ha, sa⟩ := y1
    obtain ⟨b, ws, rfl, hb, sb⟩ := y2
    exact h F2 H2 a b vs ws Q x2.s (x2.h _ _ ha) (sa.mono x2.f) hb sb fun w F3 H3 x3 y3 => q w F3 H3 ((x1.trans x2).trans x3) (rO_back (x1.h.trans x2.h) y3)
theorem o2_l {r r' : R2} (h : Op2 K r d1 d2 d) : Op2 K (fun x y H Q => r x y H Q ∨ r' x y H Q) d1 d2 d := fun F H v1 v2 Q s a b q => .inl (h F H v1 v2 Q s a b q)
theorem o2_r {r r' : R2} (h : Op2 K r' d1 d2 d) : Op2 K (fun x y H Q => r x y H Q ∨ r' x y H Q) d1 d2 d := fun F H v1 v2 Q s a b q => .inr (h F H v1 v2 Q s a b q)
theorem o2L_l {r r' : R2} {ds es : List D} (h : Op2L K r ds es d) : Op2L K (fun x y H Q => r x y H Q ∨ r' x y H Q) ds es d := fun F H a b v w Q s x1 x2 x3 x4 q => .inl (h F H a b v w Q s x1 x2 x3 x4 q)
theorem o2L_r {r r' : R2} {ds es : List D} (h : Op2L K r' ds es d) : Op2L K (fun x y H Q => r x y H Q ∨ r' x y H Q) ds es d := fun F H a b v w Q s x1 x2 x3 x4 q => .inr (h F H a b v w Q s x1 x2 x3 x4 q)
theorem o2_i {g : Int → Int → V} (hg : ∀ F, Shr K F d (g i j)) : Op2 K (rI0 g) (.int i) (.int j) d := fun F H v1 v2 Q s a b q => by
  cases a; cases b
  exact ⟨i, j, rfl, rfl, q _ F H (.refl s) (rO_sh (hg _))⟩
theorem o2_ic {C : Int → Int → Prop} {g : Int → Int → V} (hc : C i j) (hg : ∀ F, Shr K F d (g i j)) : Op2 K (rI C g) (.int i) (.int j) d := fun F H v1 v2 Q s a b q => by
  cases a; cases b
  exact ⟨i, j, rfl, rfl, hc, q _ F H (.refl s) (rO_sh (hg _))⟩
theorem ae_u {g : Int → V} (ha : AE K ta env (rV K (.int i))) (hg : ∀ F, Shr K F d (g i)) : AE K (tUn (rU g) ta) env (rF K d) := fun e F σ H L Q r q =>
  ha e F σ H L _ r fun v F1 H1 x1 y1 => by
    cases y1
    exact ⟨i, rfl, q _ F1 H1 x1 (hg _)⟩
/-- a flat value -/
def fl : D → Option V
  | .non => some .non
  | .bl b => some (.bl b)
  | .int i => some (.int i)
  | .str x => some (.str x)
  | _ => none
theorem Shr.fl {F : Hp} {v u : V} (h : Shr K F d v) (e : Py.fl d = some u) : v = u := by
  cases h <;> (first | (cases e; rfl) | cases e)
theorem o2_eqF {u1 u2 : V} (h1 : fl d1 = some u1) (h2 : fl d2 = some u2) (hs : scal u1 u2 = true) : Op2 K rEq d1 d2 (.bl (decide (u1 = u2))) := fun F H v1 v2 Q s a b q => by
  cases a.fl h1; cases b.fl h2
  exact ⟨hs, q _ F H (.refl s) (rO_sh .bl)⟩
theorem o2_neF {u1 u2 : V} (h1 : fl d1 = some u1) (h2 : fl d2 = some u2) (hs : scal u1 u2 = true) : Op2 K rNe d1 d2 (.bl (!decide (u1 = u2))) := fun F H v1 v2 Q s a b q => by
  cases a.fl h1; cases b.fl h2
  exact ⟨hs, q _ F H (.refl s) (rO_sh .bl)⟩
theorem decI {i j : Int} : decide (V.int i = V.int j) = decide (i = j) := by simp
theorem decS {i j : Str} : decide (V.str i = V.str j) = decide (i = j) := by simp
theorem decB {i j : Bool} : decide (V.bl i = V.bl j) = decide (i = j) := by simp
theorem o2_eqI : Op2 K rEq (.int i) (.int j) (.bl (decide (i = j))) := by rw [← decI]; exact o2_eqF rfl rfl rfl
theorem o2_neI : Op2 K rNe (.int i) (.int j) (.bl (!decide (i = j))) := by rw [← decI]; exact o2_neF rfl rfl rfl
theorem o2_eqS {x y : Str} : Op2 K rEq (.str x) (.str y) (.bl (decide (x = y))) := by rw [← decS]; exact o2_eqF rfl rfl rfl
theorem o2_neS {x y : Str} : Op2 K rNe (.str x) (.str y) (.bl (!decide (x = y))) := by rw [← decS]; exact o2_neF rfl rfl rfl
theorem o2_eqB {x y : Bool} : Op2 K rEq (.bl x) (.bl y) (.bl (decide (x = y))) := by rw [← decB]; exact o2_eqF rfl rfl rfl
theorem o2_neB {x y : Bool} : Op2 K rNe (.bl x) (.bl y) (.bl (!decide (x = y))) := by rw [← decB]; exact o2_neF rfl rfl rfl
mutual
def pd : D → Option PyData
  | .non => some .none
  | .bl b => some (.bool b)
  | .int i => some (.int i)
  | .str x => some (.str x)
  | .scr ns => some (.list (ns.map PyData.int))
  | .tup xs => (pds xs).map PyData.tuple
  | .lst xs => (pds xs).map PyData.list
  | _ => none
def pds : List D → Option (List PyData)
  | [] => some []
  | d :: ds => match pd d, pds ds with
    | some x, some xs => some (x :: xs)
    | _, _ => none
end
theorem dpAll_ints {H : Hp} : ∀ ns : List Int, DpAll K H (ns.map V.int) (ns.map PyData.int)
  | [] => .nil
  | n :: ns => .cons (.int n) (dpAll_ints ns)
mutual
theorem Shr.dp {H : Hp} : ∀ {d : D} {v : V} {x : PyData}, Shr K H d v → pd d = some x → Dp K H v x
  | _, _, _, .non, e => by rw [pd] at e; cases e; exact .non
  | _, _, _, .bl, e => by rw [pd] at e; cases e; exact .bl _
  | _, _, _, .int, e => by rw [pd] at e; cases e; exact .int _
  | _, _, _, .str, e => by rw [pd] at e; cases e; exact .str _
  | _, _, _, .scr h, e => by rw [pd] at e; cases e; exact .lst h (dpAll_ints _)
  | .tup xs, _, _, .tup h hs, e => by
    rw [pd] at e
    cases q : pds xs with
    | none => rw [q] at e; cases e
    | some ys => rw [q] at e; cases e; exact .tup (.of h) (Shrs.dp hs q)
  | .lst xs, _, _, .lst h hs, e => by
    rw [pd] at e
    cases q : pds xs with
    | none => rw [q] at e; cases e
    | some ys => rw [q] at e; cases e; exact .lst (.of h) (Shrs.dp hs q)
  | _, _, _, .ref, e => by rw [pd] at e <;> cases e
  | _, _, _, .ty, e => by rw [pd] at e <;> cases e
  | _, _, _, .dic _ _ _, e => by rw [pd] at e <;> cases e
  | _, _, _, .dit _ _ _, e => by rw [pd] at e <;> cases e
  | _, _, _, .ins _ _ _, e => by rw [pd] at e <;> cases e
theorem Shrs.dp {H : Hp} : ∀ {ds : List D} {vs : List V} {xs : List PyData}, Shrs K H ds vs → pds ds = some xs → DpAll K H vs xs
  | _, _, _, .nil, e => by rw [pds] at e; cases e; exact .nil
  | d :: ds, _, _, .cons h t, e => by
    rw [pds] at e
    cases q1 : pd d with
    | none => rw [q1] at e; cases e
    | some x =>
      cases q2 : pds ds with
      | none => rw [q1, q2] at e; cases e
      | some xs => rw [q1, q2] at e; cases e; exact .cons (Shr.dp h q1) (Shrs.dp t q2)
end
theorem o2_eqD {x y : PyData} (h1 : pd d1 = some x) (h2 : pd d2 = some y) (s1 : SeqAt.shaped x = true) (s2 : SeqAt.shaped y = true) : Op2 K (rEqD K) d1 d2 (.bl (PyData.eqv x y)) := fun F H v1 v2 Q s a b q =>
  ⟨x, y, a.dp h1, b.dp h2, s1, s2, q _ F H (.refl s) (rO_sh .bl)⟩
theorem o2_neD {x y : PyData} (h1 : pd d1 = some x) (h2 : pd d2 = some y) (s1 : SeqAt.shaped x = true) (s2 : SeqAt.shaped y = true) : Op2 K (rNeD K) d1 d2 (.bl (!PyData.eqv x y)) := fun F H v1 v2 Q s a b q =>
  ⟨x, y, a.dp h1, b.dp h2, s1, s2, q _ F H (.refl s) (rO_sh .bl)⟩
theorem o2L_cat {ds es : List D} (hl : ds.length + es.length ≤ 1000000) : Op2L K rCat ds es (.olst (ds ++ es)) := fun F H a b vs ws Q s ha sa hb sb q =>
  ⟨a, b, vs, ws, rfl, rfl, ha, hb, by rw [← sa.length, ← sb.length]; exact Nat.le_trans hl (by decide), fun p hp => q _ F _ (.newH s hp) ⟨[p], .olst upd_same (sa.append sb).owns, by simp, fun x m => by
    rw [List.mem_singleton.mp m]; exact ⟨hp, s.free hp⟩⟩⟩
/-- calls of built-ins: by values; of one list of shared data -/
def Cb (K : PySem.W.Frag) (r : List V → Hp → VK → Prop) (ds : List D) (d : D) : Prop := ∀ (F H : Hp) (vs : List V) (Q : VK), Same F H → Shrs K H ds vs → (∀ v F' H', Ext F H F' H' → rO K d F' H' H v → Q v H') → r vs H Q
def CbL (K : PySem.W.Frag) (r : List V → Hp → VK → Prop) (ds : List D) (d : D) : Prop := ∀ (F H : Hp) (a : Addr) (vs : List V) (Q : VK), Same F H → H a = some (.lst vs) → Shrs K F ds vs → (∀ v F' H', Ext F H F' H' → rO K d F' H' H v → Q v H') → r [.ref a] H Q
theorem ae_cb {r : List V → Hp → VK → Prop} {tr : TA} {ds : List D} (h : AA K tr env (rVs K ds)) (hc : Cb K r ds d) : AE K (tCB r tr) env (rO K d) := fun e F σ H L Q rl q =>
  h e F σ H L _ rl fun vs F1 H1 x1 y1 => hc F1 H1 vs Q x1.s y1 fun w F3 H3 x3 y3 => q w F3 H3 (x1.trans x3) (rO_back x1.h y3)
theorem ae_cbL {r : List V → Hp → VK → Prop} {ds : List D} (h : AE K t env (rL' K ds)) (hc : CbL K r ds d) : AE K (tCB r (tCons t tNil)) env (rO K d) := fun e F σ H L Q rl q =>
  h e F σ H L _ rl fun v F1 H1 x1 y1 => by
    obtain ⟨a, vs, rfl, ha, sa⟩ := y1
    exact hc F1 H1 a vs Q x1.s ha sa fun w F3 H3 x3 y3 => q w F3 H3 (x1.trans x3) (rO_back x1.h y3)
theorem cb_l {r r' : List V → Hp → VK → Prop} {ds : List D} (h : Cb K r ds d) : Cb K (fun xs H Q => r xs H Q ∨ r' xs H Q) ds d := fun F H vs Q s a q => .inl (h F H vs Q s a q)
theorem cb_r {r r' : List V → Hp → VK → Prop} {ds : List D} (h : Cb K r' ds d) : Cb K (fun xs H Q => r xs H Q ∨ r' xs H Q) ds d := fun F H vs Q s a q => .inr (h F H vs Q s a q)
theorem cbL_l {r r' : List V → Hp → VK → Prop} {ds : List D} (h : CbL K r ds d) : CbL K (fun xs H Q => r xs H Q ∨ r' xs H Q) ds d := fun F H a vs Q s x y q => .inl (h F H a vs Q s x y q)
theorem cbL_r {r r' : List V → Hp → VK → Prop} {ds : List D} (h : CbL K r' ds d) : CbL K (fun xs H Q => r xs H Q ∨ r' xs H Q) ds d := fun F H a vs Q s x y q => .inr (h F H a vs Q s x y q)
def isNon : D → Bool
  | .non => true
  | _ => false
theorem Shr.non_iff {F : Hp} {v : V} (h : Shr K F d v) : decide (v = V.non) = isNon d := by
  cases h <;> first | rfl | (simp [isNon])
theorem ae_isN (ha : AE K ta env (rV K d)) : AE K (tOp (fun x y H Q => y = .non ∧ Q (.bl (decide (x = .non))) H) ta (tC .non)) env (rF K (.bl (isNon d))) := fun e F σ H L Q r q =>
  ha e F σ H L _ r fun v F1 H1 x1 y1 => ⟨rfl, by rw [y1.non_iff]; exact q _ F1 H1 x1 .bl⟩
theorem ae_notN (ha : AE K ta env (rV K d)) : AE K (tOp (fun x y H Q => y = .non ∧ Q (.bl (!decide (x = .non))) H) ta (tC .non)) env (rF K (.bl (!isNon d))) := fun e F σ H L Q r q =>
  ha e F σ H L _ r fun v F1 H1 x1 y1 => ⟨rfl, by rw [y1.non_iff]; exact q _ F1 H1 x1 .bl⟩
theorem ae_andV {a b : Bool} (ha : AE K ta env (rV K (.bl a))) (hb : a = true → AE K tb env (rV K (.bl b))) : AE K (tAndV ta tb) env (rF K (.bl (a && b))) := fun e F σ H L Q r q =>
  ha e F σ H L _ r fun v F1 H1 x1 y1 => by
    cases y1
    refine ⟨a, rfl, ?_⟩
    cases a with
    | true => exact hb rfl e F1 σ H1 L _ (r.ext x1) fun u F2 H2 x2 y2 => by cases y2; exact q _ F2 H2 (x1.trans x2) .bl
    | false => exact q _ F1 H1 x1 .bl
theorem ae_orV {a b : Bool} (ha : AE K ta env (rV K (.bl a))) (hb : a = false → AE K tb env (rV K (.bl b))) : AE K (tOrV ta tb) env (rF K (.bl (a || b))) := fun e F σ H L Q r q =>
  ha e F σ H L _ r fun v F1 H1 x1 y1 => by
    cases y1
    refine ⟨a, rfl, ?_⟩
    cases a with
    | false => exact hb rfl e F1 σ H1 L _ (r.ext x1) fun u F2 H2 x2 y2 => by cases y2; exact q _ F2 H2 (x1.trans x2) .bl
    | true => exact q _ F1 H1 x1 .bl
theorem ae_notV {a : Bool} (ha : AE K ta env (rV K (.bl a))) : AE K (tNotV ta) env (rF K (.bl (!a))) := fun e F σ H L Q r q =>
  ha e F σ H L _ r fun v F1 H1 x1 y1 => by
    cases y1
    exact ⟨a, rfl, q _ F1 H1 x1 .bl⟩
variable {tt tu : TT} {a b : Bool}
theorem at_test (h : AE K t env (rV K (.bl b))) : AT K (tTest t) env b := fun e F σ H L Q r q => h e F σ H L _ r fun v F1 H1 x1 y1 => by
  cases y1
  exact ⟨b, rfl, q F1 H1 x1⟩
theorem at_B (h : AE K t env (rV K (.bl b))) : AT K (tB t) env b := fun e F σ H L Q r q => h e F σ H L _ r fun v F1 H1 x1 y1 => by
  cases y1
  exact ⟨b, rfl, q F1 H1 x1⟩
theorem at_and (h1 : AT K tt env a) (h2 : a = true → AT K tu env b) : AT K (tAnd tt tu) env (a && b) := fun e F σ H L Q r q => h1 e F σ H L _ r fun F1 H1 x1 => by
  cases a with
  | true => exact h2 rfl e F1 σ H1 L _ (r.ext x1) fun F2 H2 x2 => q F2 H2 (x1.trans x2)
  | false => exact q F1 H1 x1
theorem at_or (h1 : AT K tt env a) (h2 : a = false → AT K tu env b) : AT K (tOr tt tu) env (a || b) := fun e F σ H L Q r q => h1 e F σ H L _ r fun F1 H1 x1 => by
  cases a with
  | false => exact h2 rfl e F1 σ H1 L _ (r.ext x1) fun F2 H2 x2 => q F2 H2 (x1.trans x2)
  | true => exact q F1 H1 x1
theorem at_not (h1 : AT K tt env a) : AT K (tNot tt) env (!a) := fun e F σ H L Q r q => h1 e F σ H L _ r fun F1 H1 x1 => q F1 H1 x1
theorem ae_if (h : AT K tt env b) (h1 : b = true → AE K ta env (rF K d1)) (h2 : b = false → AE K tb env (rF K d2)) : AE K (tIf tt ta tb) env (rF K (if b = true then d1 else d2)) := fun e F σ H L Q r q =>
  h e F σ H L _ r fun F1 H1 x1 => by
    cases b with
    | true => exact h1 rfl e F1 σ H1 L _ (r.ext x1) fun v F2 H2 x2 y2 => q v F2 H2 (x1.trans x2) y2
    | false => exact h2 rfl e F1 σ H1 L _ (r.ext x1) fun v F2 H2 x2 y2 => q v F2 H2 (x1.trans x2) y2
theorem ae_ifR {R : Res} (h : AT K tt env b) (h1 : b = true → AE K ta env R) (h2 : b = false → AE K tb env R) (hm : ∀ F H H0 H1 v, Same H0 H1 → R F H H1 v → R F H H0 v) : AE K (tIf tt ta tb) env R := fun e F σ H L Q r q =>
  h e F σ H L _ r fun F1 H1 x1 => by
    cases b with
    | true => exact h1 rfl e F1 σ H1 L _ (r.ext x1) fun v F2 H2 x2 y2 => q v F2 H2 (x1.trans x2) (hm _ _ _ _ _ x1.h y2)
    | false => exact h2 rfl e F1 σ H1 L _ (r.ext x1) fun v F2 H2 x2 y2 => q v F2 H2 (x1.trans x2) (hm _ _ _ _ _ x1.h y2)

variable {tr : TA} {ds : List D}
theorem aa_nil : AA K tNil env (rFs K []) := fun e F σ H L Q r q => q [] F H (.refl r.sF) .nil
theorem aa_nilV : AA K tNil env (rVs K []) := fun e F σ H L Q r q => q [] F H (.refl r.sF) .nil
theorem aa_cons (ha : AE K t env (rF K d)) (hr : AA K tr env (rFs K ds)) : AA K (tCons t tr) env (rFs K (d :: ds)) := fun e F σ H L Q r q =>
  ha e F σ H L _ r fun v F1 H1 x1 y1 => hr e F1 σ H1 L _ (r.ext x1) fun vs F2 H2 x2 y2 => q _ F2 H2 (x1.trans x2) (.cons (y1.mono x2.f) y2)
theorem aa_consV (ha : AE K t env (rV K d)) (hr : AA K tr env (rVs K ds)) : AA K (tCons t tr) env (rVs K (d :: ds)) := fun e F σ H L Q r q =>
  ha e F σ H L _ r fun v F1 H1 x1 y1 => hr e F1 σ H1 L _ (r.ext x1) fun vs F2 H2 x2 y2 => q _ F2 H2 (x1.trans x2) (.cons (y1.mono x2.h) y2)
theorem AA.view (h : AA K tr env (rFs K ds)) : AA K tr env (rVs K ds) := fun e F σ H L Q r q => h e F σ H L _ r fun v F1 H1 x1 y1 => q v F1 H1 x1 (Shrs.mono x1.s y1)
theorem sz_le {n : Nat} (h : n ≤ 1000000) : n ≤ sizeLine := Nat.le_trans h (by decide)
theorem ae_tup (h : AA K tr env (rFs K ds)) (hl : ds.length ≤ 1000000) : AE K (tTup tr) env (rF K (.tup ds)) := fun e F σ H L Q r q =>
  h e F σ H L _ r fun vs F1 H1 x1 y1 => ⟨by rw [← y1.length]; exact sz_le hl, fun p hp =>
    q _ (upd F1 p (.tup vs)) _ (x1.trans (.new x1.s hp)) (.tup upd_same (y1.mono (same_new (x1.s.free hp))))⟩
theorem ae_lst (h : AA K tr env (rFs K ds)) (hl : ds.length ≤ 1000000) : AE K (tLst tr) env (rO K (.olst ds)) := fun e F σ H L Q r q =>
  h e F σ H L _ r fun vs F1 H1 x1 y1 => ⟨by rw [← y1.length]; exact sz_le hl, fun p hp =>
    q _ F1 _ (x1.trans (.newH x1.s hp)) ⟨[p], .olst upd_same y1.owns, by simp, fun a m => by
      rw [List.mem_singleton.mp m]; exact ⟨x1.h.free hp, x1.s.free hp⟩⟩⟩

abbrev rLenU (K : PySem.W.Frag) : List V → Hp → VK → Prop := fun xs H Q => ∃ p ys, xs = [.ref p] ∧ (SqL K H p ys ∨ SqT K H p ys) ∧ Q (.int ys.length) H
theorem cb_lenL {ds : List D} : Cb K (rLenU K) [.lst ds] (.int ds.length) := fun F H vs Q s a q => by
  cases a with
  | cons a b =>
    cases b
    cases a with
    | lst a b => exact ⟨_, _, rfl, .inl (.of a), q _ F H (.refl s) (rO_sh (by rw [b.length]; exact .int))⟩
theorem cb_lenT {ds : List D} : Cb K (rLenU K) [.tup ds] (.int ds.length) := fun F H vs Q s a q => by
  cases a with
  | cons a b =>
    cases b
    cases a with
    | tup a b => exact ⟨_, _, rfl, .inr (.of a), q _ F H (.refl s) (rO_sh (by rw [b.length]; exact .int))⟩
theorem cb_lenS {ns : List Int} : Cb K (rLenU K) [.scr ns] (.int ns.length) := fun F H vs Q s a q => by
  cases a with
  | cons a b =>
    cases b
    cases a with
    | scr a => exact ⟨_, _, rfl, .inl a, q _ F H (.refl s) (rO_sh (by rw [List.length_map]; exact .int))⟩
theorem atI_shr {F : Hp} {vs : List V} (h : Shrs K F ds vs) (ha : atI ds i = some d) : ∃ v, atI vs i = some v ∧ Shr K F d v := by
  unfold atI at ha ⊢
  rw [← h.length]
  cases e : ixN ds.length i with
  | none => rw [e] at ha; cases ha
  | some j =>
    rw [e] at ha
    exact h.get ha
def rIxU (K : PySem.W.Frag) : R2 := fun x y H Q => rIxL K x y H Q ∨ rIxT K x y H Q
theorem ae_ixL (h : AE K ta env (rL K ds)) (hb : AE K tb env (rV K (.int i))) (ha : atI ds i = some d) : AE K (tOp (rIxU K) ta tb) env (rF K d) := fun e F σ H L Q r q =>
  h e F σ H L _ r fun v F1 H1 x1 y1 => hb e F1 σ H1 L _ (r.ext x1) fun u F2 H2 x2 y2 => by
    obtain ⟨a, vs, rfl, hs, hd⟩ := y1
    cases y2
    obtain ⟨w, hw, sw⟩ := atI_shr hd ha
    exact .inl ⟨a, vs, i, w, rfl, rfl, x2.h.seq hs, hw, q _ F2 H2 (x1.trans x2) (sw.mono x2.f)⟩
theorem ae_ixV (h : AE K ta env (rV K d1)) (hb : AE K tb env (rV K (.int i))) (hd : d1 = .lst ds ∨ d1 = .tup ds) (ha : atI ds i = some d) : AE K (tOp (rIxU K) ta tb) env (rV K d) := fun e F σ H L Q r q =>
  h e F σ H L _ r fun v F1 H1 x1 y1 => hb e F1 σ H1 L _ (r.ext x1) fun u F2 H2 x2 y2 => by
    cases y2
    rcases hd with rfl | rfl
    · cases y1 with
      | lst hs hd =>
        obtain ⟨w, hw, sw⟩ := atI_shr hd ha
        exact .inl ⟨_, _, i, w, rfl, rfl, .of (x2.h _ _ hs), hw, q _ F2 H2 (x1.trans x2) (sw.mono x2.h)⟩
    · cases y1 with
      | tup hs hd =>
        obtain ⟨w, hw, sw⟩ := atI_shr hd ha
        exact .inr ⟨_, _, i, w, rfl, rfl, .of (x2.h _ _ hs), hw, q _ F2 H2 (x1.trans x2) (sw.mono x2.h)⟩
theorem ae_ixS {ns : List Int} (h : AE K ta env (rV K (.scr ns))) (hb : AE K tb env (rV K (.int i))) (ha : atI ns i = some j) : AE K (tOp (rIxU K) ta tb) env (rF K (.int j)) := fun e F σ H L Q r q =>
  h e F σ H L _ r fun v F1 H1 x1 y1 => hb e F1 σ H1 L _ (r.ext x1) fun u F2 H2 x2 y2 => by
    cases y1 with
    | scr hs =>
      cases y2
      refine .inl ⟨_, _, i, .int j, rfl, rfl, x2.h.seq hs, ?_, q _ F2 H2 (x1.trans x2) .int⟩
      unfold atI at ha ⊢
      rw [List.length_map]
      cases e : ixN ns.length i with
      | none => rw [e] at ha; cases ha
      | some j' =>
        rw [e] at ha
        show (ns.map V.int)[j']? = _
        rw [List.getElem?_map, show ns[j']? = some j from ha]; rfl
theorem ae_ixT (h : AE K ta env (rF K (.tup ds))) (hb : AE K tb env (rV K (.int i))) (ha : atI ds i = some d) : AE K (tOp (rIxU K) ta tb) env (rF K d) := fun e F σ H L Q r q =>
  h e F σ H L _ r fun v F1 H1 x1 y1 => hb e F1 σ H1 L _ (r.ext x1) fun u F2 H2 x2 y2 => by
    cases y1 with
    | tup hs hd =>
      cases y2
      obtain ⟨w, hw, sw⟩ := atI_shr hd ha
      exact .inr ⟨_, _, i, w, rfl, rfl, .of (x2.h _ _ (x1.s _ _ hs)), hw, q _ F2 H2 (x1.trans x2) (sw.mono x2.f)⟩
theorem AE.isV (h : AE K t env (rV K d)) (e : d = d1) : AE K t env (rV K d1) := e ▸ h
theorem AE.isF (h : AE K t env (rF K d)) (e : d = d1) : AE K t env (rF K d1) := e ▸ h
theorem AE.isO (h : AE K t env (rO K d)) (e : d = d1) : AE K t env (rO K d1) := e ▸ h
theorem AT.is {tt : TT} {b c : Bool} (h : AT K tt env b) (e : b = c) : AT K tt env c := e ▸ h
theorem at_tru {b : Bool} (h : AE K t env (rV K (.bl b))) : AT K (fun σ H Q => t σ H fun x H' => ∃ k, TruV K x H' k ∧ Q k H') env b := fun e F σ H L Q r q => h e F σ H L _ r fun v F1 H1 x1 y1 => by
  cases y1
  exact ⟨b, rfl, q F1 H1 x1⟩
theorem at_truI (h : AE K t env (rV K (.int i))) : AT K (fun σ H Q => t σ H fun x H' => ∃ k, TruV K x H' k ∧ Q k H') env (i != 0) := fun e F σ H L Q r q => h e F σ H L _ r fun v F1 H1 x1 y1 => by
  cases y1
  exact ⟨_, rfl, q F1 H1 x1⟩
theorem at_truL (h : AE K t env (rV K (.lst ds))) : AT K (fun σ H Q => t σ H fun x H' => ∃ k, TruV K x H' k ∧ Q k H') env (!ds.isEmpty) := fun e F σ H L Q r q => h e F σ H L _ r fun v F1 H1 x1 y1 => by
  cases y1 with
  | lst a b => exact ⟨_, .inl ⟨_, .of a, rfl⟩, by
      have : (!ds.isEmpty) = !(by assumption : List V).isEmpty := by cases b <;> rfl
      rw [← this]; exact q F1 H1 x1⟩
theorem cb_int : Cb K (fun xs H Q => (∃ i, xs = [.int i] ∧ Q (.int i) H) ∨ ∃ k, xs = [.bl k] ∧ Q (.int (if k then 1 else 0)) H) [.int i] (.int i) := fun F H vs Q s a q => by
  cases a with
  | cons a b =>
    cases b; cases a
    exact .inl ⟨i, rfl, q _ F H (.refl s) (rO_sh .int)⟩
theorem cb_abs : Cb K (fun xs H Q => ∃ i, xs = [.int i] ∧ Q (.int (if i < 0 then -i else i)) H) [.int i] (.int (if i < 0 then -i else i)) := fun F H vs Q s a q => by
  cases a with
  | cons a b =>
    cases b; cases a
    exact ⟨i, rfl, q _ F H (.refl s) (rO_sh .int)⟩
theorem cb_max2 : Cb K (fun xs H Q => ∃ i j, xs = [.int i, .int j] ∧ Q (.int (if j > i then j else i)) H) [.int i, .int j] (.int (if j > i then j else i)) := fun F H vs Q s a q => by
  cases a with
  | cons a b =>
    cases b with
    | cons b c =>
      cases c; cases b; cases a
      exact ⟨i, j, rfl, q _ F H (.refl s) (rO_sh .int)⟩
theorem cb_min2 : Cb K (fun xs H Q => ∃ i j, xs = [.int i, .int j] ∧ Q (.int (if j < i then j else i)) H) [.int i, .int j] (.int (if j < i then j else i)) := fun F H vs Q s a q => by
  cases a with
  | cons a b =>
    cases b with
    | cons b c =>
      cases c; cases b; cases a
      exact ⟨i, j, rfl, q _ F H (.refl s) (rO_sh .int)⟩
/-- list(xs), tuple(xs) -/
theorem cbL_list {ds : List D} : CbL K (fun xs H Q => ∃ p ys, xs = [.ref p] ∧ (SqL K H p ys ∨ SqT K H p ys) ∧ ∀ l, H l = none → Q (.ref l) (upd H l (.lst ys))) ds (.olst ds) := fun F H a vs Q s x y q =>
  ⟨a, vs, rfl, .inl (.of x), fun p hp => q _ F _ (.newH s hp) ⟨[p], .olst upd_same y.owns, by simp, fun x m => by
    rw [List.mem_singleton.mp m]; exact ⟨hp, s.free hp⟩⟩⟩
theorem cbL_tuple {ds : List D} : CbL K (fun xs H Q => ∃ p ys, xs = [.ref p] ∧ ((SqL K H p ys ∧ ∀ l, H l = none → Q (.ref l) (upd H l (.tup ys))) ∨ (SqT K H p ys ∧ Q (.ref p) H))) ds (.tup ds) := fun F H a vs Q s x y q =>
  ⟨a, vs, rfl, .inl ⟨.of x, fun p hp => q _ (upd F p (.tup vs)) _ (.new s hp) (rO_sh (.tup upd_same (y.mono (same_new (s.free hp)))))⟩⟩
/-- the name of a thing's built-in type -/
def tyN : D → Option String
  | .non => some "NoneType"
  | .bl _ => some "bool"
  | .int _ => some "int"
  | .str _ => some "str"
  | .lst _ => some "list"
  | .tup _ => some "tuple"
  | .dic _ _ => some "dict"
  | .dit _ _ => some "dict"
  | _ => none
theorem Shr.ty' {H : Hp} {v : V} {x : String} (h : Shr K H d v) (e : tyN d = some x) : TyX K H v (.type x) := by
  cases h with
  | non => cases e; exact .base .non
  | bl => cases e; exact .base (.bl _)
  | int => cases e; exact .base (.int _)
  | str => cases e; exact .base (.str _)
  | lst h => cases e; exact .base (.lst h)
  | tup h => cases e; exact .base (.tup h)
  | dic h => cases e; exact .base (.dK h)
  | dit h => cases e; exact .base (.dT h)
  | scr => cases e
  | ref => cases e
  | ty => cases e
  | ins => cases e
theorem cb_isi {x c : String} {b : Bool} (h : tyN d = some x) (hb : kitB x c = some b) : Cb K (rIsi K) [d, .ty c] (.bl b) := fun F H vs Q s a q => by
  cases a with
  | cons a1 a2 =>
    cases a2 with
    | cons a2 a3 =>
      cases a3; cases a2
      exact ⟨_, _, _, _, b, rfl, .ty c, a1.ty' h, kit_ty hb, q _ F H (.refl s) (rO_sh .bl)⟩
/-- a def that changes nothing that stood: arguments shared; where it is claimed, what it may give, what it may raise -/
def spP (K : PySem.W.Frag) (pre : List D → Prop) (post : List D → D → Prop) (exc : List D → Exn → Prop) : Sp := fun vs H Q E => ∃ F args, Same F H ∧ Shrs K F args vs ∧ pre args ∧
  (∀ res F' H' v M, post args res → Ext F H F' H' → Own K F' H' res v M → M.Nodup → (∀ a ∈ M, H a = none ∧ F' a = none) → Q v H') ∧
  (∀ x F' H' C dd, exc args x → Ext F H F' H' → IsExn K F' H' x C dd → E C dd H')
abbrev noX : List D → Exn → Prop := fun _ _ => False
theorem slots_start {F H : Hp} : ∀ {ds : List D} {vs : List V} (k : Nat), Shrs K F ds vs → Slots K F H (ds.map some ++ List.replicate k none) (vs.map some ++ List.replicate k none) []
  | [], [], 0, .nil => .nil
  | [], [], k + 1, .nil => .no (slots_start k .nil)
  | _ :: _, _ :: _, k, .cons h t => Slots.so (L := []) (M := []) (.sh h) (slots_start k t)
theorem fn_P {pre : List D → Prop} {post : List D → D → Prop} {exc : List D → Exn → Prop} {N : List Str} {vs : List V} {H : Hp} {Q : VK} {E : XK} {tS : TS} (hsp : spP K pre post exc vs H Q E)
    (h : ∀ args, pre args → args.length = vs.length → AS K [] E tS (args.map some ++ List.replicate (N.length - args.length) none) { nx := fun _ => post args .non, rt := fun d _ => post args d, ex := fun x _ => exc args x }) :
    tS { nx := fun _ H' => Q .non H', rt := Q } (L2.start N vs) H := by
  obtain ⟨F, args, s, hS, hp, k1, k2⟩ := hsp
  have hr : Rel K ⟨F, H, [], []⟩ (args.map some ++ List.replicate (N.length - args.length) none) F (L2.start N vs) H [] := {
    sF := s
    slots := by unfold L2.start; rw [hS.length]; exact slots_start _ hS
    nd := .nil
    dj := fun _ m => nomatch m
    s0 := Same.refl _
    nw := fun _ _ h => .inl h
    fr := fun _ _ _ h => h
    ln := fun _ m => nomatch m
    pin := fun _ m => nomatch m }
  have ex : ∀ {env' : Py.Env} {F' : Hp} {σ' : St} {H' : Hp} {L' : List Addr}, Rel K ⟨F, H, [], []⟩ env' F' σ' H' L' → Ext F H F' H' := fun r =>
    ⟨r.s0, r.sF, fun a o h => r.fr a o (by simp) h, fun a o h => by
      rcases r.nw a o h with q | q | q
      · exact .inl q
      · exact .inr q
      · cases q⟩
  refine h args hp hS.length ⟨F, H, [], []⟩ F _ H [] _ rfl hr ⟨fun env' F' σ' H' L' q r => ?_, fun d env' F' σ' H' L' v M q r o nd k => ?_, fun _ _ _ _ _ q => q.elim, fun _ _ _ _ _ q => q.elim, fun x env' F' σ' H' L' C dd q r y => ?_⟩
  · exact k1 .non F' H' .non [] q (ex r) (.sh .non) .nil fun _ m => nomatch m
  · refine k1 d F' H' v M q (ex r) o (List.nodup_append.mp nd).1 fun a m => ?_
    obtain ⟨h1, h2⟩ := k a m
    rcases h2 with z | z
    · cases z
    · exact ⟨z, h1⟩
  · exact k2 x F' H' C dd q (ex r) y
theorem spP_len {pre : List D → Prop} {post : List D → D → Prop} {exc : List D → Exn → Prop} {n : Nat} (h : ∀ args, pre args → args.length = n) : ∀ vs H Q E, spP K pre post exc vs H Q E → vs.length = n := by
  rintro vs H Q E ⟨F, args, _, hS, hp, _⟩
  rw [← hS.length]
  exact h args hp
/-- one of these -/
def rE (K : PySem.W.Frag) (Post : D → Prop) : Res := fun F H H0 v => ∃ d, Post d ∧ rO K d F H H0 v
theorem ae_callE {pre : List D → Prop} {post : List D → D → Prop} {args : List D} {E : XK} (h : AA K tr env (rFs K args)) (hp : pre args) : AE K (tCall (spP K pre post noX) [] E tr) env (rE K (post args)) := fun e F σ H L Q r q =>
  h e F σ H L _ r fun vs F1 H1 x1 y1 => by
    rw [List.append_nil]
    exact ⟨F1, args, x1.s, y1, hp, fun res F' H' v M hq x o nd k => q v F' H' (x1.trans x) ⟨res, hq, M, o, nd, fun a m => ⟨x1.h.free (k a m).1, (k a m).2⟩⟩, fun _ _ _ _ _ z => z.elim⟩
theorem ae_callD {pre : List D → Prop} {post : List D → D → Prop} {args : List D} {E : XK} (h : AA K tr env (rFs K args)) (hp : pre args) (hd : ∀ x, post args x → x = d) : AE K (tCall (spP K pre post noX) [] E tr) env (rO K d) := (ae_callE h hp).imp fun F H H0 v _ ⟨x, hx, o⟩ => by
  rw [← hd x hx]; exact o
variable {P : List Nat} {E : XK} {A : AEnds}
theorem as_setE {k : Nat} {o' : Option D} {Post : D → Prop} (h : AE K t env (rE K Post)) (hi' : env[k]? = some o') (hp : k ∉ P) (q : ∀ d, Post d → A.nx (env.set k (some d))) : AS K P E (tAsg t (gName k)) env A := fun e F σ H L Dn hP r s =>
  h e F σ H L _ r fun v F' H' x ⟨d, hd, M, o, nd, k'⟩ => by
    have hi := (List.getElem?_eq_some_iff.mp hi').1
    have r' := r.ext x
    have hk : ∀ a ∈ M, F' a = none ∧ (a ∈ e.L0 ∨ e.H0 a = none) := fun a m => ⟨(k' a m).2, r.h0 (k' a m).1⟩
    obtain ⟨L', r2⟩ := r'.set (i := k) o (nodup_new (H := H) r.nd nd (r.slots.lives) fun a m => (k' a m).1) hk hi fun p hm z => hp (by rw [hP]; exact List.mem_map.mpr ⟨p, hm, z⟩)
    exact s.nx _ _ _ _ _ (q d hd) r2
theorem as_retE {Post : D → Prop} (h : AE K t env (rE K Post)) (q : ∀ d, Post d → A.rt d env) : AS K P E (tRet t) env A := fun e F σ H L Dn hP r s =>
  h e F σ H L _ r fun v F' H' x ⟨d, hd, M, o, nd, k⟩ => s.rt d env F' σ H' L v M (q d hd) (r.ext x) o (nodup_new (H := H) r.nd nd (r.slots.lives) fun a m => (k a m).1) fun a m => ⟨(k a m).2, r.h0 (k a m).1⟩

def AG (K : PySem.W.Frag) (P : List Nat) (g : TG) (d : D) (env : Py.Env) (k : Py.Env → Prop) : Prop :=
  ∀ (e : Ent) (F : Hp) (σ : St) (H : Hp) (L : List Addr) (v : V) (Q : St → Hp → Prop), P = e.pins.map (·.1) → Rel K e env F σ H L → Shr K F d v → (∀ env' σ' L', k env' → Rel K e env' F σ' H L' → Q σ' H) → g v σ H Q
def AGs (K : PySem.W.Frag) (P : List Nat) (g : TGs) (ds : List D) (env : Py.Env) (k : Py.Env → Prop) : Prop :=
  ∀ (e : Ent) (F : Hp) (σ : St) (H : Hp) (L : List Addr) (vs : List V) (Q : St → Hp → Prop), P = e.pins.map (·.1) → Rel K e env F σ H L → Shrs K F ds vs → (∀ env' σ' L', k env' → Rel K e env' F σ' H L' → Q σ' H) → g vs σ H Q
theorem ag_name {k : Nat} {o' : Option D} {q : Py.Env → Prop} (hi' : env[k]? = some o') (hp : k ∉ P) (h : q (env.set k (some d))) : AG K P (gName k) d env q := fun e F σ H L v Q hP r s c => by
  have hi := (List.getElem?_eq_some_iff.mp hi').1
  obtain ⟨L', r2⟩ := r.set (i := k) (M := []) (.sh s) (by simpa using r.nd) (fun a m => nomatch m) hi fun p hm z => hp (by rw [hP]; exact List.mem_map.mpr ⟨p, hm, z⟩)
  exact c _ _ _ h r2
theorem ags_nil {q : Py.Env → Prop} (h : q env) : AGs K P gNil [] env q := fun e F σ H L v Q hP r s c => by
  cases s
  exact ⟨rfl, c _ _ _ h r⟩
theorem ags_cons {g : TG} {gs : TGs} {q : Py.Env → Prop} (h : AG K P g d env fun env' => AGs K P gs ds env' q) : AGs K P (gCons g gs) (d :: ds) env q := fun e F σ H L v Q hP r s c => by
  cases s with
  | cons a b => exact ⟨_, _, rfl, h e F σ H L _ _ hP r a fun env' σ' L' k r' => k e F σ' H L' _ Q hP r' b c⟩
theorem ag_tup {gs : TGs} {q : Py.Env → Prop} {k : Nat} (hl : ds.length = k) (h : AGs K P gs ds env q) : AG K P (gTup K k gs) (.tup ds) env q := fun e F σ H L v Q hP r s c => by
  cases s with
  | tup a b => exact ⟨_, _, rfl, .of (r.sF _ _ a), by rw [← b.length]; exact hl, h e F σ H L _ Q hP r b c⟩
theorem Rel.enter {e : Ent} {F H : Hp} {σ : St} {L : List Addr} (r : Rel K e env F σ H L) : Rel K { e with F0 := F } env F σ H L :=
  ⟨r.sF, r.slots, r.nd, r.dj, Same.refl _, fun _ _ h => .inl h, r.fr, r.ln, r.pin⟩
theorem Rel.leave {e : Ent} {F1 F H H1 : Hp} {σ σ1 : St} {L L1 : List Addr} {env1 : Py.Env} (r1 : Rel K e env1 F1 σ1 H1 L1) (r : Rel K { e with F0 := F1 } env F σ H L) : Rel K e env F σ H L :=
  ⟨r.sF, r.slots, r.nd, r.dj, r1.s0.trans r.s0, fun a o h => (r.nw a o h).elim (fun q => r1.nw a o q) .inr, r.fr, r.ln, r.pin⟩
theorem as_for_list {tl : TE} {g : TG} {tb : TS} (h : AE K tl env (rF K (.lst ds))) (W : Nat → Py.Env → Prop) (h0 : W 0 env)
    (hs : ∀ i d env', ds[i]? = some d → W i env' → AG K P g d env' fun e2 => AS K P E tb e2 { A with nx := W (i + 1), ct := W (i + 1), bk := A.nx })
    (hd : ∀ env', W ds.length env' → A.nx env') : AS K P E (tFor (iList K tl) g tb) env A := fun e F σ H L Dn hP r s =>
  h e F σ H L _ r fun v F1 H1 x1 y1 => by
    cases y1 with
    | lst hF hS =>
      rename_i a vs
      have r1 := r.ext x1
      refine ⟨a, rfl, ⟨vs, .of (x1.s _ _ hF)⟩, for_list (K := K) (a := a) (xs := vs) (fun i σ H => ∃ env' F L, W i env' ∧ Rel K { e with F0 := F1 } env' F σ H L) ⟨env, F1, L, h0, r1.enter⟩
        (fun i σ H _ ⟨env', F, L, _, q⟩ => .of (q.sF _ _ (q.s0 _ _ hF))) ?_ ?_⟩
      · rintro i x σ H hx ⟨env', F, L, hI, q⟩
        obtain ⟨d, hd', sd⟩ := hS.getV hx
        refine hs i d env' hd' hI { e with F0 := F1 } F σ H L x _ hP q (sd.mono q.s0) fun env2 σ2 L2 k2 q2 => k2 { e with F0 := F1 } F σ2 H L2 _ hP q2 ?_
        exact ⟨fun e3 F3 σ3 H3 L3 w q3 => ⟨e3, F3, L3, w, q3⟩, fun d e3 F3 σ3 H3 L3 v M w q3 => s.rt d e3 F3 σ3 H3 L3 v M w (r1.leave q3), fun e3 F3 σ3 H3 L3 w q3 => s.nx e3 F3 σ3 H3 L3 w (r1.leave q3),
          fun e3 F3 σ3 H3 L3 w q3 => ⟨e3, F3, L3, w, q3⟩, fun x e3 F3 σ3 H3 L3 C dd w q3 => s.ex x e3 F3 σ3 H3 L3 C dd w (r1.leave q3)⟩
      · rintro σ H ⟨env', F, L, hI, q⟩
        exact s.nx _ _ _ _ _ (hd env' (by rw [hS.length]; exact hI)) (r1.leave q)
theorem range_go {g : TG} {tb : TS} {lo : Int} {n : Nat} (W : Nat → Py.Env → Prop)
    (hs : ∀ i env', i < n → W i env' → AG K P g (.int (lo + i)) env' fun e2 => AS K P E tb e2 { A with nx := W (i + 1), ct := W (i + 1), bk := A.nx })
    (hd : ∀ env', W n env' → A.nx env') {e : Ent} {F H : Hp} {σ : St} {L : List Addr} {Dn : Ends} (hP : P = e.pins.map (·.1)) (r1 : Rel K e env F σ H L) (s : Sat K e E A Dn) (h0 : W 0 env) :
    ∃ W : Nat → Nat → St → Hp → Prop, (∃ m, W 0 m σ H) ∧ ∀ i m σ H, W i m σ H →
      ((Itr lo n).stop i H ∧ Dn.nx σ H) ∨ ((Itr lo n).go i H ∧ ∃ N : St → Hp → Prop, (∀ σ' H', N σ' H' → ∃ m', m' < m ∧ W (i + 1) m' σ' H') ∧ ∀ x H', (Itr lo n).yld i H x H' → g x σ H' fun σ2 H2 => tb { Dn with nx := N, ct := N, bk := Dn.nx } σ2 H2) := by
  refine for_range (fun i σ H => ∃ env' F L, W i env' ∧ Rel K e env' F σ H L) ⟨env, F, L, h0, r1⟩ ?_ ?_
  · rintro i σ H hi ⟨env', F, L, hI, q⟩
    refine hs i env' hi hI e F σ H L _ _ hP q .int fun env2 σ2 L2 k2 q2 => k2 e F σ2 H L2 _ hP q2 ?_
    exact ⟨fun e3 F3 σ3 H3 L3 w q3 => ⟨e3, F3, L3, w, q3⟩, s.rt, s.nx, fun e3 F3 σ3 H3 L3 w q3 => ⟨e3, F3, L3, w, q3⟩, s.ex⟩
  · rintro σ H ⟨env', F, L, hI, q⟩
    exact s.nx _ _ _ _ _ (hd env' hI) q
theorem as_for_range {g : TG} {tb : TS} {n : Int} (h : AA K tr env (rVs K [.int n])) (hb : n < 2 ^ 62) (hb0 : -(2 ^ 62) ≤ n) (W : Nat → Py.Env → Prop) (h0 : W 0 env)
    (hs : ∀ i env', i < n.toNat → W i env' → AG K P g (.int (0 + i)) env' fun e2 => AS K P E tb e2 { A with nx := W (i + 1), ct := W (i + 1), bk := A.nx })
    (hd : ∀ env', W n.toNat env' → A.nx env') : AS K P E (tFor (iRng1 tr) g tb) env A := fun e F σ H L Dn hP r s =>
  h e F σ H L _ r fun vs F1 H1 x1 y1 => by
    cases y1 with
    | cons a b =>
      cases a; cases b
      exact ⟨n, rfl, hb0, hb, range_go W hs hd hP (r.ext x1) s h0⟩
theorem as_for_range2 {g : TG} {tb : TS} {lo n : Int} (h : AA K tr env (rVs K [.int lo, .int n])) (hb : -(2 ^ 62) ≤ lo ∧ lo < 2 ^ 62 ∧ -(2 ^ 62) ≤ n ∧ n < 2 ^ 62) (W : Nat → Py.Env → Prop) (h0 : W 0 env)
    (hs : ∀ i env', i < (n - lo).toNat → W i env' → AG K P g (.int (lo + i)) env' fun e2 => AS K P E tb e2 { A with nx := W (i + 1), ct := W (i + 1), bk := A.nx })
    (hd : ∀ env', W (n - lo).toNat env' → A.nx env') : AS K P E (tFor (iRng2 tr) g tb) env A := fun e F σ H L Dn hP r s =>
  h e F σ H L _ r fun vs F1 H1 x1 y1 => by
    cases y1 with
    | cons a b =>
      cases a
      cases b with
      | cons a b =>
        cases a; cases b
        exact ⟨lo, n, rfl, hb, range_go W hs hd hP (r.ext x1) s h0⟩
end
end Py

namespace Py
open PySem L2
section
variable {X : Cx}
def CMulU (i j : Int) : Prop := CMul i j ∨ CMulW i j
def CDivU (i j : Int) : Prop := CDiv i j ∨ CDivW i j
theorem cmul_l {i j : Int} (h1 : -(2 ^ 64) < i) (h2 : i < 2 ^ 64) : CMulU i j := .inl (.inl ⟨h1, h2⟩)
theorem cmul_r {i j : Int} (h1 : -(2 ^ 64) < j) (h2 : j < 2 ^ 64) : CMulU i j := .inl (.inr ⟨h1, h2⟩)
theorem cmul_w {i j : Int} (h1 : i.natAbs < 2 ^ 4000) (h2 : j.natAbs < 2 ^ 4000) : CMulU i j := .inr (wide_mul h1 h2 (by decide) (by decide) (by decide))
theorem cdiv_s {i j : Int} (h1 : 0 < j) (h2 : j < 1073741824) : CDivU i j := .inl ⟨h1, h2⟩
theorem cdiv_w {i j : Int} (h1 : 0 < j) (h2 : j.natAbs < 2 ^ 4000) : CDivU i j := .inr (wide_div h1 h2 (by decide) (by decide))
theorem op_mulU : OpR X (binaryOp .Mult) (rI CMulU fun i j => .int (i * j)) := opI fun _ _ _ _ _ _ _ hc q => PyProof.Rows.mul_int q (hc.elim CMul.ok CMulW.ok)
theorem op_divU : OpR X (binaryOp .FloorDiv) (rI CDivU fun i j => .int (i / j)) := fun pins s σ H x y v u Q I rx ry h => by
  obtain ⟨i, j, e1, e2, hc, q⟩ := h
  rcases hc with hc | hc
  · exact op_fdiv pins s σ H x y v u Q I rx ry ⟨i, j, e1, e2, hc, q⟩
  · exact op_fdivW pins s σ H x y v u Q I rx ry ⟨i, j, e1, e2, hc, q⟩
theorem opAdd : OpR X (binaryOp .Add) (fun x y H Q => rI0 (fun i j => .int (i + j)) x y H Q ∨ (fun x y H Q => rCat x y H Q ∨ rCatT X.K x y H Q) x y H Q) := OpR.or op_add (OpR.or op_cat op_catT)
theorem opAddK {K : PySem.W.Frag} (h : X.K = K) : OpR X (binaryOp .Add) (fun x y H Q => rI0 (fun i j => .int (i + j)) x y H Q ∨ (fun x y H Q => rCat x y H Q ∨ rCatT K x y H Q) x y H Q) := h ▸ opAdd
theorem opMul : OpR X (binaryOp .Mult) (rI CMulU fun i j => .int (i * j)) := op_mulU
theorem opDiv : OpR X (binaryOp .FloorDiv) (rI CDivU fun i j => .int (i / j)) := op_divU
theorem opEq (hu : X.A.units + 64 < cLine) : OpR X (compareOp .Eq) (fun x y H Q => rEq x y H Q ∨ rEqD X.K x y H Q) := OpR.or op_eq (op_eqD hu)
theorem opNe (hu : X.A.units + 64 < cLine) : OpR X (compareOp .NotEq) (fun x y H Q => rNe x y H Q ∨ rNeD X.K x y H Q) := OpR.or op_ne (op_neD hu)
theorem opLt (hu : X.A.units < cLine) : OpR X (compareOp .Lt) (fun x y H Q => rI0 (fun i j => .bl (decide (i < j))) x y H Q ∨ rLtT X.K x y H Q) := OpR.or op_lt (op_ltT hu)
theorem ixU : IxR X (rIxU X.K) := ix_list.or ix_tup
theorem ixUK {K : PySem.W.Frag} (h : X.K = K) : IxR X (rIxU K) := h ▸ ixU
theorem call_intU : CallR X (.type "int") (fun xs H Q => (∃ i, xs = [.int i] ∧ Q (.int i) H) ∨ ∃ k, xs = [.bl k] ∧ Q (.int (if k then 1 else 0)) H) := call_int1
theorem call_absU : CallR X (.builtin "abs") (fun xs H Q => ∃ i, xs = [.int i] ∧ Q (.int (if i < 0 then -i else i)) H) := call_abs
theorem call_lenU : CallR X (.builtin "len") (rLenU X.K) := call_len_seq
theorem call_listU : CallR X (.type "list") (fun xs H Q => ∃ p ys, xs = [.ref p] ∧ (SqL X.K H p ys ∨ SqT X.K H p ys) ∧ ∀ l, H l = none → Q (.ref l) (upd H l (.lst ys))) := call_list_of
theorem call_tupleU : CallR X (.type "tuple") (fun xs H Q => ∃ p ys, xs = [.ref p] ∧ ((SqL X.K H p ys ∧ ∀ l, H l = none → Q (.ref l) (upd H l (.tup ys))) ∨ (SqT X.K H p ys ∧ Q (.ref p) H))) := call_tuple_of
theorem pt_truU {a : Expr} {ta : TE} (ha : PE X a ta) (he : ∀ whole, isTrue a X.env whole = (do let v ← whole; standAt a.pos; holding [v] (truthy v)) := by intro _; rfl) :
    PT X a (fun σ H Q => ta σ H fun x H' => ∃ k, TruV X.K x H' k ∧ Q k H') := pt_truth ha he
theorem px_isi {a : Expr} {ta : TE} {c : Str} {T : String} {p1 p2 pos : Pos} (hm : X.mg "isinstance" = none) (hc : X.mg c = none) (ha : PE X a ta) (hg : Gl X "isinstance" := by rfl) (hgc : Gl X c := by rfl)
    (hb : bootBuiltins c = some (.type T) := by decide +kernel) (hn : c ≠ "__name__" := by decide) (hd : (c == ("__debug__" : Str)) = false := by decide)
    (hs : starEach [a, .Name c p2] X.env = (false, eval a X.env) :: starEach [.Name c p2] X.env := by rfl) (hs2 : starEach [.Name c p2] X.env = (false, eval (.Name c p2) X.env) :: starEach [] X.env := by rfl)
    (hpl : (backTo pos (starEach [.Name c p2] X.env)).any (·.1) = false := by rfl) :
    PE X (.Call (.Name "isinstance" p1) [a, .Name c p2] [] pos) (tCB (rIsi X.K) (tCons ta (tCons (tC (.ty T)) tNil))) :=
  pe_callB call_isi hg hm (by decide +kernel) (pa_cons ha (pa_cons (pe_bltn hgc hc hb rfl hn hd) pa_nil hs2) hs) (he := hs) (hpl := hpl)
end

theorem kit_NoneType_int : kitB "NoneType" "int" = some false := by decide +kernel
theorem kit_NoneType_bool : kitB "NoneType" "bool" = some false := by decide +kernel
theorem kit_NoneType_str : kitB "NoneType" "str" = some false := by decide +kernel
theorem kit_NoneType_list : kitB "NoneType" "list" = some false := by decide +kernel
theorem kit_NoneType_tuple : kitB "NoneType" "tuple" = some false := by decide +kernel
theorem kit_NoneType_dict : kitB "NoneType" "dict" = some false := by decide +kernel
theorem kit_bool_int : kitB "bool" "int" = some true := by decide +kernel
theorem kit_bool_bool : kitB "bool" "bool" = some true := by decide +kernel
theorem kit_bool_str : kitB "bool" "str" = some false := by decide +kernel
theorem kit_bool_list : kitB "bool" "list" = some false := by decide +kernel
theorem kit_bool_tuple : kitB "bool" "tuple" = some false := by decide +kernel
theorem kit_bool_dict : kitB "bool" "dict" = some false := by decide +kernel
theorem kit_int_int : kitB "int" "int" = some true := by decide +kernel
theorem kit_int_bool : kitB "int" "bool" = some false := by decide +kernel
theorem kit_int_str : kitB "int" "str" = some false := by decide +kernel
theorem kit_int_list : kitB "int" "list" = some false := by decide +kernel
theorem kit_int_tuple : kitB "int" "tuple" = some false := by decide +kernel
theorem kit_int_dict : kitB "int" "dict" = some false := by decide +kernel
theorem kit_str_int : kitB "str" "int" = some false := by decide +kernel
theorem kit_str_bool : kitB "str" "bool" = some false := by decide +kernel
theorem kit_str_str : kitB "str" "str" = some true := by decide +kernel
theorem kit_str_list : kitB "str" "list" = some false := by decide +kernel
theorem kit_str_tuple : kitB "str" "tuple" = some false := by decide +kernel
theorem kit_str_dict : kitB "str" "dict" = some false := by decide +kernel
theorem kit_list_int : kitB "list" "int" = some false := by decide +kernel
theorem kit_list_bool : kitB "list" "bool" = some false := by decide +kernel
theorem kit_list_str : kitB "list" "str" = some false := by decide +kernel
theorem kit_list_list : kitB "list" "list" = some true := by decide +kernel
theorem kit_list_tuple : kitB "list" "tuple" = some false := by decide +kernel
theorem kit_list_dict : kitB "list" "dict" = some false := by decide +kernel
theorem kit_tuple_int : kitB "tuple" "int" = some false := by decide +kernel
theorem kit_tuple_bool : kitB "tuple" "bool" = some false := by decide +kernel
theorem kit_tuple_str : kitB "tuple" "str" = some false := by decide +kernel
theorem kit_tuple_list : kitB "tuple" "list" = some false := by decide +kernel
theorem kit_tuple_tuple : kitB "tuple" "tuple" = some true := by decide +kernel
theorem kit_tuple_dict : kitB "tuple" "dict" = some false := by decide +kernel
theorem kit_dict_int : kitB "dict" "int" = some false := by decide +kernel
theorem kit_dict_bool : kitB "dict" "bool" = some false := by decide +kernel
theorem kit_dict_str : kitB "dict" "str" = some false := by decide +kernel
theorem kit_dict_list : kitB "dict" "list" = some false := by decide +kernel
theorem kit_dict_tuple : kitB "dict" "tuple" = some false := by decide +kernel
theorem kit_dict_dict : kitB "dict" "dict" = some true := by decide +kernel
structure Blt (mg : Str → Option Value) : Prop where
  len : mg "len" = none
  range : mg "range" = none
  abs : mg "abs" = none
  int : mg "int" = none
  bool : mg "bool" = none
  str : mg "str" = none
  list : mg "list" = none
  tuple : mg "tuple" = none
  isinstance : mg "isinstance" = none

structure DefAt (K : PySem.W.Frag) (mg : Str → Option Value) (x qual : Str) (st : Stmt) (dvs : List V) (kws : List (Str × V)) : Prop where
  ex : ∃ f fd, FunD K x qual (defArgs st) (defBody st) (defScope st) dvs kws f fd ∧ mg x = some (.ref f)
/-- how a def without defaults binds -/
def BindsP (x qual : Str) (st : Stmt) (ps : List Str) : Prop := ∀ (kV doc pm : Value) (an : Option Addr) (cdv ct : Value) (us : List Value), us.length = ps.length → bindArgs (PySem.W.fnOf x qual (defArgs st) (defBody st) (defScope st) .none kV doc pm an cdv ct) ⟨us, []⟩ = pure (ps.zip us)
structure Df (P : Program) (w : World) (K : PySem.W.Frag) (mg : Str → Option Value) (base : Heap) (CX : CXT) (k : Nat) (x : Str) (ps : List Str) (sp : Sp) : Prop where
  ex : ∃ f fd, FnOk P w K mg base CX k f fd ps sp ∧ mg x = some (.ref f) ∧ PySem.W.keepIn K (.ref f) = true ∧ Binds K fd ps []
section
variable {P : Program} {w : World} {K : PySem.W.Frag} {mg : Str → Option Value} {base : Heap}
theorem df_of {x qual : Str} {st : Stmt} {N ps : List Str} {k : Nat} {sp : Sp} (D : DefAt K mg x qual st [] []) (S : FnScope N ps (defScope st)) (bp : BindsP x qual st ps) (len : ∀ vs H Q E, sp vs H Q E → vs.length = ps.length)
    (hbody : ∀ (f : Addr) (cdv : Value) (A : Around) (outer : List PySem.Env) (s : Shared) (H : Hp) (vs : List V) (Q : VK) (E : XK), Room k (A.deeper (PyProof.Rows.envOfC qual (defScope st) s.heap.objs.size f cdv)) → sp vs H Q E →
      ∃ t, PSs (cxOf CX0 P w K mg base N qual (defScope st) f cdv A outer s H E).nox (defBody st) t ∧ t { nx := fun _ H' => Q .non H', rt := Q } (L2.start N vs) H) : Df P w K mg base CX0 (k + 1) x ps sp := by
  obtain ⟨f, fd, F, hm⟩ := D.ex
  refine ⟨f, fd, F.ok S len fun cdv A outer s H vs Q E hr h => ?_, hm, F.kp, F.bindsN bp⟩
  obtain ⟨t, q1, q2⟩ := hbody f cdv A outer s H vs Q E hr h
  exact ⟨t, q1.nox, q2⟩
/-- the law's own def -/
theorem lw_of {x qual : Str} {st : Stmt} {N ps : List Str} {k : Nat} {sp : Sp} {f : Addr} {fd : FuncData} (F : FunD K x qual (defArgs st) (defBody st) (defScope st) [] [] f fd) (S : FnScope N ps (defScope st)) (len : ∀ vs H Q E, sp vs H Q E → vs.length = ps.length)
    (hbody : ∀ (f : Addr) (cdv : Value) (A : Around) (outer : List PySem.Env) (s : Shared) (H : Hp) (vs : List V) (Q : VK) (E : XK), Room k (A.deeper (PyProof.Rows.envOfC qual (defScope st) s.heap.objs.size f cdv)) → sp vs H Q E →
      ∃ t, PSs (cxOf CX0 P w K mg base N qual (defScope st) f cdv A outer s H E).nox (defBody st) t ∧ t { nx := fun _ H' => Q .non H', rt := Q } (L2.start N vs) H) : FnOk P w K mg base CX0 (k + 1) f fd ps sp := by
  refine F.ok S len fun cdv A outer s H vs Q E hr h => ?_
  obtain ⟨t, q1, q2⟩ := hbody f cdv A outer s H vs Q E hr h
  exact ⟨t, q1.nox, q2⟩
def pre_law : List D → Prop := fun args => ∃ ns : List Int, args = [.scr ns] ∧ ns.length ≤ 63
def post_law : List D → D → Prop := fun _ x => x = .bl true
abbrev spLaw (K : PySem.W.Frag) : Sp := spP K pre_law post_law noX
theorem spLaw_len : ∀ vs H Q E, spLaw K vs H Q E → vs.length = 1 := spP_len fun args ⟨ns, h, _⟩ => by rw [h]; rfl
theorem spLaw_in {H : Hp} {a : Addr} {ns : List Int} (hl : ns.length ≤ 63) (hS : SqL K H a (ns.map V.int)) : spLaw K [.ref a] H (fun v _ => v = .bl true) fun _ _ _ => False := by
  refine ⟨H, [.scr ns], Same.refl _, .cons (.scr hS) .nil, ⟨ns, rfl, hl⟩, fun res F' H' v M hp x o _ _ => ?_, fun _ _ _ _ _ h => h.elim⟩
  cases hp
  cases o with
  | sh y => cases y; rfl
theorem px_call {X : Cx} {k : Nat} {x : Str} {ps : List Str} {sp : Sp} {p pos : Pos} {e : Expr} {es : List Expr} {t : TA} (D : Df X.prog X.w X.K X.mg X.base CX0 k x ps sp) (hr : Room k X.A) (hg : Gl X x)
    (ha : PA X (e :: es) t) (hdb : (x == ("__debug__" : Str)) = false := by decide) (he : starEach (e :: es) X.env = (false, eval e X.env) :: starEach es X.env := by rfl) (hpl : (backTo pos (starEach es X.env)).any (·.1) = false := by rfl) :
    PE X (.Call (.Name x p) (e :: es) [] pos) (tCall sp [] E0 t) := by
  obtain ⟨f, fd, F, hm, hk, hb⟩ := D.ex
  exact pe_call F hr hg hm hk hb .nil pass0 ha hdb he hpl
/-- n positional values, then m keywords' values, in the parameters' order -/
def gK {α : Type} (n m : Nat) (us ws : List α) : List α := if us.length = n ∧ ws.length = m then us ++ ws else []
/-- how a def without defaults binds n positional values and the keywords ks -/
def BindsK (x qual : Str) (st : Stmt) (ps ks : List Str) (n : Nat) : Prop := ∀ (kV doc pm : Value) (an : Option Addr) (cdv ct : Value) (us ws : List Value), us.length = n → ws.length = ks.length → bindArgs (PySem.W.fnOf x qual (defArgs st) (defBody st) (defScope st) .none kV doc pm an cdv ct) ⟨us, ks.zip ws⟩ = pure (ps.zip (us ++ ws))
structure DfK (P : Program) (w : World) (K : PySem.W.Frag) (mg : Str → Option Value) (base : Heap) (CX : CXT) (k : Nat) (x : Str) (ps ks : List Str) (n : Nat) (sp : Sp) : Prop where
  ex : ∃ f fd, FnOk P w K mg base CX k f fd ps sp ∧ mg x = some (.ref f) ∧ PySem.W.keepIn K (.ref f) = true ∧ KBinds K fd ps ks (gK n ks.length) (gK n ks.length)
theorem gK_rel {n m : Nat} {vs : List V} {us : List Value} {zs : List V} {ws : List Value} (h1 : Vals vs us) (h2 : Vals zs ws) : Vals (gK n m vs zs) (gK n m us ws) := by
  unfold gK
  rw [← h1.length, ← h2.length]
  split
  · exact h1.append h2
  · exact .nil
theorem dfK_of {x qual : Str} {st : Stmt} {N ps ks : List Str} {n k : Nat} {sp : Sp} (D : DefAt K mg x qual st [] []) (S : FnScope N ps (defScope st)) (bp : BindsK x qual st ps ks n) (h0 : ps ≠ []) (len : ∀ vs H Q E, sp vs H Q E → vs.length = ps.length)
    (hbody : ∀ (f : Addr) (cdv : Value) (A : Around) (outer : List PySem.Env) (s : Shared) (H : Hp) (vs : List V) (Q : VK) (E : XK), Room k (A.deeper (PyProof.Rows.envOfC qual (defScope st) s.heap.objs.size f cdv)) → sp vs H Q E →
      ∃ t, PSs (cxOf CX0 P w K mg base N qual (defScope st) f cdv A outer s H E).nox (defBody st) t ∧ t { nx := fun _ H' => Q .non H', rt := Q } (L2.start N vs) H) : DfK P w K mg base CX0 (k + 1) x ps ks n sp := by
  obtain ⟨f, fd, F, hm⟩ := D.ex
  refine ⟨f, fd, F.ok S len fun cdv A outer s H vs Q E hr h => ?_, hm, F.kp, ⟨fun s us ws _ hl => ?_, gK_rel⟩⟩
  · obtain ⟨t, q1, q2⟩ := hbody f cdv A outer s H vs Q E hr h
    exact ⟨t, q1.nox, q2⟩
  · unfold gK at hl ⊢
    split at hl
    · rename_i hc
      rw [if_pos hc]
      obtain ⟨oc, od, dV, kV, doc, pm, an, cdv, ct, osl, rfl, lk, hcd, hD, hK⟩ := F.ex
      rcases hD with ⟨_, rfl⟩ | ⟨e, _⟩
      · exact .of_eq (bp kV doc pm an cdv ct us ws hc.1 hc.2)
      · exact absurd rfl e
    · exact absurd (List.eq_nil_of_length_eq_zero hl.symm) h0
theorem px_callK {X : Cx} {k n : Nat} {x : Str} {ps ks : List Str} {sp : Sp} {p pos : Pos} {e : Expr} {es : List Expr} {kws : List Keyword} {t tk : TA} (D : DfK X.prog X.w X.K X.mg X.base CX0 k x ps ks n sp) (hr : Room k X.A) (hg : Gl X x)
    (ha : PA X (e :: es) t) (hkw : PK X kws tk) (hall : (backToKw pos (keywordEach kws X.env)).all (·.1.isSome) = true := by rfl) (hks : (backToKw pos (keywordEach kws X.env)).filterMap (·.1) = ks := by rfl)
    (hdb : (x == ("__debug__" : Str)) = false := by decide) (he : starEach (e :: es) X.env = (false, eval e X.env) :: starEach es X.env := by rfl)
    (hpl : ((backTo pos (starEach (e :: es) X.env)).any (·.1) || (backToKw pos (keywordEach kws X.env)).any (·.1.isNone)) = false := by rfl) :
    PE X (.Call (.Name x p) (e :: es) kws pos) (tCallK sp (gK n ks.length) E0 t tk) := by
  obtain ⟨f, fd, F, hm, hk, hb⟩ := D.ex
  exact pe_callK F hr hg hm hk hb pass0 ha hkw hall hks hdb he hpl
end
end Py

namespace Py
open PySem L2
inductive Pst where
  | fld (f : Str) | idx (k : Nat) | key (k : Key) | keyT (k : List Key)
def pos {α : Type} [DecidableEq α] (f : α) : List α → Option Nat
  | [] => none
  | x :: xs => if x = f then some 0 else (pos f xs).map (· + 1)
theorem pos_get {α : Type} [DecidableEq α] {f : α} : ∀ {ns : List α} {j : Nat}, pos f ns = some j → ns[j]? = some f
  | [], _, h => by cases h
  | x :: xs, j, h => by
    unfold pos at h
    split at h
    · rename_i e; cases h; rw [e]; rfl
    · cases q : pos f xs with
      | none => rw [q] at h; cases h
      | some k => rw [q] at h; cases h; exact pos_get (ns := xs) q
theorem zip_lookup {f : Str} : ∀ {ns : List Str} {vs : List V} {j : Nat}, pos f ns = some j → (ns.zip vs).lookup f = vs[j]?
  | [], _, _, h => by cases h
  | x :: xs, [], j, h => by simp
  | x :: xs, v :: vs, j, h => by
    unfold pos at h
    rw [List.zip_cons_cons, List.lookup_cons]
    split at h
    · rename_i e; cases h; subst e; simp
    · rename_i e
      cases q : pos f xs with
      | none => rw [q] at h; cases h
      | some k =>
        rw [q] at h; cases h
        rw [beq_eq_false_iff_ne.mpr (fun z => e z.symm)]
        exact zip_lookup (ns := xs) q
theorem zip_lookup_none {f : Str} : ∀ {ns : List Str} {vs : List V}, pos f ns = none → (ns.zip vs).lookup f = none
  | [], _, _ => by simp
  | x :: xs, [], _ => by simp
  | x :: xs, v :: vs, h => by
    unfold pos at h
    rw [List.zip_cons_cons, List.lookup_cons]
    split at h
    · cases h
    · rename_i e
      rw [beq_eq_false_iff_ne.mpr (fun z => e z.symm)]
      refine zip_lookup_none ?_
      cases q : pos f xs with
      | none => rfl
      | some k => rw [q] at h; cases h
def D.place : D → Pst → Option Nat
  | .oins _ ns _, .fld f => pos f ns
  | .olst _, .idx k => some k
  | .odic ks _, .key k => pos k ks
  | .odit ks _, .keyT k => pos k ks
  | _, _ => none
def D.parts : D → List D
  | .oins _ _ xs => xs
  | .olst xs => xs
  | .odic _ xs => xs
  | .odit _ xs => xs
  | _ => []
def D.withParts : D → List D → D
  | .oins C ns _, xs => .oins C ns xs
  | .olst _, xs => .olst xs
  | .odic ks _, xs => .odic ks xs
  | .odit ks _, xs => .odit ks xs
  | d, _ => d
def D.sub (d : D) (s : Pst) : Option D := (d.place s).bind fun j => d.parts[j]?
def D.put (d : D) (s : Pst) (n : D) : D := match d.place s with
  | some j => d.withParts (d.parts.set j n)
  | none => d
def D.at (d : D) : List Pst → Option D
  | [] => some d
  | s :: st => (d.sub s).bind fun x => x.at st
def D.putAt (d : D) : List Pst → D → D
  | [], n => n
  | s :: st, n => match d.sub s with
    | some x => d.put s (x.putAt st n)
    | none => d
/-- one step down the heap -/
def VStep (H : Hp) (v : V) (s : Pst) (w : V) : Prop := match s with
  | .fld f => ∃ a C dx fs, v = .ref a ∧ H a = some (.ins C dx fs) ∧ fs.lookup f = some w
  | .idx k => ∃ a vs, v = .ref a ∧ H a = some (.lst vs) ∧ vs[k]? = some w
  | .key k => ∃ a kvs, v = .ref a ∧ H a = some (.dK kvs) ∧ ∃ j : Nat, pos k (kvs.map (·.1)) = some j ∧ (kvs.map (·.2))[j]? = some w
  | .keyT k => ∃ a kvs, v = .ref a ∧ H a = some (.dT kvs) ∧ ∃ j : Nat, pos k (kvs.map (·.1)) = some j ∧ (kvs.map (·.2))[j]? = some w
def VPath (H : Hp) (v : V) : List Pst → V → Prop
  | [], w => v = w
  | s :: st, w => ∃ u, VStep H v s u ∧ VPath H u st w
theorem VStep.mono {H H' : Hp} {v w : V} {s : Pst} (e : Same H H') (h : VStep H v s w) : VStep H' v s w := by
  cases s with
  | fld f => obtain ⟨a, C, dx, fs, h1, h2, h3⟩ := h; exact ⟨a, C, dx, fs, h1, e _ _ h2, h3⟩
  | idx k => obtain ⟨a, vs, h1, h2, h3⟩ := h; exact ⟨a, vs, h1, e _ _ h2, h3⟩
  | key k => obtain ⟨a, vs, h1, h2, h3⟩ := h; exact ⟨a, vs, h1, e _ _ h2, h3⟩
  | keyT k => obtain ⟨a, vs, h1, h2, h3⟩ := h; exact ⟨a, vs, h1, e _ _ h2, h3⟩
theorem VPath.mono {H H' : Hp} (e : Same H H') : ∀ {st : List Pst} {v w : V}, VPath H v st w → VPath H' v st w
  | [], _, _, h => h
  | _ :: _, _, _, ⟨u, h1, h2⟩ => ⟨u, h1.mono e, VPath.mono e h2⟩
theorem VStep.det {H : Hp} {v w u : V} {s : Pst} (h : VStep H v s w) (q : VStep H v s u) : w = u := by
  cases s with
  | fld f =>
    obtain ⟨a, C, dx, fs, h1, h2, h3⟩ := h
    obtain ⟨b, C', dx', fs', q1, q2, q3⟩ := q
    rw [h1] at q1; cases q1
    rw [h2] at q2; cases q2
    rw [h3] at q3; exact Option.some.inj q3
  | idx k =>
    obtain ⟨a, vs, h1, h2, h3⟩ := h
    obtain ⟨b, ws, q1, q2, q3⟩ := q
    rw [h1] at q1; cases q1
    rw [h2] at q2; cases q2
    rw [h3] at q3; exact Option.some.inj q3
  | key k =>
    obtain ⟨a, vs, h1, h2, j, h3, h4⟩ := h
    obtain ⟨b, ws, q1, q2, j', q3, q4⟩ := q
    rw [h1] at q1; cases q1
    rw [h2] at q2; cases q2
    rw [h3] at q3; cases q3
    rw [h4] at q4; exact Option.some.inj q4
  | keyT k =>
    obtain ⟨a, vs, h1, h2, j, h3, h4⟩ := h
    obtain ⟨b, ws, q1, q2, j', q3, q4⟩ := q
    rw [h1] at q1; cases q1
    rw [h2] at q2; cases q2
    rw [h3] at q3; cases q3
    rw [h4] at q4; exact Option.some.inj q4
theorem VPath.det {H : Hp} : ∀ {st : List Pst} {v w u : V}, VPath H v st w → VPath H v st u → w = u
  | [], _, _, _, h, q => by cases h; cases q; rfl
  | _ :: _, _, _, _, ⟨x, h1, h2⟩, ⟨y, q1, q2⟩ => by
    cases h1.det q1
    exact VPath.det h2 q2
theorem VPath.snoc {H : Hp} : ∀ {st : List Pst} {v w u : V} {s : Pst}, VPath H v st w → VStep H w s u → VPath H v (st ++ [s]) u
  | [], _, _, _, _, h, q => by cases h; exact ⟨_, q, rfl⟩
  | _ :: _, _, _, _, _, ⟨x, h1, h2⟩, q => ⟨x, h1, VPath.snoc h2 q⟩
section
variable {K : PySem.W.Frag} {F H : Hp}
/-- one of several owned things taken out -/
theorem Owns.focus : ∀ {xs : List D} {vs : List V} {L : List Addr} {j : Nat} {n : D}, Owns K F H xs vs L → L.Nodup → xs[j]? = some n →
    ∃ vn Ln Lr, vs[j]? = some vn ∧ Own K F H n vn Ln ∧ (Ln ++ Lr).Nodup ∧ (∀ a, a ∈ Ln ∨ a ∈ Lr ↔ a ∈ L) ∧
      ∀ F' H' n' Ln', Same F F' → (∀ a ∈ Lr, ∀ o, H a = some o → H' a = some o) → Own K F' H' n' vn Ln' → (Ln' ++ Lr).Nodup → ∃ L', Owns K F' H' (xs.set j n') vs L' ∧ L'.Nodup ∧ ∀ a, a ∈ L' ↔ a ∈ Ln' ∨ a ∈ Lr
  | _, _, _, _, _, .nil, _, e => by simp at e
  | _, _, _, 0, n, .cons (L := L1) (M := M1) (v := v1) o t, nd, e => by
    simp at e; subst e
    refine ⟨v1, L1, M1, rfl, o, nd, fun a => List.mem_append.symm, fun F' H' n' Ln' s k o' nd' => ⟨Ln' ++ M1, ?_, nd', fun a => List.mem_append⟩⟩
    exact .cons o' (t.frame s k)
  | _, _, _, j + 1, n, .cons (L := L1) (M := M1) (v := v1) (d := d1) (ds := ds1) o t, nd, e => by
    rw [List.nodup_append] at nd
    obtain ⟨n1, n2, n3⟩ := nd
    obtain ⟨vn, Ln, Lr, h1, h2, h3, h4, h5⟩ := t.focus (j := j) n2 (by simpa using e)
    have hd : ∀ a ∈ L1, a ∉ Ln ∧ a ∉ Lr := fun a ha => ⟨fun z => n3 a ha a ((h4 a).mp (.inl z)) rfl, fun z => n3 a ha a ((h4 a).mp (.inr z)) rfl⟩
    refine ⟨vn, Ln, L1 ++ Lr, by simpa using h1, h2, ?_, fun a => ?_, fun F' H' n' Ln' s k o' nd' => ?_⟩
    · rw [List.nodup_append] at h3 ⊢
      refine ⟨h3.1, ?_, fun a ha b hb q => ?_⟩
      · rw [List.nodup_append]
        exact ⟨n1, h3.2.1, fun a ha b hb q => (hd a ha).2 (q ▸ hb)⟩
      · subst q
        rcases List.mem_append.mp hb with z | z
        · exact (hd a z).1 ha
        · exact h3.2.2 a ha a z rfl
    · rw [List.mem_append, List.mem_append, ← h4 a]
      constructor
      · rintro (z | z | z)
        · exact .inr (.inl z)
        · exact .inl z
        · exact .inr (.inr z)
      · rintro (z | z | z)
        · exact .inr (.inl z)
        · exact .inl z
        · exact .inr (.inr z)
    · rw [List.nodup_append] at nd'
      obtain ⟨p1, p2, p3⟩ := nd'
      rw [List.nodup_append] at p2
      obtain ⟨L', q1, q2, q3⟩ := h5 F' H' n' Ln' s (fun a m => k a (List.mem_append_right _ m)) o' (by
        rw [List.nodup_append]
        exact ⟨p1, p2.2.1, fun a ha b hb => p3 a ha b (List.mem_append_right _ hb)⟩)
      refine ⟨L1 ++ L', .cons (o.frame s fun a m => k a (List.mem_append_left _ m)) q1, ?_, fun a => ?_⟩
      · rw [List.nodup_append]
        refine ⟨n1, q2, fun a ha b hb q => ?_⟩
        subst q
        rcases (q3 a).mp hb with z | z
        · exact p3 a z a (List.mem_append_left _ ha) rfl
        · exact p2.2.2 a ha a z rfl
      · rw [List.mem_append, List.mem_append, q3 a]
        constructor
        · rintro (z | z | z)
          · exact .inr (.inl z)
          · exact .inl z
          · exact .inr (.inr z)
        · rintro (z | z | z)
          · exact .inr (.inl z)
          · exact .inl z
          · exact .inr (.inr z)
theorem zipK_get {κ : Type} {ks : List κ} {vs : List V} (h : ks.length = vs.length) : ((ks.zip vs).map (·.1)) = ks ∧ ((ks.zip vs).map (·.2)) = vs := ⟨by rw [List.map_fst_zip (by omega)], by rw [List.map_snd_zip (by omega)]⟩
/-- a part of an owned thing taken out -/
theorem Own.focus1 {d n : D} {v : V} {L : List Addr} {s : Pst} (o : Own K F H d v L) (nd : L.Nodup) (h : d.sub s = some n) :
    ∃ vn Ln Lr, VStep H v s vn ∧ Own K F H n vn Ln ∧ (Ln ++ Lr).Nodup ∧ (∀ a, a ∈ Ln ∨ a ∈ Lr ↔ a ∈ L) ∧
      ∀ F' H' n' Ln', Same F F' → (∀ a ∈ Lr, ∀ o, H a = some o → H' a = some o) → Own K F' H' n' vn Ln' → (Ln' ++ Lr).Nodup → ∃ L', Own K F' H' (d.put s n') v L' ∧ L'.Nodup ∧ ∀ a, a ∈ L' ↔ a ∈ Ln' ∨ a ∈ Lr := by
  have gen : ∀ {a : Addr} {xs : List D} {vs : List V} {M : List Addr} {j : Nat} {ho : HO} {G : List D → D}, H a = some ho → Owns K F H xs vs M → (a :: M).Nodup → xs[j]? = some n → 
      (∀ F' H' ys M', H' a = some ho → Owns K F' H' ys vs M' → Own K F' H' (G ys) (.ref a) (a :: M')) → ∃ vn, vs[j]? = some vn ∧ ∃ Ln Lr, Own K F H n vn Ln ∧ (Ln ++ Lr).Nodup ∧ (∀ b, b ∈ Ln ∨ b ∈ Lr ↔ b ∈ a :: M) ∧
      ∀ F' H' n' Ln', Same F F' → (∀ a ∈ Lr, ∀ o, H a = some o → H' a = some o) → Own K F' H' n' vn Ln' → (Ln' ++ Lr).Nodup → ∃ L', Own K F' H' (G (xs.set j n')) (.ref a) L' ∧ L'.Nodup ∧ ∀ b, b ∈ L' ↔ b ∈ Ln' ∨ b ∈ Lr := by
    intro a xs vs M j ho G ha os nd hj mk
    rw [List.nodup_cons] at nd
    obtain ⟨vn, Ln, Lr, h1, h2, h3, h4, h5⟩ := os.focus nd.2 hj
    have na : a ∉ Ln ∧ a ∉ Lr := ⟨fun z => nd.1 ((h4 a).mp (.inl z)), fun z => nd.1 ((h4 a).mp (.inr z))⟩
    refine ⟨vn, h1, Ln, a :: Lr, h2, ?_, fun b => ?_, fun F' H' n' Ln' s k o' nd' => ?_⟩
    · rw [List.nodup_append] at h3 ⊢
      refine ⟨h3.1, List.nodup_cons.mpr ⟨na.2, h3.2.1⟩, fun x hx y hy q => ?_⟩
      subst q
      rcases List.mem_cons.mp hy with z | z
      · subst z; exact na.1 hx
      · exact h3.2.2 x hx x z rfl
    · rw [List.mem_cons, List.mem_cons, ← h4 b]
      constructor
      · rintro (z | z | z)
        · exact .inr (.inl z)
        · exact .inl z
        · exact .inr (.inr z)
      · rintro (z | z | z)
        · exact .inr (.inl z)
        · exact .inl z
        · exact .inr (.inr z)
    · rw [List.nodup_append] at nd'
      obtain ⟨p1, p2, p3⟩ := nd'
      rw [List.nodup_cons] at p2
      obtain ⟨L', q1, q2, q3⟩ := h5 F' H' n' Ln' s (fun b m => k b (List.mem_cons_of_mem _ m)) o' (by
        rw [List.nodup_append]
        exact ⟨p1, p2.2, fun x hx y hy => p3 x hx y (List.mem_cons_of_mem _ hy)⟩)
      refine ⟨a :: L', mk F' H' _ L' (k a (List.mem_cons_self ..) _ ha) q1, List.nodup_cons.mpr ⟨fun z => ?_, q2⟩, fun b => ?_⟩
      · rcases (q3 a).mp z with z | z
        · exact p3 a z a (List.mem_cons_self ..) rfl
        · exact p2.1 z
      · rw [List.mem_cons, List.mem_cons, q3 b]
        constructor
        · rintro (z | z | z)
          · exact .inr (.inl z)
          · exact .inl z
          · exact .inr (.inr z)
        · rintro (z | z | z)
          · exact .inr (.inl z)
          · exact .inl z
          · exact .inr (.inr z)
  unfold D.sub at h
  cases hp : d.place s with
  | none => rw [hp] at h; cases h
  | some j =>
    rw [hp] at h
    have h : d.parts[j]? = some n := h
    have hput : ∀ n', d.put s n' = d.withParts (d.parts.set j n') := fun n' => by unfold D.put; rw [hp]
    simp only [hput]
    cases o with
    | sh y =>
      cases y <;> (unfold D.place at hp; cases hp)
    | @olst a xs vs M ha os =>
      cases s with
      | idx k =>
        cases hp
        obtain ⟨vn, h1, Ln, Lr, h2⟩ := gen (G := .olst) ha os nd h fun F' H' ys M' q r => .olst q r
        exact ⟨vn, Ln, Lr, ⟨a, vs, rfl, ha, h1⟩, h2⟩
      | fld f => cases hp
      | key k => cases hp
      | keyT k => cases hp
    | @odic a ks xs vs M ha hl os =>
      cases s with
      | key k =>
        obtain ⟨vn, h1, Ln, Lr, h2⟩ := gen (G := .odic ks) ha os nd h fun F' H' ys M' q r => .odic q hl r
        obtain ⟨z1, z2⟩ := zipK_get hl
        exact ⟨vn, Ln, Lr, ⟨a, _, rfl, ha, j, by rw [z1]; exact hp, by rw [z2]; exact h1⟩, h2⟩
      | fld f => cases hp
      | idx k => cases hp
      | keyT k => cases hp
    | @odit a ks xs vs M ha hl os =>
      cases s with
      | keyT k =>
        obtain ⟨vn, h1, Ln, Lr, h2⟩ := gen (G := .odit ks) ha os nd h fun F' H' ys M' q r => .odit q hl r
        obtain ⟨z1, z2⟩ := zipK_get hl
        exact ⟨vn, Ln, Lr, ⟨a, _, rfl, ha, j, by rw [z1]; exact hp, by rw [z2]; exact h1⟩, h2⟩
      | fld f => cases hp
      | idx k => cases hp
      | key k => cases hp
    | @oins a C dx ns xs vs M ha hl os =>
      cases s with
      | fld f =>
        obtain ⟨vn, h1, Ln, Lr, h2⟩ := gen (G := .oins C ns) ha os nd h fun F' H' ys M' q r => .oins q hl r
        exact ⟨vn, Ln, Lr, ⟨a, C, dx, _, rfl, ha, by rw [zip_lookup hp]; exact h1⟩, h2⟩
      | idx k => cases hp
      | key k => cases hp
      | keyT k => cases hp
theorem Own.focus : ∀ {st : List Pst} {d n : D} {v : V} {L : List Addr}, Own K F H d v L → L.Nodup → d.at st = some n →
    ∃ vn Ln Lr, VPath H v st vn ∧ Own K F H n vn Ln ∧ (Ln ++ Lr).Nodup ∧ (∀ a, a ∈ Ln ∨ a ∈ Lr ↔ a ∈ L) ∧
      ∀ F' H' n' Ln', Same F F' → (∀ a ∈ Lr, ∀ o, H a = some o → H' a = some o) → Own K F' H' n' vn Ln' → (Ln' ++ Lr).Nodup → ∃ L', Own K F' H' (d.putAt st n') v L' ∧ L'.Nodup ∧ ∀ a, a ∈ L' ↔ a ∈ Ln' ∨ a ∈ Lr
  | [], d, n, v, L, o, nd, h => by
    cases h
    exact ⟨v, L, [], rfl, o, by simpa using nd, fun a => by simp, fun F' H' n' Ln' s k o' nd' => ⟨Ln', o', by simpa using nd', fun a => by simp⟩⟩
  | s :: st, d, n, v, L, o, nd, h => by
    unfold D.at at h
    cases hs : d.sub s with
    | none => rw [hs] at h; cases h
    | some x =>
      rw [hs] at h
      obtain ⟨vx, Lx, Ly, h1, h2, h3, h4, h5⟩ := o.focus1 nd hs
      obtain ⟨vn, Ln, Lr, k1, k2, k3, k4, k5⟩ := h2.focus (st := st) (List.nodup_append.mp h3).1 h
      have hput : ∀ n', d.putAt (s :: st) n' = d.put s (x.putAt st n') := fun n' => by
        show (match d.sub s with | some x => d.put s (x.putAt st n') | none => d) = _
        rw [hs]
      simp only [hput]
      rw [List.nodup_append] at h3
      obtain ⟨m1, m2, m3⟩ := h3
      refine ⟨vn, Ln, Lr ++ Ly, ⟨vx, h1, k1⟩, k2, ?_, fun a => ?_, fun F' H' n' Ln' sm k o' nd' => ?_⟩
      · rw [← List.append_assoc, List.nodup_append]
        refine ⟨k3, m2, fun a ha b hb => m3 a ?_ b hb⟩
        exact (k4 a).mp (List.mem_append.mp ha)
      · rw [List.mem_append, ← h4 a, ← k4 a]
        constructor
        · rintro (z | z | z)
          · exact .inl (.inl z)
          · exact .inl (.inr z)
          · exact .inr z
        · rintro ((z | z) | z)
          · exact .inl z
          · exact .inr (.inl z)
          · exact .inr (.inr z)
      · rw [← List.append_assoc, List.nodup_append] at nd'
        obtain ⟨p1, p2, p3⟩ := nd'
        obtain ⟨L', q1, q2, q3⟩ := k5 F' H' n' Ln' sm (fun a m => k a (List.mem_append_left _ m)) o' p1
        obtain ⟨L2, r1, r2, r3⟩ := h5 F' H' _ L' sm (fun a m => k a (List.mem_append_right _ m)) q1 (by
          rw [List.nodup_append]
          exact ⟨q2, p2, fun a ha b hb => p3 a (List.mem_append.mpr ((q3 a).mp ha)) b hb⟩)
        refine ⟨L2, r1, r2, fun a => ?_⟩
        rw [r3 a, q3 a, List.mem_append]
        constructor
        · rintro ((z | z) | z)
          · exact .inl z
          · exact .inr (.inl z)
          · exact .inr (.inr z)
        · rintro (z | z | z)
          · exact .inl (.inl z)
          · exact .inl (.inr z)
          · exact .inr z
theorem Owns.snoc : ∀ {xs : List D} {vs : List V} {M M2 : List Addr} {d : D} {v : V}, Owns K F H xs vs M → Own K F H d v M2 → Owns K F H (xs ++ [d]) (vs ++ [v]) (M ++ M2)
  | _, _, _, M2, _, _, .nil, o => by
    have h := Owns.cons o (Owns.nil (K := K) (F := F) (H := H))
    rw [List.append_nil] at h
    exact h
  | _, _, _, M2, _, _, .cons (L := L) (M := M) h t, o => by
    have q := Owns.cons h (t.snoc o)
    rw [← List.append_assoc] at q
    exact q
/-- a place of a slot's thing: what stands there, and how it is changed -/
theorem Rel.focus {e : Ent} {env : Py.Env} {σ : St} {L : List Addr} {i : Nat} {d0 n : D} {st : List Pst} (r : Rel K e env F σ H L) (h0 : env[i]? = some (some d0)) (h1 : d0.at st = some n) :
    ∃ v0 vn Ln Lr, σ[i]? = some (some v0) ∧ VPath H v0 st vn ∧ Own K F H n vn Ln ∧ (Ln ++ Lr).Nodup ∧ (∀ a, a ∈ Ln ∨ a ∈ Lr ↔ a ∈ L) ∧
      ∀ F' H' n' Ln', Same F F' → Same F' H' → (∀ a o, a ∉ Ln → H a = some o → H' a = some o) → (∀ a o, F' a = some o → F a = some o ∨ (H a = none ∨ a ∉ L ∧ (a ∈ e.L0 ∨ e.H0 a = none)) ∨ a ∈ Ln) → Own K F' H' n' vn Ln' → (Ln' ++ Lr).Nodup → (∀ a ∈ Ln', F' a = none ∧ (a ∈ Ln ∨ a ∈ e.L0 ∨ e.H0 a = none)) →
        ∃ L', Rel K e (env.set i (some (d0.putAt st n'))) F' σ H' L' := by
  obtain ⟨v0, Li, Lj, e1, o, sl, nd, mem⟩ := r.slots.take r.nd h0
  obtain ⟨vn, Ln, Lr, k1, k2, k3, k4, k5⟩ := o.focus (List.nodup_append.mp nd).1 h1
  rw [List.nodup_append] at nd
  obtain ⟨m1, m2, m3⟩ := nd
  have tot : ∀ a, a ∈ Ln ∨ a ∈ Lr ++ Lj ↔ a ∈ L := fun a => by
    rw [List.mem_append, ← mem a, ← k4 a]
    constructor
    · rintro (z | z | z)
      · exact .inl (.inl z)
      · exact .inl (.inr z)
      · exact .inr z
    · rintro ((z | z) | z)
      · exact .inl z
      · exact .inr (.inl z)
      · exact .inr (.inr z)
  have ndT : (Ln ++ (Lr ++ Lj)).Nodup := by
    rw [← List.append_assoc, List.nodup_append]
    exact ⟨k3, m2, fun a ha b hb => m3 a ((k4 a).mp (List.mem_append.mp ha)) b hb⟩
  refine ⟨v0, vn, Ln, Lr ++ Lj, e1, k1, k2, ndT, tot, fun F' H' n' Ln' sF sH fr nw o' nd' hn => ?_⟩
  have notn : ∀ a ∈ Lr ++ Lj, a ∉ Ln := fun a ha z => (List.nodup_append.mp ndT).2.2 a z a ha rfl
  have keep : ∀ a ∈ Lr ++ Lj, ∀ o, H a = some o → H' a = some o := fun a ha o q => fr a o (notn a ha) q
  rw [← List.append_assoc, List.nodup_append] at nd'
  obtain ⟨p1, p2, p3⟩ := nd'
  obtain ⟨L', q1, q2, q3⟩ := k5 F' H' n' Ln' sF (fun a m => keep a (List.mem_append_left _ m)) o' p1
  have sl' := sl.frame (F' := F') (H' := H') sF fun a m => keep a (List.mem_append_right _ m)
  have hi : i < env.length := (List.getElem?_eq_some_iff.mp h0).1
  obtain ⟨L2, s1, s2, s3⟩ := sl'.put (i := i) (v := v0) q1 (by
    rw [List.nodup_append]
    exact ⟨q2, p2, fun a ha b hb => p3 a (List.mem_append.mpr ((q3 a).mp ha)) b hb⟩) (by simpa using hi)
  have hset : (env.set i none).set i (some (d0.putAt st n')) = env.set i (some (d0.putAt st n')) := by rw [List.set_set]
  have hσ : σ.set i (some v0) = σ := by
    apply List.ext_getElem?
    intro k
    by_cases hk : i = k
    · subst hk
      obtain ⟨hlt, _⟩ := List.getElem?_eq_some_iff.mp e1
      rw [List.getElem?_set_self hlt, e1]
    · rw [List.getElem?_set_ne hk]
  rw [hset, hσ] at s1
  have inL : ∀ a ∈ L2, (a ∈ Ln' ∨ a ∈ Lr ++ Lj) := fun a ha => by
    rcases s3 a ha with z | z
    · rcases (q3 a).mp z with z | z
      · exact .inl z
      · exact .inr (List.mem_append_left _ z)
    · exact .inr (List.mem_append_right _ z)
  have nr : ∀ a ∈ Lr ++ Lj, F' a = none := fun a ha => by
    obtain ⟨o, ho⟩ := r.slots.lives a ((tot a).mp (.inr ha))
    cases q : F' a with
    | none => rfl
    | some u =>
      rcases nw a u q with z | (z | z) | z
      · rw [r.dj a ((tot a).mp (.inr ha))] at z; cases z
      · rw [ho] at z; cases z
      · exact absurd ((tot a).mp (.inr ha)) z.1
      · exact absurd z (notn a ha)
  refine ⟨L2, sH, s1, s2, fun a ha => ?_, r.s0.trans sF, fun a o q => ?_, fun a o m q => ?_, fun a ha => ?_, r.pin⟩
  · rcases inL a ha with z | z
    · exact (hn a z).1
    · exact nr a z
  · rcases nw a o q with z | (z | z) | z
    · exact r.nw a o z
    · exact .inr ((r.h0 z).elim .inr .inl)
    · exact .inr (z.2.elim .inr .inl)
    · exact .inr ((r.ln a ((tot a).mp (.inl z))).elim .inr .inl)
  · have h := r.fr a o m q
    refine fr a o (fun z => ?_) h
    rcases r.ln a ((tot a).mp (.inl z)) with y | y
    · exact m y
    · rw [q] at y; cases y
  · rcases inL a ha with z | z
    · rcases (hn a z).2 with y | y
      · exact r.ln a ((tot a).mp (.inl y))
      · exact y
    · exact r.ln a ((tot a).mp (.inr z))
end
end Py

namespace Py
open PySem L2
section
variable {K : PySem.W.Frag} {env : Py.Env} {t ta tb tk : TE} {tr : TA} {d d0 d1 d2 : D} {i : Nat} {st : List Pst} {P : List Nat} {E : XK} {A : AEnds}
/-- the thing at a place of a slot -/
def ALoc (K : PySem.W.Frag) (t : TE) (env : Py.Env) (i : Nat) (st : List Pst) : Prop :=
  ∀ (e : Ent) (F : Hp) (σ : St) (H : Hp) (L : List Addr) (v0 : V) (Q : VK), Rel K e env F σ H L → σ[i]? = some (some v0) → (∀ v F' H', Ext F H F' H' → VPath H' v0 st v → Q v H') → t σ H Q
theorem loc_var : ALoc K (tVar i) env i [] := fun e F σ H L v0 Q r h q => ⟨v0, h, q v0 F H (.refl r.sF) rfl⟩
theorem loc_fld {C : Addr} {ns : List Str} {xs : List D} {f : Str} {j : Nat} (h : ALoc K t env i st) (h0 : env[i]? = some (some d0)) (h1 : d0.at st = some (.oins C ns xs)) (c : Cls K C) (na : NoAttr K C f) (hp : pos f ns = some j) :
    ALoc K (tFld K t f) env i (st ++ [.fld f]) := fun e F σ H L v0 Q r hs q =>
  h e F σ H L v0 _ r hs fun v F1 H1 x1 p1 => by
    obtain ⟨v0', vn, Ln, Lr, e1, p2, o, _⟩ := (r.ext x1).focus h0 h1
    rw [hs] at e1; cases e1
    cases p1.det p2
    cases o with
    | sh y => cases y
    | @oins a C dx ns xs vs M ha hl os =>
      have hj := (List.getElem?_eq_some_iff.mp (pos_get hp)).1
      have hw : vs[j]? = some (vs[j]'(by omega)) := List.getElem?_eq_getElem (by omega)
      refine ⟨a, C, dx, _, _, rfl, ha, c, na, (zip_lookup hp).trans hw, q _ F1 H1 x1 (p1.snoc ⟨a, C, dx, _, rfl, ha, (zip_lookup hp).trans hw⟩)⟩
theorem loc_idx {xs : List D} {k : Int} {j : Nat} (h : ALoc K t env i st) (h0 : env[i]? = some (some d0)) (h1 : d0.at st = some (.olst xs)) (hk : AE K tk env (rV K (.int k))) (hj : ixN xs.length k = some j) :
    ALoc K (tOp (rIxU K) t tk) env i (st ++ [.idx j]) := fun e F σ H L v0 Q r hs q =>
  h e F σ H L v0 _ r hs fun v F1 H1 x1 p1 => hk e F1 σ H1 L _ (r.ext x1) fun u F2 H2 x2 y2 => by
    obtain ⟨v0', vn, Ln, Lr, e1, p2, o, _⟩ := ((r.ext x1).ext x2).focus h0 h1
    rw [hs] at e1; cases e1
    have p1' := p1.mono x2.h
    cases p1'.det p2
    cases y2
    cases o with
    | sh y => cases y
    | @olst a xs vs M ha os =>
      have hlt := (ixN_seq hj).2.1
      rw [os.length] at hlt
      have hw : vs[j]? = some (vs[j]'hlt) := List.getElem?_eq_getElem hlt
      refine .inl ⟨a, vs, k, _, rfl, rfl, .of ha, ?_, q _ F2 H2 (x1.trans x2) (p1'.snoc ⟨a, vs, rfl, ha, hw⟩)⟩
      unfold atI
      rw [← os.length, hj]
      exact hw
/-- an expression that may change what is owned: its value and the state behind -/
def AM (K : PySem.W.Frag) (P : List Nat) (t : TE) (env : Py.Env) (k : D → Py.Env → Prop) : Prop :=
  ∀ (e : Ent) (F : Hp) (σ : St) (H : Hp) (L : List Addr) (Q : VK), P = e.pins.map (·.1) → Rel K e env F σ H L →
    (∀ v F' H' L' M d env', k d env' → Rel K e env' F' σ H' L' → Own K F' H' d v M → (M ++ L').Nodup → (∀ a ∈ M, F' a = none ∧ (a ∈ e.L0 ∨ e.H0 a = none)) → Q v H') → t σ H Q
theorem am_of {k : D → Py.Env → Prop} (h : AE K t env (rO K d)) (q : k d env) : AM K P t env k := fun e F σ H L Q hP r c =>
  h e F σ H L Q r fun v F' H' x ⟨M, o, nd, kk⟩ => c v F' H' L M d env q (r.ext x) o (nodup_new (H := H) r.nd nd r.slots.lives fun a m => (kk a m).1) fun a m => ⟨(kk a m).2, r.h0 (kk a m).1⟩
theorem am_ofE {Post : D → Prop} {k : D → Py.Env → Prop} (h : AE K t env (rE K Post)) (q : ∀ d, Post d → k d env) : AM K P t env k := fun e F σ H L Q hP r c =>
  h e F σ H L Q r fun v F' H' x ⟨d, hd, M, o, nd, kk⟩ => c v F' H' L M d env (q d hd) (r.ext x) o (nodup_new (H := H) r.nd nd r.slots.lives fun a m => (kk a m).1) fun a m => ⟨(kk a m).2, r.h0 (kk a m).1⟩
theorem as_setM {n : Nat} {o' : Option D} {k : D → Py.Env → Prop} (h : AM K P t env k) (hp : n ∉ P) (hl : ∀ d env', k d env' → env'[n]? = some none ∨ ∃ x, env'[n]? = some (some x)) (q : ∀ d env', k d env' → A.nx (env'.set n (some d))) : AS K P E (tAsg t (gName n)) env A := fun e F σ H L Dn hP r s =>
  h e F σ H L _ hP r fun v F' H' L' M d env' hk r' o nd kk => by
    have hi : n < env'.length := by
      rcases hl d env' hk with z | ⟨x, z⟩ <;> exact (List.getElem?_eq_some_iff.mp z).1
    obtain ⟨L2, r2⟩ := r'.set (i := n) o nd kk hi fun p hm z => hp (by rw [hP]; exact List.mem_map.mpr ⟨p, hm, z⟩)
    exact s.nx _ _ _ _ _ (q d env' hk) r2
theorem as_dropM {k : D → Py.Env → Prop} (h : AM K P t env k) (q : ∀ d env', k d env' → A.nx env') : AS K P E (tDrop t) env A := fun e F σ H L Dn hP r s =>
  h e F σ H L _ hP r fun v F' H' L' M d env' hk r' o nd kk => s.nx _ _ _ _ _ (q d env' hk) r'
theorem as_retM {k : D → Py.Env → Prop} (h : AM K P t env k) (q : ∀ d env', k d env' → A.rt d env') : AS K P E (tRet t) env A := fun e F σ H L Dn hP r s =>
  h e F σ H L _ hP r fun v F' H' L' M d env' hk r' o nd kk => s.rt _ _ _ _ _ _ _ _ (q d env' hk) r' o nd kk
/-- xs.append(e) -/
theorem am_append {xs : List D} {k : D → Py.Env → Prop} (hl : ALoc K t env i st) (h0 : env[i]? = some (some d0)) (h1 : d0.at st = some (.olst xs)) (ha : AE K ta env (rO K d)) (hz : xs.length < 1000000)
    (q : k .non (env.set i (some (d0.putAt st (.olst (xs ++ [d])))))) : AM K P (tBM K "list" rAppend t (tCons ta tNil)) env k := fun e F σ H L Q hP r c => by
  obtain ⟨v0, _, _, _, hs, _⟩ := r.focus h0 h1
  refine hl e F σ H L v0 _ r hs fun v F1 H1 x1 p1 => ?_
  have r1 := r.ext x1
  have here : ∀ {F2 H2 : Hp} (x : Ext F1 H1 F2 H2), ∃ a vs, v = .ref a ∧ H2 a = some (.lst vs) := fun {F2 H2} x => by
    obtain ⟨v0', vn, Ln, Lr, e1, p2, o, _⟩ := (r1.ext x).focus h0 h1
    rw [hs] at e1; cases e1
    cases (p1.mono x.h).det p2
    cases o with
    | sh y => cases y
    | @olst a xs vs M ha os => exact ⟨a, vs, rfl, ha⟩
  refine ⟨?_, ha e F1 σ H1 L _ r1 fun u F2 H2 x2 ⟨M2, o2, nd2, k2⟩ => ?_⟩
  · obtain ⟨a, vs, rfl, ha⟩ := here (.refl x1.s)
    exact .inl ⟨rfl, vs, .of ha⟩
  have r2 := r1.ext x2
  obtain ⟨v0', vn, Ln, Lr, e1, p2, o, nd, mem, put⟩ := r2.focus h0 h1
  rw [hs] at e1; cases e1
  cases (p1.mono x2.h).det p2
  cases o with
  | sh y => cases y
  | @olst a xs vs M ha os =>
    refine ⟨a, vs, u, rfl, rfl, ha, by rw [← os.length]; exact Nat.lt_of_lt_of_le hz (by decide), ?_⟩
    have fresh : ∀ b ∈ M2, b ∉ L := fun b hb z => by
      obtain ⟨w, hw⟩ := r1.slots.lives b z
      rw [(k2 b hb).1] at hw; cases hw
    have aL : a ∈ L := (mem a).mp (.inl (List.mem_cons_self ..))
    have na2 : a ∉ M2 := fun z => fresh a z aL
    rw [List.nodup_append] at nd
    obtain ⟨n1, n2, n3⟩ := nd
    rw [List.nodup_cons] at n1
    have up : ∀ b, b ≠ a → upd H2 a (.lst (vs ++ [u])) b = H2 b := fun b hb => upd_ne hb
    have sF : Same F2 (upd H2 a (.lst (vs ++ [u]))) := fun b w hw => by
      rw [up b (fun z => by rw [z, r2.dj a aL] at hw; cases hw)]
      exact x2.s _ _ hw
    have os' : Owns K F2 (upd H2 a (.lst (vs ++ [u]))) (xs ++ [d]) (vs ++ [u]) (M ++ M2) := by
      have f1 := os.frame (F' := F2) (H' := upd H2 a (.lst (vs ++ [u]))) (Same.refl _) fun b hb w hw => by
        rw [up b fun z => n1.1 (z ▸ hb)]; exact hw
      have f2 := o2.frame (F' := F2) (H' := upd H2 a (.lst (vs ++ [u]))) (Same.refl _) fun b hb w hw => by
        rw [up b fun z => na2 (z ▸ hb)]; exact hw
      exact Owns.snoc f1 f2
    obtain ⟨L', r3⟩ := put F2 (upd H2 a (.lst (vs ++ [u]))) (.olst (xs ++ [d])) (a :: (M ++ M2)) (Same.refl _) sF (fun b w hb hw => by
      rw [up b fun z => hb (z ▸ List.mem_cons_self ..)]; exact hw) (fun b w hw => .inl hw) (.olst upd_same os') (by
      rw [List.nodup_append]
      refine ⟨List.nodup_cons.mpr ⟨fun z => (List.mem_append.mp z).elim n1.1 na2, ?_⟩, n2, fun b hb c hc => ?_⟩
      · rw [List.nodup_append]
        exact ⟨n1.2, nd2, fun b hb c hc z => fresh c hc ((mem c).mp (.inl (List.mem_cons_of_mem _ (z ▸ hb))))⟩
      · rcases List.mem_cons.mp hb with z | z
        · exact n3 b (by rw [z]; exact List.mem_cons_self ..) c hc
        · rcases List.mem_append.mp z with z | z
          · exact n3 b (List.mem_cons_of_mem _ z) c hc
          · exact fun y => fresh b z ((mem b).mp (.inr (y ▸ hc)))) (fun b hb => by
      rcases List.mem_cons.mp hb with z | z
      · subst z; exact ⟨r2.dj _ aL, .inl (List.mem_cons_self ..)⟩
      · rcases List.mem_append.mp z with z | z
        · exact ⟨r2.dj b ((mem b).mp (.inl (List.mem_cons_of_mem _ z))), .inl (List.mem_cons_of_mem _ z)⟩
        · exact ⟨(k2 b z).2, .inr (r1.h0 (k2 b z).1)⟩)
    exact c .non F2 _ L' [] .non _ q r3 (.sh .non) (by simpa using r3.nd) fun b hb => nomatch hb
end
end Py

namespace Py
open PySem L2
section
variable {K : PySem.W.Frag} {env : Py.Env} {t ta tb te : TE} {tr : TA} {d d0 d1 d2 : D} {ds es : List D} {i : Nat} {P : List Nat} {E : XK} {A : AEnds}
/-- J gives just these, one after another, as long as the shared part stands -/
structure Seq (K : PySem.W.Frag) (J : It) (ds : List D) (F0 : Hp) : Prop where
  go : ∀ (i : Nat) (d : D) (F H : Hp), Same F0 F → Same F H → ds[i]? = some d → J.go i H ∧ ∀ x H', J.yld i H x H' → ∃ F', Ext F H F' H' ∧ Shr K F' d x
  stop : ∀ (F H : Hp), Same F0 F → Same F H → J.stop ds.length H
def AIt (K : PySem.W.Frag) (wi : TI) (env : Py.Env) (ds : List D) : Prop :=
  ∀ (e : Ent) (F : Hp) (σ : St) (H : Hp) (L : List Addr) (R : It → Hp → Prop), Rel K e env F σ H L → (∀ J F' H', Ext F H F' H' → Seq K J ds F' → R J H') → wi σ H R
theorem seq_list {F0 : Hp} {a : Addr} {vs : List V} (h : F0 a = some (.lst vs)) (hs : Shrs K F0 ds vs) : Seq K (Itl K a) ds F0 where
  go := fun i d F H s1 s2 hd => by
    obtain ⟨v, hv, sv⟩ := hs.get hd
    refine ⟨⟨vs, v, .of (s2 _ _ (s1 _ _ h)), hv⟩, fun x H' y => ?_⟩
    obtain ⟨rfl, y⟩ := y
    have := y vs (.of (s2 _ _ (s1 _ _ h)))
    rw [hv] at this; cases this
    exact ⟨F, .refl s2, sv.mono s1⟩
  stop := fun F H s1 s2 => ⟨vs, .of (s2 _ _ (s1 _ _ h)), by rw [hs.length]; exact Nat.le_refl _⟩
theorem seq_tup {F0 : Hp} {a : Addr} {vs : List V} (h : F0 a = some (.tup vs)) (hs : Shrs K F0 ds vs) : Seq K (Itt K a) ds F0 where
  go := fun i d F H s1 s2 hd => by
    obtain ⟨v, hv, sv⟩ := hs.get hd
    refine ⟨⟨vs, v, .of (s2 _ _ (s1 _ _ h)), hv⟩, fun x H' y => ?_⟩
    obtain ⟨rfl, y⟩ := y
    have := y vs (.of (s2 _ _ (s1 _ _ h)))
    rw [hv] at this; cases this
    exact ⟨F, .refl s2, sv.mono s1⟩
  stop := fun F H s1 s2 => ⟨vs, .of (s2 _ _ (s1 _ _ h)), by rw [hs.length]; exact Nat.le_refl _⟩
/-- lo, lo + 1, .. -/
def rangeD (lo : Int) (n : Nat) : List D := (List.range n).map fun k : Nat => D.int (lo + (k : Nat))
theorem rangeD_length (lo : Int) (n : Nat) : (rangeD lo n).length = n := by simp [rangeD]
theorem rangeD_get {lo : Int} {n i : Nat} {d : D} (h : (rangeD lo n)[i]? = some d) : i < n ∧ d = .int (lo + (i : Nat)) := by
  unfold rangeD at h
  rw [List.getElem?_map] at h
  by_cases hi : i < n
  · rw [List.getElem?_range hi] at h
    exact ⟨hi, (Option.some.inj h).symm⟩
  · rw [List.getElem?_eq_none (by simpa using hi)] at h; cases h
theorem seq_range {F0 : Hp} {lo : Int} {n : Nat} : Seq K (Itr lo n) (rangeD lo n) F0 where
  go := fun i d F H s1 s2 hd => by
    obtain ⟨hi, rfl⟩ := rangeD_get hd
    refine ⟨hi, fun x H' y => ?_⟩
    obtain ⟨rfl, rfl⟩ := y
    exact ⟨F, .refl s2, .int⟩
  stop := fun F H s1 s2 => by rw [rangeD_length]; exact Nat.le_refl n
theorem ait_list (h : AE K t env (rF K (.lst ds))) : AIt K (iList K t) env ds := fun e F σ H L R r q =>
  h e F σ H L _ r fun v F1 H1 x1 y1 => by
    cases y1 with
    | lst hF hS => exact ⟨_, rfl, ⟨_, .of (x1.s _ _ hF)⟩, q _ F1 H1 x1 (seq_list hF hS)⟩
theorem ait_tup (h : AE K t env (rF K (.tup ds))) : AIt K (iTup K t) env ds := fun e F σ H L R r q =>
  h e F σ H L _ r fun v F1 H1 x1 y1 => by
    cases y1 with
    | tup hF hS => exact ⟨_, rfl, ⟨_, .of (x1.s _ _ hF)⟩, q _ F1 H1 x1 (seq_tup hF hS)⟩
theorem ait_range {n : Int} (h : AA K tr env (rVs K [.int n])) (hb : -(2 ^ 62) ≤ n ∧ n < 2 ^ 62) : AIt K (iRng1 tr) env (rangeD 0 n.toNat) := fun e F σ H L R r q =>
  h e F σ H L _ r fun vs F1 H1 x1 y1 => by
    cases y1 with
    | cons a b =>
      cases a; cases b
      exact ⟨n, rfl, hb.1, hb.2, q _ F1 H1 x1 seq_range⟩
theorem ait_range2 {lo n : Int} (h : AA K tr env (rVs K [.int lo, .int n])) (hb : -(2 ^ 62) ≤ lo ∧ lo < 2 ^ 62 ∧ -(2 ^ 62) ≤ n ∧ n < 2 ^ 62) : AIt K (iRng2 tr) env (rangeD lo (n - lo).toNat) := fun e F σ H L R r q =>
  h e F σ H L _ r fun vs F1 H1 x1 y1 => by
    cases y1 with
    | cons a b =>
      cases a
      cases b with
      | cons a b =>
        cases a; cases b
        exact ⟨lo, n, rfl, hb, q _ F1 H1 x1 seq_range⟩
/-- enumerate(xs): the pairs -/
def enumD (ds : List D) : List D := ds.mapIdx fun k d => D.tup [.int (k : Nat), d]
theorem enumD_get {d : D} (h : (enumD ds)[i]? = some d) : ∃ y, ds[i]? = some y ∧ d = .tup [.int (i : Nat), y] := by
  unfold enumD at h
  rw [List.getElem?_mapIdx] at h
  cases e : ds[i]? with
  | none => rw [e] at h; cases h
  | some y => rw [e] at h; exact ⟨y, rfl, (Option.some.inj h).symm⟩
theorem enumD_length : (enumD ds).length = ds.length := by simp [enumD]
theorem ait_enum (h : AE K t env (rF K (.lst ds))) : AIt K (iEnum K (tCons t tNil)) env (enumD ds) := fun e F σ H L R r q =>
  h e F σ H L _ r fun v F1 H1 x1 y1 => by
    cases y1 with
    | lst hF hS =>
      rename_i a vs
      refine ⟨a, vs, rfl, .of (x1.s _ _ hF), q _ F1 H1 x1 ⟨fun i d F H s1 s2 hd => ?_, fun F H s1 s2 => ?_⟩⟩
      · obtain ⟨y, hy, rfl⟩ := enumD_get hd
        obtain ⟨w, hw, sw⟩ := hS.get hy
        refine ⟨⟨vs, w, .of (s2 _ _ (s1 _ _ hF)), hw⟩, fun x H' yl => ?_⟩
        obtain ⟨T, y', rfl, hT, rfl, hy'⟩ := yl
        have := hy' vs (.of (s2 _ _ (s1 _ _ hF)))
        rw [hw] at this; cases this
        refine ⟨_, .new s2 hT, .tup upd_same (.cons .int (.cons ?_ .nil))⟩
        exact (sw.mono s1).mono (same_new (s2.free hT))
      · exact ⟨vs, .of (s2 _ _ (s1 _ _ hF)), by rw [enumD_length, hS.length]; exact Nat.le_refl _⟩
/-- zip(xs, ys): the pairs -/
def zipD (ds es : List D) : List D := (ds.zip es).map fun p => D.tup [p.1, p.2]
theorem zipD_get {d : D} (h : (zipD ds es)[i]? = some d) : ∃ x y, ds[i]? = some x ∧ es[i]? = some y ∧ d = .tup [x, y] := by
  unfold zipD at h
  rw [List.getElem?_map] at h
  cases e : (ds.zip es)[i]? with
  | none => rw [e] at h; cases h
  | some p =>
    rw [e] at h
    obtain ⟨h1, h2⟩ := List.getElem?_zip_eq_some.mp e
    exact ⟨p.1, p.2, h1, h2, (Option.some.inj h).symm⟩
theorem ait_zip (h : AE K ta env (rF K (.lst ds))) (h2 : AE K tb env (rF K (.lst es))) : AIt K (iZip K (tCons ta (tCons tb tNil))) env (zipD ds es) := fun e F σ H L R r q =>
  h e F σ H L _ r fun v F1 H1 x1 y1 => h2 e F1 σ H1 L _ (r.ext x1) fun u F2 H2 x2 y2 => by
    cases y1 with
    | lst hF hS =>
      rename_i a vs
      cases y2 with
      | lst hG hT =>
        rename_i b ws
        have hF' := x2.f _ _ hF
        have hS' := hS.mono x2.f
        refine ⟨a, b, vs, ws, rfl, .of (x2.s _ _ hF'), .of (x2.s _ _ hG), q _ F2 H2 (x1.trans x2) ⟨fun i d F H s1 s2 hd => ?_, fun F H s1 s2 => ?_⟩⟩
        · obtain ⟨x, y, hx, hy, rfl⟩ := zipD_get hd
          obtain ⟨w, hw, sw⟩ := hS'.get hx
          obtain ⟨z, hz, sz⟩ := hT.get hy
          refine ⟨⟨vs, ws, w, z, .of (s2 _ _ (s1 _ _ hF')), .of (s2 _ _ (s1 _ _ hG)), hw, hz⟩, fun x H' yl => ?_⟩
          obtain ⟨T, x', y', rfl, hT', rfl, hx', hy'⟩ := yl
          have e1 := hx' vs (.of (s2 _ _ (s1 _ _ hF')))
          have e2 := hy' ws (.of (s2 _ _ (s1 _ _ hG)))
          rw [hw] at e1; cases e1
          rw [hz] at e2; cases e2
          refine ⟨_, .new s2 hT', .tup upd_same (.cons ((sw.mono s1).mono (same_new (s2.free hT'))) (.cons ((sz.mono s1).mono (same_new (s2.free hT'))) .nil))⟩
        · refine ⟨vs, ws, .of (s2 _ _ (s1 _ _ hF')), .of (s2 _ _ (s1 _ _ hG)), ?_⟩
          have e1 := hS'.length
          have e2 := hT.length
          unfold zipD
          rw [List.length_map, List.length_zip]
          omega

/-- a list or a tuple -/
def iSeqU (K : PySem.W.Frag) (tl : TE) : TI := fun σ H R => iList K tl σ H R ∨ iTup K tl σ H R
theorem pi_seqU {X : Cx} {tg l : Expr} {tl : TE} (hl : PE X l tl) : PI X tg l (iSeqU X.K tl) := ⟨fun pins s σ H R I h => h.elim (fun h => (pi_list hl).run pins s σ H R I h) fun h => (pi_tup hl).run pins s σ H R I h⟩
theorem ait_listU (h : AE K t env (rF K (.lst ds))) : AIt K (iSeqU K t) env ds := fun e F σ H L R r q => .inl (ait_list h e F σ H L R r q)
theorem ait_tupU (h : AE K t env (rF K (.tup ds))) : AIt K (iSeqU K t) env ds := fun e F σ H L R r q => .inr (ait_tup h e F σ H L R r q)
theorem at_yes : AT K tYes env true := fun e F σ H L Q r q => q F H (.refl r.sF)
theorem as_for {wi : TI} {g : TG} {tb : TS} (h : AIt K wi env ds) (W : Nat → Py.Env → Prop) (h0 : W 0 env)
    (hs : ∀ i d env', ds[i]? = some d → W i env' → AG K P g d env' fun e2 => AS K P E tb e2 { A with nx := W (i + 1), ct := W (i + 1), bk := A.nx })
    (hd : ∀ env', W ds.length env' → A.nx env') : AS K P E (tFor wi g tb) env A := fun e F σ H L Dn hP r s =>
  h e F σ H L _ r fun J F1 H1 x1 sq => by
    have r1 := r.ext x1
    refine ⟨fun i m σ H => m = ds.length - i ∧ i ≤ ds.length ∧ ∃ env' F L, W i env' ∧ Rel K { e with F0 := F1 } env' F σ H L, ⟨ds.length, rfl, Nat.zero_le _, env, F1, L, h0, r1.enter⟩, ?_⟩
    rintro i m σ H ⟨rfl, hi, env', F, L, hI, q⟩
    by_cases hlt : i < ds.length
    · have hd' : ds[i]? = some ds[i] := List.getElem?_eq_getElem hlt
      obtain ⟨g1, g2⟩ := sq.go i _ F H q.s0 q.sF hd'
      refine .inr ⟨g1, fun σ H => ∃ env' F L, W (i + 1) env' ∧ Rel K { e with F0 := F1 } env' F σ H L, fun σ' H' p' => ⟨ds.length - (i + 1), by omega, rfl, hlt, p'⟩, fun x H' y => ?_⟩
      obtain ⟨F2, x2, sx⟩ := g2 x H' y
      refine hs i _ env' hd' hI { e with F0 := F1 } F2 σ H' L x _ hP (q.ext x2) sx fun env2 σ2 L2 k2 q2 => k2 { e with F0 := F1 } F2 σ2 H' L2 _ hP q2 ?_
      exact ⟨fun e3 F3 σ3 H3 L3 w q3 => ⟨e3, F3, L3, w, q3⟩, fun d e3 F3 σ3 H3 L3 v M w q3 => s.rt d e3 F3 σ3 H3 L3 v M w (r1.leave q3), fun e3 F3 σ3 H3 L3 w q3 => s.nx e3 F3 σ3 H3 L3 w (r1.leave q3),
        fun e3 F3 σ3 H3 L3 w q3 => ⟨e3, F3, L3, w, q3⟩, fun x e3 F3 σ3 H3 L3 C dd w q3 => s.ex x e3 F3 σ3 H3 L3 C dd w (r1.leave q3)⟩
    · have e0 : i = ds.length := by omega
      subst e0
      exact .inl ⟨sq.stop F H q.s0 q.sF, s.nx _ _ _ _ _ (hd env' hI) (r1.leave q)⟩

def wipeE (env : Py.Env) : List Nat → Py.Env
  | [] => env
  | v :: vs => (wipeE env vs).set v none
theorem Slots.kill {F H : Hp} {o : Option V} : ∀ {env : Py.Env} {σ : St} {L : List Addr} {i : Nat}, Slots K F H env σ L → L.Nodup → ∃ L', Slots K F H (env.set i none) (σ.set i o) L' ∧ L'.Nodup ∧ ∀ a ∈ L', a ∈ L
  | _, _, _, i, .nil, nd => ⟨[], by simpa using Slots.nil, nd, fun a h => h⟩
  | _, _, _, 0, .so (L := L1) (M := M1) h t, nd => ⟨M1, .no t, (List.nodup_append.mp nd).2.1, fun a h => List.mem_append_right _ h⟩
  | _, _, _, 0, .no (M := M1) t, nd => ⟨M1, .no t, nd, fun a h => h⟩
  | _, _, _, i + 1, .so (L := L1) (M := M1) h t, nd => by
    rw [List.nodup_append] at nd
    obtain ⟨n1, n2, n3⟩ := nd
    obtain ⟨L', s, nd', m⟩ := t.kill (i := i) (o := o) n2
    refine ⟨L1 ++ L', .so h s, ?_, fun a ha => ?_⟩
    · rw [List.nodup_append]
      exact ⟨n1, nd', fun a ha b hb => n3 a ha b (m b hb)⟩
    · rcases List.mem_append.mp ha with q | q
      · exact List.mem_append_left _ q
      · exact List.mem_append_right _ (m a q)
  | _, _, _, i + 1, .no (M := M1) t, nd => by
    obtain ⟨L', s, nd', m⟩ := t.kill (i := i) (o := o) nd
    exact ⟨L', .no s, nd', m⟩
theorem Rel.wipe {e : Ent} {F H : Hp} {σ : St} {L : List Addr} (r : Rel K e env F σ H L) (hp : e.pins = []) : ∀ vs : List Nat, ∃ L', Rel K e (wipeE env vs) F (L2.wipe σ vs) H L' ∧ ∀ a ∈ L', a ∈ L
  | [] => ⟨L, r, fun _ h => h⟩
  | v :: vs => by
    obtain ⟨L1, r1, m1⟩ := r.wipe hp vs
    obtain ⟨L2, s, nd, m⟩ := r1.slots.kill (i := v) (o := none) r1.nd
    exact ⟨L2, ⟨r1.sF, s, nd, fun a h => r1.dj a (m a h), r1.s0, r1.nw, r1.fr, fun a h => r1.ln a (m a h), fun p hm => by rw [hp] at hm; cases hm⟩, fun a h => m1 a (m a h)⟩
theorem Rel.nopin {e : Ent} {F H : Hp} {σ : St} {L : List Addr} (r : Rel K e env F σ H L) : Rel K { e with pins := [] } env F σ H L := ⟨r.sF, r.slots, r.nd, r.dj, r.s0, r.nw, r.fr, r.ln, fun _ h => nomatch h⟩
theorem Rel.free {e : Ent} {F H : Hp} {σ : St} {L : List Addr} {p : Addr} {o : HO} (r : Rel K e env F σ H L) (h1 : p ∉ L) (h2 : F p = none) (h3 : p ∈ e.L0 ∨ e.H0 p = none) : Rel K e env F σ (upd H p o) L where
  sF := fun b u hb => by rw [upd_ne (fun z => by rw [z, h2] at hb; cases hb)]; exact r.sF _ _ hb
  slots := r.slots.frame (Same.refl _) fun a m u hu => by rw [upd_ne (fun z => h1 (by rw [← z]; exact m))]; exact hu
  nd := r.nd
  dj := r.dj
  s0 := r.s0
  nw := r.nw
  fr := fun a u m hu => by
    rw [upd_ne (fun z => ?_)]
    · exact r.fr a u m hu
    · subst z
      rcases h3 with q | q
      · exact m q
      · rw [q] at hu; cases hu
  ln := r.ln
  pin := r.pin
/-- a target within a comprehension touches the comprehension's own slots alone -/
def GW (g : TG) (vs : List Nat) : Prop := ∀ (v : V) (σ : St) (H : Hp) (Q : St → Hp → Prop), g v σ H Q → g v σ H fun σ2 H2 => wipe σ2 vs = wipe σ vs ∧ Q σ2 H2
def GWs (g : TGs) (vs : List Nat) : Prop := ∀ (v : List V) (σ : St) (H : Hp) (Q : St → Hp → Prop), g v σ H Q → g v σ H fun σ2 H2 => wipe σ2 vs = wipe σ vs ∧ Q σ2 H2
theorem wipe_comm {n : Nat} {o : Option V} : ∀ (vs : List Nat) (σ : St), n ∉ vs → wipe (σ.set n o) vs = (wipe σ vs).set n o
  | [], σ, _ => rfl
  | w :: ws, σ, hn => by
    unfold wipe
    rw [wipe_comm ws σ (fun z => hn (List.mem_cons_of_mem _ z)), List.set_comm _ _ (fun z => hn (by rw [z]; exact List.mem_cons_self ..))]
theorem wipe_set {σ : St} {n : Nat} {o : Option V} : ∀ {vs : List Nat}, n ∈ vs → wipe (σ.set n o) vs = wipe σ vs
  | [], h => nomatch h
  | v :: vs, h => by
    unfold wipe
    by_cases hv : n ∈ vs
    · rw [wipe_set hv]
    · rcases List.mem_cons.mp h with z | z
      · subst z
        rw [wipe_comm vs σ hv, List.set_set]
      · exact absurd z hv
theorem wipe_wipe {σ : St} : ∀ {vs : List Nat}, wipe (wipe σ vs) vs = wipe σ vs
  | [] => rfl
  | v :: vs => by
    have e : wipe σ (v :: vs) = (wipe σ vs).set v none := rfl
    rw [e]
    show (wipe ((wipe σ vs).set v none) vs).set v none = _
    by_cases hv : v ∈ vs
    · rw [wipe_set hv, wipe_wipe]
    · rw [wipe_comm vs _ hv, wipe_wipe, List.set_set]
theorem gw_name {n : Nat} {vs : List Nat} (h : n ∈ vs) : GW (gName n) vs := fun v σ H Q q => ⟨wipe_set h, q⟩
theorem gws_nil {vs : List Nat} : GWs gNil vs := fun v σ H Q ⟨h, q⟩ => ⟨h, rfl, q⟩
/-- names one after another -/
theorem gws_cons {n : Nat} {gs : TGs} {vs : List Nat} (h : n ∈ vs) (h2 : GWs gs vs) : GWs (gCons (gName n) gs) vs := fun v σ H Q ⟨x, r, e, q⟩ => ⟨x, r, e, by
  have q := h2 r (σ.set n (some x)) H Q q
  simp only [wipe_set h] at q
  exact q⟩
theorem gw_tup {k : Nat} {gs : TGs} {vs : List Nat} (h : GWs gs vs) : GW (gTup K k gs) vs := fun v σ H Q ⟨a, xs, e1, e2, e3, q⟩ => ⟨a, xs, e1, e2, e3, h xs σ H Q q⟩
/-- rs i: what the first i items make -/
theorem ae_lc {wi : TI} {g : TG} {tt : TT} {vs : List Nat} (h : AIt K wi env ds) (hg : GW g vs) (rs : Nat → List D) (h0 : rs 0 = [])
    (hs : ∀ (i : Nat) (d : D), ds[i]? = some d → AG K [] g d (wipeE env vs) fun e2 => ∃ b, AT K tt e2 b ∧ (b = true → ∃ y, AE K te e2 (rO K y) ∧ rs (i + 1) = rs i ++ [y]) ∧ (b = false → rs (i + 1) = rs i))
    (hz : ∀ i, i ≤ ds.length → (rs i).length < 1000000) : AE K (tLc wi g tt te vs) env (rO K (.olst (rs ds.length))) := fun e F σ H L Q r q =>
  h e F σ H L _ r fun J F1 H1 x1 sq => by
    intro Dl hD
    have r1 := (r.ext x1).nopin
    obtain ⟨Lw, rw', mw⟩ := r1.wipe rfl vs
    have hF1 : F1 Dl = none := x1.s.free hD
    have hH : H Dl = none := x1.h.free hD
    refine ⟨fun i m H' => m = ds.length - i ∧ i ≤ ds.length ∧ ∃ F' ws M, Ext F H F' H' ∧ Same F1 F' ∧ Rel K { e with pins := [] } (wipeE env vs) F' (wipe σ vs) H' Lw ∧ H' Dl = some (.lst ws) ∧ F' Dl = none ∧ Owns K F' H' (rs i) ws M ∧ (Dl :: M).Nodup ∧ ∀ a ∈ M, H a = none ∧ F' a = none,
      ⟨ds.length, rfl, Nat.zero_le _, F1, [], [], ?_, Same.refl _, ?_, upd_same, hF1, by rw [h0]; exact .nil, by simp, fun a h => nomatch h⟩, ?_⟩
    · exact x1.trans (.newH x1.s hD)
    · exact rw'.ext (.newH x1.s hD)
    rintro i m H' ⟨rfl, hi, F', ws, M, xE, s1, rr, hl, hFD, os, nd, hM⟩
    have hDL : Dl ∉ Lw := fun z => by
      obtain ⟨o, ho⟩ := rw'.slots.lives Dl z
      rw [hD] at ho; cases ho
    by_cases hlt : i < ds.length
    · have hd' : ds[i]? = some ds[i] := List.getElem?_eq_getElem hlt
      obtain ⟨g1, g2⟩ := sq.go i _ F' H' s1 rr.sF hd'
      refine .inr ⟨g1, fun H'' => ∃ F' ws M, Ext F H F' H'' ∧ Same F1 F' ∧ Rel K { e with pins := [] } (wipeE env vs) F' (wipe σ vs) H'' Lw ∧ H'' Dl = some (.lst ws) ∧ F' Dl = none ∧ Owns K F' H'' (rs (i + 1)) ws M ∧ (Dl :: M).Nodup ∧ ∀ a ∈ M, H a = none ∧ F' a = none,
        fun H'' p' => ⟨ds.length - (i + 1), by omega, rfl, hlt, p'⟩, fun x H2 y => ?_⟩
      obtain ⟨F2, x2, sx⟩ := g2 x H2 y
      have rr2 := rr.ext x2
      have fin : ∀ {Fa Ha}, Ext F2 H2 Fa Ha → Ext F H Fa Ha ∧ Same F1 Fa ∧ Rel K { e with pins := [] } (wipeE env vs) Fa (wipe σ vs) Ha Lw ∧ Ha Dl = some (.lst ws) ∧ Fa Dl = none ∧ Owns K Fa Ha (rs i) ws M ∧ ∀ a ∈ M, H a = none ∧ Fa a = none := fun {Fa Ha} xa => by
        have x3 := x2.trans xa
        have nn : ∀ a, (∃ o, H' a = some o) → F' a = none → Fa a = none := fun a ⟨o, ho⟩ hf => by
          cases z : Fa a with
          | none => rfl
          | some u =>
            rcases x3.n a u z with w | w
            · rw [hf] at w; cases w
            · rw [ho] at w; cases w
        exact ⟨xE.trans x3, s1.trans x3.f, rr.ext x3, x3.h _ _ hl, nn Dl ⟨_, hl⟩ hFD, os.frame x3.f fun a _ o ho => x3.h _ _ ho, fun a ha => ⟨(hM a ha).1, nn a (os.lives a ha) (hM a ha).2⟩⟩
      have step := hg x (wipe σ vs) H2 _ (hs i _ hd' { e with pins := [] } F2 (wipe σ vs) H2 Lw x (fun σ2 H2 => tt σ2 H2 fun b H3 => if b = true then te σ2 H3 fun y H4 => ∃ acc, H4 Dl = some (.lst acc) ∧ acc.length < sizeLine ∧
          (fun H'' => ∃ F' ws M, Ext F H F' H'' ∧ Same F1 F' ∧ Rel K { e with pins := [] } (wipeE env vs) F' (wipe σ vs) H'' Lw ∧ H'' Dl = some (.lst ws) ∧ F' Dl = none ∧ Owns K F' H'' (rs (i + 1)) ws M ∧ (Dl :: M).Nodup ∧ ∀ a ∈ M, H a = none ∧ F' a = none) (upd H4 Dl (.lst (acc ++ [y]))) else
          (fun H'' => ∃ F' ws M, Ext F H F' H'' ∧ Same F1 F' ∧ Rel K { e with pins := [] } (wipeE env vs) F' (wipe σ vs) H'' Lw ∧ H'' Dl = some (.lst ws) ∧ F' Dl = none ∧ Owns K F' H'' (rs (i + 1)) ws M ∧ (Dl :: M).Nodup ∧ ∀ a ∈ M, H a = none ∧ F' a = none) H3) rfl rr2 sx fun env2 σ2 L2 k2 q2 => ?_)
      · rw [wipe_wipe] at step
        exact step
      obtain ⟨b, hb, hy, hn⟩ := k2
      refine hb _ F2 σ2 H2 L2 _ q2 fun F3 H3 x3 => ?_
      cases b with
      | false =>
        obtain ⟨a1, a2, a3, a4, a5, a6, a7⟩ := fin x3
        rw [hn rfl]
        exact ⟨F3, ws, M, a1, a2, a3, a4, a5, a6, nd, a7⟩
      | true =>
        obtain ⟨y, hte, hacc⟩ := hy rfl
        refine hte _ F3 σ2 H3 L2 _ (q2.ext x3) fun w F4 H4 x4 ⟨My, oy, ndy, ky⟩ => ?_
        obtain ⟨a1, a2, a3, a4, a5, a6, a7⟩ := fin (x3.trans x4)
        have hlen : (rs i).length < 1000000 := hz i hi
        refine ⟨ws, a4, by rw [← a6.length]; exact Nat.lt_of_lt_of_le hlen (by decide), F4, ws ++ [w], M ++ My, ?_, a2, a3.free hDL a5 (rw'.h0 hD), upd_same, a5, ?_, ?_, ?_⟩
        · exact ⟨a1.f, fun b u hb => by rw [upd_ne (fun z => by rw [z, a5] at hb; cases hb)]; exact a1.s _ _ hb, fun b u hb => by rw [upd_ne (fun z => by rw [z, hH] at hb; cases hb)]; exact a1.h _ _ hb, a1.n⟩
        · have nD : ∀ b ∈ My, b ≠ Dl := fun b hb z => by
            have := (x2.trans x3).h _ _ hl
            rw [← z, (ky b hb).1] at this; cases this
          rw [hacc]
          refine Owns.snoc (a6.frame (Same.refl _) fun b hb u hu => ?_) (oy.frame (Same.refl _) fun b hb u hu => ?_)
          · rw [upd_ne (fun z => (List.nodup_cons.mp nd).1 (by rw [← z]; exact hb))]; exact hu
          · rw [upd_ne (nD b hb)]; exact hu
        · have fr : ∀ b ∈ My, b ∉ Dl :: M := fun b hb z => by
            have : ∃ o, H3 b = some o := by
              rcases List.mem_cons.mp z with z | z
              · exact ⟨_, by rw [z]; exact (x2.trans x3).h _ _ hl⟩
              · obtain ⟨o, ho⟩ := os.lives b z
                exact ⟨o, (x2.trans x3).h _ _ ho⟩
            obtain ⟨o, ho⟩ := this
            rw [(ky b hb).1] at ho; cases ho
          have : ((Dl :: M) ++ My).Nodup := by
            rw [List.nodup_append]
            exact ⟨nd, ndy, fun b hb c hc z => fr c hc (by rw [← z]; exact hb)⟩
          exact this
        · intro b hb
          rcases List.mem_append.mp hb with z | z
          · exact a7 b z
          · exact ⟨(xE.trans (x2.trans x3)).h.free (ky b z).1, (ky b z).2⟩
    · have e0 : i = ds.length := by omega
      subst e0
      refine .inl ⟨sq.stop F' H' s1 rr.sF, q _ F' H' xE ⟨Dl :: M, .olst hl os, nd, fun a ha => ?_⟩⟩
      rcases List.mem_cons.mp ha with z | z
      · subst z; exact ⟨hH, hFD⟩
      · exact hM a z
/-- no test: the results one by one -/
theorem ae_lcM {wi : TI} {g : TG} {vs : List Nat} {ys : List D} (h : AIt K wi env ds) (hg : GW g vs) (hl : ys.length = ds.length)
    (hs : ∀ (i : Nat) (d y : D), ds[i]? = some d → ys[i]? = some y → AG K [] g d (wipeE env vs) fun e2 => AE K te e2 (rO K y)) (hz : ds.length < 1000000) : AE K (tLc wi g tYes te vs) env (rO K (.olst ys)) := by
  have q := ae_lc (te := te) (tt := tYes) h hg (fun i => ys.take i) rfl (fun i d hd => ?_) fun i hi => ?_
  · rw [← hl, List.take_length] at q
    exact q
  · have hi : i < ys.length := by rw [hl]; exact (List.getElem?_eq_some_iff.mp hd).1
    have hy : ys[i]? = some ys[i] := List.getElem?_eq_getElem hi
    intro e F σ H L v Q hP r sv c
    refine hs i d _ hd hy e F σ H L v Q hP r sv fun env' σ' L' k r' => c env' σ' L' ⟨true, at_yes, fun _ => ⟨_, k, ?_⟩, fun z => nomatch z⟩ r'
    rw [List.take_add_one, hy]; rfl
  · rw [List.length_take]; omega
/-- with a test: the results of those that pass -/
theorem ae_lcF {wi : TI} {g : TG} {tt : TT} {vs : List Nat} {f : D → Option D} (h : AIt K wi env ds) (hg : GW g vs)
    (hs : ∀ (i : Nat) (d : D), ds[i]? = some d → AG K [] g d (wipeE env vs) fun e2 => ∃ b, AT K tt e2 b ∧ (b = true → ∃ y, AE K te e2 (rO K y) ∧ f d = some y) ∧ (b = false → f d = none)) (hz : ds.length < 1000000) : AE K (tLc wi g tt te vs) env (rO K (.olst (ds.filterMap f))) := by
  have q := ae_lc (te := te) (tt := tt) h hg (fun i => (ds.take i).filterMap f) rfl (fun i d hd => ?_) fun i hi => ?_
  · rw [List.take_length] at q
    exact q
  · have e1 : (ds.take (i + 1)).filterMap f = (ds.take i).filterMap f ++ (f d).toList := by
      rw [List.take_add_one, hd, List.filterMap_append]
      show _ ++ [d].filterMap f = _
      rw [List.filterMap_cons]
      cases f d <;> rfl
    intro e F σ H L v Q hP r sv c
    refine hs i d hd e F σ H L v Q hP r sv fun env' σ' L' ⟨b, k1, k2, k3⟩ r' => c env' σ' L' ⟨b, k1, fun z => ?_, fun z => ?_⟩ r'
    · obtain ⟨y, h1, h2⟩ := k2 z
      exact ⟨y, h1, by rw [e1, h2]; rfl⟩
    · rw [e1, k3 z]; simp
  · have := List.length_filterMap_le f (ds.take i)
    rw [List.length_take] at this
    omega
end
end Py

namespace Py
open PySem L2
/-- enc tells a thing in D; == of two is their equality; depth at most n -/
structure EqE {α : Type} (enc : α → D) (dat : α → PyData) (eqb : α → α → Bool) (n : Nat) : Prop where
  pd : ∀ a, Py.pd (enc a) = some (dat a)
  eq : ∀ a b, PyData.eqv (dat a) (dat b) = eqb a b
  iff : ∀ a b, eqb a b = true ↔ a = b
  lay : ∀ a, (dat a).canLay0 = true
  dep : ∀ a, (dat a).depth ≤ n
  sh : ∀ a, isSh (enc a) = true
theorem EqE.shaped {α : Type} {enc : α → D} {dat : α → PyData} {eqb : α → α → Bool} {n : Nat} (e : EqE enc dat eqb n) (h : n ≤ 64) (a : α) : SeqAt.shaped (dat a) = true := by
  unfold SeqAt.shaped
  rw [e.lay a, decide_eq_true (Nat.le_trans (e.dep a) h)]; rfl
theorem EqE.dec {α : Type} [DecidableEq α] {enc : α → D} {dat : α → PyData} {eqb : α → α → Bool} {n : Nat} (e : EqE enc dat eqb n) (a b : α) : PyData.eqv (dat a) (dat b) = decide (a = b) := by
  rw [e.eq, Bool.eq_iff_iff, e.iff, decide_eq_true_iff]
theorem fz_sh {d : D} (h : isSh d = true) : fz d = d := by
  cases d <;> first | (cases h; done) | rfl | (rw [fz]; done) | (rw [fz] <;> (intros; contradiction)) | (simp [fz]; done)
theorem fzs_enc {α : Type} {enc : α → D} (h : ∀ a, isSh (enc a) = true) : ∀ xs : List α, fzs (xs.map enc) = xs.map enc
  | [] => by rw [List.map_nil, fzs]
  | x :: xs => by rw [List.map_cons, fzs, fz_sh (h x), fzs_enc h xs]
theorem allsh_enc {α : Type} {enc : α → D} (h : ∀ a, isSh (enc a) = true) (xs : List α) : (xs.map enc).all isSh = true := by
  rw [List.all_map, List.all_eq_true]; exact fun a _ => h a
section
variable {K : PySem.W.Frag} {α β γ : Type} {enc : α → D} {dat : α → PyData} {eqb : α → α → Bool} {n m k : Nat} {encB : β → D} {datB : β → PyData} {eqbB : β → β → Bool} {encC : γ → D} {datC : γ → PyData} {eqbC : γ → γ → Bool}
theorem o2_eqE [DecidableEq α] (e : EqE enc dat eqb n) (h : n ≤ 64) (a b : α) {r : R2} : Op2 K (fun x y H Q => r x y H Q ∨ rEqD K x y H Q) (enc a) (enc b) (.bl (decide (a = b))) := by
  rw [← e.dec a b]
  exact o2_r (o2_eqD (e.pd a) (e.pd b) (e.shaped h a) (e.shaped h b))
theorem o2_neE [DecidableEq α] (e : EqE enc dat eqb n) (h : n ≤ 64) (a b : α) {r : R2} : Op2 K (fun x y H Q => r x y H Q ∨ rNeD K x y H Q) (enc a) (enc b) (.bl (!decide (a = b))) := by
  rw [← e.dec a b]
  exact o2_r (o2_neD (e.pd a) (e.pd b) (e.shaped h a) (e.shaped h b))
theorem eqe_int : EqE D.int PyData.int (fun a b => a == b) 0 where
  pd := fun a => by rw [pd]
  eq := fun a b => by rw [PyData.eqv]
  iff := fun a b => by simp
  lay := fun a => by rw [PyData.canLay0]
  dep := fun a => by simp [PyData.depth]
  sh := fun a => rfl
theorem eqe_bool : EqE D.bl PyData.bool (fun a b => a == b) 0 where
  pd := fun a => by rw [pd]
  eq := fun a b => by rw [PyData.eqv]
  iff := fun a b => by simp
  lay := fun a => by rw [PyData.canLay0]
  dep := fun a => by simp [PyData.depth]
  sh := fun a => rfl
/-- None or an int -/
def oI : Option Int → D
  | none => .non
  | some i => .int i
def oIp : Option Int → PyData
  | none => .none
  | some i => .int i
theorem eqe_opt : EqE oI oIp (fun a b => a == b) 0 where
  pd := fun a => by cases a <;> (simp only [oI, oIp]; rw [pd])
  eq := fun a b => by
    cases a <;> cases b <;> (simp only [oIp]; rw [PyData.eqv]) <;> rfl
  iff := fun a b => by simp
  lay := fun a => by cases a <;> (simp only [oIp]; rw [PyData.canLay0])
  dep := fun a => by cases a <;> simp [oIp, PyData.depth]
  sh := fun a => by cases a <;> rfl
theorem pds_map (e : EqE enc dat eqb n) : ∀ xs : List α, pds (xs.map enc) = some (xs.map dat)
  | [] => by rw [List.map_nil, pds]; rfl
  | x :: xs => by rw [List.map_cons, pds, e.pd x, pds_map e xs]; rfl
theorem eqvAll_map (e : EqE enc dat eqb n) : ∀ xs ys : List α, PyData.eqvAll (xs.map dat) (ys.map dat) = true ↔ xs = ys
  | [], [] => by simp [PyData.eqvAll]
  | [], y :: ys => by simp [PyData.eqvAll]
  | x :: xs, [] => by simp [PyData.eqvAll]
  | x :: xs, y :: ys => by
    rw [List.map_cons, List.map_cons, PyData.eqvAll, Bool.and_eq_true, e.eq, e.iff, eqvAll_map e xs ys, List.cons.injEq]
theorem layAll_map (e : EqE enc dat eqb n) : ∀ xs : List α, PyData.canLayAll0 (xs.map dat) = true
  | [] => by rw [List.map_nil, PyData.canLayAll0]
  | x :: xs => by rw [List.map_cons, PyData.canLayAll0, e.lay x, layAll_map e xs]; rfl
theorem depAll_map (e : EqE enc dat eqb n) : ∀ xs : List α, PyData.depthAll (xs.map dat) ≤ n
  | [] => by simp [PyData.depthAll]
  | x :: xs => by
    rw [List.map_cons, PyData.depthAll]
    have := e.dep x
    have := depAll_map e xs
    omega
theorem eqe_list (e : EqE enc dat eqb n) : EqE (fun xs : List α => D.lst (xs.map enc)) (fun xs => .list (xs.map dat)) (fun xs ys => PyData.eqvAll (xs.map dat) (ys.map dat)) (n + 1) where
  pd := fun xs => by rw [pd, pds_map e]; rfl
  eq := fun xs ys => by rw [PyData.eqv]
  iff := eqvAll_map e
  lay := fun xs => by rw [PyData.canLay0]; exact layAll_map e xs
  dep := fun xs => by rw [PyData.depth]; have := depAll_map e xs; omega
  sh := fun _ => rfl
theorem eqe_tupl (e : EqE enc dat eqb n) : EqE (fun xs : List α => D.tup (xs.map enc)) (fun xs => .tuple (xs.map dat)) (fun xs ys => PyData.eqvAll (xs.map dat) (ys.map dat)) (n + 1) where
  pd := fun xs => by rw [pd, pds_map e]; rfl
  eq := fun xs ys => by rw [PyData.eqv]
  iff := eqvAll_map e
  lay := fun xs => by rw [PyData.canLay0]; exact layAll_map e xs
  dep := fun xs => by rw [PyData.depth]; have := depAll_map e xs; omega
  sh := fun _ => rfl
theorem eqe_pair (e : EqE enc dat eqb n) (e2 : EqE encB datB eqbB m) : EqE (fun p : α × β => D.tup [enc p.1, encB p.2]) (fun p => .tuple [dat p.1, datB p.2]) (fun p q => eqb p.1 q.1 && eqbB p.2 q.2) (max n m + 1) where
  pd := fun p => by simp only [Py.pd, Py.pds, e.pd, e2.pd]; rfl
  eq := fun p q => by simp only [PyData.eqv, PyData.eqvAll, e.eq, e2.eq, Bool.and_true]
  iff := fun p q => by rw [Bool.and_eq_true, e.iff, e2.iff, Prod.ext_iff]
  lay := fun p => by simp only [PyData.canLay0, PyData.canLayAll0, e.lay, e2.lay, Bool.and_true]
  dep := fun p => by
    have := e.dep p.1
    have := e2.dep p.2
    simp only [PyData.depth, PyData.depthAll]
    omega
  sh := fun _ => rfl
theorem eqe_trip (e : EqE enc dat eqb n) (e2 : EqE encB datB eqbB m) (e3 : EqE encC datC eqbC k) : EqE (fun p : α × β × γ => D.tup [enc p.1, encB p.2.1, encC p.2.2]) (fun p => .tuple [dat p.1, datB p.2.1, datC p.2.2]) (fun p q => eqb p.1 q.1 && (eqbB p.2.1 q.2.1 && eqbC p.2.2 q.2.2)) (max n (max m k) + 1) where
  pd := fun p => by simp only [Py.pd, Py.pds, e.pd, e2.pd, e3.pd]; rfl
  eq := fun p q => by simp only [PyData.eqv, PyData.eqvAll, e.eq, e2.eq, e3.eq, Bool.and_true]
  iff := fun p q => by rw [Bool.and_eq_true, Bool.and_eq_true, e.iff, e2.iff, e3.iff, Prod.ext_iff, Prod.ext_iff]
  lay := fun p => by simp only [PyData.canLay0, PyData.canLayAll0, e.lay, e2.lay, e3.lay, Bool.and_true]
  dep := fun p => by
    have := e.dep p.1
    have := e2.dep p.2.1
    have := e3.dep p.2.2
    simp only [PyData.depth, PyData.depthAll]
    omega
  sh := fun _ => rfl
end
end Py

namespace Py
open PySem L2
section
variable {K : PySem.W.Frag} {env : Py.Env} {P : List Nat} {E : XK} {A : AEnds} {ta tb t : TE} {d d0 d1 d2 : D} {i : Nat} {st : List Pst}
theorem ae_opF {r : R2} (ha : AE K ta env (rV K d1)) (hb : AE K tb env (rV K d2)) (h : Op2 K r d1 d2 d) (s : isSh d = true) : AE K (tOp r ta tb) env (rF K d) := (ae_op2 ha hb h).shr s
theorem ae_cbF {r : List V → Hp → VK → Prop} {tr : TA} {ds : List D} (h : AA K tr env (rVs K ds)) (hc : Cb K r ds d) (s : isSh d = true) : AE K (tCB r tr) env (rF K d) := (ae_cb h hc).shr s
theorem ae_callF {pre : List D → Prop} {post : List D → D → Prop} {args : List D} {tr : TA} {E : XK} (h : AA K tr env (rFs K args)) (hp : pre args) (hd : ∀ x, post args x → x = d) (s : isSh d = true) : AE K (tCall (spP K pre post noX) [] E tr) env (rF K d) := (ae_callD h hp hd).shr s
theorem ae_callKD {pre : List D → Prop} {post : List D → D → Prop} {ds es : List D} {tr tk : TA} {E : XK} {n m : Nat} (h : AA K tr env (rFs K ds)) (h2 : AA K tk env (rFs K es)) (hn : ds.length = n) (hm : es.length = m) (hp : pre (ds ++ es)) (hd : ∀ x, post (ds ++ es) x → x = d) :
    AE K (tCallK (spP K pre post noX) (gK n m) E tr tk) env (rO K d) := fun e F σ H L Q r q =>
  h e F σ H L _ r fun vs F1 H1 x1 y1 => h2 e F1 σ H1 L _ (r.ext x1) fun zs F2 H2 x2 y2 => by
    have e1 : gK n m vs zs = vs ++ zs := by unfold gK; rw [if_pos ⟨by rw [← y1.length]; exact hn, by rw [← y2.length]; exact hm⟩]
    rw [e1]
    refine ⟨F2, ds ++ es, x2.s, (y1.mono x2.f).append y2, hp, fun res F' H' v M hq x o nd k => q v F' H' ((x1.trans x2).trans x) ?_, fun _ _ _ _ _ z => z.elim⟩
    rw [← hd res hq]
    exact ⟨M, o, nd, fun a m => ⟨(x1.trans x2).h.free (k a m).1, (k a m).2⟩⟩
theorem ae_callKF {pre : List D → Prop} {post : List D → D → Prop} {ds es : List D} {tr tk : TA} {E : XK} {n m : Nat} (h : AA K tr env (rFs K ds)) (h2 : AA K tk env (rFs K es)) (hn : ds.length = n) (hm : es.length = m) (hp : pre (ds ++ es)) (hd : ∀ x, post (ds ++ es) x → x = d) (s : isSh d = true) :
    AE K (tCallK (spP K pre post noX) (gK n m) E tr tk) env (rF K d) := (ae_callKD h h2 hn hm hp hd).shr s
theorem as_append {xs : List D} {d' : D} (hl : ALoc K t env i st) (h0 : env[i]? = some (some d0)) (h1 : d0.at st = some (.olst xs)) (ha : AE K ta env (rO K d)) (hz : xs.length < 1000000)
    (hp : d0.putAt st (.olst (xs ++ [d])) = d') (q : A.nx (env.set i (some d'))) : AS K P E (tDrop (tBM K "list" rAppend t (tCons ta tNil))) env A :=
  as_dropM (am_append (k := fun _ env' => env' = env.set i (some d')) hl h0 h1 ha hz (by rw [hp])) fun _ _ h => h ▸ q
/-- a test that fails, a test that holds -/
theorem as_ifF {tc : TT} {t u : TS} {b : Bool} (h : AT K tc env b) (hb : b = false) (k : AS K P E u env A) : AS K P E (tIfS tc t u) env A := as_if h (fun z => by rw [hb] at z; cases z) fun _ => k
theorem as_ifT {tc : TT} {t u : TS} {b : Bool} (h : AT K tc env b) (hb : b = true) (k : AS K P E t env A) : AS K P E (tIfS tc t u) env A := as_if h (fun _ => k) fun z => by rw [hb] at z; cases z
/-- .append of a name -/
theorem as_append0 {xs : List D} (h0 : env[i]? = some (some (.olst xs))) (ha : AE K ta env (rO K d)) (hz : xs.length < 1000000)
    (q : A.nx (env.set i (some (.olst (xs ++ [d]))))) : AS K P E (tDrop (tBM K "list" rAppend (tVar i) (tCons ta tNil))) env A :=
  as_append loc_var h0 rfl ha hz rfl q
theorem AS.weaken {t : TS} {A' : AEnds} (h : AS K P E t env A') (nx : ∀ e, A'.nx e → A.nx e) (rt : ∀ d e, A'.rt d e → A.rt d e) (bk : ∀ e, A'.bk e → A.bk e) (ct : ∀ e, A'.ct e → A.ct e) (ex : ∀ x e, A'.ex x e → A.ex x e) : AS K P E t env A :=
  fun e F σ H L Dn hP r s => h e F σ H L Dn hP r ⟨fun _ _ _ _ _ a => s.nx _ _ _ _ _ (nx _ a), fun _ _ _ _ _ _ _ _ a => s.rt _ _ _ _ _ _ _ _ (rt _ _ a), fun _ _ _ _ _ a => s.bk _ _ _ _ _ (bk _ a), fun _ _ _ _ _ a => s.ct _ _ _ _ _ (ct _ a), fun _ _ _ _ _ _ _ _ a => s.ex _ _ _ _ _ _ _ _ (ex _ _ a)⟩
/-- the same ahead of the last step -/
theorem as_join {t : TS} (N : Py.Env → Prop) (h : AS K P E t env { A with nx := N }) (k : ∀ env', N env' → A.nx env') : AS K P E t env A :=
  h.weaken k (fun _ _ a => a) (fun _ a => a) (fun _ a => a) fun _ _ a => a
/-- behind several ways: what holds there (the ways of an if meet) -/
theorem as_meet {t u : TS} (N : Py.Env → Prop) (h : AS K P E t env { A with nx := N }) (k : ∀ env', N env' → AS K P E u env' A) : AS K P E (tSeq t u) env A :=
  as_seq (h.weaken k (fun _ _ a => a) (fun _ a => a) (fun _ a => a) fun _ _ a => a)
end
end Py

namespace Py
open PySem L2
def top (i : Nat) : Stmt := PySem.Challenge.pw_anyhashes_k61_capacity_of_depths.main.body.getD i (.Pass ⟨0, 0, 0, 0⟩)
local macro_rules | `(tactic| walk_at "cond") => `(tactic| first
  | assumption
  | exact cmul_l (by omega) (by omega)
  | exact cmul_r (by omega) (by omega)
  | exact cdiv_s (by omega) (by omega)
  | omega
  | (constructor <;> omega))
local macro_rules | `(tactic| walk_at "ix") => `(tactic| first | rfl | assumption)
local macro_rules | `(tactic| walk_at "fls") => `(tactic| first | exact fun _ => .int | exact fun _ => .bl)
local macro_rules | `(tactic| walk_at "eqs") => `(tactic| first
  | exact o2_neE (eqe_list eqe_int) (by decide) _ _ | exact o2_eqE (eqe_list eqe_int) (by decide) _ _)
local macro_rules | `(tactic| walk_at "op") => `(tactic| first
  | ((with_reducible show Op2 _ (rI0 _) _ _ _); refine o2_i (by walk_at "fls"))
  | ((with_reducible show Op2 _ (rI _ _) _ _ _); refine o2_ic (by walk_at "cond") (by walk_at "fls"))
  | ((with_reducible show Op2 _ (fun x y H Q => rI0 _ x y H Q ∨ _) _ _ _); refine o2_l (o2_i (by walk_at "fls")))
  | with_reducible exact o2_l o2_eqI | with_reducible exact o2_l o2_neI
  | with_reducible exact o2_l o2_eqS | with_reducible exact o2_l o2_neS
  | with_reducible exact o2_l o2_eqB | with_reducible exact o2_l o2_neB
  | walk_at "eqs"
  | exact o2_l (o2_eqF rfl rfl rfl) | exact o2_l (o2_neF rfl rfl rfl))
local macro_rules | `(tactic| walk_at "kit") => `(tactic| first
  | exact kit_NoneType_int
  | exact kit_NoneType_bool
  | exact kit_NoneType_str
  | exact kit_NoneType_list
  | exact kit_NoneType_tuple
  | exact kit_NoneType_dict
  | exact kit_bool_int
  | exact kit_bool_bool
  | exact kit_bool_str
  | exact kit_bool_list
  | exact kit_bool_tuple
  | exact kit_bool_dict
  | exact kit_int_int
  | exact kit_int_bool
  | exact kit_int_str
  | exact kit_int_list
  | exact kit_int_tuple
  | exact kit_int_dict
  | exact kit_str_int
  | exact kit_str_bool
  | exact kit_str_str
  | exact kit_str_list
  | exact kit_str_tuple
  | exact kit_str_dict
  | exact kit_list_int
  | exact kit_list_bool
  | exact kit_list_str
  | exact kit_list_list
  | exact kit_list_tuple
  | exact kit_list_dict
  | exact kit_tuple_int
  | exact kit_tuple_bool
  | exact kit_tuple_str
  | exact kit_tuple_list
  | exact kit_tuple_tuple
  | exact kit_tuple_dict
  | exact kit_dict_int
  | exact kit_dict_bool
  | exact kit_dict_str
  | exact kit_dict_list
  | exact kit_dict_tuple
  | exact kit_dict_dict)
local macro_rules | `(tactic| walk_at "cb") => `(tactic| first
  | with_reducible exact cb_int | with_reducible exact cb_abs | with_reducible exact cb_lenL | with_reducible exact cb_lenT | with_reducible exact cb_lenS
  | with_reducible exact cb_max2 | with_reducible exact cb_min2
  | ((with_reducible show Cb _ (rIsi _) _ _); refine cb_isi rfl (by walk_at "kit")))
local macro_rules | `(tactic| walk_at "aeL") => `(tactic| first
  | ((with_reducible show AE _ (tVar _) _ _); exact ae_varL rfl (by walk_at "allsh"))
  | refine AE.list (by walk_at "aeF"))
local macro_rules | `(tactic| walk_at "allsh") => `(tactic| first | rfl | assumption | exact allsh_enc (fun a => by first | rfl | (cases a <;> rfl)) _ | (simp only [List.all_map]; simp [isSh]))
local macro_rules | `(tactic| walk_at "lens") => `(tactic| first | (show _ ≤ 1000000; decide) | (simp only [List.length_cons, List.length_nil]; omega) | (simp only [List.length_map, List.length_append, List.length_cons, List.length_nil]; omega))
local macro_rules | `(tactic| walk_at "aeF") => `(tactic| first
  | with_reducible exact ae_int | with_reducible exact ae_bl | with_reducible exact ae_non | with_reducible exact ae_str
  | ((with_reducible show AE _ (tVar _) _ _); refine ae_var rfl (by first | rfl | assumption))
  | ((with_reducible show AE _ (tC (.ty _)) _ _); exact ae_c fun _ => .ty)
  | ((with_reducible show AE _ (tOp (rIxU _) _ _) _ _); first
      | refine ae_ixS (by walk_at "aeV") (by walk_at "aeV") (by walk_at "ix")
      | refine ae_ixL (by walk_at "aeL") (by walk_at "aeV") (by walk_at "ix")
      | refine ae_ixT (by walk_at "aeF") (by walk_at "aeV") (by walk_at "ix"))
  | ((with_reducible show AE _ (tOp (fun x y H Q => y = .non ∧ _) _ _) _ _); first | refine ae_isN (by walk_at "aeV") | refine ae_notN (by walk_at "aeV"))
  | ((with_reducible show AE _ (tOp _ _ _) _ _); refine ae_opF (by walk_at "aeV") (by walk_at "aeV") (by walk_at "op") rfl)
  | ((with_reducible show AE _ (tUn _ _) _ _); refine ae_u (by walk_at "aeV") (by walk_at "fls"))
  | ((with_reducible show AE _ (tCall _ _ _ _) _ _); refine ae_callF (by walk_at "aaF") (by walk_at "pre") (by walk_at "post") rfl)
  | ((with_reducible show AE _ (tCallK _ _ _ _ _) _ _); refine ae_callKF (by walk_at "aaF") (by walk_at "aaF") rfl rfl (by walk_at "pre") (by walk_at "post") rfl)
  | ((with_reducible show AE _ (tCB _ _) _ _); refine ae_cbF (by walk_at "aaV") (by walk_at "cb") rfl)
  | ((with_reducible show AE _ (tAndV _ _) _ _); refine ae_andV (by walk_at "aeV") (by (walk_at "hyp"; walk_at "aeV")))
  | ((with_reducible show AE _ (tOrV _ _) _ _); refine ae_orV (by walk_at "aeV") (by (walk_at "hyp"; walk_at "aeV")))
  | ((with_reducible show AE _ (tNotV _) _ _); refine ae_notV (by walk_at "aeV"))
  | ((with_reducible show AE _ (tTup _) _ _); refine ae_tup (by walk_at "aaF") (by walk_at "lens")))
local macro_rules | `(tactic| walk_at "aeV") => `(tactic| first
  | refine AE.view (by walk_at "aeF")
  | ((with_reducible show AE _ (tVar _) _ _); first | exact (ae_varV rfl).isV (by rw [fz, fzs_enc (fun a => by first | rfl | (cases a <;> rfl))]) | exact (ae_varV rfl).isV (by simp only [fz, fzs]) | exact ae_varV rfl)
  | refine AE.viewO (by walk_at "aeN"))
local macro_rules | `(tactic| walk_at "aeN") => `(tactic|
  ((with_reducible show AE _ (tLst _) _ _); refine ae_lst (by walk_at "aaF") (by walk_at "lens")))
local macro_rules | `(tactic| walk_at "aeN") => `(tactic|
  ((with_reducible show AE _ (tCall _ _ _ _) _ _); refine ae_callD (by walk_at "aaF") (by walk_at "pre") (by walk_at "post")))
local macro_rules | `(tactic| walk_at "aeN") => `(tactic| first
  | ((with_reducible show AE _ (tCB _ (tCons _ tNil)) _ _); refine ae_cbL (by walk_at "aeT") (by walk_at "cbL"))
  | ((with_reducible show AE _ (tOp _ _ _) _ _); refine ae_op2L (by walk_at "aeT") (by walk_at "aeT") (by walk_at "opL")))
local macro_rules | `(tactic| walk_at "cbL") => `(tactic| first | with_reducible exact cbL_list | with_reducible exact cbL_tuple)
local macro_rules | `(tactic| walk_at "opL") => `(tactic| first | exact o2L_cat (by walk_at "lens") | exact o2L_r (o2L_l (o2L_cat (by walk_at "lens"))))
local macro_rules | `(tactic| walk_at "aeT") => `(tactic| first
  | ((with_reducible show AE _ (tVar _) _ _); exact ae_varT rfl (by walk_at "allsh"))
  | exact AE.listO (by walk_at "aeN") (by walk_at "allsh")
  | refine AE.listT (by walk_at "aeF"))
local macro_rules | `(tactic| walk_at "aeO") => `(tactic| first
  | walk_at "aeN"
  | refine AE.own (by walk_at "aeF"))
local macro_rules | `(tactic| walk_at "aeZ") => `(tactic| first
  | walk_at "aeF"
  | exact (AE.frz (by walk_at "aeN")).isF (by walk_at "fz"))
local macro_rules | `(tactic| walk_at "fz") => `(tactic| (simp only [fz, fzs_eq, List.map_map, List.map_cons, List.map_nil]; rfl))
local macro_rules | `(tactic| walk_at "aaF") => `(tactic| first
  | with_reducible exact aa_nil
  | refine aa_cons (by walk_at "aeZ") (by walk_at "aaF"))
local macro_rules | `(tactic| walk_at "aaV") => `(tactic| first
  | with_reducible exact aa_nilV
  | refine aa_consV (by walk_at "aeV") (by walk_at "aaV"))
local macro_rules | `(tactic| walk_at "at") => `(tactic| first
  | ((with_reducible show AT _ (tAnd _ _) _ _); refine at_and (by walk_at "at") (by (walk_at "hyp"; walk_at "at")))
  | ((with_reducible show AT _ (tOr _ _) _ _); refine at_or (by walk_at "at") (by (walk_at "hyp"; walk_at "at")))
  | ((with_reducible show AT _ (tNot _) _ _); refine at_not (by walk_at "at"))
  | ((with_reducible show AT _ (tTest _) _ _); refine at_test (by walk_at "aeV"))
  | ((with_reducible show AT _ (tB _) _ _); refine at_B (by walk_at "aeV"))
  | refine at_tru (by walk_at "aeV"))
local macro_rules | `(tactic| walk_at "nrm") => `(tactic| (try simp only [List.set_cons_succ, List.set_cons_zero]))
local macro_rules | `(tactic| walk_at "hyp") => `(tactic| (intro hc; (try simp only [decide_eq_true_eq, decide_eq_false_iff_not, Bool.and_eq_true, Bool.or_eq_false_iff, Bool.not_eq_true', Bool.not_eq_false', Bool.or_eq_true, Bool.and_eq_false_iff, Bool.not_true, Bool.not_false, Bool.false_eq_true, Bool.true_eq_false, reduceCtorEq] at hc)))
local macro_rules | `(tactic| walk_at "as1") => `(tactic| first
  | ((with_reducible show AS _ _ _ (tSeq _ _) _ _); refine as_seq ?_)
  | ((with_reducible show AS _ _ _ (tAsg _ (gName _)) _ _); refine as_set (by walk_at "aeO") rfl (by simp) ?_; walk_at "nrm")
  | ((with_reducible show AS _ _ _ (tIfS _ _ _) _ _); refine as_if (by walk_at "at") ?_ ?_ <;> walk_at "hyp")
  | ((with_reducible show AS _ _ _ (tRet _) _ _); first | refine as_ret (by walk_at "aeO") ?_ | refine as_retv rfl ?_)
  | ((with_reducible show AS _ _ _ (tDrop (tBM _ _ rAppend (tVar _) _)) _ _); refine as_append0 rfl (by walk_at "aeO") (by walk_at "lens") ?_; walk_at "nrm")
  | ((with_reducible show AS _ _ _ tNext _ _); refine as_next ?_)
  | ((with_reducible show AS _ _ _ tBreak _ _); refine as_break ?_)
  | ((with_reducible show AS _ _ _ tCont _ _); refine as_cont ?_))
local macro_rules | `(tactic| walk_at "as") => `(tactic| repeat' (walk_at "as1"))
local macro_rules | `(tactic| walk_at "start") => `(tactic| dsimp only [cxOf, Cx.nox, Cx.wish, Cx.blk, List.map])
local macro_rules | `(tactic| walk_at "chk") => `(tactic| (refine as_ifF (by walk_at "at") ?_ ?_; rotate_left; refine as_next ?_; (try dsimp only); rotate_left))
local macro_rules | `(tactic| walk_at "ait") => `(tactic| first
  | ((with_reducible show AIt _ (iSeqU _ _) _ _); first | refine ait_listU (by walk_at "aeZ") | refine ait_tupU (by walk_at "aeZ"))
  | ((with_reducible show AIt _ (iRng1 _) _ _); refine ait_range (by walk_at "aaV") (by constructor <;> omega))
  | ((with_reducible show AIt _ (iRng2 _) _ _); refine ait_range2 (by walk_at "aaV") (by omega))
  | ((with_reducible show AIt _ (iEnum _ _) _ _); refine ait_enum (by walk_at "aeZ"))
  | ((with_reducible show AIt _ (iZip _ _) _ _); refine ait_zip (by walk_at "aeZ") (by walk_at "aeZ")))
local macro_rules | `(tactic| walk_at "gw") => `(tactic| first
  | exact gw_name (by simp)
  | (refine gw_tup ?_; repeat (first | exact gws_nil | refine gws_cons (by simp) ?_)))
local macro_rules | `(tactic| walk_at "ag") => `(tactic| first
  | ((with_reducible show AG _ _ (gName _) _ _ _); refine ag_name rfl (by simp) ?_; (try simp only [List.set_cons_succ, List.set_cons_zero]))
  | ((with_reducible show AG _ _ (gTup _ _ _) _ _ _); refine ag_tup rfl ?_; repeat (first | refine ags_nil ?_ | (refine ags_cons (ag_name rfl (by simp) ?_); (try simp only [List.set_cons_succ, List.set_cons_zero])))))

section
variable {P : Program} {w : World} {K : PySem.W.Frag} {mg : Str → Option Value} {base : Heap}
abbrev s_law_draws : Stmt := top 4
abbrev N_law_draws : List Str := ["_law_script", "_law_at", "_law_many", "_law_number", "_law_big", "_law_found", "_law_k", "_law_draw", "_law_mixed"]
abbrev A_law_draws : List Str := ["_law_script", "_law_at", "_law_many"]
theorem sc_law_draws : FnScope N_law_draws A_law_draws (defScope s_law_draws) := ⟨rfl, rfl, rfl, by decide +kernel, rfl, by decide +kernel, by decide +kernel⟩
theorem bp_law_draws : BindsP "_law_draws" "_law_draws" s_law_draws A_law_draws := fun _ _ _ _ _ _ us hl => match us, hl with | [_, _, _], _ => rfl

def drawStep (big : Bool) (k : Int) (n : Int) : Int × Int :=
  if big = true then (n % 1000, n / 1000)
  else if 0 < n then
    ((((n * (48271 + 6 * k) + 69621 * k) % 2147483647 * ((n * (48271 + 6 * k) + 69621 * k) % 2147483647) + 40692 * k + 1) % 2147483629) % 1000, n)
  else (0, n)
def drawsGo (big : Bool) (n : Int) : Nat → List Int × Int
  | 0 => ([], n)
  | i + 1 => ((drawsGo big n i).1 ++ [(drawStep big (0 + i) (drawsGo big n i).2).1], (drawStep big (0 + i) (drawsGo big n i).2).2)
def drawNum (ns : List Int) (at' : Int) : Int := if h : 0 ≤ at' ∧ at' < ns.length then (if ns[at'.toNat]'(by omega) < 0 then -(ns[at'.toNat]'(by omega)) else ns[at'.toNat]'(by omega)) else 0
def draws (ns : List Int) (at' many : Int) : List Int := (drawsGo (decide (10 ^ 18 ≤ drawNum ns at')) (drawNum ns at') many.toNat).1
theorem drawStep_ok {big : Bool} {k n : Int} (h : 0 ≤ n) : 0 ≤ (drawStep big k n).1 ∧ (drawStep big k n).1 < 1000 ∧ 0 ≤ (drawStep big k n).2 ∧ (drawStep big k n).2 ≤ n := by
  unfold drawStep
  split
  · simp only; omega
  · split
    · simp only; omega
    · simp only; omega
theorem drawsGo_ok {big : Bool} {n : Int} (h : 0 ≤ n) : ∀ i, (drawsGo big n i).1.length = i ∧ (∀ d ∈ (drawsGo big n i).1, 0 ≤ d ∧ d < 1000) ∧ 0 ≤ (drawsGo big n i).2 ∧ (drawsGo big n i).2 ≤ n
  | 0 => ⟨rfl, (fun _ m => nomatch m), h, Int.le_refl _⟩
  | i + 1 => by
    obtain ⟨h1, h2, h3, h4⟩ := drawsGo_ok (big := big) h i
    obtain ⟨q1, q2, q3, q4⟩ := drawStep_ok (big := big) (k := 0 + i) h3
    refine ⟨by rw [drawsGo]; simp [h1], fun d m => ?_, q3, Int.le_trans q4 h4⟩
    rw [drawsGo] at m
    rcases List.mem_append.mp m with m | m
    · exact h2 d m
    · rw [List.mem_singleton.mp m]; exact ⟨q1, q2⟩
theorem drawNum_nn (ns : List Int) (at' : Int) : 0 ≤ drawNum ns at' := by
  unfold drawNum
  split
  · split <;> omega
  · omega
theorem draws_length (ns : List Int) (at' many : Int) : (draws ns at' many).length = many.toNat := (drawsGo_ok (drawNum_nn ns at') _).1
theorem draws_ok (ns : List Int) (at' many : Int) : ∀ d ∈ draws ns at' many, 0 ≤ d ∧ d < 1000 := (drawsGo_ok (drawNum_nn ns at') _).2.1
def pre_draws : List D → Prop := fun args => ∃ (ns : List Int) (at' many : Int), args = [.scr ns, .int at', .int many] ∧ 0 ≤ at' ∧ 0 ≤ many ∧ many ≤ 1000
def post_draws : List D → D → Prop := fun args x => ∃ (ns : List Int) (at' many : Int), args = [.scr ns, .int at', .int many] ∧ x = .olst ((draws ns at' many).map .int)
theorem pre_draws_mk {ns : List Int} {at' many : Int} (h1 : 0 ≤ at') (h2 : 0 ≤ many) (h3 : many ≤ 1000) : pre_draws [.scr ns, .int at', .int many] := ⟨ns, at', many, rfl, h1, h2, h3⟩
theorem post_draws_is {ns : List Int} {at' many : Int} : ∀ x, post_draws [.scr ns, .int at', .int many] x → x = .olst ((draws ns at' many).map .int) := by
  rintro x ⟨ns', a, m, h, rfl⟩
  cases h; rfl
theorem df_draws (D' : DefAt K mg "_law_draws" "_law_draws" s_law_draws [] []) (B : Blt mg) : Df P w K mg base CX0 1 "_law_draws" A_law_draws (spP K pre_draws post_draws noX) := by
  refine df_of D' sc_law_draws bp_law_draws (spP_len fun args ⟨n, r, m, h, _⟩ => by rw [h]; rfl) fun f cdv A outer s H vs Q E hr hsp => ⟨_, (pss_cons (ps_set (i := 3) sc_law_draws.nd rfl (Or.inl rfl) pe_int)
      (pss_cons (ps_if (pt_cmpR (opLt hr.units0) (pv 1) (pe_callB call_lenU (by rfl) B.len (by decide +kernel) (pa_cons (pv 0) pa_nil)) (nomark _)) (pss_one (ps_set (i := 3) sc_law_draws.nd rfl (Or.inl rfl) (pe_callB call_absU (by rfl) B.abs (by decide +kernel) (pa_cons (pe_ix ixU (pv 0) (pv 1) (fun _ _ => rfl)) pa_nil)))) pss_nil)
      (pss_cons (ps_set (i := 4) sc_law_draws.nd rfl (Or.inl rfl) (pe_cmpR op_ge (pv 3) (pe_op op_pow pe_int pe_int) (nomark _)))
      (pss_cons (ps_set (i := 5) sc_law_draws.nd rfl (Or.inl rfl) (pe_lst pa_nil))
      (pss_cons (ps_for PassesOwn.never rfl (pi_range1 rfl B.range (pa_cons (pv 2) pa_nil)) (pg_name (i := 6) sc_law_draws.nd rfl (Or.inl rfl)) (pss_cons (ps_set (i := 7) sc_law_draws.nd rfl (Or.inl rfl) pe_int)
      (pss_cons (ps_if (pt_truU (pv 4)) (pss_cons (ps_set (i := 7) sc_law_draws.nd rfl (Or.inl rfl) (pe_op op_mod (pe_callTy call_intU (by rfl) B.int (by decide +kernel) (pa_cons (pv 3) pa_nil)) pe_int))
      (pss_one (ps_set (i := 3) sc_law_draws.nd rfl (Or.inl rfl) (pe_op opDiv (pv 3) pe_int)))) (pss_one (ps_if (pt_cmpR op_gt (pv 3) pe_int (nomark _)) (pss_cons (ps_set (i := 8) sc_law_draws.nd rfl (Or.inl rfl) (pe_op op_mod (pe_callTy call_intU (by rfl) B.int (by decide +kernel) (pa_cons (pe_op opAdd (pe_op opMul (pv 3) (pe_op opAdd pe_int (pe_op opMul pe_int (pv 6)))) (pe_op opMul pe_int (pv 6))) pa_nil)) pe_int))
      (pss_cons (ps_set (i := 8) sc_law_draws.nd rfl (Or.inl rfl) (pe_op op_mod (pe_callTy call_intU (by rfl) B.int (by decide +kernel) (pa_cons (pe_op opAdd (pe_op opAdd (pe_op opMul (pv 8) (pv 8)) (pe_op opMul pe_int (pv 6))) pe_int) pa_nil)) pe_int))
      (pss_one (ps_set (i := 7) sc_law_draws.nd rfl (Or.inl rfl) (pe_op op_mod (pe_callTy call_intU (by rfl) B.int (by decide +kernel) (pa_cons (pv 8) pa_nil)) pe_int))))) pss_nil)))
      (pss_one (ps_expr (pe_bm PySem.F.plainAttrs_list PySem.F.slot_list_append PySem.F.type_list_append mt_append (pv 5) (pa_cons (pv 7) pa_nil)))))))
      (pss_one (ps_ret (pv 5)))))))), fn_P hsp fun args hp _ => ?_⟩
  obtain ⟨ns, at', many, rfl, ha, hm0, hm1⟩ := hp
  show AS _ _ _ _ [some _, some _, some _, none, none, none, none, none, none] _
  walk_at "start"
  walk_at "as1"
  walk_at "as1"
  refine as_meet (fun env => env = [some (.scr ns), some (.int at'), some (.int many), some (.int (drawNum ns at')), none, none, none, none, none]) ?_ ?_
  · walk_at "as1"
    · have hix : atI ns at' = some (ns[at'.toNat]'(by omega)) := by
        unfold atI ixN
        rw [if_pos ha, if_pos (by omega)]
        exact List.getElem?_eq_getElem (by omega)
      have e : drawNum ns at' = (if ns[at'.toNat]'(by omega) < 0 then -(ns[at'.toNat]'(by omega)) else ns[at'.toNat]'(by omega)) := by
        unfold drawNum
        rw [dif_pos ⟨ha, by omega⟩]
      rw [e]
      walk_at "as"
    · have e : drawNum ns at' = 0 := by
        unfold drawNum
        rw [dif_neg (by omega)]
      rw [e]
      walk_at "as"
      try rfl
  rintro _ rfl
  have hn := drawNum_nn ns at'
  have hu : draws ns at' many = (drawsGo (decide (10 ^ 18 ≤ drawNum ns at')) (drawNum ns at') many.toNat).1 := rfl
  revert hu
  generalize drawNum ns at' = n at *
  intro hu
  refine as_meet (fun env => ∃ big : Bool, big = decide (10 ^ 18 ≤ n) ∧ env = [some (.scr ns), some (.int at'), some (.int many), some (.int n), some (.bl big), none, none, none, none]) ?_ ?_
  · walk_at "as1"
    exact ⟨_, rfl, rfl⟩
  rintro _ ⟨big, hb, rfl⟩
  rw [← hb] at hu
  walk_at "as1"
  walk_at "as1"
  walk_at "as1"
  refine as_for_range (by walk_at "aaV") (by omega) (by omega) (fun i env => ∃ (o1 o2 o3 : Option D), env = [some (.scr ns), some (.int at'), some (.int many), some (.int (drawsGo big n i).2), some (.bl big), some (.olst ((drawsGo big n i).1.map .int)), o1, o2, o3]) ?_ ?_ ?_
  · exact ⟨none, none, none, rfl⟩
  · rintro i _ hi ⟨o1, o2, o3, rfl⟩
    obtain ⟨hl, _, h0, h1⟩ := drawsGo_ok (big := big) hn i
    have e1 : (drawsGo big n (i + 1)).1 = (drawsGo big n i).1 ++ [(drawStep big (0 + i) (drawsGo big n i).2).1] := rfl
    have e2 : (drawsGo big n (i + 1)).2 = (drawStep big (0 + i) (drawsGo big n i).2).2 := rfl
    rw [e1, e2, List.map_append]
    revert hl h0 h1
    generalize (drawsGo big n i).1 = ds
    generalize (drawsGo big n i).2 = m
    intro hl h0 h1
    refine ag_name rfl (by simp) ?_
    walk_at "nrm"
    walk_at "as1"
    walk_at "as1"
    refine as_meet (fun env => ∃ (o : Option D), env = [some (.scr ns), some (.int at'), some (.int many), some (.int (drawStep big (0 + i) m).2), some (.bl big), some (.olst (ds.map .int)), some (.int (0 + i)), some (.int (drawStep big (0 + i) m).1), o]) ?_ ?_
    · unfold drawStep
      walk_at "as1"
      · rename_i hc
        rw [if_pos hc]
        walk_at "as"
        exact ⟨_, rfl⟩
      · rename_i hc
        rw [if_neg (by rw [hc]; decide)]
        have : n < 10 ^ 18 := Int.not_le.mp (of_decide_eq_false (hb.symm.trans hc))
        walk_at "as1"
        · rename_i hc
          rw [if_pos hc]
          walk_at "as"
          exact ⟨_, rfl⟩
        · rename_i hc
          rw [if_neg hc]
          walk_at "as"
          exact ⟨_, rfl⟩
    rintro _ ⟨o, rfl⟩
    walk_at "as1"
    exact ⟨_, _, _, rfl⟩
  · rintro _ ⟨o1, o2, o3, rfl⟩
    walk_at "as"
    exact ⟨ns, at', many, rfl, by rw [hu]⟩

local macro_rules | `(tactic| walk_at "pre") => `(tactic| exact pre_draws_mk (by omega) (by omega) (by omega))
local macro_rules | `(tactic| walk_at "post") => `(tactic| exact post_draws_is)
theorem get_map {α β : Type} {f : α → β} {xs : List α} {i : Nat} {y : β} (h : (xs.map f)[i]? = some y) : ∃ x, xs[i]? = some x ∧ y = f x := by
  rw [List.getElem?_map] at h
  cases e : xs[i]? with
  | none => rw [e] at h; cases h
  | some x => rw [e] at h; exact ⟨x, rfl, (Option.some.inj h).symm⟩
theorem map_int_inj {xs ys : List Int} (h : xs.map D.int = ys.map D.int) : xs = ys := by
  induction xs generalizing ys with
  | nil => cases ys with
    | nil => rfl
    | cons y ys => cases h
  | cons x xs ih => cases ys with
    | nil => cases h
    | cons y ys => injection h with h1 h2; injection h1 with h1; rw [h1, ih h2]

abbrev s_capacity : Stmt := top 1
abbrev N_capacity : List Str := ["fan_outs", "depth", "room", "parts", "total", "level"]
abbrev A_capacity : List Str := ["fan_outs", "depth", "room"]
theorem sc_capacity : FnScope N_capacity A_capacity (defScope s_capacity) := ⟨rfl, rfl, rfl, by decide +kernel, rfl, by decide +kernel, by decide +kernel⟩
theorem bp_capacity : BindsK "capacity" "capacity" s_capacity A_capacity ["room"] 2 := fun _ _ _ _ _ _ us ws hl hm => match us, ws, hl, hm with | [_, _], [_], _, _ => rfl

/-- the pieces at a depth, the capacity down to it -/
def pcs (fs : List Int) : Nat → Int
  | 0 => 1
  | t + 1 => if t < fs.length then pcs fs t * fs.getD t 1 else pcs fs t
def cap (fs : List Int) (R : Int) : Nat → Int
  | 0 => R
  | t + 1 => cap fs R t + R * pcs fs (t + 1)
def Outs (fs : List Int) : Prop := fs.length ≤ 4 ∧ ∀ f ∈ fs, 1 ≤ f ∧ f ≤ 64
theorem pcs_bound {fs : List Int} (h : Outs fs) : ∀ t, 1 ≤ pcs fs t ∧ pcs fs t ≤ 64 ^ (min t fs.length)
  | 0 => by simp [pcs]
  | t + 1 => by
    obtain ⟨h1, h2⟩ := pcs_bound h t
    unfold pcs
    split
    · rename_i hlt
      have hf := h.2 (fs.getD t 1) (by rw [List.getD_eq_getElem?_getD, List.getElem?_eq_getElem hlt]; exact List.getElem_mem hlt)
      have e : min (t + 1) fs.length = min t fs.length + 1 := by omega
      rw [e, Int.pow_succ]
      refine ⟨?_, Int.mul_le_mul h2 hf.2 (by omega) (by exact Int.le_trans (by omega) h2)⟩
      have := Int.mul_le_mul h1 hf.1 (by omega) (by omega)
      omega
    · rename_i hlt
      have e : min (t + 1) fs.length = min t fs.length := by omega
      rw [e]; exact ⟨h1, h2⟩
theorem ipow_le {a b : Nat} (h : a ≤ b) : (64 : Int) ^ a ≤ 64 ^ b := by
  have := Nat.pow_le_pow_right (show 0 < 64 by decide) h
  exact_mod_cast this
theorem getD_idx {fs : List Int} {i : Nat} (h : i < fs.length) : atI (fs.map D.int) (1 + (i : Int) - 1) = some (.int (fs.getD i 1)) := by
  rw [show 1 + (i : Int) - 1 = (i : Int) by omega]
  apply atI_nat
  rw [List.getElem?_map, List.getElem?_eq_getElem h, List.getD_eq_getElem?_getD, List.getElem?_eq_getElem h]; rfl
theorem getD_idx' {fs : List Int} {i : Nat} (h : i < fs.length) : atI (fs.map D.int) ((i : Int) + 1 - 1) = some (.int (fs.getD i 1)) := by
  rw [show (i : Int) + 1 - 1 = (i : Int) by omega]
  apply atI_nat
  rw [List.getElem?_map, List.getElem?_eq_getElem h, List.getD_eq_getElem?_getD, List.getElem?_eq_getElem h]; rfl
theorem pcs_le {fs : List Int} (h : Outs fs) (t : Nat) : pcs fs t ≤ 16777216 := by
  have h2 := (pcs_bound h t).2
  have h3 : (64 : Int) ^ (min t fs.length) ≤ 64 ^ 4 := ipow_le (by have := h.1; omega)
  have : (64 : Int) ^ 4 = 16777216 := by decide
  omega
def pre_cap : List D → Prop := fun args => ∃ (fs : List Int) (dp R : Int), (args = [.lst (fs.map .int), .int dp, .int R] ∨ args = [.tup (fs.map .int), .int dp, .int R]) ∧ Outs fs ∧ 0 ≤ dp ∧ dp ≤ 100 ∧ 1 ≤ R ∧ R ≤ 100
def post_cap : List D → D → Prop := fun args x => ∀ (fs : List Int) (dp R : Int), (args = [.lst (fs.map .int), .int dp, .int R] ∨ args = [.tup (fs.map .int), .int dp, .int R]) → x = .int (cap fs R dp.toNat)
theorem df_capacity (D' : DefAt K mg "capacity" "capacity" s_capacity [] []) (B : Blt mg) : DfK P w K mg base CX0 1 "capacity" A_capacity ["room"] 2 (spP K pre_cap post_cap noX) := by
  refine dfK_of D' sc_capacity bp_capacity (by simp) (spP_len fun args ⟨_, _, _, h, _⟩ => by rcases h with rfl | rfl <;> rfl) fun f cdv A outer s H vs Q E hr hsp => ⟨_, (pss_cons (ps_set (i := 3) sc_capacity.nd rfl (Or.inl rfl) pe_int)
      (pss_cons (ps_set (i := 4) sc_capacity.nd rfl (Or.inl rfl) (pv 2))
      (pss_cons (ps_for PassesOwn.never rfl (pi_range2 rfl B.range (pa_cons pe_int (pa_cons (pe_op opAdd (pv 1) pe_int) pa_nil))) (pg_name (i := 5) sc_capacity.nd rfl (Or.inl rfl)) (pss_cons (ps_if (pt_cmpR op_le (pv 5) (pe_callB call_lenU (by rfl) B.len (by decide +kernel) (pa_cons (pv 0) pa_nil)) (nomark _)) (pss_one (ps_set (i := 3) sc_capacity.nd rfl (Or.inl rfl) (pe_op opMul (pv 3) (pe_ix ixU (pv 0) (pe_op op_sub (pv 5) pe_int) (fun _ _ => rfl))))) pss_nil)
      (pss_one (ps_set (i := 4) sc_capacity.nd rfl (Or.inl rfl) (pe_op opAdd (pv 4) (pe_op opMul (pv 2) (pv 3)))))))
      (pss_one (ps_ret (pv 4)))))), fn_P hsp fun args hp _ => ?_⟩
  obtain ⟨fs, dp, R, hargs, hfs, h0, h1, h2, h3⟩ := hp
  have hR : ∀ t, CMulU R (pcs fs t) := fun t => cmul_l (by omega) (by omega)
  have hp1 : ∀ t, 1 ≤ pcs fs t := fun t => (pcs_bound hfs t).1
  have hp2 := pcs_le hfs
  have fin : ∀ X : D, args = [X, .int dp, .int R] → (X = .lst (fs.map .int) ∨ X = .tup (fs.map .int)) → post_cap args (.int (cap fs R dp.toNat)) := by
    rintro X rfl hX fs' dp' R' h
    rcases hX with rfl | rfl <;> rcases h with h | h <;> injection h with h1 h2 <;> injection h2 with h2 h3 <;> injection h3 with h3 h4 <;> (try cases h1) <;> cases h2 <;> cases h3 <;> (injection h1 with h1; rw [map_int_inj h1])
  rcases hargs with rfl | rfl
  · show AS _ _ _ _ [some _, some _, some _, none, none, none] _
    walk_at "start"
    walk_at "as1"
    walk_at "as1"
    walk_at "as1"
    walk_at "as1"
    walk_at "as1"
    refine as_for (by walk_at "ait") (fun i env => ∃ o, env = [some (.lst (fs.map .int)), some (.int dp), some (.int R), some (.int (pcs fs i)), some (.int (cap fs R i)), o]) ⟨none, rfl⟩ ?_ ?_
    · rintro i d _ hd ⟨o, rfl⟩
      obtain ⟨hi, rfl⟩ := rangeD_get hd
      walk_at "ag"
      walk_at "as1"
      refine as_join (fun env => ∃ o, env = [some (.lst (fs.map .int)), some (.int dp), some (.int R), some (.int (pcs fs (i + 1))), some (.int (cap fs R i)), o]) ?_ ?_
      · walk_at "as1"
        · rename_i hc
          rw [List.length_map] at hc
          have hlt : i < fs.length := by omega
          have := getD_idx hlt
          have e : pcs fs (i + 1) = pcs fs i * fs.getD i 1 := if_pos hlt
          have b1 := hp1 i
          have b2 := hp2 i
          rw [e]
          walk_at "as"
          exact ⟨_, rfl⟩
        · rename_i hc
          rw [List.length_map] at hc
          have e : pcs fs (i + 1) = pcs fs i := if_neg (by omega)
          rw [e]
          walk_at "as"
          exact ⟨_, rfl⟩
      · rintro _ ⟨o, rfl⟩
        have := hR (i + 1)
        walk_at "as"
        exact ⟨_, rfl⟩
    · rintro _ ⟨o, rfl⟩
      rw [rangeD_length]
      have e : (dp + 1 - 1).toNat = dp.toNat := by omega
      rw [e]
      walk_at "as"
      exact fin _ rfl (by first | exact .inl rfl | exact .inr rfl)
  · show AS _ _ _ _ [some _, some _, some _, none, none, none] _
    walk_at "start"
    walk_at "as1"
    walk_at "as1"
    walk_at "as1"
    walk_at "as1"
    walk_at "as1"
    refine as_for (by walk_at "ait") (fun i env => ∃ o, env = [some (.tup (fs.map .int)), some (.int dp), some (.int R), some (.int (pcs fs i)), some (.int (cap fs R i)), o]) ⟨none, rfl⟩ ?_ ?_
    · rintro i d _ hd ⟨o, rfl⟩
      obtain ⟨hi, rfl⟩ := rangeD_get hd
      walk_at "ag"
      walk_at "as1"
      refine as_join (fun env => ∃ o, env = [some (.tup (fs.map .int)), some (.int dp), some (.int R), some (.int (pcs fs (i + 1))), some (.int (cap fs R i)), o]) ?_ ?_
      · walk_at "as1"
        · rename_i hc
          rw [List.length_map] at hc
          have hlt : i < fs.length := by omega
          have := getD_idx hlt
          have e : pcs fs (i + 1) = pcs fs i * fs.getD i 1 := if_pos hlt
          have b1 := hp1 i
          have b2 := hp2 i
          rw [e]
          walk_at "as"
          exact ⟨_, rfl⟩
        · rename_i hc
          rw [List.length_map] at hc
          have e : pcs fs (i + 1) = pcs fs i := if_neg (by omega)
          rw [e]
          walk_at "as"
          exact ⟨_, rfl⟩
      · rintro _ ⟨o, rfl⟩
        have := hR (i + 1)
        walk_at "as"
        exact ⟨_, rfl⟩
    · rintro _ ⟨o, rfl⟩
      rw [rangeD_length]
      have e : (dp + 1 - 1).toNat = dp.toNat := by omega
      rw [e]
      walk_at "as"
      exact fin _ rfl (by first | exact .inl rfl | exact .inr rfl)
theorem pre_cap_l {fs : List Int} {dp R : Int} (h : Outs fs) (h0 : 0 ≤ dp) (h1 : dp ≤ 100) (h2 : 1 ≤ R) (h3 : R ≤ 100) : pre_cap [.lst (fs.map .int), .int dp, .int R] := ⟨fs, dp, R, .inl rfl, h, h0, h1, h2, h3⟩
theorem pre_cap_t {fs : List Int} {dp R : Int} (h : Outs fs) (h0 : 0 ≤ dp) (h1 : dp ≤ 100) (h2 : 1 ≤ R) (h3 : R ≤ 100) : pre_cap [.tup (fs.map .int), .int dp, .int R] := ⟨fs, dp, R, .inr rfl, h, h0, h1, h2, h3⟩
theorem post_cap_l {fs : List Int} {dp R : Int} : ∀ x, post_cap [.lst (fs.map .int), .int dp, .int R] x → x = .int (cap fs R dp.toNat) := fun x h => h fs dp R (.inl rfl)
theorem post_cap_t {fs : List Int} {dp R : Int} : ∀ x, post_cap [.tup (fs.map .int), .int dp, .int R] x → x = .int (cap fs R dp.toNat) := fun x h => h fs dp R (.inr rfl)
/-- writes and depth behind so many ranks -/
def lwGo (fs : List Int) (R : Int) : Nat → Int × Nat
  | 0 => (0, 0)
  | i + 1 => ((lwGo fs R i).1 + ((if cap fs R (lwGo fs R i).2 ≤ (i : Int) then (lwGo fs R i).2 + 1 else (lwGo fs R i).2 : Nat) : Int), if cap fs R (lwGo fs R i).2 ≤ (i : Int) then (lwGo fs R i).2 + 1 else (lwGo fs R i).2)
theorem lw_le (fs : List Int) (R : Int) : ∀ i, (lwGo fs R i).2 ≤ i
  | 0 => Nat.le_refl 0
  | i + 1 => by
    have := lw_le fs R i
    show (if cap fs R (lwGo fs R i).2 ≤ (i : Int) then (lwGo fs R i).2 + 1 else (lwGo fs R i).2) ≤ i + 1
    split <;> omega
abbrev s_least_build_writes : Stmt := top 2
abbrev N_least_build_writes : List Str := ["count", "fan_outs", "room", "writes", "depth", "parts", "total", "rank"]
abbrev A_least_build_writes : List Str := ["count", "fan_outs", "room"]
theorem sc_least_build_writes : FnScope N_least_build_writes A_least_build_writes (defScope s_least_build_writes) := ⟨rfl, rfl, rfl, by decide +kernel, rfl, by decide +kernel, by decide +kernel⟩
theorem bp_least_build_writes : BindsK "least_build_writes" "least_build_writes" s_least_build_writes A_least_build_writes ["room"] 2 := fun _ _ _ _ _ _ us ws hl hm => match us, ws, hl, hm with | [_, _], [_], _, _ => rfl

def pre_lw : List D → Prop := fun args => ∃ (n : Int) (fs : List Int) (R : Int), (args = [.int n, .lst (fs.map .int), .int R] ∨ args = [.int n, .tup (fs.map .int), .int R]) ∧ Outs fs ∧ 0 ≤ n ∧ n ≤ 1000 ∧ 1 ≤ R ∧ R ≤ 100
def post_lw : List D → D → Prop := fun args x => ∀ (n : Int) (fs : List Int) (R : Int), (args = [.int n, .lst (fs.map .int), .int R] ∨ args = [.int n, .tup (fs.map .int), .int R]) → x = .int (lwGo fs R n.toNat).1
theorem df_lw (D' : DefAt K mg "least_build_writes" "least_build_writes" s_least_build_writes [] []) (B : Blt mg) : DfK P w K mg base CX0 1 "least_build_writes" A_least_build_writes ["room"] 2 (spP K pre_lw post_lw noX) := by
  refine dfK_of D' sc_least_build_writes bp_least_build_writes (by simp) (spP_len fun args ⟨_, _, _, h, _⟩ => by rcases h with rfl | rfl <;> rfl) fun f cdv A outer s H vs Q E hr hsp => ⟨_, (pss_cons (ps_set (i := 3) sc_least_build_writes.nd rfl (Or.inl rfl) pe_int)
      (pss_cons (ps_set (i := 4) sc_least_build_writes.nd rfl (Or.inl rfl) pe_int)
      (pss_cons (ps_set (i := 5) sc_least_build_writes.nd rfl (Or.inl rfl) pe_int)
      (pss_cons (ps_set (i := 6) sc_least_build_writes.nd rfl (Or.inl rfl) (pv 2))
      (pss_cons (ps_for PassesOwn.never rfl (pi_range1 rfl B.range (pa_cons (pv 0) pa_nil)) (pg_name (i := 7) sc_least_build_writes.nd rfl (Or.inl rfl)) (pss_cons (ps_if (pt_cmpR op_ge (pv 7) (pv 6) (nomark _)) (pss_cons (ps_set (i := 4) sc_least_build_writes.nd rfl (Or.inl rfl) (pe_op opAdd (pv 4) pe_int))
      (pss_cons (ps_if (pt_cmpR op_le (pv 4) (pe_callB call_lenU (by rfl) B.len (by decide +kernel) (pa_cons (pv 1) pa_nil)) (nomark _)) (pss_one (ps_set (i := 5) sc_least_build_writes.nd rfl (Or.inl rfl) (pe_op opMul (pv 5) (pe_ix ixU (pv 1) (pe_op op_sub (pv 4) pe_int) (fun _ _ => rfl))))) pss_nil)
      (pss_one (ps_set (i := 6) sc_least_build_writes.nd rfl (Or.inl rfl) (pe_op opAdd (pv 6) (pe_op opMul (pv 2) (pv 5))))))) pss_nil)
      (pss_one (ps_set (i := 3) sc_least_build_writes.nd rfl (Or.inl rfl) (pe_op opAdd (pv 3) (pv 4))))))
      (pss_one (ps_ret (pv 3)))))))), fn_P hsp fun args hp _ => ?_⟩
  obtain ⟨n, fs, R, hargs, hfs, h0, h1, h2, h3⟩ := hp
  have hR : ∀ t, CMulU R (pcs fs t) := fun t => cmul_l (by omega) (by omega)
  have hp1 : ∀ t, 1 ≤ pcs fs t := fun t => (pcs_bound hfs t).1
  have hp2 := pcs_le hfs
  have fin : ∀ X : D, args = [.int n, X, .int R] → (X = .lst (fs.map .int) ∨ X = .tup (fs.map .int)) → post_lw args (.int (lwGo fs R n.toNat).1) := by
    rintro X rfl hX n' fs' R' h
    rcases hX with rfl | rfl <;> rcases h with h | h <;> injection h with h1 h2 <;> injection h2 with h2 h3 <;> injection h3 with h3 h4 <;> cases h1 <;> (try cases h2) <;> cases h3 <;> (injection h2 with h2; rw [map_int_inj h2])
  rcases hargs with rfl | rfl
  · show AS _ _ _ _ [some _, some _, some _, none, none, none, none, none] _
    walk_at "start"
    walk_at "as1"
    walk_at "as1"
    walk_at "as1"
    walk_at "as1"
    walk_at "as1"
    walk_at "as1"
    walk_at "as1"
    walk_at "as1"
    walk_at "as1"
    refine as_for (by walk_at "ait") (fun i env => ∃ o, env = [some (.int n), some (.lst (fs.map .int)), some (.int R), some (.int (lwGo fs R i).1), some (.int (lwGo fs R i).2), some (.int (pcs fs (lwGo fs R i).2)), some (.int (cap fs R (lwGo fs R i).2)), o]) ⟨none, rfl⟩ ?_ ?_
    · rintro i d _ hd ⟨o, rfl⟩
      obtain ⟨hi, rfl⟩ := rangeD_get hd
      have e1 : (lwGo fs R (i + 1)).1 = (lwGo fs R i).1 + ((lwGo fs R (i + 1)).2 : Int) := rfl
      have e2 : (lwGo fs R (i + 1)).2 = (if cap fs R (lwGo fs R i).2 ≤ (i : Int) then (lwGo fs R i).2 + 1 else (lwGo fs R i).2) := rfl
      rw [e1]
      revert e2
      have hdp := lw_le fs R i
      generalize (lwGo fs R (i + 1)).2 = dep2
      generalize (lwGo fs R i).2 = dep at *
      generalize (lwGo fs R i).1 = wr at *
      intro e2
      walk_at "ag"
      walk_at "as1"
      refine as_join (fun env => env = [some (.int n), some (.lst (fs.map .int)), some (.int R), some (.int wr), some (.int dep2), some (.int (pcs fs dep2)), some (.int (cap fs R dep2)), some (.int (0 + i))]) ?_ ?_
      · walk_at "as1"
        · rename_i hc
          rw [if_pos (by omega)] at e2
          subst e2
          walk_at "as1"
          walk_at "as1"
          walk_at "as1"
          refine as_join (fun env => env = [some (.int n), some (.lst (fs.map .int)), some (.int R), some (.int wr), some (.int (dep + 1)), some (.int (pcs fs (dep + 1))), some (.int (cap fs R dep)), some (.int (0 + i))]) ?_ ?_
          · walk_at "as1"
            · rename_i hc
              rw [List.length_map] at hc
              have hlt : dep < fs.length := by omega
              have := getD_idx' hlt
              have e : pcs fs (dep + 1) = pcs fs dep * fs.getD dep 1 := if_pos hlt
              have b1 := hp1 dep
              have b2 := hp2 dep
              rw [e]
              walk_at "as"
            · rename_i hc
              rw [List.length_map] at hc
              have e : pcs fs (dep + 1) = pcs fs dep := if_neg (by omega)
              rw [e]
              walk_at "as"
              try rfl
          · rintro _ rfl
            have := hR (dep + 1)
            walk_at "as"
            rfl
        · rename_i hc
          rw [if_neg (by omega)] at e2
          subst e2
          walk_at "as"
          try rfl
      · rintro _ rfl
        walk_at "as"
        exact ⟨_, rfl⟩
    · rintro _ ⟨o, rfl⟩
      rw [rangeD_length]
      walk_at "as"
      exact fin _ rfl (by first | exact .inl rfl | exact .inr rfl)
  · show AS _ _ _ _ [some _, some _, some _, none, none, none, none, none] _
    walk_at "start"
    walk_at "as1"
    walk_at "as1"
    walk_at "as1"
    walk_at "as1"
    walk_at "as1"
    walk_at "as1"
    walk_at "as1"
    walk_at "as1"
    walk_at "as1"
    refine as_for (by walk_at "ait") (fun i env => ∃ o, env = [some (.int n), some (.tup (fs.map .int)), some (.int R), some (.int (lwGo fs R i).1), some (.int (lwGo fs R i).2), some (.int (pcs fs (lwGo fs R i).2)), some (.int (cap fs R (lwGo fs R i).2)), o]) ⟨none, rfl⟩ ?_ ?_
    · rintro i d _ hd ⟨o, rfl⟩
      obtain ⟨hi, rfl⟩ := rangeD_get hd
      have e1 : (lwGo fs R (i + 1)).1 = (lwGo fs R i).1 + ((lwGo fs R (i + 1)).2 : Int) := rfl
      have e2 : (lwGo fs R (i + 1)).2 = (if cap fs R (lwGo fs R i).2 ≤ (i : Int) then (lwGo fs R i).2 + 1 else (lwGo fs R i).2) := rfl
      rw [e1]
      revert e2
      have hdp := lw_le fs R i
      generalize (lwGo fs R (i + 1)).2 = dep2
      generalize (lwGo fs R i).2 = dep at *
      generalize (lwGo fs R i).1 = wr at *
      intro e2
      walk_at "ag"
      walk_at "as1"
      refine as_join (fun env => env = [some (.int n), some (.tup (fs.map .int)), some (.int R), some (.int wr), some (.int dep2), some (.int (pcs fs dep2)), some (.int (cap fs R dep2)), some (.int (0 + i))]) ?_ ?_
      · walk_at "as1"
        · rename_i hc
          rw [if_pos (by omega)] at e2
          subst e2
          walk_at "as1"
          walk_at "as1"
          walk_at "as1"
          refine as_join (fun env => env = [some (.int n), some (.tup (fs.map .int)), some (.int R), some (.int wr), some (.int (dep + 1)), some (.int (pcs fs (dep + 1))), some (.int (cap fs R dep)), some (.int (0 + i))]) ?_ ?_
          · walk_at "as1"
            · rename_i hc
              rw [List.length_map] at hc
              have hlt : dep < fs.length := by omega
              have := getD_idx' hlt
              have e : pcs fs (dep + 1) = pcs fs dep * fs.getD dep 1 := if_pos hlt
              have b1 := hp1 dep
              have b2 := hp2 dep
              rw [e]
              walk_at "as"
            · rename_i hc
              rw [List.length_map] at hc
              have e : pcs fs (dep + 1) = pcs fs dep := if_neg (by omega)
              rw [e]
              walk_at "as"
              try rfl
          · rintro _ rfl
            have := hR (dep + 1)
            walk_at "as"
            rfl
        · rename_i hc
          rw [if_neg (by omega)] at e2
          subst e2
          walk_at "as"
          try rfl
      · rintro _ rfl
        walk_at "as"
        exact ⟨_, rfl⟩
    · rintro _ ⟨o, rfl⟩
      rw [rangeD_length]
      walk_at "as"
      exact fin _ rfl (by first | exact .inl rfl | exact .inr rfl)
end
end Py

namespace Py
open PySem L2
local macro_rules | `(tactic| walk_at "cond") => `(tactic| first
  | assumption
  | exact cmul_l (by omega) (by omega)
  | exact cmul_r (by omega) (by omega)
  | exact cdiv_s (by omega) (by omega)
  | omega
  | (constructor <;> omega))
local macro_rules | `(tactic| walk_at "ix") => `(tactic| first | rfl | assumption)
local macro_rules | `(tactic| walk_at "fls") => `(tactic| first | exact fun _ => .int | exact fun _ => .bl)
local macro_rules | `(tactic| walk_at "eqs") => `(tactic| first
  | exact o2_neE (eqe_list eqe_int) (by decide) _ _ | exact o2_eqE (eqe_list eqe_int) (by decide) _ _)
local macro_rules | `(tactic| walk_at "op") => `(tactic| first
  | ((with_reducible show Op2 _ (rI0 _) _ _ _); refine o2_i (by walk_at "fls"))
  | ((with_reducible show Op2 _ (rI _ _) _ _ _); refine o2_ic (by walk_at "cond") (by walk_at "fls"))
  | ((with_reducible show Op2 _ (fun x y H Q => rI0 _ x y H Q ∨ _) _ _ _); refine o2_l (o2_i (by walk_at "fls")))
  | with_reducible exact o2_l o2_eqI | with_reducible exact o2_l o2_neI
  | with_reducible exact o2_l o2_eqS | with_reducible exact o2_l o2_neS
  | with_reducible exact o2_l o2_eqB | with_reducible exact o2_l o2_neB
  | walk_at "eqs"
  | exact o2_l (o2_eqF rfl rfl rfl) | exact o2_l (o2_neF rfl rfl rfl))
local macro_rules | `(tactic| walk_at "kit") => `(tactic| first
  | exact kit_NoneType_int
  | exact kit_NoneType_bool
  | exact kit_NoneType_str
  | exact kit_NoneType_list
  | exact kit_NoneType_tuple
  | exact kit_NoneType_dict
  | exact kit_bool_int
  | exact kit_bool_bool
  | exact kit_bool_str
  | exact kit_bool_list
  | exact kit_bool_tuple
  | exact kit_bool_dict
  | exact kit_int_int
  | exact kit_int_bool
  | exact kit_int_str
  | exact kit_int_list
  | exact kit_int_tuple
  | exact kit_int_dict
  | exact kit_str_int
  | exact kit_str_bool
  | exact kit_str_str
  | exact kit_str_list
  | exact kit_str_tuple
  | exact kit_str_dict
  | exact kit_list_int
  | exact kit_list_bool
  | exact kit_list_str
  | exact kit_list_list
  | exact kit_list_tuple
  | exact kit_list_dict
  | exact kit_tuple_int
  | exact kit_tuple_bool
  | exact kit_tuple_str
  | exact kit_tuple_list
  | exact kit_tuple_tuple
  | exact kit_tuple_dict
  | exact kit_dict_int
  | exact kit_dict_bool
  | exact kit_dict_str
  | exact kit_dict_list
  | exact kit_dict_tuple
  | exact kit_dict_dict)
local macro_rules | `(tactic| walk_at "cb") => `(tactic| first
  | with_reducible exact cb_int | with_reducible exact cb_abs | with_reducible exact cb_lenL | with_reducible exact cb_lenT | with_reducible exact cb_lenS
  | with_reducible exact cb_max2 | with_reducible exact cb_min2
  | ((with_reducible show Cb _ (rIsi _) _ _); refine cb_isi rfl (by walk_at "kit")))
local macro_rules | `(tactic| walk_at "aeL") => `(tactic| first
  | ((with_reducible show AE _ (tVar _) _ _); exact ae_varL rfl (by walk_at "allsh"))
  | refine AE.list (by walk_at "aeF"))
local macro_rules | `(tactic| walk_at "allsh") => `(tactic| first | rfl | assumption | exact allsh_enc (fun a => by first | rfl | (cases a <;> rfl)) _ | (simp only [List.all_map]; simp [isSh]))
local macro_rules | `(tactic| walk_at "lens") => `(tactic| first | (show _ ≤ 1000000; decide) | (simp only [List.length_cons, List.length_nil]; omega) | (simp only [List.length_map, List.length_append, List.length_cons, List.length_nil]; omega))
local macro_rules | `(tactic| walk_at "aeF") => `(tactic| first
  | with_reducible exact ae_int | with_reducible exact ae_bl | with_reducible exact ae_non | with_reducible exact ae_str
  | ((with_reducible show AE _ (tVar _) _ _); refine ae_var rfl (by first | rfl | assumption))
  | ((with_reducible show AE _ (tC (.ty _)) _ _); exact ae_c fun _ => .ty)
  | ((with_reducible show AE _ (tOp (rIxU _) _ _) _ _); first
      | refine ae_ixS (by walk_at "aeV") (by walk_at "aeV") (by walk_at "ix")
      | refine ae_ixL (by walk_at "aeL") (by walk_at "aeV") (by walk_at "ix")
      | refine ae_ixT (by walk_at "aeF") (by walk_at "aeV") (by walk_at "ix"))
  | ((with_reducible show AE _ (tOp (fun x y H Q => y = .non ∧ _) _ _) _ _); first | refine ae_isN (by walk_at "aeV") | refine ae_notN (by walk_at "aeV"))
  | ((with_reducible show AE _ (tOp _ _ _) _ _); refine ae_opF (by walk_at "aeV") (by walk_at "aeV") (by walk_at "op") rfl)
  | ((with_reducible show AE _ (tUn _ _) _ _); refine ae_u (by walk_at "aeV") (by walk_at "fls"))
  | ((with_reducible show AE _ (tCall _ _ _ _) _ _); refine ae_callF (by walk_at "aaF") (by walk_at "pre") (by walk_at "post") rfl)
  | ((with_reducible show AE _ (tCallK _ _ _ _ _) _ _); refine ae_callKF (by walk_at "aaF") (by walk_at "aaF") rfl rfl (by walk_at "pre") (by walk_at "post") rfl)
  | ((with_reducible show AE _ (tCB _ _) _ _); refine ae_cbF (by walk_at "aaV") (by walk_at "cb") rfl)
  | ((with_reducible show AE _ (tAndV _ _) _ _); refine ae_andV (by walk_at "aeV") (by (walk_at "hyp"; walk_at "aeV")))
  | ((with_reducible show AE _ (tOrV _ _) _ _); refine ae_orV (by walk_at "aeV") (by (walk_at "hyp"; walk_at "aeV")))
  | ((with_reducible show AE _ (tNotV _) _ _); refine ae_notV (by walk_at "aeV"))
  | ((with_reducible show AE _ (tTup _) _ _); refine ae_tup (by walk_at "aaF") (by walk_at "lens")))
local macro_rules | `(tactic| walk_at "aeV") => `(tactic| first
  | refine AE.view (by walk_at "aeF")
  | ((with_reducible show AE _ (tVar _) _ _); first | exact (ae_varV rfl).isV (by rw [fz, fzs_enc (fun a => by first | rfl | (cases a <;> rfl))]) | exact (ae_varV rfl).isV (by simp only [fz, fzs]) | exact ae_varV rfl)
  | refine AE.viewO (by walk_at "aeN"))
local macro_rules | `(tactic| walk_at "aeN") => `(tactic|
  ((with_reducible show AE _ (tLst _) _ _); refine ae_lst (by walk_at "aaF") (by walk_at "lens")))
local macro_rules | `(tactic| walk_at "aeN") => `(tactic|
  ((with_reducible show AE _ (tCall _ _ _ _) _ _); refine ae_callD (by walk_at "aaF") (by walk_at "pre") (by walk_at "post")))
local macro_rules | `(tactic| walk_at "aeN") => `(tactic| first
  | ((with_reducible show AE _ (tCB _ (tCons _ tNil)) _ _); refine ae_cbL (by walk_at "aeT") (by walk_at "cbL"))
  | ((with_reducible show AE _ (tOp _ _ _) _ _); refine ae_op2L (by walk_at "aeT") (by walk_at "aeT") (by walk_at "opL")))
local macro_rules | `(tactic| walk_at "cbL") => `(tactic| first | with_reducible exact cbL_list | with_reducible exact cbL_tuple)
local macro_rules | `(tactic| walk_at "opL") => `(tactic| first | exact o2L_cat (by walk_at "lens") | exact o2L_r (o2L_l (o2L_cat (by walk_at "lens"))))
local macro_rules | `(tactic| walk_at "aeT") => `(tactic| first
  | ((with_reducible show AE _ (tVar _) _ _); exact ae_varT rfl (by walk_at "allsh"))
  | exact AE.listO (by walk_at "aeN") (by walk_at "allsh")
  | refine AE.listT (by walk_at "aeF"))
local macro_rules | `(tactic| walk_at "aeO") => `(tactic| first
  | walk_at "aeN"
  | refine AE.own (by walk_at "aeF"))
local macro_rules | `(tactic| walk_at "aeZ") => `(tactic| first
  | walk_at "aeF"
  | exact (AE.frz (by walk_at "aeN")).isF (by walk_at "fz"))
local macro_rules | `(tactic| walk_at "fz") => `(tactic| (simp only [fz, fzs_eq, List.map_map, List.map_cons, List.map_nil]; rfl))
local macro_rules | `(tactic| walk_at "aaF") => `(tactic| first
  | with_reducible exact aa_nil
  | refine aa_cons (by walk_at "aeZ") (by walk_at "aaF"))
local macro_rules | `(tactic| walk_at "aaV") => `(tactic| first
  | with_reducible exact aa_nilV
  | refine aa_consV (by walk_at "aeV") (by walk_at "aaV"))
local macro_rules | `(tactic| walk_at "at") => `(tactic| first
  | ((with_reducible show AT _ (tAnd _ _) _ _); refine at_and (by walk_at "at") (by (walk_at "hyp"; walk_at "at")))
  | ((with_reducible show AT _ (tOr _ _) _ _); refine at_or (by walk_at "at") (by (walk_at "hyp"; walk_at "at")))
  | ((with_reducible show AT _ (tNot _) _ _); refine at_not (by walk_at "at"))
  | ((with_reducible show AT _ (tTest _) _ _); refine at_test (by walk_at "aeV"))
  | ((with_reducible show AT _ (tB _) _ _); refine at_B (by walk_at "aeV"))
  | refine at_tru (by walk_at "aeV"))
local macro_rules | `(tactic| walk_at "nrm") => `(tactic| (try simp only [List.set_cons_succ, List.set_cons_zero]))
local macro_rules | `(tactic| walk_at "hyp") => `(tactic| (intro hc; (try simp only [decide_eq_true_eq, decide_eq_false_iff_not, Bool.and_eq_true, Bool.or_eq_false_iff, Bool.not_eq_true', Bool.not_eq_false', Bool.or_eq_true, Bool.and_eq_false_iff, Bool.not_true, Bool.not_false, Bool.false_eq_true, Bool.true_eq_false, reduceCtorEq] at hc)))
local macro_rules | `(tactic| walk_at "as1") => `(tactic| first
  | ((with_reducible show AS _ _ _ (tSeq _ _) _ _); refine as_seq ?_)
  | ((with_reducible show AS _ _ _ (tAsg _ (gName _)) _ _); refine as_set (by walk_at "aeO") rfl (by simp) ?_; walk_at "nrm")
  | ((with_reducible show AS _ _ _ (tIfS _ _ _) _ _); refine as_if (by walk_at "at") ?_ ?_ <;> walk_at "hyp")
  | ((with_reducible show AS _ _ _ (tRet _) _ _); first | refine as_ret (by walk_at "aeO") ?_ | refine as_retv rfl ?_)
  | ((with_reducible show AS _ _ _ (tDrop (tBM _ _ rAppend (tVar _) _)) _ _); refine as_append0 rfl (by walk_at "aeO") (by walk_at "lens") ?_; walk_at "nrm")
  | ((with_reducible show AS _ _ _ tNext _ _); refine as_next ?_)
  | ((with_reducible show AS _ _ _ tBreak _ _); refine as_break ?_)
  | ((with_reducible show AS _ _ _ tCont _ _); refine as_cont ?_))
local macro_rules | `(tactic| walk_at "as") => `(tactic| repeat' (walk_at "as1"))
local macro_rules | `(tactic| walk_at "start") => `(tactic| dsimp only [cxOf, Cx.nox, Cx.wish, Cx.blk, List.map])
local macro_rules | `(tactic| walk_at "chk") => `(tactic| (refine as_ifF (by walk_at "at") ?_ ?_; rotate_left; refine as_next ?_; (try dsimp only); rotate_left))
local macro_rules | `(tactic| walk_at "ait") => `(tactic| first
  | ((with_reducible show AIt _ (iSeqU _ _) _ _); first | refine ait_listU (by walk_at "aeZ") | refine ait_tupU (by walk_at "aeZ"))
  | ((with_reducible show AIt _ (iRng1 _) _ _); refine ait_range (by walk_at "aaV") (by constructor <;> omega))
  | ((with_reducible show AIt _ (iRng2 _) _ _); refine ait_range2 (by walk_at "aaV") (by omega))
  | ((with_reducible show AIt _ (iEnum _ _) _ _); refine ait_enum (by walk_at "aeZ"))
  | ((with_reducible show AIt _ (iZip _ _) _ _); refine ait_zip (by walk_at "aeZ") (by walk_at "aeZ")))
local macro_rules | `(tactic| walk_at "gw") => `(tactic| first
  | exact gw_name (by simp)
  | (refine gw_tup ?_; repeat (first | exact gws_nil | refine gws_cons (by simp) ?_)))
local macro_rules | `(tactic| walk_at "ag") => `(tactic| first
  | ((with_reducible show AG _ _ (gName _) _ _ _); refine ag_name rfl (by simp) ?_; (try simp only [List.set_cons_succ, List.set_cons_zero]))
  | ((with_reducible show AG _ _ (gTup _ _ _) _ _ _); refine ag_tup rfl ?_; repeat (first | refine ags_nil ?_ | (refine ags_cons (ag_name rfl (by simp) ?_); (try simp only [List.set_cons_succ, List.set_cons_zero])))))

section
variable {P : Program} {w : World} {K : PySem.W.Frag} {mg : Str → Option Value} {base : Heap}



abbrev s_law_capacities : Stmt := top 5
abbrev N_law_capacities : List Str := ["_law_outs", "_law_room", "_law_found", "_law_pieces", "_law_total", "_law_depth"]
abbrev A_law_capacities : List Str := ["_law_outs", "_law_room"]
theorem sc_law_capacities : FnScope N_law_capacities A_law_capacities (defScope s_law_capacities) := ⟨rfl, rfl, rfl, by decide +kernel, rfl, by decide +kernel, by decide +kernel⟩
theorem bp_law_capacities : BindsP "_law_capacities" "_law_capacities" s_law_capacities A_law_capacities := fun _ _ _ _ _ _ us hl => match us, hl with | [_, _], _ => rfl

abbrev s_law_is : Stmt := top 6
abbrev N_law_is : List Str := ["_law_told", "_law_due"]
abbrev A_law_is : List Str := ["_law_told", "_law_due"]
theorem sc_law_is : FnScope N_law_is A_law_is (defScope s_law_is) := ⟨rfl, rfl, rfl, by decide +kernel, rfl, by decide +kernel, by decide +kernel⟩
theorem bp_law_is : BindsP "_law_is" "_law_is" s_law_is A_law_is := fun _ _ _ _ _ _ us hl => match us, hl with | [_, _], _ => rfl

local macro_rules | `(tactic| walk_at "pre") => `(tactic| exact pre_draws_mk (by omega) (by omega) (by omega))
local macro_rules | `(tactic| walk_at "post") => `(tactic| exact post_draws_is)
def capB (fs : List Int) (R : Int) : Nat → Int
  | 0 => 0
  | i + 1 => cap fs R i
/-- capacities down to so many depths -/
def capsL (fs : List Int) (R : Int) (n : Nat) : List Int := (List.range n).map (cap fs R)
def pre_cs : List D → Prop := fun args => ∃ (fs : List Int) (R : Int), args = [.lst (fs.map .int), .int R] ∧ Outs fs ∧ 1 ≤ R ∧ R ≤ 100
def post_cs : List D → D → Prop := fun args x => ∃ (fs : List Int) (R : Int), args = [.lst (fs.map .int), .int R] ∧ x = .olst ((capsL fs R 310).map .int)
theorem pre_cs_mk {fs : List Int} {R : Int} (h : Outs fs) (h2 : 1 ≤ R) (h3 : R ≤ 100) : pre_cs [.lst (fs.map .int), .int R] := ⟨fs, R, rfl, h, h2, h3⟩
theorem post_cs_is {fs : List Int} {R : Int} : ∀ x, post_cs [.lst (fs.map .int), .int R] x → x = .olst ((capsL fs R 310).map .int) := by
  rintro x ⟨fs', R', h, rfl⟩
  injection h with h1 h2; injection h2 with h2; injection h1 with h1; injection h2 with h2
  rw [map_int_inj h1, h2]
theorem capsL_succ (fs : List Int) (R : Int) (n : Nat) : capsL fs R (n + 1) = capsL fs R n ++ [cap fs R n] := by
  unfold capsL; rw [List.range_succ, List.map_append]; rfl
theorem df_cs (D' : DefAt K mg "_law_capacities" "_law_capacities" s_law_capacities [] []) (B : Blt mg) : Df P w K mg base CX0 1 "_law_capacities" A_law_capacities (spP K pre_cs post_cs noX) := by
  refine df_of D' sc_law_capacities bp_law_capacities (spP_len fun args ⟨_, _, h, _⟩ => by rw [h]; rfl) fun f cdv A outer s H vs Q E hr hsp => ⟨_, (pss_cons (ps_set (i := 2) sc_law_capacities.nd rfl (Or.inl rfl) (pe_lst pa_nil))
      (pss_cons (ps_set (i := 3) sc_law_capacities.nd rfl (Or.inl rfl) pe_int)
      (pss_cons (ps_set (i := 4) sc_law_capacities.nd rfl (Or.inl rfl) pe_int)
      (pss_cons (ps_for PassesOwn.never rfl (pi_range1 rfl B.range (pa_cons pe_int pa_nil)) (pg_name (i := 5) sc_law_capacities.nd rfl (Or.inl rfl)) (pss_cons (ps_if (PW.pt (pw_and (pt_cmpR (opLt hr.units0) pe_int (pv 5) (nomark _)) (pw_and1 (pt_cmpR op_le (pv 5) (pe_callB call_lenU (by rfl) B.len (by decide +kernel) (pa_cons (pv 0) pa_nil)) (nomark _))))) (pss_one (ps_set (i := 3) sc_law_capacities.nd rfl (Or.inl rfl) (pe_op opMul (pv 3) (pe_ix ixU (pv 0) (pe_op op_sub (pv 5) pe_int) (fun _ _ => rfl))))) pss_nil)
      (pss_cons (ps_set (i := 4) sc_law_capacities.nd rfl (Or.inl rfl) (pe_op opAdd (pv 4) (pe_op opMul (pv 1) (pv 3))))
      (pss_one (ps_expr (pe_bm PySem.F.plainAttrs_list PySem.F.slot_list_append PySem.F.type_list_append mt_append (pv 2) (pa_cons (pv 4) pa_nil)))))))
      (pss_one (ps_ret (pv 2))))))), fn_P hsp fun args hp _ => ?_⟩
  obtain ⟨fs, R, rfl, hfs, h2, h3⟩ := hp
  have hR : ∀ t, CMulU R (pcs fs t) := fun t => cmul_l (by omega) (by omega)
  have hp1 : ∀ t, 1 ≤ pcs fs t := fun t => (pcs_bound hfs t).1
  have hp2 := pcs_le hfs
  show AS _ _ _ _ [some _, some _, none, none, none, none] _
  walk_at "start"
  walk_at "as1"
  walk_at "as1"
  walk_at "as1"
  walk_at "as1"
  walk_at "as1"
  walk_at "as1"
  walk_at "as1"
  refine as_for (by walk_at "ait") (fun i env => ∃ o, env = [some (.lst (fs.map .int)), some (.int R), some (.olst ((capsL fs R i).map .int)), some (.int (pcs fs (i - 1))), some (.int (capB fs R i)), o]) ⟨none, rfl⟩ ?_ ?_
  · rintro i d _ hd ⟨o, rfl⟩
    obtain ⟨hi, rfl⟩ := rangeD_get hd
    rw [capsL_succ, List.map_append]
    walk_at "ag"
    walk_at "as1"
    refine as_join (fun env => env = [some (.lst (fs.map .int)), some (.int R), some (.olst ((capsL fs R i).map .int)), some (.int (pcs fs i)), some (.int (capB fs R i)), some (.int (0 + i))]) ?_ ?_
    · walk_at "as1"
      · rename_i hc
        rw [List.length_map] at hc
        match i with
        | 0 => omega
        | i + 1 =>
        have hlt : i < fs.length := by omega
        have : atI (fs.map D.int) (0 + ((i + 1 : Nat) : Int) - 1) = some (.int (fs.getD i 1)) := by
          rw [show (0 + ((i + 1 : Nat) : Int) - 1) = 1 + (i : Int) - 1 by omega]; exact getD_idx hlt
        have e : pcs fs (i + 1) = pcs fs i * fs.getD i 1 := if_pos hlt
        have b1 := hp1 i
        have b2 := hp2 i
        rw [e, Nat.add_sub_cancel]
        walk_at "as"
        try rfl
      · rename_i hc
        rw [List.length_map] at hc
        have e : pcs fs i = pcs fs (i - 1) := by
          match i with
          | 0 => rfl
          | i + 1 => exact if_neg (by omega)
        rw [e]
        walk_at "as"
        try rfl
    · rintro _ rfl
      have := hR i
      have hl : (capsL fs R i).length = i := by simp [capsL]
      have hi' : i < 310 := by omega
      walk_at "as"
      refine ⟨some (.int (0 + (i : Int))), ?_⟩
      match i with
      | 0 => simp [cap, pcs, capB]
      | i + 1 => simp [cap, capB]
  · rintro _ ⟨o, rfl⟩
    rw [rangeD_length]
    walk_at "as"
    exact ⟨fs, R, rfl, rfl⟩
def pre_is : List D → Prop := fun args => ∃ a b : Int, args = [.int a, .int b]
def post_is : List D → D → Prop := fun args x => ∃ a b : Int, args = [.int a, .int b] ∧ x = .bl (decide (a = b))
theorem pre_is_mk {a b : Int} : pre_is [.int a, .int b] := ⟨a, b, rfl⟩
theorem post_is_is {a b : Int} : ∀ x, post_is [.int a, .int b] x → x = .bl (decide (a = b)) := by
  rintro x ⟨_, _, h, rfl⟩; injection h with h h2; injection h2 with h2; cases h; cases h2; rfl
theorem df_is (D' : DefAt K mg "_law_is" "_law_is" s_law_is [] []) (B : Blt mg) : Df P w K mg base CX0 1 "_law_is" A_law_is (spP K pre_is post_is noX) := by
  refine df_of D' sc_law_is bp_law_is (spP_len fun args ⟨_, _, h⟩ => by rw [h]; rfl) fun f cdv A outer s H vs Q E hr hsp => ⟨_, (pss_one (ps_ret (pe_and (px_isi (T := "int") B.isinstance B.int (pv 0)) (pe_and (pe_not (px_isi (T := "bool") B.isinstance B.bool (pv 0))) (pe_one (pe_cmpR (opEq hr.units) (pv 0) (pv 1) (nomark _))))))), fn_P hsp fun args hp _ => ?_⟩
  obtain ⟨a, b, rfl⟩ := hp
  show AS _ _ _ _ [some _, some _] _
  walk_at "start"
  walk_at "as"
  exact ⟨a, b, rfl, by simp⟩
end
end Py

namespace Py
open PySem L2
local macro_rules | `(tactic| walk_at "cond") => `(tactic| first
  | assumption
  | exact cmul_l (by omega) (by omega)
  | exact cmul_r (by omega) (by omega)
  | exact cdiv_s (by omega) (by omega)
  | omega
  | (constructor <;> omega))
local macro_rules | `(tactic| walk_at "ix") => `(tactic| first | rfl | assumption)
local macro_rules | `(tactic| walk_at "fls") => `(tactic| first | exact fun _ => .int | exact fun _ => .bl)
local macro_rules | `(tactic| walk_at "eqs") => `(tactic| first
  | exact o2_neE (eqe_list eqe_int) (by decide) _ _ | exact o2_eqE (eqe_list eqe_int) (by decide) _ _)
local macro_rules | `(tactic| walk_at "op") => `(tactic| first
  | ((with_reducible show Op2 _ (rI0 _) _ _ _); refine o2_i (by walk_at "fls"))
  | ((with_reducible show Op2 _ (rI _ _) _ _ _); refine o2_ic (by walk_at "cond") (by walk_at "fls"))
  | ((with_reducible show Op2 _ (fun x y H Q => rI0 _ x y H Q ∨ _) _ _ _); refine o2_l (o2_i (by walk_at "fls")))
  | with_reducible exact o2_l o2_eqI | with_reducible exact o2_l o2_neI
  | with_reducible exact o2_l o2_eqS | with_reducible exact o2_l o2_neS
  | with_reducible exact o2_l o2_eqB | with_reducible exact o2_l o2_neB
  | walk_at "eqs"
  | exact o2_l (o2_eqF rfl rfl rfl) | exact o2_l (o2_neF rfl rfl rfl))
local macro_rules | `(tactic| walk_at "kit") => `(tactic| first
  | exact kit_NoneType_int
  | exact kit_NoneType_bool
  | exact kit_NoneType_str
  | exact kit_NoneType_list
  | exact kit_NoneType_tuple
  | exact kit_NoneType_dict
  | exact kit_bool_int
  | exact kit_bool_bool
  | exact kit_bool_str
  | exact kit_bool_list
  | exact kit_bool_tuple
  | exact kit_bool_dict
  | exact kit_int_int
  | exact kit_int_bool
  | exact kit_int_str
  | exact kit_int_list
  | exact kit_int_tuple
  | exact kit_int_dict
  | exact kit_str_int
  | exact kit_str_bool
  | exact kit_str_str
  | exact kit_str_list
  | exact kit_str_tuple
  | exact kit_str_dict
  | exact kit_list_int
  | exact kit_list_bool
  | exact kit_list_str
  | exact kit_list_list
  | exact kit_list_tuple
  | exact kit_list_dict
  | exact kit_tuple_int
  | exact kit_tuple_bool
  | exact kit_tuple_str
  | exact kit_tuple_list
  | exact kit_tuple_tuple
  | exact kit_tuple_dict
  | exact kit_dict_int
  | exact kit_dict_bool
  | exact kit_dict_str
  | exact kit_dict_list
  | exact kit_dict_tuple
  | exact kit_dict_dict)
local macro_rules | `(tactic| walk_at "cb") => `(tactic| first
  | with_reducible exact cb_int | with_reducible exact cb_abs | with_reducible exact cb_lenL | with_reducible exact cb_lenT | with_reducible exact cb_lenS
  | with_reducible exact cb_max2 | with_reducible exact cb_min2
  | ((with_reducible show Cb _ (rIsi _) _ _); refine cb_isi rfl (by walk_at "kit")))
local macro_rules | `(tactic| walk_at "aeL") => `(tactic| first
  | ((with_reducible show AE _ (tVar _) _ _); exact ae_varL rfl (by walk_at "allsh"))
  | refine AE.list (by walk_at "aeF"))
local macro_rules | `(tactic| walk_at "allsh") => `(tactic| first | rfl | assumption | exact allsh_enc (fun a => by first | rfl | (cases a <;> rfl)) _ | (simp only [List.all_map]; simp [isSh]))
local macro_rules | `(tactic| walk_at "lens") => `(tactic| first | (show _ ≤ 1000000; decide) | (simp only [List.length_cons, List.length_nil]; omega) | (simp only [List.length_map, List.length_append, List.length_cons, List.length_nil]; omega))
local macro_rules | `(tactic| walk_at "aeF") => `(tactic| first
  | with_reducible exact ae_int | with_reducible exact ae_bl | with_reducible exact ae_non | with_reducible exact ae_str
  | ((with_reducible show AE _ (tVar _) _ _); refine ae_var rfl (by first | rfl | assumption))
  | ((with_reducible show AE _ (tC (.ty _)) _ _); exact ae_c fun _ => .ty)
  | ((with_reducible show AE _ (tOp (rIxU _) _ _) _ _); first
      | refine ae_ixS (by walk_at "aeV") (by walk_at "aeV") (by walk_at "ix")
      | refine ae_ixL (by walk_at "aeL") (by walk_at "aeV") (by walk_at "ix")
      | refine ae_ixT (by walk_at "aeF") (by walk_at "aeV") (by walk_at "ix"))
  | ((with_reducible show AE _ (tOp (fun x y H Q => y = .non ∧ _) _ _) _ _); first | refine ae_isN (by walk_at "aeV") | refine ae_notN (by walk_at "aeV"))
  | ((with_reducible show AE _ (tOp _ _ _) _ _); refine ae_opF (by walk_at "aeV") (by walk_at "aeV") (by walk_at "op") rfl)
  | ((with_reducible show AE _ (tUn _ _) _ _); refine ae_u (by walk_at "aeV") (by walk_at "fls"))
  | ((with_reducible show AE _ (tCall _ _ _ _) _ _); refine ae_callF (by walk_at "aaF") (by walk_at "pre") (by walk_at "post") rfl)
  | ((with_reducible show AE _ (tCallK _ _ _ _ _) _ _); refine ae_callKF (by walk_at "aaF") (by walk_at "aaF") rfl rfl (by walk_at "pre") (by walk_at "post") rfl)
  | ((with_reducible show AE _ (tCB _ _) _ _); refine ae_cbF (by walk_at "aaV") (by walk_at "cb") rfl)
  | ((with_reducible show AE _ (tAndV _ _) _ _); refine ae_andV (by walk_at "aeV") (by (walk_at "hyp"; walk_at "aeV")))
  | ((with_reducible show AE _ (tOrV _ _) _ _); refine ae_orV (by walk_at "aeV") (by (walk_at "hyp"; walk_at "aeV")))
  | ((with_reducible show AE _ (tNotV _) _ _); refine ae_notV (by walk_at "aeV"))
  | ((with_reducible show AE _ (tTup _) _ _); refine ae_tup (by walk_at "aaF") (by walk_at "lens")))
local macro_rules | `(tactic| walk_at "aeV") => `(tactic| first
  | refine AE.view (by walk_at "aeF")
  | ((with_reducible show AE _ (tVar _) _ _); first | exact (ae_varV rfl).isV (by rw [fz, fzs_enc (fun a => by first | rfl | (cases a <;> rfl))]) | exact (ae_varV rfl).isV (by simp only [fz, fzs]) | exact ae_varV rfl)
  | refine AE.viewO (by walk_at "aeN"))
local macro_rules | `(tactic| walk_at "aeN") => `(tactic|
  ((with_reducible show AE _ (tLst _) _ _); refine ae_lst (by walk_at "aaF") (by walk_at "lens")))
local macro_rules | `(tactic| walk_at "aeN") => `(tactic|
  ((with_reducible show AE _ (tCall _ _ _ _) _ _); refine ae_callD (by walk_at "aaF") (by walk_at "pre") (by walk_at "post")))
local macro_rules | `(tactic| walk_at "aeN") => `(tactic| first
  | ((with_reducible show AE _ (tCB _ (tCons _ tNil)) _ _); refine ae_cbL (by walk_at "aeT") (by walk_at "cbL"))
  | ((with_reducible show AE _ (tOp _ _ _) _ _); refine ae_op2L (by walk_at "aeT") (by walk_at "aeT") (by walk_at "opL")))
local macro_rules | `(tactic| walk_at "cbL") => `(tactic| first | with_reducible exact cbL_list | with_reducible exact cbL_tuple)
local macro_rules | `(tactic| walk_at "opL") => `(tactic| first | exact o2L_cat (by walk_at "lens") | exact o2L_r (o2L_l (o2L_cat (by walk_at "lens"))))
local macro_rules | `(tactic| walk_at "aeT") => `(tactic| first
  | ((with_reducible show AE _ (tVar _) _ _); exact ae_varT rfl (by walk_at "allsh"))
  | exact AE.listO (by walk_at "aeN") (by walk_at "allsh")
  | refine AE.listT (by walk_at "aeF"))
local macro_rules | `(tactic| walk_at "aeO") => `(tactic| first
  | walk_at "aeN"
  | refine AE.own (by walk_at "aeF"))
local macro_rules | `(tactic| walk_at "aeZ") => `(tactic| first
  | walk_at "aeF"
  | exact (AE.frz (by walk_at "aeN")).isF (by walk_at "fz"))
local macro_rules | `(tactic| walk_at "fz") => `(tactic| first | (rw [fz, fzs_enc (fun a => by first | rfl | (cases a <;> rfl))]) | (simp only [fz, fzs_eq, List.map_map, List.map_cons, List.map_nil]; rfl))
local macro_rules | `(tactic| walk_at "aaF") => `(tactic| first
  | with_reducible exact aa_nil
  | refine aa_cons (by walk_at "aeZ") (by walk_at "aaF"))
local macro_rules | `(tactic| walk_at "aaV") => `(tactic| first
  | with_reducible exact aa_nilV
  | refine aa_consV (by walk_at "aeV") (by walk_at "aaV"))
local macro_rules | `(tactic| walk_at "at") => `(tactic| first
  | ((with_reducible show AT _ (tAnd _ _) _ _); refine at_and (by walk_at "at") (by (walk_at "hyp"; walk_at "at")))
  | ((with_reducible show AT _ (tOr _ _) _ _); refine at_or (by walk_at "at") (by (walk_at "hyp"; walk_at "at")))
  | ((with_reducible show AT _ (tNot _) _ _); refine at_not (by walk_at "at"))
  | ((with_reducible show AT _ (tTest _) _ _); refine at_test (by walk_at "aeV"))
  | ((with_reducible show AT _ (tB _) _ _); refine at_B (by walk_at "aeV"))
  | refine at_tru (by walk_at "aeV"))
local macro_rules | `(tactic| walk_at "nrm") => `(tactic| (try simp only [List.set_cons_succ, List.set_cons_zero]))
local macro_rules | `(tactic| walk_at "hyp") => `(tactic| (intro hc; (try simp only [decide_eq_true_eq, decide_eq_false_iff_not, Bool.and_eq_true, Bool.or_eq_false_iff, Bool.not_eq_true', Bool.not_eq_false', Bool.or_eq_true, Bool.and_eq_false_iff, Bool.not_true, Bool.not_false, Bool.false_eq_true, Bool.true_eq_false, reduceCtorEq] at hc)))
local macro_rules | `(tactic| walk_at "as1") => `(tactic| first
  | ((with_reducible show AS _ _ _ (tSeq _ _) _ _); refine as_seq ?_)
  | ((with_reducible show AS _ _ _ (tAsg _ (gName _)) _ _); refine as_set (by walk_at "aeO") rfl (by simp) ?_; walk_at "nrm")
  | ((with_reducible show AS _ _ _ (tIfS _ _ _) _ _); refine as_if (by walk_at "at") ?_ ?_ <;> walk_at "hyp")
  | ((with_reducible show AS _ _ _ (tRet _) _ _); first | refine as_ret (by walk_at "aeO") ?_ | refine as_retv rfl ?_)
  | ((with_reducible show AS _ _ _ (tDrop (tBM _ _ rAppend (tVar _) _)) _ _); refine as_append0 rfl (by walk_at "aeO") (by walk_at "lens") ?_; walk_at "nrm")
  | ((with_reducible show AS _ _ _ tNext _ _); refine as_next ?_)
  | ((with_reducible show AS _ _ _ tBreak _ _); refine as_break ?_)
  | ((with_reducible show AS _ _ _ tCont _ _); refine as_cont ?_))
local macro_rules | `(tactic| walk_at "as") => `(tactic| repeat' (walk_at "as1"))
local macro_rules | `(tactic| walk_at "start") => `(tactic| dsimp only [cxOf, Cx.nox, Cx.wish, Cx.blk, List.map])
local macro_rules | `(tactic| walk_at "chk") => `(tactic| (refine as_ifF (by walk_at "at") ?_ ?_; rotate_left; refine as_next ?_; (try dsimp only); rotate_left))
local macro_rules | `(tactic| walk_at "ait") => `(tactic| first
  | ((with_reducible show AIt _ (iSeqU _ _) _ _); first | refine ait_listU (by walk_at "aeZ") | refine ait_tupU (by walk_at "aeZ"))
  | ((with_reducible show AIt _ (iRng1 _) _ _); refine ait_range (by walk_at "aaV") (by constructor <;> omega))
  | ((with_reducible show AIt _ (iRng2 _) _ _); refine ait_range2 (by walk_at "aaV") (by omega))
  | ((with_reducible show AIt _ (iEnum _ _) _ _); refine ait_enum (by walk_at "aeZ"))
  | ((with_reducible show AIt _ (iZip _ _) _ _); refine ait_zip (by walk_at "aeZ") (by walk_at "aeZ")))
local macro_rules | `(tactic| walk_at "gw") => `(tactic| first
  | exact gw_name (by simp)
  | (refine gw_tup ?_; repeat (first | exact gws_nil | refine gws_cons (by simp) ?_)))
local macro_rules | `(tactic| walk_at "ag") => `(tactic| first
  | ((with_reducible show AG _ _ (gName _) _ _ _); refine ag_name rfl (by simp) ?_; (try simp only [List.set_cons_succ, List.set_cons_zero]))
  | ((with_reducible show AG _ _ (gTup _ _ _) _ _ _); refine ag_tup rfl ?_; repeat (first | refine ags_nil ?_ | (refine ags_cons (ag_name rfl (by simp) ?_); (try simp only [List.set_cons_succ, List.set_cons_zero])))))

section
variable {P : Program} {w : World} {K : PySem.W.Frag} {mg : Str → Option Value} {base : Heap}





abbrev s_law : Stmt := top 7
abbrev N_law : List Str := ["_law_script", "_law_shape", "_law_k", "_law_outs", "_law_out", "_law_room", "_law_sums", "_law_given", "_law_depth", "_law_count", "_law_due", "_law_rank"]
abbrev A_law : List Str := ["_law_script"]
theorem sc_law : FnScope N_law A_law (defScope s_law) := ⟨rfl, rfl, rfl, by decide +kernel, rfl, by decide +kernel, by decide +kernel⟩
theorem bp_law : BindsP "law" "law" s_law A_law := fun _ _ _ _ _ _ us hl => match us, hl with | [_], _ => rfl

theorem pre_lw_l {n : Int} {fs : List Int} {R : Int} (h : Outs fs) (h0 : 0 ≤ n) (h1 : n ≤ 1000) (h2 : 1 ≤ R) (h3 : R ≤ 100) : pre_lw [.int n, .lst (fs.map .int), .int R] := ⟨n, fs, R, .inl rfl, h, h0, h1, h2, h3⟩
theorem pre_lw_t {n : Int} {fs : List Int} {R : Int} (h : Outs fs) (h0 : 0 ≤ n) (h1 : n ≤ 1000) (h2 : 1 ≤ R) (h3 : R ≤ 100) : pre_lw [.int n, .tup (fs.map .int), .int R] := ⟨n, fs, R, .inr rfl, h, h0, h1, h2, h3⟩
theorem post_lw_l {n : Int} {fs : List Int} {R : Int} : ∀ x, post_lw [.int n, .lst (fs.map .int), .int R] x → x = .int (lwGo fs R n.toNat).1 := fun x h => h n fs R (.inl rfl)
theorem post_lw_t {n : Int} {fs : List Int} {R : Int} : ∀ x, post_lw [.int n, .tup (fs.map .int), .int R] x → x = .int (lwGo fs R n.toNat).1 := fun x h => h n fs R (.inr rfl)
local macro_rules | `(tactic| walk_at "pre") => `(tactic| first
  | exact pre_draws_mk (by omega) (by omega) (by omega)
  | exact pre_is_mk
  | exact pre_cs_mk (by assumption) (by omega) (by omega)
  | exact pre_cap_l (by assumption) (by omega) (by omega) (by omega) (by omega)
  | exact pre_cap_t (by assumption) (by omega) (by omega) (by omega) (by omega)
  | exact pre_lw_l (by assumption) (by omega) (by omega) (by omega) (by omega)
  | exact pre_lw_t (by assumption) (by omega) (by omega) (by omega) (by omega))
local macro_rules | `(tactic| walk_at "post") => `(tactic| first
  | exact post_draws_is | exact post_is_is | exact post_cs_is | exact post_cap_l | exact post_cap_t | exact post_lw_l | exact post_lw_t)
theorem capsL_get {fs : List Int} {R : Int} {j : Int} (h0 : 0 ≤ j) (h1 : j < 310) : atI ((capsL fs R 310).map D.int) j = some (.int (cap fs R j.toNat)) := by
  obtain ⟨i, rfl⟩ := Int.eq_ofNat_of_zero_le h0
  apply atI_nat
  rw [List.getElem?_map, capsL, List.getElem?_map, List.getElem?_range (by omega)]
  rfl
theorem lw_zero {fs : List Int} {R : Int} (h : Outs fs) (hR : 1 ≤ R) : ∀ i : Nat, (i : Int) ≤ R → lwGo fs R i = (0, 0)
  | 0, _ => rfl
  | i + 1, hi => by
    have e := lw_zero h hR i (by omega)
    unfold lwGo
    rw [e, if_neg (show ¬ cap fs R 0 ≤ (i : Int) by show ¬ R ≤ (i : Int); omega)]
    rfl
theorem lw_one {fs : List Int} {R : Int} (h : Outs fs) (hR : 1 ≤ R) : (lwGo fs R (R + 1).toNat).1 = 1 := by
  obtain ⟨r, rfl⟩ := Int.eq_ofNat_of_zero_le (show 0 ≤ R by omega)
  have e := lw_zero h hR r (Int.le_refl _)
  have e2 : ((r : Int) + 1).toNat = r + 1 := by omega
  rw [e2]
  unfold lwGo
  rw [e, if_pos (show cap fs (r : Int) 0 ≤ (r : Int) from Int.le_refl _)]
  rfl
theorem ok_law {f0 : Addr} {fd0 : FuncData} (F0 : FunD K "law" "law" (defArgs s_law) (defBody s_law) (defScope s_law) [] [] f0 fd0) (B : Blt mg) (D_law_draws : Df P w K mg base CX0 1 "_law_draws" A_law_draws (spP K pre_draws post_draws noX))
    (D_capacity : DfK P w K mg base CX0 1 "capacity" A_capacity ["room"] 2 (spP K pre_cap post_cap noX)) (D_least_build_writes : DfK P w K mg base CX0 1 "least_build_writes" A_least_build_writes ["room"] 2 (spP K pre_lw post_lw noX))
    (D_law_capacities : Df P w K mg base CX0 1 "_law_capacities" A_law_capacities (spP K pre_cs post_cs noX)) (D_law_is : Df P w K mg base CX0 1 "_law_is" A_law_is (spP K pre_is post_is noX)) : FnOk P w K mg base CX0 2 f0 fd0 A_law (spLaw K) := by
  refine lw_of F0 sc_law spLaw_len fun f cdv A outer s H vs Q E hr hsp => ⟨_, (pss_cons (ps_set (i := 1) sc_law.nd rfl (Or.inr rfl) (px_call D_law_draws (hr.mono (by decide)) rfl (pa_cons (pv 0) (pa_cons pe_int (pa_cons pe_int pa_nil)))))
      (pss_cons (ps_setLc (i := 3) (own := [("_law_k", 2)]) (g := (gName 2)) (tt := tYes)  rfl sc_law.nd rfl rfl (sw_true rfl rfl rfl (by decide +kernel)) (pi_range1 rfl B.range (pa_cons (pe_op op_mod (pe_callTy call_intU (by rfl) B.int (by decide +kernel) (pa_cons (pe_ix ixU (pv 1) pe_int (fun _ _ => rfl)) pa_nil)) pe_int) pa_nil)) (blkOk_by (own := [("_law_k", 2)]) (N := N_law) (sc := defScope s_law) (by decide +kernel)) (fun _ _ _ _ _ => (pg_name (i := 2) sc_law.nd rfl (Or.inl rfl))) (fun _ _ _ _ _ => pts_nil) (fun _ _ _ _ _ => (pe_op (opAddK (K := K) rfl) pe_int (pe_op op_mod (pe_callTy call_intU (by rfl) B.int (by decide +kernel) (pa_cons (pe_ix (ixUK (K := K) rfl) (pv 1) (pe_op (opAddK (K := K) rfl) pe_int (pv 2)) (fun _ _ => rfl)) pa_nil)) pe_int))))
      (pss_cons (ps_if (pt_cmpR (opEq hr.units) (pe_op op_mod (pe_callTy call_intU (by rfl) B.int (by decide +kernel) (pa_cons (pe_ix ixU (pv 1) pe_int (fun _ _ => rfl)) pa_nil)) pe_int) pe_int (nomark _)) (pss_one (ps_setLc (i := 3) (own := [("_law_out", 4)]) (g := (gName 4)) (tt := tYes)  rfl sc_law.nd rfl rfl (sw_true rfl rfl rfl (by decide +kernel)) (pi_seqU (pv 3)) (blkOk_by (own := [("_law_out", 4)]) (N := N_law) (sc := defScope s_law) (by decide +kernel)) (fun _ _ _ _ _ => (pg_name (i := 4) sc_law.nd rfl (Or.inl rfl))) (fun _ _ _ _ _ => pts_nil) (fun _ _ _ _ _ => (pe_op (opAddK (K := K) rfl) pe_int (pe_op op_mod (pv 4) pe_int))))) pss_nil)
      (pss_cons (ps_set (i := 5) sc_law.nd rfl (Or.inl rfl) (pe_op opAdd pe_int (pe_op op_mod (pe_callTy call_intU (by rfl) B.int (by decide +kernel) (pa_cons (pe_ix ixU (pv 1) pe_int (fun _ _ => rfl)) pa_nil)) pe_int)))
      (pss_cons (ps_if (pt_cmpR (opEq hr.units) (pe_op op_mod (pe_callTy call_intU (by rfl) B.int (by decide +kernel) (pa_cons (pe_ix ixU (pv 1) pe_int (fun _ _ => rfl)) pa_nil)) pe_int) pe_int (nomark _)) (pss_one (ps_set (i := 5) sc_law.nd rfl (Or.inl rfl) (pe_op opAdd pe_int (pe_op op_mod (pe_callTy call_intU (by rfl) B.int (by decide +kernel) (pa_cons (pe_ix ixU (pv 1) pe_int (fun _ _ => rfl)) pa_nil)) pe_int)))) pss_nil)
      (pss_cons (ps_set (i := 6) sc_law.nd rfl (Or.inl rfl) (px_call D_law_capacities (hr.mono (by decide)) rfl (pa_cons (pv 3) (pa_cons (pv 5) pa_nil))))
      (pss_cons (ps_set (i := 7) sc_law.nd rfl (Or.inl rfl) (pe_callTy call_listU (by rfl) B.list (by decide +kernel) (pa_cons (pv 3) pa_nil)))
      (pss_cons (ps_for PassesOwn.never rfl (pi_range1 rfl B.range (pa_cons pe_int pa_nil)) (pg_name (i := 8) sc_law.nd rfl (Or.inl rfl)) (pss_cons (ps_if (pt_not (pt_truU (px_call D_law_is (hr.mono (by decide)) rfl (pa_cons (px_callK D_capacity (hr.mono (by decide)) rfl (pa_cons (pv 7) (pa_cons (pv 8) pa_nil)) (pk_cons (pv 5) pk_nil)) (pa_cons (pe_ix ixU (pv 6) (pv 8) (fun _ _ => rfl)) pa_nil))))) (pss_one (ps_ret pe_bl)) pss_nil)
      (pss_one (ps_if (pt_not (pt_truU (px_call D_law_is (hr.mono (by decide)) rfl (pa_cons (px_callK D_capacity (hr.mono (by decide)) rfl (pa_cons (pe_callTy call_tupleU (by rfl) B.tuple (by decide +kernel) (pa_cons (pv 3) pa_nil)) (pa_cons (pv 8) pa_nil)) (pk_cons (pv 5) pk_nil)) (pa_cons (pe_ix ixU (pv 6) (pv 8) (fun _ _ => rfl)) pa_nil))))) (pss_one (ps_ret pe_bl)) pss_nil))))
      (pss_cons (ps_set (i := 9) sc_law.nd rfl (Or.inl rfl) (pe_op op_mod (pe_callTy call_intU (by rfl) B.int (by decide +kernel) (pa_cons (pe_ix ixU (pv 1) pe_int (fun _ _ => rfl)) pa_nil)) pe_int))
      (pss_cons (ps_set (i := 10) sc_law.nd rfl (Or.inl rfl) pe_int)
      (pss_cons (ps_set (i := 8) sc_law.nd rfl (Or.inl rfl) pe_int)
      (pss_cons (ps_for PassesOwn.never rfl (pi_range1 rfl B.range (pa_cons (pv 9) pa_nil)) (pg_name (i := 11) sc_law.nd rfl (Or.inl rfl)) (pss_cons (ps_if (pt_cmpR op_ge (pv 11) (pe_ix ixU (pv 6) (pv 8) (fun _ _ => rfl)) (nomark _)) (pss_one (ps_set (i := 8) sc_law.nd rfl (Or.inl rfl) (pe_op opAdd (pv 8) pe_int))) pss_nil)
      (pss_one (ps_set (i := 10) sc_law.nd rfl (Or.inl rfl) (pe_op opAdd (pv 10) (pv 8))))))
      (pss_cons (ps_if (PW.pt (pw_or (pt_not (pt_truU (px_call D_law_is (hr.mono (by decide)) rfl (pa_cons (px_callK D_least_build_writes (hr.mono (by decide)) rfl (pa_cons (pv 9) (pa_cons (pv 7) pa_nil)) (pk_cons (pv 5) pk_nil)) (pa_cons (pv 10) pa_nil))))) (pw_or1 (pt_cmpR (opNe hr.units) (pv 7) (pv 3) (nomark _))))) (pss_one (ps_ret pe_bl)) pss_nil)
      (pss_cons (ps_if (pt_not (pt_truU (px_call D_law_is (hr.mono (by decide)) rfl (pa_cons (px_callK D_least_build_writes (hr.mono (by decide)) rfl (pa_cons (pe_ix ixU (pv 6) pe_int (fun _ _ => rfl)) (pa_cons (pv 3) pa_nil)) (pk_cons (pv 5) pk_nil)) (pa_cons pe_int pa_nil))))) (pss_one (ps_ret pe_bl)) pss_nil)
      (pss_one (ps_ret (px_call D_law_is (hr.mono (by decide)) rfl (pa_cons (px_callK D_least_build_writes (hr.mono (by decide)) rfl (pa_cons (pe_op opAdd (pe_ix ixU (pv 6) pe_int (fun _ _ => rfl)) pe_int) (pa_cons (pe_callTy call_tupleU (by rfl) B.tuple (by decide +kernel) (pa_cons (pv 3) pa_nil)) pa_nil)) (pk_cons (pv 5) pk_nil)) (pa_cons pe_int pa_nil))))))))))))))))))), fn_P hsp fun args hp _ => ?_⟩
  obtain ⟨ns, rfl, _⟩ := hp
  show AS _ _ _ _ [some _, none, none, none, none, none, none, none, none, none, none, none] _
  walk_at "start"
  walk_at "as1"
  walk_at "as1"
  have l8 := draws_length ns 0 8
  have o8 := draws_ok ns 0 8
  obtain ⟨a0, a1, a2, a3, a4, a5, a6, a7, e8⟩ : ∃ a0 a1 a2 a3 a4 a5 a6 a7, draws ns 0 8 = [a0, a1, a2, a3, a4, a5, a6, a7] := by
    match h : draws ns 0 8, l8 with
    | [a0, a1, a2, a3, a4, a5, a6, a7], _ => exact ⟨a0, a1, a2, a3, a4, a5, a6, a7, rfl⟩
  rw [e8] at o8
  simp only [List.mem_cons, List.not_mem_nil, or_false, forall_eq_or_imp, forall_eq] at o8
  simp only [e8, List.map_cons, List.map_nil]
  walk_at "as1"
  -- the fan-outs
  have hE : ∃ ys : List Int, ys.length = (a0 % 5).toNat ∧ Outs ys ∧ ∀ (i : Nat) (y : Int), ys[i]? = some y → atI [D.int a0, .int a1, .int a2, .int a3, .int a4, .int a5, .int a6, .int a7] (1 + (0 + (i : Int))) = some (.int (y - 1 + 64 * ((([a1, a2, a3, a4].getD i 0)) / 64))) ∧ y = 1 + ([a1, a2, a3, a4].getD i 0) % 64 := by
    refine ⟨(List.range (a0 % 5).toNat).map fun i => 1 + ([a1, a2, a3, a4].getD i 0) % 64, by simp, ⟨by simp; omega, ?_⟩, ?_⟩
    · intro f hf
      obtain ⟨i, _, rfl⟩ := List.mem_map.mp hf
      omega
    · intro i y hy
      obtain ⟨x, hx, rfl⟩ := get_map hy
      have hi : i < (a0 % 5).toNat := by
        have := (List.getElem?_eq_some_iff.mp hx).1
        simpa using this
      rw [List.getElem?_range hi] at hx
      cases hx
      refine ⟨?_, rfl⟩
      have e : ∀ x : Int, 1 + x % 64 - 1 + 64 * (x / 64) = x := fun x => by omega
      rw [e]
      match i, hi with
      | 0, _ => rfl
      | 1, _ => rfl
      | 2, _ => rfl
      | 3, _ => rfl
      | i + 4, hi => omega
  obtain ⟨ys, hl, hO, hy⟩ := hE
  refine as_set (AE.own ((AE.frz (ae_lcM (ys := ys.map .int) (by walk_at "ait") (by walk_at "gw") ?_ ?_ ?_)).isF (by walk_at "fz"))) rfl (by simp) ?_
  · rw [rangeD_length, List.length_map, hl]
  · intro i d y hd hy'
    obtain ⟨hi, rfl⟩ := rangeD_get hd
    obtain ⟨y, hz, e0⟩ := get_map hy'
    subst e0
    obtain ⟨hx, e⟩ := hy i y hz
    try dsimp only [wipeE]
    walk_at "nrm"
    walk_at "ag"
    refine AE.isO (by walk_at "aeO") ?_
    rw [e]
    congr 1
    omega
  · rw [rangeD_length]; omega
  walk_at "nrm"
  try dsimp only [wipeE]
  walk_at "nrm"
  clear hl hy
  walk_at "as1"
  refine as_join (fun env => ∃ (fs : List Int) (o : Option D), Outs fs ∧ env = [some (.scr ns), some (.olst [.int a0, .int a1, .int a2, .int a3, .int a4, .int a5, .int a6, .int a7]), none, some (.lst (fs.map .int)), o, none, none, none, none, none, none, none]) ?_ ?_
  · walk_at "as1"
    · have hO2 : Outs (ys.map fun f => 1 + f % 3) := ⟨by rw [List.length_map]; exact hO.1, by
        intro f hf
        obtain ⟨g, _, rfl⟩ := List.mem_map.mp hf
        omega⟩
      have hl : ys.length < 1000000 := by have := hO.1; omega
      refine as_set (AE.own ((AE.frz (ae_lcM (ys := (ys.map fun f => 1 + f % 3).map .int) (by walk_at "ait") (by walk_at "gw") ?_ ?_ ?_)).isF (by walk_at "fz"))) rfl (by simp) ?_
      · simp only [List.length_map]
      · intro i d y hd hy'
        obtain ⟨x, hx, e0⟩ := get_map hd
        subst e0
        rw [List.map_map, List.getElem?_map, hx] at hy'
        cases hy'
        try dsimp only [wipeE]
        walk_at "nrm"
        walk_at "ag"
        walk_at "aeO"
      · rw [List.length_map]; exact hl
      walk_at "nrm"
      try dsimp only [wipeE]
      walk_at "nrm"
      exact ⟨_, none, hO2, rfl⟩
    · walk_at "as"
      exact ⟨_, none, hO, rfl⟩
  rintro _ ⟨fs, o, hfs, rfl⟩
  clear hO
  clear ys
  walk_at "as1"
  walk_at "as1"
  walk_at "as1"
  refine as_join (fun env => ∃ R : Int, 1 ≤ R ∧ R ≤ 100 ∧ env = [some (.scr ns), some (.olst [.int a0, .int a1, .int a2, .int a3, .int a4, .int a5, .int a6, .int a7]), none, some (.lst (fs.map .int)), o, some (.int R), none, none, none, none, none, none]) ?_ ?_
  · walk_at "as1"
    · walk_at "as"
      exact ⟨_, by omega, by omega, rfl⟩
    · walk_at "as"
      exact ⟨_, by omega, by omega, rfl⟩
  rintro _ ⟨R, hR1, hR2, rfl⟩
  walk_at "as1"
  refine as_set (ae_callD (by walk_at "aaF") (by walk_at "pre") (by walk_at "post")) rfl (by simp) ?_
  walk_at "nrm"
  have hcs := @capsL_get fs R
  generalize capsL fs R 310 = cs at *
  walk_at "as1"
  have hlen : fs.length < 1000000 := by have := hfs.1; omega
  refine as_set (AE.own ((AE.frz (by walk_at "aeN")).isF (by walk_at "fz"))) rfl (by simp) ?_
  walk_at "nrm"
  walk_at "as1"
  refine as_for (by walk_at "ait") (fun i env => ∃ o2, env = [some (.scr ns), some (.olst [.int a0, .int a1, .int a2, .int a3, .int a4, .int a5, .int a6, .int a7]), none, some (.lst (fs.map .int)), o, some (.int R), some (.olst (cs.map .int)), some (.lst (fs.map .int)), o2, none, none, none]) ⟨none, rfl⟩ ?_ ?_
  · rintro i d _ hd ⟨o2, rfl⟩
    obtain ⟨hi, rfl⟩ := rangeD_get hd
    have hi' : i < 10 := hi
    have hx := hcs (j := 0 + (i : Int)) (by omega) (by omega)
    walk_at "ag"
    walk_at "as1"
    walk_at "chk"
    · simp
    walk_at "chk"
    · simp
    exact ⟨_, rfl⟩
  rintro _ ⟨o2, rfl⟩
  walk_at "as1"
  walk_at "as1"
  walk_at "as1"
  walk_at "as1"
  walk_at "as1"
  walk_at "as1"
  walk_at "as1"
  have hn : 0 ≤ a6 % 301 ∧ a6 % 301 ≤ 300 := by omega
  generalize a6 % 301 = n at *
  refine as_for (by walk_at "ait") (fun i env => ∃ o2, env = [some (.scr ns), some (.olst [.int a0, .int a1, .int a2, .int a3, .int a4, .int a5, .int a6, .int a7]), none, some (.lst (fs.map .int)), o, some (.int R), some (.olst (cs.map .int)), some (.lst (fs.map .int)), some (.int (lwGo fs R i).2), some (.int n), some (.int (lwGo fs R i).1), o2]) ⟨none, rfl⟩ ?_ ?_
  · rintro i d _ hd ⟨o2, rfl⟩
    obtain ⟨hi, rfl⟩ := rangeD_get hd
    have e1 : (lwGo fs R (i + 1)).1 = (lwGo fs R i).1 + ((lwGo fs R (i + 1)).2 : Int) := rfl
    have e2 : (lwGo fs R (i + 1)).2 = (if cap fs R (lwGo fs R i).2 ≤ (i : Int) then (lwGo fs R i).2 + 1 else (lwGo fs R i).2) := rfl
    rw [e1]
    revert e2
    have hdp := lw_le fs R i
    generalize (lwGo fs R (i + 1)).2 = dep2
    generalize (lwGo fs R i).2 = dep at *
    generalize (lwGo fs R i).1 = wr at *
    intro e2
    have hx := hcs (j := (dep : Int)) (by omega) (by omega)
    rw [Int.toNat_natCast] at hx
    walk_at "ag"
    walk_at "as1"
    refine as_join (fun env => env = [some (.scr ns), some (.olst [.int a0, .int a1, .int a2, .int a3, .int a4, .int a5, .int a6, .int a7]), none, some (.lst (fs.map .int)), o, some (.int R), some (.olst (cs.map .int)), some (.lst (fs.map .int)), some (.int dep2), some (.int n), some (.int wr), some (.int (0 + i))]) ?_ ?_
    · walk_at "as1"
      · rename_i hc
        rw [if_pos (by omega)] at e2
        subst e2
        walk_at "as"
        rfl
      · rename_i hc
        rw [if_neg (by omega)] at e2
        subst e2
        walk_at "as"
        rfl
    · rintro _ rfl
      walk_at "as"
      exact ⟨_, rfl⟩
  rintro _ ⟨o2, rfl⟩
  rw [rangeD_length]
  walk_at "as1"
  walk_at "chk"
  · simp
  have hx := hcs (j := 0) (by omega) (by omega)
  have hx : atI (cs.map D.int) 0 = some (.int R) := hx
  walk_at "as1"
  walk_at "chk"
  · simp [lw_zero hfs hR1 R.toNat (by omega)]
  walk_at "as1"
  show D.bl _ = .bl true
  simp [lw_one hfs hR1]
end
end Py

namespace Py
open PySem L2






section
variable {P : Program} {w : World} {K : PySem.W.Frag} {mg : Str → Option Value} {base : Heap}
theorem ok_all {f0 : Addr} {fd0 : FuncData} (D0 : DefAt K mg "_law_draws" "_law_draws" s_law_draws [] []) (D1 : DefAt K mg "capacity" "capacity" s_capacity [] []) (D2 : DefAt K mg "least_build_writes" "least_build_writes" s_least_build_writes [] []) (D3 : DefAt K mg "_law_capacities" "_law_capacities" s_law_capacities [] []) (D4 : DefAt K mg "_law_is" "_law_is" s_law_is [] [])
    (F0 : FunD K "law" "law" (defArgs s_law) (defBody s_law) (defScope s_law) [] [] f0 fd0) (B : Blt mg) : FnOk P w K mg base CX0 2 f0 fd0 A_law (spLaw K) :=
  ok_law F0 B (df_draws D0 B) (df_capacity D1 B) (df_lw D2 B) (df_cs D3 B) (df_is D4 B)
end
def dd_law_draws : He.DefD := ⟨("_law_draws", none), "_law_draws", "_law_draws", defArgs s_law_draws, defBody s_law_draws, defScope s_law_draws, [], []⟩
def dd_capacity : He.DefD := ⟨("capacity", none), "capacity", "capacity", defArgs s_capacity, defBody s_capacity, defScope s_capacity, [], []⟩
def dd_least_build_writes : He.DefD := ⟨("least_build_writes", none), "least_build_writes", "least_build_writes", defArgs s_least_build_writes, defBody s_least_build_writes, defScope s_least_build_writes, [], []⟩
def dd_law_capacities : He.DefD := ⟨("_law_capacities", none), "_law_capacities", "_law_capacities", defArgs s_law_capacities, defBody s_law_capacities, defScope s_law_capacities, [], []⟩
def dd_law_is : He.DefD := ⟨("_law_is", none), "_law_is", "_law_is", defArgs s_law_is, defBody s_law_is, defScope s_law_is, [], []⟩
def dd_law : He.DefD := ⟨("law", none), "law", "law", defArgs s_law, defBody s_law, defScope s_law, [], []⟩
def fnL : List He.DefD := [dd_law_draws, dd_capacity, dd_least_build_writes, dd_law_capacities, dd_law_is, dd_law]
def faL : List He.Fa := [.glo "_law_draws", .glo "capacity", .glo "least_build_writes", .glo "_law_capacities", .glo "_law_is", .glo "law", .free "len", .free "range", .free "abs", .free "int", .free "bool", .free "str", .free "list", .free "tuple", .free "isinstance"]
def nmL : List Str := (["capacity", "least_build_writes", "_law_draws", "_law_capacities", "_law_is"] : List Str)
abbrev lawAt : Nat := 7
theorem factsL {P : Program} {w : World} {K : PySem.W.Frag} {h : Heap} {mg : Str → Option Value} {f : Addr} (X : K.In h) (G : h.Ns mainGlobals mg) (hfa : mg ("law" : Str) = some (.ref f)) (c : He.SaysD faL fnL K) :
    ∃ fd : FuncData, (∀ (s : Shared) (v : Value), BindsTo s fd ⟨[v], []⟩ [("_law_script", v)]) ∧ ∀ base : Heap, K.In base → base.Ns mainGlobals mg → FnOk P w K mg base CX0 2 f fd A_law (spLaw K) := by
  have D_law_draws : DefAt K mg "_law_draws" "_law_draws" s_law_draws [] [] := by
    obtain ⟨fd, F⟩ := c.def_ 0 (d := dd_law_draws) rfl
    exact ⟨_, fd, F, He.glo_ok X G (c.fact 0 (f := .glo "_law_draws") rfl)⟩
  have D_capacity : DefAt K mg "capacity" "capacity" s_capacity [] [] := by
    obtain ⟨fd, F⟩ := c.def_ 1 (d := dd_capacity) rfl
    exact ⟨_, fd, F, He.glo_ok X G (c.fact 1 (f := .glo "capacity") rfl)⟩
  have D_least_build_writes : DefAt K mg "least_build_writes" "least_build_writes" s_least_build_writes [] [] := by
    obtain ⟨fd, F⟩ := c.def_ 2 (d := dd_least_build_writes) rfl
    exact ⟨_, fd, F, He.glo_ok X G (c.fact 2 (f := .glo "least_build_writes") rfl)⟩
  have D_law_capacities : DefAt K mg "_law_capacities" "_law_capacities" s_law_capacities [] [] := by
    obtain ⟨fd, F⟩ := c.def_ 3 (d := dd_law_capacities) rfl
    exact ⟨_, fd, F, He.glo_ok X G (c.fact 3 (f := .glo "_law_capacities") rfl)⟩
  have D_law_is : DefAt K mg "_law_is" "_law_is" s_law_is [] [] := by
    obtain ⟨fd, F⟩ := c.def_ 4 (d := dd_law_is) rfl
    exact ⟨_, fd, F, He.glo_ok X G (c.fact 4 (f := .glo "_law_is") rfl)⟩
  have B : Blt mg := ⟨He.free_ok X G (c.fact 6 (f := .free "len") rfl), He.free_ok X G (c.fact 7 (f := .free "range") rfl), He.free_ok X G (c.fact 8 (f := .free "abs") rfl), He.free_ok X G (c.fact 9 (f := .free "int") rfl), He.free_ok X G (c.fact 10 (f := .free "bool") rfl), He.free_ok X G (c.fact 11 (f := .free "str") rfl), He.free_ok X G (c.fact 12 (f := .free "list") rfl), He.free_ok X G (c.fact 13 (f := .free "tuple") rfl), He.free_ok X G (c.fact 14 (f := .free "isinstance") rfl)⟩
  obtain ⟨fdL, FL⟩ := c.def_ 5 (d := dd_law) rfl
  have e := hfa.symm.trans (He.glo_ok X G (c.fact 5 (f := .glo "law") rfl))
  cases e
  have b := FunD.bindsA (ps := A_law) FL bp_law
  refine ⟨fdL, fun s v => b s [v] rfl, fun base _ _ => ?_⟩
  exact ok_all (P := P) (w := w) (base := base) D_law_draws D_capacity D_least_build_writes D_law_capacities D_law_is FL B
abbrev RowL : PySem.W.OpenRow := PySem.W.OpenLaw.row PySem.Challenge.rw_anyhashes_k61_capacity_of_depths
abbrev hkL : PySem.W.Hook := He.hookD 6 faL fnL
def obL (s : PySem.W.SharedT) : He.AlD := He.obsDG 6 faL fnL (HandSHeadRun.getT s)
theorem obL_eq (s : PySem.W.SharedT) : obL s = hkL.obs s.abs := He.obsDG_eq (HandSHeadRun.getT_eq s)
theorem runL (w : World) : HandSHeadRun.RunEq RowL (PySem.W.view RowL.prog [lawAt]) hkL obL 600 nmL w := by
  intro os
  kernel_rfl
end Py
open PySem PySem.W PySem.Calls PyProof.Rows
theorem PySem.Challenge.cw_anyhashes_k61_capacity_of_depths_holds : PySem.Challenge.rw_anyhashes_k61_capacity_of_depths.Holds := by
  w_on; o_law
  refine HandSHeadRun.head_any (r := OpenLaw.row PySem.Challenge.rw_anyhashes_k61_capacity_of_depths) (q := view (OpenLaw.row PySem.Challenge.rw_anyhashes_k61_capacity_of_depths).prog [Py.lawAt]) (H := Py.hkL) (ob := Py.obL) (M := 600) (loose := Py.nmL) (d := HandSHeadRun.topDef (OpenLaw.row PySem.Challenge.rw_anyhashes_k61_capacity_of_depths).prog Py.lawAt) (kwd := []) Py.obL_eq
    (by kernel_rfl) (fun s => by kernel_rfl) Py.runL (by kernel_rfl) (by kernel_rfl) (by kernel_rfl) (by rfl) (by first | assumption | decide +kernel) (by decide +kernel) ⟨rfl, rfl, rfl, rfl, rfl, by decide +kernel⟩ ?hw ?hc
  case hw => w_witness2
  case hc =>
    refine L2.walk_ofE (l := PySem.Challenge.rw_anyhashes_k61_capacity_of_depths) (n := 63) (k := 2) (x := "_law_script") (CX := L2.CX0) rfl (by decide) (by kernel_rfl) ⟨rfl, by decide, by decide⟩ ?F (fun _ _ _ _ z => z)
    intro w mg fa h Y G hmg0
    obtain ⟨K, KX, c⟩ := Y
    have hmg : mg ("law" : PySem.Str) = some (.ref fa) := by
      have e : (HandSHeadRun.topDef (OpenLaw.row PySem.Challenge.rw_anyhashes_k61_capacity_of_depths).prog Py.lawAt).name = ("law" : PySem.Str) := by kernel_rfl
      rw [← e]
      exact hmg0
    obtain ⟨fd, hb, hF⟩ := Py.factsL (P := (PySem.Challenge.rw_anyhashes_k61_capacity_of_depths).prog) (w := w) KX G hmg c
    exact ⟨K, fd, Py.spLaw K, KX, hb, fun H a ns hl _ hS => Py.spLaw_in hl hS, hF⟩

